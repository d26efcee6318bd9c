import PyProof.Rows.All
import Wide.All
import OpenK.AllK
import Wide.FinOn
import HandS.ForMost
import HandS.TupAny
import HandS.TupLe
import HandS.IsInst
import HandS.Deep
import HandS.Wide
import HandS.Zip
import HandS.Exc
import HandS.ExcOwn
import HandS.WordsExc
import HandS.Lambda
import HandS.Style
import KE.GoesMore
import KE.SortData
import KE.SortKeyHeap
import HandS.SortKw
import HandS.EndTab
import HandS.TupSets
import HandS.TupMul
import HandS.Conv
import KE.DataMinMax
import PySem.Challenge.RW_whoknowswhen_k72_whole_blockers_of_compo
set_option Elab.async false
set_option linter.all false
set_option maxRecDepth 100000
set_option maxHeartbeats 4000000
/-! Pl: a plain layer over HandS: values are data trees, a def is a Lean function over an environment of data. -/
namespace Pl
open PySem PySem.Spec PyProof.Rows L2

/-! ### data in the heap -/
theorem same_t {K : PySem.W.Frag} {H H' : Hp} {a : Addr} {xs : List V} (e : Same H H') (h : SqT K H a xs) : SqT K H' a xs := by
  rcases h with (h | ⟨o, h⟩) | h
  · exact .inl (.inl (e _ _ h))
  · exact .inl (.inr ⟨o, e _ _ h⟩)
  · exact .inr h
/-! a value reads as data: as L2.Dp, but that a list is tracked (or known), never written at the top -/
mutual
inductive Dp (K : PySem.W.Frag) (H : Hp) : V → PyData → Prop
  | non : Dp K H .non .none
  | bl (b : Bool) : Dp K H (.bl b) (.bool b)
  | int (i : Int) : Dp K H (.int i) (.int i)
  | str (x : Str) : Dp K H (.str x) (.str x)
  | lst {a : Addr} {xs : List V} {ds : List PyData} : SqL K H a xs → DpAll K H xs ds → Dp K H (.ref a) (.list ds)
  | tup {a : Addr} {xs : List V} {ds : List PyData} : SqT K H a xs → DpAll K H xs ds → Dp K H (.ref a) (.tuple ds)
inductive DpAll (K : PySem.W.Frag) (H : Hp) : List V → List PyData → Prop
  | nil : DpAll K H [] []
  | cons {v : V} {vs : List V} {d : PyData} {ds : List PyData} : Dp K H v d → DpAll K H vs ds → DpAll K H (v :: vs) (d :: ds)
end
theorem rd_mono {H H' : Hp} {a : Addr} {u : HO} (e : Same H H') (h : Rd H a u) : Rd H' a u := by
  rcases h with h | ⟨o, h⟩
  · exact .inl (e _ _ h)
  · exact .inr ⟨o, e _ _ h⟩
mutual
theorem dp_mono {K : PySem.W.Frag} {H H' : Hp} (e : Same H H') : ∀ (d : PyData) (v : V), Dp K H v d → Dp K H' v d
  | .none, _, h => by cases h; exact .non
  | .bool b, _, h => by cases h; exact .bl b
  | .int i, _, h => by cases h; exact .int i
  | .str x, _, h => by cases h; exact .str x
  | .list ds, _, h => by
    cases h with
    | lst hs ha => exact .lst (e.seq hs) (dpa_mono e ds _ ha)
  | .tuple ds, _, h => by
    cases h with
    | tup hs ha => exact .tup (same_t e hs) (dpa_mono e ds _ ha)
  | .dict _, _, h => by cases h
theorem dpa_mono {K : PySem.W.Frag} {H H' : Hp} (e : Same H H') : ∀ (ds : List PyData) (vs : List V), DpAll K H vs ds → DpAll K H' vs ds
  | [], _, h => by cases h; exact .nil
  | d :: ds, _, h => by
    cases h with
    | cons h1 h2 => exact .cons (dp_mono e d _ h1) (dpa_mono e ds _ h2)
end
mutual
theorem dp_l2 {K : PySem.W.Frag} {H : Hp} : ∀ (d : PyData) (v : V), Dp K H v d → L2.Dp K H v d
  | .none, _, h => by cases h; exact .non
  | .bool b, _, h => by cases h; exact .bl b
  | .int i, _, h => by cases h; exact .int i
  | .str x, _, h => by cases h; exact .str x
  | .list ds, _, h => by
    cases h with
    | lst hs ha => exact .lst hs (dpa_l2 ds _ ha)
  | .tuple ds, _, h => by
    cases h with
    | tup hs ha => exact .tup hs (dpa_l2 ds _ ha)
  | .dict _, _, h => by cases h
theorem dpa_l2 {K : PySem.W.Frag} {H : Hp} : ∀ (ds : List PyData) (vs : List V), DpAll K H vs ds → L2.DpAll K H vs ds
  | [], _, h => by cases h; exact .nil
  | d :: ds, _, h => by
    cases h with
    | cons h1 h2 => exact .cons (dp_l2 d _ h1) (dpa_l2 ds _ h2)
end
theorem dpa_len {K : PySem.W.Frag} {H : Hp} : ∀ {ds : List PyData} {vs : List V}, DpAll K H vs ds → vs.length = ds.length
  | [], _, h => by cases h; rfl
  | d :: ds, _, h => by
    cases h with
    | cons h1 h2 => rw [List.length_cons, List.length_cons, dpa_len h2]
theorem dpa_get {K : PySem.W.Frag} {H : Hp} : ∀ {ds : List PyData} {vs : List V} {i : Nat} {v : V}, DpAll K H vs ds → vs[i]? = some v → ∃ d, ds[i]? = some d ∧ Dp K H v d
  | [], _, i, v, h, e => by cases h; simp at e
  | d :: ds, _, 0, v, h, e => by
    cases h with
    | cons h1 h2 =>
      simp at e
      subst e
      exact ⟨d, rfl, h1⟩
  | d :: ds, _, i + 1, v, h, e => by
    cases h with
    | cons h1 h2 =>
      obtain ⟨d', e1, e2⟩ := dpa_get (i := i) h2 (by simpa using e)
      exact ⟨d', by simpa using e1, e2⟩
theorem dpa_get' {K : PySem.W.Frag} {H : Hp} {ds : List PyData} {vs : List V} {i : Nat} {d : PyData} (h : DpAll K H vs ds) (e : ds[i]? = some d) : ∃ v, vs[i]? = some v ∧ Dp K H v d := by
  have hl := dpa_len h
  have hi : i < ds.length := (List.getElem?_eq_some_iff.mp e).1
  have hv : vs[i]? = some vs[i] := List.getElem?_eq_getElem (by omega)
  obtain ⟨d', e1, e2⟩ := dpa_get h hv
  rw [e] at e1
  cases e1
  exact ⟨_, hv, e2⟩
theorem dpa_app {K : PySem.W.Frag} {H : Hp} : ∀ {ds es : List PyData} {vs us : List V}, DpAll K H vs ds → DpAll K H us es → DpAll K H (vs ++ us) (ds ++ es)
  | [], _, _, _, h, h' => by cases h; exact h'
  | d :: ds, _, _, _, h, h' => by
    cases h with
    | cons h1 h2 => exact .cons h1 (dpa_app h2 h')
theorem dpa_take {K : PySem.W.Frag} {H : Hp} : ∀ {ds : List PyData} {vs : List V} (n : Nat), DpAll K H vs ds → DpAll K H (vs.take n) (ds.take n)
  | _, _, 0, _ => by simp; exact .nil
  | [], _, n + 1, h => by cases h; exact .nil
  | d :: ds, _, n + 1, h => by
    cases h with
    | cons h1 h2 => exact .cons h1 (dpa_take n h2)
theorem dpa_drop {K : PySem.W.Frag} {H : Hp} : ∀ {ds : List PyData} {vs : List V} (n : Nat), DpAll K H vs ds → DpAll K H (vs.drop n) (ds.drop n)
  | _, _, 0, h => h
  | [], _, n + 1, h => by cases h; exact .nil
  | d :: ds, _, n + 1, h => by
    cases h with
    | cons h1 h2 => exact dpa_drop n h2
theorem dpa_set {K : PySem.W.Frag} {H : Hp} {v : V} {d : PyData} (hd : Dp K H v d) : ∀ {ds : List PyData} {vs : List V} (n : Nat), DpAll K H vs ds → DpAll K H (vs.set n v) (ds.set n d)
  | [], _, _, h => by cases h; exact .nil
  | _ :: _, _, 0, h => by
    cases h with
    | cons h1 h2 => exact .cons hd h2
  | _ :: ds, _, n + 1, h => by
    cases h with
    | cons h1 h2 => exact .cons h1 (dpa_set hd n h2)
theorem dpa_ints {K : PySem.W.Frag} {H : Hp} : ∀ (ns : List Int) {vs : List V}, DpAll K H vs (ns.map PyData.int) → vs = ns.map V.int
  | [], _, h => by cases h; rfl
  | n :: ns, _, h => by
    cases h with
    | cons h1 h2 =>
      cases h1
      rw [dpa_ints ns h2]
      rfl
theorem dpa_of_ints {K : PySem.W.Frag} {H : Hp} : ∀ (ns : List Int), DpAll K H (ns.map V.int) (ns.map PyData.int)
  | [] => .nil
  | n :: ns => .cons (.int n) (dpa_of_ints ns)

/-! ### environments -/
inductive Sl where
  | un | va (d : PyData) | ow (k : Nat) (ds : List PyData)
abbrev En := List Sl
inductive Rv where
  | va (d : PyData) | sl (i : Nat) | nw (ds : List PyData)
structure Xc where
  cls : Nat
  arg : PyData
abbrev RM (α : Type) := Option (Except (Xc × En) (α × En))
def RM.bnd {α β : Type} (m : RM α) (g : α → En → RM β) : RM β :=
  match m with
  | none => none
  | some (.error e) => some (.error e)
  | some (.ok (r, ρ)) => g r ρ
def RM.ret {α : Type} (a : α) (ρ : En) : RM α := some (.ok (a, ρ))
theorem bnd_ok {α β : Type} (a : α) (ρ : En) (g : α → En → RM β) : RM.bnd (some (.ok (a, ρ))) g = g a ρ := rfl

/-- the frozen heap grows: what is protected and not frozen stays so -/
def Gro (Pr Hf Hf' : Hp) : Prop := Same Hf Hf' ∧ (∀ b o, Pr b = some o → Hf b = none → Hf' b = none) ∧ ∀ b ps, Hf' b = some (.tbl ps) → Hf b = some (.tbl ps)
theorem Gro.refl (Pr Hf : Hp) : Gro Pr Hf Hf := ⟨Same.refl Hf, fun _ _ _ h => h, fun _ _ h => h⟩
theorem Gro.trans {Pr Hf H1 H2 : Hp} (a : Gro Pr Hf H1) (b : Gro Pr H1 H2) : Gro Pr Hf H2 := ⟨a.1.trans b.1, fun c o p n => b.2.1 c o p (a.2.1 c o p n), fun c ps e => a.2.2 c ps (b.2.2 c ps e)⟩
theorem Gro.weak {Pr Pr' Hf Hf' : Hp} (h : Same Pr Pr') (g : Gro Pr' Hf Hf') : Gro Pr Hf Hf' := ⟨g.1, fun b o p => g.2.1 b o (h b o p), g.2.2⟩
theorem Gro.new {Pr Hf : Hp} {p : Addr} {o : HO} (h : Pr p = none) (hf : Hf p = none) (no : ∀ ps, o ≠ .tbl ps := by intro ps z; cases z) : Gro Pr Hf (upd Hf p o) := by
  refine ⟨fun b u e => ?_, fun b u e n => ?_, fun b ps e => ?_⟩
  · rw [upd_ne (ne_of_none e hf)]
    exact e
  · rw [upd_ne (ne_of_none e h)]
    exact n
  · by_cases q : b = p
    · subst q
      rw [upd_same] at e
      exact absurd (Option.some.inj e) (no ps)
    · rw [upd_ne q] at e
      exact e
/-- what a def's slots are told against: its arguments; the tables of code objects -/
structure V0 where
  vs : List V
  tb : List (Addr × Str)
def NoT (H : Hp) : Prop := ∀ b ps, H b ≠ some (.tbl ps)
theorem NoT.gro {Pr Hf Hf' : Hp} (n : NoT Hf) (g : Gro Pr Hf Hf') : NoT Hf' := fun b ps e => n b ps (g.2.2 b ps e)
theorem NoT.upd {H : Hp} {p : Addr} {o : HO} (n : NoT H) (no : ∀ ps, o ≠ .tbl ps := by intro ps z; cases z) : NoT (upd H p o) := fun b ps e => by
  by_cases q : b = p
  · subst q
    rw [upd_same] at e
    exact no ps (Option.some.inj e)
  · rw [upd_ne q] at e
    exact n b ps e
/-- a list changes: the tables stand -/
theorem tabs_upd {T : List (Addr × Str)} {H : Hp} {p : Addr} {xs ys : List V} (t : LamX.Tabs T H) (h : H p = some (.lst xs)) : LamX.Tabs T (upd H p (.lst ys)) := fun q hq => by
  obtain ⟨ps, h1, h2, h3⟩ := t q hq
  refine ⟨ps, ?_, h2, fun pos cv hc => ?_⟩
  · rw [upd_ne]
    · exact h1
    · intro z
      rw [z, h] at h1
      cases h1
  · obtain ⟨c, e1, e2⟩ := h3 pos cv hc
    refine ⟨c, e1, ?_⟩
    rw [upd_ne]
    · exact e2
    · intro z
      rw [z, h] at e2
      have e3 := Option.some.inj e2
      unfold LamX.CodeO at e3
      cases e3

def SlOk (K : PySem.W.Frag) (vs0 : V0) (Pr Hf H : Hp) (o : Option V) : Sl → Prop
  | .un => True
  | .va d => ∃ v, o = some v ∧ Dp K Hf v d
  | .ow k ds => ∃ p xs, o = some (.ref p) ∧ Hf p = none ∧ Pr p = none ∧ H p = some (.lst xs) ∧ DpAll K Hf xs ds ∧ (k ≠ 0 → vs0.vs[k - 1]? = some (.ref p))
def Own (σ : L2.St) (ρ : En) (i : Nat) (p : Addr) : Prop := (∃ k ds, ρ[i]? = some (.ow k ds)) ∧ σ[i]? = some (some (.ref p))
structure Sta (K : PySem.W.Frag) (vs0 : V0) (Pr Hf H : Hp) (σ : L2.St) (ρ : En) : Prop where
  fz : Same Hf H
  pr : Same Pr H
  sl : ∀ (i : Nat) (s : Sl), ρ[i]? = some s → ∃ o, σ[i]? = some o ∧ SlOk K vs0 Pr Hf H o s
  dj : ∀ (i j : Nat) (p : Addr), Own σ ρ i p → Own σ ρ j p → i = j
  tb : LamX.Tabs vs0.tb H
  nf : NoT Hf
  np : NoT Pr
def RvOk (K : PySem.W.Frag) (Pr Hf H : Hp) (σ : L2.St) (ρ : En) (v : V) : Rv → Prop
  | .va d => Dp K Hf v d
  | .sl i => σ[i]? = some (some v)
  | .nw ds => ∃ p xs, v = .ref p ∧ Hf p = none ∧ Pr p = none ∧ H p = some (.lst xs) ∧ DpAll K Hf xs ds ∧ ∀ i : Nat, ¬ Own σ ρ i p
def look (ρ : En) : Rv → Option PyData
  | .va d => some d
  | .nw ds => some (.list ds)
  | .sl i => match ρ[i]? with
    | some (.va d) => some d
    | some (.ow _ ds) => some (.list ds)
    | _ => none
/-- a value that reads as data just now: frozen, or a list that may change later -/
def DpN (K : PySem.W.Frag) (Hf H : Hp) (x : V) (d : PyData) : Prop := Dp K Hf x d ∨ ∃ p xs ds, x = .ref p ∧ d = .list ds ∧ H p = some (.lst xs) ∧ DpAll K Hf xs ds

section
variable {K : PySem.W.Frag} {vs0 : V0} {Pr Hf Hf' H H' : Hp} {σ : L2.St} {ρ : En} {v : V} {r : Rv} {d : PyData}
theorem DpN.now (e : Same Hf H) (h : DpN K Hf H v d) : Dp K H v d := by
  rcases h with h | ⟨p, xs, ds, rfl, rfl, hp, ha⟩
  · exact dp_mono e _ _ h
  · exact .lst (.inl (.inl hp)) (dpa_mono e _ _ ha)
theorem DpN.lst {ds : List PyData} (e : Same Hf H) (h : DpN K Hf H v (.list ds)) : ∃ p xs, v = .ref p ∧ SqL K H p xs ∧ DpAll K Hf xs ds := by
  rcases h with h | ⟨p, xs, ds, rfl, h2, hp, ha⟩
  · cases h with
    | lst hs ha => exact ⟨_, _, rfl, e.seq hs, ha⟩
  · cases h2
    exact ⟨p, xs, rfl, .inl (.inl hp), ha⟩
theorem DpN.tup {ds : List PyData} (h : DpN K Hf H v (.tuple ds)) : ∃ p xs, v = .ref p ∧ SqT K Hf p xs ∧ DpAll K Hf xs ds := by
  rcases h with h | ⟨p, xs, ds, rfl, h2, hp, ha⟩
  · cases h with
    | tup hs ha => exact ⟨_, _, rfl, hs, ha⟩
  · cases h2
theorem DpN.int {i : Int} (h : DpN K Hf H v (.int i)) : v = .int i := by
  rcases h with h | ⟨p, xs, ds, rfl, h2, hp, ha⟩
  · cases h; rfl
  · cases h2
theorem DpN.bl {b : Bool} (h : DpN K Hf H v (.bool b)) : v = .bl b := by
  rcases h with h | ⟨p, xs, ds, rfl, h2, hp, ha⟩
  · cases h; rfl
  · cases h2
theorem DpN.str {z : Str} (h : DpN K Hf H v (.str z)) : v = .str z := by
  rcases h with h | ⟨p, xs, ds, rfl, h2, hp, ha⟩
  · cases h; rfl
  · cases h2
theorem DpN.non (h : DpN K Hf H v .none) : v = .non := by
  rcases h with h | ⟨p, xs, ds, rfl, h2, hp, ha⟩
  · cases h; rfl
  · cases h2
theorem look_ok (S : Sta K vs0 Pr Hf H σ ρ) (h : RvOk K Pr Hf H σ ρ v r) (l : look ρ r = some d) : DpN K Hf H v d := by
  cases r with
  | va d' =>
    cases l
    exact .inl h
  | nw ds =>
    cases l
    obtain ⟨p, xs, rfl, h1, h2, h3, h4, _⟩ := h
    exact .inr ⟨p, xs, ds, rfl, rfl, h3, h4⟩
  | sl i =>
    have h' : σ[i]? = some (some v) := h
    dsimp only [look] at l
    cases e : ρ[i]? with
    | none => rw [e] at l; cases l
    | some s =>
      rw [e] at l
      obtain ⟨o, e1, e2⟩ := S.sl i s e
      rw [h'] at e1
      cases e1
      cases s with
      | un => cases l
      | va d' =>
        cases l
        obtain ⟨u, eu, hu⟩ := e2
        cases eu
        exact .inl hu
      | ow k ds =>
        cases l
        obtain ⟨p, xs, eu, h1, h2, h3, h4, _⟩ := e2
        cases eu
        exact .inr ⟨p, xs, ds, rfl, rfl, h3, h4⟩
/-- the heap grows, nothing that was tracked changes -/
theorem Sta.grow (S : Sta K vs0 Pr Hf H σ ρ) (g : Gro H Hf Hf') (f : Same Hf' H') (s : Same H H') : Sta K vs0 Pr Hf' H' σ ρ := by
  refine ⟨f, S.pr.trans s, fun i t e => ?_, S.dj, S.tb.ext s, S.nf.gro g, S.np⟩
  obtain ⟨o, e1, e2⟩ := S.sl i t e
  refine ⟨o, e1, ?_⟩
  cases t with
  | un => trivial
  | va d =>
    obtain ⟨u, eu, hu⟩ := e2
    exact ⟨u, eu, dp_mono g.1 _ _ hu⟩
  | ow k ds =>
    obtain ⟨p, xs, eu, h1, h2, h3, h4, h5⟩ := e2
    exact ⟨p, xs, eu, g.2.1 p _ h3 h1, h2, s _ _ h3, dpa_mono g.1 _ _ h4, h5⟩
theorem Sta.groPr (S : Sta K vs0 Pr Hf H σ ρ) (g : Gro H Hf Hf') : Gro Pr Hf Hf' := g.weak S.pr
theorem upd_same_frz {p : Addr} {xs : List V} (e : H p = some (.lst xs)) (f : Same Hf H) : Same (upd Hf p (.lst xs)) H := fun b o h => by
  by_cases q : b = p
  · subst q
    rw [upd_same] at h
    rw [e]
    exact h
  · rw [upd_ne q] at h
    exact f b o h
/-- a new list in flight is frozen -/
theorem Sta.fzn (S : Sta K vs0 Pr Hf H σ ρ) {ds : List PyData} (h : RvOk K Pr Hf H σ ρ v (.nw ds)) : ∃ Hf', Gro Pr Hf Hf' ∧ Sta K vs0 Pr Hf' H σ ρ ∧ Dp K Hf' v (.list ds) := by
  obtain ⟨p, xs, rfl, h1, h2, h3, h4, h5⟩ := h
  have g : Gro Pr Hf (upd Hf p (.lst xs)) := Gro.new h2 h1
  refine ⟨upd Hf p (.lst xs), g, ⟨upd_same_frz h3 S.fz, S.pr, fun i t e => ?_, S.dj, S.tb, S.nf.gro g, S.np⟩, .lst (.inl (.inl upd_same)) (dpa_mono g.1 _ _ h4)⟩
  obtain ⟨o, e1, e2⟩ := S.sl i t e
  refine ⟨o, e1, ?_⟩
  cases t with
  | un => trivial
  | va d =>
    obtain ⟨u, eu, hu⟩ := e2
    exact ⟨u, eu, dp_mono g.1 _ _ hu⟩
  | ow k es =>
    obtain ⟨q, ys, eu, k1, k2, k3, k4, k5⟩ := e2
    have nq : q ≠ p := fun z => by
      subst z
      exact h5 i ⟨⟨k, es, e⟩, by rw [e1, eu]⟩
    exact ⟨q, ys, eu, by rw [upd_ne nq]; exact k1, k2, k3, dpa_mono g.1 _ _ k4, k5⟩
/-- the slot that holds a list of its own is frozen -/
def fzS (ρ : En) (i : Nat) : Option (PyData × En) := match ρ[i]? with
  | some (.va d) => some (d, ρ)
  | some (.ow _ ds) => some (.list ds, ρ.set i (.va (.list ds)))
  | _ => none
theorem get_set_eq {α : Type} {l : List α} {i : Nat} {a b : α} (h : l[i]? = some b) : (l.set i a)[i]? = some a := by
  rw [List.getElem?_set_self]
  exact (List.getElem?_eq_some_iff.mp h).1
theorem Sta.fzs (S : Sta K vs0 Pr Hf H σ ρ) {i : Nat} {ρ' : En} (hv : σ[i]? = some (some v)) (h : fzS ρ i = some (d, ρ')) : ∃ Hf', Gro Pr Hf Hf' ∧ Sta K vs0 Pr Hf' H σ ρ' ∧ Dp K Hf' v d := by
  unfold fzS at h
  cases e : ρ[i]? with
  | none => rw [e] at h; cases h
  | some s =>
    rw [e] at h
    cases s with
    | un => cases h
    | va d' =>
      cases h
      obtain ⟨o, e1, u, e2, e3⟩ := S.sl i _ e
      rw [hv] at e1
      cases e1
      cases e2
      exact ⟨Hf, Gro.refl _ _, S, e3⟩
    | ow k ds =>
      cases h
      obtain ⟨o, e1, p, xs, e2, h1, h2, h3, h4, h5⟩ := S.sl i _ e
      rw [hv] at e1
      cases e1
      cases e2
      have g : Gro Pr Hf (upd Hf p (.lst xs)) := Gro.new h2 h1
      have hD : Dp K (upd Hf p (.lst xs)) (.ref p) (.list ds) := .lst (.inl (.inl upd_same)) (dpa_mono g.1 _ _ h4)
      have own : ∀ j q, Own σ (ρ.set i (.va (.list ds))) j q → Own σ ρ j q ∧ j ≠ i := fun j q ⟨⟨k', es, e1⟩, e2⟩ => by
        by_cases hj : i = j
        · subst hj
          rw [get_set_eq e] at e1
          cases e1
        · rw [List.getElem?_set_ne hj] at e1
          exact ⟨⟨⟨k', es, e1⟩, e2⟩, fun z => hj z.symm⟩
      refine ⟨_, g, ⟨upd_same_frz h3 S.fz, S.pr, fun j t et => ?_, fun a b q h1 h2 => S.dj a b q (own a q h1).1 (own b q h2).1, S.tb, S.nf.gro g, S.np⟩, hD⟩
      by_cases hj : i = j
      · subst hj
        rw [get_set_eq e] at et
        cases et
        exact ⟨_, hv, _, rfl, hD⟩
      · rw [List.getElem?_set_ne hj] at et
        obtain ⟨o, f1, f2⟩ := S.sl j t et
        refine ⟨o, f1, ?_⟩
        cases t with
        | un => trivial
        | va d =>
          obtain ⟨u, eu, hu⟩ := f2
          exact ⟨u, eu, dp_mono g.1 _ _ hu⟩
        | ow k' es =>
          obtain ⟨q, ys, eu, k1, k2, k3, k4, k5⟩ := f2
          have nq : q ≠ p := fun z => by
            subst z
            exact hj (S.dj i j q ⟨⟨k, ds, e⟩, hv⟩ ⟨⟨k', es, et⟩, by rw [f1, eu]⟩)
          exact ⟨q, ys, eu, by rw [upd_ne nq]; exact k1, k2, k3, dpa_mono g.1 _ _ k4, k5⟩
/-- any result frozen -/
def fzR (r : Rv) (ρ : En) : RM PyData := match r with
  | .va d => some (.ok (d, ρ))
  | .nw ds => some (.ok (.list ds, ρ))
  | .sl i => match fzS ρ i with
    | some (d, ρ') => some (.ok (d, ρ'))
    | none => none
theorem Sta.fzr (S : Sta K vs0 Pr Hf H σ ρ) {ρ' : En} (hv : RvOk K Pr Hf H σ ρ v r) (h : fzR r ρ = some (.ok (d, ρ'))) : ∃ Hf', Gro Pr Hf Hf' ∧ Sta K vs0 Pr Hf' H σ ρ' ∧ Dp K Hf' v d := by
  cases r with
  | va d' =>
    cases h
    exact ⟨Hf, Gro.refl _ _, S, hv⟩
  | nw ds =>
    cases h
    exact S.fzn hv
  | sl i =>
    unfold fzR at h
    cases e : fzS ρ i with
    | none => simp only [e] at h; cases h
    | some q =>
      obtain ⟨d', ρ1⟩ := q
      simp only [e] at h
      cases h
      exact S.fzs hv e
theorem fzR_noerr {r : Rv} {ρ : En} {e : Xc × En} : fzR r ρ ≠ some (.error e) := by
  cases r with
  | va d => intro h; cases h
  | nw ds => intro h; cases h
  | sl i =>
    intro h
    unfold fzR at h
    cases e : fzS ρ i with
    | none => simp only [e] at h; cases h
    | some q => simp only [e] at h; cases h
/-- only the new list in flight is frozen (a slot stays) -/
def Rv.fz : Rv → Rv
  | .nw ds => .va (.list ds)
  | r => r
theorem Rv.look_fz (r : Rv) (ρ : En) : look ρ r.fz = look ρ r := by cases r <;> rfl
theorem Sta.fzx (S : Sta K vs0 Pr Hf H σ ρ) (hv : RvOk K Pr Hf H σ ρ v r) : ∃ Hf', Gro Pr Hf Hf' ∧ Sta K vs0 Pr Hf' H σ ρ ∧ RvOk K Pr Hf' H σ ρ v r.fz := by
  cases r with
  | va d => exact ⟨Hf, Gro.refl _ _, S, hv⟩
  | sl i => exact ⟨Hf, Gro.refl _ _, S, hv⟩
  | nw ds =>
    obtain ⟨Hf', g, S', h⟩ := S.fzn hv
    exact ⟨Hf', g, S', h⟩
theorem RvOk.later {H1 Hf1 : Hp} {ρ1 : En} (h : RvOk K Pr Hf H σ ρ v r.fz) (g : Same Hf Hf1) : RvOk K Pr Hf1 H1 σ ρ1 v r.fz := by
  cases r with
  | va d => exact dp_mono g _ _ h
  | sl i => exact h
  | nw ds => exact dp_mono g _ _ h
end

/-! ### judgements -/
structure XT where
  adr : Nat → Addr
  fld : Nat → Str
def XOk (T : XT) (K : PySem.W.Frag) (Hf H : Hp) (x : Xc) (cls : Value) (dx : Option Addr) : Prop :=
  cls = .ref (T.adr x.cls) ∧ ∃ d v, dx = some d ∧ H d = some (.xd [(T.fld x.cls, v)]) ∧ Dp K Hf v x.arg
structure Cn where
  K : PySem.W.Frag
  vs0 : V0
  T : XT
  E : L2.St → XK
abbrev Rel (α β : Type) := Hp → Hp → Hp → L2.St → En → β → α → Prop
def Good {α β : Type} (c : Cn) (rel : Rel α β) (Pr Hf : Hp) (σ : L2.St) (Q : β → Hp → Prop) : RM α → Prop
  | none => False
  | some (.ok (r, ρ')) => ∀ v Hf' H', Gro Pr Hf Hf' → Sta c.K c.vs0 Pr Hf' H' σ ρ' → rel Pr Hf' H' σ ρ' v r → Q v H'
  | some (.error (x, ρ')) => ∀ cls dx Hf' H', Gro Pr Hf Hf' → Sta c.K c.vs0 Pr Hf' H' σ ρ' → XOk c.T c.K Hf' H' x cls dx → c.E σ cls dx H'
def JG {α β : Type} (c : Cn) (rel : Rel α β) (t : L2.St → Hp → (β → Hp → Prop) → Prop) (f : En → RM α) : Prop :=
  ∀ σ H Pr Hf ρ Q, Sta c.K c.vs0 Pr Hf H σ ρ → Good c rel Pr Hf σ Q (f ρ) → t σ H Q
def relV (K : PySem.W.Frag) : Rel Rv V := fun Pr Hf H σ ρ v r => RvOk K Pr Hf H σ ρ v r
def relB : Rel Bool Bool := fun _ _ _ _ _ b a => b = a
inductive RvAll (K : PySem.W.Frag) (Pr Hf H : Hp) (σ : L2.St) (ρ : En) : List V → List Rv → Prop
  | nil : RvAll K Pr Hf H σ ρ [] []
  | cons {v : V} {vs : List V} {r : Rv} {rs : List Rv} : RvOk K Pr Hf H σ ρ v r.fz → RvAll K Pr Hf H σ ρ vs rs → RvAll K Pr Hf H σ ρ (v :: vs) (r.fz :: rs)
def relA (K : PySem.W.Frag) : Rel (List Rv) (List V) := fun Pr Hf H σ ρ vs rs => RvAll K Pr Hf H σ ρ vs rs
abbrev JE (c : Cn) (t : TE) (f : En → RM Rv) : Prop := JG c (relV c.K) t f
abbrev JT (c : Cn) (t : TT) (f : En → RM Bool) : Prop := JG c relB t f
abbrev JA (c : Cn) (t : TA) (f : En → RM (List Rv)) : Prop := JG c (relA c.K) t f
section
variable {α β γ δ : Type} {c : Cn} {rel : Rel α β} {rel2 : Rel γ δ} {Pr Hf Hf1 H : Hp} {σ : L2.St}
theorem Good.mono {Q : β → Hp → Prop} {m : RM α} (g : Gro Pr Hf Hf1) (h : Good c rel Pr Hf σ Q m) : Good c rel Pr Hf1 σ Q m := by
  match m, h with
  | some (.ok (r, ρ')), h => exact fun v Hf' H' g' => h v Hf' H' (g.trans g')
  | some (.error (x, ρ')), h => exact fun cls dx Hf' H' g' => h cls dx Hf' H' (g.trans g')
theorem Good.bind {Q : δ → Hp → Prop} {Q1 : β → Hp → Prop} {m : RM α} {g : α → En → RM γ} (h : Good c rel2 Pr Hf σ Q (RM.bnd m g))
    (k : ∀ r ρ1, m = some (.ok (r, ρ1)) → ∀ v Hf1 H1, Gro Pr Hf Hf1 → Sta c.K c.vs0 Pr Hf1 H1 σ ρ1 → rel Pr Hf1 H1 σ ρ1 v r → Good c rel2 Pr Hf1 σ Q (g r ρ1) → Q1 v H1) : Good c rel Pr Hf σ Q1 m := by
  match m, h with
  | some (.ok (r, ρ')), h => exact fun v Hf' H' g' S rv => k r ρ' rfl v Hf' H' g' S rv (Good.mono g' h)
  | some (.error (x, ρ')), h => exact h
end

/-! ### what a primitive gives -/
def PvOk (K : PySem.W.Frag) (Hf' H H' : Hp) (v : V) : Rv → Prop
  | .va d => Dp K Hf' v d
  | .nw ds => ∃ p xs, v = .ref p ∧ H p = none ∧ Hf' p = none ∧ H' p = some (.lst xs) ∧ DpAll K Hf' xs ds
  | .sl _ => False
def Fin (K : PySem.W.Frag) (Hf H : Hp) (z : Rv) (Q : VK) : Prop := ∀ v Hf' H', Gro H Hf Hf' → Same Hf' H' → Same H H' → PvOk K Hf' H H' v z → Q v H'
section
variable {K : PySem.W.Frag} {vs0 : V0} {Pr Hf Hf' H H' : Hp} {σ : L2.St} {ρ : En} {v : V} {z : Rv} {Q : VK}
theorem PvOk.rv (S : Sta K vs0 Pr Hf H σ ρ) (s : Same H H') (h : PvOk K Hf' H H' v z) : RvOk K Pr Hf' H' σ ρ v z := by
  cases z with
  | va d => exact h
  | sl i => exact h.elim
  | nw ds =>
    obtain ⟨p, xs, rfl, h1, h2, h3, h4⟩ := h
    refine ⟨p, xs, rfl, h2, ?_, h3, h4, fun i ⟨⟨k, es, e⟩, e2⟩ => ?_⟩
    · cases q : Pr p with
      | none => rfl
      | some o =>
        rw [S.pr p o q] at h1
        cases h1
    · obtain ⟨o, e3, q, ys, e4, _, _, e5, _⟩ := S.sl i _ e
      rw [e2] at e3
      cases e3
      cases e4
      rw [e5] at h1
      cases h1
theorem Fin.d {d : PyData} (h : Fin K Hf H (.va d) Q) (f : Same Hf H) (hv : Dp K Hf v d) : Q v H := h v Hf H (Gro.refl _ _) f (Same.refl _) hv
theorem same_new {p : Addr} {o : HO} (h : H p = none) : Same H (upd H p o) := fun b u e => by
  rw [upd_ne (ne_of_none e h)]
  exact e
theorem frz_new {p : Addr} {o : HO} (f : Same Hf H) : Same (upd Hf p o) (upd H p o) := fun b u e => by
  by_cases q : b = p
  · subst q
    rw [upd_same] at e ⊢
    exact e
  · rw [upd_ne q] at e ⊢
    exact f b u e
theorem none_back {p : Addr} (f : Same Hf H) (h : H p = none) : Hf p = none := by
  cases q : Hf p with
  | none => rfl
  | some o =>
    rw [f p o q] at h
    cases h
theorem Fin.tup {ds : List PyData} {p : Addr} {xs : List V} (h : Fin K Hf H (.va (.tuple ds)) Q) (f : Same Hf H) (hp : H p = none) (ha : DpAll K Hf xs ds) : Q (.ref p) (upd H p (.tup xs)) := by
  have g : Gro H Hf (upd Hf p (.tup xs)) := Gro.new hp (none_back f hp)
  exact h _ (upd Hf p (.tup xs)) _ g (frz_new f) (same_new hp) (.tup (.inl (.inl upd_same)) (dpa_mono g.1 _ _ ha))
theorem Fin.lst {ds : List PyData} {p : Addr} {xs : List V} (h : Fin K Hf H (.nw ds) Q) (f : Same Hf H) (hp : H p = none) (ha : DpAll K Hf xs ds) : Q (.ref p) (upd H p (.lst xs)) :=
  h _ Hf _ (Gro.refl _ _) (f.trans (same_new hp)) (same_new hp) ⟨p, xs, rfl, hp, none_back f hp, upd_same, ha⟩
theorem Good.fin {c : Cn} (S : Sta c.K c.vs0 Pr Hf H σ ρ) (h : Good c (relV c.K) Pr Hf σ Q (some (.ok (z, ρ)))) : Fin c.K Hf H z Q := fun v Hf' H' g f s pv =>
  h v Hf' H' (S.groPr g) (S.grow g f s) (pv.rv S s)
end
end Pl

namespace Pl
open PySem PySem.Spec PyProof.Rows L2
/-! ### expressions -/
def lk {α : Type} (ρ : En) (r : Rv) (k : PyData → RM α) : RM α := match look ρ r with
  | some d => k d
  | none => none
def ob {α : Type} (o : Option α) (ρ : En) : RM α := match o with
  | some z => some (.ok (z, ρ))
  | none => none
def ck {α : Type} (b : Bool) (m : RM α) : RM α := match b with
  | true => m
  | false => none
section
variable {α β : Type} {c : Cn} {rel : Rel α β} {Pr Hf H : Hp} {σ : L2.St} {Q : β → Hp → Prop} {ρ : En}
theorem Good.lk {r : Rv} {k : PyData → RM α} (h : Good c rel Pr Hf σ Q (lk ρ r k)) : ∃ d, look ρ r = some d ∧ Good c rel Pr Hf σ Q (k d) := by
  unfold Pl.lk at h
  cases e : look ρ r with
  | none => rw [e] at h; exact h.elim
  | some d => rw [e] at h; exact ⟨d, rfl, h⟩
theorem Good.ob {o : Option α} (h : Good c rel Pr Hf σ Q (ob o ρ)) : ∃ z, o = some z ∧ Good c rel Pr Hf σ Q (some (.ok (z, ρ))) := by
  cases o with
  | none => exact h.elim
  | some z => exact ⟨z, rfl, h⟩
theorem Good.ck {b : Bool} {m : RM α} (h : Good c rel Pr Hf σ Q (ck b m)) : b = true ∧ Good c rel Pr Hf σ Q m := by
  cases b with
  | false => exact h.elim
  | true => exact ⟨rfl, h⟩
theorem Good.at {r : α} {v : β} (S : Sta c.K c.vs0 Pr Hf H σ ρ) (h : Good c rel Pr Hf σ Q (some (.ok (r, ρ)))) (rv : rel Pr Hf H σ ρ v r) : Q v H := h v Hf H (Gro.refl _ _) S rv
end

def varM (i : Nat) : En → RM Rv := fun ρ => match ρ[i]? with
  | some (.va d) => some (.ok (.va d, ρ))
  | some (.ow _ _) => some (.ok (.sl i, ρ))
  | _ => none
def cM (d : PyData) : En → RM Rv := fun ρ => some (.ok (.va d, ρ))
section
variable {c : Cn}
theorem je_var {i : Nat} : JE c (tVar i) (varM i) := by
  intro σ H Pr Hf ρ Q S h
  unfold varM at h
  cases e : ρ[i]? with
  | none => rw [e] at h; exact h.elim
  | some s =>
    rw [e] at h
    obtain ⟨o, e1, e2⟩ := S.sl i s e
    cases s with
    | un => exact h.elim
    | va d =>
      obtain ⟨u, rfl, hu⟩ := e2
      exact ⟨u, e1, Good.at S h hu⟩
    | ow k ds =>
      obtain ⟨p, xs, rfl, _⟩ := e2
      exact ⟨_, e1, Good.at S h e1⟩
theorem je_c {v : V} {d : PyData} (hd : ∀ K H, Dp K H v d) : JE c (tC v) (cM d) := fun σ H Pr Hf ρ Q S h => Good.at S h (hd _ _)
theorem je_int {i : Int} : JE c (tC (.int i)) (cM (.int i)) := je_c fun _ _ => .int i
theorem je_bl {b : Bool} : JE c (tC (.bl b)) (cM (.bool b)) := je_c fun _ _ => .bl b
theorem je_non : JE c (tC .non) (cM .none) := je_c fun _ _ => .non
theorem je_str {x : Str} : JE c (tC (.str x)) (cM (.str x)) := je_c fun _ _ => .str x
end

def OpOk (K : PySem.W.Frag) (r : R2) (g : PyData → PyData → Option Rv) : Prop :=
  ∀ Hf H x y d e z Q, Same Hf H → DpN K Hf H x d → DpN K Hf H y e → g d e = some z → Fin K Hf H z Q → r x y H Q
def UnOk (K : PySem.W.Frag) (r : V → Hp → VK → Prop) (g : PyData → Option Rv) : Prop :=
  ∀ Hf H x d z Q, Same Hf H → DpN K Hf H x d → g d = some z → Fin K Hf H z Q → r x H Q
inductive DpNs (K : PySem.W.Frag) (Hf H : Hp) : List V → List PyData → Prop
  | nil : DpNs K Hf H [] []
  | cons {v : V} {vs : List V} {d : PyData} {ds : List PyData} : DpN K Hf H v d → DpNs K Hf H vs ds → DpNs K Hf H (v :: vs) (d :: ds)
def CbOk (K : PySem.W.Frag) (r : List V → Hp → VK → Prop) (g : List PyData → Option Rv) : Prop :=
  ∀ Hf H xs ds z Q, Same Hf H → DpNs K Hf H xs ds → g ds = some z → Fin K Hf H z Q → r xs H Q
def opM (g : PyData → PyData → Option Rv) (fa fb : En → RM Rv) : En → RM Rv := fun ρ =>
  RM.bnd (fa ρ) fun ra ρ1 => RM.bnd (fb ρ1) fun rb ρ2 => lk ρ2 ra fun d => lk ρ2 rb fun e => ob (g d e) ρ2
def unM (g : PyData → Option Rv) (fa : En → RM Rv) : En → RM Rv := fun ρ => RM.bnd (fa ρ) fun ra ρ1 => lk ρ1 ra fun d => ob (g d) ρ1
def nilM : En → RM (List Rv) := fun ρ => some (.ok ([], ρ))
def consM (fa : En → RM Rv) (fr : En → RM (List Rv)) : En → RM (List Rv) := fun ρ =>
  RM.bnd (fa ρ) fun r ρ1 => RM.bnd (fr ρ1) fun rs ρ2 => some (.ok (r.fz :: rs, ρ2))
def looks (ρ : En) : List Rv → Option (List PyData)
  | [] => some []
  | r :: rs => match look ρ r, looks ρ rs with
    | some d, some ds => some (d :: ds)
    | _, _ => none
def cbM (g : List PyData → Option Rv) (fa : En → RM (List Rv)) : En → RM Rv := fun ρ => RM.bnd (fa ρ) fun rs ρ1 => match looks ρ1 rs with
  | some ds => ob (g ds) ρ1
  | none => none
section
variable {c : Cn} {ta tb te : TE} {tr : TA} {fa fb fe : En → RM Rv} {fr : En → RM (List Rv)} {tt tu : TT} {ft fu : En → RM Bool}
theorem je_op {r : R2} {g : PyData → PyData → Option Rv} (hr : OpOk c.K r g) (ha : JE c ta fa) (hb : JE c tb fb) : JE c (tOp r ta tb) (opM g fa fb) := by
  intro σ H Pr Hf ρ Q S h
  show ta σ H fun x H1 => tb σ H1 fun y H2 => r x y H2 Q
  refine ha σ H Pr Hf ρ _ S (Good.bind h fun ra ρ1 _ x Hf1 H1 g1 S1 rv1 h1 => ?_)
  obtain ⟨Hf2, g2, S2, rv2⟩ := S1.fzx rv1
  refine hb σ H1 Pr Hf2 ρ1 _ S2 (Good.bind (Good.mono g2 h1) fun rb ρ2 _ y Hf3 H3 g3 S3 rv3 h3 => ?_)
  have rx := rv2.later (H1 := H3) (ρ1 := ρ2) g3.1
  obtain ⟨d, l1, h4⟩ := h3.lk
  obtain ⟨e, l2, h5⟩ := h4.lk
  obtain ⟨z, hz, h6⟩ := h5.ob
  exact hr Hf3 H3 x y d e z Q S3.fz (look_ok S3 rx (by rw [Rv.look_fz]; exact l1)) (look_ok S3 rv3 l2) hz (Good.fin S3 h6)
theorem je_un {r : V → Hp → VK → Prop} {g : PyData → Option Rv} (hr : UnOk c.K r g) (ha : JE c ta fa) : JE c (tUn r ta) (unM g fa) := by
  intro σ H Pr Hf ρ Q S h
  show ta σ H fun x H1 => r x H1 Q
  refine ha σ H Pr Hf ρ _ S (Good.bind h fun ra ρ1 _ x Hf1 H1 g1 S1 rv1 h1 => ?_)
  obtain ⟨d, l1, h4⟩ := h1.lk
  obtain ⟨z, hz, h6⟩ := h4.ob
  exact hr Hf1 H1 x d z Q S1.fz (look_ok S1 rv1 l1) hz (Good.fin S1 h6)
theorem ja_nil : JA c tNil nilM := fun σ H Pr Hf ρ Q S h => Good.at S h .nil
theorem ja_cons (ha : JE c ta fa) (hr : JA c tr fr) : JA c (tCons ta tr) (consM fa fr) := by
  intro σ H Pr Hf ρ Q S h
  show ta σ H fun x H1 => tr σ H1 fun xs H2 => Q (x :: xs) H2
  refine ha σ H Pr Hf ρ _ S (Good.bind h fun ra ρ1 _ x Hf1 H1 g1 S1 rv1 h1 => ?_)
  obtain ⟨Hf2, g2, S2, rv2⟩ := S1.fzx rv1
  refine hr σ H1 Pr Hf2 ρ1 _ S2 (Good.bind (Good.mono g2 h1) fun rs ρ2 _ ys Hf3 H3 g3 S3 rv3 h3 => ?_)
  exact Good.at S3 h3 (.cons (rv2.later (H1 := H3) (ρ1 := ρ2) g3.1) rv3)
theorem looks_ok {Pr Hf H : Hp} {σ : L2.St} {ρ : En} (S : Sta c.K c.vs0 Pr Hf H σ ρ) : ∀ {vs : List V} {rs : List Rv} {ds : List PyData}, RvAll c.K Pr Hf H σ ρ vs rs → looks ρ rs = some ds → DpNs c.K Hf H vs ds
  | _, _, ds, .nil, h => by
    cases h
    exact .nil
  | _, _, ds, @RvAll.cons _ _ _ _ _ _ v vs r rs h1 h2, h => by
    unfold looks at h
    cases e : look ρ r.fz with
    | none => rw [e] at h; cases h
    | some d =>
      rw [e] at h
      cases e2 : looks ρ rs with
      | none => rw [e2] at h; cases h
      | some es =>
        rw [e2] at h
        cases h
        exact .cons (look_ok S h1 e) (looks_ok S h2 e2)
theorem je_cb {r : List V → Hp → VK → Prop} {g : List PyData → Option Rv} (hr : CbOk c.K r g) (ha : JA c tr fr) : JE c (tCB r tr) (cbM g fr) := by
  intro σ H Pr Hf ρ Q S h
  show tr σ H fun xs H1 => r xs H1 Q
  refine ha σ H Pr Hf ρ _ S (Good.bind h fun rs ρ1 _ xs Hf1 H1 g1 S1 rv1 h1 => ?_)
  cases e : looks ρ1 rs with
  | none => simp only [e] at h1; exact h1.elim
  | some ds =>
    simp only [e] at h1
    obtain ⟨z, hz, h6⟩ := h1.ob
    exact hr Hf1 H1 xs ds z Q S1.fz (looks_ok S1 rv1 e) hz (Good.fin S1 h6)

/-! ### displays -/
def fzAll : List Rv → En → RM (List PyData)
  | [], ρ => some (.ok ([], ρ))
  | r :: rs, ρ => RM.bnd (fzR r ρ) fun d ρ1 => RM.bnd (fzAll rs ρ1) fun ds ρ2 => some (.ok (d :: ds, ρ2))
theorem RvAll.later {K : PySem.W.Frag} {Pr Hf Hf' H H' : Hp} {σ : L2.St} {ρ ρ' : En} (g : Same Hf Hf') : ∀ {vs : List V} {rs : List Rv}, RvAll K Pr Hf H σ ρ vs rs → RvAll K Pr Hf' H' σ ρ' vs rs
  | _, _, .nil => .nil
  | _, _, .cons h1 h2 => .cons (h1.later g) (RvAll.later g h2)
theorem Sta.fzall {K : PySem.W.Frag} {vs0 : V0} {Pr H : Hp} {σ : L2.St} : ∀ {vs : List V} {rs : List Rv} {Hf : Hp} {ρ ρ' : En} {ds : List PyData}, Sta K vs0 Pr Hf H σ ρ → RvAll K Pr Hf H σ ρ vs rs → fzAll rs ρ = some (.ok (ds, ρ')) →
    ∃ Hf', Gro Pr Hf Hf' ∧ Sta K vs0 Pr Hf' H σ ρ' ∧ DpAll K Hf' vs ds
  | _, _, Hf, ρ, ρ', ds, S, .nil, h => by
    cases h
    exact ⟨Hf, Gro.refl _ _, S, .nil⟩
  | _, _, Hf, ρ, ρ', ds, S, @RvAll.cons _ _ _ _ _ _ v vs r rs h1 h2, h => by
    unfold fzAll at h
    cases e : fzR r.fz ρ with
    | none => rw [e] at h; cases h
    | some q =>
      cases q with
      | error x => exact absurd e fzR_noerr
      | ok q =>
        obtain ⟨d, ρ1⟩ := q
        rw [e] at h
        obtain ⟨Hf1, g1, S1, d1⟩ := S.fzr h1 e
        dsimp only [RM.bnd] at h
        cases e2 : fzAll rs ρ1 with
        | none => rw [e2] at h; cases h
        | some q =>
          cases q with
          | error x => rw [e2] at h; cases h
          | ok q =>
            obtain ⟨es, ρ2⟩ := q
            rw [e2] at h
            cases h
            obtain ⟨Hf2, g2, S2, d2⟩ := Sta.fzall S1 (h2.later g1.1) e2
            exact ⟨Hf2, g1.trans g2, S2, .cons (dp_mono g2.1 _ _ d1) d2⟩
theorem fzAll_noerr : ∀ {rs : List Rv} {ρ : En} {e : Xc × En}, fzAll rs ρ ≠ some (.error e)
  | [], ρ, e => fun h => by cases h
  | r :: rs, ρ, e => fun h => by
    unfold fzAll at h
    cases e1 : fzR r ρ with
    | none => rw [e1] at h; cases h
    | some q =>
      cases q with
      | error x => exact fzR_noerr e1
      | ok q =>
        obtain ⟨d, ρ1⟩ := q
        rw [e1] at h
        dsimp only [RM.bnd] at h
        cases e2 : fzAll rs ρ1 with
        | none => rw [e2] at h; cases h
        | some q =>
          cases q with
          | error x => exact fzAll_noerr e2
          | ok q => rw [e2] at h; cases h
def few (ds : List PyData) : Bool := decide (ds.length ≤ 100000)
def tupM (fr : En → RM (List Rv)) : En → RM Rv := fun ρ => RM.bnd (fr ρ) fun rs ρ1 => RM.bnd (fzAll rs ρ1) fun ds ρ2 => ck (few ds) (some (.ok (.va (.tuple ds), ρ2)))
def lstM (fr : En → RM (List Rv)) : En → RM Rv := fun ρ => RM.bnd (fr ρ) fun rs ρ1 => RM.bnd (fzAll rs ρ1) fun ds ρ2 => ck (few ds) (some (.ok (.nw ds, ρ2)))
theorem few_le {K : PySem.W.Frag} {H : Hp} {ds : List PyData} {vs : List V} (h : few ds = true) (a : DpAll K H vs ds) : vs.length ≤ sizeLine := by
  rw [dpa_len a]
  exact Nat.le_trans (of_decide_eq_true h) (by decide)
/-- a step that can't raise, looked into -/
theorem Good.step {α β γ δ : Type} {rel : Rel α β} {Pr Hf : Hp} {σ : L2.St} {Q : β → Hp → Prop} {m : RM γ} {g : γ → En → RM α} (h : Good c rel Pr Hf σ Q (RM.bnd m g)) (ne : ∀ e, m ≠ some (.error e)) :
    ∃ r ρ1, m = some (.ok (r, ρ1)) ∧ Good c rel Pr Hf σ Q (g r ρ1) := by
  cases m with
  | none => exact h.elim
  | some q =>
    cases q with
    | error e => exact absurd rfl (ne e)
    | ok q => exact ⟨q.1, q.2, rfl, h⟩
theorem je_tup (ha : JA c tr fr) : JE c (tTup tr) (tupM fr) := by
  intro σ H Pr Hf ρ Q S h
  show tr σ H fun xs H1 => xs.length ≤ sizeLine ∧ ∀ p, H1 p = none → Q (.ref p) (upd H1 p (.tup xs))
  refine ha σ H Pr Hf ρ _ S (Good.bind h fun rs ρ1 _ xs Hf1 H1 g1 S1 rv1 h1 => ?_)
  obtain ⟨ds, ρ2, e, h2⟩ := Good.step (δ := Nat) h1 fun e => fzAll_noerr
  obtain ⟨Hf2, g2, S2, da⟩ := S1.fzall rv1 e
  obtain ⟨hl, h3⟩ := h2.ck
  exact ⟨few_le hl da, fun p hp => Fin.tup (Good.fin S2 (Good.mono g2 h3)) S2.fz hp da⟩
theorem je_lst (ha : JA c tr fr) : JE c (tLst tr) (lstM fr) := by
  intro σ H Pr Hf ρ Q S h
  show tr σ H fun xs H1 => xs.length ≤ sizeLine ∧ ∀ p, H1 p = none → Q (.ref p) (upd H1 p (.lst xs))
  refine ha σ H Pr Hf ρ _ S (Good.bind h fun rs ρ1 _ xs Hf1 H1 g1 S1 rv1 h1 => ?_)
  obtain ⟨ds, ρ2, e, h2⟩ := Good.step (δ := Nat) h1 fun e => fzAll_noerr
  obtain ⟨Hf2, g2, S2, da⟩ := S1.fzall rv1 e
  obtain ⟨hl, h3⟩ := h2.ck
  exact ⟨few_le hl da, fun p hp => Fin.lst (Good.fin S2 (Good.mono g2 h3)) S2.fz hp da⟩

/-! ### tests -/
def bM (fa : En → RM Rv) : En → RM Bool := fun ρ => RM.bnd (fa ρ) fun r ρ1 => match r with
  | .va (.bool b) => some (.ok (b, ρ1))
  | _ => none
def notM (f : En → RM Bool) : En → RM Bool := fun ρ => RM.bnd (f ρ) fun b ρ1 => some (.ok (!b, ρ1))
def andM (f g : En → RM Bool) : En → RM Bool := fun ρ => RM.bnd (f ρ) fun b ρ1 => match b with
  | true => g ρ1
  | false => some (.ok (false, ρ1))
def orM (f g : En → RM Bool) : En → RM Bool := fun ρ => RM.bnd (f ρ) fun b ρ1 => match b with
  | true => some (.ok (true, ρ1))
  | false => g ρ1
def andV (f g : En → RM Rv) : En → RM Rv := fun ρ => RM.bnd (f ρ) fun r ρ1 => match r with
  | .va (.bool true) => g ρ1
  | .va (.bool false) => some (.ok (.va (.bool false), ρ1))
  | _ => none
def orV (f g : En → RM Rv) : En → RM Rv := fun ρ => RM.bnd (f ρ) fun r ρ1 => match r with
  | .va (.bool true) => some (.ok (.va (.bool true), ρ1))
  | .va (.bool false) => g ρ1
  | _ => none
def notV (f : En → RM Rv) : En → RM Rv := fun ρ => RM.bnd (f ρ) fun r ρ1 => match r with
  | .va (.bool b) => some (.ok (.va (.bool !b), ρ1))
  | _ => none
def ifX (t : En → RM Bool) (f g : En → RM Rv) : En → RM Rv := fun ρ => RM.bnd (t ρ) fun b ρ1 => match b with
  | true => f ρ1
  | false => g ρ1
theorem jt_val (ha : JE c ta fa) : JT c (tTest ta) (bM fa) := by
  intro σ H Pr Hf ρ Q S h
  show ta σ H fun x H' => ∃ k, x = .bl k ∧ Q k H'
  refine ha σ H Pr Hf ρ _ S (Good.bind h fun r ρ1 _ x Hf1 H1 g1 S1 rv1 h1 => ?_)
  match r, rv1, h1 with
  | .va (.bool b), rv1, h1 =>
    have e : Dp c.K Hf1 x (.bool b) := rv1
    cases e
    exact ⟨b, rfl, Good.at S1 h1 rfl⟩
theorem jt_B (ha : JE c ta fa) : JT c (tB ta) (bM fa) := jt_val ha
theorem jt_not (ha : JT c tt ft) : JT c (tNot tt) (notM ft) := by
  intro σ H Pr Hf ρ Q S h
  show tt σ H fun b H1 => Q (!b) H1
  refine ha σ H Pr Hf ρ _ S (Good.bind h fun r ρ1 _ x Hf1 H1 g1 S1 rv1 h1 => ?_)
  cases (show x = r from rv1)
  exact Good.at S1 h1 rfl
theorem jt_and (ha : JT c tt ft) (hb : JT c tu fu) : JT c (tAnd tt tu) (andM ft fu) := by
  intro σ H Pr Hf ρ Q S h
  show tt σ H fun b H1 => if b = true then tu σ H1 Q else Q false H1
  refine ha σ H Pr Hf ρ _ S (Good.bind h fun r ρ1 _ x Hf1 H1 g1 S1 rv1 h1 => ?_)
  cases (show x = r from rv1)
  cases r with
  | true => exact iteT (hb σ H1 Pr Hf1 ρ1 _ S1 h1)
  | false => exact iteF (Good.at S1 h1 rfl)
theorem jt_or (ha : JT c tt ft) (hb : JT c tu fu) : JT c (tOr tt tu) (orM ft fu) := by
  intro σ H Pr Hf ρ Q S h
  show tt σ H fun b H1 => if b = true then Q true H1 else tu σ H1 Q
  refine ha σ H Pr Hf ρ _ S (Good.bind h fun r ρ1 _ x Hf1 H1 g1 S1 rv1 h1 => ?_)
  cases (show x = r from rv1)
  cases r with
  | true => exact iteT (Good.at S1 h1 rfl)
  | false => exact iteF (hb σ H1 Pr Hf1 ρ1 _ S1 h1)
theorem je_andV (ha : JE c ta fa) (hb : JE c tb fb) : JE c (tAndV ta tb) (andV fa fb) := by
  intro σ H Pr Hf ρ Q S h
  show ta σ H fun x H1 => ∃ k, x = .bl k ∧ if k = true then tb σ H1 Q else Q (.bl false) H1
  refine ha σ H Pr Hf ρ _ S (Good.bind h fun r ρ1 _ x Hf1 H1 g1 S1 rv1 h1 => ?_)
  match r, rv1, h1 with
  | .va (.bool true), rv1, h1 =>
    have e : Dp c.K Hf1 x (.bool true) := rv1
    cases e
    exact ⟨true, rfl, iteT (hb σ H1 Pr Hf1 ρ1 _ S1 h1)⟩
  | .va (.bool false), rv1, h1 =>
    have e : Dp c.K Hf1 x (.bool false) := rv1
    cases e
    exact ⟨false, rfl, iteF (Good.at S1 h1 (Dp.bl false))⟩
theorem je_orV (ha : JE c ta fa) (hb : JE c tb fb) : JE c (tOrV ta tb) (orV fa fb) := by
  intro σ H Pr Hf ρ Q S h
  show ta σ H fun x H1 => ∃ k, x = .bl k ∧ if k = true then Q (.bl true) H1 else tb σ H1 Q
  refine ha σ H Pr Hf ρ _ S (Good.bind h fun r ρ1 _ x Hf1 H1 g1 S1 rv1 h1 => ?_)
  match r, rv1, h1 with
  | .va (.bool true), rv1, h1 =>
    have e : Dp c.K Hf1 x (.bool true) := rv1
    cases e
    exact ⟨true, rfl, iteT (Good.at S1 h1 (Dp.bl true))⟩
  | .va (.bool false), rv1, h1 =>
    have e : Dp c.K Hf1 x (.bool false) := rv1
    cases e
    exact ⟨false, rfl, iteF (hb σ H1 Pr Hf1 ρ1 _ S1 h1)⟩
theorem je_notV (ha : JE c ta fa) : JE c (tNotV ta) (notV fa) := by
  intro σ H Pr Hf ρ Q S h
  show ta σ H fun x H1 => ∃ k, x = .bl k ∧ Q (.bl (!k)) H1
  refine ha σ H Pr Hf ρ _ S (Good.bind h fun r ρ1 _ x Hf1 H1 g1 S1 rv1 h1 => ?_)
  match r, rv1, h1 with
  | .va (.bool b), rv1, h1 =>
    have e : Dp c.K Hf1 x (.bool b) := rv1
    cases e
    exact ⟨b, rfl, Good.at S1 h1 (Dp.bl _)⟩
theorem je_if (ht : JT c tt ft) (ha : JE c ta fa) (hb : JE c tb fb) : JE c (tIf tt ta tb) (ifX ft fa fb) := by
  intro σ H Pr Hf ρ Q S h
  show tt σ H fun k H1 => if k = true then ta σ H1 Q else tb σ H1 Q
  refine ht σ H Pr Hf ρ _ S (Good.bind h fun r ρ1 _ x Hf1 H1 g1 S1 rv1 h1 => ?_)
  cases (show x = r from rv1)
  cases r with
  | true => exact iteT (ha σ H1 Pr Hf1 ρ1 _ S1 h1)
  | false => exact iteF (hb σ H1 Pr Hf1 ρ1 _ S1 h1)

/-! ### slices -/
def relO : Rel (Option Int) (Option Int) := fun _ _ _ _ _ b a => b = a
abbrev JO (c : Cn) (t : TO) (f : En → RM (Option Int)) : Prop := JG c relO t f
def noPart : En → RM (Option Int) := fun ρ => some (.ok (none, ρ))
def partM (fa : En → RM Rv) : En → RM (Option Int) := fun ρ => RM.bnd (fa ρ) fun r ρ1 => match r with
  | .va (.int i) => some (.ok (some i, ρ1))
  | _ => none
theorem jo_none : JO c tNoPart noPart := fun σ H Pr Hf ρ Q S h => Good.at S h rfl
theorem jo_some (ha : JE c ta fa) : JO c (tPart ta) (partM fa) := by
  intro σ H Pr Hf ρ Q S h
  show ta σ H fun x H1 => ∃ i, x = .int i ∧ Q (some i) H1
  refine ha σ H Pr Hf ρ _ S (Good.bind h fun r ρ1 _ x Hf1 H1 g1 S1 rv1 h1 => ?_)
  match r, rv1, h1 with
  | .va (.int b), rv1, h1 =>
    have e : Dp c.K Hf1 x (.int b) := rv1
    cases e
    exact ⟨b, rfl, Good.at S1 h1 rfl⟩
def SlcOk (K : PySem.W.Frag) (r : V → Option Int → Option Int → Hp → VK → Prop) (g : PyData → Option Int → Option Int → Option Rv) : Prop :=
  ∀ Hf H x d lo hi z Q, Same Hf H → DpN K Hf H x d → g d lo hi = some z → Fin K Hf H z Q → r x lo hi H Q
def slM (g : PyData → Option Int → Option Int → Option Rv) (fa : En → RM Rv) (fl fh : En → RM (Option Int)) : En → RM Rv := fun ρ =>
  RM.bnd (fa ρ) fun ra ρ1 => RM.bnd (fl ρ1) fun lo ρ2 => RM.bnd (fh ρ2) fun hi ρ3 => lk ρ3 ra fun d => ob (g d lo hi) ρ3
theorem je_sl {r : V → Option Int → Option Int → Hp → VK → Prop} {g : PyData → Option Int → Option Int → Option Rv} {tl th : TO} {fl fh : En → RM (Option Int)} (hr : SlcOk c.K r g) (ha : JE c ta fa) (hl : JO c tl fl) (hh : JO c th fh) : JE c (tSl r ta tl th) (slM g fa fl fh) := by
  intro σ H Pr Hf ρ Q S h
  show ta σ H fun x H1 => tl σ H1 fun l H2 => th σ H2 fun u H3 => r x l u H3 Q
  refine ha σ H Pr Hf ρ _ S (Good.bind h fun ra ρ1 _ x Hf1 H1 g1 S1 rv1 h1 => ?_)
  obtain ⟨Hf2, g2, S2, rv2⟩ := S1.fzx rv1
  refine hl σ H1 Pr Hf2 ρ1 _ S2 (Good.bind (Good.mono g2 h1) fun lo ρ2 _ y Hf3 H3 g3 S3 rv3 h3 => ?_)
  cases (show y = lo from rv3)
  refine hh σ H3 Pr Hf3 ρ2 _ S3 (Good.bind h3 fun hi ρ3 _ y2 Hf4 H4 g4 S4 rv4 h4 => ?_)
  cases (show y2 = hi from rv4)
  have rx := rv2.later (H1 := H4) (ρ1 := ρ3) (g3.1.trans g4.1)
  obtain ⟨d, l1, h5⟩ := h4.lk
  obtain ⟨z, hz, h6⟩ := h5.ob
  exact hr Hf4 H4 x d lo hi z Q S4.fz (look_ok S4 rx (by rw [Rv.look_fz]; exact l1)) hz (Good.fin S4 h6)
end
end Pl

namespace Pl
open PySem PySem.Spec PyProof.Rows L2
/-! ### slots wiped -/
theorem wipe_get : ∀ (vs : List Nat) (σ : L2.St) (i : Nat), (wipe σ vs)[i]? = if i ∈ vs then σ[i]?.map (fun _ => none) else σ[i]?
  | [], σ, i => by simp [wipe]
  | v :: vs, σ, i => by
    unfold wipe
    by_cases h : v = i
    · subst h
      rw [List.getElem?_set_self']
      have ih := wipe_get vs σ v
      rw [ih, if_pos List.mem_cons_self]
      split <;> cases σ[v]? <;> rfl
    · rw [List.getElem?_set_ne h, wipe_get vs σ i]
      have e : i ∈ v :: vs ↔ i ∈ vs := by
        rw [List.mem_cons]
        exact ⟨fun z => z.resolve_left fun q => h q.symm, .inr⟩
      by_cases q : i ∈ vs
      · rw [if_pos q, if_pos (e.mpr q)]
      · rw [if_neg q, if_neg fun z => q (e.mp z)]
def wipeE (ρ : En) : List Nat → En
  | [] => ρ
  | v :: vs => (wipeE ρ vs).set v .un
theorem wipeE_get : ∀ (vs : List Nat) (ρ : En) (i : Nat), (wipeE ρ vs)[i]? = if i ∈ vs then ρ[i]?.map (fun _ => Sl.un) else ρ[i]?
  | [], ρ, i => by simp [wipeE]
  | v :: vs, ρ, i => by
    unfold wipeE
    by_cases h : v = i
    · subst h
      rw [List.getElem?_set_self']
      have ih := wipeE_get vs ρ v
      rw [ih, if_pos List.mem_cons_self]
      split <;> cases ρ[v]? <;> rfl
    · rw [List.getElem?_set_ne h, wipeE_get vs ρ i]
      have e : i ∈ v :: vs ↔ i ∈ vs := by
        rw [List.mem_cons]
        exact ⟨fun z => z.resolve_left fun q => h q.symm, .inr⟩
      by_cases q : i ∈ vs
      · rw [if_pos q, if_pos (e.mpr q)]
      · rw [if_neg q, if_neg fun z => q (e.mp z)]
/-- σ' is σ but at the slots vs -/
def But (vs : List Nat) (σ σ' : L2.St) : Prop := wipe σ' vs = wipe σ vs
theorem But.refl (vs : List Nat) (σ : L2.St) : But vs σ σ := rfl
theorem But.trans {vs : List Nat} {σ σ1 σ2 : L2.St} (a : But vs σ σ1) (b : But vs σ1 σ2) : But vs σ σ2 := Eq.trans b a
theorem But.wipe (vs : List Nat) (σ : L2.St) : But vs σ (L2.wipe σ vs) := by
  unfold But
  apply List.ext_getElem?
  intro i
  rw [wipe_get, wipe_get]
  by_cases h : i ∈ vs
  · rw [if_pos h, if_pos h]
    cases σ[i]? <;> rfl
  · rw [if_neg h, if_neg h]
theorem But.set {vs : List Nat} {σ : L2.St} {i : Nat} {o : Option V} (h : i ∈ vs) : But vs σ (σ.set i o) := by
  unfold But
  apply List.ext_getElem?
  intro j
  rw [wipe_get, wipe_get]
  by_cases hj : i = j
  · subst hj
    rw [if_pos h, if_pos h, List.getElem?_set_self']
    cases σ[i]? <;> rfl
  · rw [List.getElem?_set_ne hj]
def noOwn (ρ : En) (vs : List Nat) : Bool := vs.all fun i => match ρ[i]? with
  | some (.ow _ _) => false
  | _ => true
def unw (ρ ρ2 : En) : List Nat → En
  | [] => ρ2
  | v :: vs => match ρ[v]? with
    | some s => (unw ρ ρ2 vs).set v s
    | none => unw ρ ρ2 vs
theorem unw_get (ρ ρ2 : En) : ∀ (vs : List Nat) (i : Nat) (s : Sl), (unw ρ ρ2 vs)[i]? = some s → (i ∈ vs ∧ ρ[i]? = some s) ∨ (i ∉ vs ∧ ρ2[i]? = some s) ∨ (ρ[i]? = none ∧ ρ2[i]? = some s)
  | [], i, s, h => .inr (.inl ⟨by simp, h⟩)
  | v :: vs, i, s, h => by
    unfold unw at h
    cases e : ρ[v]? with
    | none =>
      rw [e] at h
      rcases unw_get ρ ρ2 vs i s h with z | z | z
      · exact .inl ⟨List.mem_cons_of_mem _ z.1, z.2⟩
      · by_cases q : i = v
        · subst q
          exact .inr (.inr ⟨e, z.2⟩)
        · exact .inr (.inl ⟨fun w => (List.mem_cons.mp w).elim q z.1, z.2⟩)
      · exact .inr (.inr z)
    | some t =>
      rw [e] at h
      dsimp only at h
      by_cases q : v = i
      · subst q
        rw [List.getElem?_set_self'] at h
        cases e2 : (unw ρ ρ2 vs)[v]? with
        | none => rw [e2] at h; cases h
        | some u =>
          rw [e2] at h
          cases h
          exact .inl ⟨List.mem_cons_self, e⟩
      · rw [List.getElem?_set_ne q] at h
        rcases unw_get ρ ρ2 vs i s h with z | z | z
        · exact .inl ⟨List.mem_cons_of_mem _ z.1, z.2⟩
        · exact .inr (.inl ⟨fun w => (List.mem_cons.mp w).elim (fun w => q w.symm) z.1, z.2⟩)
        · exact .inr (.inr z)
section
variable {K : PySem.W.Frag} {vs0 : V0} {Pr Pr' Hf Hf' H H' : Hp} {σ σ' : L2.St} {ρ ρ2 : En} {v : V} {d : PyData}
theorem Sta.wiped (S : Sta K vs0 Pr Hf H σ ρ) (vs : List Nat) : Sta K vs0 Pr Hf H (wipe σ vs) (wipeE ρ vs) := by
  have own : ∀ i p, Own (wipe σ vs) (wipeE ρ vs) i p → Own σ ρ i p := fun i p ⟨⟨k, ds, e1⟩, e2⟩ => by
    rw [wipeE_get] at e1
    rw [wipe_get] at e2
    by_cases h : i ∈ vs
    · rw [if_pos h] at e1
      cases q : ρ[i]? with
      | none => rw [q] at e1; cases e1
      | some t => rw [q] at e1; cases e1
    · rw [if_neg h] at e1 e2
      exact ⟨⟨k, ds, e1⟩, e2⟩
  refine ⟨S.fz, S.pr, fun i s e => ?_, fun i j p h1 h2 => S.dj i j p (own i p h1) (own j p h2), S.tb, S.nf, S.np⟩
  rw [wipeE_get] at e
  by_cases h : i ∈ vs
  · rw [if_pos h] at e
    cases q : ρ[i]? with
    | none => rw [q] at e; cases e
    | some t =>
      rw [q] at e
      cases e
      obtain ⟨o, e1, _⟩ := S.sl i t q
      exact ⟨none, by rw [wipe_get, if_pos h, e1]; rfl, trivial⟩
  · rw [if_neg h] at e
    obtain ⟨o, e1, e2⟩ := S.sl i s e
    exact ⟨o, by rw [wipe_get, if_neg h]; exact e1, e2⟩
theorem Sta.unwiped {vs : List Nat} (S0 : Sta K vs0 Pr Hf H σ ρ) (hn : noOwn ρ vs = true) (g : Same Hf Hf') (S : Sta K vs0 Pr Hf' H' (wipe σ vs) ρ2) : Sta K vs0 Pr Hf' H' σ (unw ρ ρ2 vs) := by
  have now : ∀ i k ds, i ∈ vs → ρ[i]? ≠ some (.ow k ds) := fun i k ds hi e => by
    have := List.all_eq_true.mp hn i hi
    rw [e] at this
    cases this
  have slot : ∀ i s, (unw ρ ρ2 vs)[i]? = some s → (∃ d, s = .va d ∧ ρ[i]? = some s) ∨ (s = .un ∧ ∃ o, σ[i]? = some o) ∨ (i ∉ vs ∧ ρ2[i]? = some s) := fun i s e => by
    rcases unw_get ρ ρ2 vs i s e with ⟨hi, e1⟩ | z | ⟨e1, e2⟩
    · cases s with
      | un =>
        obtain ⟨o, q, _⟩ := S0.sl i _ e1
        exact .inr (.inl ⟨rfl, o, q⟩)
      | va d => exact .inl ⟨d, rfl, e1⟩
      | ow k ds => exact absurd e1 (now i k ds hi)
    · exact .inr (.inr z)
    · by_cases hi : i ∈ vs
      · obtain ⟨o, q1, q2⟩ := S.sl i s e2
        rw [wipe_get, if_pos hi] at q1
        cases q : σ[i]? with
        | none => rw [q] at q1; cases q1
        | some u =>
          rw [q] at q1
          cases q1
          cases s with
          | un => exact .inr (.inl ⟨rfl, u, rfl⟩)
          | va d => obtain ⟨_, z, _⟩ := q2; cases z
          | ow k ds => obtain ⟨_, _, z, _⟩ := q2; cases z
      · exact .inr (.inr ⟨hi, e2⟩)
  have own : ∀ i p, Own σ (unw ρ ρ2 vs) i p → Own (wipe σ vs) ρ2 i p := fun i p ⟨⟨k, ds, e1⟩, e2⟩ => by
    rcases slot i _ e1 with ⟨d, z, _⟩ | ⟨z, _⟩ | ⟨hi, z⟩
    · cases z
    · cases z
    · exact ⟨⟨k, ds, z⟩, by rw [wipe_get, if_neg hi]; exact e2⟩
  refine ⟨S.fz, S.pr, fun i s e => ?_, fun i j p h1 h2 => S.dj i j p (own i p h1) (own j p h2), S.tb, S.nf, S.np⟩
  rcases slot i s e with ⟨d, rfl, e1⟩ | ⟨rfl, o, e1⟩ | ⟨hi, e1⟩
  · obtain ⟨o, q1, u, q2, q3⟩ := S0.sl i _ e1
    exact ⟨o, q1, u, q2, dp_mono g _ _ q3⟩
  · exact ⟨o, e1, trivial⟩
  · obtain ⟨o, q1, q2⟩ := S.sl i s e1
    rw [wipe_get, if_neg hi] at q1
    exact ⟨o, q1, q2⟩
theorem Sta.weaken (h : Same Pr Pr') (S : Sta K vs0 Pr' Hf H σ ρ) : Sta K vs0 Pr Hf H σ ρ := by
  refine ⟨S.fz, h.trans S.pr, fun i s e => ?_, S.dj, S.tb, S.nf, fun b ps e => S.np b ps (h b _ e)⟩
  obtain ⟨o, e1, e2⟩ := S.sl i s e
  refine ⟨o, e1, ?_⟩
  cases s with
  | un => trivial
  | va d => exact e2
  | ow k ds =>
    obtain ⟨p, xs, a, b, c, d⟩ := e2
    refine ⟨p, xs, a, b, ?_, d⟩
    cases q : Pr p with
    | none => rfl
    | some o' =>
      rw [h p o' q] at c
      cases c
/-- what is protected at D changes -/
theorem Sta.bump {D : Addr} {xs ys : List V} (S : Sta K vs0 (upd Pr D (.lst xs)) Hf H σ ρ) (hD : Hf D = none) : Sta K vs0 (upd Pr D (.lst ys)) Hf (upd H D (.lst ys)) σ ρ := by
  have ow : ∀ p, upd Pr D (.lst xs) p = none → p ≠ D := fun p h z => by
    subst z
    rw [upd_same] at h
    cases h
  have np : NoT (upd Pr D (.lst ys)) := fun b ps e => by
    by_cases q : b = D
    · subst q
      rw [upd_same] at e
      cases e
    · rw [upd_ne q] at e
      exact S.np b ps (by rw [upd_ne q]; exact e)
  refine ⟨fun b u e => ?_, fun b u e => ?_, fun i s e => ?_, S.dj, tabs_upd S.tb (S.pr D _ upd_same), S.nf, np⟩
  · have hb : b ≠ D := ne_of_none e hD
    rw [upd_ne hb]
    exact S.fz b u e
  · by_cases hb : b = D
    · subst hb
      rw [upd_same] at e ⊢
      exact e
    · rw [upd_ne hb] at e ⊢
      exact S.pr b u (by rw [upd_ne hb]; exact e)
  · obtain ⟨o1, e1, e2⟩ := S.sl i s e
    refine ⟨o1, e1, ?_⟩
    cases s with
    | un => trivial
    | va d => exact e2
    | ow k ds =>
      obtain ⟨p, zs, a, b, c, d, r⟩ := e2
      have hp := ow p c
      rw [upd_ne hp] at c
      exact ⟨p, zs, a, b, by rw [upd_ne hp]; exact c, by rw [upd_ne hp]; exact d, r⟩
/-- a slot gets a value -/
theorem Sta.setVa (S : Sta K vs0 Pr Hf H σ ρ) (hv : Dp K Hf v d) (i : Nat) : Sta K vs0 Pr Hf H (σ.set i (some v)) (ρ.set i (.va d)) := by
  have own : ∀ j p, Own (σ.set i (some v)) (ρ.set i (.va d)) j p → Own σ ρ j p := fun j p ⟨⟨k, ds, e1⟩, e2⟩ => by
    by_cases h : i = j
    · subst h
      rw [List.getElem?_set_self'] at e1
      cases q : ρ[i]? with
      | none => rw [q] at e1; cases e1
      | some t => rw [q] at e1; cases e1
    · rw [List.getElem?_set_ne h] at e1 e2
      exact ⟨⟨k, ds, e1⟩, e2⟩
  refine ⟨S.fz, S.pr, fun j s e => ?_, fun a b p h1 h2 => S.dj a b p (own a p h1) (own b p h2), S.tb, S.nf, S.np⟩
  by_cases h : i = j
  · subst h
    rw [List.getElem?_set_self'] at e ⊢
    cases q : ρ[i]? with
    | none => rw [q] at e; cases e
    | some t =>
      rw [q] at e
      cases e
      obtain ⟨o, e1, _⟩ := S.sl i t q
      exact ⟨some v, by rw [e1]; rfl, v, rfl, hv⟩
  · rw [List.getElem?_set_ne h] at e ⊢
    exact S.sl j s e
theorem Sta.setNw {ds : List PyData} (S : Sta K vs0 Pr Hf H σ ρ) (hv : RvOk K Pr Hf H σ ρ v (.nw ds)) (i : Nat) : Sta K vs0 Pr Hf H (σ.set i (some v)) (ρ.set i (.ow 0 ds)) := by
  obtain ⟨p, xs, rfl, h1, h2, h3, h4, h5⟩ := hv
  have own : ∀ j q, Own (σ.set i (some (V.ref p))) (ρ.set i (.ow 0 ds)) j q → (j = i ∧ q = p) ∨ (j ≠ i ∧ Own σ ρ j q) := fun j q ⟨⟨k, es, e1⟩, e2⟩ => by
    by_cases h : i = j
    · subst h
      rw [List.getElem?_set_self'] at e1 e2
      cases w : σ[i]? with
      | none => rw [w] at e2; cases e2
      | some t =>
        rw [w] at e2
        cases e2
        exact .inl ⟨rfl, rfl⟩
    · rw [List.getElem?_set_ne h] at e1 e2
      exact .inr ⟨fun z => h z.symm, ⟨k, es, e1⟩, e2⟩
  refine ⟨S.fz, S.pr, fun j s e => ?_, fun a b q w1 w2 => ?_, S.tb, S.nf, S.np⟩
  · by_cases h : i = j
    · subst h
      rw [List.getElem?_set_self'] at e ⊢
      cases q : ρ[i]? with
      | none => rw [q] at e; cases e
      | some t =>
        rw [q] at e
        cases e
        obtain ⟨o, e1, _⟩ := S.sl i t q
        exact ⟨some (.ref p), by rw [e1]; rfl, p, xs, rfl, h1, h2, h3, h4, fun z => absurd rfl z⟩
    · rw [List.getElem?_set_ne h] at e ⊢
      exact S.sl j s e
  · rcases own a q w1 with ⟨a1, a2⟩ | ⟨a1, a2⟩
    · rcases own b q w2 with ⟨b1, b2⟩ | ⟨b1, b2⟩
      · rw [a1, b1]
      · exact absurd (a2 ▸ b2) (h5 b)
    · rcases own b q w2 with ⟨b1, b2⟩ | ⟨b1, b2⟩
      · exact absurd (b2 ▸ a2) (h5 a)
      · exact S.dj a b q a2 b2
/-- a list of its own is written -/
theorem Sta.wr {i k : Nat} {p : Addr} {ds es : List PyData} {ys : List V} (S : Sta K vs0 Pr Hf H σ ρ) (hr : ρ[i]? = some (.ow k ds)) (hs : σ[i]? = some (some (.ref p))) (ha : DpAll K Hf ys es) : Sta K vs0 Pr Hf (upd H p (.lst ys)) σ (ρ.set i (.ow k es)) := by
  obtain ⟨o, e1, p', xs, e2, h1, h2, h3, h4, h5⟩ := S.sl i _ hr
  rw [hs] at e1
  cases e1
  cases e2
  have own : ∀ j q, Own σ (ρ.set i (.ow k es)) j q → Own σ ρ j q := fun j q ⟨⟨k', fs, e1⟩, e2⟩ => by
    by_cases h : i = j
    · subst h
      exact ⟨⟨k, ds, hr⟩, e2⟩
    · rw [List.getElem?_set_ne h] at e1
      exact ⟨⟨k', fs, e1⟩, e2⟩
  refine ⟨fun b u e => ?_, fun b u e => ?_, fun j s e => ?_, fun a b q w1 w2 => S.dj a b q (own a q w1) (own b q w2), tabs_upd S.tb h3, S.nf, S.np⟩
  · rw [upd_ne (ne_of_none e h1)]
    exact S.fz b u e
  · rw [upd_ne (ne_of_none e h2)]
    exact S.pr b u e
  · by_cases h : i = j
    · subst h
      rw [get_set_eq hr] at e
      cases e
      exact ⟨_, hs, p, ys, rfl, h1, h2, upd_same, ha, h5⟩
    · rw [List.getElem?_set_ne h] at e
      obtain ⟨o, f1, f2⟩ := S.sl j s e
      refine ⟨o, f1, ?_⟩
      cases s with
      | un => trivial
      | va d => exact f2
      | ow k' fs =>
        obtain ⟨q, zs, f3, k1, k2, k3, k4⟩ := f2
        have nq : q ≠ p := fun z => by
          subst z
          exact h (S.dj i j q ⟨⟨k, ds, hr⟩, hs⟩ ⟨⟨k', fs, e⟩, by rw [f1, f3]⟩)
        exact ⟨q, zs, f3, k1, k2, by rw [upd_ne nq]; exact k3, k4⟩
end

/-! ### what a loop walks -/
def WOk (K : PySem.W.Frag) (J : It) (Hf : Hp) (items : List PyData) : Prop := ∀ Hf1 H i, Same Hf Hf1 → Same Hf1 H →
  (items.length ≤ i → J.stop i H) ∧ ∀ d, items[i]? = some d → J.go i H ∧ ∀ x H', J.yld i H x H' → ∃ Hf', Gro H Hf1 Hf' ∧ Same Hf' H' ∧ Same H H' ∧ Dp K Hf' x d
def relI (K : PySem.W.Frag) : Rel (List PyData) It := fun _ Hf _ _ _ J items => WOk K J Hf items
abbrev JI (c : Cn) (t : TI) (f : En → RM (List PyData)) : Prop := JG c (relI c.K) t f
def iSeq (K : PySem.W.Frag) (tl : TE) : TI := fun σ H R => tl σ H fun x H1 => ∃ a xs, x = .ref a ∧ ((SqL K H1 a xs ∧ R (Itl K a) H1) ∨ (SqT K H1 a xs ∧ R (Itt K a) H1))
theorem pi_seq {X : Cx} {tg l : Expr} {tl : TE} (hl : PE X l tl) : PI X tg l (iSeq X.K tl) := by
  refine ⟨fun pins s σ H R I h => ?_⟩
  refine thn (hl.run pins s σ H _ I h) fun v s1 ⟨x, H1, I1, r1, q1⟩ => ?_
  obtain ⟨a, xs, e, q⟩ := q1
  subst e
  cases r1
  rcases q with ⟨hq, q⟩ | ⟨hq, q⟩
  · obtain ⟨its, rv, p, hz⟩ := I1.list hq
    refine wpAny_pyIter_list p.isList ?_
    refine ⟨s1.heap.objs.size, [s1.heap.objs.size], _, _, H1, rfl, I1.kept (t' := s1.toks) fun b o e => Heap.get?_push_of_some _ e, turn_list a _, ⟨_, Heap.get?_push_size _ rfl, rfl, rfl⟩, fun b hb => ?_, q⟩
    have e : b = s1.heap.objs.size := by simpa using hb
    subst e
    exact I1.fpOk (Nat.le_refl _) (I1.hok.fresh (Nat.le_refl _))
  · obtain ⟨its, rv, p, hz⟩ := I1.tuple hq
    refine wpAny_pyIter_tuple (show s1.heap.IsTuple a its.toArray from p) ?_
    refine ⟨s1.heap.objs.size, [s1.heap.objs.size], _, _, H1, rfl, I1.kept (t' := s1.toks) fun b o e => Heap.get?_push_of_some _ e, turn_tuple a _, ⟨_, Heap.get?_push_size _ rfl, rfl, rfl⟩, fun b hb => ?_, q⟩
    have e : b = s1.heap.objs.size := by simpa using hb
    subst e
    exact I1.fpOk (Nat.le_refl _) (I1.hok.fresh (Nat.le_refl _))
def seqItems : PyData → Option (List PyData)
  | .list ds => some ds
  | .tuple ds => some ds
  | _ => none
def seqM (fa : En → RM Rv) : En → RM (List PyData) := fun ρ => RM.bnd (fa ρ) fun r ρ1 => RM.bnd (fzR r ρ1) fun d ρ2 => ob (seqItems d) ρ2
theorem wok_list {K : PySem.W.Frag} {Hf : Hp} {a : Addr} {xs : List V} {ds : List PyData} (h : SqL K Hf a xs) (ha : DpAll K Hf xs ds) : WOk K (Itl K a) Hf ds := by
  intro Hf1 H i s1 s2
  have hq : SqL K H a xs := s2.seq (s1.seq h)
  refine ⟨fun hi => ⟨xs, hq, by rw [dpa_len ha]; exact hi⟩, fun d hd => ?_⟩
  obtain ⟨v, e, hv⟩ := dpa_get' ha hd
  refine ⟨⟨xs, v, hq, e⟩, fun x H' y => ?_⟩
  obtain ⟨e1, e2⟩ := y
  subst e1
  have e3 := e2 xs hq
  rw [e] at e3
  cases e3
  exact ⟨Hf1, Gro.refl _ _, s2, Same.refl _, dp_mono s1 _ _ hv⟩
theorem wok_tup {K : PySem.W.Frag} {Hf : Hp} {a : Addr} {xs : List V} {ds : List PyData} (h : SqT K Hf a xs) (ha : DpAll K Hf xs ds) : WOk K (Itt K a) Hf ds := by
  intro Hf1 H i s1 s2
  have hq : SqT K H a xs := same_t s2 (same_t s1 h)
  refine ⟨fun hi => ⟨xs, hq, by rw [dpa_len ha]; exact hi⟩, fun d hd => ?_⟩
  obtain ⟨v, e, hv⟩ := dpa_get' ha hd
  refine ⟨⟨xs, v, hq, e⟩, fun x H' y => ?_⟩
  obtain ⟨e1, e2⟩ := y
  subst e1
  have e3 := e2 xs hq
  rw [e] at e3
  cases e3
  exact ⟨Hf1, Gro.refl _ _, s2, Same.refl _, dp_mono s1 _ _ hv⟩
section
variable {c : Cn} {ta tb te : TE} {tr : TA} {fa fb fe : En → RM Rv} {fr : En → RM (List Rv)} {tt tu : TT} {ft fu : En → RM Bool}
theorem ji_seq (ha : JE c ta fa) : JI c (iSeq c.K ta) (seqM fa) := by
  intro σ H Pr Hf ρ R S h
  show ta σ H fun x H1 => _
  refine ha σ H Pr Hf ρ _ S (Good.bind h fun r ρ1 _ x Hf1 H1 g1 S1 rv1 h1 => ?_)
  obtain ⟨d, ρ2, e, h2⟩ := Good.step (δ := Nat) h1 fun e => fzR_noerr
  obtain ⟨Hf2, g2, S2, hd⟩ := S1.fzr rv1 e
  obtain ⟨ds, e2, h3⟩ := h2.ob
  cases d with
  | list es =>
    cases e2
    cases hd with
    | lst hs hq => exact ⟨_, _, rfl, .inl ⟨S2.fz.seq hs, Good.at S2 (Good.mono g2 h3) (wok_list hs hq)⟩⟩
  | tuple es =>
    cases e2
    cases hd with
    | tup hs hq => exact ⟨_, _, rfl, .inr ⟨same_t S2.fz hs, Good.at S2 (Good.mono g2 h3) (wok_tup hs hq)⟩⟩
  | _ => cases e2
def rngI (lo : Int) (n : Nat) : List PyData := (List.range n).map fun (i : Nat) => PyData.int (lo + (i : Int))
theorem wok_rng {K : PySem.W.Frag} {Hf : Hp} (lo : Int) (n : Nat) : WOk K (Itr lo n) Hf (rngI lo n) := by
  intro Hf1 H i s1 s2
  refine ⟨fun hi => ?_, fun d hd => ?_⟩
  · unfold rngI at hi
    rw [List.length_map, List.length_range] at hi
    exact hi
  · unfold rngI at hd
    rw [List.getElem?_map] at hd
    cases e : (List.range n)[i]? with
    | none => rw [e] at hd; cases hd
    | some j =>
      rw [e] at hd
      cases hd
      have hi : i < n := by
        have := (List.getElem?_eq_some_iff.mp e).1
        rwa [List.length_range] at this
      have ej : j = i := by
        rw [List.getElem?_range hi] at e
        exact (Option.some.inj e).symm
      subst ej
      refine ⟨hi, fun x H' y => ?_⟩
      obtain ⟨e1, e2⟩ := y
      subst e1 e2
      exact ⟨Hf1, Gro.refl _ _, s2, Same.refl _, .int _⟩
def small62 (i : Int) : Bool := decide (-(2 ^ 62) ≤ i) && decide (i < 2 ^ 62)
theorem small62_of {i : Int} (h : small62 i = true) : -(2 ^ 62) ≤ i ∧ i < 2 ^ 62 := by
  unfold small62 at h
  rw [Bool.and_eq_true] at h
  exact ⟨of_decide_eq_true h.1, of_decide_eq_true h.2⟩
def intR : Rv → Option Int
  | .va (.int j) => some j
  | _ => none
def intsR : List Rv → Option (List Int)
  | [] => some []
  | r :: rs => match intR r, intsR rs with
    | some j, some js => some (j :: js)
    | _, _ => none
def rng1M (fr : En → RM (List Rv)) : En → RM (List PyData) := fun ρ => RM.bnd (fr ρ) fun rs ρ1 => match intsR rs with
  | some [j] => ck (small62 j) (some (.ok (rngI 0 j.toNat, ρ1)))
  | _ => none
def rng2M (fr : En → RM (List Rv)) : En → RM (List PyData) := fun ρ => RM.bnd (fr ρ) fun rs ρ1 => match intsR rs with
  | some [i, j] => ck (small62 i && small62 j) (some (.ok (rngI i (j - i).toNat, ρ1)))
  | _ => none
theorem rv_int {K : PySem.W.Frag} {Pr Hf H : Hp} {σ : L2.St} {ρ : En} {v : V} {r : Rv} {i : Int} (h : RvOk K Pr Hf H σ ρ v r) (e : intR r = some i) : v = .int i := by
  match r, h, e with
  | .va (.int j), h, e =>
    cases e
    have h' : Dp K Hf v (.int i) := h
    cases h'
    rfl
theorem rv_ints {K : PySem.W.Frag} {Pr Hf H : Hp} {σ : L2.St} {ρ : En} : ∀ {vs : List V} {rs : List Rv} {is : List Int}, RvAll K Pr Hf H σ ρ vs rs → intsR rs = some is → vs = is.map V.int
  | _, _, _, .nil, e => by cases e; rfl
  | _, _, is, .cons (r := r) (rs := rs) h1 h2, e => by
    unfold intsR at e
    cases e1 : intR r.fz with
    | none => rw [e1] at e; cases e
    | some j =>
      rw [e1] at e
      cases e2 : intsR rs with
      | none => rw [e2] at e; cases e
      | some js =>
        rw [e2] at e
        cases e
        rw [rv_int h1 e1, rv_ints h2 e2]
        rfl
theorem ji_rng1 (ha : JA c tr fr) : JI c (iRng1 tr) (rng1M fr) := by
  intro σ H Pr Hf ρ R S h
  show tr σ H fun vs H1 => ∃ j : Int, vs = [.int j] ∧ -(2 ^ 62) ≤ j ∧ j < 2 ^ 62 ∧ R (Itr 0 j.toNat) H1
  refine ha σ H Pr Hf ρ _ S (Good.bind h fun rs ρ1 _ xs Hf1 H1 g1 S1 rv1 h1 => ?_)
  match e : intsR rs, h1 with
  | some [j], h1 =>
    obtain ⟨hb, h2⟩ := Good.ck h1
    obtain ⟨b1, b2⟩ := small62_of hb
    exact ⟨j, rv_ints rv1 e, b1, b2, Good.at S1 h2 (wok_rng 0 j.toNat)⟩
  | some [], h1 => exact h1.elim
  | some (_ :: _ :: _), h1 => exact h1.elim
  | none, h1 => exact h1.elim
theorem ji_rng2 (ha : JA c tr fr) : JI c (iRng2 tr) (rng2M fr) := by
  intro σ H Pr Hf ρ R S h
  show tr σ H fun vs H1 => ∃ i j : Int, vs = [.int i, .int j] ∧ (-(2 ^ 62) ≤ i ∧ i < 2 ^ 62 ∧ -(2 ^ 62) ≤ j ∧ j < 2 ^ 62) ∧ R (Itr i (j - i).toNat) H1
  refine ha σ H Pr Hf ρ _ S (Good.bind h fun rs ρ1 _ xs Hf1 H1 g1 S1 rv1 h1 => ?_)
  match e : intsR rs, h1 with
  | some [i, j], h1 =>
    obtain ⟨hb, h2⟩ := Good.ck h1
    rw [Bool.and_eq_true] at hb
    obtain ⟨b1, b2⟩ := small62_of hb.1
    obtain ⟨b3, b4⟩ := small62_of hb.2
    exact ⟨i, j, rv_ints rv1 e, ⟨b1, b2, b3, b4⟩, Good.at S1 h2 (wok_rng i _)⟩
  | some [], h1 => exact h1.elim
  | some [_], h1 => exact h1.elim
  | some (_ :: _ :: _ :: _), h1 => exact h1.elim
  | none, h1 => exact h1.elim
end

/-! ### targets -/
abbrev Sto := PyData → En → Option En
def GOk (K : PySem.W.Frag) (vs0 : V0) (is : List Nat) (g : TG) (sto : Sto) : Prop :=
  ∀ v d σ H Pr Hf ρ ρ' (Q : L2.St → Hp → Prop), Sta K vs0 Pr Hf H σ ρ → Dp K Hf v d → sto d ρ = some ρ' → (∀ σ', Sta K vs0 Pr Hf H σ' ρ' → But is σ σ' → Q σ' H) → g v σ H Q
def stoN (i : Nat) : Sto := fun d ρ => some (ρ.set i (.va d))
theorem g_name {K : PySem.W.Frag} {vs0 : V0} (i : Nat) : GOk K vs0 [i] (gName i) (stoN i) := by
  intro v d σ H Pr Hf ρ ρ' Q S hd e k
  cases e
  exact k _ (S.setVa hd i) (But.set List.mem_cons_self)
abbrev Stos := List PyData → En → Option En
def GsOk (K : PySem.W.Frag) (vs0 : V0) (is : List Nat) (g : TGs) (sto : Stos) : Prop :=
  ∀ vs ds σ H Pr Hf ρ ρ' (Q : L2.St → Hp → Prop), Sta K vs0 Pr Hf H σ ρ → DpAll K Hf vs ds → sto ds ρ = some ρ' → (∀ σ', Sta K vs0 Pr Hf H σ' ρ' → But is σ σ' → Q σ' H) → g vs σ H Q
def stosNil : Stos := fun ds ρ => match ds with
  | [] => some ρ
  | _ => none
def stosCons (f : Sto) (g : Stos) : Stos := fun ds ρ => match ds with
  | d :: ds => (f d ρ).bind fun ρ1 => g ds ρ1
  | [] => none
theorem gs_nil {K : PySem.W.Frag} {vs0 : V0} : GsOk K vs0 [] gNil stosNil := by
  intro vs ds σ H Pr Hf ρ ρ' Q S hd e k
  match vs, ds, hd with
  | _, _, .nil =>
    cases e
    exact ⟨rfl, k σ S (But.refl _ _)⟩
theorem But.app {is js : List Nat} {σ σ1 σ2 : L2.St} (a : But is σ σ1) (b : But js σ1 σ2) : But (is ++ js) σ σ2 := by
  unfold But at *
  apply List.ext_getElem?
  intro i
  have a' := congrArg (fun l => l[i]?) a
  have b' := congrArg (fun l => l[i]?) b
  simp only [wipe_get] at a' b' ⊢
  have ha : σ2[i]?.map (fun _ => (none : Option V)) = σ1[i]?.map (fun _ => none) := by
    by_cases h : i ∈ js
    · rw [if_pos h, if_pos h] at b'
      exact b'
    · rw [if_neg h, if_neg h] at b'
      rw [b']
  have hb : σ1[i]?.map (fun _ => (none : Option V)) = σ[i]?.map (fun _ => none) := by
    by_cases h : i ∈ is
    · rw [if_pos h, if_pos h] at a'
      exact a'
    · rw [if_neg h, if_neg h] at a'
      rw [a']
  by_cases h1 : i ∈ is ++ js
  · rw [if_pos h1, if_pos h1, ha, hb]
  · rw [if_neg h1, if_neg h1]
    rw [List.mem_append] at h1
    rw [if_neg fun z => h1 (.inl z), if_neg fun z => h1 (.inl z)] at a'
    rw [if_neg fun z => h1 (.inr z), if_neg fun z => h1 (.inr z)] at b'
    rw [b', a']
theorem gs_cons {K : PySem.W.Frag} {vs0 : V0} {is js : List Nat} {g : TG} {gs : TGs} {f : Sto} {fs : Stos} (h1 : GOk K vs0 is g f) (h2 : GsOk K vs0 js gs fs) : GsOk K vs0 (is ++ js) (gCons g gs) (stosCons f fs) := by
  intro vs ds σ H Pr Hf ρ ρ' Q S hd e k
  match vs, ds, hd with
  | v :: vs, d :: ds, .cons a b =>
    dsimp only [stosCons] at e
    cases q : f d ρ with
    | none => rw [q] at e; cases e
    | some ρ1 =>
      rw [q] at e
      exact ⟨v, vs, rfl, h1 v d σ H Pr Hf ρ ρ1 _ S a q fun σ1 S1 b1 => h2 vs ds σ1 H Pr Hf ρ1 ρ' Q S1 b e fun σ2 S2 b2 => k σ2 S2 (b1.app b2)⟩
  | [], d :: ds, h => cases h
  | v :: vs, [], h => cases h
  | [], [], h => cases e
def stoT (n : Nat) (fs : Stos) : Sto := fun d ρ => match d with
  | .tuple ds => match decide (ds.length = n) with
    | true => fs ds ρ
    | false => none
  | _ => none
theorem g_tup {K : PySem.W.Frag} {vs0 : V0} {is : List Nat} {n : Nat} {gs : TGs} {fs : Stos} (h : GsOk K vs0 is gs fs) : GOk K vs0 is (gTup K n gs) (stoT n fs) := by
  intro v d σ H Pr Hf ρ ρ' Q S hd e k
  cases d with
  | tuple ds =>
    dsimp only [stoT] at e
    cases q : decide (ds.length = n) with
    | false => rw [q] at e; cases e
    | true =>
      rw [q] at e
      cases hd with
      | tup hs ha => exact ⟨_, _, rfl, same_t S.fz hs, by rw [dpa_len ha]; exact of_decide_eq_true q, h _ ds σ H Pr Hf ρ ρ' Q S ha e k⟩
  | _ => cases e

/-! ### statements -/
inductive Ot where
  | nx | rt (r : Rv) | bk | ct
def GoodS (c : Cn) (Pr Hf : Hp) (Dn : Ends) : RM Ot → Prop
  | none => False
  | some (.ok (.nx, ρ')) => ∀ σ' Hf' H', Gro Pr Hf Hf' → Sta c.K c.vs0 Pr Hf' H' σ' ρ' → Dn.nx σ' H'
  | some (.ok (.bk, ρ')) => ∀ σ' Hf' H', Gro Pr Hf Hf' → Sta c.K c.vs0 Pr Hf' H' σ' ρ' → Dn.bk σ' H'
  | some (.ok (.ct, ρ')) => ∀ σ' Hf' H', Gro Pr Hf Hf' → Sta c.K c.vs0 Pr Hf' H' σ' ρ' → Dn.ct σ' H'
  | some (.ok (.rt r, ρ')) => ∀ v σ' Hf' H', Gro Pr Hf Hf' → Sta c.K c.vs0 Pr Hf' H' σ' ρ' → RvOk c.K Pr Hf' H' σ' ρ' v r → Dn.rt v H'
  | some (.error (x, ρ')) => ∀ cls dx σ' Hf' H', Gro Pr Hf Hf' → Sta c.K c.vs0 Pr Hf' H' σ' ρ' → XOk c.T c.K Hf' H' x cls dx → c.E σ' cls dx H'
def JS (c : Cn) (t : TS) (f : En → RM Ot) : Prop := ∀ Dn σ H Pr Hf ρ, Sta c.K c.vs0 Pr Hf H σ ρ → GoodS c Pr Hf Dn (f ρ) → t Dn σ H
section
variable {c : Cn} {Pr Hf Hf1 H : Hp} {σ : L2.St} {Dn : Ends} {ρ : En}
theorem GoodS.mono {m : RM Ot} (g : Gro Pr Hf Hf1) (h : GoodS c Pr Hf Dn m) : GoodS c Pr Hf1 Dn m := by
  match m, h with
  | some (.ok (.nx, ρ')), h => exact fun σ' Hf' H' g' => h σ' Hf' H' (g.trans g')
  | some (.ok (.bk, ρ')), h => exact fun σ' Hf' H' g' => h σ' Hf' H' (g.trans g')
  | some (.ok (.ct, ρ')), h => exact fun σ' Hf' H' g' => h σ' Hf' H' (g.trans g')
  | some (.ok (.rt r, ρ')), h => exact fun v σ' Hf' H' g' => h v σ' Hf' H' (g.trans g')
  | some (.error (x, ρ')), h => exact fun cls dx σ' Hf' H' g' => h cls dx σ' Hf' H' (g.trans g')
theorem GoodS.bind {α β : Type} {rel : Rel α β} {Q1 : β → Hp → Prop} {m : RM α} {g : α → En → RM Ot} (h : GoodS c Pr Hf Dn (RM.bnd m g))
    (k : ∀ r ρ1, m = some (.ok (r, ρ1)) → ∀ v Hf1 H1, Gro Pr Hf Hf1 → Sta c.K c.vs0 Pr Hf1 H1 σ ρ1 → rel Pr Hf1 H1 σ ρ1 v r → GoodS c Pr Hf1 Dn (g r ρ1) → Q1 v H1) : Good c rel Pr Hf σ Q1 m := by
  match m, h with
  | some (.ok (r, ρ')), h => exact fun v Hf' H' g' S rv => k r ρ' rfl v Hf' H' g' S rv (GoodS.mono g' h)
  | some (.error (x, ρ')), h => exact fun cls dx Hf' H' g' S xo => h cls dx σ Hf' H' g' S xo
theorem GoodS.step {γ : Type} {m : RM γ} {g : γ → En → RM Ot} (h : GoodS c Pr Hf Dn (RM.bnd m g)) (ne : ∀ e, m ≠ some (.error e)) : ∃ r ρ1, m = some (.ok (r, ρ1)) ∧ GoodS c Pr Hf Dn (g r ρ1) := by
  cases m with
  | none => exact h.elim
  | some q =>
    cases q with
    | error e => exact absurd rfl (ne e)
    | ok q => exact ⟨q.1, q.2, rfl, h⟩
theorem GoodS.nx (S : Sta c.K c.vs0 Pr Hf H σ ρ) (h : GoodS c Pr Hf Dn (some (.ok (.nx, ρ)))) : Dn.nx σ H := h σ Hf H (Gro.refl _ _) S
end
def nxM : En → RM Ot := fun ρ => some (.ok (.nx, ρ))
def bkM : En → RM Ot := fun ρ => some (.ok (.bk, ρ))
def ctM : En → RM Ot := fun ρ => some (.ok (.ct, ρ))
def sqM (f g : En → RM Ot) : En → RM Ot := fun ρ => RM.bnd (f ρ) fun o ρ1 => match o with
  | .nx => g ρ1
  | o => some (.ok (o, ρ1))
def ifM (t : En → RM Bool) (f g : En → RM Ot) : En → RM Ot := fun ρ => RM.bnd (t ρ) fun b ρ1 => match b with
  | true => f ρ1
  | false => g ρ1
def asgM (i : Nat) (fe : En → RM Rv) : En → RM Ot := fun ρ => RM.bnd (fe ρ) fun r ρ1 => match r with
  | .va d => some (.ok (.nx, ρ1.set i (.va d)))
  | .nw ds => some (.ok (.nx, ρ1.set i (.ow 0 ds)))
  | .sl j => match fzS ρ1 j with
    | some (d, ρ2) => some (.ok (.nx, ρ2.set i (.va d)))
    | none => none
def unpM (sto : Sto) (fe : En → RM Rv) : En → RM Ot := fun ρ => RM.bnd (fe ρ) fun r ρ1 => RM.bnd (fzR r ρ1) fun d ρ2 => match sto d ρ2 with
  | some ρ3 => some (.ok (.nx, ρ3))
  | none => none
def retM (fe : En → RM Rv) : En → RM Ot := fun ρ => RM.bnd (fe ρ) fun r ρ1 => some (.ok (.rt r, ρ1))
def retNM : En → RM Ot := fun ρ => some (.ok (.rt (.va .none), ρ))
def neverM : En → RM Ot := fun _ => none
def dropM (fe : En → RM Rv) : En → RM Ot := fun ρ => RM.bnd (fe ρ) fun _ ρ1 => some (.ok (.nx, ρ1))
def augM (i : Nat) (g : Int → Int → Int) (fe : En → RM Rv) : En → RM Ot := fun ρ => match ρ[i]? with
  | some (.va (.int a)) => RM.bnd (fe ρ) fun r ρ1 => match r with
    | .va (.int b) => some (.ok (.nx, ρ1.set i (.va (.int (g a b)))))
    | _ => none
  | _ => none
def parM (i j : Nat) (fr : En → RM (List Rv)) : En → RM Ot := fun ρ => RM.bnd (fr ρ) fun rs ρ1 => RM.bnd (fzAll rs ρ1) fun ds ρ2 => match ds with
  | [d, e] => some (.ok (.nx, (ρ2.set i (.va d)).set j (.va e)))
  | _ => none
def parNM (i j : Nat) (fa fb : En → RM Rv) : En → RM Ot := fun ρ => RM.bnd (fa ρ) fun ra ρ1 => RM.bnd (fb ρ1) fun rb ρ2 => match ra, rb with
  | .nw ds, .nw es => some (.ok (.nx, (ρ2.set i (.ow 0 ds)).set j (.ow 0 es)))
  | _, _ => none
def appM (i : Nat) (fe : En → RM Rv) : En → RM Ot := fun ρ => match ρ[i]? with
  | some (.ow _ _) => RM.bnd (fe ρ) fun r ρ1 => RM.bnd (fzR r ρ1) fun d ρ2 => match ρ2[i]? with
    | some (.ow k ds) => ck (few ds) (some (.ok (.nx, ρ2.set i (.ow k (ds ++ [d])))))
    | _ => none
  | _ => none
def extM (i : Nat) (fe : En → RM Rv) : En → RM Ot := fun ρ => match ρ[i]? with
  | some (.ow _ _) => RM.bnd (fe ρ) fun r ρ1 => match r, ρ1[i]? with
    | .nw es, some (.ow k ds) => ck (few (ds ++ es)) (some (.ok (.nx, ρ1.set i (.ow k (ds ++ es)))))
    | _, _ => none
  | _ => none
def setM (i : Nat) (fe fi : En → RM Rv) : En → RM Ot := fun ρ => RM.bnd (fe ρ) fun r ρ1 => RM.bnd (fzR r ρ1) fun d ρ2 => match ρ2[i]? with
  | some (.ow _ _) => RM.bnd (fi ρ2) fun ri ρ3 => match ri, ρ3[i]? with
    | .va (.int n), some (.ow k ds) => match ixN ds.length n with
      | some j => some (.ok (.nx, ρ3.set i (.ow k (ds.set j d))))
      | none => none
    | _, _ => none
  | _ => none
section
variable {c : Cn} {ta tb te ti : TE} {tr : TA} {fa fb fe fi : En → RM Rv} {fr : En → RM (List Rv)} {tt tu : TT} {ft fu : En → RM Bool} {t1 t2 : TS} {f1 f2 : En → RM Ot}
theorem js_next : JS c tNext nxM := fun Dn σ H Pr Hf ρ S h => GoodS.nx S h
theorem js_break : JS c tBreak bkM := fun Dn σ H Pr Hf ρ S h => h σ Hf H (Gro.refl _ _) S
theorem js_cont : JS c tCont ctM := fun Dn σ H Pr Hf ρ S h => h σ Hf H (Gro.refl _ _) S
theorem js_never : JS c tNever neverM := fun Dn σ H Pr Hf ρ S h => h
theorem js_seq (h1 : JS c t1 f1) (h2 : JS c t2 f2) : JS c (tSeq t1 t2) (sqM f1 f2) := by
  intro Dn σ H Pr Hf ρ S h
  show t1 { Dn with nx := t2 Dn } σ H
  refine h1 _ σ H Pr Hf ρ S ?_
  unfold sqM at h
  match f1 ρ, h with
  | some (.ok (.nx, ρ')), h => exact fun σ' Hf' H' g S' => h2 Dn σ' H' Pr Hf' ρ' S' (GoodS.mono g h)
  | some (.ok (.bk, ρ')), h => exact h
  | some (.ok (.ct, ρ')), h => exact h
  | some (.ok (.rt r, ρ')), h => exact h
  | some (.error (x, ρ')), h => exact h
theorem js_if (ht : JT c tt ft) (h1 : JS c t1 f1) (h2 : JS c t2 f2) : JS c (tIfS tt t1 t2) (ifM ft f1 f2) := by
  intro Dn σ H Pr Hf ρ S h
  show tt σ H fun b H1 => if b = true then t1 Dn σ H1 else t2 Dn σ H1
  refine ht σ H Pr Hf ρ _ S (GoodS.bind h fun r ρ1 _ x Hf1 H1 g1 S1 rv1 h1' => ?_)
  cases (show x = r from rv1)
  cases r with
  | true => exact iteT (h1 Dn σ H1 Pr Hf1 ρ1 S1 h1')
  | false => exact iteF (h2 Dn σ H1 Pr Hf1 ρ1 S1 h1')
theorem js_asg {i : Nat} (he : JE c te fe) : JS c (tAsg te (gName i)) (asgM i fe) := by
  intro Dn σ H Pr Hf ρ S h
  show te σ H fun x H1 => Dn.nx (σ.set i (some x)) H1
  refine he σ H Pr Hf ρ _ S (GoodS.bind h fun r ρ1 _ x Hf1 H1 g1 S1 rv1 h1 => ?_)
  cases r with
  | va d => exact GoodS.nx (S1.setVa rv1 i) h1
  | nw ds => exact GoodS.nx (S1.setNw rv1 i) h1
  | sl j =>
    dsimp only at h1
    cases e : fzS ρ1 j with
    | none => rw [e] at h1; exact h1.elim
    | some q =>
      obtain ⟨d, ρ2⟩ := q
      rw [e] at h1
      obtain ⟨Hf2, g2, S2, hd⟩ := S1.fzs (show σ[j]? = some (some x) from rv1) e
      exact GoodS.nx (S2.setVa hd i) (GoodS.mono g2 h1)
theorem js_unp {is : List Nat} {g : TG} {sto : Sto} (hg : GOk c.K c.vs0 is g sto) (he : JE c te fe) : JS c (tAsg te g) (unpM sto fe) := by
  intro Dn σ H Pr Hf ρ S h
  show te σ H fun x H1 => g x σ H1 Dn.nx
  refine he σ H Pr Hf ρ _ S (GoodS.bind h fun r ρ1 _ x Hf1 H1 g1 S1 rv1 h1 => ?_)
  obtain ⟨d, ρ2, e, h2⟩ := h1.step fun e => fzR_noerr
  obtain ⟨Hf2, g2, S2, hd⟩ := S1.fzr rv1 e
  cases q : sto d ρ2 with
  | none => rw [q] at h2; exact h2.elim
  | some ρ3 =>
    rw [q] at h2
    exact hg x d σ H1 Pr Hf2 ρ2 ρ3 _ S2 hd q fun σ' S' _ => GoodS.nx S' (GoodS.mono g2 h2)
theorem js_ret (he : JE c te fe) : JS c (tRet te) (retM fe) := by
  intro Dn σ H Pr Hf ρ S h
  show te σ H Dn.rt
  refine he σ H Pr Hf ρ _ S (GoodS.bind h fun r ρ1 _ x Hf1 H1 g1 S1 rv1 h1 => ?_)
  exact h1 x σ Hf1 H1 (Gro.refl _ _) S1 rv1
theorem js_retN : JS c tRetN retNM := fun Dn σ H Pr Hf ρ S h => h .non σ Hf H (Gro.refl _ _) S Dp.non
theorem js_drop (he : JE c te fe) : JS c (tDrop te) (dropM fe) := by
  intro Dn σ H Pr Hf ρ S h
  show te σ H fun _ H1 => Dn.nx σ H1
  refine he σ H Pr Hf ρ _ S (GoodS.bind h fun r ρ1 _ x Hf1 H1 g1 S1 rv1 h1 => GoodS.nx S1 h1)
theorem js_aug {i : Nat} {g : Int → Int → Int} (he : JE c te fe) : JS c (tAug i te (ipI g)) (augM i g fe) := by
  intro Dn σ H Pr Hf ρ S h
  show ∃ x, σ[i]? = some (some x) ∧ te σ H fun y H1 => ipI g x y H1 fun z H2 => Dn.nx (σ.set i (some z)) H2
  unfold augM at h
  match e : ρ[i]?, h with
  | some (.va (.int a)), h =>
    obtain ⟨o, e1, u, e2, e3⟩ := S.sl i _ e
    cases e2
    cases e3
    refine ⟨_, e1, he σ H Pr Hf ρ _ S (GoodS.bind h fun r ρ1 _ x Hf1 H1 g1 S1 rv1 h1 => ?_)⟩
    match r, rv1, h1 with
    | .va (.int b), rv1, h1 =>
      have e : Dp c.K Hf1 x (.int b) := rv1
      cases e
      exact ⟨a, b, rfl, rfl, GoodS.nx (S1.setVa (.int _) i) h1⟩
theorem js_par {i j : Nat} (hr : JA c tr fr) : JS c (tPar i j tr) (parM i j fr) := by
  intro Dn σ H Pr Hf ρ S h
  show tr σ H fun vs H1 => ∃ v w, vs = [v, w] ∧ Dn.nx ((σ.set i (some v)).set j (some w)) H1
  refine hr σ H Pr Hf ρ _ S (GoodS.bind h fun rs ρ1 _ xs Hf1 H1 g1 S1 rv1 h1 => ?_)
  obtain ⟨ds, ρ2, e, h2⟩ := h1.step fun e => fzAll_noerr
  obtain ⟨Hf2, g2, S2, hd⟩ := S1.fzall rv1 e
  match ds, xs, hd, h2 with
  | [d, e], _, .cons a (.cons b .nil), h2 => exact ⟨_, _, rfl, GoodS.nx ((S2.setVa a i).setVa b j) (GoodS.mono g2 h2)⟩
theorem js_parN {i j : Nat} (ha : JE c ta fa) (hb : JE c tb fb) : JS c (tPar i j (tCons ta (tCons tb tNil))) (parNM i j fa fb) := by
  intro Dn σ H Pr Hf ρ S h
  show ta σ H fun x H1 => tb σ H1 fun y H2 => ∃ v w, [x, y] = [v, w] ∧ Dn.nx ((σ.set i (some v)).set j (some w)) H2
  refine ha σ H Pr Hf ρ _ S (GoodS.bind h fun ra ρ1 _ x Hf1 H1 g1 S1 rv1 h1 => ?_)
  cases ra with
  | va d =>
    refine hb σ H1 Pr Hf1 ρ1 _ S1 (GoodS.bind h1 fun rb ρ2 _ y Hf2 H2 g2 S2 rv2 h2 => ?_)
    cases rb <;> exact h2.elim
  | sl k =>
    refine hb σ H1 Pr Hf1 ρ1 _ S1 (GoodS.bind h1 fun rb ρ2 _ y Hf2 H2 g2 S2 rv2 h2 => ?_)
    cases rb <;> exact h2.elim
  | nw ds =>
    obtain ⟨p, xs, rfl, k1, k2, k3, k4, k5⟩ := rv1
    -- the first list is protected while the second is made
    have SP : Sta c.K c.vs0 (upd Pr p (.lst xs)) Hf1 H1 σ ρ1 := by
      refine ⟨S1.fz, fun b u e => ?_, fun l s e => ?_, S1.dj, S1.tb, S1.nf, S1.np.upd⟩
      · by_cases q : b = p
        · subst q
          rw [upd_same] at e
          rw [k3]
          exact e
        · rw [upd_ne q] at e
          exact S1.pr b u e
      · obtain ⟨o, e1, e2⟩ := S1.sl l s e
        refine ⟨o, e1, ?_⟩
        cases s with
        | un => trivial
        | va d => exact e2
        | ow k es =>
          obtain ⟨q, ys, a1, a2, a3, a4⟩ := e2
          refine ⟨q, ys, a1, a2, ?_, a4⟩
          rw [upd_ne fun z => k5 l ⟨⟨k, es, e⟩, by rw [e1, a1, z]⟩]
          exact a3
    have sp : Same Pr (upd Pr p (.lst xs)) := same_new k2
    refine hb σ H1 (upd Pr p (.lst xs)) Hf1 ρ1 _ SP ?_
    match e : fb ρ1, h1 with
    | some (.error (x, ρ')), h1 =>
      exact fun cls dx Hf' H' g S' xo => h1 cls dx σ Hf' H' (g.weak sp) (S'.weaken sp) xo
    | some (.ok (.nw es, ρ2)), h1 =>
      intro y Hf2 H2 g2 S2 rv2
      obtain ⟨q, ys, rfl, m1, m2, m3, m4, m5⟩ := rv2
      have nqp : q ≠ p := fun z => by
        rw [z, upd_same] at m2
        cases m2
      rw [upd_ne nqp] at m2
      have hp2 : H2 p = some (.lst xs) := S2.pr p _ upd_same
      have hf2 : Hf2 p = none := g2.2.1 p _ upd_same k1
      have no : ∀ l, ¬ Own σ ρ2 l p := fun l ⟨⟨k, fs, e1⟩, e2⟩ => by
        obtain ⟨o, f1, r, zs, f2, _, f3, _⟩ := S2.sl l _ e1
        rw [e2] at f1
        cases f1
        cases f2
        rw [upd_same] at f3
        cases f3
      have S2' := S2.weaken sp
      have Sa := S2'.setNw (v := .ref p) ⟨p, xs, rfl, hf2, k2, hp2, dpa_mono g2.1 _ _ k4, no⟩ i
      have nq : ∀ l, ¬ Own (σ.set i (some (V.ref p))) (ρ2.set i (.ow 0 ds)) l q := fun l ⟨⟨k, fs, e1⟩, e2⟩ => by
        by_cases hl : i = l
        · subst hl
          rw [List.getElem?_set_self'] at e2
          cases w : σ[i]? with
          | none => rw [w] at e2; cases e2
          | some t =>
            rw [w] at e2
            cases e2
            exact nqp rfl
        · rw [List.getElem?_set_ne hl] at e1 e2
          exact m5 l ⟨⟨k, fs, e1⟩, e2⟩
      exact ⟨_, _, rfl, GoodS.nx (Sa.setNw (v := .ref q) ⟨q, ys, rfl, m1, m2, m3, m4, nq⟩ j) (GoodS.mono (g2.weak sp) h1)⟩
    | some (.ok (.va d, ρ2)), h1 => exact h1.elim
    | some (.ok (.sl d, ρ2)), h1 => exact h1.elim
    | none, h1 => exact h1.elim
theorem js_app {i : Nat} (he : JE c te fe) : JS c (tDrop (tBM c.K "list" rAppend (tVar i) (tCons te tNil))) (appM i fe) := by
  intro Dn σ H Pr Hf ρ S h
  unfold appM at h
  match e : ρ[i]?, h with
  | some (.ow k0 ds0), h =>
    obtain ⟨o, e1, p, xs, rfl, h1, h2, h3, h4, h5⟩ := S.sl i _ e
    refine ⟨.ref p, e1, .inl ⟨rfl, xs, .inl (.inl h3)⟩, ?_⟩
    show te σ H fun x H1 => _
    refine he σ H Pr Hf ρ _ S (GoodS.bind h fun r ρ1 _ x Hf1 H1 g1 S1 rv1 k1 => ?_)
    obtain ⟨d, ρ2, q, k2⟩ := k1.step fun e => fzR_noerr
    obtain ⟨Hf2, g2, S2, hd⟩ := S1.fzr rv1 q
    match e' : ρ2[i]?, k2 with
    | some (.ow k ds), k2 =>
      cases hb : few ds with
      | false => simp only [hb] at k2; exact k2.elim
      | true =>
        simp only [hb] at k2
        obtain ⟨o, f1, p', ys, f2, m1, m2, m3, m4, m5⟩ := S2.sl i _ e'
        rw [e1] at f1
        cases f1
        cases f2
        refine ⟨p, ys, x, rfl, rfl, m3, ?_, GoodS.nx (S2.wr e' e1 (dpa_app m4 (.cons hd .nil))) (GoodS.mono g2 k2)⟩
        rw [dpa_len m4]
        exact Nat.lt_of_le_of_lt (of_decide_eq_true hb) (by decide)
    | some .un, k2 => exact k2.elim
    | some (.va _), k2 => exact k2.elim
    | none, k2 => exact k2.elim
theorem js_ext {i : Nat} (he : JE c te fe) : JS c (tDrop (tBM c.K "list" rExtend (tVar i) (tCons te tNil))) (extM i fe) := by
  intro Dn σ H Pr Hf ρ S h
  unfold extM at h
  match e : ρ[i]?, h with
  | some (.ow k0 ds0), h =>
    obtain ⟨o, e1, p, xs, rfl, h1, h2, h3, h4, h5⟩ := S.sl i _ e
    refine ⟨.ref p, e1, .inl ⟨rfl, xs, .inl (.inl h3)⟩, ?_⟩
    show te σ H fun x H1 => _
    refine he σ H Pr Hf ρ _ S (GoodS.bind h fun r ρ1 _ x Hf1 H1 g1 S1 rv1 k1 => ?_)
    match r, rv1, e' : ρ1[i]?, k1 with
    | .nw es, rv1, some (.ow k ds), k1 =>
      cases hb : few (ds ++ es) with
      | false => simp only [hb] at k1; exact k1.elim
      | true =>
        simp only [hb] at k1
        obtain ⟨o, f1, p', ys, f2, m1, m2, m3, m4, m5⟩ := S1.sl i _ e'
        rw [e1] at f1
        cases f1
        cases f2
        obtain ⟨q, zs, rfl, n1, n2, n3, n4, n5⟩ := rv1
        have hl : (ds ++ es).length ≤ 100000 := of_decide_eq_true hb
        refine ⟨p, q, ys, zs, rfl, rfl, m3, n3, ?_, GoodS.nx (S1.wr e' e1 (dpa_app m4 n4)) k1⟩
        rw [dpa_len m4, dpa_len n4, ← List.length_append]
        exact Nat.le_trans hl (by decide)
    | .va _, rv1, some .un, k1 => exact k1.elim
    | .va _, rv1, some (.va _), k1 => exact k1.elim
    | .va _, rv1, some (.ow _ _), k1 => exact k1.elim
    | .va _, rv1, none, k1 => exact k1.elim
    | .sl _, rv1, some .un, k1 => exact k1.elim
    | .sl _, rv1, some (.va _), k1 => exact k1.elim
    | .sl _, rv1, some (.ow _ _), k1 => exact k1.elim
    | .sl _, rv1, none, k1 => exact k1.elim
    | .nw _, rv1, some .un, k1 => exact k1.elim
    | .nw _, rv1, some (.va _), k1 => exact k1.elim
    | .nw _, rv1, none, k1 => exact k1.elim
theorem js_set {i : Nat} (he : JE c te fe) (hi : JE c ti fi) : JS c (tAsg te (gSub (tVar i) ti rSetL)) (setM i fe fi) := by
  intro Dn σ H Pr Hf ρ S h
  show te σ H fun x H1 => ∃ o, σ[i]? = some (some o) ∧ ti σ H1 fun n H2 => rSetL o n x H2 fun H3 => Dn.nx σ H3
  refine he σ H Pr Hf ρ _ S (GoodS.bind h fun r ρ1 _ x Hf1 H1 g1 S1 rv1 k1 => ?_)
  obtain ⟨d, ρ2, q, k2⟩ := k1.step fun e => fzR_noerr
  obtain ⟨Hf2, g2, S2, hd⟩ := S1.fzr rv1 q
  have k2 := GoodS.mono g2 k2
  match e : ρ2[i]?, k2 with
  | some (.ow k0 ds0), k2 =>
    obtain ⟨o, e1, p, xs, rfl, _⟩ := S2.sl i _ e
    refine ⟨_, e1, hi σ H1 Pr Hf2 ρ2 _ S2 (GoodS.bind k2 fun ri ρ3 _ y Hf3 H3 g3 S3 rv3 k3 => ?_)⟩
    match ri, rv3, e' : ρ3[i]?, k3 with
    | .va (.int n), rv3, some (.ow k ds), k3 =>
      have ey : Dp c.K Hf3 y (.int n) := rv3
      cases ey
      dsimp only at k3
      cases ej : ixN ds.length n with
      | none => rw [ej] at k3; exact k3.elim
      | some j =>
        rw [ej] at k3
        obtain ⟨o, f1, p', ys, f2, m1, m2, m3, m4, m5⟩ := S3.sl i _ e'
        rw [e1] at f1
        cases f1
        cases f2
        exact ⟨p, ys, n, j, rfl, rfl, m3, by rw [dpa_len m4]; exact ej, GoodS.nx (S3.wr e' e1 (dpa_set (dp_mono g3.1 _ _ hd) j m4)) k3⟩
end
end Pl

namespace Pl
open PySem PySem.Spec PyProof.Rows L2
/-! ### for -/
def forL (sto : Sto) (body : En → RM Ot) : List PyData → En → RM Ot
  | [], ρ => some (.ok (.nx, ρ))
  | d :: ds, ρ => match sto d ρ with
    | none => none
    | some ρ1 => RM.bnd (body ρ1) fun o ρ2 => match o with
      | .nx => forL sto body ds ρ2
      | .ct => forL sto body ds ρ2
      | .bk => some (.ok (.nx, ρ2))
      | .rt r => some (.ok (.rt r, ρ2))
def forM (src : En → RM (List PyData)) (sto : Sto) (body : En → RM Ot) : En → RM Ot := fun ρ => RM.bnd (src ρ) fun items ρ1 => forL sto body items ρ1
section
variable {c : Cn}
theorem js_for {is : List Nat} {wi : TI} {src : En → RM (List PyData)} {g : TG} {sto : Sto} {tb : TS} {fb : En → RM Ot} (hi : JI c wi src) (hg : GOk c.K c.vs0 is g sto) (hb : JS c tb fb) : JS c (tFor wi g tb) (forM src sto fb) := by
  intro Dn σ H Pr Hf ρ S h
  show wi σ H fun J H1 => _
  refine hi σ H Pr Hf ρ _ S (GoodS.bind h fun items ρ1 _ J Hf1 H1 g1 S1 wk h1 => ?_)
  have wk' : WOk c.K J Hf1 items := wk
  refine ⟨fun i m σ' H' => m = items.length - i ∧ i ≤ items.length ∧ ∃ Hf' ρ', Gro Pr Hf1 Hf' ∧ Sta c.K c.vs0 Pr Hf' H' σ' ρ' ∧ GoodS c Pr Hf' Dn (forL sto fb (items.drop i) ρ'),
    ⟨items.length, by omega, Nat.zero_le _, Hf1, ρ1, Gro.refl _ _, S1, h1⟩, ?_⟩
  rintro i m σ2 H2 ⟨rfl, hle, Hf2, ρ2, g2, S2, h2⟩
  by_cases hlt : i < items.length
  · have ed : items[i]? = some items[i] := List.getElem?_eq_getElem hlt
    have edr : items.drop i = items[i] :: items.drop (i + 1) := List.drop_eq_getElem_cons hlt
    rw [edr] at h2
    unfold forL at h2
    obtain ⟨go, yd⟩ := (wk' Hf2 H2 i g2.1 S2.fz).2 _ ed
    cases q : sto items[i] ρ2 with
    | none => rw [q] at h2; exact h2.elim
    | some ρ3 =>
      rw [q] at h2
      dsimp only at h2
      refine .inr ⟨go, fun σ' H' => ∃ Hf' ρ', Gro Pr Hf1 Hf' ∧ Sta c.K c.vs0 Pr Hf' H' σ' ρ' ∧ GoodS c Pr Hf' Dn (forL sto fb (items.drop (i + 1)) ρ'), fun σ' H' ⟨Hf', ρ', a, b, d⟩ => ⟨items.length - (i + 1), by omega, rfl, hlt, Hf', ρ', a, b, d⟩, fun x H3 y => ?_⟩
      obtain ⟨Hf3, g3, f3, s3, dx⟩ := yd x H3 y
      have S3 := S2.grow g3 f3 s3
      have g3' := S2.groPr g3
      refine hg x _ σ2 H3 Pr Hf3 ρ2 ρ3 _ S3 dx q fun σ4 S4 _ => ?_
      refine hb _ σ4 H3 Pr Hf3 ρ3 S4 ?_
      have h3 := GoodS.mono g3' h2
      match fb ρ3, h3 with
      | some (.ok (.nx, ρ5)), h3 => exact fun σ5 Hf5 H5 g5 S5 => ⟨Hf5, ρ5, (g2.trans g3').trans g5, S5, GoodS.mono g5 h3⟩
      | some (.ok (.ct, ρ5)), h3 => exact fun σ5 Hf5 H5 g5 S5 => ⟨Hf5, ρ5, (g2.trans g3').trans g5, S5, GoodS.mono g5 h3⟩
      | some (.ok (.bk, ρ5)), h3 => exact h3
      | some (.ok (.rt r, ρ5)), h3 => exact h3
      | some (.error (x, ρ5)), h3 => exact h3
  · have ei : i = items.length := by omega
    rw [List.drop_eq_nil_of_le (by omega)] at h2
    exact .inl ⟨(wk' Hf2 H2 i g2.1 S2.fz).1 (by omega), GoodS.nx S2 h2⟩
end

/-! ### comprehensions -/
def lcL (sto : Sto) (test : En → RM Bool) (elt : En → RM Rv) (vs : List Nat) : List PyData → List PyData → En → RM (List PyData)
  | [], acc, ρ => some (.ok (acc, ρ))
  | d :: ds, acc, ρ => match sto d ρ with
    | none => none
    | some ρ1 => match test ρ1 with
      | some (.ok (true, ρ2)) => match elt ρ2 with
        | some (.ok (r, ρ3)) => match fzR r ρ3 with
          | some (.ok (e, ρ4)) => lcL sto test elt vs ds (acc ++ [e]) (wipeE ρ4 vs)
          | _ => none
        | _ => none
      | some (.ok (false, ρ2)) => lcL sto test elt vs ds acc (wipeE ρ2 vs)
      | _ => none
def lcM (src : En → RM (List PyData)) (sto : Sto) (test : En → RM Bool) (elt : En → RM Rv) (vs : List Nat) : En → RM Rv := fun ρ =>
  RM.bnd (src ρ) fun items ρ1 => ck (noOwn ρ1 vs && few items) (match lcL sto test elt vs items [] (wipeE ρ1 vs) with
    | some (.ok (acc, ρ2)) => some (.ok (.nw acc, unw ρ1 ρ2 vs))
    | _ => none)
def yesM : En → RM Bool := fun ρ => some (.ok (true, ρ))
/-- the same context, but nothing is raised -/
def Cn.q (c : Cn) : Cn := { c with E := fun _ _ _ _ => False }
section
variable {c : Cn}
theorem jt_yes : JT c tYes yesM := fun σ H Pr Hf ρ Q S h => Good.at S h rfl
/-- what is wanted of the list at D -/
def GC (c : Cn) (Pr : Hp) (D : Addr) (σ : L2.St) (Q : Hp → Prop) (Hf : Hp) : RM (List PyData) → Prop
  | some (.ok (acc, ρ2)) => ∀ Hf' H' xs, Gro Pr Hf Hf' → Sta c.K c.vs0 (upd Pr D (.lst xs)) Hf' H' σ ρ2 → DpAll c.K Hf' xs acc → Hf' D = none → Q H'
  | _ => False
theorem GC.mono {Pr Hf Hf1 : Hp} {D : Addr} {σ : L2.St} {Q : Hp → Prop} {m : RM (List PyData)} (g : Gro Pr Hf Hf1) (h : GC c Pr D σ Q Hf m) : GC c Pr D σ Q Hf1 m := by
  match m, h with
  | some (.ok (acc, ρ2)), h => exact fun Hf' H' xs g' => h Hf' H' xs (g.trans g')
theorem je_lc {is vs : List Nat} {wi : TI} {src : En → RM (List PyData)} {g : TG} {sto : Sto} {tt : TT} {ft : En → RM Bool} {te : TE} {fe : En → RM Rv} (hi : JI c wi src) (hg : GOk c.K c.vs0 is g sto) (hs : ∀ σ σ', But is σ σ' → But vs σ σ')
    (ht : JT c.q tt ft) (he : JE c.q te fe) : JE c (tLc wi g tt te vs) (lcM src sto ft fe vs) := by
  intro σ H Pr Hf ρ Q S h
  show wi σ H fun J H1 => _
  refine hi σ H Pr Hf ρ _ S (Good.bind h fun items ρ1 _ J Hf1 H1 g1 S1 wk h1 => ?_)
  have wk' : WOk c.K J Hf1 items := wk
  obtain ⟨hck, h2⟩ := h1.ck
  rw [Bool.and_eq_true] at hck
  have hlen : items.length ≤ 100000 := of_decide_eq_true hck.2
  intro D hD
  have pD : Pr D = none := by
    cases q : Pr D with
    | none => rfl
    | some o =>
      rw [S1.pr D o q] at hD
      cases hD
  have fD : Hf1 D = none := none_back S1.fz hD
  have sp : ∀ o, Same Pr (upd Pr D o) := fun o => same_new pD
  -- what the end asks
  have goal : GC c Pr D (wipe σ vs) (fun H' => Q (.ref D) H') Hf1 (lcL sto ft fe vs items [] (wipeE ρ1 vs)) := by
    match e : lcL sto ft fe vs items [] (wipeE ρ1 vs), h2 with
    | some (.ok (acc, ρ2)), h2 =>
      intro Hf' H' xs g' S' ha hfD
      have S2 : Sta c.K c.vs0 Pr Hf' H' σ (unw ρ1 ρ2 vs) := S1.unwiped hck.1 g'.1 (S'.weaken (sp _))
      refine h2 (.ref D) Hf' H' g' S2 ⟨D, xs, rfl, hfD, pD, S'.pr D _ upd_same, ha, fun i ⟨⟨k, ds, e1⟩, e2⟩ => ?_⟩
      have S3 : Sta c.K c.vs0 (upd Pr D (.lst xs)) Hf' H' σ (unw ρ1 ρ2 vs) := by
        have S1D : Sta c.K c.vs0 (fun _ => none) Hf1 H1 σ ρ1 := S1.weaken fun _ _ z => by cases z
        have := (S1D.unwiped hck.1 g'.1 (S'.weaken (Pr := fun _ => none) fun _ _ z => by cases z))
        refine ⟨this.fz, S'.pr, fun j s es => ?_, this.dj, S'.tb, this.nf, S'.np⟩
        obtain ⟨o, q1, q2⟩ := S2.sl j s es
        refine ⟨o, q1, ?_⟩
        cases s with
        | un => trivial
        | va d => exact q2
        | ow k' ds' =>
          obtain ⟨p, ys, a1, a2, a3, a4⟩ := q2
          rcases unw_get ρ1 ρ2 vs j _ es with ⟨hj, e3⟩ | ⟨hj, e3⟩ | ⟨e3, e4⟩
          · have := List.all_eq_true.mp hck.1 j hj
            rw [e3] at this
            cases this
          · obtain ⟨o', b1, b2⟩ := S'.sl j _ e3
            rw [wipe_get, if_neg hj, q1] at b1
            cases b1
            obtain ⟨p', ys', c1, c2, c3, c4⟩ := b2
            rw [a1] at c1
            cases c1
            exact ⟨p, ys, a1, a2, c3, a4⟩
          · obtain ⟨o', b1, b2⟩ := S'.sl j _ e4
            obtain ⟨p', ys', c1, c2, c3, c4⟩ := b2
            rw [wipe_get] at b1
            by_cases hj : j ∈ vs
            · rw [if_pos hj, q1] at b1
              subst c1
              cases b1
            · rw [if_neg hj, q1] at b1
              cases b1
              rw [a1] at c1
              cases c1
              exact ⟨p, ys, a1, a2, c3, a4⟩
      obtain ⟨o, q1, p, ys, q2, q3, q4, _⟩ := S3.sl i _ e1
      rw [e2] at q1
      cases q1
      cases q2
      rw [upd_same] at q4
      cases q4
  have S1' : Sta c.K c.vs0 (upd Pr D (.lst [])) Hf1 (upd H1 D (.lst [])) (wipe σ vs) (wipeE ρ1 vs) := by
    have w := S1.wiped vs
    refine ⟨w.fz.trans (same_new hD), fun b u e => ?_, fun i s e => ?_, w.dj, w.tb.ext (same_new hD), w.nf, w.np.upd⟩
    · by_cases hb : b = D
      · subst hb
        rw [upd_same] at e ⊢
        exact e
      · rw [upd_ne hb] at e ⊢
        exact w.pr b u e
    · obtain ⟨o, e1, e2⟩ := w.sl i s e
      refine ⟨o, e1, ?_⟩
      cases s with
      | un => trivial
      | va d => exact e2
      | ow k ds =>
        obtain ⟨p, xs, a1, a2, a3, a4, a5⟩ := e2
        have hp : p ≠ D := ne_of_none a4 hD
        exact ⟨p, xs, a1, a2, by rw [upd_ne hp]; exact a3, by rw [upd_ne hp]; exact a4, a5⟩
  refine ⟨fun i m H' => m = items.length - i ∧ i ≤ items.length ∧ ∃ Hf' ρ' acc xs, Gro Pr Hf1 Hf' ∧ Sta c.K c.vs0 (upd Pr D (.lst xs)) Hf' H' (wipe σ vs) ρ' ∧ DpAll c.K Hf' xs acc ∧ Hf' D = none ∧ acc.length ≤ i ∧
      GC c Pr D (wipe σ vs) (fun H' => Q (.ref D) H') Hf' (lcL sto ft fe vs (items.drop i) acc ρ'),
    ⟨items.length, by omega, Nat.zero_le _, Hf1, _, [], [], Gro.refl _ _, S1', .nil, fD, Nat.le_refl _, goal⟩, ?_⟩
  rintro i m H2 ⟨rfl, hle, Hf2, ρ2, acc, xs, g2, S2, ha, hfD, hal, h3⟩
  by_cases hlt : i < items.length
  · have ed : items[i]? = some items[i] := List.getElem?_eq_getElem hlt
    rw [List.drop_eq_getElem_cons hlt] at h3
    unfold lcL at h3
    obtain ⟨go, yd⟩ := (wk' Hf2 H2 i g2.1 S2.fz).2 _ ed
    cases q : sto items[i] ρ2 with
    | none => rw [q] at h3; exact h3.elim
    | some ρ3 =>
      rw [q] at h3
      dsimp only at h3
      refine .inr ⟨go, fun H' => ∃ Hf' ρ' acc xs, Gro Pr Hf1 Hf' ∧ Sta c.K c.vs0 (upd Pr D (.lst xs)) Hf' H' (wipe σ vs) ρ' ∧ DpAll c.K Hf' xs acc ∧ Hf' D = none ∧ acc.length ≤ i + 1 ∧
        GC c Pr D (wipe σ vs) (fun H' => Q (.ref D) H') Hf' (lcL sto ft fe vs (items.drop (i + 1)) acc ρ'), fun H' ⟨Hf', ρ', acc', xs', a1, a2, a3, a4, a5, a6⟩ => ⟨items.length - (i + 1), by omega, rfl, hlt, Hf', ρ', acc', xs', a1, a2, a3, a4, a5, a6⟩, fun x H3 y => ?_⟩
      obtain ⟨Hf3, g3, f3, s3, dx⟩ := yd x H3 y
      have S3 := S2.grow g3 f3 s3
      have g3' : Gro (upd Pr D (.lst xs)) Hf2 Hf3 := S2.groPr g3
      have g3p : Gro Pr Hf2 Hf3 := g3'.weak (sp _)
      have hfD3 : Hf3 D = none := g3'.2.1 D _ upd_same hfD
      refine hg x _ _ H3 _ Hf3 ρ2 ρ3 _ S3 dx q fun σ4 S4 b4 => ?_
      have b4' : wipe σ4 vs = wipe σ vs := (But.wipe vs σ).trans (hs _ _ b4)
      refine ⟨b4', ht σ4 H3 _ Hf3 ρ3 _ S4 ?_⟩
      have h4 := GC.mono g3p h3
      match et : ft ρ3, h4 with
      | some (.ok (false, ρ5)), h4 =>
        intro b Hf5 H5 g5 S5 eb
        cases (show b = false from eb)
        have h5 := GC.mono (g5.weak (sp _)) h4
        refine iteF ⟨Hf5, _, acc, xs, (g2.trans g3p).trans (g5.weak (sp _)), ?_, dpa_mono (g3.1.trans g5.1) _ _ ha, g5.2.1 D _ upd_same hfD3, Nat.le_succ_of_le hal, h5⟩
        have := S5.wiped vs
        rw [b4'] at this
        exact this
      | some (.ok (true, ρ5)), h4 =>
        intro b Hf5 H5 g5 S5 eb
        cases (show b = true from eb)
        have h5 := GC.mono (g5.weak (sp _)) h4
        have hfD5 : Hf5 D = none := g5.2.1 D _ upd_same hfD3
        dsimp only at h5
        refine iteT (he σ4 H5 _ Hf5 ρ5 _ S5 ?_)
        cases ee : fe ρ5 with
        | none => rw [ee] at h5; exact h5.elim
        | some q5 =>
          cases q5 with
          | error x5 => rw [ee] at h5; exact h5.elim
          | ok q5 =>
            obtain ⟨r, ρ6⟩ := q5
            rw [ee] at h5
            dsimp only at h5
            intro z Hf6 H6 g6 S6 rz
            have h6 := GC.mono (g6.weak (sp _)) h5
            cases ef : fzR r ρ6 with
            | none => rw [ef] at h6; exact h6.elim
            | some q6 =>
              cases q6 with
              | error x6 => rw [ef] at h6; exact h6.elim
              | ok q6 =>
                obtain ⟨d, ρ7⟩ := q6
                rw [ef] at h6
                dsimp only at h6
                obtain ⟨Hf7, g7, S7, dz⟩ := S6.fzr rz ef
                have h7 := GC.mono (g7.weak (sp _)) h6
                have hfD7 : Hf7 D = none := g7.2.1 D _ upd_same (g6.2.1 D _ upd_same hfD5)
                have hl : xs.length = acc.length := dpa_len ha
                refine ⟨xs, S7.pr D _ upd_same, by rw [hl]; exact Nat.lt_of_le_of_lt (Nat.le_trans hal (Nat.le_trans (Nat.le_of_lt hlt) hlen)) (by decide), Hf7, _, acc ++ [d], xs ++ [z],
                  (((g2.trans g3p).trans (g5.weak (sp _))).trans (g6.weak (sp _))).trans (g7.weak (sp _)), ?_, dpa_app (dpa_mono (((g3.1.trans g5.1).trans g6.1).trans g7.1) _ _ ha) (.cons dz .nil), hfD7, by rw [List.length_append]; exact Nat.succ_le_succ hal, h7⟩
                have w := S7.wiped vs
                rw [b4'] at w
                exact w.bump hfD7
  · have ei : i = items.length := by omega
    rw [List.drop_eq_nil_of_le (by omega)] at h3
    exact .inl ⟨(wk' Hf2 H2 i g2.1 S2.fz).1 (by omega), h3 Hf2 H2 xs (Gro.refl _ _) S2 ha hfD⟩
end
end Pl

namespace Pl
open PySem PySem.Spec PyProof.Rows L2
/-! ### the promise of a def, calls -/
/-- what is fixed in a law: the errors' classes, the tables of code objects -/
structure Lw where
  xt : XT
  tb : List (Addr × Str)
def cnOf (T : Lw) (K : PySem.W.Frag) (vs : List V) (E : XK) : Cn := ⟨K, ⟨vs, T.tb⟩, T.xt, fun _ => E⟩
def spG (T : Lw) (K : PySem.W.Frag) (G : En → RM Rv) : Sp := fun vs H Q E => ∃ Pr Hf as, Sta K ⟨vs, T.tb⟩ Pr Hf H (vs.map some) as ∧ as.length = vs.length ∧ Good (cnOf T K vs E) (relV K) Pr Hf (vs.map some) Q (G as)
def argOf (ρ : En) (j : Nat) : Rv → Option Sl
  | .va d => some (.va d)
  | .nw ds => some (.va (.list ds))
  | .sl i => match ρ[i]? with
    | some (.va d) => some (.va d)
    | some (.ow _ ds) => some (.ow (j + 1) ds)
    | _ => none
def argsOf (ρ : En) : List Rv → Nat → Option En
  | [], _ => some []
  | r :: rs, j => match argOf ρ j r, argsOf ρ rs (j + 1) with
    | some s, some ss => some (s :: ss)
    | _, _ => none
/-- the slots of the lists that are handed on -/
def owsOf (ρ : En) : List Rv → List Nat
  | [] => []
  | .sl i :: rs => match ρ[i]? with
    | some (.ow _ _) => i :: owsOf ρ rs
    | _ => owsOf ρ rs
  | _ :: rs => owsOf ρ rs
/-- what the callee left in them -/
def back (ρ : En) : List Rv → En → Option En
  | .sl i :: rs, s :: ss => match ρ[i]?, s with
    | some (.ow k _), .ow _ ds => back (ρ.set i (.ow k ds)) rs ss
    | some (.ow _ _), _ => none
    | _, _ => back ρ rs ss
  | _ :: rs, _ :: ss => back ρ rs ss
  | [], _ => some ρ
  | _, _ => none
def isSl : Rv → Bool
  | .sl _ => true
  | _ => false
def callM (G : En → RM Rv) (fr : En → RM (List Rv)) : En → RM Rv := fun ρ => RM.bnd (fr ρ) fun rs ρ1 => match argsOf ρ1 rs 0 with
  | none => none
  | some as => ck (decide (owsOf ρ1 rs).Nodup) (match G as with
    | none => none
    | some (.error (x, out)) => (match back ρ1 rs out with
      | none => none
      | some ρ2 => some (.error (x, ρ2)))
    | some (.ok (r, out)) => ck (!isSl r) (match back ρ1 rs out with
      | none => none
      | some ρ2 => some (.ok (r, ρ2))))
/-- nothing is raised -/
def quiet (G : En → RM Rv) : En → RM Rv := fun as => match G as with
  | some (.error _) => none
  | m => m

section
variable {c : Cn} {Pr Hf H : Hp} {σ : L2.St} {ρ : En}
theorem args_len : ∀ {rs : List Rv} {j : Nat} {as : En}, argsOf ρ rs j = some as → as.length = rs.length
  | [], _, _, h => by cases h; rfl
  | r :: rs, j, as, h => by
    unfold argsOf at h
    cases e1 : argOf ρ j r with
    | none => rw [e1] at h; cases h
    | some s =>
      rw [e1] at h
      cases e2 : argsOf ρ rs (j + 1) with
      | none => rw [e2] at h; cases h
      | some ss =>
        rw [e2] at h
        cases h
        rw [List.length_cons, List.length_cons, args_len e2]
theorem args_get : ∀ {rs : List Rv} {j : Nat} {as : En} {i : Nat} {s : Sl}, argsOf ρ rs j = some as → as[i]? = some s → ∃ r, rs[i]? = some r ∧ argOf ρ (j + i) r = some s
  | [], _, _, _, _, h, e => by cases h; simp at e
  | r :: rs, j, as, i, s, h, e => by
    unfold argsOf at h
    cases e1 : argOf ρ j r with
    | none => rw [e1] at h; cases h
    | some t =>
      rw [e1] at h
      cases e2 : argsOf ρ rs (j + 1) with
      | none => rw [e2] at h; cases h
      | some ss =>
        rw [e2] at h
        cases h
        cases i with
        | zero =>
          simp at e
          subst e
          exact ⟨r, rfl, e1⟩
        | succ i =>
          obtain ⟨r', q1, q2⟩ := args_get (i := i) e2 (by simpa using e)
          exact ⟨r', by simpa using q1, by rw [← q2]; congr 1; omega⟩
theorem rvall_len {K : PySem.W.Frag} : ∀ {vs : List V} {rs : List Rv}, RvAll K Pr Hf H σ ρ vs rs → vs.length = rs.length
  | _, _, .nil => rfl
  | _, _, .cons _ h => by rw [List.length_cons, List.length_cons, rvall_len h]
theorem rvall_get {K : PySem.W.Frag} : ∀ {vs : List V} {rs : List Rv} {i : Nat} {r : Rv}, RvAll K Pr Hf H σ ρ vs rs → rs[i]? = some r → ∃ v, vs[i]? = some v ∧ RvOk K Pr Hf H σ ρ v r ∧ r.fz = r
  | _, _, i, r, .nil, e => by simp at e
  | _, _, 0, r, .cons (v := v) (r := r') h1 h2, e => by
    simp at e
    subst e
    exact ⟨v, rfl, h1, by cases r' <;> rfl⟩
  | _, _, i + 1, r, .cons h1 h2, e => by
    obtain ⟨v, q1, q2⟩ := rvall_get (i := i) h2 (by simpa using e)
    exact ⟨v, by simpa using q1, q2⟩
theorem mem_ows : ∀ {rs : List Rv} {j i k : Nat} {ds : List PyData}, rs[j]? = some (.sl i) → ρ[i]? = some (.ow k ds) → i ∈ owsOf ρ rs
  | [], j, i, k, ds, h, e => by simp at h
  | r :: rs, 0, i, k, ds, h, e => by
    simp at h
    subst h
    unfold owsOf
    rw [e]
    exact List.mem_cons_self
  | r :: rs, j + 1, i, k, ds, h, e => by
    have ih := mem_ows (rs := rs) (j := j) (by simpa using h) e
    cases r with
    | va d => exact ih
    | nw d => exact ih
    | sl l =>
      show i ∈ (match ρ[l]? with | some (.ow _ _) => l :: owsOf ρ rs | _ => owsOf ρ rs)
      cases ρ[l]? with
      | none => exact ih
      | some s => cases s with
        | un => exact ih
        | va d => exact ih
        | ow k d => exact List.mem_cons_of_mem _ ih
theorem ows_one : ∀ {rs : List Rv} {j j' i k : Nat} {ds : List PyData}, (owsOf ρ rs).Nodup → ρ[i]? = some (.ow k ds) → rs[j]? = some (.sl i) → rs[j']? = some (.sl i) → j = j'
  | [], j, j', i, k, ds, _, _, h, _ => by simp at h
  | r :: rs, 0, 0, i, k, ds, _, _, _, _ => rfl
  | r :: rs, 0, j' + 1, i, k, ds, n, e, h, h' => by
    simp at h
    subst h
    unfold owsOf at n
    rw [e] at n
    exact absurd (mem_ows (rs := rs) (j := j') (by simpa using h') e) (List.nodup_cons.mp n).1
  | r :: rs, j + 1, 0, i, k, ds, n, e, h', h => by
    simp at h
    subst h
    unfold owsOf at n
    rw [e] at n
    exact absurd (mem_ows (rs := rs) (j := j) (by simpa using h') e) (List.nodup_cons.mp n).1
  | r :: rs, j + 1, j' + 1, i, k, ds, n, e, h, h' => by
    have n' : (owsOf ρ rs).Nodup := by
      cases r with
      | va d => exact n
      | nw d => exact n
      | sl l =>
        have n2 : (match ρ[l]? with | some (.ow _ _) => l :: owsOf ρ rs | _ => owsOf ρ rs).Nodup := n
        cases q : ρ[l]? with
        | none => rw [q] at n2; exact n2
        | some s =>
          rw [q] at n2
          cases s with
          | un => exact n2
          | va d => exact n2
          | ow k d => exact (List.nodup_cons.mp n2).2
    rw [ows_one (rs := rs) (j := j) (j' := j') n' e (by simpa using h) (by simpa using h')]
/-- behind a call: the slot of a handed list has what the callee left, all others are as they were -/
theorem back_get : ∀ {rs : List Rv} {out : En} {ρ ρ2 : En}, back ρ rs out = some ρ2 → ∀ l : Nat,
    (∃ (k : Nat) (ds : List PyData), ρ[l]? = some (.ow k ds) ∧ ∃ (j : Nat) (es : List PyData) (k' : Nat), rs[j]? = some (.sl l) ∧ out[j]? = some (.ow k' es) ∧ ρ2[l]? = some (.ow k es)) ∨
    ((∀ (k : Nat) (ds : List PyData) (j : Nat), ρ[l]? = some (.ow k ds) → rs[j]? ≠ some (.sl l)) ∧ ρ2[l]? = ρ[l]?)
  | [], out, ρ, ρ2, h, l => by
    unfold back at h
    cases h
    exact .inr ⟨fun _ _ j _ => by simp, rfl⟩
  | .va d :: rs, [], ρ, ρ2, h, l => by unfold back at h; cases h
  | .nw d :: rs, [], ρ, ρ2, h, l => by unfold back at h; cases h
  | .sl i :: rs, [], ρ, ρ2, h, l => by unfold back at h; cases h
  | .va d :: rs, s :: ss, ρ, ρ2, h, l => by
    unfold back at h
    rcases back_get h l with ⟨k, ds, e, j, es, k', a, b, w⟩ | ⟨n, e⟩
    · exact .inl ⟨k, ds, e, j + 1, es, k', by simpa using a, by simpa using b, w⟩
    · refine .inr ⟨fun k ds j q => ?_, e⟩
      cases j with
      | zero => intro z; simp at z
      | succ j => simpa using n k ds j q
  | .nw d :: rs, s :: ss, ρ, ρ2, h, l => by
    unfold back at h
    rcases back_get h l with ⟨k, ds, e, j, es, k', a, b, w⟩ | ⟨n, e⟩
    · exact .inl ⟨k, ds, e, j + 1, es, k', by simpa using a, by simpa using b, w⟩
    · refine .inr ⟨fun k ds j q => ?_, e⟩
      cases j with
      | zero => intro z; simp at z
      | succ j => simpa using n k ds j q
  | .sl i :: rs, s :: ss, ρ, ρ2, h, l => by
    unfold back at h
    have plain : back ρ rs ss = some ρ2 → (∀ (k : Nat) (ds : List PyData), ρ[i]? ≠ some (.ow k ds)) → (∃ (k : Nat) (ds : List PyData), ρ[l]? = some (.ow k ds) ∧ ∃ (j : Nat) (es : List PyData) (k' : Nat), (Rv.sl i :: rs)[j]? = some (.sl l) ∧ (s :: ss)[j]? = some (.ow k' es) ∧ ρ2[l]? = some (.ow k es)) ∨
        ((∀ (k : Nat) (ds : List PyData) (j : Nat), ρ[l]? = some (.ow k ds) → (Rv.sl i :: rs)[j]? ≠ some (.sl l)) ∧ ρ2[l]? = ρ[l]?) := fun h' hn => by
      rcases back_get h' l with ⟨k, ds, e, j, es, k', a, b, w⟩ | ⟨n, e⟩
      · exact .inl ⟨k, ds, e, j + 1, es, k', by simpa using a, by simpa using b, w⟩
      · refine .inr ⟨fun k ds j q => ?_, e⟩
        cases j with
        | zero =>
          intro z
          simp at z
          subst z
          exact hn k ds q
        | succ j => simpa using n k ds j q
    cases e : ρ[i]? with
    | none =>
      rw [e] at h
      exact plain h fun k ds z => by rw [e] at z; cases z
    | some t =>
      rw [e] at h
      cases t with
      | un => exact plain h fun k ds z => by rw [e] at z; cases z
      | va d => exact plain h fun k ds z => by rw [e] at z; cases z
      | ow k ds =>
        cases s with
        | un => cases h
        | va d => cases h
        | ow k2 es =>
          have h' : back (ρ.set i (.ow k es)) rs ss = some ρ2 := h
          rcases back_get h' l with ⟨k3, ds3, e3, j, es3, k4, a, b, w⟩ | ⟨n, e3⟩
          · by_cases hl : i = l
            · subst hl
              rw [get_set_eq e] at e3
              cases e3
              exact .inl ⟨k, ds, e, j + 1, es3, k4, by simpa using a, by simpa using b, w⟩
            · rw [List.getElem?_set_ne hl] at e3
              exact .inl ⟨k3, ds3, e3, j + 1, es3, k4, by simpa using a, by simpa using b, w⟩
          · by_cases hl : i = l
            · subst hl
              rw [get_set_eq e] at e3
              exact .inl ⟨k, ds, e, 0, es, k2, rfl, rfl, e3⟩
            · rw [List.getElem?_set_ne hl] at e3
              refine .inr ⟨fun k' ds' j q => ?_, e3⟩
              cases j with
              | zero =>
                intro z
                simp at z
                exact hl z
              | succ j =>
                have := n k' ds' j (by rw [List.getElem?_set_ne hl]; exact q)
                simpa using this
end

section
variable {c : Cn} {tr : TA} {fr : En → RM (List Rv)} {T : Lw}
/-- the heart of a call -/
theorem call_core {K : PySem.W.Frag} {vs0 : V0} (ht : vs0.tb = T.tb) {Pr Hf H : Hp} {σ : L2.St} {ρ as : En} {vs : List V} {rs : List Rv} {G : En → RM Rv} {Q : VK} {E1 : XK}
    (S : Sta K vs0 Pr Hf H σ ρ) (rv : RvAll K Pr Hf H σ ρ vs rs) (ea : argsOf ρ rs 0 = some as) (hn : (owsOf ρ rs).Nodup)
    (ok : ∀ r out, G as = some (.ok (r, out)) → isSl r = false ∧ ∃ ρ2, back ρ rs out = some ρ2 ∧ ∀ v Hf' H', Gro Pr Hf Hf' → Sta K vs0 Pr Hf' H' σ ρ2 → RvOk K Pr Hf' H' σ ρ2 v r → Q v H')
    (er : ∀ x out, G as = some (.error (x, out)) → ∃ ρ2, back ρ rs out = some ρ2 ∧ ∀ cls dx Hf' H', Gro Pr Hf Hf' → Sta K vs0 Pr Hf' H' σ ρ2 → XOk T.xt K Hf' H' x cls dx → E1 cls dx H') (nn : G as ≠ none) : spG T K G vs H Q E1 := by
  classical
  -- the addresses of the lists that are handed on
  let ha : Addr → Prop := fun p => ∃ (j i k : Nat) (ds : List PyData), rs[j]? = some (.sl i) ∧ ρ[i]? = some (.ow k ds) ∧ σ[i]? = some (some (.ref p))
  let isT : HO → Prop := fun o => ∃ ps, o = .tbl ps
  let nt : Hp := fun b => match H b with
    | some o => if isT o then none else some o
    | none => none
  let Pc : Hp := fun b => if ha b then none else nt b
  have nt_yes : ∀ b o, H b = some o → (∀ ps, o ≠ .tbl ps) → nt b = some o := fun b o e n => by
    show (match H b with | some o => if isT o then none else some o | none => none) = some o
    rw [e]
    exact if_neg fun ⟨ps, z⟩ => n ps z
  have nt_H : ∀ b o, nt b = some o → H b = some o ∧ ∀ ps, o ≠ .tbl ps := fun b o e => by
    have e' : (match H b with | some o => if isT o then none else some o | none => none) = some o := e
    cases q : H b with
    | none => rw [q] at e'; cases e'
    | some u =>
      rw [q] at e'
      by_cases z : isT u
      · have e2 := (if_pos z : (if isT u then none else some u) = none).symm.trans e'
        cases e2
      · have e2 := (if_neg z : (if isT u then none else some u) = some u).symm.trans e'
        cases e2
        exact ⟨rfl, fun ps w => z ⟨ps, w⟩⟩
  have pc_no : ∀ b, ha b → Pc b = none := fun b h => if_pos h
  have pc_yes : ∀ b o, ¬ ha b → H b = some o → (∀ ps, o ≠ .tbl ps) → Pc b = some o := fun b o h e n => (if_neg h).trans (nt_yes b o e n)
  have pc_H : ∀ b o, Pc b = some o → H b = some o ∧ ∀ ps, o ≠ .tbl ps := fun b o e => by
    by_cases h : ha b
    · rw [pc_no b h] at e
      cases e
    · exact nt_H b o ((if_neg h).symm.trans e)
  have lstT : ∀ (xs : List V) ps, HO.lst xs ≠ .tbl ps := fun xs ps z => by cases z
  have len : as.length = vs.length := by rw [args_len ea, rvall_len rv]
  have haPr : ∀ p, ha p → Pr p = none ∧ Hf p = none := fun p ⟨j, i, k, ds, e1, e2, e3⟩ => by
    obtain ⟨o, q1, p', xs, q2, q3, q4, _⟩ := S.sl i _ e2
    rw [e3] at q1
    cases q1
    cases q2
    exact ⟨q4, q3⟩
  have sPrPc : Same Pr Pc := fun b o e => by
    have hb : ¬ ha b := fun z => by
      rw [(haPr b z).1] at e
      cases e
    exact pc_yes b o hb (S.pr b o e) fun ps z => S.np b ps (by rw [e, z])
  have arg : ∀ (j : Nat) (s : Sl), as[j]? = some s → ∃ (r : Rv) (v : V), rs[j]? = some r ∧ vs[j]? = some v ∧ RvOk K Pr Hf H σ ρ v r ∧ r.fz = r ∧ argOf ρ j r = some s := fun j s e => by
    obtain ⟨r, e1, e2⟩ := args_get ea e
    obtain ⟨v, e3, e4, e5⟩ := rvall_get rv e1
    rw [Nat.zero_add] at e2
    exact ⟨r, v, e1, e3, e4, e5, e2⟩
  have own : ∀ (j : Nat) (p : Addr), Own (vs.map some) as j p → ∃ (i k : Nat) (ds : List PyData), rs[j]? = some (.sl i) ∧ ρ[i]? = some (.ow k ds) ∧ σ[i]? = some (some (.ref p)) := fun j p ⟨⟨k, ds, e1⟩, e2⟩ => by
    obtain ⟨r, v, a1, a2, a3, a4, a5⟩ := arg j _ e1
    rw [List.getElem?_map, a2] at e2
    cases e2
    cases r with
    | va d => cases a5
    | nw d => cases a5
    | sl i =>
      dsimp only [argOf] at a5
      cases q : ρ[i]? with
      | none => rw [q] at a5; cases a5
      | some t =>
        rw [q] at a5
        cases t with
        | un => cases a5
        | va d => cases a5
        | ow k' es => exact ⟨i, k', es, a1, q, a3⟩
  have S' : Sta K ⟨vs, T.tb⟩ Pc Hf H (vs.map some) as := by
    refine ⟨S.fz, fun b o e => (pc_H b o e).1, fun j s e => ?_, fun a b p h1 h2 => ?_, ht ▸ S.tb, S.nf, fun b ps e => (pc_H b _ e).2 ps rfl⟩
    · obtain ⟨r, v, a1, a2, a3, a4, a5⟩ := arg j s e
      refine ⟨some v, by rw [List.getElem?_map, a2]; rfl, ?_⟩
      cases r with
      | nw d => cases a4
      | va d =>
        cases a5
        exact ⟨v, rfl, a3⟩
      | sl i =>
        dsimp only [argOf] at a5
        cases q : ρ[i]? with
        | none => rw [q] at a5; cases a5
        | some t =>
          rw [q] at a5
          obtain ⟨o, b1, b2⟩ := S.sl i _ q
          rw [(show σ[i]? = some (some v) from a3)] at b1
          cases b1
          cases t with
          | un => cases a5
          | va d =>
            cases a5
            exact b2
          | ow k ds =>
            cases a5
            obtain ⟨p, xs, c1, c2, c3, c4, c5, c6⟩ := b2
            cases c1
            exact ⟨p, xs, rfl, c2, pc_no p ⟨j, i, k, ds, a1, q, a3⟩, c4, c5, fun _ => by rw [Nat.add_sub_cancel]; exact a2⟩
    · obtain ⟨i, k, ds, a1, a2, a3⟩ := own a p h1
      obtain ⟨i', k', ds', b1, b2, b3⟩ := own b p h2
      have ei := S.dj i i' p ⟨⟨k, ds, a2⟩, a3⟩ ⟨⟨k', ds', b2⟩, b3⟩
      subst ei
      exact ows_one hn a2 a1 b1
  -- back in the caller
  have ret : ∀ out ρ2 Hf' H', back ρ rs out = some ρ2 → Gro Pc Hf Hf' → Sta K ⟨vs, T.tb⟩ Pc Hf' H' (vs.map some) out → Gro Pr Hf Hf' ∧ Sta K vs0 Pr Hf' H' σ ρ2 ∧ (∀ i p, Own σ ρ2 i p → Own σ ρ i p) := by
    intro out ρ2 Hf' H' eb g S2
    have ownb : ∀ i p, Own σ ρ2 i p → Own σ ρ i p := fun i p ⟨⟨k, ds, e1⟩, e2⟩ => by
      rcases back_get eb i with ⟨k1, ds1, f1, _⟩ | ⟨_, f1⟩
      · exact ⟨⟨k1, ds1, f1⟩, e2⟩
      · rw [f1] at e1
        exact ⟨⟨k, ds, e1⟩, e2⟩
    refine ⟨⟨g.1, fun b o e n => g.2.1 b o (sPrPc b o e) n, g.2.2⟩, ⟨S2.fz, fun b o e => S2.pr b o (sPrPc b o e), fun l s e => ?_, fun a b p h1 h2 => S.dj a b p (ownb a p h1) (ownb b p h2), ht ▸ S2.tb, S2.nf, S.np⟩, ownb⟩
    rcases back_get eb l with ⟨k, ds, f1, j, es, k', f2, f3, f4⟩ | ⟨f1, f2⟩
    · rw [f4] at e
      cases e
      obtain ⟨o, b1, p, xs, b2, b3, b4, b5, b6, b7⟩ := S.sl l _ f1
      subst b2
      obtain ⟨v, a2, a3, _⟩ := rvall_get rv f2
      rw [(show σ[l]? = some (some v) from a3)] at b1
      cases b1
      obtain ⟨o, c1, p', ys, c2, c3, c4, c5, c6, c7⟩ := S2.sl j _ f3
      rw [List.getElem?_map, a2] at c1
      cases c1
      cases c2
      exact ⟨_, a3, p, ys, rfl, c3, b4, c5, c6, b7⟩
    · rw [f2] at e
      obtain ⟨o, b1, b2⟩ := S.sl l s e
      refine ⟨o, b1, ?_⟩
      cases s with
      | un => trivial
      | va d =>
        obtain ⟨u, eu, hu⟩ := b2
        exact ⟨u, eu, dp_mono g.1 _ _ hu⟩
      | ow k ds =>
        obtain ⟨p, xs, eu, b3, b4, b5, b6, b7⟩ := b2
        have np : ¬ ha p := fun ⟨j, i, k', ds', e1, e2, e3⟩ => by
          have := S.dj l i p ⟨⟨k, ds, e⟩, by rw [b1, eu]⟩ ⟨⟨k', ds', e2⟩, e3⟩
          subst this
          exact f1 k' ds' j e2 e1
        have pp : Pc p = some (.lst xs) := pc_yes p _ np b5 (lstT xs)
        exact ⟨p, xs, eu, g.2.1 p _ pp b3, b4, S2.pr p _ pp, dpa_mono g.1 _ _ b6, b7⟩
  refine ⟨Pc, Hf, as, S', len, ?_⟩
  match e : G as with
  | none => exact nn e
  | some (.ok (r, out)) =>
    obtain ⟨hr, ρ2, eb, k⟩ := ok r out e
    intro v Hf' H' g S2 rv2
    obtain ⟨g', S3, ob⟩ := ret out ρ2 Hf' H' eb g S2
    refine k v Hf' H' g' S3 ?_
    cases r with
    | va d => exact rv2
    | sl i => cases hr
    | nw ds =>
      obtain ⟨p, xs, rfl, a1, a2, a3, a4, a5⟩ := rv2
      have pr : Pr p = none := by
        cases q : Pr p with
        | none => rfl
        | some o =>
          rw [sPrPc p o q] at a2
          cases a2
      refine ⟨p, xs, rfl, a1, pr, a3, a4, fun i hi => ?_⟩
      obtain ⟨⟨k1, ds1, f1⟩, f2⟩ := ob i p hi
      obtain ⟨o, b1, p', ys, b2, b3, b4, b5, _⟩ := S.sl i _ f1
      rw [f2] at b1
      cases b1
      cases b2
      have hp : ha p := by
        apply Classical.byContradiction
        intro z
        rw [pc_yes p _ z b5 (lstT ys)] at a2
        cases a2
      obtain ⟨j, i', k2, ds2, e1, e2, e3⟩ := hp
      have ei := S.dj i i' p ⟨⟨k1, ds1, f1⟩, f2⟩ ⟨⟨k2, ds2, e2⟩, e3⟩
      subst ei
      rcases back_get eb i with ⟨k3, ds3, g1, j3, es3, k4, g2, g3, g4⟩ | ⟨g1, _⟩
      · obtain ⟨v, h2, h3, _⟩ := rvall_get rv g2
        rw [(show σ[i]? = some (some v) from h3)] at f2
        cases f2
        exact a5 j3 ⟨⟨k4, es3, g3⟩, by rw [List.getElem?_map, h2]; rfl⟩
      · exact g1 k2 ds2 j e2 e1
  | some (.error (x, out)) =>
    obtain ⟨ρ2, eb, k⟩ := er x out e
    intro cls dx Hf' H' g S2 xo
    obtain ⟨g', S3, _⟩ := ret out ρ2 Hf' H' eb g S2
    exact k cls dx Hf' H' g' S3 xo
theorem je_call {G : En → RM Rv} {E1 : XK} (hT : c.T = T.xt) (ht : c.vs0.tb = T.tb) (hE : ∀ σ cls dx H', c.E σ cls dx H' → E1 cls dx H') (ha : JA c tr fr) : JE c (tCall (spG T c.K G) [] E1 tr) (callM G fr) := by
  intro σ H Pr Hf ρ Q S h
  show tr σ H fun vs H1 => spG T c.K G (vs ++ []) H1 Q E1
  refine ha σ H Pr Hf ρ _ S (Good.bind h fun rs ρ1 _ vs Hf1 H1 g1 S1 rv1 h1 => ?_)
  rw [List.append_nil]
  cases ea : argsOf ρ1 rs 0 with
  | none => simp only [ea] at h1; exact h1.elim
  | some as =>
    simp only [ea] at h1
    obtain ⟨hn, h2⟩ := Good.ck h1
    refine call_core ht S1 rv1 ea (of_decide_eq_true hn) (fun r out e => ?_) (fun x out e => ?_) fun e => ?_
    · simp only [e] at h2
      obtain ⟨hs, h3⟩ := Good.ck h2
      cases eb : back ρ1 rs out with
      | none => simp only [eb] at h3; exact h3.elim
      | some ρ2 =>
        simp only [eb] at h3
        exact ⟨(by cases r <;> first | rfl | (cases hs)), ρ2, rfl, h3⟩
    · simp only [e] at h2
      cases eb : back ρ1 rs out with
      | none => simp only [eb] at h2; exact h2.elim
      | some ρ2 =>
        simp only [eb] at h2
        exact ⟨ρ2, rfl, fun cls dx Hf' H' g S2 xo => hE σ cls dx H' (h2 cls dx Hf' H' g S2 (hT ▸ xo))⟩
    · simp only [e] at h2
      exact h2.elim
theorem je_call0 {G : En → RM Rv} {E1 : XK} (hT : c.T = T.xt) (ht : c.vs0.tb = T.tb) (ha : JA c tr fr) : JE c (tCall (spG T c.K G) [] E1 tr) (callM (quiet G) fr) := by
  intro σ H Pr Hf ρ Q S h
  show tr σ H fun vs H1 => spG T c.K G (vs ++ []) H1 Q E1
  refine ha σ H Pr Hf ρ _ S (Good.bind h fun rs ρ1 _ vs Hf1 H1 g1 S1 rv1 h1 => ?_)
  rw [List.append_nil]
  cases ea : argsOf ρ1 rs 0 with
  | none => simp only [ea] at h1; exact h1.elim
  | some as =>
    simp only [ea] at h1
    obtain ⟨hn, h2⟩ := Good.ck h1
    refine call_core ht S1 rv1 ea (of_decide_eq_true hn) (fun r out e => ?_) (fun x out e => ?_) fun e => ?_
    · simp only [quiet, e] at h2
      obtain ⟨hs, h3⟩ := Good.ck h2
      cases eb : back ρ1 rs out with
      | none => simp only [eb] at h3; exact h3.elim
      | some ρ2 =>
        simp only [eb] at h3
        exact ⟨(by cases r <;> first | rfl | (cases hs)), ρ2, rfl, h3⟩
    · simp only [quiet, e] at h2
      exact h2.elim
    · simp only [quiet, e] at h2
      exact h2.elim
end

/-! ### a def -/
def outs (ρ : En) : En → Nat → Option En
  | [], _ => some []
  | .ow _ _ :: ss, j => match ρ[j]?, outs ρ ss (j + 1) with
    | some (.ow k' es), some r => match decide (k' = j + 1) with
      | true => some (.ow (j + 1) es :: r)
      | false => none
    | _, _ => none
  | .va d :: ss, j => match outs ρ ss (j + 1) with
    | some r => some (.va d :: r)
    | none => none
  | .un :: ss, j => match outs ρ ss (j + 1) with
    | some r => some (.un :: r)
    | none => none
def resOf (ρ : En) : Rv → Option Rv
  | .va d => some (.va d)
  | .nw ds => some (.nw ds)
  | .sl i => match ρ[i]? with
    | some (.va d) => some (.va d)
    | some (.ow 0 ds) => some (.nw ds)
    | _ => none
/-- a def of n parameters and m further names -/
def runDef (n m : Nat) (f : En → RM Ot) : En → RM Rv := fun as => ck (decide (as.length = n)) (match f (as ++ List.replicate m .un) with
  | none => none
  | some (.error (x, ρ)) => (match outs ρ as 0 with
    | some o => some (.error (x, o))
    | none => none)
  | some (.ok (.nx, ρ)) => (match outs ρ as 0 with
    | some o => some (.ok (.va .none, o))
    | none => none)
  | some (.ok (.rt r, ρ)) => (match resOf ρ r, outs ρ as 0 with
    | some r', some o => some (.ok (r', o))
    | _, _ => none)
  | some (.ok (.bk, _)) => none
  | some (.ok (.ct, _)) => none)
theorem outs_get {ρ : En} : ∀ {as : En} {j : Nat} {o : En} {i : Nat} {s : Sl}, outs ρ as j = some o → o[i]? = some s →
    (s = .un ∧ as[i]? = some .un) ∨ (∃ d, s = .va d ∧ as[i]? = some (.va d)) ∨ ∃ k ds es, s = .ow (j + i + 1) es ∧ as[i]? = some (.ow k ds) ∧ ρ[j + i]? = some (.ow (j + i + 1) es)
  | [], _, _, _, _, h, e => by
    cases h
    simp at e
  | t :: ts, j, o, i, s, h, e => by
    have sub : ∀ r, outs ρ ts (j + 1) = some r → ∀ i s, r[i]? = some s → (s = .un ∧ ts[i]? = some .un) ∨ (∃ d, s = .va d ∧ ts[i]? = some (.va d)) ∨ ∃ k ds es, s = .ow (j + (i + 1) + 1) es ∧ ts[i]? = some (.ow k ds) ∧ ρ[j + (i + 1)]? = some (.ow (j + (i + 1) + 1) es) := fun r hr i s hs => by
      have q := outs_get hr hs
      rw [show j + 1 + i = j + (i + 1) by omega] at q
      exact q
    cases t with
    | un =>
      unfold outs at h
      cases q : outs ρ ts (j + 1) with
      | none => rw [q] at h; cases h
      | some r =>
        rw [q] at h
        cases h
        cases i with
        | zero =>
          simp at e
          exact .inl ⟨e.symm, rfl⟩
        | succ i => simpa using sub r q i s (by simpa using e)
    | va d =>
      unfold outs at h
      cases q : outs ρ ts (j + 1) with
      | none => rw [q] at h; cases h
      | some r =>
        rw [q] at h
        cases h
        cases i with
        | zero =>
          simp at e
          exact .inr (.inl ⟨d, e.symm, rfl⟩)
        | succ i => simpa using sub r q i s (by simpa using e)
    | ow k ds =>
      unfold outs at h
      cases w : ρ[j]? with
      | none => rw [w] at h; cases h
      | some u =>
        rw [w] at h
        cases u with
        | un => cases h
        | va d => cases h
        | ow k' es =>
          cases q : outs ρ ts (j + 1) with
          | none => rw [q] at h; cases h
          | some r =>
            rw [q] at h
            dsimp only at h
            cases hd : decide (k' = j + 1) with
            | false => rw [hd] at h; cases h
            | true =>
              rw [hd] at h
              cases h
              have ek : k' = j + 1 := of_decide_eq_true hd
              subst ek
              cases i with
              | zero =>
                simp at e
                exact .inr (.inr ⟨k, ds, es, e.symm, rfl, w⟩)
              | succ i => simpa using sub r q i s (by simpa using e)
theorem outs_len {ρ : En} : ∀ {as : En} {j : Nat} {o : En}, outs ρ as j = some o → o.length = as.length
  | [], _, _, h => by
    cases h
    rfl
  | t :: ts, j, o, h => by
    cases t with
    | un =>
      unfold outs at h
      cases q : outs ρ ts (j + 1) with
      | none => rw [q] at h; cases h
      | some r =>
        rw [q] at h
        cases h
        rw [List.length_cons, List.length_cons, outs_len q]
    | va d =>
      unfold outs at h
      cases q : outs ρ ts (j + 1) with
      | none => rw [q] at h; cases h
      | some r =>
        rw [q] at h
        cases h
        rw [List.length_cons, List.length_cons, outs_len q]
    | ow k ds =>
      unfold outs at h
      cases w : ρ[j]? with
      | none => rw [w] at h; cases h
      | some u =>
        rw [w] at h
        cases u with
        | un => cases h
        | va d => cases h
        | ow k' es =>
          cases q : outs ρ ts (j + 1) with
          | none => rw [q] at h; cases h
          | some r =>
            rw [q] at h
            dsimp only at h
            cases hd : decide (k' = j + 1) with
            | false => rw [hd] at h; cases h
            | true =>
              rw [hd] at h
              cases h
              rw [List.length_cons, List.length_cons, outs_len q]
section
variable {K : PySem.W.Frag} {vs : List V} {Pr Hf Hf' H H' : Hp} {σ : L2.St} {as ρ o : En} {m : Nat} {tb : List (Addr × Str)}
theorem sta_start (S : Sta K ⟨vs, tb⟩ Pr Hf H (vs.map some) as) (hl : as.length = vs.length) (m : Nat) : Sta K ⟨vs, tb⟩ Pr Hf H (vs.map some ++ List.replicate m none) (as ++ List.replicate m .un) := by
  have get : ∀ i s, (as ++ List.replicate m Sl.un)[i]? = some s → (as[i]? = some s ∧ i < as.length) ∨ (s = .un ∧ ∃ u, (vs.map some ++ List.replicate m none)[i]? = some u) := fun i s e => by
    by_cases h : i < as.length
    · rw [List.getElem?_append_left h] at e
      exact .inl ⟨e, h⟩
    · rw [List.getElem?_append_right (by omega)] at e
      have hm : i - as.length < m := by
        have := (List.getElem?_eq_some_iff.mp e).1
        rwa [List.length_replicate] at this
      rw [List.getElem?_replicate, if_pos hm] at e
      cases e
      refine .inr ⟨rfl, none, ?_⟩
      rw [List.getElem?_append_right (by rw [List.length_map]; omega), List.getElem?_replicate, if_pos (by rw [List.length_map]; omega)]
  have getσ : ∀ i, i < as.length → (vs.map some ++ List.replicate m none)[i]? = (vs.map some)[i]? := fun i h => List.getElem?_append_left (by rw [List.length_map]; omega)
  have own : ∀ i p, Own (vs.map some ++ List.replicate m none) (as ++ List.replicate m .un) i p → Own (vs.map some) as i p := fun i p ⟨⟨k, ds, e1⟩, e2⟩ => by
    rcases get i _ e1 with ⟨e3, h⟩ | ⟨z, _⟩
    · rw [getσ i h] at e2
      exact ⟨⟨k, ds, e3⟩, e2⟩
    · cases z
  refine ⟨S.fz, S.pr, fun i s e => ?_, fun a b p h1 h2 => S.dj a b p (own a p h1) (own b p h2), S.tb, S.nf, S.np⟩
  rcases get i s e with ⟨e3, h⟩ | ⟨rfl, u, hu⟩
  · obtain ⟨u, q1, q2⟩ := S.sl i s e3
    exact ⟨u, by rw [getσ i h]; exact q1, q2⟩
  · exact ⟨u, hu, trivial⟩
theorem sta_end (S0 : Sta K ⟨vs, tb⟩ Pr Hf H (vs.map some) as) (g : Gro Pr Hf Hf') (S : Sta K ⟨vs, tb⟩ Pr Hf' H' σ ρ) (ho : outs ρ as 0 = some o) :
    Sta K ⟨vs, tb⟩ Pr Hf' H' (vs.map some) o ∧ ∀ i p, Own (vs.map some) o i p → Own σ ρ i p ∧ ∃ k ds, k ≠ 0 ∧ ρ[i]? = some (.ow k ds) := by
  have own : ∀ i p, Own (vs.map some) o i p → Own σ ρ i p ∧ ∃ k ds, k ≠ 0 ∧ ρ[i]? = some (.ow k ds) := fun i p ⟨⟨k, ds, e1⟩, e2⟩ => by
    rcases outs_get ho e1 with ⟨z, _⟩ | ⟨d, z, _⟩ | ⟨k', ds', es, z, e3, e4⟩
    · cases z
    · cases z
    · cases z
      rw [Nat.zero_add] at e4
      obtain ⟨u, q1, p', xs, q2, q3, q4, q5, q6, q7⟩ := S.sl i _ e4
      have q8 := q7 (Nat.succ_ne_zero i)
      rw [Nat.add_sub_cancel] at q8
      rw [List.getElem?_map, q8] at e2
      cases e2
      exact ⟨⟨⟨_, _, e4⟩, by rw [q1, q2]⟩, _, _, Nat.succ_ne_zero i, e4⟩
  refine ⟨⟨S.fz, S.pr, fun i s e => ?_, fun a b p h1 h2 => S.dj a b p (own a p h1).1 (own b p h2).1, S.tb, S.nf, S.np⟩, own⟩
  rcases outs_get ho e with ⟨rfl, e1⟩ | ⟨d, rfl, e1⟩ | ⟨k', ds', es, rfl, e3, e4⟩
  · obtain ⟨u, q1, _⟩ := S0.sl i _ e1
    exact ⟨u, q1, trivial⟩
  · obtain ⟨u, q1, v, q2, q3⟩ := S0.sl i _ e1
    exact ⟨u, q1, v, q2, dp_mono g.1 _ _ q3⟩
  · rw [Nat.zero_add] at e4 ⊢
    obtain ⟨u, q1, p', xs, q2, q3, q4, q5, q6, q7⟩ := S.sl i _ e4
    have q8 := q7 (Nat.succ_ne_zero i)
    rw [Nat.add_sub_cancel] at q8
    exact ⟨_, by rw [List.getElem?_map, q8]; rfl, p', xs, rfl, q3, q4, q5, q6, q7⟩
theorem res_end {v : V} {r r' : Rv} (S : Sta K ⟨vs, tb⟩ Pr Hf' H' σ ρ) (own : ∀ i p, Own (vs.map some) o i p → Own σ ρ i p ∧ ∃ k ds, k ≠ 0 ∧ ρ[i]? = some (.ow k ds)) (rv : RvOk K Pr Hf' H' σ ρ v r) (e : resOf ρ r = some r') :
    RvOk K Pr Hf' H' (vs.map some) o v r' := by
  cases r with
  | va d =>
    cases e
    exact rv
  | nw ds =>
    cases e
    obtain ⟨p, xs, rfl, h1, h2, h3, h4, h5⟩ := rv
    exact ⟨p, xs, rfl, h1, h2, h3, h4, fun i hi => h5 i (own i p hi).1⟩
  | sl i =>
    unfold resOf at e
    dsimp only at e
    have rv' : σ[i]? = some (some v) := rv
    cases q : ρ[i]? with
    | none => rw [q] at e; cases e
    | some s =>
      rw [q] at e
      obtain ⟨u, f1, f2⟩ := S.sl i s q
      rw [rv'] at f1
      cases f1
      cases s with
      | un => cases e
      | va d =>
        cases e
        obtain ⟨w, z, hw⟩ := f2
        cases z
        exact hw
      | ow k ds =>
        cases k with
        | succ k => cases e
        | zero =>
          cases e
          obtain ⟨p, xs, z, h1, h2, h3, h4, _⟩ := f2
          cases z
          refine ⟨p, xs, rfl, h1, h2, h3, h4, fun j hj => ?_⟩
          obtain ⟨a, k, es, hk, e4⟩ := own j p hj
          have := S.dj i j p ⟨⟨_, _, q⟩, rv'⟩ a
          subst this
          rw [q] at e4
          cases e4
          exact hk rfl
end
/-- a def's body keeps the promise -/
theorem run_ok {T : Lw} {K : PySem.W.Frag} {vs : List V} {H : Hp} {Q : VK} {E : XK} {n m : Nat} {f : En → RM Ot} {t : TS} (hb : JS (cnOf T K vs E) t f) (h : spG T K (runDef n m f) vs H Q E) :
    t { nx := fun _ H' => Q .non H', rt := Q } (vs.map some ++ List.replicate m none) H := by
  obtain ⟨Pr, Hf, as, S, hl, g⟩ := h
  unfold runDef at g
  obtain ⟨hn, g⟩ := Good.ck g
  refine hb _ _ H Pr Hf _ (sta_start S hl m) ?_
  cases e : f (as ++ List.replicate m .un) with
  | none => rw [e] at g; exact g.elim
  | some q =>
    cases q with
    | error q =>
      obtain ⟨x, ρ⟩ := q
      rw [e] at g
      cases ho : outs ρ as 0 with
      | none => simp only [ho] at g; exact g.elim
      | some o =>
        simp only [ho] at g
        exact fun cls dx σ' Hf' H' gr S' xo => g cls dx Hf' H' gr (sta_end S gr S' ho).1 xo
    | ok q =>
      obtain ⟨r, ρ⟩ := q
      rw [e] at g
      cases r with
      | nx =>
        cases ho : outs ρ as 0 with
        | none => simp only [ho] at g; exact g.elim
        | some o =>
          simp only [ho] at g
          exact fun σ' Hf' H' gr S' => g .non Hf' H' gr (sta_end S gr S' ho).1 Dp.non
      | rt r =>
        cases hr : resOf ρ r with
        | none => simp only [hr] at g; exact g.elim
        | some r' =>
          cases ho : outs ρ as 0 with
          | none => simp only [hr, ho] at g; exact g.elim
          | some o =>
            simp only [hr, ho] at g
            intro v σ' Hf' H' gr S' rv
            obtain ⟨S2, own⟩ := sta_end S gr S' ho
            exact g v Hf' H' gr S2 (res_end S' own rv hr)
      | bk => exact g.elim
      | ct => exact g.elim
theorem spG_len {T : Lw} {K : PySem.W.Frag} {vs : List V} {H : Hp} {Q : VK} {E : XK} {n m : Nat} {f : En → RM Ot} (h : spG T K (runDef n m f) vs H Q E) : vs.length = n := by
  obtain ⟨Pr, Hf, as, S, hl, g⟩ := h
  unfold runDef at g
  obtain ⟨hn, g⟩ := Good.ck g
  rw [← hl]
  exact of_decide_eq_true hn
section
variable {P : Program} {w : World} {K : PySem.W.Frag} {mg : Str → Option Value} {base : Heap}
/-- a def that raises nothing -/
theorem fn_ok {T : Lw} {x qual : Str} {st : Stmt} {f : Addr} {fd : FuncData} {N ps : List Str} {k n m : Nat} {fb : En → RM Ot} (F : Fun K x qual st f fd) (S : FnScope N ps (defScope st)) (hn : ps.length = n) (hm : N.length = n + m)
    (hb : ∀ (cdv : Value) (A : Around) (outer : List Env) (s : Shared) (H : Hp) (vs : List V) (E : XK), Room k (A.deeper (envOfC qual (defScope st) s.heap.objs.size f cdv)) →
      ∃ t, PSs (cxOf CX0 P w K mg base N qual (defScope st) f cdv A outer s H E).nox (defBody st) t ∧ JS (cnOf T K vs E) t fb) : FnOk P w K mg base CX0 (k + 1) f fd ps (spG T K (runDef n m fb)) := by
  refine F.ok S (fun vs H Q E h => (spG_len h).trans hn.symm) fun cdv A outer s H vs Q E hr h => ?_
  obtain ⟨t, a, b⟩ := hb cdv A outer s H vs E hr
  refine ⟨t, a, ?_⟩
  have e : L2.start N vs = vs.map some ++ List.replicate m none := by
    unfold L2.start
    rw [hm, spG_len h, Nat.add_sub_cancel_left]
  rw [e]
  exact run_ok b h
/-- a def that may raise -/
theorem fn_okX {T : Lw} {x qual : Str} {st : Stmt} {f : Addr} {fd : FuncData} {N ps : List Str} {k n m : Nat} {fb : En → RM Ot} (F : Fun K x qual st f fd) (S : FnScope N ps (defScope st)) (hn : ps.length = n) (hm : N.length = n + m)
    (hb : ∀ (cdv : Value) (A : Around) (outer : List Env) (s : Shared) (H : Hp) (vs : List V) (E : XK), Room k (A.deeper (envOfC qual (defScope st) s.heap.objs.size f cdv)) →
      ∃ t, PSs (cxOf (L2.CX P w) P w K mg base N qual (defScope st) f cdv A outer s H E) (defBody st) t ∧ JS (cnOf T K vs E) t fb) : FnOk P w K mg base (L2.CX P w) (k + 1) f fd ps (spG T K (runDef n m fb)) := by
  refine F.okX S (fun vs H Q E h => (spG_len h).trans hn.symm) fun cdv A outer s H vs Q E hr h => ?_
  obtain ⟨t, a, b⟩ := hb cdv A outer s H vs E hr
  refine ⟨t, a, ?_⟩
  have e : L2.start N vs = vs.map some ++ List.replicate m none := by
    unfold L2.start
    rw [hm, spG_len h, Nat.add_sub_cancel_left]
  rw [e]
  exact run_ok b h
end
end Pl

namespace Pl
open PySem PySem.Spec PyProof.Rows L2
/-! ### the operators -/
def iop (g : Int → Int → PyData) : PyData → PyData → Option Rv
  | .int i, .int j => some (.va (g i j))
  | _, _ => none
def iopC (cb : Int → Int → Bool) (g : Int → Int → PyData) : PyData → PyData → Option Rv
  | .int i, .int j => match cb i j with
    | true => some (.va (g i j))
    | false => none
  | _, _ => none
section
variable {K : PySem.W.Frag}
theorem ok_i {gv : Int → Int → V} {gd : Int → Int → PyData} (h : ∀ i j H, Dp K H (gv i j) (gd i j)) : OpOk K (rI0 gv) (iop gd) := by
  intro Hf H x y d e z Q f dx dy hz k
  match d, e, hz with
  | .int i, .int j, hz =>
    cases hz
    exact ⟨i, j, dx.int, dy.int, k.d f (h i j Hf)⟩
theorem ok_iC {C : Int → Int → Prop} {cb : Int → Int → Bool} {gv : Int → Int → V} {gd : Int → Int → PyData} (hc : ∀ i j, cb i j = true → C i j) (h : ∀ i j H, cb i j = true → Dp K H (gv i j) (gd i j)) : OpOk K (rI C gv) (iopC cb gd) := by
  intro Hf H x y d e z Q f dx dy hz k
  match d, e, hz with
  | .int i, .int j, hz =>
    dsimp only [iopC] at hz
    cases q : cb i j with
    | false => rw [q] at hz; cases hz
    | true =>
      rw [q] at hz
      cases hz
      exact ⟨i, j, dx.int, dy.int, hc i j q, k.d f (h i j Hf q)⟩
def subG := iop fun i j => .int (i - j)
def mulB (i j : Int) : Bool := decide (i.natAbs.log2 + j.natAbs.log2 < 1000000)
def mulG := iopC mulB fun i j => .int (i * j)
def divB (_ j : Int) : Bool := decide (0 < j) && decide (j.natAbs.log2 < 9000)
def divG := iopC divB fun i j => .int (i / j)
def modB (_ j : Int) : Bool := decide (0 < j)
def modG := iopC modB fun i j => .int (i % j)
def powB (i j : Int) : Bool := decide (0 ≤ j) && decide (j ≤ 1000000) && decide (i.natAbs < 2 ^ 64)
def powG := iopC powB fun i j => .int (i ^ j.toNat)
def ltG := iop fun i j => .bool (decide (i < j))
def leG := iop fun i j => .bool (decide (i ≤ j))
def gtG := iop fun i j => .bool (decide (j < i))
def geG := iop fun i j => .bool (decide (j ≤ i))
theorem ok_sub : OpOk K (rI0 fun i j => V.int (i - j)) subG := ok_i fun i j H => .int _
theorem ok_mul : OpOk K (rI CMulW fun i j => V.int (i * j)) mulG := ok_iC (fun i j h => show i.natAbs.log2 + j.natAbs.log2 < 1000000 from of_decide_eq_true h) fun i j H _ => .int _
theorem ok_div : OpOk K (rI CDivW fun i j => V.int (i / j)) divG := ok_iC (fun i j h => by
  unfold divB at h
  rw [Bool.and_eq_true] at h
  exact ⟨of_decide_eq_true h.1, of_decide_eq_true h.2⟩) fun i j H _ => .int _
theorem ok_mod : OpOk K (rI (fun _ j => 0 < j) fun i j => V.int (i % j)) modG := ok_iC (fun i j h => of_decide_eq_true h) fun i j H _ => .int _
theorem ok_pow : OpOk K (rI CPow fun i j => V.int (i ^ j.toNat)) powG := ok_iC (fun i j h => by
  unfold powB at h
  rw [Bool.and_eq_true, Bool.and_eq_true] at h
  exact ⟨of_decide_eq_true h.1.1, of_decide_eq_true h.1.2, of_decide_eq_true h.2⟩) fun i j H _ => .int _
theorem ok_lt : OpOk K (rI0 fun i j => V.bl (decide (i < j))) ltG := ok_i fun i j H => .bl _
theorem ok_le : OpOk K (rI0 fun i j => V.bl (decide (i ≤ j))) leG := ok_i fun i j H => .bl _
theorem ok_gt : OpOk K (rI0 fun i j => V.bl (decide (j < i))) gtG := ok_i fun i j H => .bl _
theorem ok_ge : OpOk K (rI0 fun i j => V.bl (decide (j ≤ i))) geG := ok_i fun i j H => .bl _

/-! ### either of two readings -/
def rOr (r s : R2) : R2 := fun x y H Q => r x y H Q ∨ s x y H Q
theorem op_or {X : Cx} {f : Value → Value → Sem Value} {r s : R2} (h1 : OpR X f r) (h2 : OpR X f s) : OpR X f (rOr r s) := by
  intro pins s' σ H x y v u Q I rx ry h
  rcases h with h | h
  · exact h1 pins s' σ H x y v u Q I rx ry h
  · exact h2 pins s' σ H x y v u Q I rx ry h
theorem ok_or {r s : R2} {g : PyData → PyData → Option Rv} (h : ∀ Hf H x y d e z Q, Same Hf H → DpN K Hf H x d → DpN K Hf H y e → g d e = some z → Fin K Hf H z Q → r x y H Q ∨ s x y H Q) : OpOk K (rOr r s) g := h

/-! ### + -/
def rCatS (K : PySem.W.Frag) : R2 := fun x y H Q => ∃ l b xs zs, x = .ref l ∧ y = .ref b ∧ SqL K H l xs ∧ SqL K H b zs ∧ xs.length + zs.length ≤ sizeLine ∧ ∀ p, H p = none → Q (.ref p) (upd H p (.lst (xs ++ zs)))
theorem op_catS {X : Cx} : OpR X (binaryOp .Add) (rCatS X.K) := by
  intro pins s σ H x y v u Q I rx ry h
  obtain ⟨l, b, xs, zs, rfl, rfl, hH, hB, hz, q⟩ := h
  cases rx
  cases ry
  obtain ⟨its, r, p1, _⟩ := I.list hH
  obtain ⟨its2, r2, p2, _⟩ := I.list hB
  have l1 := r.length
  have l2 := r2.length
  obtain ⟨⟨cls, dd, data, sl⟩, n, ho, hc, _, hd⟩ := p1
  obtain ⟨⟨cls2, dd2, data2, sl2⟩, n2, ho2, hc2, _, hd2⟩ := p2
  simp only at hc hd hc2 hd2
  subst hc hd hc2 hd2
  refine concat_meets ⟨_, ho, rfl⟩ ⟨_, ho2, rfl⟩ noFill_list_add seq_list_add PySem.F.slot_list_add PySem.F.entry_list_add (PySem.F.args_list_add_2 _ _) (PyProof.Rows.list_addW l b its.toArray its2.toArray n n2 dd dd2 sl sl2 (by rw [List.size_toArray, List.size_toArray]; omega)) ⟨ho, ho2, ?_⟩
  have ea : its.toArray ++ its2.toArray = (its ++ its2).toArray := by simp
  rw [ea]
  exact ⟨.ref _, _, I.lnew (t' := s.toks) (r.append r2) (by rw [List.length_append]; omega), rfl, q _ I.fresh⟩
def rAddG (K : PySem.W.Frag) : R2 := rOr (rI0 fun i j => V.int (i + j)) (rOr (rCatA K) (rCatS K))
theorem op_addG {X : Cx} : OpR X (binaryOp .Add) (rAddG X.K) := op_or op_add (op_or op_catA op_catS)
def addG : PyData → PyData → Option Rv
  | .int i, .int j => some (.va (.int (i + j)))
  | .tuple ds, .tuple es => match few (ds ++ es) with
    | true => some (.va (.tuple (ds ++ es)))
    | false => none
  | .list ds, .list es => match few (ds ++ es) with
    | true => some (.nw (ds ++ es))
    | false => none
  | _, _ => none
theorem few_app {ds es : List PyData} {xs ys : List V} {H : Hp} (h : few (ds ++ es) = true) (a : DpAll K H xs ds) (b : DpAll K H ys es) : xs.length + ys.length ≤ sizeLine := by
  rw [dpa_len a, dpa_len b, ← List.length_append]
  exact Nat.le_trans (of_decide_eq_true h) (by decide)
theorem ok_add : OpOk K (rAddG K) addG := by
  intro Hf H x y d e z Q f dx dy hz k
  match d, e, hz with
  | .int i, .int j, hz =>
    cases hz
    exact .inl ⟨i, j, dx.int, dy.int, k.d f (.int _)⟩
  | .tuple ds, .tuple es, hz =>
    dsimp only [addG] at hz
    cases q : few (ds ++ es) with
    | false => rw [q] at hz; cases hz
    | true =>
      rw [q] at hz
      cases hz
      obtain ⟨p1, xs, rfl, h1, a1⟩ := dx.tup
      obtain ⟨p2, ys, rfl, h2, a2⟩ := dy.tup
      refine .inr (.inl ⟨p1, p2, xs, ys, rfl, rfl, same_t f h1, same_t f h2, few_app q a1 a2, fun e => ?_, fun _ e => ?_, fun _ _ p hp => k.tup f hp (dpa_app a1 a2)⟩)
      · subst e
        cases a1
        exact k.d f (.tup h2 a2)
      · subst e
        cases a2
        rw [List.append_nil] at k
        exact k.d f (.tup h1 a1)
  | .list ds, .list es, hz =>
    dsimp only [addG] at hz
    cases q : few (ds ++ es) with
    | false => rw [q] at hz; cases hz
    | true =>
      rw [q] at hz
      cases hz
      obtain ⟨p1, xs, rfl, h1, a1⟩ := dx.lst f
      obtain ⟨p2, ys, rfl, h2, a2⟩ := dy.lst f
      exact .inr (.inr ⟨p1, p2, xs, ys, rfl, rfl, h1, h2, few_app q a1 a2, fun p hp => k.lst f hp (dpa_app a1 a2)⟩)

/-! ### == and != -/
def flatD : PyData → Bool
  | .none => true
  | .bool _ => true
  | .int _ => true
  | .str _ => true
  | _ => false
def toV : PyData → V
  | .none => .non
  | .bool b => .bl b
  | .int i => .int i
  | .str s => .str s
  | _ => .non
theorem DpN.flat {Hf H : Hp} {x : V} {d : PyData} (h : DpN K Hf H x d) (hf : flatD d = true) : x = toV d := by
  cases d with
  | none => exact h.non
  | bool b => exact h.bl
  | int i => exact h.int
  | str s => exact h.str
  | _ => cases hf
def eqF : PyData → PyData → Option Bool
  | .int i, .int j => some (decide (i = j))
  | .bool i, .bool j => some (decide (i = j))
  | .str i, .str j => some (decide (i = j))
  | d, e => match SeqAt.shaped d && SeqAt.shaped e with
    | true => some (PyData.eqv d e)
    | false => none
def rEqG (K : PySem.W.Frag) : R2 := rOr rEq (rEqD K)
def rNeG (K : PySem.W.Frag) : R2 := rOr rNe (rNeD K)
theorem op_eqG {X : Cx} (hu : X.A.units + 64 < cLine) : OpR X (compareOp .Eq) (rEqG X.K) := op_or op_eq (op_eqD hu)
theorem op_neG {X : Cx} (hu : X.A.units + 64 < cLine) : OpR X (compareOp .NotEq) (rNeG X.K) := op_or op_ne (op_neD hu)
def eqG (d e : PyData) : Option Rv := (eqF d e).map fun b => .va (.bool b)
def neG (d e : PyData) : Option Rv := (eqF d e).map fun b => .va (.bool !b)
theorem eqF_ok {Hf H : Hp} {x y : V} {d e : PyData} {b : Bool} (f : Same Hf H) (dx : DpN K Hf H x d) (dy : DpN K Hf H y e) (h : eqF d e = some b) :
    (scal x y = true ∧ decide (x = y) = b) ∨ (L2.Dp K H x d ∧ L2.Dp K H y e ∧ SeqAt.shaped d = true ∧ SeqAt.shaped e = true ∧ PyData.eqv d e = b) := by
  have gen : (match SeqAt.shaped d && SeqAt.shaped e with | true => some (PyData.eqv d e) | false => none) = some b → (L2.Dp K H x d ∧ L2.Dp K H y e ∧ SeqAt.shaped d = true ∧ SeqAt.shaped e = true ∧ PyData.eqv d e = b) := fun q => by
    cases w : SeqAt.shaped d && SeqAt.shaped e with
    | false => rw [w] at q; cases q
    | true =>
      rw [w] at q
      rw [Bool.and_eq_true] at w
      exact ⟨dp_l2 _ _ (dx.now f), dp_l2 _ _ (dy.now f), w.1, w.2, Option.some.inj q⟩
  match d, e, h, gen with
  | .int i, .int j, h, _ =>
    cases h
    rw [dx.int, dy.int]
    refine .inl ⟨rfl, ?_⟩
    by_cases q : i = j
    · rw [q, decide_eq_true rfl, decide_eq_true rfl]
    · rw [decide_eq_false q, decide_eq_false fun z => q (V.int.inj z)]
  | .bool i, .bool j, h, _ =>
    cases h
    rw [dx.bl, dy.bl]
    refine .inl ⟨rfl, ?_⟩
    by_cases q : i = j
    · rw [q, decide_eq_true rfl, decide_eq_true rfl]
    · rw [decide_eq_false q, decide_eq_false fun z => q (V.bl.inj z)]
  | .str i, .str j, h, _ =>
    cases h
    rw [dx.str, dy.str]
    refine .inl ⟨rfl, ?_⟩
    by_cases q : i = j
    · rw [q, decide_eq_true rfl, decide_eq_true rfl]
    · rw [decide_eq_false q, decide_eq_false fun z => q (V.str.inj z)]
  | .none, _, h, gen => exact .inr (gen h)
  | .list _, _, h, gen => exact .inr (gen h)
  | .tuple _, _, h, gen => exact .inr (gen h)
  | .dict _, _, h, gen => exact .inr (gen h)
  | .int _, .none, h, gen => exact .inr (gen h)
  | .int _, .bool _, h, gen => exact .inr (gen h)
  | .int _, .str _, h, gen => exact .inr (gen h)
  | .int _, .list _, h, gen => exact .inr (gen h)
  | .int _, .tuple _, h, gen => exact .inr (gen h)
  | .int _, .dict _, h, gen => exact .inr (gen h)
  | .bool _, .none, h, gen => exact .inr (gen h)
  | .bool _, .int _, h, gen => exact .inr (gen h)
  | .bool _, .str _, h, gen => exact .inr (gen h)
  | .bool _, .list _, h, gen => exact .inr (gen h)
  | .bool _, .tuple _, h, gen => exact .inr (gen h)
  | .bool _, .dict _, h, gen => exact .inr (gen h)
  | .str _, .none, h, gen => exact .inr (gen h)
  | .str _, .int _, h, gen => exact .inr (gen h)
  | .str _, .bool _, h, gen => exact .inr (gen h)
  | .str _, .list _, h, gen => exact .inr (gen h)
  | .str _, .tuple _, h, gen => exact .inr (gen h)
  | .str _, .dict _, h, gen => exact .inr (gen h)
theorem ok_eq : OpOk K (rEqG K) eqG := by
  intro Hf H x y d e z Q f dx dy hz k
  unfold eqG at hz
  cases q : eqF d e with
  | none => rw [q] at hz; cases hz
  | some b =>
    rw [q] at hz
    cases hz
    rcases eqF_ok f dx dy q with ⟨a1, a2⟩ | ⟨a1, a2, a3, a4, a5⟩
    · exact .inl ⟨a1, by rw [a2]; exact k.d f (.bl _)⟩
    · exact .inr ⟨d, e, a1, a2, a3, a4, by rw [a5]; exact k.d f (.bl _)⟩
theorem ok_ne : OpOk K (rNeG K) neG := by
  intro Hf H x y d e z Q f dx dy hz k
  unfold neG at hz
  cases q : eqF d e with
  | none => rw [q] at hz; cases hz
  | some b =>
    rw [q] at hz
    cases hz
    rcases eqF_ok f dx dy q with ⟨a1, a2⟩ | ⟨a1, a2, a3, a4, a5⟩
    · exact .inl ⟨a1, by rw [a2]; exact k.d f (.bl _)⟩
    · exact .inr ⟨d, e, a1, a2, a3, a4, by rw [a5]; exact k.d f (.bl _)⟩

/-! ### is -/
def isNone : PyData → Bool
  | .none => true
  | _ => false
theorem dpn_non {Hf H : Hp} {x : V} {d : PyData} (h : DpN K Hf H x d) : decide (x = V.non) = isNone d := by
  rcases h with h | ⟨p, xs, ds, rfl, rfl, _, _⟩
  · cases h <;> rfl
  · rfl
def isNG : PyData → PyData → Option Rv
  | d, .none => some (.va (.bool (isNone d)))
  | _, _ => none
def notNG : PyData → PyData → Option Rv
  | d, .none => some (.va (.bool !(isNone d)))
  | _, _ => none
theorem ok_isN : OpOk K (fun x y H Q => y = .non ∧ Q (.bl (decide (x = .non))) H) isNG := by
  intro Hf H x y d e z Q f dx dy hz k
  match e, hz with
  | .none, hz =>
    cases hz
    refine ⟨dy.non, ?_⟩
    rw [dpn_non dx]
    exact k.d f (.bl _)
theorem ok_notN : OpOk K (fun x y H Q => y = .non ∧ Q (.bl (!decide (x = .non))) H) notNG := by
  intro Hf H x y d e z Q f dx dy hz k
  match e, hz with
  | .none, hz =>
    cases hz
    refine ⟨dy.non, ?_⟩
    rw [dpn_non dx]
    exact k.d f (.bl _)
/-- is True, is False: the left side anything -/
def rIsBG : R2 := fun x y H Q => ∃ b, y = .bl b ∧ Q (.bl (decide (x = .bl b))) H
theorem op_isBG {X : Cx} : OpR X (compareOp .Is) rIsBG := by
  intro pins s σ H x y v u Q I rx ry h
  obtain ⟨b, rfl, q⟩ := h
  cases (show u = Value.bool b from ry)
  have other : v ≠ Value.bool b → decide (x = V.bl b) = false → plainIs v (Value.bool b) = true → wpAny (model X.prog X.w) X.A (compareOp .Is v (Value.bool b)) (EP X pins σ Q) X.xe s := fun h1 h2 h3 =>
    wpAny_is_other h3 h1 ⟨.bl false, H, I, rfl, by rw [h2] at q; exact q⟩
  cases x with
  | bl a =>
    cases (show v = Value.bool a from rx)
    by_cases e : a = b
    · subst e
      exact wpAny_is_self rfl ⟨.bl true, H, I, rfl, by simpa using q⟩
    · exact other (fun z => e (Value.bool.inj z)) (decide_eq_false fun z => e (V.bl.inj z)) rfl
  | non => cases (show v = Value.none from rx); exact other (fun z => nomatch z) rfl rfl
  | int i => obtain ⟨t, rfl⟩ := rx; exact other (fun z => nomatch z) rfl rfl
  | str i => obtain ⟨t, rfl⟩ := rx; exact other (fun z => nomatch z) rfl rfl
  | byt i => obtain ⟨t, rfl⟩ := rx; exact other (fun z => nomatch z) rfl rfl
  | flt i => obtain ⟨t, rfl⟩ := rx; exact other (fun z => nomatch z) rfl rfl
  | ref a => cases (show v = Value.ref a from rx); exact other (fun z => nomatch z) rfl rfl
  | ty a => cases (show v = Value.type a from rx); exact other (fun z => nomatch z) rfl rfl
def isBool (b : Bool) : PyData → Bool
  | .bool a => a == b
  | _ => false
def isBG : PyData → PyData → Option Rv
  | d, .bool b => some (.va (.bool (isBool b d)))
  | _, _ => none
theorem ok_isB : OpOk K rIsBG isBG := by
  intro Hf H x y d e z Q f dx dy hz k
  match e, hz with
  | .bool b, hz =>
    cases hz
    refine ⟨b, dy.bl, ?_⟩
    have e : decide (x = V.bl b) = isBool b d := by
      rcases dx with h | ⟨p, xs, ds, rfl, rfl, _, _⟩
      · cases h with
        | bl a =>
          show decide (V.bl a = V.bl b) = (a == b)
          by_cases q : a = b
          · rw [q, decide_eq_true rfl, beq_self_eq_true]
          · rw [decide_eq_false fun z => q (V.bl.inj z), beq_eq_false_iff_ne.mpr q]
        | _ => rfl
      · rfl
    rw [e]
    exact k.d f (.bl _)

/-! ### in, not in -/
def intD : PyData → Option Int
  | .int i => some i
  | _ => none
def intsD : List PyData → Option (List Int)
  | [] => some []
  | d :: ds => match intD d, intsD ds with
    | some i, some is => some (i :: is)
    | _, _ => none
theorem intsD_ok : ∀ {ds : List PyData} {is : List Int}, intsD ds = some is → ds = is.map PyData.int
  | [], _, h => by cases h; rfl
  | d :: ds, is, h => by
    unfold intsD at h
    cases e : intD d with
    | none => rw [e] at h; cases h
    | some i =>
      rw [e] at h
      cases e2 : intsD ds with
      | none => rw [e2] at h; cases h
      | some js =>
        rw [e2] at h
        cases h
        rw [intsD_ok e2]
        cases d with
        | int j => cases e; rfl
        | _ => cases e
theorem intsD_map : ∀ is : List Int, intsD (is.map PyData.int) = some is
  | [] => rfl
  | i :: is => by
    show (match intD (.int i), intsD (is.map PyData.int) with | some i, some is => some (i :: is) | _, _ => none) = _
    rw [intsD_map is]
    rfl
/-- an int in a row of ints; else deep data in a list -/
def inF : PyData → PyData → Option Bool
  | .int i, .tuple ds => match intsD ds with
    | some is => some (is.contains i)
    | none => none
  | .int i, .list ds => match intsD ds with
    | some is => some (is.contains i)
    | none => none
  | d, .list ds => match SeqAt.shaped d && SeqAt.shaped (.list ds) with
    | true => some (ds.any fun z => PyData.eqv z d)
    | false => none
  | _, _ => none
def inG (d e : PyData) : Option Rv := (inF d e).map fun b => .va (.bool b)
def notInG (d e : PyData) : Option Rv := (inF d e).map fun b => .va (.bool !b)
def rInG (K : PySem.W.Frag) : R2 := rOr (rIn K false) (rInD K)
def rNotInG (K : PySem.W.Frag) : R2 := rOr (rIn K true) (rNotInD K)
theorem op_inG {X : Cx} (hu : X.A.units + 65 < cLine) : OpR X (compareOp .In) (rInG X.K) := op_or op_in_seq (op_inD hu)
theorem op_notInG {X : Cx} (hu : X.A.units + 65 < cLine) : OpR X (compareOp .NotIn) (rNotInG X.K) := op_or op_notIn_seq (op_notInD hu)
theorem inV_ints (i : Int) : ∀ is : List Int, inV (.int i) (is.map V.int) = is.contains i
  | [] => rfl
  | j :: is => by
    have ih := inV_ints i is
    unfold inV at ih ⊢
    rw [List.map_cons, List.any_cons, ih, List.contains_cons]
    congr 1
    show (j == i) = (i == j)
    by_cases e : j = i
    · rw [e]
    · rw [beq_eq_false_iff_ne.mpr e, beq_eq_false_iff_ne.mpr fun z => e z.symm]
theorem flat_ints : ∀ is : List Int, (is.map V.int).all flatV = true
  | [] => rfl
  | j :: is => by
    rw [List.map_cons, List.all_cons, flat_ints is]
    rfl
theorem inF_ok {Hf H : Hp} {x y : V} {d e : PyData} {b : Bool} (f : Same Hf H) (dx : DpN K Hf H x d) (dy : DpN K Hf H y e) (h : inF d e = some b) :
    (∃ p xs, y = .ref p ∧ (SqL K H p xs ∨ SqT K H p xs) ∧ flatV x = true ∧ xs.all flatV = true ∧ inV x xs = b) ∨
    (∃ ds, e = .list ds ∧ L2.Dp K H x d ∧ L2.Dp K H y (.list ds) ∧ SeqAt.shaped d = true ∧ SeqAt.shaped (.list ds) = true ∧ (ds.any fun z => PyData.eqv z d) = b) := by
  have gen : ∀ ds, e = .list ds → (match SeqAt.shaped d && SeqAt.shaped (.list ds) with | true => some (ds.any fun z => PyData.eqv z d) | false => none) = some b →
      (∃ ds, e = .list ds ∧ L2.Dp K H x d ∧ L2.Dp K H y (.list ds) ∧ SeqAt.shaped d = true ∧ SeqAt.shaped (.list ds) = true ∧ (ds.any fun z => PyData.eqv z d) = b) := fun ds ee q => by
    subst ee
    cases w : SeqAt.shaped d && SeqAt.shaped (.list ds) with
    | false => rw [w] at q; cases q
    | true =>
      rw [w] at q
      rw [Bool.and_eq_true] at w
      exact ⟨ds, rfl, dp_l2 _ _ (dx.now f), dp_l2 _ _ (dy.now f), w.1, w.2, Option.some.inj q⟩
  match d, e, h, dx, dy, gen with
  | .int i, .tuple ds, h, dx, dy, _ =>
    dsimp only [inF] at h
    cases q : intsD ds with
    | none => rw [q] at h; cases h
    | some is =>
      rw [q] at h
      cases h
      obtain ⟨p, xs, rfl, h1, h2⟩ := dy.tup
      rw [intsD_ok q] at h2
      have e := dpa_ints is h2
      subst e
      exact .inl ⟨p, _, rfl, .inr (same_t f h1), by rw [dx.int]; rfl, flat_ints is, by rw [dx.int]; exact inV_ints i is⟩
  | .int i, .list ds, h, dx, dy, _ =>
    dsimp only [inF] at h
    cases q : intsD ds with
    | none => rw [q] at h; cases h
    | some is =>
      rw [q] at h
      cases h
      obtain ⟨p, xs, rfl, h1, h2⟩ := dy.lst f
      rw [intsD_ok q] at h2
      have e := dpa_ints is h2
      subst e
      exact .inl ⟨p, _, rfl, .inl h1, by rw [dx.int]; rfl, flat_ints is, by rw [dx.int]; exact inV_ints i is⟩
  | .none, .list ds, h, _, _, gen => exact .inr (gen ds rfl h)
  | .bool _, .list ds, h, _, _, gen => exact .inr (gen ds rfl h)
  | .str _, .list ds, h, _, _, gen => exact .inr (gen ds rfl h)
  | .list _, .list ds, h, _, _, gen => exact .inr (gen ds rfl h)
  | .tuple _, .list ds, h, _, _, gen => exact .inr (gen ds rfl h)
  | .dict _, .list ds, h, _, _, gen => exact .inr (gen ds rfl h)
theorem ok_in : OpOk K (rInG K) inG := by
  intro Hf H x y d e z Q f dx dy hz k
  unfold inG at hz
  cases q : inF d e with
  | none => rw [q] at hz; cases hz
  | some b =>
    rw [q] at hz
    cases hz
    rcases inF_ok f dx dy q with ⟨p, xs, a1, a2, a3, a4, a5⟩ | ⟨ds, a0, a1, a2, a3, a4, a5⟩
    · refine .inl ⟨p, xs, a1, a2, a3, a4, ?_⟩
      rw [if_neg Bool.false_ne_true, a5]
      exact k.d f (.bl _)
    · exact .inr ⟨d, ds, a1, a2, a3, a4, by rw [a5]; exact k.d f (.bl _)⟩
theorem ok_notIn : OpOk K (rNotInG K) notInG := by
  intro Hf H x y d e z Q f dx dy hz k
  unfold notInG at hz
  cases q : inF d e with
  | none => rw [q] at hz; cases hz
  | some b =>
    rw [q] at hz
    cases hz
    rcases inF_ok f dx dy q with ⟨p, xs, a1, a2, a3, a4, a5⟩ | ⟨ds, a0, a1, a2, a3, a4, a5⟩
    · refine .inl ⟨p, xs, a1, a2, a3, a4, ?_⟩
      rw [if_pos rfl, a5]
      exact k.d f (.bl _)
    · exact .inr ⟨d, ds, a1, a2, a3, a4, by rw [a5]; exact k.d f (.bl _)⟩

/-! ### subscripts, slices -/
def ixG : PyData → PyData → Option Rv
  | .list ds, .int i => (atI ds i).map Rv.va
  | .tuple ds, .int i => (atI ds i).map Rv.va
  | _, _ => none
theorem dpa_at {H : Hp} {ds : List PyData} {xs : List V} {i : Int} {d : PyData} (a : DpAll K H xs ds) (e : atI ds i = some d) : ∃ v, atI xs i = some v ∧ Dp K H v d := by
  unfold atI at e ⊢
  rw [dpa_len a]
  cases q : ixN ds.length i with
  | none => rw [q] at e; cases e
  | some j =>
    rw [q] at e
    exact dpa_get' a e
theorem ok_ix : OpOk K (rIx K) ixG := by
  intro Hf H x y d e z Q f dx dy hz k
  match d, e, hz with
  | .list ds, .int i, hz =>
    dsimp only [ixG] at hz
    cases q : atI ds i with
    | none => rw [q] at hz; cases hz
    | some d' =>
      rw [q] at hz
      cases hz
      obtain ⟨p, xs, rfl, h1, a1⟩ := dx.lst f
      obtain ⟨v, e1, e2⟩ := dpa_at a1 q
      exact .inl ⟨p, xs, i, v, rfl, dy.int, h1, e1, k.d f e2⟩
  | .tuple ds, .int i, hz =>
    dsimp only [ixG] at hz
    cases q : atI ds i with
    | none => rw [q] at hz; cases hz
    | some d' =>
      rw [q] at hz
      cases hz
      obtain ⟨p, xs, rfl, h1, a1⟩ := dx.tup
      obtain ⟨v, e1, e2⟩ := dpa_at a1 q
      exact .inr (.inl ⟨p, xs, i, v, rfl, dy.int, same_t f h1, e1, k.d f e2⟩)
def cutD (ds : List PyData) (lo hi : Option Int) : List PyData := (ds.drop (HT.sIx ds.length 0 lo)).take (HT.sIx ds.length ds.length hi - HT.sIx ds.length 0 lo)
theorem dpa_cut {H : Hp} {ds : List PyData} {xs : List V} (lo hi : Option Int) (a : DpAll K H xs ds) : DpAll K H (cutV xs lo hi) (cutD ds lo hi) := by
  unfold cutV cutD
  rw [dpa_len a]
  exact dpa_take _ (dpa_drop _ a)
def slG : PyData → Option Int → Option Int → Option Rv
  | .list ds, lo, hi => some (.nw (cutD ds lo hi))
  | .tuple ds, lo, hi => some (.va (.tuple (cutD ds lo hi)))
  | _, _, _ => none
def rSlG (K : PySem.W.Frag) : V → Option Int → Option Int → Hp → VK → Prop := fun x lo hi H Q => rSlL K x lo hi H Q ∨ rSlA K x lo hi H Q
theorem sl_G {X : Cx} : SlR X (rSlG X.K) := by
  intro pins s σ H x v vl vu lo hi sl Q I rx hs pl pu h
  rcases h with h | h
  · exact sl_list pins s σ H x v vl vu lo hi sl Q I rx hs pl pu h
  · exact sl_tupA pins s σ H x v vl vu lo hi sl Q I rx hs pl pu h
theorem ok_sl : SlcOk K (rSlG K) slG := by
  intro Hf H x d lo hi z Q f dx hz k
  match d, hz with
  | .list ds, hz =>
    cases hz
    obtain ⟨p, xs, rfl, h1, a1⟩ := dx.lst f
    exact .inl ⟨p, xs, rfl, h1, fun q hq => k.lst f hq (dpa_cut lo hi a1)⟩
  | .tuple ds, hz =>
    cases hz
    obtain ⟨p, xs, rfl, h1, a1⟩ := dx.tup
    refine .inr ⟨p, xs, rfl, same_t f h1, fun ⟨e1, e2⟩ => ?_, fun _ q hq => k.tup f hq (dpa_cut lo hi a1)⟩
    have e : cutD ds lo hi = ds := by
      unfold cutD
      rw [dpa_len a1] at e1 e2
      rw [e1, e2, List.drop_zero, Nat.sub_zero, List.take_length]
    rw [e] at k
    exact k.d f (.tup h1 a1)

/-! ### built-ins -/
def lenG : List PyData → Option Rv
  | [.list ds] => some (.va (.int ds.length))
  | [.tuple ds] => some (.va (.int ds.length))
  | _ => none
theorem ok_len : CbOk K (fun xs H Q => ∃ p ys, xs = [.ref p] ∧ (SqL K H p ys ∨ SqT K H p ys) ∧ Q (.int ys.length) H) lenG := by
  intro Hf H xs ds z Q f ha hz k
  match ds, xs, ha, hz with
  | [.list ds], _, .cons h .nil, hz =>
    cases hz
    obtain ⟨p, ys, rfl, h1, a1⟩ := h.lst f
    exact ⟨p, ys, rfl, .inl h1, by rw [dpa_len a1]; exact k.d f (.int _)⟩
  | [.tuple ds], _, .cons h .nil, hz =>
    cases hz
    obtain ⟨p, ys, rfl, h1, a1⟩ := h.tup
    exact ⟨p, ys, rfl, .inr (same_t f h1), by rw [dpa_len a1]; exact k.d f (.int _)⟩
def tupG : List PyData → Option Rv
  | [.list ds] => some (.va (.tuple ds))
  | [.tuple ds] => some (.va (.tuple ds))
  | _ => none
theorem ok_tup : CbOk K (fun xs H Q => ∃ p ys, xs = [.ref p] ∧ ((SqL K H p ys ∧ ∀ l, H l = none → Q (.ref l) (upd H l (.tup ys))) ∨ (SqT K H p ys ∧ Q (.ref p) H))) tupG := by
  intro Hf H xs ds z Q f ha hz k
  match ds, xs, ha, hz with
  | [.list ds], _, .cons h .nil, hz =>
    cases hz
    obtain ⟨p, ys, rfl, h1, a1⟩ := h.lst f
    exact ⟨p, ys, rfl, .inl ⟨h1, fun q hq => k.tup f hq a1⟩⟩
  | [.tuple ds], _, .cons h .nil, hz =>
    cases hz
    obtain ⟨p, ys, rfl, h1, a1⟩ := h.tup
    exact ⟨p, ys, rfl, .inr ⟨same_t f h1, k.d f (.tup h1 a1)⟩⟩
def lstG : List PyData → Option Rv
  | [.list ds] => some (.nw ds)
  | [.tuple ds] => some (.nw ds)
  | _ => none
theorem ok_lst : CbOk K (fun xs H Q => ∃ p ys, xs = [.ref p] ∧ (SqL K H p ys ∨ SqT K H p ys) ∧ ∀ l, H l = none → Q (.ref l) (upd H l (.lst ys))) lstG := by
  intro Hf H xs ds z Q f ha hz k
  match ds, xs, ha, hz with
  | [.list ds], _, .cons h .nil, hz =>
    cases hz
    obtain ⟨p, ys, rfl, h1, a1⟩ := h.lst f
    exact ⟨p, ys, rfl, .inl h1, fun q hq => k.lst f hq a1⟩
  | [.tuple ds], _, .cons h .nil, hz =>
    cases hz
    obtain ⟨p, ys, rfl, h1, a1⟩ := h.tup
    exact ⟨p, ys, rfl, .inr (same_t f h1), fun q hq => k.lst f hq a1⟩
def absG : List PyData → Option Rv
  | [.int i] => some (.va (.int (if i < 0 then -i else i)))
  | _ => none
theorem ok_abs : CbOk K (fun xs H Q => ∃ i, xs = [V.int i] ∧ Q (V.int (if i < 0 then -i else i)) H) absG := by
  intro Hf H xs ds z Q f ha hz k
  match ds, xs, ha, hz with
  | [.int i], _, .cons h .nil, hz =>
    cases hz
    exact ⟨i, by rw [h.int], k.d f (.int _)⟩
def intG : List PyData → Option Rv
  | [.int i] => some (.va (.int i))
  | [.bool b] => some (.va (.int (if b = true then 1 else 0)))
  | _ => none
theorem ok_int : CbOk K (fun xs H Q => (∃ i, xs = [V.int i] ∧ Q (V.int i) H) ∨ ∃ k, xs = [V.bl k] ∧ Q (V.int (if k = true then 1 else 0)) H) intG := by
  intro Hf H xs ds z Q f ha hz k
  match ds, xs, ha, hz with
  | [.int i], _, .cons h .nil, hz =>
    cases hz
    exact .inl ⟨i, by rw [h.int], k.d f (.int _)⟩
  | [.bool b], _, .cons h .nil, hz =>
    cases hz
    exact .inr ⟨b, by rw [h.bl], k.d f (.int _)⟩
def maxG : List PyData → Option Rv
  | [.int i, .int j] => some (.va (.int (if j > i then j else i)))
  | _ => none
def minG : List PyData → Option Rv
  | [.int i, .int j] => some (.va (.int (if j < i then j else i)))
  | _ => none
theorem ok_max : CbOk K (fun xs H Q => ∃ i j, xs = [V.int i, V.int j] ∧ Q (V.int (if j > i then j else i)) H) maxG := by
  intro Hf H xs ds z Q f ha hz k
  match ds, xs, ha, hz with
  | [.int i, .int j], _, .cons h (.cons h2 .nil), hz =>
    cases hz
    exact ⟨i, j, by rw [h.int, h2.int], k.d f (.int _)⟩
theorem ok_min : CbOk K (fun xs H Q => ∃ i j, xs = [V.int i, V.int j] ∧ Q (V.int (if j < i then j else i)) H) minG := by
  intro Hf H xs ds z Q f ha hz k
  match ds, xs, ha, hz with
  | [.int i, .int j], _, .cons h (.cons h2 .nil), hz =>
    cases hz
    exact ⟨i, j, by rw [h.int, h2.int], k.d f (.int _)⟩

/-! ### isinstance -/
def tyN : PyData → String
  | .none => "NoneType"
  | .bool _ => "bool"
  | .int _ => "int"
  | .str _ => "str"
  | .list _ => "list"
  | .tuple _ => "tuple"
  | .dict _ => "dict"
inductive Ty5 where
  | int | bool | str | list | tuple
def Ty5.name : Ty5 → String
  | .int => "int"
  | .bool => "bool"
  | .str => "str"
  | .list => "list"
  | .tuple => "tuple"
def isT (n : Ty5) : PyData → Bool
  | .bool _ => match n with
    | .bool => true
    | .int => true
    | _ => false
  | .int _ => match n with
    | .int => true
    | _ => false
  | .str _ => match n with
    | .str => true
    | _ => false
  | .list _ => match n with
    | .list => true
    | _ => false
  | .tuple _ => match n with
    | .tuple => true
    | _ => false
  | _ => false
theorem isT_kit (n : Ty5) (d : PyData) (hd : ∀ k, d ≠ .dict k) : kitB (tyN d) n.name = some (isT n d) := by
  cases d with
  | dict k => exact absurd rfl (hd k)
  | none => cases n <;> (dsimp only [tyN, Ty5.name, isT]; decide +kernel)
  | bool b => cases n <;> (dsimp only [tyN, Ty5.name, isT]; decide +kernel)
  | int b => cases n <;> (dsimp only [tyN, Ty5.name, isT]; decide +kernel)
  | str b => cases n <;> (dsimp only [tyN, Ty5.name, isT]; decide +kernel)
  | list b => cases n <;> (dsimp only [tyN, Ty5.name, isT]; decide +kernel)
  | tuple b => cases n <;> (dsimp only [tyN, Ty5.name, isT]; decide +kernel)
theorem dpn_ty {Hf H : Hp} {x : V} {d : PyData} (f : Same Hf H) (h : DpN K Hf H x d) : TyX K H x (.type (tyN d)) ∧ ∀ k, d ≠ .dict k := by
  have h' := h.now f
  cases h' with
  | non => exact ⟨.base .non, fun k z => by cases z⟩
  | bl b => exact ⟨.base (.bl b), fun k z => by cases z⟩
  | int b => exact ⟨.base (.int b), fun k z => by cases z⟩
  | str b => exact ⟨.base (.str b), fun k z => by cases z⟩
  | lst hs _ =>
    refine ⟨?_, fun k z => by cases z⟩
    rcases hs with (hs | ⟨o, hs⟩) | ⟨o, its, n, e1, e2, _⟩
    · exact .base (.lst hs)
    · exact .base (.frz hs)
    · exact .kList e1 e2
  | tup hs _ =>
    refine ⟨?_, fun k z => by cases z⟩
    rcases hs with (hs | ⟨o, hs⟩) | ⟨o, its, n, e1, e2, _⟩
    · exact .base (.tup hs)
    · exact .fTuple hs
    · exact .kTuple e1 e2
def isiM (n : Ty5) (fa : En → RM Rv) : En → RM Rv := fun ρ => RM.bnd (fa ρ) fun r ρ1 => lk ρ1 r fun d => some (.ok (.va (.bool (isT n d)), ρ1))
theorem je_isi {c : Cn} {ta : TE} {fa : En → RM Rv} {n : Ty5} (ha : JE c ta fa) : JE c (tCB (rIsi c.K) (tCons ta (tCons (tC (.ty n.name)) tNil))) (isiM n fa) := by
  intro σ H Pr Hf ρ Q S h
  show ta σ H fun x H1 => rIsi c.K [x, .ty n.name] H1 Q
  refine ha σ H Pr Hf ρ _ S (Good.bind h fun r ρ1 _ x Hf1 H1 g1 S1 rv1 h1 => ?_)
  obtain ⟨d, l, h2⟩ := h1.lk
  have dn := look_ok S1 rv1 l
  obtain ⟨t, nd⟩ := dpn_ty S1.fz dn
  exact ⟨x, .ty n.name, .type (tyN d), .type n.name, isT n d, rfl, .ty _, t, kit_ty (isT_kit n d nd), Good.at S1 h2 (Dp.bl _)⟩
end
end Pl

namespace Pl
open PySem PySem.Spec PyProof.Rows L2
open AutoSeq1 (wpAny_loadPart')
/-! ### enumerate of a tuple -/
theorem meets_enum_newT (l : Addr) (items : Array Value) (n : Nat) (dct : Option Addr) (sl : Array (Option Value)) :
    Meets (Builtin.«enumerate.__new__» ⟨[.type "enumerate", .ref l], []⟩) (fun _ R s => s.heap.get? l = some { cls := .type "tuple", dict := dct, data := .seq items n, slots := sl } ∧
      R (.ok (.ret (.ref (s.heap.push { cls := .type "tuple_iterator", data := .fields #[.ref l, .int 0 0] }).objs.size)))
        { s with heap := (s.heap.push { cls := .type "tuple_iterator", data := .fields #[.ref l, .int 0 0] }).push { cls := .type "enumerate", data := .fields #[.none, .bool false, .ref s.heap.objs.size, rawInt 0, .none, .none] } }) :=
  .of_wp fun prog w A R s h => by
    obtain ⟨hp, g, d, tk, os⟩ := s; obtain ⟨hl, h⟩ := h
    have hsub := sub_enumerate
    have hL : Heap.IsTuple (Shared.heap ⟨hp, g, d, tk, os⟩) l items := ⟨_, hl, rfl, n, rfl⟩
    wp_walk using wpAny_loadPart' hl
    refine wpAny_stack_any fun st => wpAny_pure ?_
    split
    · rename_i c _ _ _ _ _
      cases (c == Value.type "enumerate")
      · wp_walk using wpAny_loadPart' hl, wpAny_pyIter_tuple hL
        exact ⟨_, rfl, h⟩
      · wp_walk using wpAny_loadPart' hl, wpAny_pyIter_tuple hL
        exact ⟨_, rfl, h⟩
    · wp_walk using wpAny_loadPart' hl, wpAny_pyIter_tuple hL
      exact ⟨_, rfl, h⟩
section
variable {prog : Program} {w : World} {A : Around} {E : Value → Shared → Prop} {s : Shared}
theorem call_enum_tuple {l : Addr} {items : Array Value} {Q : Value → Shared → Prop} (hL : s.heap.IsTuple l items)
    (h : ∀ h', IsEnum h' (s.heap.objs.size + 1) s.heap.objs.size 0 .none → h'.IsTupleIter s.heap.objs.size l 0 → h'.objs.size = s.heap.objs.size + 2 →
      (∀ b o, s.heap.get? b = some o → h'.get? b = some o) → Q (.ref (s.heap.objs.size + 1)) { s with heap := h' }) :
    wpAny (model prog w) A (call (.type "enumerate") [.ref l]) Q E s := by
  obtain ⟨⟨c, dct, dt, sl⟩, hl, hc, n, hd⟩ := hL
  replace hc : c = .type "tuple" := hc
  replace hd : dt = .seq items n := hd
  subst hc hd
  refine callType_new F.called_enumerate (by decide) (F.typeCall_enumerate_1 _) (F.newCall_enumerate_1 _) (fun obj => F.args_object_init_2 obj _) F.entry_enumerate_new
    (meets_enum_newT l items n dct sl) ⟨hl, ?_⟩
  have hz : (s.heap.push { cls := .type "tuple_iterator", data := .fields #[.ref l, .int 0 0] }).objs.size = s.heap.objs.size + 1 := Heap.size_push ..
  show _ ∧ _
  rw [hz]
  have he : IsEnum ((s.heap.push { cls := .type "tuple_iterator", data := .fields #[.ref l, .int 0 0] }).push
      { cls := .type "enumerate", data := .fields #[.none, .bool false, .ref s.heap.objs.size, rawInt 0, .none, .none] }) (s.heap.objs.size + 1) s.heap.objs.size 0 .none := by
    have := Heap.get?_push_size (s.heap.push { cls := .type "tuple_iterator", data := .fields #[.ref l, .int 0 0] })
      (o := { cls := .type "enumerate", data := .fields #[.none, .bool false, .ref s.heap.objs.size, rawInt 0, .none, .none] }) rfl
    rw [hz] at this; exact this
  refine ⟨⟨_, he, rfl⟩, h _ he ⟨_, Heap.get?_push_of_some _ (Heap.get?_push_size _ rfl), rfl, rfl⟩ (by rw [Heap.size_push, hz]) fun b o x => Heap.get?_push_of_some _ (Heap.get?_push_of_some _ x)⟩
end
theorem pyNext_enumT_end {prog : Program} {w : World} {A : Around} {E : Value → Shared → Prop} {s : Shared} {e it l : Addr} {i : Nat} {items : Array Value} {old : Value} {Q : Option Value → Shared → Prop} (hh : A.handled = none)
    (he : IsEnum s.heap e it i old) (hit : s.heap.IsTupleIter it l i) (hl : s.heap.IsTuple l items) (hx : items[i]? = none)
    (hQ : ∀ h', Heap.ExtBut it s.heap h' → Q none { s with heap := h' }) : wpAny (model prog w) A (pyNext (.ref e)) Q E s := by
  have hT : s.TypeIs (.ref e) "enumerate" := ⟨_, he, rfl⟩
  unfold pyNext
  refine wpAny_bind (wpAny_attempt (wpAny_callSpecial?_slot (name := Str.ofString "__next__") hT F.slot_enumerate_next
    (wpAny_call_entry F.slot_enumerate_next hT F.entry_enumerate_next ?_ (F.args_enumerate_next_1 _))))
  show wpAny _ _ (field (.ref e) 2 >>= _) _ _ _
  refine wpAny_bind (wpAny_field he rfl (x := .ref it) rfl ?_)
  refine wpAny_bind (wpAny_nextOf_tuple_end hh hit hl hx fun h' x he' hx' => ?_)
  obtain ⟨o, ho, hc⟩ := hx'
  refine wpAny_bind (wpAny_isInstance (T := "StopIteration") (b := true) ⟨o, ho, hc⟩ isSubtype_stop ?_)
  exact wpAny_pure (hQ _ he')
def IteT (K : PySem.W.Frag) (a : Addr) : It :=
  ⟨fun i H => ∃ (xs : List V) (x : V), SqT K H a xs ∧ xs[i]? = some x, fun i H v H' => ∃ T x, v = .ref T ∧ H T = none ∧ H' = upd H T (.tup [.int (i : Nat), x]) ∧ ∀ xs, SqT K H a xs → xs[i]? = some x, fun i H => ∃ xs : List V, SqT K H a xs ∧ xs.length ≤ i⟩
theorem turn_enumT {P : Program} {w : World} {K : PySem.W.Frag} {elts : List Expr} {kk : Nat} {tpos : Pos} (a e it : Addr) :
    Turn P w K (.Tuple elts kk tpos) (IteT K a) [e, it] e (fun i h => (∃ old, IsEnum h e it ((i : Nat) : Int) old) ∧ h.IsTupleIter it a i ∧ e ≠ it) where
  mem := by simp
  obj := fun i h st b hb => by
    obtain ⟨⟨old, he⟩, ⟨o, ho, hc, hd⟩, _⟩ := st
    have e' : b = e ∨ b = it := by simpa using hb
    rcases e' with z | z
    · rw [z]; exact ⟨_, he, fun v q => nomatch q⟩
    · rw [z]; exact ⟨o, ho, fun v q => by rw [hd] at q; cases q⟩
  keep := fun i h h' st k => let ⟨⟨old, he⟩, hi, hne⟩ := st; ⟨⟨old, k e (by simp) _ he⟩, hi.at fun o q => k it (by simp) o q, hne⟩
  item := by
    intro X hP hw hK hc i pins s σ H E I hf st hg
    subst hP hw hK
    obtain ⟨⟨old, he⟩, hit, hne⟩ := st
    obtain ⟨xs, x, hq, hx⟩ := hg
    obtain ⟨its, rv, p, hz⟩ := I.tuple hq
    have p' : s.heap.IsTuple a its.toArray := p
    obtain ⟨u, hu, ru⟩ := rv.get hx
    have hel : e < s.heap.objs.size := Heap.lt_size he
    have hil : it < s.heap.objs.size := by obtain ⟨_, q, _⟩ := hit; exact Heap.lt_size q
    have nae : a ≠ e := fun z => by
      obtain ⟨o, h1, h2, _⟩ := p'
      rw [z, he] at h1
      have h3 := Option.some.inj h1
      rw [← h3] at h2
      exact absurd (Value.type.inj h2) (by decide)
    have nai : a ≠ it := fun z => by
      obtain ⟨o, h1, h2, _⟩ := p'
      obtain ⟨o2, k1, k2, _⟩ := hit
      rw [z, k1] at h1
      cases h1
      rw [k2] at h2
      exact absurd (Value.type.inj h2) (by decide)
    have hlt : i < its.toArray.size := by
      have := (List.getElem?_eq_some_iff.mp hu).1
      simpa using this
    have D := Draws.tuple (prog := X.prog) (w := X.w) (A := X.A.in1) (I.ok.hd hc) it a nai its.toArray
    refine wpAny_pyNext_enum_itemD D he ⟨hit, p'⟩ hlt hne (fun z => by
      rcases List.mem_cons.mp z with z | z
      · exact hne z
      · exact nae (List.mem_singleton.mp z).symm) fun x' h' tk hP' ho hit' hT hsz hk => ?_
    have ex' : x' = u := by
      have hP2 : its.toArray[i]? = some x' := hP'
      have hu' : its.toArray[i]? = some u := by simpa using hu
      rw [hu'] at hP2
      exact (Option.some.inj hP2).symm
    subst ex'
    refine ⟨_, rfl, wpAny_letOwnedTupleGo_enum (s := { s with heap := h', toks := tk + 1 }) ho fun h'' he' sb => ?_⟩
    have hT2 : h''.get? s.heap.objs.size = some { cls := .type "tuple", data := .seq #[.int i tk, x'] } := (sb.2 _ (Nat.ne_of_gt hel)).trans hT
    have new : ObjOk X.prog X.w (upd H s.heap.objs.size (.tup [.int (i : Nat), x])) h'' s.heap.objs.size (.tup [.int (i : Nat), x]) :=
      ⟨by show 2 ≤ sizeLine; decide, [.int i tk, x'], .cons ⟨_, rfl⟩ (.cons ru .nil), ⟨_, hT2, rfl, _, rfl⟩⟩
    have I1 : Inv X pins σ (upd H s.heap.objs.size (.tup [.int (i : Nat), x])) { s with heap := h'', toks := tk + 1 } :=
      I.turnedNew (ch := [e, it]) (fun b ob hb q => (sb.2 b (fun z => hb (by simp [z]))).trans (hk b ob (fun z => hb (by simp [z])) (fun z => hb (by simp [z])) q)) hf (Nat.le_refl _) new
    refine ⟨.ref s.heap.objs.size, _, I1, rfl, ⟨_, x, rfl, I.hok.fresh (Nat.le_refl _), rfl, fun ys hy => by rw [I.tuple_inj hy hq]; exact hx⟩, ⟨⟨x', ?_⟩, hit'.1.at fun o q => (sb.2 it (Ne.symm hne)).trans q, hne⟩, fun b hb => ?_⟩
    · have e1 : ((i + 1 : Nat) : Int) = (i : Int) + 1 := by omega
      rw [e1]; exact he'
    · have hb' : b < s.heap.objs.size := by
        have e' : b = e ∨ b = it := by simpa using hb
        rcases e' with z | z
        · rw [z]; exact hel
        · rw [z]; exact hil
      rw [upd_ne (Nat.ne_of_lt hb')]
      exact (hf b hb).1
  done := by
    intro X hP hw hK hc i pins s σ H E I hf st hg
    subst hP hw hK
    obtain ⟨⟨old, he⟩, hit, hne⟩ := st
    obtain ⟨xs, hq, hx⟩ := hg
    obtain ⟨its, rv, p, hz⟩ := I.tuple hq
    have p' : s.heap.IsTuple a its.toArray := p
    obtain ⟨f0, f1, f2, f3, f4, f5⟩ := hf it (by simp)
    have hl := rv.length
    have nai : a ≠ it := fun z => by
      obtain ⟨o, h1, h2, _⟩ := p'
      obtain ⟨o2, k1, k2, _⟩ := hit
      rw [z, k1] at h1
      cases h1
      rw [k2] at h2
      exact absurd (Value.type.inj h2) (by decide)
    exact pyNext_enumT_end (I.ok.hd hc) he hit p' (by simp; omega) fun h' eb => ⟨rfl, I.turned (t' := s.toks) (fun b o hb q => eb b o hb q) f0 f1 f3 f4 f5⟩
  self := fun A i s Q E st h => let ⟨⟨_, he⟩, _⟩ := st; wpAny_pyIter_enum he h
/-- enumerate(xs) of a list or a tuple -/
def iEnumG (K : PySem.W.Frag) (ta : TA) : TI := fun σ H R => ta σ H fun vs H1 => ∃ a xs, vs = [.ref a] ∧ ((SqL K H1 a xs ∧ R (Ite K a) H1) ∨ (SqT K H1 a xs ∧ R (IteT K a) H1))
theorem pi_enumG {X : Cx} {e : Expr} {ta : TA} {p pos tpos : Pos} {elts : List Expr} {kk : Nat} (hg : Gl X "enumerate") (hm : X.mg "enumerate" = none) (ha : PA X [e] ta) (hs : starEach [e] X.env = [(false, eval e X.env)] := by rfl) :
    PI X (.Tuple elts kk tpos) (.Call (.Name "enumerate" p) [e] [] pos) (iEnumG X.K ta) := by
  refine ⟨fun pins s σ H R I h => ?_⟩
  refine Call_ (ld_blt I hg hm boot_enumerate (PyProof.Rows.callWith_type1 (thn (ha.run pos pins s σ H _ I h) fun us s1 ⟨vs, H1, I1, r1, q1⟩ => ?_) hs rfl))
  obtain ⟨a, xs, ex, q⟩ := q1
  subst ex
  cases r1 with
  | cons r rr =>
    cases rr
    cases r
    rcases q with ⟨hq, q⟩ | ⟨hq, q⟩
    · obtain ⟨its, rv, p', hz⟩ := I1.list hq
      refine call_enumerate_list p'.isList fun h' he hit hsz hk => wpAny_pyIter_enum he ?_
      have I2 : Inv X pins σ H1 { s1 with heap := h' } := I1.kept (t' := s1.toks) hk
      refine ⟨s1.heap.objs.size + 1, [s1.heap.objs.size + 1, s1.heap.objs.size], _, _, H1, rfl, I2, turn_enum a (s1.heap.objs.size + 1) s1.heap.objs.size, ⟨⟨.none, he⟩, hit, Nat.succ_ne_self _⟩, fun b hb => ?_, q⟩
      have e' : b = s1.heap.objs.size + 1 ∨ b = s1.heap.objs.size := by simpa using hb
      have hle : s1.heap.objs.size ≤ b := by
        rcases e' with z | z
        · rw [z]; exact Nat.le_add_right _ _
        · rw [z]; exact Nat.le_refl _
      exact I1.fpOk hle (I1.hok.fresh hle)
    · obtain ⟨its, rv, p', hz⟩ := I1.tuple hq
      refine call_enum_tuple (show s1.heap.IsTuple a its.toArray from p') fun h' he hit hsz hk => wpAny_pyIter_enum he ?_
      have I2 : Inv X pins σ H1 { s1 with heap := h' } := I1.kept (t' := s1.toks) hk
      refine ⟨s1.heap.objs.size + 1, [s1.heap.objs.size + 1, s1.heap.objs.size], _, _, H1, rfl, I2, turn_enumT a (s1.heap.objs.size + 1) s1.heap.objs.size, ⟨⟨.none, he⟩, hit, Nat.succ_ne_self _⟩, fun b hb => ?_, q⟩
      have e' : b = s1.heap.objs.size + 1 ∨ b = s1.heap.objs.size := by simpa using hb
      have hle : s1.heap.objs.size ≤ b := by
        rcases e' with z | z
        · rw [z]; exact Nat.le_add_right _ _
        · rw [z]; exact Nat.le_refl _
      exact I1.fpOk hle (I1.hok.fresh hle)
def enumI : List PyData → Nat → List PyData
  | [], _ => []
  | d :: ds, i => .tuple [.int (i : Int), d] :: enumI ds (i + 1)
theorem enumI_len : ∀ (ds : List PyData) (i : Nat), (enumI ds i).length = ds.length
  | [], _ => rfl
  | d :: ds, i => by
    show (enumI ds (i + 1)).length + 1 = ds.length + 1
    rw [enumI_len ds (i + 1)]
theorem enumI_get : ∀ (ds : List PyData) (i j : Nat) (d : PyData), (enumI ds i)[j]? = some d → ∃ e, ds[j]? = some e ∧ d = .tuple [.int ((i + j : Nat) : Int), e]
  | [], i, j, d, h => by simp [enumI] at h
  | e :: ds, i, 0, d, h => by
    simp [enumI] at h
    exact ⟨e, rfl, h.symm⟩
  | e :: ds, i, j + 1, d, h => by
    obtain ⟨e', h1, h2⟩ := enumI_get ds (i + 1) j d (by simpa [enumI] using h)
    refine ⟨e', by simpa using h1, ?_⟩
    rw [h2, show i + 1 + j = i + (j + 1) by omega]
def enumM (fr : En → RM (List Rv)) : En → RM (List PyData) := fun ρ => RM.bnd (fr ρ) fun rs ρ1 => RM.bnd (fzAll rs ρ1) fun ds ρ2 => match ds with
  | [d] => match seqItems d with
    | some es => some (.ok (enumI es 0, ρ2))
    | none => none
  | _ => none
theorem pair_new {K : PySem.W.Frag} {Hf H : Hp} {T : Addr} {v1 v2 : V} {d1 d2 : PyData} (f : Same Hf H) (nT : H T = none) (h1 : Dp K Hf v1 d1) (h2 : Dp K Hf v2 d2) :
    ∃ Hf', Gro H Hf Hf' ∧ Same Hf' (upd H T (.tup [v1, v2])) ∧ Same H (upd H T (.tup [v1, v2])) ∧ Dp K Hf' (.ref T) (.tuple [d1, d2]) := by
  have g : Gro H Hf (upd Hf T (.tup [v1, v2])) := Gro.new nT (none_back f nT)
  exact ⟨upd Hf T (.tup [v1, v2]), g, frz_new f, same_new nT, .tup (.inl (.inl upd_same)) (.cons (dp_mono g.1 _ _ h1) (.cons (dp_mono g.1 _ _ h2) .nil))⟩
theorem wok_enumL {K : PySem.W.Frag} {Hf : Hp} {a : Addr} {xs : List V} {ds : List PyData} (h : SqL K Hf a xs) (ha : DpAll K Hf xs ds) : WOk K (Ite K a) Hf (enumI ds 0) := by
  intro Hf1 H i s1 s2
  have hq : SqL K H a xs := s2.seq (s1.seq h)
  refine ⟨fun hi => ⟨xs, hq, by rw [dpa_len ha, ← enumI_len ds 0]; exact hi⟩, fun d hd => ?_⟩
  obtain ⟨e, he, rfl⟩ := enumI_get ds 0 i d hd
  obtain ⟨v, ev, hv⟩ := dpa_get' ha he
  refine ⟨⟨xs, v, hq, ev⟩, fun x H' y => ?_⟩
  obtain ⟨T, x', rfl, nT, rfl, fx⟩ := y
  have e3 := fx xs hq
  rw [ev] at e3
  cases e3
  rw [Nat.zero_add]
  exact pair_new s2 nT (.int _) (dp_mono s1 _ _ hv)
theorem wok_enumT {K : PySem.W.Frag} {Hf : Hp} {a : Addr} {xs : List V} {ds : List PyData} (h : SqT K Hf a xs) (ha : DpAll K Hf xs ds) : WOk K (IteT K a) Hf (enumI ds 0) := by
  intro Hf1 H i s1 s2
  have hq : SqT K H a xs := same_t s2 (same_t s1 h)
  refine ⟨fun hi => ⟨xs, hq, by rw [dpa_len ha, ← enumI_len ds 0]; exact hi⟩, fun d hd => ?_⟩
  obtain ⟨e, he, rfl⟩ := enumI_get ds 0 i d hd
  obtain ⟨v, ev, hv⟩ := dpa_get' ha he
  refine ⟨⟨xs, v, hq, ev⟩, fun x H' y => ?_⟩
  obtain ⟨T, x', rfl, nT, rfl, fx⟩ := y
  have e3 := fx xs hq
  rw [ev] at e3
  cases e3
  rw [Nat.zero_add]
  exact pair_new s2 nT (.int _) (dp_mono s1 _ _ hv)
theorem ji_enum {c : Cn} {tr : TA} {fr : En → RM (List Rv)} (ha : JA c tr fr) : JI c (iEnumG c.K tr) (enumM fr) := by
  intro σ H Pr Hf ρ R S h
  show tr σ H fun vs H1 => _
  refine ha σ H Pr Hf ρ _ S (Good.bind h fun rs ρ1 _ xs Hf1 H1 g1 S1 rv1 h1 => ?_)
  obtain ⟨ds, ρ2, e, h2⟩ := Good.step (δ := Nat) h1 fun e => fzAll_noerr
  obtain ⟨Hf2, g2, S2, hd⟩ := S1.fzall rv1 e
  have h2 := Good.mono g2 h2
  match ds, xs, hd, h2 with
  | [.list es], _, .cons (.lst hs hq) .nil, h2 => exact ⟨_, _, rfl, .inl ⟨S2.fz.seq hs, Good.at S2 h2 (wok_enumL hs hq)⟩⟩
  | [.tuple es], _, .cons (.tup hs hq) .nil, h2 => exact ⟨_, _, rfl, .inr ⟨same_t S2.fz hs, Good.at S2 h2 (wok_enumT hs hq)⟩⟩
  | [.none], _, .cons _ .nil, h2 => exact h2.elim
  | [.bool _], _, .cons _ .nil, h2 => exact h2.elim
  | [.int _], _, .cons _ .nil, h2 => exact h2.elim
  | [.str _], _, .cons _ .nil, h2 => exact h2.elim
  | [], _, _, h2 => exact h2.elim
  | _ :: _ :: _, _, _, h2 => exact h2.elim

/-! ### zip -/
def zipI : List PyData → List PyData → List PyData
  | d :: ds, e :: es => .tuple [d, e] :: zipI ds es
  | _, _ => []
theorem zipI_len : ∀ (ds es : List PyData), (zipI ds es).length = min ds.length es.length
  | [], es => by simp [zipI]
  | d :: ds, [] => by simp [zipI]
  | d :: ds, e :: es => by
    show (zipI ds es).length + 1 = _
    rw [zipI_len ds es, List.length_cons, List.length_cons]
    omega
theorem zipI_get : ∀ (ds es : List PyData) (j : Nat) (d : PyData), (zipI ds es)[j]? = some d → ∃ a b, ds[j]? = some a ∧ es[j]? = some b ∧ d = .tuple [a, b]
  | [], es, j, d, h => by simp [zipI] at h
  | a :: ds, [], j, d, h => by simp [zipI] at h
  | a :: ds, b :: es, 0, d, h => by
    simp [zipI] at h
    exact ⟨a, b, rfl, rfl, h.symm⟩
  | a :: ds, b :: es, j + 1, d, h => by
    obtain ⟨a', b', h1, h2, h3⟩ := zipI_get ds es j d (by simpa [zipI] using h)
    exact ⟨a', b', by simpa using h1, by simpa using h2, h3⟩
def zipM (fr : En → RM (List Rv)) : En → RM (List PyData) := fun ρ => RM.bnd (fr ρ) fun rs ρ1 => RM.bnd (fzAll rs ρ1) fun ds ρ2 => match ds with
  | [.list ds, .list es] => some (.ok (zipI ds es, ρ2))
  | [.tuple ds, .tuple es] => some (.ok (zipI ds es, ρ2))
  | _ => none
theorem wok_zipL {K : PySem.W.Frag} {Hf : Hp} {a b : Addr} {xs ys : List V} {ds es : List PyData} (h : SqL K Hf a xs) (h' : SqL K Hf b ys) (ha : DpAll K Hf xs ds) (hb : DpAll K Hf ys es) : WOk K (Itz K a b) Hf (zipI ds es) := by
  intro Hf1 H i s1 s2
  have hq : SqL K H a xs := s2.seq (s1.seq h)
  have hq' : SqL K H b ys := s2.seq (s1.seq h')
  refine ⟨fun hi => ⟨xs, ys, hq, hq', ?_⟩, fun d hd => ?_⟩
  · rw [dpa_len ha, dpa_len hb]
    rw [zipI_len] at hi
    omega
  · obtain ⟨e, e', he, he', rfl⟩ := zipI_get ds es i d hd
    obtain ⟨v, ev, hv⟩ := dpa_get' ha he
    obtain ⟨u, eu, hu⟩ := dpa_get' hb he'
    refine ⟨⟨xs, ys, v, u, hq, hq', ev, eu⟩, fun x H' y => ?_⟩
    obtain ⟨T, x', y', rfl, nT, rfl, fx, fy⟩ := y
    have e3 := fx xs hq
    rw [ev] at e3
    cases e3
    have e4 := fy ys hq'
    rw [eu] at e4
    cases e4
    exact pair_new s2 nT (dp_mono s1 _ _ hv) (dp_mono s1 _ _ hu)
theorem wok_zipT {K : PySem.W.Frag} {Hf : Hp} {a b : Addr} {xs ys : List V} {ds es : List PyData} (h : SqT K Hf a xs) (h' : SqT K Hf b ys) (ha : DpAll K Hf xs ds) (hb : DpAll K Hf ys es) : WOk K (RZ.ItzT K a b) Hf (zipI ds es) := by
  intro Hf1 H i s1 s2
  have hq : SqT K H a xs := same_t s2 (same_t s1 h)
  have hq' : SqT K H b ys := same_t s2 (same_t s1 h')
  refine ⟨fun hi => ⟨xs, ys, hq, hq', ?_⟩, fun d hd => ?_⟩
  · rw [dpa_len ha, dpa_len hb]
    rw [zipI_len] at hi
    omega
  · obtain ⟨e, e', he, he', rfl⟩ := zipI_get ds es i d hd
    obtain ⟨v, ev, hv⟩ := dpa_get' ha he
    obtain ⟨u, eu, hu⟩ := dpa_get' hb he'
    refine ⟨⟨xs, ys, v, u, hq, hq', ev, eu⟩, fun x H' y => ?_⟩
    obtain ⟨T, x', y', rfl, nT, rfl, fx, fy⟩ := y
    have e3 := fx xs hq
    rw [ev] at e3
    cases e3
    have e4 := fy ys hq'
    rw [eu] at e4
    cases e4
    exact pair_new s2 nT (dp_mono s1 _ _ hv) (dp_mono s1 _ _ hu)
theorem ji_zip {c : Cn} {tr : TA} {fr : En → RM (List Rv)} (ha : JA c tr fr) : JI c (RZ.iZipA c.K tr) (zipM fr) := by
  intro σ H Pr Hf ρ R S h
  show tr σ H fun vs H1 => _
  refine ha σ H Pr Hf ρ _ S (Good.bind h fun rs ρ1 _ xs Hf1 H1 g1 S1 rv1 h1 => ?_)
  obtain ⟨ds, ρ2, e, h2⟩ := Good.step (δ := Nat) h1 fun e => fzAll_noerr
  obtain ⟨Hf2, g2, S2, hd⟩ := S1.fzall rv1 e
  have h2 := Good.mono g2 h2
  cases hd with
  | nil => exact h2.elim
  | cons a hd =>
    cases hd with
    | nil => cases a <;> exact h2.elim
    | cons b hd =>
      cases hd with
      | cons _ _ => cases a <;> cases b <;> exact h2.elim
      | nil =>
        cases a with
        | lst hs hq =>
          cases b with
          | lst hs' hq' => exact ⟨_, _, _, _, rfl, .inl ⟨S2.fz.seq hs, S2.fz.seq hs', Good.at S2 h2 (wok_zipL hs hs' hq hq')⟩⟩
          | _ => exact h2.elim
        | tup hs hq =>
          cases b with
          | tup hs' hq' => exact ⟨_, _, _, _, rfl, .inr ⟨same_t S2.fz hs, same_t S2.fz hs', Good.at S2 h2 (wok_zipT hs hs' hq hq')⟩⟩
          | _ => exact h2.elim
        | _ => cases b <;> exact h2.elim
end Pl

namespace Pl
open PySem PySem.Spec PyProof.Rows
open PySem.W PySem.SeqAt
/-! ### sorting tuples of any length, the empty one too -/
def TupsX (h : Heap) : List Value → List (Option Value) → Prop
  | [], [] => True
  | v :: vs, f :: fs => (∃ a o xs n, v = .ref a ∧ h.get? a = some o ∧ o.cls = .type "tuple" ∧ o.data = .seq xs n ∧ xs[0]? = f) ∧ TupsX h vs fs
  | _, _ => False
section
variable {M : Model} {A : Around} {E : Value → Shared → Prop} {s : Shared}
theorem tupx_firsts : ∀ (vs : List Value) (fs : List (Option Value)) {Q : List (Option Value) → Shared → Prop}, TupsX s.heap vs fs → Q fs s → wpAny M A (vs.mapM firstOfTuple') Q E s
  | [], [], _, _, h => by rw [List.mapM_nil]; exact wpAny_pure h
  | [], _ :: _, _, t, _ => t.elim
  | _ :: _, [], _, t, _ => t.elim
  | v :: vs, f :: fs, Q, t, h => by
    obtain ⟨⟨a, o, xs, n, rfl, ho, hc, hd, hf⟩, t⟩ := t
    rw [List.mapM_cons]
    refine wpAny_bind ?_
    rw [kas_first_eq]
    refine wpAny_bind (Looks.here (show Looks M s.heap (typeOf (.ref a)) o.cls from (Looks.ld ho).andThen .now) ?_)
    rw [hc, if_neg (by first | decide | simp)]
    refine wpAny_bind (listItems_at ho hd (wpAny_pure ?_))
    rw [hf]
    exact wpAny_bind (tupx_firsts vs fs (Q := fun bs s' => wpAny M A (pure (f :: bs)) Q E s') t (wpAny_pure h))
theorem tupx_ty : ∀ {vs : List Value} {fs : List (Option Value)}, TupsX s.heap vs fs → ∀ v ∈ vs, Looks M s.heap (typeOf v) (.type "tuple")
  | [], [], _, v, hv => by cases hv
  | [], _ :: _, t, _, _ => t.elim
  | _ :: _, [], t, _, _ => t.elim
  | u :: vs, f :: fs, t, v, hv => by
    obtain ⟨⟨a, o, xs, n, rfl, ho, hc, hd, hf⟩, t⟩ := t
    rcases List.mem_cons.mp hv with z | z
    · rw [z]
      exact hc ▸ (Looks.ld ho).andThen .now
    · exact tupx_ty t v z
theorem kind_tups {vs : List Value} {f : Option Value} {fr : List (Option Value)} {Q : SortKind → Shared → Prop} (t : TupsX s.heap vs (f :: fr)) (hn : none ∈ f :: fr) (h : Q (if f.isSome = true then general' else oneType') s) : wpAny M A (keyKind' vs.toArray) Q E s := by
  rw [kat_kind_eq, List.mapM_toArray, map_eq_pure_bind]
  refine wpAny_bind (wpAny_bind (tupx_firsts vs _ t (wpAny_pure ?_)))
  have hall : ¬ (((f :: fr).toArray.all fun x => x.isSome) = true) := by
    rw [List.all_toArray, List.all_eq_true]
    intro z
    have := z _ hn
    cases this
  rw [if_neg hall]
  have h0 : (f :: fr).toArray[0]? = some f := by simp
  rw [h0]
  show wpAny M A (if f.isSome = true then _ else _) _ _ _
  cases hf : f.isSome with
  | true =>
    rw [if_pos rfl]
    rw [hf, if_pos rfl] at h
    exact wpAny_pure h
  | false =>
    rw [if_neg Bool.false_ne_true]
    rw [hf, if_neg Bool.false_ne_true] at h
    rw [oneTypeOnly'_eq, List.mapM_toArray, map_eq_pure_bind]
    refine wpAny_bind (wpAny_bind (wpAny_bind (kas_mapM (r := Value.type "tuple") _ (fun v hv Q' hq => (tupx_ty t v hv).here hq) (wpAny_pure ?_))))
    obtain ⟨v, vr, rfl⟩ : ∃ v vr, vs = v :: vr := by
      match vs, t with
      | v :: vr, _ => exact ⟨v, vr, rfl⟩
    have hall2 : ((List.map (fun _ => Value.type "tuple") (v :: vr)).toArray.all fun x => x == Value.type "tuple") = true := by
      simp only [List.all_toArray, List.all_map, List.all_eq_true]
      intro _ _
      rfl
    have h1 : (List.map (fun _ => Value.type "tuple") (v :: vr)).toArray[0]? = some (Value.type "tuple") := by simp
    rw [h1]
    simp only [hall2, if_true]
    exact wpAny_pure (wpAny_pure h)
end
section
variable {prog : Program} {w : World} {A : Around} {E : Value → Shared → Prop} {s : Shared}
theorem call_tuple_lt {Q : Value → Shared → Prop} {l b : Addr} {items items2 : Array Value} {e r : Nat → Bool} (hl : s.heap.IsTuple l items) (hb : s.heap.IsTuple b items2)
    (he : ∀ j (h1 : j < items.size) (h2 : j < items2.size), SeqAt.EqAt A.in1 s items[j] items2[j] (e j)) (hr : ∀ j (h1 : j < items.size) (h2 : j < items2.size), e j = false → SeqAt.RcLt A.in1 s items[j] items2[j] (r j))
    (h : Q (.bool (SeqAt.firstLt e r (decide (items.size < items2.size)) (List.range (min items.size items2.size)))) s) : wpAny (model prog w) A (call (.builtin "tuple.__lt__") [.ref l, .ref b]) Q E s := by
  obtain ⟨⟨cls, dd, data, sl⟩, ho, hc, n, hd⟩ := id hl
  obtain ⟨⟨cls2, dd2, data2, sl2⟩, ho2, hc2, n2, hd2⟩ := id hb
  simp only at hc hd hc2 hd2
  subst hc hd hc2 hd2
  exact call_meets F.slot_tuple_lt ⟨_, ho, rfl⟩ F.entry_tuple_lt (F.args_tuple_lt_2 _ _) (SeqAt.tuple_ltAt l b items items2 n n2 dd dd2 sl sl2 e r) ⟨ho, ho2, he, hr, h⟩
theorem oneLt_tup {xs ys : List PyData} {a b : Value} {as bs : List Addr} {Q : Bool → Shared → Prop} (ra : Reads s.heap a (.tuple xs) as) (rb : Reads s.heap b (.tuple ys) bs) (h : alike (.tuple xs) (.tuple ys) = true)
    (hu : A.units + min (PyData.tuple xs).depth (PyData.tuple ys).depth < cLine) (hq : Q (dataLt (.tuple xs) (.tuple ys)) s) : wpAny (model prog w) A (oneLt' true a b) Q E s := by
  have hal : alikeAll xs ys = true := by simpa [alike] using h
  cases ra with
  | @tuple l o vs n _ as₁ h1 h2 h3 h4 =>
    cases rb with
    | @tuple l' o' vs' n' _ bs₁ k1 k2 k3 k4 =>
      have n1 : vs.size = xs.length := by simpa using SeqAt.ReadsAll.length _ _ _ h4
      have n2 : vs'.size = ys.length := by simpa using SeqAt.ReadsAll.length _ _ _ k4
      rw [dataLt_tuple, ← firstLt_toks xs ys hal, ← n1, ← n2] at hq
      rw [oneLt'_eq]
      simp only [if_true]
      refine wpAny_bind (wpAny_cRoomFor (SeqAt.room_here hu) ?_)
      refine wpAny_bind (wpAny_callSpecialIfBound?_slot (T := "tuple") ⟨_, h1, h2⟩ F.slot_tuple_lt (call_tuple_lt (e := pairEq xs ys) (r := fun j => dataLt (xs.getD j .none) (ys.getD j .none)) ⟨_, h1, h2, _, h3⟩ ⟨_, k1, k2, _, k3⟩ (fun j j1 j2 => ?_) (fun j j1 j2 hj => ?_) ?_))
      · have := eqAt_alikeAll xs ys A.in1 s vs.toList vs'.toList _ _ h4 k4 hal (SeqAt.room_in hu) j (by simpa using j1) (by simpa using j2)
        simpa using this
      · have := rcLt_alikeAll xs ys A.in1 s vs.toList vs'.toList _ _ h4 k4 hal (SeqAt.room_in hu) j (by simpa using j1) (by simpa using j2) hj
        simpa using this
      · exact wpAny_truthy_bool hq
theorem each_tupx {h : Heap} : ∀ {vs : List Value} {ds : List PyData}, EachIs (fun v d => ∃ as, Reads h v d as) vs ds → (∀ d, d ∈ ds → ∃ xs, d = .tuple xs) → ∃ fs : List (Option Value), TupsX h vs fs ∧ fs.length = ds.length ∧ ∀ (i : Nat) (xs : List PyData), ds[i]? = some (PyData.tuple xs) → ∃ f : Option Value, fs[i]? = some f ∧ (xs = [] → f = none) ∧ (xs ≠ [] → f.isSome = true)
  | _, _, .nil, _ => ⟨[], trivial, rfl, fun i xs h => by simp at h⟩
  | _, _, .cons (b := d) ⟨as, r⟩ t, ht => by
    obtain ⟨fs, h1, h2, h3⟩ := each_tupx t fun d hd => ht d (List.mem_cons_of_mem _ hd)
    obtain ⟨ys, rfl⟩ := ht d (List.mem_cons_self ..)
    cases r with
    | @tuple a o xs n _ _ ho hc hd hr =>
      refine ⟨xs[0]? :: fs, ⟨⟨_, o, xs, n, rfl, ho, hc, hd, rfl⟩, h1⟩, by rw [List.length_cons, List.length_cons, h2], fun i zs e => ?_⟩
      cases i with
      | succ i =>
        obtain ⟨f, f1, f2⟩ := h3 i zs (by simpa using e)
        exact ⟨f, by simpa using f1, f2⟩
      | zero =>
        simp at e
        subst e
        have hl : xs.size = ys.length := by simpa using SeqAt.ReadsAll.length _ _ _ hr
        refine ⟨xs[0]?, rfl, fun z => ?_, fun z => ?_⟩
        · rw [z] at hl
          exact Array.getElem?_eq_none (by rw [hl]; exact Nat.le_refl _)
        · have : 0 < xs.size := by
            rw [hl]
            exact List.length_pos_iff.mpr z
          rw [Array.getElem?_eq_getElem this]
          rfl
/-- tuples of any length can be sorted -/
theorem SortsAt_tups {vs : List Value} {ds : List PyData} (e : EachIs (fun v d => ∃ as, Reads s.heap v d as) vs ds) (hal : AllAlike ds) (ht : ∀ d, d ∈ ds → ∃ xs, d = .tuple xs) (hu : ∀ d, d ∈ ds → A.units + d.depth < cLine) : SortsAt prog w A s (dataKind s.heap ds) vs := by
  by_cases hall : ∀ d, d ∈ ds → ∃ x r, d = .tuple (x :: r)
  · exact SortsAt.data e hal (.inl hall) hu
  · have room : ∀ {d d' : PyData}, d ∈ ds → A.units + min d.depth d'.depth < cLine := fun {d d'} hd => Nat.lt_of_le_of_lt (Nat.add_le_add_left (Nat.min_le_left _ _) _) (hu d hd)
    refine ⟨fun v hv => ?_, ?_⟩
    · obtain ⟨d, hd, as, r⟩ := e.left v hv
      exact ⟨_, dataKind_some hal hd r⟩
    · obtain ⟨fs, t1, t2, t3⟩ := each_tupx e ht
      have hnone : none ∈ fs := by
        obtain ⟨d, hd⟩ := Classical.not_forall.mp hall
        obtain ⟨hd, hx⟩ := Classical.not_imp.mp hd
        obtain ⟨xs, rfl⟩ := ht d hd
        have hxs : xs = [] := by
          cases xs with
          | nil => rfl
          | cons x r => exact absurd ⟨x, r, rfl⟩ hx
        obtain ⟨i, hi⟩ := List.getElem?_of_mem hd
        obtain ⟨f, f1, f2, _⟩ := t3 i xs hi
        rw [f2 hxs] at f1
        exact List.mem_of_getElem? f1
      obtain ⟨f, fr, rfl⟩ : ∃ f fr, fs = f :: fr := by
        cases fs with
        | nil => cases hnone
        | cons f fr => exact ⟨f, fr, rfl⟩
      refine ⟨if f.isSome = true then general' else oneType', ?_, fun _ E Q hq => kind_tups t1 hnone hq⟩
      intro E x y a b Q ha hb hq
      obtain ⟨d, as, hd, ra, rfl⟩ := dataKind_inv ha
      obtain ⟨d', as', hd', rb, rfl⟩ := dataKind_inv hb
      obtain ⟨xs, rfl⟩ := ht d hd
      obtain ⟨ys, rfl⟩ := ht d' hd'
      cases hf : f.isSome with
      | true =>
        rw [if_pos rfl]
        exact oneLt_alike (f := false) (fun z => by cases z) ra rb (hal _ hd _ hd') (fun z => by cases z) (room hd) hq
      | false =>
        rw [if_neg Bool.false_ne_true, keyLt'_oneType]
        exact oneLt_tup ra rb (hal _ hd _ hd') (room hd) hq
/-- what a tuple gives when it is collected: a new list behind all that is there -/
theorem collect_tup {l : Addr} {vs : List Value} {Q : List Value → Shared → Prop} (hl : s.heap.IsTuple l vs.toArray)
    (h : Q vs { s with heap := (s.heap.push (seqObj "list" #[] 0)).update s.heap.objs.size (Obj.mapSeq (· ++ vs.toArray)) }) (hsz : vs.length ≤ sizeLine) :
    wpAny (model prog w) A (collect (.ref l)) Q E s := by
  obtain ⟨o, ho, hc, n, hd⟩ := id hl
  unfold collect
  refine wpAny_bind (wpAny_runValue (codeAny_builtin entry_proto_collect' ?_))
  show wpAny _ _ (do again (.builtin "list.__iadd__" ⟨[← newList [], .ref l], []⟩)) _ _ s
  refine wpAny_bind (wpAny_newList (wpAny_pure ⟨Code.quiet_builtin _ (by decide +kernel), codeAny_builtin entry_list_iadd' ?_⟩))
  show wpAny _ _ (Builtin.List.listExtendWith (.ref s.heap.objs.size) (.ref l) (.ref s.heap.objs.size)) _ _ { s with heap := s.heap.push (seqObj "list" #[] 0) }
  unfold Builtin.List.listExtendWith
  have ho' : (s.heap.push (seqObj "list" #[] 0)).get? l = some o := Heap.get?_push_of_some _ ho
  refine wpAny_bind (wpAny_typeOf (T := "tuple") ⟨o, ho', hc⟩ ?_)
  have ht : (Value.type "tuple" == Value.type "tuple") = true := by rfl
  rw [if_pos (by rw [ht]; simp)]
  refine wpAny_bind (listItems_at ho' hd ?_)
  refine wpAny_bind (listItems_at (xs := #[]) (n := 0) (Heap.get?_push_size _ rfl) rfl ?_)
  rw [if_neg (by simp)]
  refine wpAny_bind (listUpdate_at (xs := #[]) (n := 0) (Heap.get?_push_size _ rfl) rfl ?_ (Nat.zero_le _) (by show (#[] ++ vs.toArray).size ≤ sizeLine + 1; simp only [Array.size_append, List.size_toArray, List.length_nil]; omega))
  refine wpAny_pure ?_
  show wpAny (model prog w) A (do
      let o ← load s.heap.objs.size
      match o.data with
      | .seq xs _ => pure xs.toList
      | _ => unsupported "internal:collect") Q E { s with heap := (s.heap.push (seqObj "list" #[] 0)).update s.heap.objs.size (Obj.mapSeq (· ++ vs.toArray)) }
  refine wpAny_bind (wpAny_load (get?_update_seq (Heap.get?_push_size _ rfl) _) ?_)
  show wpAny _ _ (pure ((#[] : Array Value) ++ vs.toArray).toList) Q E _
  rw [show ((#[] : Array Value) ++ vs.toArray).toList = vs by simp]
  exact wpAny_pure h
/-- sorted(xs, ..), xs a list or a tuple -/
theorem sorted_of_any {l : Addr} {vs : List Value} {kw : List (Str × Value)} {Q : Value → Shared → Prop} (hl : s.heap.IsList l vs.toArray ∨ s.heap.IsTuple l vs.toArray) (hL : vs.length ≤ sizeLine) (ha1 : argsOk "sorted" ⟨[.ref l], kw⟩) (ha2 : ∀ x, argsOk "list.sort" ⟨[.ref x], kw⟩)
    (body : ∀ E' : Value → Shared → Prop, wpAny (model prog w) A.in1.in1 (Builtin.«list.sort» ⟨[.ref (s.heap.objs.size + 1)], kw⟩) (fun f s' => f = .done (.ret .none) ∧ Q (.ref (s.heap.objs.size + 1)) s') E' { s with heap := copyHeap s.heap vs }) :
    wpAny (model prog w) A (call (.builtin "sorted") [.ref l] kw) Q E s := by
  rcases hl with hl | hl
  · exact sorted_of_sort hl hL ha1 ha2 body
  · refine call_function_entry_kw kind_sorted plain_sorted entry_sorted ha1 ?_
    unfold Builtin.«sorted»
    refine wpAny_bind (m := checkCount "sorted" 1 1 _) (wpAny_pure ?_)
    refine wpAny_bind (collect_tup hl ?_ hL)
    refine wpAny_bind (wpAny_newList ?_ hL)
    have hsz : ((s.heap.push (seqObj "list" #[] 0)).update s.heap.objs.size (Obj.mapSeq (· ++ vs.toArray))).objs.size = s.heap.objs.size + 1 := by
      rw [Heap.size_update, size_push']
    show wpAny _ _ _ _ _ { s with heap := copyHeap s.heap vs }
    rw [hsz]
    refine wpAny_bind (wpAny_holding (wpAny_call_entry_kw slot_list_sort ⟨_, copyHeap_at s.heap vs, rfl⟩ entry_list_sort ?body (ha2 _)))
    case body =>
      show wpAny (model prog w) A.in1.in1 (Builtin.«list.sort» ⟨[.ref (s.heap.objs.size + 1)], kw⟩) _ _ _
      refine wpAny_mono (body _) (fun f s' hf => ?_) fun _ _ e => e
      obtain ⟨rfl, hq⟩ := hf
      exact ⟨_, rfl, wpAny_pure ⟨_, rfl, hq⟩⟩
/-- sorted(xs) of alike data: ints, or tuples -/
theorem sorted_any {β : Type} {vs : List Value} {bs : List β} {enc : β → PyData} {R : Value → β → Prop} {l : Addr} {Q : Value → Shared → Prop} (hl : s.heap.IsList l vs.toArray ∨ s.heap.IsTuple l vs.toArray) (e : EachIs R vs bs) (er : EachIs (fun v b => ∃ as, Reads s.heap v (enc b) as) vs bs) (hal : AllAlike (bs.map enc))
    (hk : Sortable (bs.map enc) ∨ ∀ d, d ∈ bs.map enc → ∃ xs, d = .tuple xs) (hL : bs.length ≤ sizeLine)
    (hu : ∀ b, b ∈ bs → A.units + 2 + (enc b).depth < cLine) (h : ∀ out, out.length = bs.length → EachIs R out (bs.mergeSort (dataLe false enc)) → Q (.ref (s.heap.objs.size + 1)) { s with heap := sortedAll s.heap vs (List.toArray out) }) :
    wpAny (model prog w) A (call (.builtin "sorted") [.ref l]) Q E s := by
  have er' : EachIs (fun v b => ∃ as, Reads (sortingHeap (copyHeap s.heap vs) (s.heap.objs.size + 1) vs) v (enc b) as) vs bs := er.mono fun _ _ ⟨as, r⟩ => ⟨as, PyProof.Rows.Reads.keeps (fun _ _ => sorting_copy_old) r⟩
  have er2 := each_map (R := fun v d => ∃ as, Reads (sortingHeap (copyHeap s.heap vs) (s.heap.objs.size + 1) vs) v d as) enc er'
  have hL' : vs.length ≤ sizeLine := by rw [e.length]; exact hL
  have S : SortsAt prog w A.in1.in1 { s with heap := sortingHeap (copyHeap s.heap vs) (s.heap.objs.size + 1) vs } (dataKind (sortingHeap (copyHeap s.heap vs) (s.heap.objs.size + 1) vs) (bs.map enc)) vs := by
    rcases hk with hk | hk
    · exact SortsAt.data (s := { s with heap := sortingHeap (copyHeap s.heap vs) (s.heap.objs.size + 1) vs }) er2 hal hk (bound_map hu)
    · exact SortsAt_tups (s := { s with heap := sortingHeap (copyHeap s.heap vs) (s.heap.objs.size + 1) vs }) er2 hal hk (bound_map hu)
  refine sorted_of_any hl hL' (args_sorted1 _) (fun _ => args_list_sort _) fun _ => list_sort_vals (s := { s with heap := copyHeap s.heap vs }) (copyHeap_at s.heap vs) S hL' ⟨rfl, ?_⟩
  exact h _ (by rw [sortVals_length false rfl]; exact e.length) (sortVals_data false e er' hal)
end
end Pl

namespace Pl
open PySem PySem.Spec PyProof.Rows L2
open PySem.W (AllAlike alike alikeAll dataLe EachIs Sortable keyToks KeyPure)
/-! ### sorted(xs): ints, or tuples of ints -/
def isTupI : PyData → Bool
  | .tuple ds => (intsD ds).isSome
  | _ => false
def isIntD : PyData → Bool
  | .int _ => true
  | _ => false
def sortOk (ds : List PyData) : Bool := ds.all isIntD || ds.all isTupI
theorem isTupI_of {d : PyData} (h : isTupI d = true) : ∃ is : List Int, d = .tuple (is.map PyData.int) := by
  cases d with
  | tuple ds =>
    have h' : (intsD ds).isSome = true := h
    obtain ⟨is, e⟩ := Option.isSome_iff_exists.mp h'
    exact ⟨is, by rw [intsD_ok e]⟩
  | _ => cases h
theorem isIntD_of {d : PyData} (h : isIntD d = true) : ∃ i : Int, d = .int i := by
  cases d with
  | int i => exact ⟨i, rfl⟩
  | _ => cases h
theorem sortOk_al {ds : List PyData} (h : sortOk ds = true) : AllAlike ds ∧ (Sortable ds ∨ ∀ d, d ∈ ds → ∃ xs, d = .tuple xs) ∧ ∀ d, d ∈ ds → d.depth ≤ 1 := by
  unfold sortOk at h
  rw [Bool.or_eq_true, List.all_eq_true, List.all_eq_true] at h
  rcases h with h | h
  · refine ⟨fun d hd d' hd' => ?_, .inl (.inr fun d hd => ?_), fun d hd => ?_⟩
    · obtain ⟨i, rfl⟩ := isIntD_of (h d hd)
      obtain ⟨j, rfl⟩ := isIntD_of (h d' hd')
      rfl
    · obtain ⟨i, rfl⟩ := isIntD_of (h d hd)
      exact ⟨fun z => by (cases z), fun xs z => by (cases z)⟩
    · obtain ⟨i, rfl⟩ := isIntD_of (h d hd)
      exact Nat.zero_le _
  · refine ⟨fun d hd d' hd' => ?_, .inr fun d hd => ?_, fun d hd => ?_⟩
    · obtain ⟨i, rfl⟩ := isTupI_of (h d hd)
      obtain ⟨j, rfl⟩ := isTupI_of (h d' hd')
      show alikeAll _ _ = true
      exact PySem.W.alike_ints i j
    · obtain ⟨i, rfl⟩ := isTupI_of (h d hd)
      exact ⟨_, rfl⟩
    · obtain ⟨i, rfl⟩ := isTupI_of (h d hd)
      simp [PyData.depth, PySem.W.depth_ints]
/-- pairs of a value and what it reads as -/
abbrev zLe : V × PyData → V × PyData → Bool := dataLe false Prod.snd
def rSortG (K : PySem.W.Frag) : List V → Hp → VK → Prop := fun vs H Q => ∃ (a : Addr) (zs : List (V × PyData)), vs = [.ref a] ∧ (SqL K H a (zs.map Prod.fst) ∨ SqT K H a (zs.map Prod.fst)) ∧ (∀ z ∈ zs, L2.Dp K H z.1 z.2) ∧ sortOk (zs.map Prod.snd) = true ∧ zs.length ≤ 100000 ∧
  ∀ p, H p = none → Q (.ref p) (upd H p (.lst ((zs.mergeSort zLe).map Prod.fst)))
theorem vals_each {f : V × PyData → V} : ∀ {zs : List (V × PyData)} {us : List Value}, Vals (zs.map f) us → EachIs (fun u z => RelV (f z) u) us zs
  | [], _, h => by cases h; exact .nil
  | z :: zs, _, h => by
    cases h with
    | cons h1 h2 => exact .cons h1 (vals_each h2)
theorem each_vals : ∀ {us : List Value} {zs : List (V × PyData)}, EachIs (fun u (z : V × PyData) => RelV z.1 u) us zs → Vals (zs.map Prod.fst) us
  | _, _, .nil => .nil
  | _, _, .cons h1 h2 => .cons h1 (each_vals h2)
theorem each_reads {X : Cx} {pins : List (Addr × Obj)} {s : Shared} {σ : L2.St} {H : Hp} (I : Inv X pins σ H s) : ∀ {us : List Value} {zs : List (V × PyData)}, EachIs (fun u (z : V × PyData) => RelV z.1 u) us zs → (∀ z ∈ zs, L2.Dp X.K H z.1 z.2) → EachIs (fun u (z : V × PyData) => ∃ as, Reads s.heap u z.2 as) us zs
  | _, _, .nil, _ => .nil
  | _, _, .cons h1 h2, hd => .cons (L2.Dp.reads I _ _ _ (hd _ List.mem_cons_self) h1) (each_reads I h2 fun z hz => hd z (List.mem_cons_of_mem _ hz))
theorem cr_sortG {X : Cx} (hu : X.A.units + 64 < cLine) : CallR X (.builtin "sorted") (rSortG X.K) := by
  intro pins s σ H vs us Q I r h
  obtain ⟨a, zs, rfl, hs, hd, hok, hl, q⟩ := h
  obtain rfl := Vals.ref1 r
  obtain ⟨ha, hk, hdep⟩ := sortOk_al hok
  have hsz : zs.length ≤ sizeLine := Nat.le_trans hl (by decide)
  have main : ∀ its : List Value, Vals (zs.map Prod.fst) its → (s.heap.IsList a its.toArray ∨ s.heap.IsTuple a its.toArray) → wpAny (model X.prog X.w) X.A (call (.builtin "sorted") [.ref a]) (EP X pins σ Q) X.xe s := by
    intro its rv hl'
    have e := vals_each rv
    refine sorted_any (β := V × PyData) (enc := Prod.snd) (R := fun u z => RelV z.1 u) hl' e (each_reads I e hd) ha hk hsz (fun b hb => ?_) fun out hlen eo => ?_
    · have := hdep b.2 (List.mem_map.mpr ⟨b, hb, rfl⟩)
      omega
    · obtain ⟨ep, he'⟩ := PyProof.Rows.sortedAll_at s.heap its out.toArray
      refine ⟨.ref _, upd H (s.heap.objs.size + 1) (.lst ((zs.mergeSort zLe).map Prod.fst)), I.laid (t' := s.toks) (fun _ _ => PyProof.Rows.sortedAll_old) (Nat.le_succ _) ⟨?_, out, ep, each_vals eo, he'⟩, rfl, q _ (I.hok.fresh (Nat.le_succ _))⟩
      rw [List.length_map, List.length_mergeSort]
      exact hsz
  rcases hs with hs | hs
  · obtain ⟨its, rv, hp, _⟩ := I.list hs
    exact main its rv (.inl hp.isList)
  · obtain ⟨its, rv, hp, _⟩ := I.tuple hs
    exact main its rv (.inr hp)
def sortD (ds : List PyData) : List PyData := ds.mergeSort (dataLe false id)
def sortG : List PyData → Option Rv
  | [d] => match seqItems d with
    | some ds => match few ds && sortOk ds with
      | true => some (.nw (sortD ds))
      | false => none
    | none => none
  | _ => none
theorem dpa_zip {K : PySem.W.Frag} {H : Hp} : ∀ {xs : List V} {ds : List PyData}, DpAll K H xs ds → ∃ zs : List (V × PyData), zs.map Prod.fst = xs ∧ zs.map Prod.snd = ds ∧ ∀ z ∈ zs, Dp K H z.1 z.2
  | _, _, .nil => ⟨[], rfl, rfl, fun z hz => by cases hz⟩
  | _, _, .cons (v := v) (d := d) h1 h2 => by
    obtain ⟨zs, e1, e2, h⟩ := dpa_zip h2
    refine ⟨(v, d) :: zs, by rw [List.map_cons, e1], by rw [List.map_cons, e2], fun z hz => ?_⟩
    rcases List.mem_cons.mp hz with rfl | hz
    · exact h1
    · exact h z hz
theorem zip_dpa {K : PySem.W.Frag} {H : Hp} : ∀ {zs : List (V × PyData)}, (∀ z ∈ zs, Dp K H z.1 z.2) → DpAll K H (zs.map Prod.fst) (zs.map Prod.snd)
  | [], _ => .nil
  | z :: zs, h => .cons (h z List.mem_cons_self) (zip_dpa fun y hy => h y (List.mem_cons_of_mem _ hy))
theorem sort_snd (zs : List (V × PyData)) : (zs.mergeSort zLe).map Prod.snd = sortD (zs.map Prod.snd) :=
  PySem.W.sort_maps Prod.snd fun a _ b _ => rfl
theorem ok_sort {K : PySem.W.Frag} : CbOk K (rSortG K) sortG := by
  intro Hf H xs ds z Q f hx hg hF
  match ds, xs, hx, hg with
  | [d], _, .cons (v := v) h1 .nil, hg =>
    dsimp only [sortG] at hg
    cases e : seqItems d with
    | none => rw [e] at hg; cases hg
    | some es =>
      rw [e] at hg
      dsimp only at hg
      cases hb : few es && sortOk es with
      | false => rw [hb] at hg; cases hg
      | true =>
        rw [hb] at hg
        cases hg
        rw [Bool.and_eq_true] at hb
        have main : ∀ (p : Addr) (ys : List V), (SqL K H p ys ∨ SqT K H p ys) → DpAll K Hf ys es → rSortG K [.ref p] H Q := by
          intro p ys hs ha
          obtain ⟨zs, e1, e2, hz⟩ := dpa_zip ha
          refine ⟨p, zs, rfl, by rw [e1]; exact hs, fun z hz' => dp_l2 _ _ (dp_mono f _ _ (hz z hz')), by rw [e2]; exact hb.2, ?_, fun q hq => ?_⟩
          · have := (of_decide_eq_true hb.1 : es.length ≤ 100000)
            rw [← e2, List.length_map] at this
            exact this
          · refine hF.lst f hq ?_
            rw [← e2, ← sort_snd]
            exact zip_dpa fun z hz' => hz z (List.mem_mergeSort.mp hz')
        cases d with
        | list es' =>
          cases e
          obtain ⟨p, ys, rfl, hs, ha⟩ := h1.lst f
          rcases h1 with h1 | ⟨p', xs', ds', e1, e2, hp, ha'⟩
          · cases h1 with
            | lst hs' ha' => exact main _ _ (.inl (f.seq hs')) ha'
          · cases e1
            cases e2
            exact main _ _ (.inl (.inl (.inl hp))) ha'
        | tuple es' =>
          cases e
          obtain ⟨p, ys, rfl, hs, ha⟩ := h1.tup
          exact main _ _ (.inr (same_t f hs)) ha
        | _ => cases e
end Pl

namespace Pl
open PySem PySem.Spec PyProof.Rows L2
open PySem.W (AllAlike alike alikeAll dataLe EachIs Sortable keyToks KeyPure kla_obj kla_fn copyHeap copyHeap_at copyHeap_old KeepsBut keyH_tree keyH_turns keyedOut_each bound_map)
/-! ### sorted(xs, key=lambda one: (len(one), one)) -/
/-- (len(one), one) -/
def keyBody (p1 p2 p3 p4 p5 : Pos) (k : Nat) : Expr := .Tuple [.Call (.Name "len" p1) [.Name "one" p2] [] p3, .Name "one" p4] k p5
def keyArgs (p : Pos) : Arguments := ⟨[], [⟨"one", none, p⟩], none, [], [], none, []⟩
structure KeyS (scope : Scope) : Prop where
  kind : scope.kind = .function
  co : scope.isCoroutine = false
  gen : scope.isGenerator = false
  cell : ∀ y ∈ scope.names, y.2 ≠ .cell
  free : ∀ y ∈ scope.names, y.2 ≠ .free
  one : scope.names.lookup ("one" : Str) = some .local
  len : scope.names.lookup ("len" : Str) = some .globalImplicit
def keySB (scope : Scope) : Bool := decide (scope.kind = .function) && !scope.isCoroutine && !scope.isGenerator && (scope.names.all fun y => !decide (y.2 = .cell) && !decide (y.2 = .free)) && decide (scope.names.lookup ("one" : Str) = some .local) && decide (scope.names.lookup ("len" : Str) = some .globalImplicit)
theorem keyS_by {scope : Scope} (h : keySB scope = true) : KeyS scope := by
  unfold keySB at h
  simp only [Bool.and_eq_true, Bool.not_eq_true', decide_eq_true_eq, decide_eq_false_iff_not, List.all_eq_true] at h
  obtain ⟨⟨⟨⟨⟨h1, h2⟩, h3⟩, h4⟩, h5⟩, h6⟩ := h
  exact ⟨h1, h2, h3, fun y hy => (h4 y hy).1, fun y hy => (h4 y hy).2, h5, h6⟩
def keyOf (d : PyData) : PyData := match d with
  | .tuple ds => .tuple [.int ds.length, .tuple ds]
  | d => d
theorem reads_ints {h : Heap} : ∀ {is : List Int} {vs : List Value} {as : List Addr}, ReadsAll h vs (is.map PyData.int) as → as = []
  | [], _, _, r => by
    cases r
    rfl
  | i :: is, _, _, r => by
    have r' : ReadsAll h _ (PyData.int i :: is.map PyData.int) _ := r
    cases r' with
    | cons h1 h2 =>
      cases h1
      rw [reads_ints h2]
      rfl
theorem tup_of_reads {h : Heap} {v : Value} {is : List Int} {as : List Addr} (r : Reads h v (.tuple (is.map PyData.int)) as) : as = [] ∧ ∃ (a : Addr) (xs : Array Value), v = .ref a ∧ IsTup h a xs ∧ xs.size = is.length := by
  cases r with
  | @tuple a o xs n _ _ ho hc hd hr =>
    have hl : xs.size = (is.map PyData.int).length := by simpa using SeqAt.ReadsAll.length _ _ _ hr
    exact ⟨reads_ints hr, a, xs, rfl, ⟨o, ho, hc, n, hd⟩, by rw [hl, List.length_map]⟩
theorem key_call {P : Program} {w : World} {A : Around} {h : Heap} {tk : Nat} {s : Shared} {f c' : Addr} {nm qual : Str} {scope : Scope} {clos : List (Str × Addr)} {pm ctv : Value} {p0 p1 p2 p3 p4 p5 : Pos} {k : Nat} {mg mb : Str → Option Value} {v : Value} {is : List Int} {as : List Addr}
    (hdep : A.depth < recursionLimit) (hf : h.get? f = some (kla_obj nm qual (keyArgs p0) (keyBody p1 p2 p3 p4 p5 k) scope clos pm c' ctv)) (hcr : h.CodeRec (.ref c') qual) (hno : h.NoLimit)
    (hg : h.Ns mainGlobals mg) (hm : mg ("len" : Str) = none) (hb : h.Ns builtinsNs mb) (hbl : mb ("len" : Str) = some (.builtin "len")) (S : KeyS scope) (r : Reads h v (.tuple (is.map PyData.int)) as) (hsz : is.length ≤ 100000) :
    wpAny (model P w) A (call (.ref f) [v]) (KeyPure (keyOf (.tuple (is.map PyData.int))) { s with heap := h, toks := tk }) (fun _ _ => False) { s with heap := h, toks := tk } := by
  obtain ⟨rfl, a, xs, rfl, ht, hxs⟩ := tup_of_reads r
  refine wpAny_call ?_
  refine PySem.W.kla_callFunE (s := { s with heap := h, toks := tk }) hdep hf rfl S.co S.gen rfl hcr ?_
  have hbind : bindArgs (kla_fn nm qual (keyArgs p0) (keyBody p1 p2 p3 p4 p5 k) scope clos pm (.ref c') ctv) ⟨[.ref a], []⟩ = pure [(("one" : Str), .ref a)] := rfl
  rw [hbind]
  refine wpAny_pure (wpAny_newFunctionEnv S.cell (fun y hy => ?_) (fun h₁ hns hsb => ⟨hno.fresh _ hsb, ?_⟩) S.kind)
  · have : y = (("one" : Str), Value.ref a) := by simpa using hy
    rw [this]
    exact S.one
  have kp : ∀ b o, h.get? b = some o → h₁.get? b = some o := fun b o e => hsb.extBut b o (Nat.ne_of_lt (Heap.lt_size e)) (Heap.get?_push_of_some _ e)
  refine PySem.W.kla_codeExpr ?_
  have one : ∀ {E : Value → Shared → Prop} {Q : Value → Shared → Prop} {h2 : Heap} {t2 : Nat} {p : Pos}, h2.Ns h.objs.size (fun x => ([(("one" : Str), Value.ref a)] : List (Str × Value)).reverse.lookup x) → Q (.ref a) { s with heap := h2, toks := t2 } →
      wpAny (model P w) (A.deeper (newEnv scope h.objs.size mainGlobals clos (qual ++ ".<locals>.") (some f) (.ref c') none builtinsNs)) (eval (.Name "one" p) (newEnv scope h.objs.size mainGlobals clos (qual ++ ".<locals>.") (some f) (.ref c') none builtinsNs)) Q E { s with heap := h2, toks := t2 } := fun hn q =>
    wpAny_Name (wpAny_loadName_local (s := { s with heap := _, toks := _ }) S.kind S.one hn rfl q)
  refine wpAny_Tuple_spliced ?_
  refine Calls.spliced_cons ?_
  refine wpAny_Call_Name_kw ?_
  refine Calls.Name_function_global S.kind S.len (Calls.loadGlobal_builtin (s := { s with heap := h₁, toks := _ }) (hg.keeps kp) hm (hb.keeps kp) hbl ?_)
  refine PyProof.Rows.callWith_builtin1 ?_
  refine Calls.spliced_cons (one hns ?_)
  refine Calls.spliced_nil ?_
  have ht1 : IsTup h₁ a xs := by
    obtain ⟨o, e, r⟩ := ht
    exact ⟨o, kp _ _ e, r⟩
  refine len_tuple (s := { s with heap := h₁, toks := _ }) ht1 (by rw [hxs]; omega) ?_
  refine Calls.spliced_cons (one hns ?_)
  refine Calls.spliced_nil ?_
  refine ⟨(by show 2 ≤ sizeLine; decide), ?_⟩
  have kp2 : ∀ b o, h.get? b = some o → (h₁.push { cls := .type "tuple", data := .seq [Value.int xs.size (tk + [(("one" : Str), Value.ref a)].length + 1), Value.ref a].toArray }).get? b = some o := fun b o e => Heap.get?_push_of_some _ (kp b o e)
  refine ⟨_, _, rfl, kp2, ?_⟩
  have r2 : Reads (h₁.push { cls := .type "tuple", data := .seq [Value.int xs.size (tk + [(("one" : Str), Value.ref a)].length + 1), Value.ref a].toArray }) (.ref a) (.tuple (is.map PyData.int)) [] := PyProof.Rows.Reads.keeps kp2 r
  show Reads _ (.ref h₁.objs.size) (.tuple [.int ((is.map PyData.int).length : Nat), .tuple (is.map PyData.int)]) []
  refine Reads.tuple (as := []) (Heap.get?_push_size _ rfl) rfl rfl ?_
  rw [List.length_map, ← hxs]
  exact ReadsAll.cons (as := []) (bs := []) (.int _ _) (ReadsAll.cons (as := []) (bs := []) r2 .nil)

/-! ### the sort -/
section
variable {prog : Program} {w : World} {A : Around} {E : Value → Shared → Prop} {s : Shared} {β : Type} {vs : List Value} {bs : List β} {R : Value → β → Prop}
/-- sorted(xs, key=f), xs a list or a tuple -/
theorem sorted_key_any {l q : Addr} {Q : Value → Shared → Prop} (k : β → PyData) (hl : s.heap.IsList l vs.toArray ∨ s.heap.IsTuple l vs.toArray) (e : EachIs R vs bs) (hal : AllAlike (bs.map k)) (hk : Sortable (bs.map k)) (hL : bs.length ≤ sizeLine)
    (hu : ∀ x, x ∈ bs → A.units + 2 + (k x).depth < cLine)
    (turn : ∀ (v : Value) (x : β), R v x → x ∈ bs → ∀ (h : Heap) (tk : Nat), (∀ b o, s.heap.get? b = some o → h.get? b = some o) →
      wpAny (model prog w) A.in1.in1 (call (.ref q) [v]) (KeyPure (k x) { s with heap := h, toks := tk }) (fun _ _ => False) { s with heap := h, toks := tk })
    (h : ∀ out c h' tk, (∀ b o, s.heap.get? b = some o → h'.get? b = some o) → s.heap.get? (s.heap.objs.size + 1) = none → h'.get? (s.heap.objs.size + 1) = some (seqObj "list" (List.toArray out) c) → out.length = bs.length → EachIs R out (bs.mergeSort (dataLe false k)) →
      Q (.ref (s.heap.objs.size + 1)) { s with heap := h', toks := tk }) :
    wpAny (model prog w) A (call (.builtin "sorted") [.ref l] [(Str.ofString "key", .ref q)]) Q E s := by
  have fresh : s.heap.get? (s.heap.objs.size + 1) = none := Heap.get?_none_of_le (Nat.le_succ _)
  have up : ∀ {g : Heap}, KeepsBut (s.heap.objs.size + 1) (copyHeap s.heap vs) g → ∀ b o, s.heap.get? b = some o → g.get? b = some o := fun {g} kp b o q =>
    kp b o (Nat.ne_of_lt (Nat.lt_succ_of_lt (Heap.lt_size q))) (copyHeap_old q)
  refine sorted_of_any hl (by rw [e.length]; exact hL) (ksk_s1 _ _) (fun _ => ksk_l1 _ _) fun E' => ?_
  rw [ksk_t1]
  refine keyH_tree (kz := bs.map k) (s := { s with heap := copyHeap s.heap vs }) (copyHeap_at s.heap vs) (by rw [List.length_map]; exact e.length.symm) (by rw [e.length]; exact hL) hal hk (bound_map (A := A.in1.in1) hu)
    (keyH_turns (s := { s with heap := copyHeap s.heap vs }) e fun v x hR hx h tk kp => turn v x hR hx h tk (up kp)) fun h' tk out c kp hD ko => ⟨rfl, ?_⟩
  exact h out c h' tk (up kp) fresh hD ((ko.length (by rw [List.length_map]; exact e.length.symm)).trans e.length) (keyedOut_each k ko e)
end

/-! ### in a def -/
theorem extn_t {K : PySem.W.Frag} {H H' : Hp} {a : Addr} {xs : List V} (e : LamX.ExtN H H') (h : SqT K H a xs) : SqT K H' a xs := by
  rcases h with (h | ⟨o, h⟩) | h
  · exact .inl (.inl (e _ _ h fun ps z => by cases z))
  · exact .inl (.inr ⟨o, e _ _ h fun ps z => by cases z⟩)
  · exact .inr h
theorem extn_rd {K : PySem.W.Frag} {H H' : Hp} {a : Addr} {xs : List V} (e : LamX.ExtN H H') (h : SqL K H a xs) : SqL K H' a xs := by
  rcases h with (h | ⟨o, h⟩) | h
  · exact .inl (.inl (e _ _ h fun ps z => by cases z))
  · exact .inl (.inr ⟨o, e _ _ h fun ps z => by cases z⟩)
  · exact .inr h
abbrev zLeK : V × PyData → V × PyData → Bool := dataLe false fun z => keyOf z.2
def IsLot (K : PySem.W.Frag) (H : Hp) (z : V × PyData) : Prop := ∃ (q : Addr) (is : List Int), z.1 = .ref q ∧ z.2 = .tuple (is.map PyData.int) ∧ SqT K H q (is.map V.int) ∧ is.length ≤ 100000
theorem IsLot.ext {K : PySem.W.Frag} {H H' : Hp} {z : V × PyData} (e : LamX.ExtN H H') (h : IsLot K H z) : IsLot K H' z := by
  obtain ⟨q, is, e1, e2, h, hl⟩ := h
  exact ⟨q, is, e1, e2, extn_t e h, hl⟩
theorem l2_ints {K : PySem.W.Frag} {H : Hp} : ∀ (ns : List Int), L2.DpAll K H (ns.map V.int) (ns.map PyData.int)
  | [] => .nil
  | n :: ns => .cons (.int n) (l2_ints ns)
theorem IsLot.dp {K : PySem.W.Frag} {H : Hp} {z : V × PyData} (h : IsLot K H z) : L2.Dp K H z.1 z.2 := by
  obtain ⟨q, is, e1, e2, h, hl⟩ := h
  rw [e1, e2]
  exact .tup h (l2_ints is)
def tSortK (K : PySem.W.Frag) (T : List (Addr × Str)) (ta : TE) : TE := fun σ H Q => ta σ H fun x H1 => ∃ (a : Addr) (zs : List (V × PyData)), x = .ref a ∧ (SqL K H1 a (zs.map Prod.fst) ∨ SqT K H1 a (zs.map Prod.fst)) ∧ (∀ z ∈ zs, IsLot K H1 z) ∧ zs.length ≤ 100000 ∧ LamX.Tabs T H1 ∧
  ∀ H2 p, LamX.ExtN H1 H2 → LamX.Tabs T H2 → H2 p = none → Q (.ref p) (upd H2 p (.lst ((zs.mergeSort zLeK).map Prod.fst)))
theorem key_al {K : PySem.W.Frag} {H : Hp} {zs : List (V × PyData)} (h : ∀ z ∈ zs, IsLot K H z) : AllAlike (zs.map fun z => keyOf z.2) ∧ Sortable (zs.map fun z => keyOf z.2) ∧ ∀ z ∈ zs, (keyOf z.2).depth ≤ 2 := by
  have key : ∀ z ∈ zs, ∃ is : List Int, keyOf z.2 = .tuple [.int is.length, .tuple (is.map PyData.int)] := fun z hz => by
    obtain ⟨q, is, _, e, _⟩ := h z hz
    refine ⟨is, ?_⟩
    rw [e]
    show PyData.tuple [.int ((is.map PyData.int).length : Nat), _] = _
    rw [List.length_map]
  refine ⟨fun d hd d' hd' => ?_, .inl fun d hd => ?_, fun z hz => ?_⟩
  · obtain ⟨z, hz, rfl⟩ := List.mem_map.mp hd
    obtain ⟨z', hz', rfl⟩ := List.mem_map.mp hd'
    obtain ⟨is, e⟩ := key z hz
    obtain ⟨js, e'⟩ := key z' hz'
    rw [e, e']
    simp [alike, alikeAll, PySem.W.alike_ints]
  · obtain ⟨z, hz, rfl⟩ := List.mem_map.mp hd
    obtain ⟨is, e⟩ := key z hz
    exact ⟨_, _, e⟩
  · obtain ⟨is, e⟩ := key z hz
    rw [e]
    simp [PyData.depth, PyData.depthAll, PySem.W.depth_ints]
theorem pe_sortK {X : Cx} {T : List (Addr × Str)} {c P : Addr} {kr : Nat} {e : Expr} {ta : TE} {scope : Scope} {p pos lpos kpos p0 p1 p2 p3 p4 p5 : Pos} {kk : Nat} (TB : LamX.TabB X.base X.mg c P) (hcode : X.env.code = .ref c) (hmT : (P, X.env.qual ++ "<lambda>") ∈ T) (huT : ∀ q ∈ T, q.1 = P → q.2 = X.env.qual ++ "<lambda>")
    (S : KeyS scope) (hl : X.mg ("len" : Str) = none) (hg : Gl X "sorted") (hm : X.mg "sorted" = none) (hr : Room kr X.A) (hv : bootBuiltins ("sorted" : Str) = some (.builtin "sorted")) (hvl : bootBuiltins ("len" : Str) = some (.builtin "len")) (ha : PE X e ta)
    (he : backTo pos (starEach [e] X.env) = (false, eval e X.env) :: backTo pos (starEach [] X.env) := by rfl) (hpl : (backTo pos (starEach [e] X.env)).any (·.1) = false := by rfl) :
    PE X (.Call (.Name "sorted" p) [e] [⟨some "key", .Lambda (keyArgs p0) (keyBody p1 p2 p3 p4 p5 kk) scope lpos, kpos⟩] pos) (tSortK X.K T ta) := by
  refine ⟨fun pins s σ H Q I h => ?_⟩
  refine wpAny_Call_Name_kw (ld_blt I hg hm hv ?_)
  refine PyProof.Rows.callWith_kw ?_ he hpl
  rw [he]
  refine Calls.spliced_cons (thn (ha.run pins s σ H _ I h) fun v s1 ⟨x, H1, I1, r1, q1⟩ => ?_)
  refine Calls.spliced_nil ?_
  obtain ⟨a, zs, rfl, hs, hlot, hz, hT, q⟩ := q1
  cases r1
  show wpAny _ _ (evalAll [do let v ← eval (.Lambda (keyArgs p0) (keyBody p1 p2 p3 p4 p5 kk) scope lpos) X.env; standAt pos; pure v]) _ _ _
  refine wpAny_evalAll_cons (wpAny_bind ?_)
  refine LamX.lam_make2 I1 TB hcode hmT huT hT rfl (fun y hy z => absurd z (S.free y hy)) fun f c' pm ctv H2 s2 I2 hE hT2 hf hfn hfr hco => ?_
  refine wpAny_bind (wpAny_standAt (wpAny_pure ?_))
  refine wpAny_pure ?_
  show wpAny _ _ (call (.builtin "sorted") [.ref a] [(("key" : Str), Value.ref f)]) _ _ _
  have hlot2 : ∀ z ∈ zs, IsLot X.K H2 z := fun z hz => (hlot z hz).ext hE
  obtain ⟨hal, hsk, hdep⟩ := key_al hlot2
  have hsz : zs.length ≤ sizeLine := Nat.le_trans hz (by decide)
  obtain ⟨mb, hb1, hb2⟩ := I2.mod.blt
  obtain ⟨⟨oc, vs', t', hoc, hdc, hvc⟩, _, _⟩ := I2.hok c' _ hco
  have hu := hr.units
  have main : ∀ its : List Value, Vals (zs.map Prod.fst) its → (s2.heap.IsList a its.toArray ∨ s2.heap.IsTuple a its.toArray) → wpAny (model X.prog X.w) X.A (call (.builtin "sorted") [.ref a] [(("key" : Str), Value.ref f)]) (EP X pins σ Q) X.xe s2 := by
    intro its rv hl'
    have e := vals_each rv
    refine sorted_key_any (β := V × PyData) (R := fun u z => RelV z.1 u) (fun z => keyOf z.2) hl' e hal hsk hsz (fun z hz => ?_) (fun v z hR hz h tk kp => ?_) fun out ep h' tk kp _ hD hlen eo => ?_
    · have := hdep z hz
      omega
    · obtain ⟨q', is, e1, e2, hq, hil⟩ := hlot2 z hz
      obtain ⟨as, rd⟩ := L2.Dp.reads I2 _ _ _ (hlot2 z hz).dp hR
      rw [e2] at rd ⊢
      exact key_call (s := s2) (by exact hr.depth) (kp _ _ hf) ⟨c', oc, vs', t', rfl, kp _ _ hoc, hdc, hvc⟩ (I2.nolimit.keeps kp) ((I2.mod.glob.keeps I2.bk).keeps kp) hl ((hb1.keeps I2.bk).keeps kp) ((hb2 _ (by decide)).trans hvl) S (PyProof.Rows.Reads.keeps kp rd) hil
    · refine ⟨.ref _, upd H2 (s2.heap.objs.size + 1) (.lst ((zs.mergeSort zLeK).map Prod.fst)), I2.laid (t' := tk) kp (Nat.le_succ _) ⟨?_, out, ep, each_vals eo, hD⟩, rfl, q H2 _ hE hT2 (I2.hok.fresh (Nat.le_succ _))⟩
      rw [List.length_map, List.length_mergeSort]
      exact hsz
  rcases hs with hs | hs
  · obtain ⟨its, rv, hp, _⟩ := I2.list (extn_rd hE hs)
    exact main its rv (.inl hp.isList)
  · obtain ⟨its, rv, hp, _⟩ := I2.tuple (extn_t hE hs)
    exact main its rv (.inr hp)

/-! ### in the plain layer -/
def keyedD (ds : List PyData) : List PyData := ds.mergeSort (dataLe false keyOf)
def lotsOk (ds : List PyData) : Bool := few ds && ds.all fun d => match d with
  | .tuple es => (intsD es).isSome && few es
  | _ => false
def sortKM (fa : En → RM Rv) : En → RM Rv := fun ρ => RM.bnd (fa ρ) fun r ρ1 => lk ρ1 r fun d => match seqItems d with
  | some ds => ck (lotsOk ds) (some (.ok (.nw (keyedD ds), ρ1)))
  | none => none
theorem same_extn {Hf H H' : Hp} (n : NoT Hf) (f : Same Hf H) (e : LamX.ExtN H H') : Same Hf H' := fun b o h => e b o (f b o h) fun ps z => n b ps (by rw [h, z])
theorem Sta.extn {K : PySem.W.Frag} {vs0 : V0} {Pr Hf H H' : Hp} {σ : L2.St} {ρ : En} (S : Sta K vs0 Pr Hf H σ ρ) (e : LamX.ExtN H H') (t : LamX.Tabs vs0.tb H') : Sta K vs0 Pr Hf H' σ ρ := by
  refine ⟨same_extn S.nf S.fz e, same_extn S.np S.pr e, fun i s es => ?_, S.dj, t, S.nf, S.np⟩
  obtain ⟨o, e1, e2⟩ := S.sl i s es
  refine ⟨o, e1, ?_⟩
  cases s with
  | un => trivial
  | va d => exact e2
  | ow k ds =>
    obtain ⟨p, xs, a1, a2, a3, a4, a5⟩ := e2
    exact ⟨p, xs, a1, a2, a3, e _ _ a4 (fun ps z => by cases z), a5⟩
theorem sort_snd_k (zs : List (V × PyData)) : (zs.mergeSort zLeK).map Prod.snd = keyedD (zs.map Prod.snd) :=
  PySem.W.sort_maps Prod.snd fun a _ b _ => rfl
theorem je_sortK {c : Cn} {ta : TE} {fa : En → RM Rv} {T : List (Addr × Str)} (hT : c.vs0.tb = T) (ha : JE c ta fa) : JE c (tSortK c.K T ta) (sortKM fa) := by
  intro σ H Pr Hf ρ Q S h
  show ta σ H fun x H1 => _
  refine ha σ H Pr Hf ρ _ S (Good.bind h fun r ρ1 _ x Hf1 H1 g1 S1 rv1 h1 => ?_)
  obtain ⟨d, l1, h4⟩ := h1.lk
  have hd := look_ok S1 rv1 l1
  cases ed : seqItems d with
  | none => simp only [ed] at h4; exact h4.elim
  | some ds =>
    simp only [ed] at h4
    obtain ⟨hk, h5⟩ := h4.ck
    unfold lotsOk at hk
    rw [Bool.and_eq_true, List.all_eq_true] at hk
    have main : ∀ (p : Addr) (ys : List V), (SqL c.K H1 p ys ∨ SqT c.K H1 p ys) → DpAll c.K Hf1 ys ds → x = .ref p → ∃ (a : Addr) (zs : List (V × PyData)), x = .ref a ∧ (SqL c.K H1 a (zs.map Prod.fst) ∨ SqT c.K H1 a (zs.map Prod.fst)) ∧ (∀ z ∈ zs, IsLot c.K H1 z) ∧ zs.length ≤ 100000 ∧ LamX.Tabs T H1 ∧
        ∀ H2 p, LamX.ExtN H1 H2 → LamX.Tabs T H2 → H2 p = none → Q (.ref p) (upd H2 p (.lst ((zs.mergeSort zLeK).map Prod.fst))) := by
      intro p ys hs hda ex
      obtain ⟨zs, e1, e2, hz⟩ := dpa_zip hda
      refine ⟨p, zs, ex, by rw [e1]; exact hs, fun z hz' => ?_, ?_, hT ▸ S1.tb, fun H2 q hE hT2 hq => ?_⟩
      · have hm : z.2 ∈ ds := by
          rw [← e2]
          exact List.mem_map.mpr ⟨z, hz', rfl⟩
        have hk2 := hk.2 _ hm
        have hdz := hz z hz'
        obtain ⟨zv, zd⟩ := z
        dsimp only at hk2 hdz hm ⊢
        cases zd with
        | tuple es =>
          dsimp only at hk2
          rw [Bool.and_eq_true] at hk2
          obtain ⟨is, ei⟩ := Option.isSome_iff_exists.mp hk2.1
          have ee := intsD_ok ei
          subst ee
          cases hdz with
          | @tup a xs _ hsq hxs =>
            have := dpa_ints is hxs
            subst this
            refine ⟨a, is, rfl, rfl, same_t S1.fz hsq, ?_⟩
            have h2 := (of_decide_eq_true hk2.2 : (is.map PyData.int).length ≤ 100000)
            rw [List.length_map] at h2
            exact h2
        | _ => cases hk2
      · have h2 := (of_decide_eq_true hk.1 : ds.length ≤ 100000)
        rw [← e2, List.length_map] at h2
        exact h2
      · have S2 := S1.extn hE (hT ▸ hT2)
        refine Fin.lst (Good.fin S2 h5) S2.fz hq ?_
        rw [← e2, ← sort_snd_k]
        exact zip_dpa fun z hz' => hz z (List.mem_mergeSort.mp hz')
    cases d with
    | list es =>
      cases ed
      obtain ⟨p, ys, e1, hs, hda⟩ := hd.lst S1.fz
      rcases hd with hd | ⟨p', xs', ds', e1', e2', hp', hda'⟩
      · cases hd with
        | lst hs' hda' => exact main _ _ (.inl (S1.fz.seq hs')) hda' rfl
      · cases e2'
        exact main p' xs' (.inl (.inl (.inl hp'))) hda' e1'
    | tuple es =>
      cases ed
      obtain ⟨p, ys, e1, hs, hda⟩ := hd.tup
      exact main p ys (.inr (same_t S1.fz hs)) hda e1
    | _ => cases ed
end Pl

namespace Pl
open PySem PySem.Spec PyProof.Rows L2
/-! ### a def called with keywords -/
def pick {α : Type} (perm : List Nat) (l : List α) : List α := perm.filterMap fun i => l[i]?
def pickC {α : Type} (np nk : Nat) (perm : List Nat) (us ws : List α) : List α := if us.length = np ∧ ws.length = nk then pick perm (us ++ ws) else []
theorem vals_get {vs : List V} {us : List Value} (r : Vals vs us) (i : Nat) : (vs[i]? = none ∧ us[i]? = none) ∨ ∃ v u, vs[i]? = some v ∧ us[i]? = some u ∧ RelV v u := by
  have hl := r.length
  cases e : vs[i]? with
  | none =>
    refine .inl ⟨rfl, ?_⟩
    rw [List.getElem?_eq_none_iff] at e ⊢
    omega
  | some v =>
    obtain ⟨u, h1, h2⟩ := r.get e
    exact .inr ⟨v, u, rfl, h1, h2⟩
theorem vals_pick {vs : List V} {us : List Value} (r : Vals vs us) : ∀ perm : List Nat, Vals (pick perm vs) (pick perm us)
  | [] => .nil
  | i :: perm => by
    have ih := vals_pick r perm
    unfold pick at ih ⊢
    rw [List.filterMap_cons, List.filterMap_cons]
    rcases vals_get r i with ⟨h1, h2⟩ | ⟨v, u, h1, h2, h3⟩
    · rw [h1, h2]
      exact ih
    · rw [h1, h2]
      exact .cons h3 ih
theorem vals_app {vs zs : List V} {us ws : List Value} (r : Vals vs us) (r2 : Vals zs ws) : Vals (vs ++ zs) (us ++ ws) := r.append r2
theorem vals_pickC {np nk : Nat} {perm : List Nat} {vs zs : List V} {us ws : List Value} (r : Vals vs us) (r2 : Vals zs ws) : Vals (pickC np nk perm vs zs) (pickC np nk perm us ws) := by
  unfold pickC
  rw [r.length, r2.length]
  split
  · exact vals_pick (vals_app r r2) perm
  · exact .nil
theorem rvall_pick {K : PySem.W.Frag} {Pr Hf H : Hp} {σ : L2.St} {ρ : En} {vs : List V} {rs : List Rv} (r : RvAll K Pr Hf H σ ρ vs rs) : ∀ perm : List Nat, RvAll K Pr Hf H σ ρ (pick perm vs) (pick perm rs)
  | [] => .nil
  | i :: perm => by
    have ih := rvall_pick r perm
    unfold pick at ih ⊢
    rw [List.filterMap_cons, List.filterMap_cons]
    have hl := rvall_len r
    cases e : rs[i]? with
    | none =>
      have e2 : vs[i]? = none := by
        rw [List.getElem?_eq_none_iff] at e ⊢
        omega
      rw [e2]
      exact ih
    | some q =>
      obtain ⟨v, h1, h2, h3⟩ := rvall_get r e
      rw [h1]
      have h4 : RvAll K Pr Hf H σ ρ (v :: List.filterMap (fun i => vs[i]?) perm) (q.fz :: List.filterMap (fun i => rs[i]?) perm) := .cons (by rw [h3]; exact h2) ih
      rw [h3] at h4
      exact h4
theorem rvall_app {K : PySem.W.Frag} {Pr Hf H : Hp} {σ : L2.St} {ρ : En} : ∀ {vs zs : List V} {rs qs : List Rv}, RvAll K Pr Hf H σ ρ vs rs → RvAll K Pr Hf H σ ρ zs qs → RvAll K Pr Hf H σ ρ (vs ++ zs) (rs ++ qs)
  | _, _, _, _, .nil, h => h
  | _, _, _, _, .cons h1 h2, h => .cons h1 (rvall_app h2 h)
theorem rvall_pickC {K : PySem.W.Frag} {Pr Hf H : Hp} {σ : L2.St} {ρ : En} {np nk : Nat} {perm : List Nat} {vs zs : List V} {rs qs : List Rv} (r : RvAll K Pr Hf H σ ρ vs rs) (r2 : RvAll K Pr Hf H σ ρ zs qs) : RvAll K Pr Hf H σ ρ (pickC np nk perm vs zs) (pickC np nk perm rs qs) := by
  unfold pickC
  rw [rvall_len r, rvall_len r2]
  split
  · exact rvall_pick (rvall_app r r2) perm
  · exact .nil
theorem kbinds_mk {K : PySem.W.Frag} {fd : FuncData} {ps ks : List Str} {np nk : Nat} {perm : List Nat} (hps : ps ≠ []) (h : ∀ us ws : List Value, us.length = np → ws.length = nk → bindArgs fd ⟨us, ks.zip ws⟩ = pure (ps.zip (pick perm (us ++ ws)))) : KBinds K fd ps ks (pickC np nk perm) (pickC np nk perm) := by
  refine ⟨fun s us ws _ hl => ?_, fun r r2 => vals_pickC r r2⟩
  unfold pickC at hl ⊢
  split at hl
  · rename_i hc
    rw [if_pos hc]
    exact .of_eq (h us ws hc.1 hc.2)
  · exact absurd (List.length_eq_zero_iff.mp hl.symm) hps
theorem pe_callK0 {X : Cx} {CX : CXT} {k : Nat} {f : Addr} {fd : FuncData} {ps ks : List Str} {sp : Sp} {E : XK} {x : Str} {p pos : Pos} {kws : List Keyword} {tk : TA} {g : List Value → List Value → List Value} {gV : List V → List V → List V} (F : FnOk X.prog X.w X.K X.mg X.base CX k f fd ps sp) (hr : Room k X.A) (hg : Gl X x) (hm : X.mg x = some (.ref f)) (hk : PySem.W.keepIn X.K (.ref f) = true) (hb : KBinds X.K fd ps ks g gV) (hx : Passes CX X E)
    (hkw : PK X kws tk) (hall : (backToKw pos (keywordEach kws X.env)).all (·.1.isSome) = true := by rfl) (hks : (backToKw pos (keywordEach kws X.env)).filterMap (·.1) = ks := by rfl)
    (hdb : (x == ("__debug__" : Str)) = false := by decide) (hpl : ((backTo pos (starEach [] X.env)).any (·.1) || (backToKw pos (keywordEach kws X.env)).any (·.1.isNone)) = false := by rfl) :
    PE X (.Call (.Name x p) [] kws pos) (tCallK sp gV E tNil tk) := by
  refine ⟨fun pins s σ H Q I h => ?_⟩
  refine wpAny_Call_Name_kw (ld_glob I hg hm ?_ hdb)
  refine PySem.W.callWith_KW0 (h₀ := X.base) I.ok.mod.kin hk hall (thn (hkw.run pos pins s σ H _ I h) fun ws s2 ⟨zs, H2, I2, rz, q2⟩ => ⟨I2.kIn, ?_⟩) hpl
  rw [hks]
  exact run_fnk (us := []) (vs := []) F hr hb hx I2 .nil rz q2
def callKM (G : En → RM Rv) (np nk : Nat) (perm : List Nat) (fr fk : En → RM (List Rv)) : En → RM Rv := fun ρ => RM.bnd (fr ρ) fun rs ρ1 => RM.bnd (fk ρ1) fun qs ρ2 => callM G (fun _ => some (.ok (pickC np nk perm rs qs, ρ2))) ρ2
theorem je_callK {c : Cn} {tr tk : TA} {fr fk : En → RM (List Rv)} {T : Lw} {G : En → RM Rv} {E1 : XK} {np nk : Nat} {perm : List Nat} (hT : c.T = T.xt) (ht : c.vs0.tb = T.tb) (ha : JA c tr fr) (hk : JA c tk fk) : JE c (tCallK (spG T c.K G) (pickC np nk perm) E1 tr tk) (callKM (quiet G) np nk perm fr fk) := by
  intro σ H Pr Hf ρ Q S h
  show tr σ H fun vs H1 => tk σ H1 fun zs H2 => spG T c.K G (pickC np nk perm vs zs) H2 Q E1
  refine ha σ H Pr Hf ρ _ S (Good.bind h fun rs ρ1 _ vs Hf1 H1 g1 S1 rv1 h1 => ?_)
  refine hk σ H1 Pr Hf1 ρ1 _ S1 (Good.bind h1 fun qs ρ2 _ zs Hf2 H2 g2 S2 rv2 h2 => ?_)
  have rv : RvAll c.K Pr Hf2 H2 σ ρ2 (pickC np nk perm vs zs) (pickC np nk perm rs qs) := rvall_pickC (rv1.later g2.1) rv2
  unfold callM at h2
  dsimp only [RM.bnd] at h2
  cases ea : argsOf ρ2 (pickC np nk perm rs qs) 0 with
  | none => simp only [ea] at h2; exact h2.elim
  | some as =>
    simp only [ea] at h2
    obtain ⟨hn, h2⟩ := Good.ck h2
    refine call_core ht S2 rv ea (of_decide_eq_true hn) (fun r out e => ?_) (fun x out e => ?_) fun e => ?_
    · simp only [quiet, e] at h2
      obtain ⟨hs, h3⟩ := Good.ck h2
      cases eb : back ρ2 (pickC np nk perm rs qs) out with
      | none => simp only [eb] at h3; exact h3.elim
      | some ρ3 =>
        simp only [eb] at h3
        exact ⟨(by cases r <;> first | rfl | (cases hs)), ρ3, rfl, h3⟩
    · simp only [quiet, e] at h2
      exact h2.elim
    · simp only [quiet, e] at h2
      exact h2.elim

/-! ### lists a def calls by one level: what the law's def gives -/
theorem law_sp {T : Lw} {K : PySem.W.Frag} {H : Hp} {a : Addr} {ns : List Int} {G : En → RM Rv} {o : En} (ht : LamX.Tabs T.tb H) (hS : SqL K H a (ns.map V.int)) (e : G [.va (.list (ns.map PyData.int))] = some (.ok (.va (.bool true), o)))
    (hH : ∃ Hf, Same Hf H ∧ NoT Hf ∧ SqL K Hf a (ns.map V.int)) : spG T K G [.ref a] H (fun v _ => v = .bl true) fun _ _ _ => False := by
  obtain ⟨Hf, h1, h2, h3⟩ := hH
  refine ⟨fun _ => none, Hf, [.va (.list (ns.map PyData.int))], ⟨h1, fun _ _ z => (by cases z), fun i s es => ?_, fun i j p h => ?_, ht, h2, fun _ _ z => (by cases z)⟩, rfl, ?_⟩
  · cases i with
    | zero =>
      simp at es
      subst es
      exact ⟨_, rfl, _, rfl, .lst h3 (dpa_of_ints ns)⟩
    | succ i => simp at es
  · obtain ⟨⟨k, ds, es⟩, _⟩ := h
    cases i with
    | zero => simp at es
    | succ i => simp at es
  · rw [e]
    intro v Hf' H' _ _ rv
    have d : Dp K Hf' v (.bool true) := rv
    cases d
    rfl
theorem frz_of {K : PySem.W.Frag} {H : Hp} {a : Addr} {xs : List V} (h : SqL K H a xs) : ∃ Hf, Same Hf H ∧ NoT Hf ∧ SqL K Hf a xs := by
  rcases h with (h | ⟨o, h⟩) | h
  · refine ⟨upd (fun _ => none) a (.lst xs), fun b u e => ?_, NoT.upd (fun _ _ z => by cases z), .inl (.inl upd_same)⟩
    by_cases q : b = a
    · subst q
      rw [upd_same] at e
      rw [h]
      exact e
    · rw [upd_ne q] at e
      cases e
  · refine ⟨upd (fun _ => none) a (.frz o (.lst xs)), fun b u e => ?_, NoT.upd (fun _ _ z => by cases z), .inl (.inr ⟨o, upd_same⟩)⟩
    by_cases q : b = a
    · subst q
      rw [upd_same] at e
      rw [h]
      exact e
    · rw [upd_ne q] at e
      cases e
  · exact ⟨fun _ => none, fun _ _ z => (by cases z), fun _ _ z => (by cases z), .inr h⟩
/-- what the law's def is to give -/
theorem law_ok {T : Lw} {K : PySem.W.Frag} {H : Hp} {a : Addr} {ns : List Int} {G : En → RM Rv} {o : En} (ht : LamX.Tabs T.tb H) (hS : SqL K H a (ns.map V.int)) (e : G [.va (.list (ns.map PyData.int))] = some (.ok (.va (.bool true), o))) : spG T K G [.ref a] H (fun v _ => v = .bl true) fun _ _ _ => False :=
  law_sp ht hS e (frz_of hS)

section
variable {P : Program} {w : World} {K : PySem.W.Frag} {mg : Str → Option Value} {base : Heap}
/-- a def whose code object is known -/
theorem fn_okC {T : Lw} {x qual : Str} {st : Stmt} {f : Addr} {fd : FuncData} {N ps : List Str} {k n m : Nat} {fb : En → RM Ot} (F : Fun K x qual st f fd) (S : FnScope N ps (defScope st)) (hn : ps.length = n) (hm : N.length = n + m)
    (hb : ∀ (A : Around) (outer : List Env) (s : Shared) (H : Hp) (vs : List V) (E : XK), Room k (A.deeper (envOfC qual (defScope st) s.heap.objs.size f fd.code)) →
      ∃ t, PSs (cxOf CX0 P w K mg base N qual (defScope st) f fd.code A outer s H E).nox (defBody st) t ∧ JS (cnOf T K vs E) t fb) : FnOk P w K mg base CX0 (k + 1) f fd ps (spG T K (runDef n m fb)) := by
  obtain ⟨oc, od, kV, doc, pm, an, cdv, ct, osl, rfl, lk, hcd⟩ := F.ex
  refine fn_of lk hcd S (fun vs H Q E h => (spG_len h).trans hn.symm) fun A outer s H vs Q E hr h => ?_
  obtain ⟨t, a, b⟩ := hb A outer s H vs E hr
  refine ⟨t, a.nox, ?_⟩
  have e : L2.start N vs = vs.map some ++ List.replicate m none := by
    unfold L2.start
    rw [hm, spG_len h, Nat.add_sub_cancel_left]
  rw [e]
  exact run_ok b h
theorem fun_kbinds {x qual : Str} {st : Stmt} {f : Addr} {fd : FuncData} {ps ks : List Str} {np nk : Nat} {perm : List Nat} (F : Fun K x qual st f fd) (hps : ps ≠ [])
    (h : ∀ (kV doc pm : Value) (an : Option Addr) (cdv ct : Value) (us ws : List Value), us.length = np → ws.length = nk → bindArgs (PySem.W.fnOf x qual (defArgs st) (defBody st) (defScope st) .none kV doc pm an cdv ct) ⟨us, ks.zip ws⟩ = pure (ps.zip (pick perm (us ++ ws)))) : KBinds K fd ps ks (pickC np nk perm) (pickC np nk perm) := by
  obtain ⟨oc, od, kV, doc, pm, an, cdv, ct, osl, rfl, lk, hcd⟩ := F.ex
  exact kbinds_mk hps (h kV doc pm an cdv ct)
theorem room_u {A : Around} {k : Nat} (hr : Room k A) : A.units + 65 < cLine := by
  have := hr.un
  omega
end
end Pl

namespace Pl
open PySem PySem.Spec PyProof.Rows L2
theorem room64 {A : Around} {k : Nat} (hr : Room k A) : A.units + 64 < cLine := by
  have := hr.un
  omega
def blkB (N : List Str) (sc scope : Scope) (own : List (Str × Nat)) : Bool :=
  decide (scope.kind = .function) && scope.names.all (fun y => decide (scope.names.lookup y.1 = some y.2)) && own.all (fun p => decide (N[p.2]? = some p.1)) &&
  scope.names.all (fun y => !decide (y.2 = .free) || decide (sc.names.lookup y.1 = some .cell) || decide (sc.names.lookup y.1 = some .free)) &&
  scope.names.all (fun y => !(decide (y.2 = .local) || decide (y.2 = .cell)) || decide (y.1 ∈ own.map (·.1)) || decide (y.1 ∉ N))
theorem blkOk_by {N : List Str} {sc scope : Scope} {own : List (Str × Nat)} (h : blkB N sc scope own = true) : BlkOk N sc scope own := by
  unfold blkB at h
  simp only [Bool.and_eq_true, Bool.or_eq_true, Bool.not_eq_true', decide_eq_true_eq, decide_eq_false_iff_not, List.all_eq_true, Bool.or_eq_false_iff] at h
  obtain ⟨⟨⟨⟨h1, h2⟩, h3⟩, h4⟩, h5⟩ := h
  refine ⟨h1, h2, h3, fun y hy e => ?_, fun y hy e => ?_⟩
  · rcases h4 y hy with (z | z) | z
    · exact absurd e z
    · exact .inl z
    · exact .inr z
  · rcases h5 y hy with (z | z) | z
    · rcases e with e | e
      · exact absurd e z.1
      · exact absurd e z.2
    · exact .inl z
    · exact .inr z
def negG : PyData → Option Rv
  | .int i => some (.va (.int (-i)))
  | _ => none

def noneM : En → RM Rv := fun _ => none
theorem fnok_none {P : Program} {w : World} {K : PySem.W.Frag} {mg : Str → Option Value} {base : Heap} {CX : CXT} {k : Nat} {f : Addr} {fd : FuncData} {ps : List Str} {T : Lw} : FnOk P w K mg base CX k f fd ps (spG T K noneM) := by
  have no : ∀ vs H Q E, ¬ spG T K noneM vs H Q E := fun vs H Q E ⟨Pr, Hf, as, S, hl, g⟩ => g
  refine ⟨fun vs H Q E h => (no _ _ _ _ h).elim, ?_⟩
  intros
  rename_i h
  exact (no _ _ _ _ h).elim

/-! ### the kit's rules with the written part named -/
section
variable {X : Cx} (K : PySem.W.Frag)
theorem addK (hk : X.K = K := by rfl) : OpR X (binaryOp .Add) (rAddG K) := by subst hk; exact op_addG
theorem eqK (hu : X.A.units + 64 < cLine) (hk : X.K = K := by rfl) : OpR X (compareOp .Eq) (rEqG K) := by subst hk; exact op_eqG hu
theorem neK (hu : X.A.units + 64 < cLine) (hk : X.K = K := by rfl) : OpR X (compareOp .NotEq) (rNeG K) := by subst hk; exact op_neG hu
theorem inK (hu : X.A.units + 65 < cLine) (hk : X.K = K := by rfl) : OpR X (compareOp .In) (rInG K) := by subst hk; exact op_inG hu
theorem notInK (hu : X.A.units + 65 < cLine) (hk : X.K = K := by rfl) : OpR X (compareOp .NotIn) (rNotInG K) := by subst hk; exact op_notInG hu
theorem ixK (hk : X.K = K := by rfl) : IxR X (rIx K) := by subst hk; exact ix_seq
theorem slK (hk : X.K = K := by rfl) : SlR X (rSlG K) := by subst hk; exact sl_G
theorem lenK (hk : X.K = K := by rfl) : CallR X (.builtin "len") (fun xs H Q => ∃ p ys, xs = [.ref p] ∧ (SqL K H p ys ∨ SqT K H p ys) ∧ Q (.int ys.length) H) := by subst hk; exact call_len_seq
theorem tupleK (hk : X.K = K := by rfl) : CallR X (.type "tuple") (fun xs H Q => ∃ p ys, xs = [.ref p] ∧ ((SqL K H p ys ∧ ∀ l, H l = none → Q (.ref l) (upd H l (.tup ys))) ∨ (SqT K H p ys ∧ Q (.ref p) H))) := by subst hk; exact call_tuple_of
theorem listK (hk : X.K = K := by rfl) : CallR X (.type "list") (fun xs H Q => ∃ p ys, xs = [.ref p] ∧ (SqL K H p ys ∨ SqT K H p ys) ∧ ∀ l, H l = none → Q (.ref l) (upd H l (.lst ys))) := by subst hk; exact call_list_of
theorem sortedK (hu : X.A.units + 64 < cLine) (hk : X.K = K := by rfl) : CallR X (.builtin "sorted") (rSortG K) := by subst hk; exact cr_sortG hu
theorem isiK (hk : X.K = K := by rfl) : CallR X (.builtin "isinstance") (rIsi K) := by subst hk; exact call_isi
theorem tgK {es : List Expr} {k : Nat} {t : TGs} {n : Nat} {pos : Pos} (hc : X.calm = true) (h : PGs X es t)
    (hn : (assignEach es X.env).length = n := by rfl) (hst : (assignEach es X.env).findIdx? (·.1) = none := by rfl) (hk : X.K = K := by rfl) : PG X (.Tuple es k pos) (gTup K n t) := by subst hk; exact pg_tup hc h hn hst
theorem seqK {tg l : Expr} {tl : TE} (hl : PE X l tl) (hk : X.K = K := by rfl) : PI X tg l (iSeq K tl) := by subst hk; exact pi_seq hl
end
end Pl

namespace Pl
open PySem PySem.Spec PyProof.Rows
open PySem.W (dataLe dataLt keyToks keyToksAll rowLt alike alikeAll)
/-! ### lots: rows of naturals; sorting them -/
abbrev Lot := List Nat
def nD (n : Nat) : PyData := .int (n : Int)
def lotD (l : Lot) : PyData := .tuple (l.map nD)
def ltN : Lot → Lot → Bool
  | [], [] => false
  | [], _ :: _ => true
  | _ :: _, [] => false
  | x :: xs, y :: ys => bif Nat.beq x y then ltN xs ys else Nat.blt x y
theorem ltN_cons (x y : Nat) (xs ys : Lot) : ltN (x :: xs) (y :: ys) = if x = y then ltN xs ys else decide (x < y) := by
  show (bif Nat.beq x y then ltN xs ys else Nat.blt x y) = _
  by_cases h : x = y
  · subst h
    rw [if_pos rfl]
    have : Nat.beq x x = true := Nat.beq_refl x
    rw [this]
    rfl
  · rw [if_neg h]
    have : Nat.beq x y = false := by
      cases e : Nat.beq x y with
      | false => rfl
      | true => exact absurd (Nat.eq_of_beq_eq_true e) h
    rw [this]
    show Nat.blt x y = _
    cases e : Nat.blt x y with
    | true =>
      have : x < y := by simpa [Nat.blt_eq] using e
      exact (decide_eq_true this).symm
    | false =>
      have : ¬ x < y := fun z => by
        have := (Nat.blt_eq (x := x) (y := y)).mpr z
        rw [e] at this
        cases this
      exact (decide_eq_false this).symm
theorem rowLt_lot : ∀ xs ys : Lot, rowLt (xs.map nD) (ys.map nD) = ltN xs ys
  | [], [] => lex_irrefl _
  | [], y :: ys => by
    show rowLt [] (PyData.int y :: ys.map nD) = true
    unfold rowLt
    rw [PySem.W.toks_all_cons]
    simp only [keyToksAll]
    rw [lex_diff (O := itemOrd) (by simp)]
    rfl
  | x :: xs, [] => by
    show rowLt (PyData.int x :: xs.map nD) [] = false
    unfold rowLt
    rw [PySem.W.toks_all_cons]
    simp only [keyToksAll]
    rw [lex_diff (O := itemOrd) (by simp)]
    rfl
  | x :: xs, y :: ys => by
    have e : rowLt (PyData.int x :: xs.map nD) (PyData.int y :: ys.map nD) = if (x : Int) = y then rowLt (xs.map nD) (ys.map nD) else decide ((x : Int) < y) := by
      unfold rowLt
      rw [PySem.W.dataLt_cons (by simp [alike]), PySem.W.dataLt_int]
      simp only [PyData.eqv, beq_iff_eq]
    show rowLt (PyData.int x :: xs.map nD) (PyData.int y :: ys.map nD) = _
    rw [e, ltN_cons, rowLt_lot xs ys]
    by_cases h : x = y
    · rw [if_pos h, if_pos (by omega)]
    · rw [if_neg h, if_neg (by omega)]
      congr 1
      simp
theorem dataLt_lot (a b : Lot) : dataLt (lotD a) (lotD b) = ltN a b := (PySem.W.dataLt_tuple _ _).trans (rowLt_lot a b)
def leL (a b : Lot) : Bool := !ltN b a
def ltK (a b : Lot) : Bool := bif Nat.beq a.length b.length then ltN a b else Nat.blt a.length b.length
def leK (a b : Lot) : Bool := !ltK b a
theorem dataLe_lot (a b : Lot) : dataLe false id (lotD a) (lotD b) = leL a b := by
  rw [PySem.W.dataLe_eq]
  show (!dataLt (lotD b) (lotD a)) = _
  rw [dataLt_lot]
  rfl
theorem alike_nat : ∀ xs ys : Lot, alikeAll (xs.map nD) (ys.map nD) = true
  | [], _ => by simp [alikeAll]
  | _ :: _, [] => by simp [alikeAll]
  | x :: xs, y :: ys => by
    show alikeAll (.int x :: xs.map nD) (.int y :: ys.map nD) = true
    rw [alikeAll, alike_nat xs ys]
    simp [alike]
theorem eqv_nat : ∀ xs ys : Lot, PyData.eqv (lotD xs) (lotD ys) = decide (xs = ys) := by
  have key : ∀ xs ys : Lot, PyData.eqvAll (xs.map nD) (ys.map nD) = decide (xs = ys) := by
    intro xs
    induction xs with
    | nil => intro ys; cases ys <;> simp [PyData.eqvAll]
    | cons x xs ih =>
      intro ys
      cases ys with
      | nil => simp [PyData.eqvAll]
      | cons y ys =>
        show PyData.eqvAll (.int x :: xs.map nD) (.int y :: ys.map nD) = _
        rw [PyData.eqvAll, ih]
        simp only [PyData.eqv]
        by_cases h : x = y
        · simp [h]
        · have : ¬ ((x : Int) = y) := by omega
          simp [h, this]
  intro xs ys
  show PyData.eqv (.tuple _) (.tuple _) = _
  simp only [PyData.eqv]
  exact key xs ys
theorem dataLe_key (a b : Lot) : dataLe false keyOf (lotD a) (lotD b) = leK a b := by
  rw [PySem.W.dataLe_eq]
  show (!dataLt (keyOf (lotD b)) (keyOf (lotD a))) = _
  have e : ∀ c : Lot, keyOf (lotD c) = .tuple [.int (c.length : Nat), lotD c] := fun c => by
    show PyData.tuple [.int ((c.map nD).length : Nat), _] = _
    rw [List.length_map]
    rfl
  rw [e, e, PySem.W.dataLt_pair (by simp [alike]) (by show alikeAll _ _ = true; exact alike_nat b a)]
  unfold leK
  congr 1
  unfold ltK
  simp only [PyData.eqv, beq_iff_eq, PySem.W.dataLt_int, dataLt_lot, eqv_nat]
  by_cases h : b.length = a.length
  · rw [if_pos (by omega)]
    have : Nat.beq b.length a.length = true := by rw [h]; exact Nat.beq_refl _
    rw [this]
    by_cases h2 : b = a
    · subst h2
      simp
      rw [← dataLt_lot]
      exact (show dataLt (lotD b) (lotD b) = false from lex_irrefl _)
    · simp [h2]
  · rw [if_neg (by omega)]
    have : Nat.beq b.length a.length = false := by
      cases e : Nat.beq b.length a.length with
      | false => rfl
      | true => exact absurd (Nat.eq_of_beq_eq_true e) h
    rw [this]
    show decide _ = Nat.blt b.length a.length
    cases e : Nat.blt b.length a.length with
    | true =>
      have : b.length < a.length := by simpa [Nat.blt_eq] using e
      exact decide_eq_true (by omega)
    | false =>
      have : ¬ b.length < a.length := fun z => by
        have := (Nat.blt_eq (x := b.length) (y := a.length)).mpr z
        rw [e] at this
        cases this
      exact decide_eq_false (by omega)
theorem ltN_anti : ∀ {a b : Lot}, ltN a b = false → ltN b a = false → a = b
  | [], [], _, _ => rfl
  | [], y :: ys, h, _ => by cases h
  | x :: xs, [], _, h => by cases h
  | x :: xs, y :: ys, h1, h2 => by
    rw [ltN_cons] at h1 h2
    by_cases h : x = y
    · rw [if_pos h] at h1
      rw [if_pos h.symm] at h2
      rw [h, ltN_anti h1 h2]
    · rw [if_neg h] at h1
      rw [if_neg fun z => h z.symm] at h2
      have := of_decide_eq_false h1
      have := of_decide_eq_false h2
      omega
theorem leL_anti {a b : Lot} (h1 : leL a b = true) (h2 : leL b a = true) : a = b := by
  unfold leL at h1 h2
  rw [Bool.not_eq_true'] at h1 h2
  exact ltN_anti h2 h1
theorem leK_anti {a b : Lot} (h1 : leK a b = true) (h2 : leK b a = true) : a = b := by
  unfold leK ltK at h1 h2
  rw [Bool.not_eq_true'] at h1 h2
  cases e : Nat.beq a.length b.length with
  | true =>
    have e' : Nat.beq b.length a.length = true := by rw [Nat.eq_of_beq_eq_true e]; exact Nat.beq_refl _
    rw [e'] at h1
    rw [e] at h2
    exact ltN_anti h2 h1
  | false =>
    have e' : Nat.beq b.length a.length = false := by
      cases q : Nat.beq b.length a.length with
      | false => rfl
      | true =>
        rw [Nat.eq_of_beq_eq_true q, Nat.beq_refl] at e
        cases e
    rw [e'] at h1
    rw [e] at h2
    have a1 : ¬ b.length < a.length := fun z => by
      have := (Nat.blt_eq (x := b.length) (y := a.length)).mpr z
      rw [show Nat.blt b.length a.length = false from h1] at this
      cases this
    have a2 : ¬ a.length < b.length := fun z => by
      have := (Nat.blt_eq (x := a.length) (y := b.length)).mpr z
      rw [show Nat.blt a.length b.length = false from h2] at this
      cases this
    have : a.length = b.length := by omega
    rw [this, Nat.beq_refl] at e
    cases e
structure Ord {α : Type} (le : α → α → Bool) : Prop where
  total : ∀ a b, (le a b || le b a) = true
  trans : ∀ a b c, le a b = true → le b c = true → le a c = true
  anti : ∀ a b, le a b = true → le b a = true → a = b
theorem ord_data {k : PyData → PyData} : (∀ a b, (dataLe false k a b || dataLe false k b a) = true) ∧ ∀ a b c, dataLe false k a b = true → dataLe false k b c = true → dataLe false k a c = true := by
  have t := PySem.W.sortLe_total (listOrd itemOrd) false fun b => keyToks (k b)
  exact ⟨fun a b => by rw [Bool.or_eq_true]; exact t.total a b, fun a b c h1 h2 => t.trans a b c h1 h2⟩
theorem ord_leL : Ord leL := ⟨fun a b => by rw [← dataLe_lot, ← dataLe_lot]; exact ord_data.1 _ _, fun a b c h1 h2 => by rw [← dataLe_lot] at *; exact ord_data.2 _ _ _ h1 h2, fun a b => leL_anti⟩
theorem ord_leK : Ord leK := ⟨fun a b => by rw [← dataLe_key, ← dataLe_key]; exact ord_data.1 _ _, fun a b c h1 h2 => by rw [← dataLe_key] at *; exact ord_data.2 _ _ _ h1 h2, fun a b => leK_anti⟩
theorem ord_nat : Ord Nat.ble := ⟨fun a b => by rw [Bool.or_eq_true, Nat.ble_eq, Nat.ble_eq]; omega, fun a b c h1 h2 => by rw [Nat.ble_eq] at *; omega, fun a b h1 h2 => by rw [Nat.ble_eq] at *; omega⟩
/-! insertion -/
def ins {α : Type} (le : α → α → Bool) (x : α) : List α → List α
  | [] => [x]
  | y :: ys => bif le x y then x :: y :: ys else y :: ins le x ys
def isort {α : Type} (le : α → α → Bool) : List α → List α
  | [] => []
  | x :: xs => ins le x (isort le xs)
section
variable {α : Type} {le : α → α → Bool}
theorem ins_perm (x : α) : ∀ l : List α, (ins le x l).Perm (x :: l)
  | [] => List.Perm.refl _
  | y :: ys => by
    unfold ins
    cases le x y with
    | true => exact List.Perm.refl _
    | false => exact ((ins_perm x ys).cons y).trans (List.Perm.swap x y ys)
theorem isort_perm : ∀ l : List α, (isort le l).Perm l
  | [] => List.Perm.refl _
  | x :: xs => (ins_perm x _).trans ((isort_perm xs).cons x)
theorem ins_sorted (O : Ord le) (x : α) : ∀ l : List α, l.Pairwise (fun a b => le a b = true) → (ins le x l).Pairwise fun a b => le a b = true
  | [], _ => List.pairwise_singleton _ _
  | y :: ys, h => by
    unfold ins
    obtain ⟨h1, h2⟩ := List.pairwise_cons.mp h
    cases e : le x y with
    | true => exact List.pairwise_cons.mpr ⟨fun z hz => (List.mem_cons.mp hz).elim (fun q => q ▸ e) fun q => O.trans _ _ _ e (h1 z q), h⟩
    | false =>
      refine List.pairwise_cons.mpr ⟨fun z hz => ?_, ins_sorted O x ys h2⟩
      rcases List.mem_cons.mp ((ins_perm x ys).mem_iff.mp hz) with q | q
      · subst q
        have := O.total z y
        rw [e, Bool.false_or] at this
        exact this
      · exact h1 z q
theorem isort_sorted (O : Ord le) : ∀ l : List α, (isort le l).Pairwise fun a b => le a b = true
  | [] => List.Pairwise.nil
  | x :: xs => ins_sorted O x _ (isort_sorted O xs)
theorem isort_eq (O : Ord le) (l : List α) : l.mergeSort le = isort le l :=
  List.Perm.eq_of_pairwise (fun a b _ _ h1 h2 => O.anti a b h1 h2) (List.pairwise_mergeSort O.trans O.total l) (isort_sorted O l) ((List.mergeSort_perm l le).trans (isort_perm l).symm)
theorem sorted_uniq (O : Ord le) {l m : List α} (h1 : l.Pairwise fun a b => le a b = true) (h2 : m.Pairwise fun a b => le a b = true) (p : l.Perm m) : l = m := List.Perm.eq_of_pairwise (fun a b _ _ h1 h2 => O.anti a b h1 h2) h1 h2 p
theorem isort_id (O : Ord le) {l : List α} (h : l.Pairwise fun a b => le a b = true) : isort le l = l := sorted_uniq O (isort_sorted O l) h (isort_perm l)
end
theorem sort_lots (l : List Lot) : sortD (l.map lotD) = (isort leL l).map lotD := by
  unfold sortD
  rw [← PySem.W.sort_maps lotD (r := leL) fun a _ b _ => (dataLe_lot a b).symm, isort_eq ord_leL]
theorem keyed_lots (l : List Lot) : keyedD (l.map lotD) = (isort leK l).map lotD := by
  unfold keyedD
  rw [← PySem.W.sort_maps lotD (r := leK) fun a _ b _ => (dataLe_key a b).symm, isort_eq ord_leK]
theorem sort_nats (l : List Nat) : sortD (l.map nD) = (isort Nat.ble l).map nD := by
  unfold sortD
  rw [← PySem.W.sort_maps nD (r := Nat.ble) fun a _ b _ => ?_, isort_eq ord_nat]
  rw [PySem.W.dataLe_eq]
  show Nat.ble a b = !dataLt (.int b) (.int a)
  rw [PySem.W.dataLt_int]
  cases e : Nat.ble a b with
  | true =>
    have := Nat.le_of_ble_eq_true e
    rw [decide_eq_false (by omega)]
    rfl
  | false =>
    have : ¬ a ≤ b := fun z => by
      rw [Nat.ble_eq.mpr z] at e
      cases e
    rw [decide_eq_true (by omega)]
    rfl
end Pl

namespace Pl
open PySem PySem.Spec PyProof.Rows L2
/-! ### a comprehension over a list of one's own: it is held while the comprehension runs -/
def WOkP (K : PySem.W.Frag) (J : It) (Pr Hf : Hp) (items : List PyData) : Prop := ∀ Hf1 H i, Same Hf Hf1 → Same Hf1 H → Same Pr H →
  (items.length ≤ i → J.stop i H) ∧ ∀ d, items[i]? = some d → J.go i H ∧ ∀ x H', J.yld i H x H' → ∃ Hf', Gro H Hf1 Hf' ∧ Same Hf' H' ∧ Same H H' ∧ Dp K Hf' x d
section
variable {c : Cn}
theorem lc_rest {is vs : List Nat} {g : TG} {sto : Sto} {tt : TT} {ft : En → RM Bool} {te : TE} {fe : En → RM Rv} {items : List PyData} {J : It} {Pr Hf1 H1 : Hp} {σ : L2.St} {ρ1 : En} {Q : VK} (hg : GOk c.K c.vs0 is g sto) (hs : ∀ σ σ', But is σ σ' → But vs σ σ')
    (ht : JT c.q tt ft) (he : JE c.q te fe) (S1 : Sta c.K c.vs0 Pr Hf1 H1 σ ρ1) (wk' : WOkP c.K J Pr Hf1 items)
    (h1 : Good c (relV c.K) Pr Hf1 σ Q (ck (noOwn ρ1 vs && few items) (match lcL sto ft fe vs items [] (wipeE ρ1 vs) with
      | some (.ok (acc, ρ2)) => some (.ok (.nw acc, unw ρ1 ρ2 vs))
      | _ => none))) : (fun R => tLc (fun _ H R => R J H) g tt te vs σ H1 R) Q := by
  obtain ⟨hck, h2⟩ := h1.ck
  rw [Bool.and_eq_true] at hck
  have hlen : items.length ≤ 100000 := of_decide_eq_true hck.2
  intro D hD
  have pD : Pr D = none := by
    cases q : Pr D with
    | none => rfl
    | some o =>
      rw [S1.pr D o q] at hD
      cases hD
  have fD : Hf1 D = none := none_back S1.fz hD
  have sp : ∀ o, Same Pr (upd Pr D o) := fun o => same_new pD
  -- what the end asks
  have goal : GC c Pr D (wipe σ vs) (fun H' => Q (.ref D) H') Hf1 (lcL sto ft fe vs items [] (wipeE ρ1 vs)) := by
    match e : lcL sto ft fe vs items [] (wipeE ρ1 vs), h2 with
    | some (.ok (acc, ρ2)), h2 =>
      intro Hf' H' xs g' S' ha hfD
      have S2 : Sta c.K c.vs0 Pr Hf' H' σ (unw ρ1 ρ2 vs) := S1.unwiped hck.1 g'.1 (S'.weaken (sp _))
      refine h2 (.ref D) Hf' H' g' S2 ⟨D, xs, rfl, hfD, pD, S'.pr D _ upd_same, ha, fun i ⟨⟨k, ds, e1⟩, e2⟩ => ?_⟩
      have S3 : Sta c.K c.vs0 (upd Pr D (.lst xs)) Hf' H' σ (unw ρ1 ρ2 vs) := by
        have S1D : Sta c.K c.vs0 (fun _ => none) Hf1 H1 σ ρ1 := S1.weaken fun _ _ z => by cases z
        have := (S1D.unwiped hck.1 g'.1 (S'.weaken (Pr := fun _ => none) fun _ _ z => by cases z))
        refine ⟨this.fz, S'.pr, fun j s es => ?_, this.dj, S'.tb, this.nf, S'.np⟩
        obtain ⟨o, q1, q2⟩ := S2.sl j s es
        refine ⟨o, q1, ?_⟩
        cases s with
        | un => trivial
        | va d => exact q2
        | ow k' ds' =>
          obtain ⟨p, ys, a1, a2, a3, a4⟩ := q2
          rcases unw_get ρ1 ρ2 vs j _ es with ⟨hj, e3⟩ | ⟨hj, e3⟩ | ⟨e3, e4⟩
          · have := List.all_eq_true.mp hck.1 j hj
            rw [e3] at this
            cases this
          · obtain ⟨o', b1, b2⟩ := S'.sl j _ e3
            rw [wipe_get, if_neg hj, q1] at b1
            cases b1
            obtain ⟨p', ys', c1, c2, c3, c4⟩ := b2
            rw [a1] at c1
            cases c1
            exact ⟨p, ys, a1, a2, c3, a4⟩
          · obtain ⟨o', b1, b2⟩ := S'.sl j _ e4
            obtain ⟨p', ys', c1, c2, c3, c4⟩ := b2
            rw [wipe_get] at b1
            by_cases hj : j ∈ vs
            · rw [if_pos hj, q1] at b1
              subst c1
              cases b1
            · rw [if_neg hj, q1] at b1
              cases b1
              rw [a1] at c1
              cases c1
              exact ⟨p, ys, a1, a2, c3, a4⟩
      obtain ⟨o, q1, p, ys, q2, q3, q4, _⟩ := S3.sl i _ e1
      rw [e2] at q1
      cases q1
      cases q2
      rw [upd_same] at q4
      cases q4
  have S1' : Sta c.K c.vs0 (upd Pr D (.lst [])) Hf1 (upd H1 D (.lst [])) (wipe σ vs) (wipeE ρ1 vs) := by
    have w := S1.wiped vs
    refine ⟨w.fz.trans (same_new hD), fun b u e => ?_, fun i s e => ?_, w.dj, w.tb.ext (same_new hD), w.nf, w.np.upd⟩
    · by_cases hb : b = D
      · subst hb
        rw [upd_same] at e ⊢
        exact e
      · rw [upd_ne hb] at e ⊢
        exact w.pr b u e
    · obtain ⟨o, e1, e2⟩ := w.sl i s e
      refine ⟨o, e1, ?_⟩
      cases s with
      | un => trivial
      | va d => exact e2
      | ow k ds =>
        obtain ⟨p, xs, a1, a2, a3, a4, a5⟩ := e2
        have hp : p ≠ D := ne_of_none a4 hD
        exact ⟨p, xs, a1, a2, by rw [upd_ne hp]; exact a3, by rw [upd_ne hp]; exact a4, a5⟩
  refine ⟨fun i m H' => m = items.length - i ∧ i ≤ items.length ∧ ∃ Hf' ρ' acc xs, Gro Pr Hf1 Hf' ∧ Sta c.K c.vs0 (upd Pr D (.lst xs)) Hf' H' (wipe σ vs) ρ' ∧ DpAll c.K Hf' xs acc ∧ Hf' D = none ∧ acc.length ≤ i ∧
      GC c Pr D (wipe σ vs) (fun H' => Q (.ref D) H') Hf' (lcL sto ft fe vs (items.drop i) acc ρ'),
    ⟨items.length, by omega, Nat.zero_le _, Hf1, _, [], [], Gro.refl _ _, S1', .nil, fD, Nat.le_refl _, goal⟩, ?_⟩
  rintro i m H2 ⟨rfl, hle, Hf2, ρ2, acc, xs, g2, S2, ha, hfD, hal, h3⟩
  by_cases hlt : i < items.length
  · have ed : items[i]? = some items[i] := List.getElem?_eq_getElem hlt
    rw [List.drop_eq_getElem_cons hlt] at h3
    unfold lcL at h3
    obtain ⟨go, yd⟩ := (wk' Hf2 H2 i g2.1 S2.fz ((sp _).trans S2.pr)).2 _ ed
    cases q : sto items[i] ρ2 with
    | none => rw [q] at h3; exact h3.elim
    | some ρ3 =>
      rw [q] at h3
      dsimp only at h3
      refine .inr ⟨go, fun H' => ∃ Hf' ρ' acc xs, Gro Pr Hf1 Hf' ∧ Sta c.K c.vs0 (upd Pr D (.lst xs)) Hf' H' (wipe σ vs) ρ' ∧ DpAll c.K Hf' xs acc ∧ Hf' D = none ∧ acc.length ≤ i + 1 ∧
        GC c Pr D (wipe σ vs) (fun H' => Q (.ref D) H') Hf' (lcL sto ft fe vs (items.drop (i + 1)) acc ρ'), fun H' ⟨Hf', ρ', acc', xs', a1, a2, a3, a4, a5, a6⟩ => ⟨items.length - (i + 1), by omega, rfl, hlt, Hf', ρ', acc', xs', a1, a2, a3, a4, a5, a6⟩, fun x H3 y => ?_⟩
      obtain ⟨Hf3, g3, f3, s3, dx⟩ := yd x H3 y
      have S3 := S2.grow g3 f3 s3
      have g3' : Gro (upd Pr D (.lst xs)) Hf2 Hf3 := S2.groPr g3
      have g3p : Gro Pr Hf2 Hf3 := g3'.weak (sp _)
      have hfD3 : Hf3 D = none := g3'.2.1 D _ upd_same hfD
      refine hg x _ _ H3 _ Hf3 ρ2 ρ3 _ S3 dx q fun σ4 S4 b4 => ?_
      have b4' : wipe σ4 vs = wipe σ vs := (But.wipe vs σ).trans (hs _ _ b4)
      refine ⟨b4', ht σ4 H3 _ Hf3 ρ3 _ S4 ?_⟩
      have h4 := GC.mono g3p h3
      match et : ft ρ3, h4 with
      | some (.ok (false, ρ5)), h4 =>
        intro b Hf5 H5 g5 S5 eb
        cases (show b = false from eb)
        have h5 := GC.mono (g5.weak (sp _)) h4
        refine iteF ⟨Hf5, _, acc, xs, (g2.trans g3p).trans (g5.weak (sp _)), ?_, dpa_mono (g3.1.trans g5.1) _ _ ha, g5.2.1 D _ upd_same hfD3, Nat.le_succ_of_le hal, h5⟩
        have := S5.wiped vs
        rw [b4'] at this
        exact this
      | some (.ok (true, ρ5)), h4 =>
        intro b Hf5 H5 g5 S5 eb
        cases (show b = true from eb)
        have h5 := GC.mono (g5.weak (sp _)) h4
        have hfD5 : Hf5 D = none := g5.2.1 D _ upd_same hfD3
        dsimp only at h5
        refine iteT (he σ4 H5 _ Hf5 ρ5 _ S5 ?_)
        cases ee : fe ρ5 with
        | none => rw [ee] at h5; exact h5.elim
        | some q5 =>
          cases q5 with
          | error x5 => rw [ee] at h5; exact h5.elim
          | ok q5 =>
            obtain ⟨r, ρ6⟩ := q5
            rw [ee] at h5
            dsimp only at h5
            intro z Hf6 H6 g6 S6 rz
            have h6 := GC.mono (g6.weak (sp _)) h5
            cases ef : fzR r ρ6 with
            | none => rw [ef] at h6; exact h6.elim
            | some q6 =>
              cases q6 with
              | error x6 => rw [ef] at h6; exact h6.elim
              | ok q6 =>
                obtain ⟨d, ρ7⟩ := q6
                rw [ef] at h6
                dsimp only at h6
                obtain ⟨Hf7, g7, S7, dz⟩ := S6.fzr rz ef
                have h7 := GC.mono (g7.weak (sp _)) h6
                have hfD7 : Hf7 D = none := g7.2.1 D _ upd_same (g6.2.1 D _ upd_same hfD5)
                have hl : xs.length = acc.length := dpa_len ha
                refine ⟨xs, S7.pr D _ upd_same, by rw [hl]; exact Nat.lt_of_le_of_lt (Nat.le_trans hal (Nat.le_trans (Nat.le_of_lt hlt) hlen)) (by decide), Hf7, _, acc ++ [d], xs ++ [z],
                  (((g2.trans g3p).trans (g5.weak (sp _))).trans (g6.weak (sp _))).trans (g7.weak (sp _)), ?_, dpa_app (dpa_mono (((g3.1.trans g5.1).trans g6.1).trans g7.1) _ _ ha) (.cons dz .nil), hfD7, by rw [List.length_append]; exact Nat.succ_le_succ hal, h7⟩
                have w := S7.wiped vs
                rw [b4'] at w
                exact w.bump hfD7
  · have ei : i = items.length := by omega
    rw [List.drop_eq_nil_of_le (by omega)] at h3
    exact .inl ⟨(wk' Hf2 H2 i g2.1 S2.fz ((sp _).trans S2.pr)).1 (by omega), h3 Hf2 H2 xs (Gro.refl _ _) S2 ha hfD⟩


def lcOM (i : Nat) (sto : Sto) (test : En → RM Bool) (elt : En → RM Rv) (vs : List Nat) : En → RM Rv := fun ρ => match ρ[i]? with
  | some (.ow k ds) => ck (noOwn (ρ.set i .un) vs && few ds) (match lcL sto test elt vs ds [] (wipeE (ρ.set i .un) vs) with
    | some (.ok (acc, ρ2)) => some (.ok (.nw acc, (unw (ρ.set i .un) ρ2 vs).set i (.ow k ds)))
    | _ => none)
  | _ => lcM (seqM (varM i)) sto test elt vs ρ
theorem je_lcO {i : Nat} {is vs : List Nat} {g : TG} {sto : Sto} {tt : TT} {ft : En → RM Bool} {te : TE} {fe : En → RM Rv} (hg : GOk c.K c.vs0 is g sto) (hs : ∀ σ σ', But is σ σ' → But vs σ σ')
    (ht : JT c.q tt ft) (he : JE c.q te fe) : JE c (tLc (iSeq c.K (tVar i)) g tt te vs) (lcOM i sto ft fe vs) := by
  intro σ H Pr Hf ρ Q S h
  unfold lcOM at h
  match e : ρ[i]?, h with
  | some .un, h => exact je_lc (ji_seq je_var) hg hs ht he σ H Pr Hf ρ Q S h
  | some (.va _), h => exact je_lc (ji_seq je_var) hg hs ht he σ H Pr Hf ρ Q S h
  | none, h => exact je_lc (ji_seq je_var) hg hs ht he σ H Pr Hf ρ Q S h
  | some (.ow k ds), h =>
    obtain ⟨o, e1, p, xs, rfl, h1, h2, h3, h4, h5⟩ := S.sl i _ e
    refine ⟨.ref p, e1, p, xs, rfl, .inl ⟨.inl (.inl h3), ?_⟩⟩
    have sp : Same Pr (upd Pr p (.lst xs)) := same_new h2
    have ne : ∀ (j k' : Nat) (es : List PyData), (ρ.set i .un)[j]? = some (.ow k' es) → j ≠ i ∧ ρ[j]? = some (.ow k' es) := fun j k' es ej => by
      by_cases hj : i = j
      · subst hj
        rw [get_set_eq e] at ej
        cases ej
      · rw [List.getElem?_set_ne hj] at ej
        exact ⟨fun z => hj z.symm, ej⟩
    have S2 : Sta c.K c.vs0 (upd Pr p (.lst xs)) Hf H σ (ρ.set i .un) := by
      refine ⟨S.fz, fun b u eb => ?_, fun j s ej => ?_, fun a b q ha hb => ?_, S.tb, S.nf, S.np.upd⟩
      · by_cases q : b = p
        · subst q
          rw [upd_same] at eb
          rw [h3]
          exact eb
        · rw [upd_ne q] at eb
          exact S.pr b u eb
      · by_cases hj : i = j
        · subst hj
          rw [get_set_eq e] at ej
          cases ej
          exact ⟨_, e1, trivial⟩
        · rw [List.getElem?_set_ne hj] at ej
          obtain ⟨o, q1, q2⟩ := S.sl j s ej
          refine ⟨o, q1, ?_⟩
          cases s with
          | un => trivial
          | va d => exact q2
          | ow k' es =>
            obtain ⟨q, ys, a1, a2, a3, a4⟩ := q2
            have nq : q ≠ p := fun z => hj (S.dj i j p ⟨⟨k, ds, e⟩, e1⟩ ⟨⟨k', es, ej⟩, by rw [q1, a1, z]⟩)
            exact ⟨q, ys, a1, a2, by rw [upd_ne nq]; exact a3, a4⟩
      · obtain ⟨⟨ka, da, ea⟩, ea2⟩ := ha
        obtain ⟨⟨kb, db, eb⟩, eb2⟩ := hb
        exact S.dj a b q ⟨⟨ka, da, (ne a ka da ea).2⟩, ea2⟩ ⟨⟨kb, db, (ne b kb db eb).2⟩, eb2⟩
    refine lc_rest (J := Itl c.K p) (items := ds) hg hs ht he S2 ?_ ?_
    · intro Hf1 H2 j s1 s2 s3
      have hq : SqL c.K H2 p xs := .inl (.inl (s3 p _ upd_same))
      refine ⟨fun hj => ⟨xs, hq, by rw [dpa_len h4]; exact hj⟩, fun d hd => ?_⟩
      obtain ⟨v, ev, hv⟩ := dpa_get' h4 hd
      refine ⟨⟨xs, v, hq, ev⟩, fun x H' y => ?_⟩
      obtain ⟨y1, y2⟩ := y
      subst y1
      have y3 := y2 xs hq
      rw [ev] at y3
      cases y3
      exact ⟨Hf1, Gro.refl _ _, s2, Same.refl _, dp_mono s1 _ _ hv⟩
    · cases hc : noOwn (ρ.set i .un) vs && few ds with
      | false => simp only [hc] at h; exact h.elim
      | true =>
        simp only [hc] at h ⊢
        match el : lcL sto ft fe vs ds [] (wipeE (ρ.set i .un) vs), h with
        | some (.ok (acc, ρ2)), h =>
          intro v Hf' H' g' S' rv
          obtain ⟨q, ys, rfl, r1, r2, r3, r4, r5⟩ := rv
          have hp' : H' p = some (.lst xs) := S'.pr p _ upd_same
          have hf' : Hf' p = none := g'.2.1 p _ upd_same h1
          have nqp : q ≠ p := fun z => by
            rw [z, upd_same] at r2
            cases r2
          rw [upd_ne nqp] at r2
          have SW := S'.weaken sp
          -- the slot is given back
          have own : ∀ (j : Nat) (b : Addr), Own σ ((unw (ρ.set i .un) ρ2 vs).set i (.ow k ds)) j b → (j = i ∧ b = p) ∨ (j ≠ i ∧ b ≠ p ∧ Own σ (unw (ρ.set i .un) ρ2 vs) j b) := fun j b ⟨⟨k', es, w1⟩, w2⟩ => by
            by_cases hj : i = j
            · subst hj
              rw [e1] at w2
              cases w2
              exact .inl ⟨rfl, rfl⟩
            · rw [List.getElem?_set_ne hj] at w1
              obtain ⟨o, q1, b', zs, q2, _, q3, _⟩ := S'.sl j _ w1
              rw [w2] at q1
              cases q1
              cases q2
              refine .inr ⟨fun z => hj z.symm, fun z => ?_, ⟨k', es, w1⟩, w2⟩
              rw [z, upd_same] at q3
              cases q3
          have S3 : Sta c.K c.vs0 Pr Hf' H' σ ((unw (ρ.set i .un) ρ2 vs).set i (.ow k ds)) := by
            refine ⟨SW.fz, SW.pr, fun j s ej => ?_, fun a b z ha hb => ?_, SW.tb, SW.nf, SW.np⟩
            · by_cases hj : i = j
              · subst hj
                rw [List.getElem?_set_self'] at ej
                cases w : (unw (ρ.set i .un) ρ2 vs)[i]? with
                | none => rw [w] at ej; cases ej
                | some t =>
                  rw [w] at ej
                  cases ej
                  exact ⟨_, e1, p, xs, rfl, hf', h2, hp', dpa_mono g'.1 _ _ h4, h5⟩
              · rw [List.getElem?_set_ne hj] at ej
                exact SW.sl j s ej
            · rcases own a z ha with ⟨a1, a2⟩ | ⟨a1, a2, a3⟩
              · rcases own b z hb with ⟨b1, b2⟩ | ⟨b1, b2, b3⟩
                · rw [a1, b1]
                · exact absurd a2 b2
              · rcases own b z hb with ⟨b1, b2⟩ | ⟨b1, b2, b3⟩
                · exact absurd b2 a2
                · exact SW.dj a b z a3 b3
          refine h (.ref q) Hf' H' (g'.weak sp) S3 ⟨q, ys, rfl, r1, r2, r3, r4, fun j hj => ?_⟩
          rcases own j q hj with ⟨a1, a2⟩ | ⟨a1, a2, a3⟩
          · exact nqp a2
          · exact r5 j a3
end
end Pl

namespace Pl
open PySem PySem.Spec PyProof.Rows L2
/-! ### reading the functions -/
theorem runDef_rt {n m : Nat} {f : En → RM Ot} {as ρ o : En} {r r' : Rv} (hn : as.length = n) (h : f (as ++ List.replicate m .un) = some (.ok (.rt r, ρ))) (h1 : resOf ρ r = some r') (h2 : outs ρ as 0 = some o) : runDef n m f as = some (.ok (r', o)) := by
  unfold runDef
  rw [decide_eq_true hn, h]
  simp only [ck, h1, h2]
theorem runDef_nx {n m : Nat} {f : En → RM Ot} {as ρ o : En} (hn : as.length = n) (h : f (as ++ List.replicate m .un) = some (.ok (.nx, ρ))) (h2 : outs ρ as 0 = some o) : runDef n m f as = some (.ok (.va .none, o)) := by
  unfold runDef
  rw [decide_eq_true hn, h]
  simp only [ck, h2]
theorem lcL_map {β γ : Type} (D : β → PyData) (E : γ → PyData) {i : Nat} {test : En → RM Bool} {elt : En → RM Rv} {ρ0 : En} (p : β → Bool) (g : β → γ) (h0 : ρ0.set i .un = ρ0) : ∀ (l : List β) (acc : List γ),
    (∀ b ∈ l, test (ρ0.set i (.va (D b))) = some (.ok (p b, ρ0.set i (.va (D b)))) ∧ (p b = true → ∃ r, elt (ρ0.set i (.va (D b))) = some (.ok (r, ρ0.set i (.va (D b)))) ∧ fzR r (ρ0.set i (.va (D b))) = some (.ok (E (g b), ρ0.set i (.va (D b)))))) →
    lcL (stoN i) test elt [i] (l.map D) (acc.map E) ρ0 = some (.ok ((acc ++ (l.filter p).map g).map E, ρ0))
  | [], acc, _ => by simp [lcL]
  | b :: l, acc, h => by
    obtain ⟨h1, h2⟩ := h b List.mem_cons_self
    have ih := lcL_map D E (test := test) (elt := elt) p g h0 l
    have hw : wipeE (ρ0.set i (.va (D b))) [i] = ρ0 := by
      show (ρ0.set i (.va (D b))).set i .un = ρ0
      rw [List.set_set, h0]
    have hl : ∀ b ∈ l, _ := fun b hb => h b (List.mem_cons_of_mem _ hb)
    rw [List.map_cons]
    unfold lcL
    show (match (some (ρ0.set i (.va (D b))) : Option En) with | none => none | some ρ1 => _) = _
    simp only [h1]
    cases hp : p b with
    | false =>
      simp only [hw]
      rw [ih acc hl, List.filter_cons_of_neg (by rw [hp]; exact Bool.false_ne_true)]
    | true =>
      obtain ⟨r, h3, h4⟩ := h2 hp
      simp only [h3, h4, hw]
      have e : acc.map E ++ [E (g b)] = (acc ++ [g b]).map E := by simp
      rw [e, ih _ hl, List.filter_cons_of_pos hp]
      simp
theorem args_va {ρ : En} : ∀ (ds : List PyData) (j : Nat), argsOf ρ (ds.map Rv.va) j = some (ds.map Sl.va)
  | [], _ => rfl
  | d :: ds, j => by
    show (match argOf ρ j (.va d), argsOf ρ (ds.map Rv.va) (j + 1) with | some s, some ss => some (s :: ss) | _, _ => none) = _
    rw [args_va ds]
    rfl
theorem ows_va {ρ : En} : ∀ ds : List PyData, owsOf ρ (ds.map Rv.va) = []
  | [] => rfl
  | d :: ds => ows_va ds
theorem back_va {ρ : En} : ∀ ds : List PyData, back ρ (ds.map Rv.va) (ds.map Sl.va) = some ρ
  | [] => rfl
  | d :: ds => by
    show back ρ (ds.map Rv.va) (ds.map Sl.va) = some ρ
    exact back_va ds
theorem callM_va {G : En → RM Rv} {fr : En → RM (List Rv)} {ρ ρ1 : En} {r : Rv} (ds : List PyData) (h : fr ρ = some (.ok (ds.map Rv.va, ρ1))) (hG : G (ds.map Sl.va) = some (.ok (r, ds.map Sl.va))) (hr : isSl r = false) : callM (quiet G) fr ρ = some (.ok (r, ρ1)) := by
  unfold callM
  rw [h]
  dsimp only [RM.bnd]
  rw [args_va]
  dsimp only
  rw [ows_va, decide_eq_true List.nodup_nil]
  dsimp only [ck]
  unfold quiet
  rw [hG]
  dsimp only
  rw [hr, back_va]
  rfl
/-- the first argument a list of one's own, that is not changed -/
theorem callM_ow {G : En → RM Rv} {fr : En → RM (List Rv)} {ρ ρ1 : En} {r : Rv} {i k : Nat} {es : List PyData} (ds : List PyData) (h : fr ρ = some (.ok (.sl i :: ds.map Rv.va, ρ1))) (hi : ρ1[i]? = some (.ow k es)) (hG : G (.ow 1 es :: ds.map Sl.va) = some (.ok (r, .ow 1 es :: ds.map Sl.va))) (hr : isSl r = false) : callM (quiet G) fr ρ = some (.ok (r, ρ1)) := by
  unfold callM
  rw [h]
  dsimp only [RM.bnd]
  have e1 : argsOf ρ1 (.sl i :: ds.map Rv.va) 0 = some (.ow 1 es :: ds.map Sl.va) := by
    unfold argsOf
    rw [args_va]
    simp only [argOf, hi]
  have e2 : owsOf ρ1 (.sl i :: ds.map Rv.va) = [i] := by
    unfold owsOf
    rw [hi, ows_va]
  have e3 : back ρ1 (.sl i :: ds.map Rv.va) (.ow 1 es :: ds.map Sl.va) = some ρ1 := by
    unfold back
    rw [hi]
    dsimp only
    have hs : ρ1.set i (.ow k es) = ρ1 := by
      apply List.ext_getElem?
      intro j
      by_cases hj : i = j
      · subst hj
        rw [get_set_eq hi, hi]
      · rw [List.getElem?_set_ne hj]
    rw [hs]
    exact back_va ds
  rw [e1]
  dsimp only
  rw [e2, decide_eq_true (show [i].Nodup from List.nodup_cons.mpr ⟨by simp, List.nodup_nil⟩)]
  dsimp only [ck]
  unfold quiet
  rw [hG]
  dsimp only
  rw [hr, e3]
  rfl
theorem few_of {ds : List PyData} (h : ds.length ≤ 100000) : few ds = true := decide_eq_true h
theorem intsD_nat : ∀ l : List Nat, intsD (l.map nD) = some (l.map Int.ofNat)
  | [] => rfl
  | n :: l => by
    show (match intD (nD n), intsD (l.map nD) with | some i, some is => some (i :: is) | _, _ => none) = _
    rw [intsD_nat l]
    rfl
theorem contains_nat (n : Nat) : ∀ l : List Nat, (l.map Int.ofNat).contains (n : Int) = l.contains n
  | [] => rfl
  | m :: l => by
    rw [List.map_cons, List.contains_cons, List.contains_cons, contains_nat n l]
    congr 1
    show ((n : Int) == (m : Int)) = (n == m)
    by_cases h : n = m
    · subst h
      simp
    · have : ¬ ((n : Int) = m) := by omega
      rw [beq_eq_false_iff_ne.mpr h, beq_eq_false_iff_ne.mpr this]

/-! the small ones -/
def memN (n : Nat) (l : Lot) : Bool := l.any fun m => Nat.beq m n
theorem memN_contains (n : Nat) : ∀ l : Lot, l.contains n = memN n l
  | [] => rfl
  | m :: l => by
    rw [List.contains_cons, memN_contains n l]
    show ((n == m) || memN n l) = (Nat.beq m n || memN n l)
    congr 1
    cases e : Nat.beq m n with
    | true => rw [Nat.eq_of_beq_eq_true e]; exact beq_self_eq_true n
    | false => exact beq_eq_false_iff_ne.mpr fun z => by rw [z, Nat.beq_refl] at e; cases e
theorem in_nat (n : Nat) (l : Lot) : inG (nD n) (lotD l) = some (.va (.bool (memN n l))) := by
  have e : inF (nD n) (lotD l) = (match intsD (l.map nD) with | some is => some (is.contains (n : Int)) | none => none) := rfl
  unfold inG
  rw [e, intsD_nat]
  simp only [Option.map_some, contains_nat, memN_contains]
theorem notIn_nat (n : Nat) (l : Lot) : notInG (nD n) (lotD l) = some (.va (.bool !memN n l)) := by
  have e : inF (nD n) (lotD l) = (match intsD (l.map nD) with | some is => some (is.contains (n : Int)) | none => none) := rfl
  unfold notInG
  rw [e, intsD_nat]
  simp only [Option.map_some, contains_nat, memN_contains]
section
variable {ρ ρ1 ρ2 ρ3 : En} {f fa fb : En → RM Rv} {r z : Rv} {d e : PyData}
theorem len_of {ds : List PyData} (h : f ρ = some (.ok (.nw ds, ρ1))) : cbM lenG (consM f nilM) ρ = some (.ok (.va (.int ds.length), ρ1)) := by
  unfold cbM consM
  rw [h]
  rfl
theorem tup_of {ds : List PyData} (h : f ρ = some (.ok (.nw ds, ρ1))) : cbM tupG (consM f nilM) ρ = some (.ok (.va (.tuple ds), ρ1)) := by
  unfold cbM consM
  rw [h]
  rfl
theorem op_vv {g : PyData → PyData → Option Rv} (ha : fa ρ = some (.ok (.va d, ρ1))) (hb : fb ρ1 = some (.ok (.va e, ρ2))) (hg : g d e = some z) : opM g fa fb ρ = some (.ok (z, ρ2)) := by
  unfold opM
  rw [ha]
  dsimp only [RM.bnd]
  rw [hb]
  dsimp only [RM.bnd, lk, look]
  rw [hg]
  rfl
theorem b_va {b : Bool} (h : f ρ = some (.ok (.va (.bool b), ρ1))) : bM f ρ = some (.ok (b, ρ1)) := by
  unfold bM
  rw [h]
  rfl
theorem not_of {t : En → RM Bool} {b : Bool} (h : t ρ = some (.ok (b, ρ1))) : notM t ρ = some (.ok (!b, ρ1)) := by
  unfold notM
  rw [h]
  rfl
theorem ret_of (h : f ρ = some (.ok (r, ρ1))) : retM f ρ = some (.ok (.rt r, ρ1)) := by
  unfold retM
  rw [h]
  rfl
theorem seq_nx {s t : En → RM Ot} (h : s ρ = some (.ok (.nx, ρ1))) : sqM s t ρ = t ρ1 := by
  unfold sqM
  rw [h]
  rfl
theorem seq_rt {s t : En → RM Ot} (h : s ρ = some (.ok (.rt r, ρ1))) : sqM s t ρ = some (.ok (.rt r, ρ1)) := by
  unfold sqM
  rw [h]
  rfl
theorem if_tt {t : En → RM Bool} {a b : En → RM Ot} {k : Bool} (h : t ρ = some (.ok (k, ρ1))) : ifM t a b ρ = if k = true then a ρ1 else b ρ1 := by
  unfold ifM
  rw [h]
  cases k <;> rfl
theorem lc_va {k : Nat} {sto : Sto} {test : En → RM Bool} {elt : En → RM Rv} {vs : List Nat} {items acc : List PyData} (hk : ρ[k]? = some (.va d)) (hs : seqItems d = some items) (hl : items.length ≤ 100000) (hn : noOwn ρ vs = true) (hL : lcL sto test elt vs items [] (wipeE ρ vs) = some (.ok (acc, ρ2))) :
    lcOM k sto test elt vs ρ = some (.ok (.nw acc, unw ρ ρ2 vs)) := by
  unfold lcOM
  rw [hk]
  dsimp only
  unfold lcM seqM varM
  rw [hk]
  dsimp only [RM.bnd, fzR]
  rw [hs]
  dsimp only [ob, RM.bnd]
  rw [hn, few_of hl, hL]
  rfl
theorem lc_ow {k j : Nat} {sto : Sto} {test : En → RM Bool} {elt : En → RM Rv} {vs : List Nat} {items acc : List PyData} (hk : ρ[k]? = some (.ow j items)) (hl : items.length ≤ 100000) (hn : noOwn (ρ.set k .un) vs = true) (hL : lcL sto test elt vs items [] (wipeE (ρ.set k .un) vs) = some (.ok (acc, ρ2))) :
    lcOM k sto test elt vs ρ = some (.ok (.nw acc, (unw (ρ.set k .un) ρ2 vs).set k (.ow j items))) := by
  unfold lcOM
  rw [hk]
  dsimp only
  rw [hn, few_of hl, hL]
  rfl
end
end Pl

namespace Pl
open PySem PySem.Spec PyProof.Rows L2
open PySem.W (AllAlike alike alikeAll dataLe EachIs Sortable keyToks SortsAt dataKind list_sort_vals sortVals_length sortVals_data each_map bound_map)
/-! ### shifts, a tuple many times -/
section
variable {K : PySem.W.Frag}
def shlG := iopC powB fun i j => .int (i * 2 ^ j.toNat)
theorem ok_shl : OpOk K (rI CPow fun i j => V.int (i * 2 ^ j.toNat)) shlG := ok_iC (fun i j h => by
  unfold powB at h
  rw [Bool.and_eq_true, Bool.and_eq_true] at h
  have h1 := of_decide_eq_true h.1.1
  have h2 := of_decide_eq_true h.1.2
  have h3 := of_decide_eq_true h.2
  exact ⟨by omega, by omega, by omega⟩) fun i j H _ => .int _
end

section
variable {K : PySem.W.Frag}
theorem dpa_rep {H : Hp} {xs : List V} {ds : List PyData} (h : DpAll K H xs ds) : ∀ n : Nat, DpAll K H (List.replicate n xs).flatten (List.replicate n ds).flatten
  | 0 => .nil
  | n + 1 => by
    rw [List.replicate_succ, List.replicate_succ, List.flatten_cons, List.flatten_cons]
    exact dpa_app h (dpa_rep h n)
def repOk (ds : List PyData) (k : Int) : Bool := !ds.isEmpty && decide (2 ≤ k) && decide (k ≤ 1000) && decide (ds.length ≤ 1000)
def repG : PyData → PyData → Option Rv
  | .tuple ds, .int k => match repOk ds k with
    | true => some (.va (.tuple (List.replicate k.toNat ds).flatten))
    | false => none
  | _, _ => none
theorem ok_rep : OpOk K (rRepT K) repG := by
  intro Hf H x y d e z Q f dx dy hz k
  match d, e, hz with
  | .tuple ds, .int n, hz =>
    dsimp only [repG] at hz
    cases hb : repOk ds n with
    | false => rw [hb] at hz; cases hz
    | true =>
      rw [hb] at hz
      cases hz
      unfold repOk at hb
      rw [Bool.and_eq_true, Bool.and_eq_true, Bool.and_eq_true, decide_eq_true_eq, decide_eq_true_eq, decide_eq_true_eq, Bool.not_eq_true'] at hb
      obtain ⟨⟨⟨b1, b2⟩, b3⟩, b4⟩ := hb
      obtain ⟨p, xs, rfl, h1, a1⟩ := dx.tup
      refine ⟨p, n, xs, rfl, dy.int, same_t f h1, fun z => ?_, b2, b3, by rw [dpa_len a1]; exact b4, fun q hq => k.tup f hq (dpa_rep a1 _)⟩
      have := dpa_len a1
      rw [z] at this
      cases ds with
      | nil => cases b1
      | cons => cases this

/-! ### list.pop(i) -/
theorem dpa_erase {H : Hp} : ∀ {ds : List PyData} {xs : List V} (j : Nat), DpAll K H xs ds → DpAll K H (xs.eraseIdx j) (ds.eraseIdx j)
  | _, _, j, .nil => by simp; exact .nil
  | _, _, 0, .cons h1 h2 => h2
  | _, _, j + 1, .cons h1 h2 => .cons h1 (dpa_erase j h2)
end
def popM (i : Nat) (fe : En → RM Rv) : En → RM Rv := fun ρ => match ρ[i]? with
  | some (.ow _ _) => RM.bnd (fe ρ) fun r ρ1 => match intR r, ρ1[i]? with
    | some n, some (.ow k ds) => ck (few ds) (match ixN ds.length n with
      | some j => (match ds[j]? with
        | some d => some (.ok (.va d, ρ1.set i (.ow k (ds.eraseIdx j))))
        | none => none)
      | none => none)
    | _, _ => none
  | _ => none
section
variable {c : Cn} {te : TE} {fe : En → RM Rv}
theorem je_pop {i : Nat} (he : JE c te fe) : JE c (tBM c.K "list" rPopAt (tVar i) (tCons te tNil)) (popM i fe) := by
  intro σ H Pr Hf ρ Q S h
  unfold popM at h
  match e : ρ[i]?, h with
  | some (.ow k0 ds0), h =>
    obtain ⟨o, e1, p, xs, rfl, h1, h2, h3, h4, h5⟩ := S.sl i _ e
    refine ⟨.ref p, e1, .inl ⟨rfl, xs, .inl (.inl h3)⟩, ?_⟩
    show te σ H fun x H1 => _
    refine he σ H Pr Hf ρ _ S (Good.bind h fun r ρ1 _ x Hf1 H1 g1 S1 rv1 k1 => ?_)
    cases er : intR r with
    | none => simp only [er] at k1; exact k1.elim
    | some n =>
      simp only [er] at k1
      match e' : ρ1[i]?, k1 with
      | some (.ow k ds), k1 =>
        obtain ⟨hf, k2⟩ := Good.ck k1
        cases ej : ixN ds.length n with
        | none => simp only [ej] at k2; exact k2.elim
        | some j =>
          simp only [ej] at k2
          cases ed : ds[j]? with
          | none => simp only [ed] at k2; exact k2.elim
          | some d =>
            simp only [ed] at k2
            obtain ⟨o, f1, p', ys, f2, m1, m2, m3, m4, m5⟩ := S1.sl i _ e'
            rw [e1] at f1
            cases f1
            cases f2
            obtain ⟨v, ev, hv⟩ := dpa_get' m4 ed
            obtain ⟨q1, q2, q3, q4⟩ := ixN_seq ej
            have hl : ds.length ≤ 100000 := of_decide_eq_true hf
            refine ⟨p, ys, n, j, v, rfl, by rw [rv_int rv1 er], m3, by omega, by omega, by rw [dpa_len m4]; exact q1, ev, ?_⟩
            exact k2 v Hf1 _ (Gro.refl _ _) (S1.wr e' e1 (dpa_erase j m4)) hv
      | some .un, k1 => exact k1.elim
      | some (.va _), k1 => exact k1.elim
      | none, k1 => exact k1.elim
end

/-! ### sorted(set(xs)), xs a list of tuples of ints -/
def tupZ (k : List Int) : PyData := .tuple (k.map PyData.int)
def leZ (a b : List Int) : Bool := dataLe false id (tupZ a) (tupZ b)
theorem leZ_eq (a b : List Int) : leZ a b = !decide (b < a) := by
  unfold leZ
  rw [PySem.W.dataLe_eq]
  show (!PySem.W.dataLt (tupZ b) (tupZ a)) = _
  rw [show PySem.W.dataLt (tupZ b) (tupZ a) = PySem.W.rowLt (b.map .int) (a.map .int) from PySem.W.dataLt_tuple _ _, PySem.W.dataLt_ints]
theorem ord_leZ : Ord leZ := ⟨fun a b => ord_data.1 _ _, fun a b c => ord_data.2 _ _ _, fun a b h1 h2 => by
  rw [leZ_eq, Bool.not_eq_true', decide_eq_false_iff_not] at h1 h2
  exact List.le_antisymm h1 h2⟩
def dd {α : Type} [DecidableEq α] : List α → List α
  | [] => []
  | x :: xs => if x ∈ dd xs then dd xs else x :: dd xs
theorem dd_mem {α : Type} [DecidableEq α] (y : α) : ∀ l : List α, y ∈ dd l ↔ y ∈ l
  | [] => Iff.rfl
  | x :: xs => by
    unfold dd
    by_cases h : x ∈ dd xs
    · rw [if_pos h, dd_mem y xs]
      refine ⟨fun q => List.mem_cons_of_mem _ q, fun q => ?_⟩
      rcases List.mem_cons.mp q with rfl | q
      · exact (dd_mem _ xs).mp h
      · exact q
    · rw [if_neg h, List.mem_cons, List.mem_cons, dd_mem y xs]
theorem dd_nodup {α : Type} [DecidableEq α] : ∀ l : List α, (dd l).Nodup
  | [] => List.nodup_nil
  | x :: xs => by
    unfold dd
    by_cases h : x ∈ dd xs
    · rw [if_pos h]
      exact dd_nodup xs
    · rw [if_neg h]
      exact List.nodup_cons.mpr ⟨h, dd_nodup xs⟩
section
variable {P : Program} {w : World} {A : Around} {E : Value → Shared → Prop} {s : Shared}
abbrev pLe : Addr × List Int → Addr × List Int → Bool := dataLe false fun q => tupZ q.2
theorem sorted_setX {a : Addr} {L : List (Addr × List Int)} {es : Array (Int × Value)} {ep : Nat} {t : SetTable} {Q : Value → Shared → Prop} (R : SetTR P w s.heap a L es ep t) (hh : A.handled = none) (hu : A.units + 64 < cLine)
    (hQ : ∀ (s' : Shared) (p : Addr) (c : Nat), (∀ b o, s.heap.get? b = some o → s'.heap.get? b = some o) → s'.gens = s.gens → s'.os = s.os → s.heap.objs.size ≤ p → s'.heap.get? p = some (seqObj "list" ((L.mergeSort pLe).map fun q => Value.ref q.1).toArray c) → Q (.ref p) s') :
    wpAny (model P w) A (call (.builtin "sorted") [.ref a]) Q E s := by
  obtain ⟨o, ho, hex, hd⟩ := R.ob
  have hsz := R.size
  have hfew := R.few
  refine Calls.call_function_entry kind_sorted plain_sorted entry_sorted (args_sorted1 _) ?_
  unfold Builtin.«sorted»
  refine wpAny_bind (m := checkCount "sorted" 1 1 _) (wpAny_pure ?_)
  refine wpAny_bind (collect_set (A := A.in1) hh ⟨o, ho, hex.1, hd⟩ R.fits (by unfold scanBound; omega) R.tab.ris R.led fun s1 vs k1 hz g1 o1 pm => ?_)
  have hes : es.toList.map (·.2) = L.map fun q => Value.ref q.1 := by
    rw [R.rows]
    unfold rowsOf
    rw [List.map_map]
    rfl
  rw [hes] at pm
  have ord : ∀ vs : List Value, (∀ v ∈ vs, ∃ q ∈ L, v = Value.ref q.1) → ∃ L1 : List (Addr × List Int), vs = L1.map (fun q => Value.ref q.1) ∧ ∀ q ∈ L1, q ∈ L := by
    intro vs
    induction vs with
    | nil => exact fun _ => ⟨[], rfl, fun q hq => nomatch hq⟩
    | cons v vs ih =>
      intro hv
      obtain ⟨q, hq, e⟩ := hv v List.mem_cons_self
      obtain ⟨L1, e1, hs⟩ := ih fun u hu => hv u (List.mem_cons_of_mem _ hu)
      exact ⟨q :: L1, by rw [List.map_cons, e, e1], fun r hr => (List.mem_cons.mp hr).elim (fun z => z ▸ hq) (hs r)⟩
  have one : ∀ q ∈ L, ∀ r ∈ L, q.1 = r.1 → q = r := fun q hq r hr e => by
    have a1 := R.tup q hq
    have a2 := R.tup r hr
    rw [e] at a1
    exact Prod.ext e (a1.inj a2)
  have nL : L.Nodup := nodup_of_map R.nd
  have inj2 : ∀ q ∈ L, ∀ r ∈ L, q.2 = r.2 → q = r := fun q hq r hr e => by
    have : ∀ (M : List (Addr × List Int)), (M.map (·.2)).Nodup → q ∈ M → r ∈ M → q = r := by
      intro M
      induction M with
      | nil => exact fun _ hq => nomatch hq
      | cons x M ih =>
        intro hn hq hr
        rw [List.map_cons, List.nodup_cons] at hn
        rcases List.mem_cons.mp hq with e1 | hq1
        · rcases List.mem_cons.mp hr with e2 | hr1
          · rw [e1, e2]
          · exact absurd (show x.2 ∈ M.map (·.2) from List.mem_map.mpr ⟨r, hr1, by rw [← e, e1]⟩) hn.1
        · rcases List.mem_cons.mp hr with e2 | hr1
          · exact absurd (show x.2 ∈ M.map (·.2) from List.mem_map.mpr ⟨q, hq1, by rw [e, e2]⟩) hn.1
          · exact ih hn.2 hq1 hr1
    exact this L R.nd hq hr
  obtain ⟨L1, e1, s1m⟩ := ord vs fun v hv => by
    obtain ⟨q, hq, e⟩ := List.mem_map.mp (pm.mem_iff.mp hv)
    exact ⟨q, hq, e.symm⟩
  have p1 : L1.Perm L := by
    have pm1 : (L1.map (fun q => Value.ref q.1)).Perm (L.map fun q => Value.ref q.1) := by rw [← e1]; exact pm
    have nref : (L.map fun q => Value.ref q.1).Nodup := by
      refine List.pairwise_map.mpr (List.Pairwise.imp_of_mem (fun {q r} hq hr hne e => ?_) nL)
      injection e with e
      exact hne (one q hq r hr e)
    have n1 : L1.Nodup := nodup_of_map (pm1.nodup_iff.mpr nref)
    refine (List.perm_ext_iff_of_nodup n1 nL).mpr fun q => ⟨s1m q, fun hq => ?_⟩
    have hm : Value.ref q.1 ∈ L1.map (fun q => Value.ref q.1) := pm1.mem_iff.mpr (List.mem_map.mpr ⟨q, hq, rfl⟩)
    obtain ⟨r, hr, e⟩ := List.mem_map.mp hm
    injection e with e
    rw [← one r (s1m r hr) q hq e]
    exact hr
  have hlen1 : L1.length < 64 := by rw [p1.length_eq]; exact hfew
  have hvl : vs.length ≤ sizeLine := by rw [e1, List.length_map, sizeLine_eq]; omega
  refine wpAny_bind (wpAny_newList ?_ hvl)
  have hoL : (s1.heap.push (seqObj "list" vs.toArray 0)).get? s1.heap.objs.size = some (seqObj "list" vs.toArray 0) := Heap.get?_push_size _ rfl
  -- the tuples as data
  have rdT : ∀ (h : Heap), (∀ b o, s.heap.get? b = some o → h.get? b = some o) → ∀ q ∈ L, ∃ as, Reads h (.ref q.1) (tupZ q.2) as := fun h k q hq => by
    obtain ⟨ob, items, n, h1, h2, h3, h4⟩ := isT_keep (R.tup q hq) k
    have hi : IntsAre items.toList q.2 := ints_of_items h4
    refine ⟨[], Reads.tuple (as := []) h1 h2 h3 ?_⟩
    have : ∀ (vs : List Value) (ns : List Int), IntsAre vs ns → ReadsAll h vs (ns.map PyData.int) [] := by
      intro vs ns hh
      induction hh with
      | nil => exact .nil
      | cons n t _ ih => exact ReadsAll.cons (as := []) (bs := []) (.int _ _) ih
    exact this _ _ hi
  have eE : EachIs (fun (u : Value) (q : Addr × List Int) => u = Value.ref q.1) vs L1 := by
    rw [e1]
    have : ∀ M : List (Addr × List Int), EachIs (fun (u : Value) (q : Addr × List Int) => u = Value.ref q.1) (M.map fun q => Value.ref q.1) M := by
      intro M
      induction M with
      | nil => exact .nil
      | cons x M ih => exact .cons rfl ih
    exact this L1
  have rdE : ∀ (h : Heap), (∀ b o, s.heap.get? b = some o → h.get? b = some o) → EachIs (fun (u : Value) (q : Addr × List Int) => ∃ as, Reads h u (tupZ q.2) as) vs L1 := fun h k => by
    rw [e1]
    have : ∀ M : List (Addr × List Int), (∀ q ∈ M, q ∈ L) → EachIs (fun (u : Value) (q : Addr × List Int) => ∃ as, Reads h u (tupZ q.2) as) (M.map fun q => Value.ref q.1) M := by
      intro M
      induction M with
      | nil => exact fun _ => .nil
      | cons x M ih => exact fun hm => .cons (rdT h k x (hm x List.mem_cons_self)) (ih fun q hq => hm q (List.mem_cons_of_mem _ hq))
    exact this L1 s1m
  have hal : AllAlike (L1.map fun q => tupZ q.2) := AllAlike.of fun a b => by
    show alikeAll _ _ = true
    exact PySem.W.alike_ints _ _
  have up : ∀ b o, s.heap.get? b = some o → (PySem.W.sortingHeap (s1.heap.push (seqObj "list" vs.toArray 0)) s1.heap.objs.size vs).get? b = some o := fun b o e => by
    have q := k1 b o e
    have hlt := Heap.lt_size q
    refine PySem.W.sortingHeap_old (Nat.ne_of_lt hlt) (Heap.get?_push_of_some _ q)
  have hdep : ∀ q : Addr × List Int, (tupZ q.2).depth ≤ 1 := fun q => by
    unfold tupZ
    simp [PyData.depth, PySem.W.depth_ints]
  have S : SortsAt P w A.in1.in1 { s1 with heap := PySem.W.sortingHeap (s1.heap.push (seqObj "list" vs.toArray 0)) s1.heap.objs.size vs } (dataKind (PySem.W.sortingHeap (s1.heap.push (seqObj "list" vs.toArray 0)) s1.heap.objs.size vs) (L1.map fun q => tupZ q.2)) vs := by
    refine SortsAt_tups (s := { s1 with heap := PySem.W.sortingHeap (s1.heap.push (seqObj "list" vs.toArray 0)) s1.heap.objs.size vs }) (each_map (R := fun v d => ∃ as, Reads (PySem.W.sortingHeap (s1.heap.push (seqObj "list" vs.toArray 0)) s1.heap.objs.size vs) v d as) (fun q : Addr × List Int => tupZ q.2) (rdE _ up)) hal (fun d hd => ?_) fun d hd => ?_
    · obtain ⟨q, _, rfl⟩ := List.mem_map.mp hd
      exact ⟨_, rfl⟩
    · obtain ⟨q, _, rfl⟩ := List.mem_map.mp hd
      have := hdep q
      show A.units + 1 + 1 + (tupZ q.2).depth < cLine
      omega
  refine wpAny_bind (wpAny_holding (PyProof.Rows.wpAny_call_entry_kw slot_list_sort ⟨_, hoL, rfl⟩ entry_list_sort ?body (args_list_sort _)))
  case body =>
    show wpAny (model P w) A.in1.in1 (Builtin.«list.sort» ⟨[.ref s1.heap.objs.size], []⟩) _ _ { s1 with heap := s1.heap.push (seqObj "list" vs.toArray 0) }
    refine list_sort_vals (s := { s1 with heap := s1.heap.push (seqObj "list" vs.toArray 0) }) hoL S hvl ⟨_, rfl, wpAny_pure ⟨_, rfl, ?_⟩⟩
    have eo := sortVals_data false eE (rdE _ up) hal
    have eout : ∀ (us : List Value) (M : List (Addr × List Int)), EachIs (fun (u : Value) (q : Addr × List Int) => u = Value.ref q.1) us M → us = M.map fun q => Value.ref q.1 := by
      intro us M hh
      induction hh with
      | nil => rfl
      | cons h _ ih => rw [List.map_cons, h, ih]
    have eM : L1.mergeSort (dataLe false fun q => tupZ q.2) = L.mergeSort pLe := by
      refine List.Perm.eq_of_pairwise (le := fun a b => pLe a b = true) (fun a b ha hb h1 h2 => ?_) (List.pairwise_mergeSort ?_ ?_ L1) (List.pairwise_mergeSort ?_ ?_ L) ((List.mergeSort_perm L1 _).trans (p1.trans (List.mergeSort_perm L _).symm))
      · exact inj2 a (s1m a ((List.mergeSort_perm L1 _).mem_iff.mp ha)) b ((List.mergeSort_perm L _).mem_iff.mp hb) (ord_leZ.anti _ _ h1 h2)
      · exact fun a b c => ord_leZ.trans a.2 b.2 c.2
      · exact fun a b => ord_leZ.total a.2 b.2
      · exact fun a b c => ord_leZ.trans a.2 b.2 c.2
      · exact fun a b => ord_leZ.total a.2 b.2
    obtain ⟨c, hc⟩ := PyProof.Rows.sortedHeap_at (vs := vs) (out := (PySem.W.sortVals (dataKind (PySem.W.sortingHeap (s1.heap.push (seqObj "list" vs.toArray 0)) s1.heap.objs.size vs) (L1.map fun q => tupZ q.2)) false vs vs).toArray) hoL
    refine hQ _ s1.heap.objs.size c (fun b u e => ?_) g1 o1 hz (by rw [← eM, ← eout _ _ eo]; exact hc)
    have q := k1 b u e
    have hlt := Heap.lt_size q
    show (PyProof.Rows.sortedHeap (s1.heap.push (seqObj "list" vs.toArray 0)) s1.heap.objs.size vs _).get? b = some u
    rw [PyProof.Rows.sortedHeap_old (Nat.ne_of_lt hlt) (by rw [size_push']; exact Nat.lt_succ_of_lt hlt)]
    exact Heap.get?_push_of_some _ q
end

def rSortSet (K : PySem.W.Frag) (P : Program) (w : World) : List V → Hp → VK → Prop := fun vs H Q => ∃ (a : Addr) (L : List (Addr × List Int)), vs = [V.ref a] ∧ H a = some (SetTO P w a L) ∧ (∀ p ∈ L, SqT K H p.1 (p.2.map V.int)) ∧
  ∀ p, (L.map (·.2)).Nodup → H p = none → Q (.ref p) (upd H p (.lst ((L.mergeSort pLe).map fun q => V.ref q.1)))
theorem cr_sortSet {X : Cx} (hc : X.calm = true) (hu : X.A.units + 64 < cLine) : CallR X (.builtin "sorted") (rSortSet X.K X.prog X.w) := by
  intro pins s σ H vs us Q I r h
  obtain ⟨a, L, rfl, ha, hk, q⟩ := h
  have R0 : SetT0 X.prog X.w s.heap a L := (I.hok a _ ha).1
  obtain ⟨es, ep, t, R⟩ := R0.full fun p hp => I.isT (hk p hp)
  rw [Vals.ref1 r]
  refine sorted_setX R (I.ok.hd hc) hu fun s' p c k g o hp hg => ?_
  have hfew : (L.mergeSort pLe).length < 64 := by rw [List.length_mergeSort]; exact R.few
  have hlen : ((L.mergeSort pLe).map fun q => V.ref q.1).length ≤ sizeLine := by rw [List.length_map, sizeLine_eq]; omega
  have hn : H p = none := I.hok.fresh hp
  have J : Inv X pins σ (upd H p (.lst ((L.mergeSort pLe).map fun q => V.ref q.1))) { s with heap := s'.heap, gens := s'.gens, drawn := s'.drawn, toks := s'.toks } :=
    I.call (ch := []) (Un.laid k hp hn) (I.hok.laid k hp ⟨hlen, _, c, vals_of_refs _, hg⟩) (by rw [g]; exact I.bare) (fun _ z => nomatch z)
  have e : s' = { s with heap := s'.heap, gens := s'.gens, drawn := s'.drawn, toks := s'.toks } := by
    cases s'
    cases s
    cases o
    rfl
  rw [e]
  exact ⟨.ref p, _, J, rfl, q p R.nd hn⟩
/-- .. with K, the program and the world named -/
theorem setOfK {X : Cx} (K : PySem.W.Frag) (P : Program) (w : World) (hc : X.calm = true) (hu : X.A.units + 64 < cLine) (hk : X.K = K := by rfl) (hp : X.prog = P := by rfl) (hw : X.w = w := by rfl) : CallR X (.type "set") (rSetOfT K P w) := by
  subst hk hp hw
  exact cr_setOfT hc hu
theorem sortSetK {X : Cx} (K : PySem.W.Frag) (P : Program) (w : World) (hc : X.calm = true) (hu : X.A.units + 64 < cLine) (hk : X.K = K := by rfl) (hp : X.prog = P := by rfl) (hw : X.w = w := by rfl) : CallR X (.builtin "sorted") (rSortSet K P w) := by
  subst hk hp hw
  exact cr_sortSet hc hu
def lotsZ : List PyData → Option (List (List Int))
  | [] => some []
  | .tuple es :: ds => match intsD es, lotsZ ds with
    | some k, some ks => some (k :: ks)
    | _, _ => none
  | _ => none
theorem lotsZ_ok : ∀ {ds : List PyData} {ks : List (List Int)}, lotsZ ds = some ks → ds = ks.map tupZ
  | [], ks, h => by cases h; rfl
  | .tuple es :: ds, ks, h => by
    unfold lotsZ at h
    cases e1 : intsD es with
    | none => rw [e1] at h; cases h
    | some k =>
      rw [e1] at h
      cases e2 : lotsZ ds with
      | none => rw [e2] at h; cases h
      | some ks' =>
        rw [e2] at h
        cases h
        rw [List.map_cons, ← lotsZ_ok e2, intsD_ok e1]
        rfl
  | .none :: _, _, h => by cases h
  | .bool _ :: _, _, h => by cases h
  | .int _ :: _, _, h => by cases h
  | .str _ :: _, _, h => by cases h
  | .list _ :: _, _, h => by cases h
  | .dict _ :: _, _, h => by cases h
/-- sorted(set(ks)) -/
def sortSetZ (ks : List (List Int)) : List (List Int) := (dd ks).mergeSort leZ
def sortSetM (fa : En → RM Rv) : En → RM Rv := fun ρ => RM.bnd (fa ρ) fun r ρ1 => lk ρ1 r fun d => match d with
  | .list ds => (match lotsZ ds with
    | some ks => ck (decide (ks.length < 64)) (some (.ok (.nw ((sortSetZ ks).map tupZ), ρ1)))
    | none => none)
  | _ => none
theorem dpa_lots {K : PySem.W.Frag} {H : Hp} : ∀ {ks : List (List Int)} {xs : List V}, DpAll K H xs (ks.map tupZ) → ∃ ps : List (Addr × List Int), xs = ps.map (fun p => V.ref p.1) ∧ ks = ps.map (·.2) ∧ ∀ p ∈ ps, SqT K H p.1 (p.2.map V.int)
  | [], _, h => by
    cases h
    exact ⟨[], rfl, rfl, fun p hp => nomatch hp⟩
  | k :: ks, _, h => by
    have h' : DpAll K H _ (tupZ k :: ks.map tupZ) := h
    cases h' with
    | cons h1 h2 =>
      obtain ⟨ps, e1, e2, hp⟩ := dpa_lots h2
      have h1' : Dp K H _ (.tuple (k.map PyData.int)) := h1
      cases h1' with
      | @tup a xs _ hsq hxs =>
        have := dpa_ints k hxs
        subst this
        refine ⟨(a, k) :: ps, by rw [List.map_cons, e1], by rw [List.map_cons, e2], fun p hp' => ?_⟩
        rcases List.mem_cons.mp hp' with e | hp'
        · rw [e]
          exact hsq
        · exact hp p hp'
theorem lots_dpa {K : PySem.W.Frag} {H : Hp} : ∀ {ps : List (Addr × List Int)}, (∀ p ∈ ps, SqT K H p.1 (p.2.map V.int)) → DpAll K H (ps.map fun p => V.ref p.1) ((ps.map (·.2)).map tupZ)
  | [], _ => .nil
  | p :: ps, h => .cons (.tup (h p List.mem_cons_self) (dpa_of_ints _)) (lots_dpa fun q hq => h q (List.mem_cons_of_mem _ hq))
theorem je_sortSet {c : Cn} {P : Program} {w : World} {ta : TE} {fa : En → RM Rv} (ha : JE c ta fa) : JE c (tCB (rSortSet c.K P w) (tCons (tCB (rSetOfT c.K P w) (tCons ta tNil)) tNil)) (sortSetM fa) := by
  intro σ H Pr Hf ρ Q S h
  show ta σ H fun x H1 => rSetOfT c.K P w [x] H1 fun y H2 => rSortSet c.K P w [y] H2 Q
  refine ha σ H Pr Hf ρ _ S (Good.bind h fun r ρ1 _ x Hf1 H1 g1 S1 rv1 h1 => ?_)
  obtain ⟨d, l1, h4⟩ := h1.lk
  have hd := look_ok S1 rv1 l1
  match d, h4, hd with
  | .list ds, h4, hd =>
    dsimp only at h4
    cases e : lotsZ ds with
    | none => simp only [e] at h4; exact h4.elim
    | some ks =>
      simp only [e] at h4
      obtain ⟨hk, h5⟩ := h4.ck
      have ee := lotsZ_ok e
      subst ee
      obtain ⟨p, xs, rfl, hs, hda⟩ := hd.lst S1.fz
      obtain ⟨ps, rfl, rfl, hsq⟩ := dpa_lots hda
      refine ⟨p, ps, rfl, hs, fun q hq => same_t S1.fz (hsq q hq), by have := of_decide_eq_true hk; rw [List.length_map] at this; exact this, fun a L hA hL1 hL2 => ?_⟩
      have fA := none_back S1.fz hA
      have sA : Same H1 (upd H1 a (SetTO P w a L)) := same_new hA
      have S2 : Sta c.K c.vs0 Pr Hf1 (upd H1 a (SetTO P w a L)) σ ρ1 := S1.grow (Gro.refl _ _) (S1.fz.trans sA) sA
      have hmem : ∀ q ∈ L.mergeSort pLe, SqT c.K Hf1 q.1 (q.2.map V.int) := fun q hq => hsq q (hL1 q ((List.mergeSort_perm L _).mem_iff.mp hq))
      refine ⟨a, L, rfl, upd_same, fun q hq => same_t sA (same_t S1.fz (hsq q (hL1 q hq))), fun b nd hb => ?_⟩
      have e3 : (L.mergeSort pLe).map (·.2) = sortSetZ (ps.map (·.2)) := by
        unfold sortSetZ
        have e4 : (L.mergeSort pLe).map (fun q : Addr × List Int => q.2) = (L.map fun q : Addr × List Int => q.2).mergeSort leZ := PySem.W.sort_maps (fun q : Addr × List Int => q.2) fun a _ b _ => rfl
        rw [e4]
        refine sorted_uniq ord_leZ (List.pairwise_mergeSort ord_leZ.trans ord_leZ.total _) (List.pairwise_mergeSort ord_leZ.trans ord_leZ.total _) ((List.mergeSort_perm _ _).trans (List.Perm.trans ?_ (List.mergeSort_perm _ _).symm))
        refine (List.perm_ext_iff_of_nodup nd (dd_nodup _)).mpr fun k => ?_
        rw [dd_mem]
        refine ⟨fun hk => ?_, fun hk => ?_⟩
        · obtain ⟨q, hq, rfl⟩ := List.mem_map.mp hk
          exact List.mem_map.mpr ⟨q, hL1 q hq, rfl⟩
        · obtain ⟨q, hq, rfl⟩ := List.mem_map.mp hk
          exact hL2 q hq
      refine Fin.lst (Good.fin S2 h5) S2.fz hb ?_
      rw [← e3]
      exact lots_dpa hmem

/-! ### two names at once: values or new lists -/
def setR (i : Nat) : Rv → En → Option En
  | .va d, ρ => some (ρ.set i (.va d))
  | .nw ds, ρ => some (ρ.set i (.ow 0 ds))
  | .sl _, _ => none
def parXM (i j : Nat) (fa fb : En → RM Rv) : En → RM Ot := fun ρ => RM.bnd (fa ρ) fun ra ρ1 => RM.bnd (fb ρ1) fun rb ρ2 => match setR i ra ρ2 with
  | some ρ3 => (match setR j rb ρ3 with
    | some ρ4 => some (.ok (.nx, ρ4))
    | none => none)
  | none => none
section
variable {c : Cn} {ta tb : TE} {fa fb : En → RM Rv}
theorem set_notOwn {σ : L2.St} {ρ : En} {i l : Nat} {v : V} {s : Sl} {q : Addr} (hv : v ≠ .ref q) (h : ∀ l, ¬ Own σ ρ l q) : ¬ Own (σ.set i (some v)) (ρ.set i s) l q := fun ⟨⟨k, ds, e1⟩, e2⟩ => by
  by_cases hl : i = l
  · subst hl
    rw [List.getElem?_set_self'] at e2
    cases w : σ[i]? with
    | none => rw [w] at e2; cases e2
    | some t =>
      rw [w] at e2
      cases e2
      exact hv rfl
  · rw [List.getElem?_set_ne hl] at e1 e2
    exact h l ⟨⟨k, ds, e1⟩, e2⟩
theorem set_notOwnVa {σ : L2.St} {ρ : En} {i l : Nat} {o : Option V} {d : PyData} {q : Addr} (h : ∀ l, ¬ Own σ ρ l q) : ¬ Own (σ.set i o) (ρ.set i (.va d)) l q := fun ⟨⟨k, ds, e1⟩, e2⟩ => by
  by_cases hl : i = l
  · subst hl
    rw [List.getElem?_set_self'] at e1
    cases w : ρ[i]? with
    | none => rw [w] at e1; cases e1
    | some t => rw [w] at e1; cases e1
  · rw [List.getElem?_set_ne hl] at e1 e2
    exact h l ⟨⟨k, ds, e1⟩, e2⟩
theorem js_parX {i j : Nat} (ha : JE c ta fa) (hb : JE c tb fb) : JS c (tPar i j (tCons ta (tCons tb tNil))) (parXM i j fa fb) := by
  intro Dn σ H Pr Hf ρ S h
  show ta σ H fun x H1 => tb σ H1 fun y H2 => ∃ v w, [x, y] = [v, w] ∧ Dn.nx ((σ.set i (some v)).set j (some w)) H2
  refine ha σ H Pr Hf ρ _ S (GoodS.bind h fun ra ρ1 _ x Hf1 H1 g1 S1 rv1 h1 => ?_)
  cases ra with
  | va d =>
    refine hb σ H1 Pr Hf1 ρ1 _ S1 (GoodS.bind h1 fun rb ρ2 _ y Hf2 H2 g2 S2 rv2 h2 => ?_)
    have Sa := S2.setVa (dp_mono g2.1 _ _ rv1) i
    dsimp only [setR] at h2
    cases rb with
    | va e => exact ⟨_, _, rfl, GoodS.nx (Sa.setVa rv2 j) h2⟩
    | sl k => exact h2.elim
    | nw es =>
      obtain ⟨q, ys, rfl, m1, m2, m3, m4, m5⟩ := rv2
      exact ⟨_, _, rfl, GoodS.nx (Sa.setNw (v := .ref q) ⟨q, ys, rfl, m1, m2, m3, m4, fun l => set_notOwnVa m5⟩ j) h2⟩
  | sl k =>
    refine hb σ H1 Pr Hf1 ρ1 _ S1 (GoodS.bind h1 fun rb ρ2 _ y Hf2 H2 g2 S2 rv2 h2 => ?_)
    exact h2.elim
  | nw ds =>
    obtain ⟨p, xs, rfl, k1, k2, k3, k4, k5⟩ := rv1
    have SP : Sta c.K c.vs0 (upd Pr p (.lst xs)) Hf1 H1 σ ρ1 := by
      refine ⟨S1.fz, fun b u e => ?_, fun l s e => ?_, S1.dj, S1.tb, S1.nf, S1.np.upd⟩
      · by_cases q : b = p
        · subst q
          rw [upd_same] at e
          rw [k3]
          exact e
        · rw [upd_ne q] at e
          exact S1.pr b u e
      · obtain ⟨o, e1, e2⟩ := S1.sl l s e
        refine ⟨o, e1, ?_⟩
        cases s with
        | un => trivial
        | va d => exact e2
        | ow k es =>
          obtain ⟨q, ys, a1, a2, a3, a4⟩ := e2
          refine ⟨q, ys, a1, a2, ?_, a4⟩
          rw [upd_ne fun z => k5 l ⟨⟨k, es, e⟩, by rw [e1, a1, z]⟩]
          exact a3
    have sp : Same Pr (upd Pr p (.lst xs)) := same_new k2
    have fin : ∀ (ρ2 : En) (Hf2 H2 : Hp), Gro (upd Pr p (.lst xs)) Hf1 Hf2 → Sta c.K c.vs0 (upd Pr p (.lst xs)) Hf2 H2 σ ρ2 → Sta c.K c.vs0 Pr Hf2 H2 (σ.set i (some (.ref p))) (ρ2.set i (.ow 0 ds)) := fun ρ2 Hf2 H2 g2 S2 => by
      have no : ∀ l, ¬ Own σ ρ2 l p := fun l ⟨⟨k, fs, e1⟩, e2⟩ => by
        obtain ⟨o, f1, r, zs, f2, _, f3, _⟩ := S2.sl l _ e1
        rw [e2] at f1
        cases f1
        cases f2
        rw [upd_same] at f3
        cases f3
      exact (S2.weaken sp).setNw (v := .ref p) ⟨p, xs, rfl, g2.2.1 p _ upd_same k1, k2, S2.pr p _ upd_same, dpa_mono g2.1 _ _ k4, no⟩ i
    refine hb σ H1 (upd Pr p (.lst xs)) Hf1 ρ1 _ SP ?_
    match e : fb ρ1, h1 with
    | some (.error (x, ρ')), h1 =>
      exact fun cls dx Hf' H' g S' xo => h1 cls dx σ Hf' H' (g.weak sp) (S'.weaken sp) xo
    | some (.ok (.va d, ρ2)), h1 =>
      intro y Hf2 H2 g2 S2 rv2
      exact ⟨_, _, rfl, GoodS.nx ((fin ρ2 Hf2 H2 g2 S2).setVa rv2 j) (GoodS.mono (g2.weak sp) h1)⟩
    | some (.ok (.nw es, ρ2)), h1 =>
      intro y Hf2 H2 g2 S2 rv2
      obtain ⟨q, ys, rfl, m1, m2, m3, m4, m5⟩ := rv2
      have nqp : q ≠ p := fun z => by
        rw [z, upd_same] at m2
        cases m2
      rw [upd_ne nqp] at m2
      exact ⟨_, _, rfl, GoodS.nx ((fin ρ2 Hf2 H2 g2 S2).setNw (v := .ref q) ⟨q, ys, rfl, m1, m2, m3, m4, fun l => set_notOwn (fun z => nqp (by cases z; rfl)) m5⟩ j) (GoodS.mono (g2.weak sp) h1)⟩
    | some (.ok (.sl d, ρ2)), h1 => exact h1.elim
    | none, h1 => exact h1.elim
end

/-! ### list(range(n)), sum -/
def lstRgM (fa : En → RM Rv) : En → RM Rv := fun ρ => RM.bnd (fa ρ) fun r ρ1 => match intR r with
  | some n => ck (decide (0 ≤ n) && decide (n ≤ 100000)) (some (.ok (.nw (rngI 0 n.toNat), ρ1)))
  | none => none
theorem je_listRg {c : Cn} {ta : TE} {fa : En → RM Rv} (ha : JE c ta fa) : JE c (tLstRg (tRg1 ta)) (lstRgM fa) := by
  intro σ H Pr Hf ρ Q S h
  show ta σ H fun x H1 => ∃ n, x = .int n ∧ (RgOk 0 n ∧ ∀ q, H1 q = none → Q (.ref q) (upd H1 q (.lst (rgV 0 n))))
  refine ha σ H Pr Hf ρ _ S (Good.bind h fun r ρ1 _ x Hf1 H1 g1 S1 rv1 h1 => ?_)
  cases e : intR r with
  | none => simp only [e] at h1; exact h1.elim
  | some n =>
    simp only [e] at h1
    obtain ⟨hb, h2⟩ := h1.ck
    rw [Bool.and_eq_true] at hb
    have b1 := of_decide_eq_true hb.1
    have b2 := of_decide_eq_true hb.2
    refine ⟨n, rv_int rv1 e, RgOk.of_le (by decide) (by omega) (by decide) b1, fun q hq => Fin.lst (Good.fin S1 h2) S1.fz hq ?_⟩
    have e1 : rgV 0 n = ((List.range n.toNat).map fun (i : Nat) => (0 + (i : Int))).map V.int := by
      unfold rgV
      rw [Int.sub_zero, List.map_map]
      rfl
    have e2 : rngI 0 n.toNat = ((List.range n.toNat).map fun (i : Nat) => (0 + (i : Int))).map PyData.int := by
      unfold rngI
      rw [List.map_map]
      rfl
    rw [e1, e2]
    exact dpa_of_ints _
def sumG : List PyData → Option Rv
  | [.list ds] => match intsD ds with
    | some ns => some (.va (.int ns.sum))
    | none => none
  | _ => none
theorem ok_sum {K : PySem.W.Frag} : CbOk K (rSum K) sumG := by
  intro Hf H xs ds z Q f hx hg hF
  match ds, xs, hx, hg with
  | [.list es], _, .cons h .nil, hg =>
    dsimp only [sumG] at hg
    cases e : intsD es with
    | none => rw [e] at hg; cases hg
    | some ns =>
      rw [e] at hg
      cases hg
      obtain ⟨p, ys, rfl, h1, a1⟩ := h.lst f
      rw [intsD_ok e] at a1
      have := dpa_ints ns a1
      subst this
      exact ⟨p, ns, rfl, h1, hF.d f (.int _)⟩
theorem sumK {X : Cx} (K : PySem.W.Frag) (hc : X.calm = true) (hk : X.K = K := by rfl) : CallR X (.builtin "sum") (rSum K) := by
  subst hk
  exact cr_sum hc
theorem repK {X : Cx} (K : PySem.W.Frag) (hk : X.K = K := by rfl) : OpR X (binaryOp .Mult) (rRepT K) := by
  subst hk
  exact op_repT
def bandG := iop fun i j => .int (Builtin.bitAnd i j)
theorem ok_band {K : PySem.W.Frag} : OpOk K (rI0 fun i j => V.int (Builtin.bitAnd i j)) bandG := ok_i fun i j H => .int _
section
variable {c : Cn} {ta tb : TE} {fa fb : En → RM Rv}
/-- .. by way of a tuple -/
theorem js_parT {i j : Nat} (ha : JE c ta fa) (hb : JE c tb fb) : JS c (tAsg (tTup (tCons ta (tCons tb tNil))) (gTup c.K 2 (gCons (gName i) (gCons (gName j) gNil)))) (parXM i j fa fb) := by
  intro Dn σ H Pr Hf ρ S h
  show ta σ H fun x H1 => tb σ H1 fun y H2 => [x, y].length ≤ sizeLine ∧ ∀ p, H2 p = none → gTup c.K 2 (gCons (gName i) (gCons (gName j) gNil)) (.ref p) σ (upd H2 p (.tup [x, y])) Dn.nx
  have two : (2 : Nat) ≤ sizeLine := by decide
  have unp : ∀ (x y : V) (H2 : Hp) (p : Addr), Dn.nx ((σ.set i (some x)).set j (some y)) (upd H2 p (.tup [x, y])) → gTup c.K 2 (gCons (gName i) (gCons (gName j) gNil)) (.ref p) σ (upd H2 p (.tup [x, y])) Dn.nx := fun x y H2 p hq =>
    ⟨p, [x, y], rfl, .inl (.inl upd_same), rfl, x, [y], rfl, y, [], rfl, rfl, hq⟩
  have grw : ∀ {Pr Hf H2 : Hp} {σ' : L2.St} {ρ' : En} {p : Addr} {o : HO}, Sta c.K c.vs0 Pr Hf H2 σ' ρ' → H2 p = none → Sta c.K c.vs0 Pr Hf (upd H2 p o) σ' ρ' := fun S hp => S.grow (Gro.refl _ _) (S.fz.trans (same_new hp)) (same_new hp)
  refine ha σ H Pr Hf ρ _ S (GoodS.bind h fun ra ρ1 _ x Hf1 H1 g1 S1 rv1 h1 => ?_)
  cases ra with
  | va d =>
    refine hb σ H1 Pr Hf1 ρ1 _ S1 (GoodS.bind h1 fun rb ρ2 _ y Hf2 H2 g2 S2 rv2 h2 => ?_)
    have Sa := S2.setVa (dp_mono g2.1 _ _ rv1) i
    dsimp only [setR] at h2
    cases rb with
    | va e => exact ⟨two, fun q0 hq0 => unp _ _ _ _ (GoodS.nx (grw (Sa.setVa rv2 j) hq0) h2)⟩
    | sl k => exact h2.elim
    | nw es =>
      obtain ⟨q, ys, rfl, m1, m2, m3, m4, m5⟩ := rv2
      exact ⟨two, fun q0 hq0 => unp _ _ _ _ (GoodS.nx (grw (Sa.setNw (v := .ref q) ⟨q, ys, rfl, m1, m2, m3, m4, fun l => set_notOwnVa m5⟩ j) hq0) h2)⟩
  | sl k =>
    refine hb σ H1 Pr Hf1 ρ1 _ S1 (GoodS.bind h1 fun rb ρ2 _ y Hf2 H2 g2 S2 rv2 h2 => ?_)
    exact h2.elim
  | nw ds =>
    obtain ⟨p, xs, rfl, k1, k2, k3, k4, k5⟩ := rv1
    have SP : Sta c.K c.vs0 (upd Pr p (.lst xs)) Hf1 H1 σ ρ1 := by
      refine ⟨S1.fz, fun b u e => ?_, fun l s e => ?_, S1.dj, S1.tb, S1.nf, S1.np.upd⟩
      · by_cases q : b = p
        · subst q
          rw [upd_same] at e
          rw [k3]
          exact e
        · rw [upd_ne q] at e
          exact S1.pr b u e
      · obtain ⟨o, e1, e2⟩ := S1.sl l s e
        refine ⟨o, e1, ?_⟩
        cases s with
        | un => trivial
        | va d => exact e2
        | ow k es =>
          obtain ⟨q, ys, a1, a2, a3, a4⟩ := e2
          refine ⟨q, ys, a1, a2, ?_, a4⟩
          rw [upd_ne fun z => k5 l ⟨⟨k, es, e⟩, by rw [e1, a1, z]⟩]
          exact a3
    have sp : Same Pr (upd Pr p (.lst xs)) := same_new k2
    have fin : ∀ (ρ2 : En) (Hf2 H2 : Hp), Gro (upd Pr p (.lst xs)) Hf1 Hf2 → Sta c.K c.vs0 (upd Pr p (.lst xs)) Hf2 H2 σ ρ2 → Sta c.K c.vs0 Pr Hf2 H2 (σ.set i (some (.ref p))) (ρ2.set i (.ow 0 ds)) := fun ρ2 Hf2 H2 g2 S2 => by
      have no : ∀ l, ¬ Own σ ρ2 l p := fun l ⟨⟨k, fs, e1⟩, e2⟩ => by
        obtain ⟨o, f1, r, zs, f2, _, f3, _⟩ := S2.sl l _ e1
        rw [e2] at f1
        cases f1
        cases f2
        rw [upd_same] at f3
        cases f3
      exact (S2.weaken sp).setNw (v := .ref p) ⟨p, xs, rfl, g2.2.1 p _ upd_same k1, k2, S2.pr p _ upd_same, dpa_mono g2.1 _ _ k4, no⟩ i
    refine hb σ H1 (upd Pr p (.lst xs)) Hf1 ρ1 _ SP ?_
    match e : fb ρ1, h1 with
    | some (.error (x, ρ')), h1 =>
      exact fun cls dx Hf' H' g S' xo => h1 cls dx σ Hf' H' (g.weak sp) (S'.weaken sp) xo
    | some (.ok (.va d, ρ2)), h1 =>
      intro y Hf2 H2 g2 S2 rv2
      exact ⟨two, fun q0 hq0 => unp _ _ _ _ (GoodS.nx (grw ((fin ρ2 Hf2 H2 g2 S2).setVa rv2 j) hq0) (GoodS.mono (g2.weak sp) h1))⟩
    | some (.ok (.nw es, ρ2)), h1 =>
      intro y Hf2 H2 g2 S2 rv2
      obtain ⟨q, ys, rfl, m1, m2, m3, m4, m5⟩ := rv2
      have nqp : q ≠ p := fun z => by
        rw [z, upd_same] at m2
        cases m2
      rw [upd_ne nqp] at m2
      exact ⟨two, fun q0 hq0 => unp _ _ _ _ (GoodS.nx (grw ((fin ρ2 Hf2 H2 g2 S2).setNw (v := .ref q) ⟨q, ys, rfl, m1, m2, m3, m4, fun l => set_notOwn (fun z => nqp (by cases z; rfl)) m5⟩ j) hq0) (GoodS.mono (g2.weak sp) h1))⟩
    | some (.ok (.sl d, ρ2)), h1 => exact h1.elim
    | none, h1 => exact h1.elim
end
end Pl

namespace Pl
open PySem PySem.Spec PyProof.Rows L2
/-! ### a whole number's truth -/
def tTruK (K : PySem.W.Frag) (ta : TE) : TT := fun σ H Q => ta σ H fun x H' => ∃ k, TruV K x H' k ∧ Q k H'
theorem pt_truK {X : Cx} {a : Expr} {ta : TE} (K : PySem.W.Frag) (ha : PE X a ta) (he : ∀ whole, isTrue a X.env whole = (do let v ← whole; standAt a.pos; holding [v] (truthy v)) := by intro _; rfl) (hk : X.K = K := by rfl) : PT X a (tTruK K ta) := by
  subst hk
  exact pt_truth ha he
def iM (fa : En → RM Rv) : En → RM Bool := fun ρ => RM.bnd (fa ρ) fun r ρ1 => match r with
  | .va (.int i) => some (.ok ((i != 0), ρ1))
  | _ => none
section
variable {c : Cn} {ta : TE} {fa : En → RM Rv}
theorem jt_int (ha : JE c ta fa) : JT c (tTruK c.K ta) (iM fa) := by
  intro σ H Pr Hf ρ Q S h
  show ta σ H fun x H' => ∃ k, TruV c.K x H' k ∧ Q k H'
  refine ha σ H Pr Hf ρ _ S (Good.bind h fun r ρ1 _ x Hf1 H1 g1 S1 rv1 h1 => ?_)
  match r, rv1, h1 with
  | .va (.int i), rv1, h1 =>
    have e : Dp c.K Hf1 x (.int i) := rv1
    cases e
    exact ⟨(i != 0), rfl, Good.at S1 h1 rfl⟩
end
end Pl

namespace Pl
open PySem PySem.Spec PyProof.Rows L2
/-! ### x in t, t a tuple of data of any depth; max(xs) of one row of ints -/
def rInT (K : PySem.W.Frag) : R2 := fun x y H Q => ∃ d ds, L2.Dp K H x d ∧ L2.Dp K H y (.tuple ds) ∧ SeqAt.shaped d = true ∧ SeqAt.shaped (.tuple ds) = true ∧ Q (.bl (ds.any fun z => PyData.eqv z d)) H
theorem op_inT {X : Cx} (hu : X.A.units + 65 < cLine) : OpR X (compareOp .In) (rInT X.K) := by
  intro pins s σ H x y v u Q I rx ry h
  obtain ⟨d, ds, hd, he, sd, se, q⟩ := h
  obtain ⟨as, r1⟩ := L2.Dp.reads I d x v hd rx
  obtain ⟨bs, r2⟩ := L2.Dp.reads I (.tuple ds) y u he ry
  exact SeqAt.in_tuple_reads r2 r1 (SeqAt.canLay_of_shaped se) (SeqAt.canLay_of_shaped sd) (room_in_shaped sd hu) ⟨.bl _, H, I, rfl, q⟩
theorem inTK {X : Cx} (K : PySem.W.Frag) (hu : X.A.units + 65 < cLine) (hk : X.K = K := by rfl) : OpR X (compareOp .In) (rInT K) := by subst hk; exact op_inT hu
def inTG (d e : PyData) : Option Rv := match e with
  | .tuple ds => (match SeqAt.shaped d && SeqAt.shaped (.tuple ds) with
    | true => some (.va (.bool (ds.any fun z => PyData.eqv z d)))
    | false => none)
  | _ => none
theorem ok_inT {K : PySem.W.Frag} : OpOk K (rInT K) inTG := by
  intro Hf H x y d e z Q f dx dy hz k
  match e, dy, hz with
  | .tuple ds, dy, hz =>
    dsimp only [inTG] at hz
    cases w : SeqAt.shaped d && SeqAt.shaped (.tuple ds) with
    | false => rw [w] at hz; cases hz
    | true =>
      rw [w] at hz
      rw [Bool.and_eq_true] at w
      cases hz
      exact ⟨d, ds, dp_l2 _ _ (dx.now f), dp_l2 _ _ (dy.now f), w.1, w.2, k.d f (.bl _)⟩
def rMax1 (K : PySem.W.Frag) : List V → Hp → VK → Prop := fun vs H Q => ∃ (a : Addr) (n : Int) (ns : List Int), vs = [V.ref a] ∧ (SqL K H a ((n :: ns).map V.int) ∨ SqT K H a ((n :: ns).map V.int)) ∧ Q (.int (ns.foldl max n)) H
theorem alike_all_ints (l : List Int) : PySem.W.AlikeAll (l.map PyData.int) := by
  refine ⟨fun x hx y hy => ?_, fun x hx e => ?_⟩
  · obtain ⟨a, _, rfl⟩ := List.mem_map.mp hx
    obtain ⟨b, _, rfl⟩ := List.mem_map.mp hy
    rfl
  · obtain ⟨a, _, rfl⟩ := List.mem_map.mp hx
    cases e
theorem max1K {X : Cx} (K : PySem.W.Frag) (hc : X.calm = true) (hu : X.A.units + 64 < cLine) (hk : X.K = K := by rfl) : CallR X (.builtin "max") (rMax1 K) := by
  subst hk
  intro pins s σ H vs us Q I r h
  obtain ⟨a, n, ns, rfl, hs, q⟩ := h
  rw [Vals.ref1 r]
  have da : ∀ us, Vals ((n :: ns).map V.int) us → ∃ as, ReadsAll s.heap us (PyData.int n :: ns.map PyData.int) as := fun us rv => L2.Dp.readsAll I _ _ us (dpa_l2 _ _ (dpa_of_ints (n :: ns))) rv
  have al : PySem.W.AlikeAll (PyData.int n :: ns.map PyData.int) := alike_all_ints (n :: ns)
  have dep : PyData.depthAll (PyData.int n :: ns.map PyData.int) = 0 := PySem.W.depth_ints (n :: ns)
  rcases hs with hs | hs
  · obtain ⟨its, rv, hl, _⟩ := I.list hs
    obtain ⟨as, hr⟩ := da its rv
    refine PySem.W.max_list_data (vs := its.toArray) (I.ok.hd hc) hl.isList hr al (by rw [dep]; omega) fun i v h' tk bs hi rd hk => ?_
    rw [PySem.W.maxD_ints] at rd
    cases rd
    exact ⟨.int _, H, I.kept hk, ⟨_, rfl⟩, q⟩
  · obtain ⟨its, rv, hl, _⟩ := I.tuple hs
    obtain ⟨as, hr⟩ := da its rv
    refine PySem.W.max_tuple_data (vs := its.toArray) (I.ok.hd hc) hl hr al (by rw [dep]; omega) fun i v h' tk bs hi rd hk => ?_
    rw [PySem.W.maxD_ints] at rd
    cases rd
    exact ⟨.int _, H, I.kept hk, ⟨_, rfl⟩, q⟩
def max1G : List PyData → Option Rv
  | [d] => match seqItems d with
    | some ds => (match intsD ds with
      | some (n :: ns) => some (.va (.int (ns.foldl max n)))
      | _ => none)
    | none => none
  | _ => none
theorem ok_max1 {K : PySem.W.Frag} : CbOk K (rMax1 K) max1G := by
  intro Hf H xs ds z Q f hx hg hF
  have fin : ∀ es : List PyData, (match intsD es with | some (n :: ns) => some (Rv.va (PyData.int (ns.foldl max n))) | _ => none) = some z → ∃ n ns, es = (n :: ns).map PyData.int ∧ z = .va (.int (ns.foldl max n)) := fun es e => by
    cases w : intsD es with
    | none => rw [w] at e; cases e
    | some l =>
      rw [w] at e
      cases l with
      | nil => cases e
      | cons n ns =>
        cases e
        exact ⟨n, ns, intsD_ok w, rfl⟩
  match ds, xs, hx, hg with
  | [.list es], _, .cons h .nil, hg =>
    obtain ⟨n, ns, e1, e2⟩ := fin es hg
    subst e2
    obtain ⟨p, ys, rfl, h1, a1⟩ := h.lst f
    rw [e1] at a1
    have := dpa_ints (n :: ns) a1
    subst this
    exact ⟨p, n, ns, rfl, .inl h1, hF.d f (.int _)⟩
  | [.tuple es], _, .cons h .nil, hg =>
    obtain ⟨n, ns, e1, e2⟩ := fin es hg
    subst e2
    obtain ⟨p, ys, rfl, h1, a1⟩ := h.tup
    rw [e1] at a1
    have := dpa_ints (n :: ns) a1
    subst this
    exact ⟨p, n, ns, rfl, .inr (same_t f h1), hF.d f (.int _)⟩
  | [], _, _, hg => cases hg
  | [.none], _, _, hg => cases hg
  | [.bool _], _, _, hg => cases hg
  | [.int _], _, _, hg => cases hg
  | [.str _], _, _, hg => cases hg
  | [.dict _], _, _, hg => cases hg
  | _ :: _ :: _, _, _, hg => cases hg
end Pl

namespace Pl
open PySem PySem.Spec PyProof.Rows L2
/-! ### comprehensions of two clauses -/
def lcL2 (sto : Sto) (test : En → RM Bool) (src1 : En → RM (List PyData)) (sto1 : Sto) (test1 : En → RM Bool) (elt : En → RM Rv) (vs vs1 : List Nat) : List PyData → List PyData → En → RM (List PyData)
  | [], acc, ρ => some (.ok (acc, ρ))
  | d :: ds, acc, ρ => match sto d ρ with
    | none => none
    | some ρ1 => match test ρ1 with
      | some (.ok (true, ρ2)) => match src1 ρ2 with
        | some (.ok (items1, ρ3)) => (match few items1 && few acc with
          | true => (match lcL sto1 test1 elt vs1 items1 acc (wipeE ρ3 vs1) with
            | some (.ok (acc', ρ4)) => lcL2 sto test src1 sto1 test1 elt vs vs1 ds acc' (wipeE ρ4 vs)
            | _ => none)
          | false => none)
        | _ => none
      | some (.ok (false, ρ2)) => lcL2 sto test src1 sto1 test1 elt vs vs1 ds acc (wipeE ρ2 vs)
      | _ => none
def lcM2 (src : En → RM (List PyData)) (sto : Sto) (test : En → RM Bool) (src1 : En → RM (List PyData)) (sto1 : Sto) (test1 : En → RM Bool) (elt : En → RM Rv) (vs vs1 : List Nat) : En → RM Rv := fun ρ =>
  RM.bnd (src ρ) fun items ρ1 => ck (noOwn ρ1 vs && few items) (match lcL2 sto test src1 sto1 test1 elt vs vs1 items [] (wipeE ρ1 vs) with
    | some (.ok (acc, ρ2)) => some (.ok (.nw acc, unw ρ1 ρ2 vs))
    | _ => none)
/-- what is wanted of the second clause's loop: that the first one goes on behind it -/
def GD (c : Cn) (Pr : Hp) (D : Addr) (σ : L2.St) (Q : Hp → Prop) (Hf : Hp) (k : List PyData → En → RM (List PyData)) : RM (List PyData) → Prop
  | some (.ok (acc, ρ)) => GC c Pr D σ Q Hf (k acc ρ)
  | _ => False
theorem GD.mono {c : Cn} {Pr Hf Hf1 : Hp} {D : Addr} {σ : L2.St} {Q : Hp → Prop} {k : List PyData → En → RM (List PyData)} {m : RM (List PyData)} (g : Gro Pr Hf Hf1) (h : GD c Pr D σ Q Hf k m) : GD c Pr D σ Q Hf1 k m := by
  match m, h with
  | some (.ok (acc, ρ2)), h => exact GC.mono g h
theorem GD.of {c : Cn} {Pr Hf : Hp} {D : Addr} {σ : L2.St} {Q : Hp → Prop} {k : List PyData → En → RM (List PyData)} {m : RM (List PyData)} (h : GC c Pr D σ Q Hf (match m with
    | some (.ok (acc', ρ4)) => k acc' ρ4
    | _ => none)) : GD c Pr D σ Q Hf k m := by
  match m, h with
  | some (.ok (acc, ρ2)), h => exact h
theorem wipe_sub {σ : L2.St} {vs vs1 : List Nat} (h : ∀ i ∈ vs1, i ∈ vs) : wipe (wipe σ vs1) vs = wipe σ vs := by
  apply List.ext_getElem?
  intro i
  rw [wipe_get, wipe_get, wipe_get]
  by_cases h1 : i ∈ vs
  · rw [if_pos h1, if_pos h1]
    by_cases h2 : i ∈ vs1
    · rw [if_pos h2]
      cases σ[i]? <;> rfl
    · rw [if_neg h2]
  · rw [if_neg h1, if_neg h1, if_neg fun z => h1 (h i z)]
theorem But.sub {is vs : List Nat} (h : ∀ i ∈ is, i ∈ vs) (σ σ' : L2.St) (b : But is σ σ') : But vs σ σ' := by
  unfold But at b ⊢
  rw [← wipe_sub (σ := σ') h, ← wipe_sub (σ := σ) h, b]
section
variable {c : Cn}
theorem lc2_rest {is is1 vs vs1 : List Nat} {g g1 : TG} {sto sto1 : Sto} {tt tt1 : TT} {ft ft1 : En → RM Bool} {wi1 : TI} {f1 : En → RM (List PyData)} {te : TE} {fe : En → RM Rv} {items : List PyData} {J : It} {Pr Hf1 H1 : Hp} {σ : L2.St} {ρ1 : En} {Q : VK} (hg : GOk c.K c.vs0 is g sto) (hs : ∀ σ σ', But is σ σ' → But vs σ σ')
    (ht : JT c.q tt ft) (hi1 : JI c.q wi1 f1) (hg1 : GOk c.K c.vs0 is1 g1 sto1) (hs1 : ∀ σ σ', But is1 σ σ' → But vs1 σ σ') (ht1 : JT c.q tt1 ft1) (he : JE c.q te fe) (hv : ∀ i ∈ vs1, i ∈ vs) (S1 : Sta c.K c.vs0 Pr Hf1 H1 σ ρ1) (wk' : WOkP c.K J Pr Hf1 items)
    (h1 : Good c (relV c.K) Pr Hf1 σ Q (ck (noOwn ρ1 vs && few items) (match lcL2 sto ft f1 sto1 ft1 fe vs vs1 items [] (wipeE ρ1 vs) with
      | some (.ok (acc, ρ2)) => some (.ok (.nw acc, unw ρ1 ρ2 vs))
      | _ => none))) : (fun R => tLc2 (fun _ H R => R J H) g tt wi1 g1 tt1 te vs vs1 σ H1 R) Q := by
  obtain ⟨hck, h2⟩ := h1.ck
  rw [Bool.and_eq_true] at hck
  have hlen : items.length ≤ 100000 := of_decide_eq_true hck.2
  intro D hD
  have pD : Pr D = none := by
    cases q : Pr D with
    | none => rfl
    | some o =>
      rw [S1.pr D o q] at hD
      cases hD
  have fD : Hf1 D = none := none_back S1.fz hD
  have sp : ∀ o, Same Pr (upd Pr D o) := fun o => same_new pD
  -- what the end asks
  have goal : GC c Pr D (wipe σ vs) (fun H' => Q (.ref D) H') Hf1 (lcL2 sto ft f1 sto1 ft1 fe vs vs1 items [] (wipeE ρ1 vs)) := by
    match e : lcL2 sto ft f1 sto1 ft1 fe vs vs1 items [] (wipeE ρ1 vs), h2 with
    | some (.ok (acc, ρ2)), h2 =>
      intro Hf' H' xs g' S' ha hfD
      have S2 : Sta c.K c.vs0 Pr Hf' H' σ (unw ρ1 ρ2 vs) := S1.unwiped hck.1 g'.1 (S'.weaken (sp _))
      refine h2 (.ref D) Hf' H' g' S2 ⟨D, xs, rfl, hfD, pD, S'.pr D _ upd_same, ha, fun i ⟨⟨k, ds, e1⟩, e2⟩ => ?_⟩
      have S3 : Sta c.K c.vs0 (upd Pr D (.lst xs)) Hf' H' σ (unw ρ1 ρ2 vs) := by
        have S1D : Sta c.K c.vs0 (fun _ => none) Hf1 H1 σ ρ1 := S1.weaken fun _ _ z => by cases z
        have := (S1D.unwiped hck.1 g'.1 (S'.weaken (Pr := fun _ => none) fun _ _ z => by cases z))
        refine ⟨this.fz, S'.pr, fun j s es => ?_, this.dj, S'.tb, this.nf, S'.np⟩
        obtain ⟨o, q1, q2⟩ := S2.sl j s es
        refine ⟨o, q1, ?_⟩
        cases s with
        | un => trivial
        | va d => exact q2
        | ow k' ds' =>
          obtain ⟨p, ys, a1, a2, a3, a4⟩ := q2
          rcases unw_get ρ1 ρ2 vs j _ es with ⟨hj, e3⟩ | ⟨hj, e3⟩ | ⟨e3, e4⟩
          · have := List.all_eq_true.mp hck.1 j hj
            rw [e3] at this
            cases this
          · obtain ⟨o', b1, b2⟩ := S'.sl j _ e3
            rw [wipe_get, if_neg hj, q1] at b1
            cases b1
            obtain ⟨p', ys', c1, c2, c3, c4⟩ := b2
            rw [a1] at c1
            cases c1
            exact ⟨p, ys, a1, a2, c3, a4⟩
          · obtain ⟨o', b1, b2⟩ := S'.sl j _ e4
            obtain ⟨p', ys', c1, c2, c3, c4⟩ := b2
            rw [wipe_get] at b1
            by_cases hj : j ∈ vs
            · rw [if_pos hj, q1] at b1
              subst c1
              cases b1
            · rw [if_neg hj, q1] at b1
              cases b1
              rw [a1] at c1
              cases c1
              exact ⟨p, ys, a1, a2, c3, a4⟩
      obtain ⟨o, q1, p, ys, q2, q3, q4, _⟩ := S3.sl i _ e1
      rw [e2] at q1
      cases q1
      cases q2
      rw [upd_same] at q4
      cases q4
  have S1' : Sta c.K c.vs0 (upd Pr D (.lst [])) Hf1 (upd H1 D (.lst [])) (wipe σ vs) (wipeE ρ1 vs) := by
    have w := S1.wiped vs
    refine ⟨w.fz.trans (same_new hD), fun b u e => ?_, fun i s e => ?_, w.dj, w.tb.ext (same_new hD), w.nf, w.np.upd⟩
    · by_cases hb : b = D
      · subst hb
        rw [upd_same] at e ⊢
        exact e
      · rw [upd_ne hb] at e ⊢
        exact w.pr b u e
    · obtain ⟨o, e1, e2⟩ := w.sl i s e
      refine ⟨o, e1, ?_⟩
      cases s with
      | un => trivial
      | va d => exact e2
      | ow k ds =>
        obtain ⟨p, xs, a1, a2, a3, a4, a5⟩ := e2
        have hp : p ≠ D := ne_of_none a4 hD
        exact ⟨p, xs, a1, a2, by rw [upd_ne hp]; exact a3, by rw [upd_ne hp]; exact a4, a5⟩
  refine ⟨fun i m H' => m = items.length - i ∧ i ≤ items.length ∧ ∃ Hf' ρ' acc xs, Gro Pr Hf1 Hf' ∧ Sta c.K c.vs0 (upd Pr D (.lst xs)) Hf' H' (wipe σ vs) ρ' ∧ DpAll c.K Hf' xs acc ∧ Hf' D = none ∧
      GC c Pr D (wipe σ vs) (fun H' => Q (.ref D) H') Hf' (lcL2 sto ft f1 sto1 ft1 fe vs vs1 (items.drop i) acc ρ'),
    ⟨items.length, by omega, Nat.zero_le _, Hf1, _, [], [], Gro.refl _ _, S1', .nil, fD, goal⟩, ?_⟩
  rintro i m H2 ⟨rfl, hle, Hf2, ρ2, acc, xs, g2, S2, ha, hfD, h3⟩
  by_cases hlt : i < items.length
  · have ed : items[i]? = some items[i] := List.getElem?_eq_getElem hlt
    rw [List.drop_eq_getElem_cons hlt] at h3
    unfold lcL2 at h3
    obtain ⟨go, yd⟩ := (wk' Hf2 H2 i g2.1 S2.fz ((sp _).trans S2.pr)).2 _ ed
    cases q : sto items[i] ρ2 with
    | none => rw [q] at h3; exact h3.elim
    | some ρ3 =>
      rw [q] at h3
      dsimp only at h3
      refine .inr ⟨go, fun H' => ∃ Hf' ρ' acc xs, Gro Pr Hf1 Hf' ∧ Sta c.K c.vs0 (upd Pr D (.lst xs)) Hf' H' (wipe σ vs) ρ' ∧ DpAll c.K Hf' xs acc ∧ Hf' D = none ∧
        GC c Pr D (wipe σ vs) (fun H' => Q (.ref D) H') Hf' (lcL2 sto ft f1 sto1 ft1 fe vs vs1 (items.drop (i + 1)) acc ρ'), fun H' ⟨Hf', ρ', acc', xs', a1, a2, a3, a4, a6⟩ => ⟨items.length - (i + 1), by omega, rfl, hlt, Hf', ρ', acc', xs', a1, a2, a3, a4, a6⟩, fun x H3 y => ?_⟩
      obtain ⟨Hf3, g3, f3, s3, dx⟩ := yd x H3 y
      have S3 := S2.grow g3 f3 s3
      have g3' : Gro (upd Pr D (.lst xs)) Hf2 Hf3 := S2.groPr g3
      have g3p : Gro Pr Hf2 Hf3 := g3'.weak (sp _)
      have hfD3 : Hf3 D = none := g3'.2.1 D _ upd_same hfD
      refine hg x _ _ H3 _ Hf3 ρ2 ρ3 _ S3 dx q fun σ4 S4 b4 => ?_
      have b4' : wipe σ4 vs = wipe σ vs := (But.wipe vs σ).trans (hs _ _ b4)
      refine ⟨b4', ht σ4 H3 _ Hf3 ρ3 _ S4 ?_⟩
      have h4 := GC.mono g3p h3
      match et : ft ρ3, h4 with
      | some (.ok (false, ρ5)), h4 =>
        intro b Hf5 H5 g5 S5 eb
        cases (show b = false from eb)
        have h5 := GC.mono (g5.weak (sp _)) h4
        refine iteF ⟨Hf5, _, acc, xs, (g2.trans g3p).trans (g5.weak (sp _)), ?_, dpa_mono (g3.1.trans g5.1) _ _ ha, g5.2.1 D _ upd_same hfD3, h5⟩
        have := S5.wiped vs
        rw [b4'] at this
        exact this
      | some (.ok (true, ρ5)), h4 =>
        intro b Hf5 H5 g5 S5 eb
        cases (show b = true from eb)
        have h5 := GC.mono (g5.weak (sp _)) h4
        have hfD5 : Hf5 D = none := g5.2.1 D _ upd_same hfD3
        dsimp only at h5
        refine iteT (hi1 σ4 H5 _ Hf5 ρ5 _ S5 ?_)
        cases es : f1 ρ5 with
        | none => rw [es] at h5; exact h5.elim
        | some q5 =>
          cases q5 with
          | error x5 => rw [es] at h5; exact h5.elim
          | ok q5 =>
            obtain ⟨items1, ρ6⟩ := q5
            rw [es] at h5
            dsimp only at h5
            intro J1 Hf6 H6 g6 S6 wk1
            have wk1' : WOk c.K J1 Hf6 items1 := wk1
            have h6 := GC.mono (g6.weak (sp _)) h5
            have hfD6 : Hf6 D = none := g6.2.1 D _ upd_same hfD5
            cases ck1 : few items1 && few acc with
            | false => rw [ck1] at h6; exact h6.elim
            | true =>
              rw [ck1] at h6
              dsimp only at h6
              rw [Bool.and_eq_true] at ck1
              have l1 : items1.length ≤ 100000 := of_decide_eq_true ck1.1
              have l2 : acc.length ≤ 100000 := of_decide_eq_true ck1.2
              have gP : Gro Pr Hf1 Hf6 := ((g2.trans g3p).trans (g5.weak (sp _))).trans (g6.weak (sp _))
              refine ⟨fun j k H' => k = items1.length - j ∧ j ≤ items1.length ∧ ∃ Hf' ρ' acc' xs', Gro Pr Hf6 Hf' ∧ Sta c.K c.vs0 (upd Pr D (.lst xs')) Hf' H' (wipe σ4 vs1) ρ' ∧ DpAll c.K Hf' xs' acc' ∧ Hf' D = none ∧ acc'.length ≤ 100000 + j ∧
                  GD c Pr D (wipe σ vs) (fun H' => Q (.ref D) H') Hf' (fun a r => lcL2 sto ft f1 sto1 ft1 fe vs vs1 (items.drop (i + 1)) a (wipeE r vs)) (lcL sto1 ft1 fe vs1 (items1.drop j) acc' ρ'),
                ⟨items1.length, by omega, Nat.zero_le _, Hf6, _, acc, xs, Gro.refl _ _, S6.wiped vs1, dpa_mono ((g3.1.trans g5.1).trans g6.1) _ _ ha, hfD6, by omega, GD.of h6⟩, ?_⟩
              rintro j k H7 ⟨rfl, hle1, Hf7, ρ7, acc7, xs7, g7, S7, ha7, hfD7, hal, h7⟩
              by_cases hlt1 : j < items1.length
              · have ed1 : items1[j]? = some items1[j] := List.getElem?_eq_getElem hlt1
                rw [List.drop_eq_getElem_cons hlt1] at h7
                unfold lcL at h7
                obtain ⟨go1, yd1⟩ := (wk1' Hf7 H7 j g7.1 S7.fz).2 _ ed1
                cases q7 : sto1 items1[j] ρ7 with
                | none => rw [q7] at h7; exact h7.elim
                | some ρ8 =>
                  rw [q7] at h7
                  dsimp only at h7
                  refine .inr ⟨go1, fun H' => ∃ Hf' ρ' acc' xs', Gro Pr Hf6 Hf' ∧ Sta c.K c.vs0 (upd Pr D (.lst xs')) Hf' H' (wipe σ4 vs1) ρ' ∧ DpAll c.K Hf' xs' acc' ∧ Hf' D = none ∧ acc'.length ≤ 100000 + (j + 1) ∧
                    GD c Pr D (wipe σ vs) (fun H' => Q (.ref D) H') Hf' (fun a r => lcL2 sto ft f1 sto1 ft1 fe vs vs1 (items.drop (i + 1)) a (wipeE r vs)) (lcL sto1 ft1 fe vs1 (items1.drop (j + 1)) acc' ρ'),
                    fun H' ⟨Hf', ρ', acc', xs', a1, a2, a3, a4, a5, a6⟩ => ⟨items1.length - (j + 1), by omega, rfl, hlt1, Hf', ρ', acc', xs', a1, a2, a3, a4, a5, a6⟩, fun x8 H8 y8 => ?_⟩
                  obtain ⟨Hf8, g8, f8, s8, dx8⟩ := yd1 x8 H8 y8
                  have S8 := S7.grow g8 f8 s8
                  have g8' : Gro (upd Pr D (.lst xs7)) Hf7 Hf8 := S7.groPr g8
                  have g8p : Gro Pr Hf7 Hf8 := g8'.weak (sp _)
                  have hfD8 : Hf8 D = none := g8'.2.1 D _ upd_same hfD7
                  refine hg1 x8 _ _ H8 _ Hf8 ρ7 ρ8 _ S8 dx8 q7 fun σ9 S9 b9 => ?_
                  have b9' : wipe σ9 vs1 = wipe σ4 vs1 := (But.wipe vs1 σ4).trans (hs1 _ _ b9)
                  refine ⟨b9', ht1 σ9 H8 _ Hf8 ρ8 _ S9 ?_⟩
                  have h8 := GD.mono g8p h7
                  match et1 : ft1 ρ8, h8 with
                  | some (.ok (false, ρ10)), h8 =>
                    intro b Hf10 H10 g10 S10 eb
                    cases (show b = false from eb)
                    have h10 := GD.mono (g10.weak (sp _)) h8
                    refine iteF ⟨Hf10, _, acc7, xs7, (g7.trans g8p).trans (g10.weak (sp _)), ?_, dpa_mono (g8.1.trans g10.1) _ _ ha7, g10.2.1 D _ upd_same hfD8, by omega, h10⟩
                    have := S10.wiped vs1
                    rw [b9'] at this
                    exact this
                  | some (.ok (true, ρ10)), h8 =>
                    intro b Hf10 H10 g10 S10 eb
                    cases (show b = true from eb)
                    have h10 := GD.mono (g10.weak (sp _)) h8
                    have hfD10 : Hf10 D = none := g10.2.1 D _ upd_same hfD8
                    dsimp only at h10
                    refine iteT (he σ9 H10 _ Hf10 ρ10 _ S10 ?_)
                    cases ee : fe ρ10 with
                    | none => rw [ee] at h10; exact h10.elim
                    | some q10 =>
                      cases q10 with
                      | error x10 => rw [ee] at h10; exact h10.elim
                      | ok q10 =>
                        obtain ⟨r, ρ11⟩ := q10
                        rw [ee] at h10
                        dsimp only at h10
                        intro z Hf11 H11 g11 S11 rz
                        have h11 := GD.mono (g11.weak (sp _)) h10
                        cases ef : fzR r ρ11 with
                        | none => rw [ef] at h11; exact h11.elim
                        | some q11 =>
                          cases q11 with
                          | error x11 => rw [ef] at h11; exact h11.elim
                          | ok q11 =>
                            obtain ⟨d, ρ12⟩ := q11
                            rw [ef] at h11
                            dsimp only at h11
                            obtain ⟨Hf12, g12, S12, dz⟩ := S11.fzr rz ef
                            have h12 := GD.mono (g12.weak (sp _)) h11
                            have hfD12 : Hf12 D = none := g12.2.1 D _ upd_same (g11.2.1 D _ upd_same hfD10)
                            have hl : xs7.length = acc7.length := dpa_len ha7
                            refine ⟨xs7, S12.pr D _ upd_same, by rw [hl]; exact Nat.lt_of_le_of_lt (Nat.le_trans hal (Nat.add_le_add_left (Nat.le_trans (Nat.le_of_lt hlt1) l1) _)) (by decide), Hf12, _, acc7 ++ [d], xs7 ++ [z],
                              (((g7.trans g8p).trans (g10.weak (sp _))).trans (g11.weak (sp _))).trans (g12.weak (sp _)), ?_, dpa_app (dpa_mono (((g8.1.trans g10.1).trans g11.1).trans g12.1) _ _ ha7) (.cons dz .nil), hfD12, by rw [List.length_append]; exact Nat.succ_le_succ hal, h12⟩
                            have w := S12.wiped vs1
                            rw [b9'] at w
                            exact w.bump hfD12
              · have ej : j = items1.length := by omega
                have hnil : items1.drop j = [] := List.drop_eq_nil_of_le (by omega)
                rw [hnil] at h7
                refine .inl ⟨(wk1' Hf7 H7 j g7.1 S7.fz).1 (by omega), Hf7, wipeE ρ7 vs, acc7, xs7, gP.trans g7, ?_, ha7, hfD7, h7⟩
                have w := S7.wiped vs
                rw [wipe_sub hv, b4'] at w
                exact w
  · have ei : i = items.length := by omega
    rw [List.drop_eq_nil_of_le (by omega)] at h3
    exact .inl ⟨(wk' Hf2 H2 i g2.1 S2.fz ((sp _).trans S2.pr)).1 (by omega), h3 Hf2 H2 xs (Gro.refl _ _) S2 ha hfD⟩


theorem je_lc2 {is is1 vs vs1 : List Nat} {wi : TI} {src : En → RM (List PyData)} {g g1 : TG} {sto sto1 : Sto} {tt tt1 : TT} {ft ft1 : En → RM Bool} {wi1 : TI} {f1 : En → RM (List PyData)} {te : TE} {fe : En → RM Rv} (hi : JI c wi src) (hg : GOk c.K c.vs0 is g sto) (hs : ∀ σ σ', But is σ σ' → But vs σ σ')
    (ht : JT c.q tt ft) (hi1 : JI c.q wi1 f1) (hg1 : GOk c.K c.vs0 is1 g1 sto1) (hs1 : ∀ σ σ', But is1 σ σ' → But vs1 σ σ') (ht1 : JT c.q tt1 ft1) (he : JE c.q te fe) (hv : ∀ i ∈ vs1, i ∈ vs) : JE c (tLc2 wi g tt wi1 g1 tt1 te vs vs1) (lcM2 src sto ft f1 sto1 ft1 fe vs vs1) := by
  intro σ H Pr Hf ρ Q S h
  show wi σ H fun J H1 => _
  refine hi σ H Pr Hf ρ _ S (Good.bind h fun items ρ1 _ J Hf1 H1 g1 S1 wk h1 => ?_)
  have wk' : WOk c.K J Hf1 items := wk
  exact lc2_rest (J := J) (items := items) hg hs ht hi1 hg1 hs1 ht1 he hv S1 (fun Hf2 H i s1 s2 _ => wk' Hf2 H i s1 s2) h1
def lcOM2 (i : Nat) (sto : Sto) (test : En → RM Bool) (f1 : En → RM (List PyData)) (sto1 : Sto) (test1 : En → RM Bool) (elt : En → RM Rv) (vs vs1 : List Nat) : En → RM Rv := fun ρ => match ρ[i]? with
  | some (.ow k ds) => ck (noOwn (ρ.set i .un) vs && few ds) (match lcL2 sto test f1 sto1 test1 elt vs vs1 ds [] (wipeE (ρ.set i .un) vs) with
    | some (.ok (acc, ρ2)) => some (.ok (.nw acc, (unw (ρ.set i .un) ρ2 vs).set i (.ow k ds)))
    | _ => none)
  | _ => lcM2 (seqM (varM i)) sto test f1 sto1 test1 elt vs vs1 ρ
theorem je_lcO2 {i : Nat} {is is1 vs vs1 : List Nat} {g g1 : TG} {sto sto1 : Sto} {tt tt1 : TT} {ft ft1 : En → RM Bool} {wi1 : TI} {f1 : En → RM (List PyData)} {te : TE} {fe : En → RM Rv} (hg : GOk c.K c.vs0 is g sto) (hs : ∀ σ σ', But is σ σ' → But vs σ σ')
    (ht : JT c.q tt ft) (hi1 : JI c.q wi1 f1) (hg1 : GOk c.K c.vs0 is1 g1 sto1) (hs1 : ∀ σ σ', But is1 σ σ' → But vs1 σ σ') (ht1 : JT c.q tt1 ft1) (he : JE c.q te fe) (hv : ∀ i ∈ vs1, i ∈ vs) : JE c (tLc2 (iSeq c.K (tVar i)) g tt wi1 g1 tt1 te vs vs1) (lcOM2 i sto ft f1 sto1 ft1 fe vs vs1) := by
  intro σ H Pr Hf ρ Q S h
  unfold lcOM2 at h
  match e : ρ[i]?, h with
  | some .un, h => exact je_lc2 (ji_seq je_var) hg hs ht hi1 hg1 hs1 ht1 he hv σ H Pr Hf ρ Q S h
  | some (.va _), h => exact je_lc2 (ji_seq je_var) hg hs ht hi1 hg1 hs1 ht1 he hv σ H Pr Hf ρ Q S h
  | none, h => exact je_lc2 (ji_seq je_var) hg hs ht hi1 hg1 hs1 ht1 he hv σ H Pr Hf ρ Q S h
  | some (.ow k ds), h =>
    obtain ⟨o, e1, p, xs, rfl, h1, h2, h3, h4, h5⟩ := S.sl i _ e
    refine ⟨.ref p, e1, p, xs, rfl, .inl ⟨.inl (.inl h3), ?_⟩⟩
    have sp : Same Pr (upd Pr p (.lst xs)) := same_new h2
    have ne : ∀ (j k' : Nat) (es : List PyData), (ρ.set i .un)[j]? = some (.ow k' es) → j ≠ i ∧ ρ[j]? = some (.ow k' es) := fun j k' es ej => by
      by_cases hj : i = j
      · subst hj
        rw [get_set_eq e] at ej
        cases ej
      · rw [List.getElem?_set_ne hj] at ej
        exact ⟨fun z => hj z.symm, ej⟩
    have S2 : Sta c.K c.vs0 (upd Pr p (.lst xs)) Hf H σ (ρ.set i .un) := by
      refine ⟨S.fz, fun b u eb => ?_, fun j s ej => ?_, fun a b q ha hb => ?_, S.tb, S.nf, S.np.upd⟩
      · by_cases q : b = p
        · subst q
          rw [upd_same] at eb
          rw [h3]
          exact eb
        · rw [upd_ne q] at eb
          exact S.pr b u eb
      · by_cases hj : i = j
        · subst hj
          rw [get_set_eq e] at ej
          cases ej
          exact ⟨_, e1, trivial⟩
        · rw [List.getElem?_set_ne hj] at ej
          obtain ⟨o, q1, q2⟩ := S.sl j s ej
          refine ⟨o, q1, ?_⟩
          cases s with
          | un => trivial
          | va d => exact q2
          | ow k' es =>
            obtain ⟨q, ys, a1, a2, a3, a4⟩ := q2
            have nq : q ≠ p := fun z => hj (S.dj i j p ⟨⟨k, ds, e⟩, e1⟩ ⟨⟨k', es, ej⟩, by rw [q1, a1, z]⟩)
            exact ⟨q, ys, a1, a2, by rw [upd_ne nq]; exact a3, a4⟩
      · obtain ⟨⟨ka, da, ea⟩, ea2⟩ := ha
        obtain ⟨⟨kb, db, eb⟩, eb2⟩ := hb
        exact S.dj a b q ⟨⟨ka, da, (ne a ka da ea).2⟩, ea2⟩ ⟨⟨kb, db, (ne b kb db eb).2⟩, eb2⟩
    refine lc2_rest (J := Itl c.K p) (items := ds) hg hs ht hi1 hg1 hs1 ht1 he hv S2 ?_ ?_
    · intro Hf1 H2 j s1 s2 s3
      have hq : SqL c.K H2 p xs := .inl (.inl (s3 p _ upd_same))
      refine ⟨fun hj => ⟨xs, hq, by rw [dpa_len h4]; exact hj⟩, fun d hd => ?_⟩
      obtain ⟨v, ev, hv⟩ := dpa_get' h4 hd
      refine ⟨⟨xs, v, hq, ev⟩, fun x H' y => ?_⟩
      obtain ⟨y1, y2⟩ := y
      subst y1
      have y3 := y2 xs hq
      rw [ev] at y3
      cases y3
      exact ⟨Hf1, Gro.refl _ _, s2, Same.refl _, dp_mono s1 _ _ hv⟩
    · cases hc : noOwn (ρ.set i .un) vs && few ds with
      | false => simp only [hc] at h; exact h.elim
      | true =>
        simp only [hc] at h ⊢
        match el : lcL2 sto ft f1 sto1 ft1 fe vs vs1 ds [] (wipeE (ρ.set i .un) vs), h with
        | some (.ok (acc, ρ2)), h =>
          intro v Hf' H' g' S' rv
          obtain ⟨q, ys, rfl, r1, r2, r3, r4, r5⟩ := rv
          have hp' : H' p = some (.lst xs) := S'.pr p _ upd_same
          have hf' : Hf' p = none := g'.2.1 p _ upd_same h1
          have nqp : q ≠ p := fun z => by
            rw [z, upd_same] at r2
            cases r2
          rw [upd_ne nqp] at r2
          have SW := S'.weaken sp
          -- the slot is given back
          have own : ∀ (j : Nat) (b : Addr), Own σ ((unw (ρ.set i .un) ρ2 vs).set i (.ow k ds)) j b → (j = i ∧ b = p) ∨ (j ≠ i ∧ b ≠ p ∧ Own σ (unw (ρ.set i .un) ρ2 vs) j b) := fun j b ⟨⟨k', es, w1⟩, w2⟩ => by
            by_cases hj : i = j
            · subst hj
              rw [e1] at w2
              cases w2
              exact .inl ⟨rfl, rfl⟩
            · rw [List.getElem?_set_ne hj] at w1
              obtain ⟨o, q1, b', zs, q2, _, q3, _⟩ := S'.sl j _ w1
              rw [w2] at q1
              cases q1
              cases q2
              refine .inr ⟨fun z => hj z.symm, fun z => ?_, ⟨k', es, w1⟩, w2⟩
              rw [z, upd_same] at q3
              cases q3
          have S3 : Sta c.K c.vs0 Pr Hf' H' σ ((unw (ρ.set i .un) ρ2 vs).set i (.ow k ds)) := by
            refine ⟨SW.fz, SW.pr, fun j s ej => ?_, fun a b z ha hb => ?_, SW.tb, SW.nf, SW.np⟩
            · by_cases hj : i = j
              · subst hj
                rw [List.getElem?_set_self'] at ej
                cases w : (unw (ρ.set i .un) ρ2 vs)[i]? with
                | none => rw [w] at ej; cases ej
                | some t =>
                  rw [w] at ej
                  cases ej
                  exact ⟨_, e1, p, xs, rfl, hf', h2, hp', dpa_mono g'.1 _ _ h4, h5⟩
              · rw [List.getElem?_set_ne hj] at ej
                exact SW.sl j s ej
            · rcases own a z ha with ⟨a1, a2⟩ | ⟨a1, a2, a3⟩
              · rcases own b z hb with ⟨b1, b2⟩ | ⟨b1, b2, b3⟩
                · rw [a1, b1]
                · exact absurd a2 b2
              · rcases own b z hb with ⟨b1, b2⟩ | ⟨b1, b2, b3⟩
                · exact absurd b2 a2
                · exact SW.dj a b z a3 b3
          refine h (.ref q) Hf' H' (g'.weak sp) S3 ⟨q, ys, rfl, r1, r2, r3, r4, fun j hj => ?_⟩
          rcases own j q hj with ⟨a1, a2⟩ | ⟨a1, a2, a3⟩
          · exact nqp a2
          · exact r5 j a3
end
end Pl

namespace Pl
open PySem PySem.Spec PyProof.Rows L2
/-! ### one's own list made longer by another one of one's own -/
def extOM (i j : Nat) : En → RM Ot := fun ρ => match ρ[i]?, ρ[j]? with
  | some (.ow k ds), some (.ow _ es) => ck (few (ds ++ es)) (some (.ok (.nx, ρ.set i (.ow k (ds ++ es)))))
  | _, _ => none
section
variable {c : Cn}
theorem js_extO {i j : Nat} : JS c (tDrop (tBM c.K "list" rExtend (tVar i) (tCons (tVar j) tNil))) (extOM i j) := by
  intro Dn σ H Pr Hf ρ S h
  unfold extOM at h
  match e : ρ[i]?, e2 : ρ[j]?, h with
  | some (.ow k ds), some (.ow k2 es), h =>
    obtain ⟨o, e1, p, xs, rfl, h1, h2, h3, h4, h5⟩ := S.sl i _ e
    obtain ⟨o2, f1, q, zs, rfl, m1, m2, m3, m4, m5⟩ := S.sl j _ e2
    refine ⟨.ref p, e1, .inl ⟨rfl, xs, .inl (.inl h3)⟩, ?_⟩
    refine ⟨.ref q, f1, ?_⟩
    cases hb : few (ds ++ es) with
    | false => simp only [hb] at h; exact h.elim
    | true =>
      simp only [hb] at h
      have hl : (ds ++ es).length ≤ 100000 := of_decide_eq_true hb
      refine ⟨p, q, xs, zs, rfl, rfl, h3, m3, ?_, GoodS.nx (S.wr e e1 (dpa_app h4 m4)) h⟩
      rw [dpa_len h4, dpa_len m4, ← List.length_append]
      exact Nat.le_trans hl (by decide)
  | some .un, some .un, h => exact h.elim
  | some .un, some (.va _), h => exact h.elim
  | some .un, some (.ow _ _), h => exact h.elim
  | some .un, none, h => exact h.elim
  | some (.va _), some .un, h => exact h.elim
  | some (.va _), some (.va _), h => exact h.elim
  | some (.va _), some (.ow _ _), h => exact h.elim
  | some (.va _), none, h => exact h.elim
  | some (.ow _ _), some .un, h => exact h.elim
  | some (.ow _ _), some (.va _), h => exact h.elim
  | some (.ow _ _), none, h => exact h.elim
  | none, some .un, h => exact h.elim
  | none, some (.va _), h => exact h.elim
  | none, some (.ow _ _), h => exact h.elim
  | none, none, h => exact h.elim
end
end Pl

namespace L2
open PySem PySem.Spec PyProof.Rows
/-! ### a tuple once: the tuple itself -/
theorem tuple_mul1 (l : Addr) (items : Array Value) (n : Nat) (dd : Option Addr) (sl : Array (Option Value)) (u : Tok) :
    Meets (Builtin.«tuple.__mul__» ⟨[.ref l, .int 1 u], []⟩) (fun _ R s => s.heap.get? l = some { cls := .type "tuple", dict := dd, data := .seq items n, slots := sl } ∧
      R (.ok (.ret (Value.ref l))) s) :=
  .of_wp fun prog w A R s h => by
    obtain ⟨hp, g, d, tk, os⟩ := s
    obtain ⟨hl, h⟩ := h
    have f1 := AutoSeq1.idx_int
    wp_walk using wpAny_loadPart' hl
    repeat (first
      | (refine wpAny_ite_false (by decide) ?_; wp_walk using wpAny_loadPart' hl)
      | (refine wpAny_ite_true (by simp) ?_; wp_walk using wpAny_loadPart' hl))
    exact ⟨_, rfl, h⟩
def rRepT1 (K : PySem.W.Frag) : R2 := fun x y H Q => ∃ l xs, x = .ref l ∧ y = .int 1 ∧ SqT K H l xs ∧ Q (.ref l) H
theorem op_repT1 {X : Cx} : OpR X (binaryOp .Mult) (rRepT1 X.K) := by
  intro pins s σ H x y v u Q I rx ry h
  obtain ⟨l, xs, rfl, rfl, hT, q⟩ := h
  cases rx
  obtain ⟨t, rfl⟩ := ry
  obtain ⟨its, r, ⟨⟨cls, dd, data, sl⟩, ho, hc, n, hd⟩, hs⟩ := I.tuple hT
  simp only at hc hd
  subst hc hd
  exact wpAny_binaryOp_repeat_ref (T := "tuple") (U := "int") (by decide) ⟨_, ho, rfl⟩ (fun s' => typeIs_int s' 1 t) noFill_tuple_mul F.fills_int_mul F.slot_int_rmul repeat_tuple F.slot_int_index.lookup
    (call_meets F.slot_int_rmul (typeIs_int s 1 t) F.entry_int_rmul (F.args_int_rmul_2 _ _) (int_rmul_tuple 1 t l its.toArray n dd sl)
      ⟨ho, rfl, ⟨_, ho, rfl⟩, call_meets F.slot_tuple_mul ⟨_, ho, rfl⟩ F.entry_tuple_mul (F.args_tuple_mul_2 _ _) (tuple_mul1 l its.toArray n dd sl t) ⟨ho, ⟨.ref l, H, I, rfl, q⟩⟩⟩)
end L2
namespace Pl
open PySem PySem.Spec PyProof.Rows L2
def rRep2 (K : PySem.W.Frag) : R2 := rOr (rRepT K) (rRepT1 K)
theorem rep2K {X : Cx} (K : PySem.W.Frag) (hk : X.K = K := by rfl) : OpR X (binaryOp .Mult) (rRep2 K) := by
  subst hk
  exact op_or op_repT op_repT1
def rep2G (d e : PyData) : Option Rv := match d, e with
  | .tuple ds, .int 1 => some (.va (.tuple ds))
  | _, _ => repG d e
theorem ok_rep2 {K : PySem.W.Frag} : OpOk K (rRep2 K) rep2G := by
  intro Hf H x y d e z Q f dx dy hz k
  unfold rep2G at hz
  split at hz
  · rename_i ds
    cases hz
    obtain ⟨p, xs, rfl, h1, h2⟩ := dx.tup
    exact .inr ⟨p, xs, rfl, dy.int, same_t f h1, k.d f (.tup h1 h2)⟩
  · exact .inl (ok_rep Hf H x y d e z Q f dx dy hz k)
end Pl

/-! rules by which simp runs a function of the plain layer step by step: each continuation has a name, so that simp goes on at one place alone -/
namespace Pl
namespace X
open PySem PySem.Spec PyProof.Rows L2
def obK {α : Type} : Option α → En → RM α
  | some z, ρ => some (.ok (z, ρ))
  | none, _ => none
def opK3 (g : PyData → PyData → Option Rv) : Option PyData → Option PyData → En → RM Rv
  | some d, some e, ρ => obK (g d e) ρ
  | _, _, _ => none
def opK2 (g : PyData → PyData → Option Rv) (ra rb : Rv) (ρ : En) : RM Rv := opK3 g (look ρ ra) (look ρ rb) ρ
def opK1 (g : PyData → PyData → Option Rv) (fb : En → RM Rv) (ra : Rv) (ρ : En) : RM Rv := RM.bnd (fb ρ) (opK2 g ra)
def unK2 (g : PyData → Option Rv) : Option PyData → En → RM Rv
  | some d, ρ => obK (g d) ρ
  | none, _ => none
def unK1 (g : PyData → Option Rv) (ra : Rv) (ρ : En) : RM Rv := unK2 g (look ρ ra) ρ
def consK2 (r : Rv) (rs : List Rv) (ρ : En) : RM (List Rv) := some (.ok (r.fz :: rs, ρ))
def consK1 (fr : En → RM (List Rv)) (r : Rv) (ρ : En) : RM (List Rv) := RM.bnd (fr ρ) (consK2 r)
def cbK2 (g : List PyData → Option Rv) : Option (List PyData) → En → RM Rv
  | some ds, ρ => obK (g ds) ρ
  | none, _ => none
def cbK1 (g : List PyData → Option Rv) (rs : List Rv) (ρ : En) : RM Rv := cbK2 g (looks ρ rs) ρ
def tupK2 (ds : List PyData) (ρ : En) : RM Rv := ck (few ds) (some (.ok (.va (.tuple ds), ρ)))
def tupK1 (rs : List Rv) (ρ : En) : RM Rv := RM.bnd (fzAll rs ρ) tupK2
def lstK2 (ds : List PyData) (ρ : En) : RM Rv := ck (few ds) (some (.ok (.nw ds, ρ)))
def lstK1 (rs : List Rv) (ρ : En) : RM Rv := RM.bnd (fzAll rs ρ) lstK2
def fzK2 (d : PyData) (ds : List PyData) (ρ : En) : RM (List PyData) := some (.ok (d :: ds, ρ))
def fzK1 (rs : List Rv) (d : PyData) (ρ : En) : RM (List PyData) := RM.bnd (fzAll rs ρ) (fzK2 d)
def bK : Rv → En → RM Bool
  | .va (.bool b), ρ => some (.ok (b, ρ))
  | _, _ => none
def notK (b : Bool) (ρ : En) : RM Bool := some (.ok (!b, ρ))
def andK (t : En → RM Bool) : Bool → En → RM Bool
  | true, ρ => t ρ
  | false, ρ => some (.ok (false, ρ))
def orK (t : En → RM Bool) : Bool → En → RM Bool
  | true, ρ => some (.ok (true, ρ))
  | false, ρ => t ρ
def andVK (fb : En → RM Rv) : Rv → En → RM Rv
  | .va (.bool true), ρ => fb ρ
  | .va (.bool false), ρ => some (.ok (.va (.bool false), ρ))
  | _, _ => none
def orVK (fb : En → RM Rv) : Rv → En → RM Rv
  | .va (.bool true), ρ => some (.ok (.va (.bool true), ρ))
  | .va (.bool false), ρ => fb ρ
  | _, _ => none
def notVK : Rv → En → RM Rv
  | .va (.bool b), ρ => some (.ok (.va (.bool !b), ρ))
  | _, _ => none
def ifXK (f g : En → RM Rv) : Bool → En → RM Rv
  | true, ρ => f ρ
  | false, ρ => g ρ
def partK : Rv → En → RM (Option Int)
  | .va (.int i), ρ => some (.ok (some i, ρ))
  | _, _ => none
def slK4 (g : PyData → Option Int → Option Int → Option Rv) (lo hi : Option Int) : Option PyData → En → RM Rv
  | some d, ρ => obK (g d lo hi) ρ
  | none, _ => none
def slK3 (g : PyData → Option Int → Option Int → Option Rv) (ra : Rv) (lo hi : Option Int) (ρ : En) : RM Rv := slK4 g lo hi (look ρ ra) ρ
def slK2 (g : PyData → Option Int → Option Int → Option Rv) (fh : En → RM (Option Int)) (ra : Rv) (lo : Option Int) (ρ : En) : RM Rv := RM.bnd (fh ρ) (slK3 g ra lo)
def slK1 (g : PyData → Option Int → Option Int → Option Rv) (fl fh : En → RM (Option Int)) (ra : Rv) (ρ : En) : RM Rv := RM.bnd (fl ρ) (slK2 g fh ra)
def seqK2 (d : PyData) (ρ : En) : RM (List PyData) := obK (seqItems d) ρ
def seqK1 (r : Rv) (ρ : En) : RM (List PyData) := RM.bnd (fzR r ρ) seqK2
def sqK (g : En → RM Ot) : Ot → En → RM Ot
  | .nx, ρ => g ρ
  | .rt r, ρ => some (.ok (.rt r, ρ))
  | .bk, ρ => some (.ok (.bk, ρ))
  | .ct, ρ => some (.ok (.ct, ρ))
def ifK (f g : En → RM Ot) : Bool → En → RM Ot
  | true, ρ => f ρ
  | false, ρ => g ρ
def asgK2 (i : Nat) : Option (PyData × En) → RM Ot
  | some (d, ρ) => some (.ok (.nx, ρ.set i (.va d)))
  | none => none
def asgK (i : Nat) : Rv → En → RM Ot
  | .va d, ρ => some (.ok (.nx, ρ.set i (.va d)))
  | .nw ds, ρ => some (.ok (.nx, ρ.set i (.ow 0 ds)))
  | .sl j, ρ => asgK2 i (fzS ρ j)
def nxO : Option En → RM Ot
  | some ρ => some (.ok (.nx, ρ))
  | none => none
def unpK2 (sto : Sto) (d : PyData) (ρ : En) : RM Ot := nxO (sto d ρ)
def unpK1 (sto : Sto) (r : Rv) (ρ : En) : RM Ot := RM.bnd (fzR r ρ) (unpK2 sto)
def retK (r : Rv) (ρ : En) : RM Ot := some (.ok (.rt r, ρ))
def dropK (_ : Rv) (ρ : En) : RM Ot := some (.ok (.nx, ρ))
def parK2 (i j : Nat) : List PyData → En → RM Ot
  | [d, e], ρ => some (.ok (.nx, (ρ.set i (.va d)).set j (.va e)))
  | _, _ => none
def parK1 (i j : Nat) (rs : List Rv) (ρ : En) : RM Ot := RM.bnd (fzAll rs ρ) (parK2 i j)
def setO (j : Nat) (rb : Rv) : Option En → RM Ot
  | some ρ => nxO (setR j rb ρ)
  | none => none
def parXK2 (i j : Nat) (ra rb : Rv) (ρ : En) : RM Ot := setO j rb (setR i ra ρ)
def parXK1 (i j : Nat) (fb : En → RM Rv) (ra : Rv) (ρ : En) : RM Ot := RM.bnd (fb ρ) (parXK2 i j ra)
def appK3 (i : Nat) (d : PyData) (ρ : En) : Option Sl → RM Ot
  | some (.ow k ds) => ck (few ds) (some (.ok (.nx, ρ.set i (.ow k (ds ++ [d])))))
  | _ => none
def appK2 (i : Nat) (d : PyData) (ρ : En) : RM Ot := appK3 i d ρ ρ[i]?
def appK1 (i : Nat) (r : Rv) (ρ : En) : RM Ot := RM.bnd (fzR r ρ) (appK2 i)
def appK0 (i : Nat) (fe : En → RM Rv) (ρ : En) : Option Sl → RM Ot
  | some (.ow _ _) => RM.bnd (fe ρ) (appK1 i)
  | _ => none
def extK2 (i : Nat) (ρ : En) : Rv → Option Sl → RM Ot
  | .nw es, some (.ow k ds) => ck (few (ds ++ es)) (some (.ok (.nx, ρ.set i (.ow k (ds ++ es)))))
  | _, _ => none
def extK1 (i : Nat) (r : Rv) (ρ : En) : RM Ot := extK2 i ρ r ρ[i]?
def extK0 (i : Nat) (fe : En → RM Rv) (ρ : En) : Option Sl → RM Ot
  | some (.ow _ _) => RM.bnd (fe ρ) (extK1 i)
  | _ => none
def extOK (i : Nat) (ρ : En) : Option Sl → Option Sl → RM Ot
  | some (.ow k ds), some (.ow _ es) => ck (few (ds ++ es)) (some (.ok (.nx, ρ.set i (.ow k (ds ++ es)))))
  | _, _ => none
def augK1 (i : Nat) (h : Int → Int → Int) (a : Int) : Rv → En → RM Ot
  | .va (.int b), ρ => some (.ok (.nx, ρ.set i (.va (.int (h a b)))))
  | _, _ => none
def augK0 (i : Nat) (h : Int → Int → Int) (fe : En → RM Rv) (ρ : En) : Option Sl → RM Ot
  | some (.va (.int a)) => RM.bnd (fe ρ) (augK1 i h a)
  | _ => none
def setK5 (i k : Nat) (d : PyData) (ds : List PyData) (ρ : En) : Option Nat → RM Ot
  | some j => some (.ok (.nx, ρ.set i (.ow k (ds.set j d))))
  | none => none
def setK4 (i : Nat) (d : PyData) (ρ : En) : Rv → Option Sl → RM Ot
  | .va (.int n), some (.ow k ds) => setK5 i k d ds ρ (ixN ds.length n)
  | _, _ => none
def setK3 (i : Nat) (d : PyData) (ri : Rv) (ρ : En) : RM Ot := setK4 i d ρ ri ρ[i]?
def setK2b (i : Nat) (fi : En → RM Rv) (d : PyData) (ρ : En) : Option Sl → RM Ot
  | some (.ow _ _) => RM.bnd (fi ρ) (setK3 i d)
  | _ => none
def setK2 (i : Nat) (fi : En → RM Rv) (d : PyData) (ρ : En) : RM Ot := setK2b i fi d ρ ρ[i]?
def setK1 (i : Nat) (fi : En → RM Rv) (r : Rv) (ρ : En) : RM Ot := RM.bnd (fzR r ρ) (setK2 i fi)
def forCK (sto : Sto) (f : En → RM Ot) (ds : List PyData) : Ot → En → RM Ot
  | .nx, ρ => forL sto f ds ρ
  | .ct, ρ => forL sto f ds ρ
  | .bk, ρ => some (.ok (.nx, ρ))
  | .rt r, ρ => some (.ok (.rt r, ρ))
def forCO (sto : Sto) (f : En → RM Ot) (ds : List PyData) : Option En → RM Ot
  | some ρ => RM.bnd (f ρ) (forCK sto f ds)
  | none => none
def rng1K2 (ρ : En) : Option (List Int) → RM (List PyData)
  | some [j] => ck (small62 j) (some (.ok (rngI 0 j.toNat, ρ)))
  | _ => none
def rng1K1 (rs : List Rv) (ρ : En) : RM (List PyData) := rng1K2 ρ (intsR rs)
def isiK2 (q : Ty5) : Option PyData → En → RM Rv
  | some d, ρ => some (.ok (.va (.bool (isT q d)), ρ))
  | none, _ => none
def isiK (q : Ty5) (r : Rv) (ρ : En) : RM Rv := isiK2 q (look ρ r) ρ
def imK : Rv → En → RM Bool
  | .va (.int i), ρ => some (.ok ((i != 0), ρ))
  | _, _ => none
def enumK3 (ρ : En) : Option (List PyData) → RM (List PyData)
  | some es => some (.ok (enumI es 0, ρ))
  | none => none
def enumK2 : List PyData → En → RM (List PyData)
  | [d], ρ => enumK3 ρ (seqItems d)
  | _, _ => none
def enumK1 (rs : List Rv) (ρ : En) : RM (List PyData) := RM.bnd (fzAll rs ρ) enumK2
def zipK2 (ds : List PyData) (ρ : En) : RM (List PyData) := match ds with
  | [.list ds, .list es] => some (.ok (zipI ds es, ρ))
  | [.tuple ds, .tuple es] => some (.ok (zipI ds es, ρ))
  | _ => none
def zipK1 (rs : List Rv) (ρ : En) : RM (List PyData) := RM.bnd (fzAll rs ρ) zipK2
def lstRgK2 (ρ : En) : Option Int → RM Rv
  | some n => ck (decide (0 ≤ n) && decide (n ≤ 100000)) (some (.ok (.nw (rngI 0 n.toNat), ρ)))
  | none => none
def lstRgK (r : Rv) (ρ : En) : RM Rv := lstRgK2 ρ (intR r)
def lcE : RM (List PyData) → RM (List PyData)
  | some (.ok (acc, ρ)) => some (.ok (acc, ρ))
  | _ => none
def lcU (ρ1 : En) (vs : List Nat) : RM (List PyData) → RM Rv
  | some (.ok (acc, ρ2)) => some (.ok (.nw acc, unw ρ1 ρ2 vs))
  | _ => none
def lcUO (ρ1 : En) (vs : List Nat) (i k : Nat) (ds : List PyData) : RM (List PyData) → RM Rv
  | some (.ok (acc, ρ2)) => some (.ok (.nw acc, (unw ρ1 ρ2 vs).set i (.ow k ds)))
  | _ => none
def lcK (sto : Sto) (t : En → RM Bool) (fe : En → RM Rv) (vs : List Nat) (items : List PyData) (ρ : En) : RM Rv := ck (noOwn ρ vs && few items) (lcU ρ vs (lcL sto t fe vs items [] (wipeE ρ vs)))
def lcOK (i : Nat) (sto : Sto) (t : En → RM Bool) (fe : En → RM Rv) (vs : List Nat) (ρ : En) : Option Sl → RM Rv
  | some (.ow k ds) => ck (noOwn (ρ.set i .un) vs && few ds) (lcUO (ρ.set i .un) vs i k ds (lcL sto t fe vs ds [] (wipeE (ρ.set i .un) vs)))
  | _ => lcM (seqM (varM i)) sto t fe vs ρ
def ck2 {α : Type} : Bool → RM α → RM α := ck
/-- what a call told, back in the caller's slots -/
def backO (ρ : En) (rs : List Rv) (r : Rv) (out : En) : Option En → RM Rv
  | some ρ2 => some (.ok (r, ρ2))
  | none => none
def backX (x : Xc) : Option En → RM Rv
  | some ρ2 => some (.error (x, ρ2))
  | none => none
def callR (ρ : En) (rs : List Rv) : RM Rv → RM Rv
  | some (.ok (r, out)) => ck (!isSl r) (backO ρ rs r out (back ρ rs out))
  | some (.error (x, out)) => backX x (back ρ rs out)
  | none => none
def quietR : RM Rv → RM Rv
  | some (.error _) => none
  | m => m
def ndB (l : List Nat) : Bool := decide l.Nodup
def callG (G : En → RM Rv) (rs : List Rv) (ρ : En) : Option En → RM Rv
  | some as => ck (ndB (owsOf ρ rs)) (callR ρ rs (G as))
  | none => none
def callK (G : En → RM Rv) (rs : List Rv) (ρ : En) : RM Rv := callG G rs ρ (argsOf ρ rs 0)
def kwK2 (G : En → RM Rv) (np nk : Nat) (perm : List Nat) (rs qs : List Rv) (ρ : En) : RM Rv := callK G (pickC np nk perm rs qs) ρ
def kwK1 (G : En → RM Rv) (np nk : Nat) (perm : List Nat) (fk : En → RM (List Rv)) (rs : List Rv) (ρ : En) : RM Rv := RM.bnd (fk ρ) (kwK2 G np nk perm rs)
def varK (i : Nat) (ρ : En) : Option Sl → RM Rv
  | some (.va d) => some (.ok (.va d, ρ))
  | some (.ow _ _) => some (.ok (.sl i, ρ))
  | _ => none
section
variable {α β : Type} {ρ ρ1 ρ2 : En} {i j k n : Nat} {d e : PyData} {ds es : List PyData} {r ra rb : Rv} {rs qs : List Rv} {fa fb fe : En → RM Rv} {fr fk : En → RM (List Rv)} {s t : En → RM Bool} {f g : En → RM Ot} {sto : Sto} {vs : List Nat} {G : En → RM Rv} {fl fh : En → RM (Option Int)} {x : Xc} {z : Int}
theorem bnd (a : α) (g : α → En → RM β) : RM.bnd (some (.ok (a, ρ))) g = g a ρ := rfl
theorem bndE (g : α → En → RM β) : RM.bnd (some (.error (x, ρ)) : RM α) g = some (.error (x, ρ)) := rfl
theorem ckt (m : RM α) : ck true m = m := rfl
theorem ob1 (a : α) : obK (some a) ρ = some (.ok (a, ρ)) := rfl
theorem var : varM i ρ = varK i ρ ρ[i]? := by
  unfold varM
  cases ρ[i]? with
  | none => rfl
  | some s => cases s <;> rfl
theorem varV : varK i ρ (some (.va d)) = some (.ok (.va d, ρ)) := rfl
theorem varO : varK i ρ (some (.ow k ds)) = some (.ok (.sl i, ρ)) := rfl
theorem cN : cM (.int (no_index (OfNat.ofNat n))) ρ = some (.ok (.va (nD n), ρ)) := rfl
theorem cB {b : Bool} : cM (.bool b) ρ = some (.ok (.va (.bool b), ρ)) := rfl
theorem cO : cM .none ρ = some (.ok (.va .none, ρ)) := rfl
theorem cS {x : Str} : cM (.str x) ρ = some (.ok (.va (.str x), ρ)) := rfl
theorem cNeg : cM (.int (-(no_index (OfNat.ofNat n)))) ρ = some (.ok (.va (.int (-(OfNat.ofNat n))), ρ)) := rfl
theorem op0 {g : PyData → PyData → Option Rv} : opM g fa fb ρ = RM.bnd (fa ρ) (opK1 g fb) := by
  unfold opM
  congr 1
  funext ra ρ1
  unfold opK1
  congr 1
  funext rb ρ2
  unfold opK2 lk
  cases look ρ2 ra with
  | none => rfl
  | some d => cases look ρ2 rb with
    | none => rfl
    | some e =>
      show ob (g d e) ρ2 = obK (g d e) ρ2
      cases g d e <;> rfl
theorem op1 {g : PyData → PyData → Option Rv} : opK1 g fb ra ρ = RM.bnd (fb ρ) (opK2 g ra) := rfl
theorem op2 {g : PyData → PyData → Option Rv} : opK2 g ra rb ρ = opK3 g (look ρ ra) (look ρ rb) ρ := rfl
theorem op3 {g : PyData → PyData → Option Rv} : opK3 g (some d) (some e) ρ = obK (g d e) ρ := rfl
theorem un0 {g : PyData → Option Rv} : unM g fa ρ = RM.bnd (fa ρ) (unK1 g) := by
  unfold unM
  congr 1
  funext ra ρ1
  unfold unK1 lk
  cases look ρ1 ra with
  | none => rfl
  | some d =>
    show ob (g d) ρ1 = obK (g d) ρ1
    cases g d <;> rfl
theorem un1 {g : PyData → Option Rv} : unK1 g ra ρ = unK2 g (look ρ ra) ρ := rfl
theorem un2 {g : PyData → Option Rv} : unK2 g (some d) ρ = obK (g d) ρ := rfl
theorem nil : nilM ρ = some (.ok ([], ρ)) := rfl
theorem cons0 : consM fa fr ρ = RM.bnd (fa ρ) (consK1 fr) := rfl
theorem cons1 : consK1 fr r ρ = RM.bnd (fr ρ) (consK2 r) := rfl
theorem cons2 : consK2 r rs ρ = some (.ok (r.fz :: rs, ρ)) := rfl
theorem cb0 {g : List PyData → Option Rv} : cbM g fr ρ = RM.bnd (fr ρ) (cbK1 g) := by
  unfold cbM
  congr 1
  funext rs ρ1
  unfold cbK1
  cases looks ρ1 rs with
  | none => rfl
  | some ds =>
    show ob (g ds) ρ1 = obK (g ds) ρ1
    cases g ds <;> rfl
theorem cb1 {g : List PyData → Option Rv} : cbK1 g rs ρ = cbK2 g (looks ρ rs) ρ := rfl
theorem cb2 {g : List PyData → Option Rv} : cbK2 g (some ds) ρ = obK (g ds) ρ := rfl
theorem tup0 : tupM fr ρ = RM.bnd (fr ρ) tupK1 := rfl
theorem tup1 : tupK1 rs ρ = RM.bnd (fzAll rs ρ) tupK2 := rfl
theorem tup2 : tupK2 ds ρ = ck (few ds) (some (.ok (.va (.tuple ds), ρ))) := rfl
theorem lst0 : lstM fr ρ = RM.bnd (fr ρ) lstK1 := rfl
theorem lst1 : lstK1 rs ρ = RM.bnd (fzAll rs ρ) lstK2 := rfl
theorem lst2 : lstK2 ds ρ = ck (few ds) (some (.ok (.nw ds, ρ))) := rfl
theorem fzA0 : fzAll [] ρ = some (.ok ([], ρ)) := rfl
theorem fzA1 : fzAll (r :: rs) ρ = RM.bnd (fzR r ρ) (fzK1 rs) := rfl
theorem fzA2 : fzK1 rs d ρ = RM.bnd (fzAll rs ρ) (fzK2 d) := rfl
theorem fzA3 : fzK2 d ds ρ = some (.ok (d :: ds, ρ)) := rfl
theorem b0 : bM fa ρ = RM.bnd (fa ρ) bK := by
  unfold bM
  congr 1
  funext r ρ1
  match r with
  | .va (.bool b) => rfl
  | .va .none => rfl
  | .va (.int _) => rfl
  | .va (.str _) => rfl
  | .va (.list _) => rfl
  | .va (.tuple _) => rfl
  | .va (.dict _) => rfl
  | .nw _ => rfl
  | .sl _ => rfl
theorem b1 {b : Bool} : bK (.va (.bool b)) ρ = some (.ok (b, ρ)) := rfl
theorem not0 : notM s ρ = RM.bnd (s ρ) notK := rfl
theorem not1 {b : Bool} : notK b ρ = some (.ok (!b, ρ)) := rfl
theorem and0 : andM s t ρ = RM.bnd (s ρ) (andK t) := by
  unfold andM; congr 1; funext b ρ1; cases b <;> rfl
theorem andt : andK t true ρ = t ρ := rfl
theorem andf : andK t false ρ = some (.ok (false, ρ)) := rfl
theorem or0 : orM s t ρ = RM.bnd (s ρ) (orK t) := by
  unfold orM; congr 1; funext b ρ1; cases b <;> rfl
theorem ort : orK t true ρ = some (.ok (true, ρ)) := rfl
theorem orf : orK t false ρ = t ρ := rfl
theorem andV0 : Pl.andV fa fb ρ = RM.bnd (fa ρ) (andVK fb) := by
  unfold Pl.andV
  congr 1
  funext r ρ1
  match r with
  | .va (.bool true) => rfl
  | .va (.bool false) => rfl
  | .va .none => rfl
  | .va (.int _) => rfl
  | .va (.str _) => rfl
  | .va (.list _) => rfl
  | .va (.tuple _) => rfl
  | .va (.dict _) => rfl
  | .nw _ => rfl
  | .sl _ => rfl
theorem andVt : andVK fb (.va (.bool true)) ρ = fb ρ := rfl
theorem andVf : andVK fb (.va (.bool false)) ρ = some (.ok (.va (.bool false), ρ)) := rfl
theorem orV0 : Pl.orV fa fb ρ = RM.bnd (fa ρ) (orVK fb) := by
  unfold Pl.orV
  congr 1
  funext r ρ1
  match r with
  | .va (.bool true) => rfl
  | .va (.bool false) => rfl
  | .va .none => rfl
  | .va (.int _) => rfl
  | .va (.str _) => rfl
  | .va (.list _) => rfl
  | .va (.tuple _) => rfl
  | .va (.dict _) => rfl
  | .nw _ => rfl
  | .sl _ => rfl
theorem orVt : orVK fb (.va (.bool true)) ρ = some (.ok (.va (.bool true), ρ)) := rfl
theorem orVf : orVK fb (.va (.bool false)) ρ = fb ρ := rfl
theorem notV0 : Pl.notV fa ρ = RM.bnd (fa ρ) notVK := by
  unfold Pl.notV
  congr 1
  funext r ρ1
  match r with
  | .va (.bool b) => rfl
  | .va .none => rfl
  | .va (.int _) => rfl
  | .va (.str _) => rfl
  | .va (.list _) => rfl
  | .va (.tuple _) => rfl
  | .va (.dict _) => rfl
  | .nw _ => rfl
  | .sl _ => rfl
theorem notV1 {b : Bool} : notVK (.va (.bool b)) ρ = some (.ok (.va (.bool !b), ρ)) := rfl
theorem ifX0 : Pl.ifX s fa fb ρ = RM.bnd (s ρ) (ifXK fa fb) := by
  unfold Pl.ifX; congr 1; funext b ρ1; cases b <;> rfl
theorem ifXt : ifXK fa fb true ρ = fa ρ := rfl
theorem ifXf : ifXK fa fb false ρ = fb ρ := rfl
theorem noP : Pl.noPart ρ = some (.ok (none, ρ)) := rfl
theorem part0 : partM fa ρ = RM.bnd (fa ρ) partK := by
  unfold partM
  congr 1
  funext r ρ1
  match r with
  | .va (.bool b) => rfl
  | .va .none => rfl
  | .va (.int _) => rfl
  | .va (.str _) => rfl
  | .va (.list _) => rfl
  | .va (.tuple _) => rfl
  | .va (.dict _) => rfl
  | .nw _ => rfl
  | .sl _ => rfl
theorem part1 : partK (.va (.int z)) ρ = some (.ok (some z, ρ)) := rfl
theorem partN : partK (.va (nD n)) ρ = some (.ok (some (n : Int), ρ)) := rfl
theorem sl0 {g : PyData → Option Int → Option Int → Option Rv} : slM g fa fl fh ρ = RM.bnd (fa ρ) (slK1 g fl fh) := by
  unfold slM
  congr 1
  funext ra ρ1
  unfold slK1
  congr 1
  funext lo ρ2
  unfold slK2
  congr 1
  funext hi ρ3
  unfold slK3 lk
  cases look ρ3 ra with
  | none => rfl
  | some d =>
    show ob (g d lo hi) ρ3 = obK (g d lo hi) ρ3
    cases g d lo hi <;> rfl
theorem sl1 {g : PyData → Option Int → Option Int → Option Rv} : slK1 g fl fh ra ρ = RM.bnd (fl ρ) (slK2 g fh ra) := rfl
theorem sl2 {g : PyData → Option Int → Option Int → Option Rv} {lo : Option Int} : slK2 g fh ra lo ρ = RM.bnd (fh ρ) (slK3 g ra lo) := rfl
theorem sl3 {g : PyData → Option Int → Option Int → Option Rv} {lo hi : Option Int} : slK3 g ra lo hi ρ = slK4 g lo hi (look ρ ra) ρ := rfl
theorem sl4 {g : PyData → Option Int → Option Int → Option Rv} {lo hi : Option Int} : slK4 g lo hi (some d) ρ = obK (g d lo hi) ρ := rfl
theorem seq0 : seqM fa ρ = RM.bnd (fa ρ) seqK1 := by
  unfold seqM
  congr 1
  funext r ρ1
  unfold seqK1
  congr 1
  funext d ρ2
  show ob (seqItems d) ρ2 = obK (seqItems d) ρ2
  cases seqItems d <;> rfl
theorem seq1 : seqK1 r ρ = RM.bnd (fzR r ρ) seqK2 := rfl
theorem seq2 : seqK2 d ρ = obK (seqItems d) ρ := rfl
theorem sq0 : sqM f g ρ = RM.bnd (f ρ) (sqK g) := by
  unfold sqM; congr 1; funext o ρ1; cases o <;> rfl
theorem sqn : sqK g .nx ρ = g ρ := rfl
theorem sqr : sqK g (.rt r) ρ = some (.ok (.rt r, ρ)) := rfl
theorem sqb : sqK g .bk ρ = some (.ok (.bk, ρ)) := rfl
theorem sqc : sqK g .ct ρ = some (.ok (.ct, ρ)) := rfl
theorem if0 : ifM s f g ρ = RM.bnd (s ρ) (ifK f g) := by
  unfold ifM; congr 1; funext b ρ1; cases b <;> rfl
theorem ift : ifK f g true ρ = f ρ := rfl
theorem iff : ifK f g false ρ = g ρ := rfl
theorem asg0 : asgM i fe ρ = RM.bnd (fe ρ) (asgK i) := by
  unfold asgM
  congr 1
  funext r ρ1
  cases r with
  | va d => rfl
  | nw ds => rfl
  | sl j =>
    show _ = asgK2 i (fzS ρ1 j)
    cases h : fzS ρ1 j with
    | none => simp only [h]; rfl
    | some q => simp only [h]; rfl
theorem asgV : asgK i (.va d) ρ = some (.ok (.nx, ρ.set i (.va d))) := rfl
theorem asgN : asgK i (.nw ds) ρ = some (.ok (.nx, ρ.set i (.ow 0 ds))) := rfl
theorem asgS : asgK i (.sl j) ρ = asgK2 i (fzS ρ j) := rfl
theorem asg2 : asgK2 i (some (d, ρ)) = some (.ok (.nx, ρ.set i (.va d))) := rfl
theorem nxS : nxO (some ρ) = some (.ok (.nx, ρ)) := rfl
theorem unp0 : unpM sto fe ρ = RM.bnd (fe ρ) (unpK1 sto) := rfl
theorem unp1 : unpK1 sto r ρ = RM.bnd (fzR r ρ) (unpK2 sto) := rfl
theorem unp2 : unpK2 sto d ρ = nxO (sto d ρ) := rfl
theorem ret0 : retM fe ρ = RM.bnd (fe ρ) retK := rfl
theorem ret1 : retK r ρ = some (.ok (.rt r, ρ)) := rfl
theorem retN : retNM ρ = some (.ok (.rt (.va .none), ρ)) := rfl
theorem nx : nxM ρ = some (.ok (.nx, ρ)) := rfl
theorem bk : bkM ρ = some (.ok (.bk, ρ)) := rfl
theorem ct : ctM ρ = some (.ok (.ct, ρ)) := rfl
theorem yes : yesM ρ = some (.ok (true, ρ)) := rfl
theorem drop0 : dropM fe ρ = RM.bnd (fe ρ) dropK := rfl
theorem drop1 : dropK r ρ = some (.ok (.nx, ρ)) := rfl
theorem par0 : parM i j fr ρ = RM.bnd (fr ρ) (parK1 i j) := by
  unfold parM
  congr 1
  funext rs ρ1
  unfold parK1
  congr 1
  funext ds ρ2
  match ds with
  | [] => rfl
  | [_] => rfl
  | [_, _] => rfl
  | _ :: _ :: _ :: _ => rfl
theorem par1 : parK1 i j rs ρ = RM.bnd (fzAll rs ρ) (parK2 i j) := rfl
theorem par2 : parK2 i j [d, e] ρ = some (.ok (.nx, (ρ.set i (.va d)).set j (.va e))) := rfl
theorem parX0 : parXM i j fa fb ρ = RM.bnd (fa ρ) (parXK1 i j fb) := rfl
theorem parX1 : parXK1 i j fb ra ρ = RM.bnd (fb ρ) (parXK2 i j ra) := rfl
theorem parX2 : parXK2 i j ra rb ρ = setO j rb (setR i ra ρ) := rfl
theorem setO1 : setO j rb (some ρ) = nxO (setR j rb ρ) := rfl
theorem app0 : appM i fe ρ = appK0 i fe ρ ρ[i]? := by
  unfold appM
  cases ρ[i]? with
  | none => rfl
  | some s => cases s with
    | un => rfl
    | va d => rfl
    | ow k ds =>
      rfl
theorem appA : appK0 i fe ρ (some (.ow k ds)) = RM.bnd (fe ρ) (appK1 i) := rfl
theorem app1 : appK1 i r ρ = RM.bnd (fzR r ρ) (appK2 i) := rfl
theorem app2 : appK2 i d ρ = appK3 i d ρ ρ[i]? := rfl
theorem app3 : appK3 i d ρ (some (.ow k ds)) = ck (few ds) (some (.ok (.nx, ρ.set i (.ow k (ds ++ [d]))))) := rfl
theorem ext0 : extM i fe ρ = extK0 i fe ρ ρ[i]? := by
  unfold extM
  cases ρ[i]? with
  | none => rfl
  | some s => cases s with
    | un => rfl
    | va d => rfl
    | ow k ds =>
      rfl
theorem extA : extK0 i fe ρ (some (.ow k ds)) = RM.bnd (fe ρ) (extK1 i) := rfl
theorem ext1 : extK1 i r ρ = extK2 i ρ r ρ[i]? := rfl
theorem ext2 : extK2 i ρ (.nw es) (some (.ow k ds)) = ck (few (ds ++ es)) (some (.ok (.nx, ρ.set i (.ow k (ds ++ es))))) := rfl
theorem extO0 : extOM i j ρ = extOK i ρ ρ[i]? ρ[j]? := by
  unfold extOM
  cases ρ[i]? with
  | none => rfl
  | some s => cases s with
    | un => rfl
    | va d => rfl
    | ow k ds => cases ρ[j]? with
      | none => rfl
      | some s => cases s <;> rfl
theorem extO1 {m : Nat} : extOK i ρ (some (.ow k ds)) (some (.ow m es)) = ck (few (ds ++ es)) (some (.ok (.nx, ρ.set i (.ow k (ds ++ es))))) := rfl
theorem aug0 {h : Int → Int → Int} : augM i h fe ρ = augK0 i h fe ρ ρ[i]? := by
  unfold augM
  cases ρ[i]? with
  | none => rfl
  | some s => cases s with
    | un => rfl
    | ow k ds => rfl
    | va d => cases d with
      | int a =>
        show RM.bnd (fe ρ) _ = RM.bnd (fe ρ) (augK1 i h a)
        congr 1
        funext r ρ1
        match r with
        | .va (.bool b) => rfl
        | .va .none => rfl
        | .va (.int _) => rfl
        | .va (.str _) => rfl
        | .va (.list _) => rfl
        | .va (.tuple _) => rfl
        | .va (.dict _) => rfl
        | .nw _ => rfl
        | .sl _ => rfl
      | _ => rfl
theorem augA {h : Int → Int → Int} : augK0 i h fe ρ (some (.va (.int z))) = RM.bnd (fe ρ) (augK1 i h z) := rfl
theorem augAN {h : Int → Int → Int} : augK0 i h fe ρ (some (.va (nD n))) = RM.bnd (fe ρ) (augK1 i h (n : Int)) := rfl
theorem aug1 {h : Int → Int → Int} {a : Int} : augK1 i h a (.va (.int z)) ρ = some (.ok (.nx, ρ.set i (.va (.int (h a z))))) := rfl
theorem aug1N {m : Nat} : augK1 i (fun i j => i + j) (m : Int) (.va (nD n)) ρ = some (.ok (.nx, ρ.set i (.va (nD (m + n))))) := rfl
theorem set0 : setM i fa fb ρ = RM.bnd (fa ρ) (setK1 i fb) := rfl
theorem set1 : setK1 i fb r ρ = RM.bnd (fzR r ρ) (setK2 i fb) := rfl
theorem set2 : setK2 i fb d ρ = setK2b i fb d ρ ρ[i]? := rfl
theorem set2b : setK2b i fb d ρ (some (.ow k ds)) = RM.bnd (fb ρ) (setK3 i d) := rfl
theorem set3 : setK3 i d r ρ = setK4 i d ρ r ρ[i]? := rfl
theorem set4 : setK4 i d ρ (.va (.int z)) (some (.ow k ds)) = setK5 i k d ds ρ (ixN ds.length z) := rfl
theorem set4N : setK4 i d ρ (.va (nD n)) (some (.ow k ds)) = setK5 i k d ds ρ (ixN ds.length (n : Int)) := rfl
theorem set5 : setK5 i k d ds ρ (some j) = some (.ok (.nx, ρ.set i (.ow k (ds.set j d)))) := rfl
theorem forS {src : En → RM (List PyData)} : Pl.forM src sto f ρ = RM.bnd (src ρ) (forL sto f) := rfl
theorem forN : forL sto f [] ρ = some (.ok (.nx, ρ)) := rfl
theorem forC : forL sto f (d :: ds) ρ = forCO sto f ds (sto d ρ) := by
  conv => lhs; unfold forL
  cases h : sto d ρ with
  | none => simp only [h]; rfl
  | some ρ1 =>
    simp only [h]
    show RM.bnd (f ρ1) _ = RM.bnd (f ρ1) (forCK sto f ds)
    congr 1
    funext o ρ2
    cases o <;> rfl
theorem forO : forCO sto f ds (some ρ) = RM.bnd (f ρ) (forCK sto f ds) := rfl
theorem forKn : forCK sto f ds .nx ρ = forL sto f ds ρ := rfl
theorem forKc : forCK sto f ds .ct ρ = forL sto f ds ρ := rfl
theorem forKb : forCK sto f ds .bk ρ = some (.ok (.nx, ρ)) := rfl
theorem forKr : forCK sto f ds (.rt r) ρ = some (.ok (.rt r, ρ)) := rfl
theorem rngA : rng1M fr ρ = RM.bnd (fr ρ) rng1K1 := rfl
theorem rngB : rng1K1 rs ρ = rng1K2 ρ (intsR rs) := rfl
theorem small (a : Nat) (h : a ≤ 1000) : small62 (a : Int) = true := by
  unfold small62
  rw [Bool.and_eq_true]
  exact ⟨decide_eq_true (by omega), decide_eq_true (by omega)⟩
theorem rngN (a : Nat) : rngI 0 ((a : Int).toNat) = (List.range a).map nD := by
  unfold rngI
  rw [Int.toNat_natCast]
  exact List.map_congr_left fun i _ => by rw [Int.zero_add]; rfl
theorem rngB' (h : n ≤ 1000) : rng1K1 [.va (nD n)] ρ = some (.ok ((List.range n).map nD, ρ)) := by
  show ck (small62 (n : Int)) (some (Except.ok (rngI 0 (n : Int).toNat, ρ))) = _
  rw [small n h, rngN]
  rfl
theorem isi0 {q : Ty5} : isiM q fa ρ = RM.bnd (fa ρ) (isiK q) := by
  unfold isiM
  congr 1
  funext r ρ1
  unfold isiK lk
  cases look ρ1 r <;> rfl
theorem isi1 {q : Ty5} : isiK q r ρ = isiK2 q (look ρ r) ρ := rfl
theorem isi2 {q : Ty5} : isiK2 q (some d) ρ = some (.ok (.va (.bool (isT q d)), ρ)) := rfl
theorem im0 : iM fa ρ = RM.bnd (fa ρ) imK := by
  unfold iM
  congr 1
  funext r ρ1
  match r with
  | .va (.bool b) => rfl
  | .va .none => rfl
  | .va (.int _) => rfl
  | .va (.str _) => rfl
  | .va (.list _) => rfl
  | .va (.tuple _) => rfl
  | .va (.dict _) => rfl
  | .nw _ => rfl
  | .sl _ => rfl
theorem imN : imK (.va (nD n)) ρ = some (.ok (!Nat.beq n 0, ρ)) := by
  show some (Except.ok (((n : Int) != 0), ρ)) = _
  congr 3
  cases n <;> rfl
theorem enum0 : enumM fr ρ = RM.bnd (fr ρ) enumK1 := by
  unfold enumM
  congr 1
  funext rs ρ1
  unfold enumK1
  congr 1
  funext ds ρ2
  match ds with
  | [] => rfl
  | [d] =>
    show _ = enumK3 ρ2 (seqItems d)
    cases h : seqItems d with
    | none => simp only [h]; rfl
    | some s => simp only [h]; rfl
  | _ :: _ :: _ => rfl
theorem enum1 : enumK1 rs ρ = RM.bnd (fzAll rs ρ) enumK2 := rfl
theorem enum2 : enumK2 [d] ρ = enumK3 ρ (seqItems d) := rfl
theorem enum3 : enumK3 ρ (some es) = some (.ok (enumI es 0, ρ)) := rfl
theorem zip0 : zipM fr ρ = RM.bnd (fr ρ) zipK1 := rfl
theorem zip1 : zipK1 rs ρ = RM.bnd (fzAll rs ρ) zipK2 := rfl
theorem zipL : zipK2 [.list ds, .list es] ρ = some (.ok (zipI ds es, ρ)) := rfl
theorem zipT : zipK2 [.tuple ds, .tuple es] ρ = some (.ok (zipI ds es, ρ)) := rfl
theorem lstRg0 : lstRgM fa ρ = RM.bnd (fa ρ) lstRgK := rfl
theorem lstRgN (h : n ≤ 1000) : lstRgK (.va (nD n)) ρ = some (.ok (.nw ((List.range n).map nD), ρ)) := by
  show ck (decide (0 ≤ (n : Int)) && decide ((n : Int) ≤ 100000)) (some (Except.ok (Rv.nw (rngI 0 (n : Int).toNat), ρ))) = _
  rw [decide_eq_true (by omega), decide_eq_true (by omega), rngN]
  rfl
theorem lc0 {src : En → RM (List PyData)} : lcM src sto t fe vs ρ = RM.bnd (src ρ) (lcK sto t fe vs) := rfl
theorem lc1 : lcK sto t fe vs ds ρ = ck (noOwn ρ vs && few ds) (lcU ρ vs (lcL sto t fe vs ds [] (wipeE ρ vs))) := rfl
theorem lc2 : lcU ρ vs (some (.ok (ds, ρ1))) = some (.ok (.nw ds, unw ρ ρ1 vs)) := rfl
theorem lcO0 : lcOM i sto t fe vs ρ = lcOK i sto t fe vs ρ ρ[i]? := by
  unfold lcOM
  cases h : ρ[i]? with
  | none => rfl
  | some s => cases s with
    | un => rfl
    | va d => rfl
    | ow k ds =>
      rfl
theorem lcOo : lcOK i sto t fe vs ρ (some (.ow k ds)) = ck (noOwn (ρ.set i .un) vs && few ds) (lcUO (ρ.set i .un) vs i k ds (lcL sto t fe vs ds [] (wipeE (ρ.set i .un) vs))) := rfl
theorem lcOv : lcOK i sto t fe vs ρ (some (.va d)) = lcM (seqM (varM i)) sto t fe vs ρ := rfl
theorem lcO2 : lcUO ρ vs i k ds (some (.ok (es, ρ1))) = some (.ok (.nw es, (unw ρ ρ1 vs).set i (.ow k ds))) := rfl
theorem callA : callM G fr ρ = RM.bnd (fr ρ) (callK G) := by
  unfold callM
  congr 1
  funext rs ρ1
  unfold callK
  cases argsOf ρ1 rs 0 with
  | none => rfl
  | some as =>
    show ck _ _ = ck _ _
    congr 1
    cases h : G as with
    | none => rfl
    | some q => match q with
      | .error (x, out) =>
        show (match back ρ1 rs out with | none => none | some ρ2 => some (Except.error (x, ρ2))) = backX x (back ρ1 rs out)
        cases back ρ1 rs out <;> rfl
      | .ok (r, out) =>
        show ck _ _ = ck _ _
        congr 1
        show _ = backO ρ1 rs r out (back ρ1 rs out)
        cases back ρ1 rs out <;> rfl
theorem callB : callK G rs ρ = callG G rs ρ (argsOf ρ rs 0) := rfl
theorem callC {as : En} : callG G rs ρ (some as) = ck (ndB (owsOf ρ rs)) (callR ρ rs (G as)) := rfl
theorem callOk {out : En} : callR ρ rs (some (.ok (r, out))) = ck (!isSl r) (backO ρ rs r out (back ρ rs out)) := rfl
theorem callEr {out : En} : callR ρ rs (some (.error (x, out))) = backX x (back ρ rs out) := rfl
theorem bOk {out ρ2 : En} : backO ρ rs r out (some ρ2) = some (.ok (r, ρ2)) := rfl
theorem bEr {ρ2 : En} : backX x (some ρ2) = some (.error (x, ρ2)) := rfl
theorem qt {as : En} : quiet G as = quietR (G as) := rfl
theorem qtOk {out : En} : quietR (some (.ok (r, out))) = some (.ok (r, out)) := rfl
theorem kwA {np nk : Nat} {perm : List Nat} : callKM G np nk perm fr fk ρ = RM.bnd (fr ρ) (kwK1 G np nk perm fk) := by
  unfold callKM
  congr 1
  funext rs ρ1
  unfold kwK1
  congr 1
  funext qs ρ2
  rw [callA]
  rfl
theorem kwB {np nk : Nat} {perm : List Nat} : kwK1 G np nk perm fk rs ρ = RM.bnd (fk ρ) (kwK2 G np nk perm rs) := rfl
theorem kwC {np nk : Nat} {perm : List Nat} : kwK2 G np nk perm rs qs ρ = callK G (pickC np nk perm rs qs) ρ := rfl
/-! a def's end -/
def consS : Option Sl → Option En → Option En
  | some s, some ss => some (s :: ss)
  | _, _ => none
def runR : Option Rv → Option En → RM Rv
  | some r, some o => some (.ok (r, o))
  | _, _ => none
def runX (x : Xc) : Option En → RM Rv
  | some o => some (.error (x, o))
  | none => none
def runK (as : En) : RM Ot → RM Rv
  | some (.ok (.nx, ρ)) => runR (some (.va .none)) (outs ρ as 0)
  | some (.ok (.rt r, ρ)) => runR (resOf ρ r) (outs ρ as 0)
  | some (.error (x, ρ)) => runX x (outs ρ as 0)
  | some (.ok (.bk, _)) => none
  | some (.ok (.ct, _)) => none
  | none => none
theorem rd {as : En} {m : Nat} : runDef n m f as = ck (decide (as.length = n)) (runK as (f (as ++ List.replicate m .un))) := by
  unfold runDef
  congr 1
  cases h : f (as ++ List.replicate m .un) with
  | none => rfl
  | some q => match q with
    | .error (x, ρ) =>
      show _ = runX x (outs ρ as 0)
      cases h2 : outs ρ as 0 <;> (simp only [h2]; rfl)
    | .ok (.nx, ρ) =>
      show _ = runR (some (.va .none)) (outs ρ as 0)
      cases h2 : outs ρ as 0 <;> (simp only [h2]; rfl)
    | .ok (.bk, ρ) => rfl
    | .ok (.ct, ρ) => rfl
    | .ok (.rt r, ρ) =>
      show _ = runR (resOf ρ r) (outs ρ as 0)
      cases h2 : outs ρ as 0 <;> cases h3 : resOf ρ r <;> (simp only [h2, h3]; rfl)
theorem rkN {as : En} : runK as (some (.ok (.nx, ρ))) = runR (some (.va .none)) (outs ρ as 0) := rfl
theorem rkR {as : En} : runK as (some (.ok (.rt r, ρ))) = runR (resOf ρ r) (outs ρ as 0) := rfl
theorem rkE {as : En} : runK as (some (.error (x, ρ))) = runX x (outs ρ as 0) := rfl
theorem rr {o : En} : runR (some r) (some o) = some (.ok (r, o)) := rfl
theorem rx {o : En} : runX x (some o) = some (.error (x, o)) := rfl
theorem rsV : resOf ρ (.va d) = some (.va d) := rfl
theorem rsN : resOf ρ (.nw ds) = some (.nw ds) := rfl
def rsO : Option Sl → Option Rv
  | some (.va d) => some (.va d)
  | some (.ow 0 ds) => some (.nw ds)
  | _ => none
theorem rsS : resOf ρ (.sl i) = rsO ρ[i]? := by unfold resOf rsO; rfl
theorem rsOv : rsO (some (.va d)) = some (.va d) := rfl
theorem rsOo : rsO (some (.ow 0 ds)) = some (.nw ds) := rfl
theorem out0 : outs ρ [] j = some [] := rfl
theorem outV {ss : En} : outs ρ (.va d :: ss) j = consS (some (.va d)) (outs ρ ss (j + 1)) := by
  show (match outs ρ ss (j + 1) with | some r => some (Sl.va d :: r) | none => none) = _
  cases outs ρ ss (j + 1) <;> rfl
theorem outU {ss : En} : outs ρ (.un :: ss) j = consS (some .un) (outs ρ ss (j + 1)) := by
  show (match outs ρ ss (j + 1) with | some r => some (Sl.un :: r) | none => none) = _
  cases outs ρ ss (j + 1) <;> rfl
def outK (j : Nat) : Option Sl → Option En → Option En
  | some (.ow k' es), some r => match decide (k' = j + 1) with
    | true => some (.ow (j + 1) es :: r)
    | false => none
  | _, _ => none
theorem outO {ss : En} : outs ρ (.ow k ds :: ss) j = outK j ρ[j]? (outs ρ ss (j + 1)) := by
  conv => lhs; unfold outs
  unfold outK
  cases ρ[j]? with
  | none => rfl
  | some s => cases s <;> cases outs ρ ss (j + 1) <;> rfl
theorem outKo {o : En} (h : k = j + 1) : outK j (some (.ow k es)) (some o) = some (.ow k es :: o) := by
  subst h
  unfold outK
  simp
theorem pk01 {α : Type} (a b : α) : pickC 0 2 [0, 1] [] [a, b] = [a, b] := rfl
theorem pk10 {α : Type} (a b : α) : pickC 0 2 [1, 0] [] [a, b] = [b, a] := rfl
/-! looks -/
theorem lkV : look ρ (.va d) = some d := rfl
theorem lkN : look ρ (.nw ds) = some (.list ds) := rfl
def lkO : Option Sl → Option PyData
  | some (.va d) => some d
  | some (.ow _ ds) => some (.list ds)
  | _ => none
theorem lkS : look ρ (.sl i) = lkO ρ[i]? := by
  unfold look lkO
  rfl
theorem lkOv : lkO (some (.va d)) = some d := rfl
theorem lkOo : lkO (some (.ow k ds)) = some (.list ds) := rfl
def consO : Option PyData → Option (List PyData) → Option (List PyData)
  | some d, some ds => some (d :: ds)
  | _, _ => none
theorem lks0 : looks ρ [] = some [] := rfl
theorem lks1 : looks ρ (r :: rs) = consO (look ρ r) (looks ρ rs) := rfl
theorem consO1 : consO (some d) (some ds) = some (d :: ds) := rfl
theorem fzV : Rv.fz (.va d) = .va d := rfl
theorem fzN : Rv.fz (.nw ds) = .va (.list ds) := rfl
theorem fzSl : Rv.fz (.sl i) = .sl i := rfl
def argO (j : Nat) : Option Sl → Option Sl
  | some (.va d) => some (.va d)
  | some (.ow _ ds) => some (.ow (j + 1) ds)
  | _ => none
theorem agV : argOf ρ j (.va d) = some (.va d) := rfl
theorem agN : argOf ρ j (.nw ds) = some (.va (.list ds)) := rfl
theorem agS : argOf ρ j (.sl i) = argO j ρ[i]? := by unfold argOf argO; rfl
theorem agOv : argO j (some (.va d)) = some (.va d) := rfl
theorem agOo : argO j (some (.ow k ds)) = some (.ow (j + 1) ds) := rfl
theorem ags0 : argsOf ρ [] j = some [] := rfl
theorem ags1 : argsOf ρ (r :: rs) j = consS (argOf ρ j r) (argsOf ρ rs (j + 1)) := rfl
theorem consS1 {u : Sl} {us : En} : consS (some u) (some us) = some (u :: us) := rfl
theorem ow0 : owsOf ρ [] = [] := rfl
theorem owV : owsOf ρ (.va d :: rs) = owsOf ρ rs := rfl
theorem owN : owsOf ρ (.nw ds :: rs) = owsOf ρ rs := rfl
def owO (i : Nat) (l : List Nat) : Option Sl → List Nat
  | some (.ow _ _) => i :: l
  | _ => l
theorem owS : owsOf ρ (.sl i :: rs) = owO i (owsOf ρ rs) ρ[i]? := by
  conv => lhs; unfold owsOf
  unfold owO
  cases ρ[i]? with
  | none => rfl
  | some s => cases s <;> rfl
theorem owOv {l : List Nat} : owO i l (some (.va d)) = l := rfl
theorem owOo {l : List Nat} : owO i l (some (.ow k ds)) = i :: l := rfl
theorem nd0 : ndB [] = true := rfl
theorem nd1 : ndB [i] = true := decide_eq_true (List.nodup_cons.mpr ⟨by simp, List.nodup_nil⟩)
theorem bk0 {out : En} : back ρ [] out = some ρ := by cases out <;> rfl
theorem bkV {u : Sl} {out : En} : back ρ (.va d :: rs) (u :: out) = back ρ rs out := rfl
theorem bkN {u : Sl} {out : En} : back ρ (.nw ds :: rs) (u :: out) = back ρ rs out := rfl
def bkO (ρ : En) (i : Nat) (rs : List Rv) (out : En) : Option Sl → Sl → Option En
  | some (.ow k _), .ow _ ds => back (ρ.set i (.ow k ds)) rs out
  | some (.ow _ _), _ => none
  | _, _ => back ρ rs out
theorem bkS {u : Sl} {out : En} : back ρ (.sl i :: rs) (u :: out) = bkO ρ i rs out ρ[i]? u := by
  conv => lhs; unfold back
  unfold bkO
  cases ρ[i]? with
  | none => rfl
  | some s => cases s <;> cases u <;> rfl
theorem bkOo {m : Nat} {out : En} : bkO ρ i rs out (some (.ow k ds)) (.ow m es) = back (ρ.set i (.ow k es)) rs out := rfl
theorem bkOv {u : Sl} {out : En} : bkO ρ i rs out (some (.va d)) u = back ρ rs out := by cases u <;> rfl
theorem isV : isSl (.va d) = false := rfl
theorem isN : isSl (.nw ds) = false := rfl
theorem fzRv : fzR (.va d) ρ = some (.ok (d, ρ)) := rfl
theorem fzRn : fzR (.nw ds) ρ = some (.ok (.list ds, ρ)) := rfl
theorem stN : stoN i d ρ = some (ρ.set i (.va d)) := rfl
theorem seqL : seqItems (.list ds) = some ds := rfl
theorem seqT : seqItems (.tuple ds) = some ds := rfl
theorem seqLot (l : Lot) : seqItems (lotD l) = some (l.map nD) := rfl
/-! sizes -/
theorem few0 : few [] = true := rfl
theorem few1 : few [d] = true := rfl
theorem few2 : few [d, e] = true := rfl
theorem few3 {a : PyData} : few [a, d, e] = true := rfl
theorem few4 {a b : PyData} : few [a, b, d, e] = true := rfl
theorem few5 {a b c : PyData} : few [a, b, c, d, e] = true := rfl
theorem fewMap {γ : Type} {D : γ → PyData} {l : List γ} (h : l.length ≤ 100000) : few (l.map D) = true := few_of (by rw [List.length_map]; exact h)
/-! whole numbers from 0 on -/
theorem addN (a b : Nat) : addG (nD a) (nD b) = some (.va (nD (a + b))) := rfl
theorem mulN (a b : Nat) (h : a < 2 ^ 64) (h' : b < 2 ^ 64) : mulG (nD a) (nD b) = some (.va (nD (a * b))) := by
  unfold mulG iopC nD
  dsimp only
  have hb : mulB (a : Int) (b : Int) = true := by
    unfold mulB
    rw [Int.natAbs_natCast, Int.natAbs_natCast]
    refine decide_eq_true ?_
    have l1 : a.log2 ≤ 64 := by
      rcases Nat.eq_zero_or_pos a with h0 | h0
      · rw [h0]; decide
      · exact Nat.le_of_lt ((Nat.log2_lt (by omega)).mpr h)
    have l2 : b.log2 ≤ 64 := by
      rcases Nat.eq_zero_or_pos b with h0 | h0
      · rw [h0]; decide
      · exact Nat.le_of_lt ((Nat.log2_lt (by omega)).mpr h')
    omega
  rw [hb, Int.natCast_mul]
theorem subN (a b : Nat) (h : b ≤ a) : subG (nD a) (nD b) = some (.va (nD (a - b))) := by
  show some (Rv.va (.int ((a : Int) - (b : Int)))) = some (.va (.int ((a - b : Nat) : Int)))
  rw [Int.natCast_sub h]
theorem ltN' (a b : Nat) : ltG (nD a) (nD b) = some (.va (.bool (decide (a < b)))) := by
  show some (Rv.va (.bool (decide ((a : Int) < (b : Int))))) = _
  rw [show decide ((a : Int) < (b : Int)) = decide (a < b) from decide_eq_decide.mpr (by omega)]
theorem leN' (a b : Nat) : leG (nD a) (nD b) = some (.va (.bool (decide (a ≤ b)))) := by
  show some (Rv.va (.bool (decide ((a : Int) ≤ (b : Int))))) = _
  rw [show decide ((a : Int) ≤ (b : Int)) = decide (a ≤ b) from decide_eq_decide.mpr (by omega)]
theorem gtN' (a b : Nat) : gtG (nD a) (nD b) = some (.va (.bool (decide (b < a)))) := ltN' b a
theorem geN' (a b : Nat) : geG (nD a) (nD b) = some (.va (.bool (decide (b ≤ a)))) := leN' b a
theorem eqN' (a b : Nat) : eqG (nD a) (nD b) = some (.va (.bool (decide (a = b)))) := by
  show some (Rv.va (.bool (decide ((a : Int) = (b : Int))))) = _
  rw [show decide ((a : Int) = (b : Int)) = decide (a = b) from decide_eq_decide.mpr (by omega)]
theorem neN' (a b : Nat) : neG (nD a) (nD b) = some (.va (.bool !(decide (a = b)))) := by
  show some (Rv.va (.bool !(decide ((a : Int) = (b : Int))))) = _
  rw [show decide ((a : Int) = (b : Int)) = decide (a = b) from decide_eq_decide.mpr (by omega)]
theorem minN (a b : Nat) : minG [nD a, nD b] = some (.va (nD (min a b))) := by
  show some (Rv.va (.int (if (b : Int) < a then (b : Int) else a))) = some (.va (.int ((min a b : Nat) : Int)))
  rw [show (if (b : Int) < a then (b : Int) else a) = ((min a b : Nat) : Int) by split <;> omega]
theorem maxN (a b : Nat) : maxG [nD a, nD b] = some (.va (nD (max a b))) := by
  show some (Rv.va (.int (if (b : Int) > a then (b : Int) else a))) = some (.va (.int ((max a b : Nat) : Int)))
  rw [show (if (b : Int) > a then (b : Int) else a) = ((max a b : Nat) : Int) by split <;> omega]
theorem lenL (ds : List PyData) : lenG [.list ds] = some (.va (nD ds.length)) := rfl
theorem lenT (ds : List PyData) : lenG [.tuple ds] = some (.va (nD ds.length)) := rfl
theorem lenLot (l : Lot) : lenG [lotD l] = some (.va (nD l.length)) := by
  show some (Rv.va (nD (l.map nD).length)) = _
  rw [List.length_map]
end
end X
end Pl

namespace K75
open PySem PySem.Spec PyProof.Rows L2 Pl
def b__law_boxM : En → RM Ot := (sqM (asgM 2 (opM addG (opM mulG (cM (.int 12011)) (varM 1)) (cM (.int 7321))))
    (sqM (ifM (bM (opM ltG (varM 1) (cbM lenG (consM (varM 0) nilM)))) (asgM 2 (cbM absG (consM (cbM intG (consM (opM ixG (varM 0) (varM 1)) nilM)) nilM))) (ifM (bM (opM gtG (cbM lenG (consM (varM 0) nilM)) (cM (.int 0)))) (asgM 2 (opM addG (varM 2) (opM mulG (opM modG (cbM intG (consM (cbM absG (consM (cbM intG (consM (opM ixG (varM 0) (opM modG (cbM intG (consM (varM 1) nilM)) (cbM lenG (consM (varM 0) nilM)))) nilM)) nilM)) nilM)) (cM (.int 2147483563))) (cM (.int 68213))))) nxM))
    (sqM (asgM 3 (ifX (bM (opM geG (varM 2) (opM powG (cM (.int 10)) (cM (.int 18))))) (varM 2) (cM (.int 0))))
    (retM (lstM (consM (varM 3) (consM (opM addG (opM modG (cbM intG (consM (opM addG (opM mulG (opM modG (cbM intG (consM (varM 2) nilM)) (cM (.int 2147483563))) (cM (.int 58271))) (opM mulG (cM (.int 7321)) (varM 1))) nilM)) (cM (.int 2147483563))) (cM (.int 1))) nilM)))))))
def m__law_box : En → RM Rv := runDef 2 2 b__law_boxM
def b__law_allM : En → RM Ot := (sqM (asgM 1 (lstM (consM (tupM nilM) nilM)))
    (sqM (forM (rng1M (consM (varM 0) nilM)) (stoN 2) (asgM 1 (opM addG (varM 1) (lcOM 1 (stoN 3) yesM (opM addG (varM 3) (tupM (consM (varM 2) nilM))) [3]))))
    (retM (cbM sortG (consM (varM 1) nilM)))))
def m__law_all : En → RM Rv := runDef 1 3 b__law_allM
def b__law_thresholdM : En → RM Ot := (retM (cbM tupG (consM (lcM (seqM (callM (quiet m__law_all) (consM (varM 0) nilM))) (stoN 2) (bM (opM eqG (cbM lenG (consM (varM 2) nilM)) (varM 1))) (varM 2) [2]) nilM)))
def m__law_threshold : En → RM Rv := runDef 2 1 b__law_thresholdM
def b_all_lotsM : En → RM Ot := (sqM (asgM 1 (lstM (consM (tupM nilM) nilM)))
    (sqM (forM (rng1M (consM (varM 0) nilM)) (stoN 2) (asgM 1 (opM addG (varM 1) (lcOM 1 (stoN 3) yesM (opM addG (varM 3) (tupM (consM (varM 2) nilM))) [3]))))
    (retM (cbM tupG (consM (cbM sortG (consM (varM 1) nilM)) nilM)))))
def m_all_lots : En → RM Rv := runDef 1 3 b_all_lotsM
def b_threshold_familyM : En → RM Ot := (retM (cbM tupG (consM (lcM (seqM (callM (quiet m_all_lots) (consM (varM 0) nilM))) (stoN 2) (bM (opM eqG (cbM lenG (consM (varM 2) nilM)) (varM 1))) (varM 2) [2]) nilM)))
def m_threshold_family : En → RM Rv := runDef 2 1 b_threshold_familyM
def b__law_sameM (self : En → RM Rv) : En → RM Ot := (sqM (ifM (bM (isiM .tuple (varM 1))) (sqM (ifM (orM (notM (bM (isiM .tuple (varM 0)))) (bM (opM neG (cbM lenG (consM (varM 0) nilM)) (cbM lenG (consM (varM 1) nilM))))) (retM (cM (.bool false))) nxM)
    (sqM (forM (zipM (consM (varM 0) (consM (varM 1) nilM))) (stoT 2 (stosCons (stoN 2) (stosCons (stoN 3) stosNil))) (ifM (notM (bM (callM (quiet self) (consM (varM 2) (consM (varM 3) nilM))))) (retM (cM (.bool false))) nxM))
    (retM (cM (.bool true))))) nxM)
    (sqM (ifM (bM (opM isNG (varM 1) (cM .none))) (retM (opM isNG (varM 0) (cM .none))) nxM)
    (sqM (ifM (orM (bM (opM isBG (varM 1) (cM (.bool true)))) (bM (opM isBG (varM 1) (cM (.bool false))))) (retM (andV (isiM .bool (varM 0)) (opM eqG (varM 0) (varM 1)))) nxM)
    (sqM (ifM (bM (isiM .int (varM 1))) (retM (andV (isiM .int (varM 0)) (andV (notV (isiM .bool (varM 0))) (opM eqG (varM 0) (varM 1))))) nxM)
    (retM (andV (isiM .str (varM 0)) (andV (isiM .str (varM 1)) (opM eqG (varM 0) (varM 1)))))))))
def m__law_same : Nat → En → RM Rv
  | 0 => noneM
  | n + 1 => runDef 2 2 (b__law_sameM (m__law_same n))
def b_is_withinM : En → RM Ot := (retM (opM eqG (cbM lenG (consM (lcOM 0 (stoN 2) (bM (opM notInG (varM 2) (varM 1))) (varM 2) [2]) nilM)) (cM (.int 0))))
def m_is_within : En → RM Rv := runDef 2 1 b_is_withinM
def b_lot_holdsM : En → RM Ot := (retM (opM gtG (cbM lenG (consM (lcOM 0 (stoN 2) (bM (callM (quiet m_is_within) (consM (varM 2) (consM (varM 1) nilM)))) (varM 2) [2]) nilM)) (cM (.int 0))))
def m_lot_holds : En → RM Rv := runDef 2 1 b_lot_holdsM
def b_least_lotsM : En → RM Ot := (sqM (asgM 1 (lstM nilM))
    (sqM (forM (seqM (sortKM (varM 0))) (stoN 2) (ifM (notM (bM (callM (quiet m_lot_holds) (consM (varM 1) (consM (varM 2) nilM))))) (appM 1 (varM 2)) nxM))
    (retM (cbM tupG (consM (cbM sortG (consM (varM 1) nilM)) nilM)))))
def m_least_lots : En → RM Rv := runDef 1 2 b_least_lotsM
def b_meetsM : En → RM Ot := (retM (opM gtG (cbM lenG (consM (lcOM 0 (stoN 2) (bM (opM inG (varM 2) (varM 1))) (varM 2) [2]) nilM)) (cM (.int 0))))
def m_meets : En → RM Rv := runDef 2 1 b_meetsM
def b_with_houseM : En → RM Ot := (retM (cbM tupG (consM (cbM sortG (consM (opM addG (varM 0) (tupM (consM (varM 1) nilM))) nilM)) nilM)))
def m_with_house : En → RM Rv := runDef 2 0 b_with_houseM
def b_blocker_ofM : En → RM Ot := (sqM (asgM 2 (tupM (consM (tupM nilM) nilM)))
    (sqM (forM (seqM (varM 0)) (stoN 3) (sqM (asgM 4 (lstM nilM))
    (sqM (forM (seqM (varM 2)) (stoN 5) (ifM (bM (callM (quiet m_meets) (consM (varM 5) (consM (varM 3) nilM)))) (appM 4 (varM 5)) (extM 4 (lcOM 3 (stoN 6) yesM (callM (quiet m_with_house) (consM (varM 5) (consM (varM 6) nilM))) [6]))))
    (asgM 2 (callM (quiet m_least_lots) (consM (varM 4) nilM))))))
    (retM (varM 2))))
def m_blocker_of : En → RM Rv := runDef 2 5 b_blocker_ofM
def b_live_lotsM : En → RM Ot := (sqM (asgM 2 (callM (quiet m_blocker_of) (consM (varM 0) (consM (varM 1) nilM))))
    (retM (cbM tupG (consM (lcM (seqM (callM (quiet m_all_lots) (consM (varM 1) nilM))) (stoN 3) (andM (bM (callM (quiet m_lot_holds) (consM (varM 0) (consM (varM 3) nilM)))) (bM (callM (quiet m_lot_holds) (consM (varM 2) (consM (varM 3) nilM))))) (varM 3) [3]) nilM))))
def m_live_lots : En → RM Rv := runDef 2 2 b_live_lotsM
def b_is_meetingM : En → RM Ot := (sqM (forM (enumM (consM (varM 0) nilM)) (stoT 2 (stosCons (stoN 1) (stosCons (stoN 2) stosNil))) (ifM (bM (opM gtG (cbM lenG (consM (lcM (seqM (slM slG (varM 0) noPart (partM (varM 1)))) (stoN 3) (notM (bM (callM (quiet m_meets) (consM (varM 3) (consM (varM 2) nilM))))) (varM 3) [3]) nilM)) (cM (.int 0)))) (retM (cM (.bool false))) nxM))
    (retM (cM (.bool true))))
def m_is_meeting : En → RM Rv := runDef 1 3 b_is_meetingM
def b_richer_familyM : En → RM Ot := (sqM (ifM (notM (bM (callM (quiet m_is_meeting) (consM (varM 0) nilM)))) neverM nxM)
    (sqM (asgM 2 (lcM (seqM (callM (quiet m_blocker_of) (consM (varM 0) (consM (varM 1) nilM)))) (stoN 3) (notM (bM (callM (quiet m_lot_holds) (consM (varM 0) (consM (varM 3) nilM))))) (varM 3) [3]))
    (retM (ifX (bM (opM gtG (cbM lenG (consM (varM 2) nilM)) (cM (.int 0)))) (callM (quiet m_least_lots) (consM (opM addG (varM 0) (tupM (consM (opM ixG (varM 2) (cM (.int 0))) nilM))) nilM)) (cM .none)))))
def m_richer_family : En → RM Rv := runDef 2 2 b_richer_familyM
def b__law_rightM : En → RM Ot := (sqM (asgM 2 (callM (quiet m__law_threshold) (consM (varM 0) (consM (varM 1) nilM))))
    (sqM (asgM 3 (callM (quiet m_threshold_family) (consM (varM 0) (consM (varM 1) nilM))))
    (sqM (ifM (orM (notM (bM (callM (quiet (m__law_same 6)) (consM (varM 3) (consM (varM 2) nilM))))) (notM (bM (callM (quiet (m__law_same 6)) (consM (callKM (quiet m_threshold_family) 0 2 [1, 0] nilM (consM (varM 1) (consM (varM 0) nilM))) (consM (varM 2) nilM)))))) (retM (cM (.bool false))) nxM)
    (sqM (asgM 4 (callM (quiet m__law_threshold) (consM (varM 0) (consM (opM addG (opM subG (varM 0) (varM 1)) (cM (.int 1))) nilM))))
    (sqM (ifM (orM (notM (bM (callM (quiet (m__law_same 6)) (consM (callM (quiet m_blocker_of) (consM (varM 3) (consM (varM 0) nilM))) (consM (varM 4) nilM))))) (notM (bM (callM (quiet (m__law_same 6)) (consM (callM (quiet m_is_meeting) (consM (varM 3) nilM)) (consM (opM gtG (opM mulG (cM (.int 2)) (varM 1)) (varM 0)) nilM)))))) (retM (cM (.bool false))) nxM)
    (sqM (asgM 5 (cbM maxG (consM (varM 1) (consM (opM addG (opM subG (varM 0) (varM 1)) (cM (.int 1))) nilM))))
    (sqM (ifM (notM (bM (callM (quiet (m__law_same 6)) (consM (callM (quiet m_live_lots) (consM (varM 3) (consM (varM 0) nilM))) (consM (cbM tupG (consM (lcM (seqM (callM (quiet m__law_all) (consM (varM 0) nilM))) (stoN 6) (bM (opM geG (cbM lenG (consM (varM 6) nilM)) (varM 5))) (varM 6) [6]) nilM)) nilM))))) (retM (cM (.bool false))) nxM)
    (sqM (ifM (bM (opM leG (opM mulG (cM (.int 2)) (varM 1)) (varM 0))) (retM (cM (.bool true))) nxM)
    (retM (opM eqG (opM isNG (callM (quiet m_richer_family) (consM (varM 3) (consM (varM 0) nilM))) (cM .none)) (opM eqG (opM mulG (cM (.int 2)) (varM 1)) (opM addG (varM 0) (cM (.int 1))))))))))))))
def m__law_right : En → RM Rv := runDef 2 5 b__law_rightM
def b__law_takeM : En → RM Ot := (sqM (ifM (bM (opM gtG (opM ixG (varM 0) (cM (.int 0))) (cM (.int 0)))) (sqM (asgM 2 (opM modG (cbM intG (consM (opM ixG (varM 0) (cM (.int 0))) nilM)) (varM 1)))
    (sqM (setM 0 (opM divG (opM ixG (varM 0) (cM (.int 0))) (varM 1)) (cM (.int 0)))
    (retM (varM 2)))) nxM)
    (sqM (asgM 3 (opM modG (cbM intG (consM (opM addG (opM mulG (opM ixG (varM 0) (cM (.int 1))) (cM (.int 39373))) (cM (.int 307))) nilM)) (cM (.int 2147483647))))
    (sqM (setM 0 (opM addG (opM modG (cbM intG (consM (opM addG (opM mulG (varM 3) (cM (.int 40692))) (cM (.int 61))) nilM)) (cM (.int 2147483399))) (cM (.int 1))) (cM (.int 1)))
    (retM (opM modG (cbM intG (consM (opM divG (opM addG (opM mulG (varM 3) (cM (.int 2147483629))) (opM ixG (varM 0) (cM (.int 1)))) (cM (.int 8233))) nilM)) (varM 1))))))
def m__law_take : En → RM Rv := runDef 2 2 b__law_takeM
def b_lawM : En → RM Ot := (sqM (forM (rng1M (consM (cbM maxG (consM (cM (.int 4)) (consM (cbM minG (consM (cbM lenG (consM (varM 0) nilM)) (consM (cM (.int 8)) nilM))) nilM))) nilM)) (stoN 1) (sqM (asgM 2 (callM (quiet m__law_box) (consM (varM 0) (consM (varM 1) nilM))))
    (sqM (asgM 3 (opM addG (cM (.int 1)) (callM (quiet m__law_take) (consM (varM 2) (consM (cM (.int 7)) nilM)))))
    (ifM (notM (bM (callM (quiet m__law_right) (consM (varM 3) (consM (opM addG (cM (.int 1)) (callM (quiet m__law_take) (consM (varM 2) (consM (varM 3) nilM)))) nilM))))) (retM (cM (.bool false))) nxM))))
    (retM (andV (callM (quiet m__law_right) (consM (cM (.int 7)) (consM (cM (.int 4)) nilM))) (andV (callM (quiet m__law_right) (consM (cM (.int 7)) (consM (cM (.int 3)) nilM))) (andV (callM (quiet m__law_right) (consM (cM (.int 1)) (consM (cM (.int 1)) nilM))) (andV (callM (quiet m__law_right) (consM (cM (.int 4)) (consM (cM (.int 2)) nilM))) (callM (quiet m__law_right) (consM (cM (.int 6)) (consM (cM (.int 6)) nilM)))))))))
def m_law : En → RM Rv := runDef 1 3 b_lawM
end K75

namespace Fam
open PySem PySem.Spec PyProof.Rows L2 Pl K75
/-! ### the families' functions on rows of naturals -/
def withinN (one two : Lot) : Bool := one.all fun n => memN n two
def holdsN (fam : List Lot) (lot : Lot) : Bool := fam.any fun one => withinN one lot
def meetsN (one two : Lot) : Bool := one.any fun n => memN n two
def withN (lot : Lot) (h : Nat) : Lot := isort Nat.ble (lot ++ [h])
def leastF : List Lot → List Lot → List Lot
  | found, [] => found
  | found, lot :: r => bif holdsN found lot then leastF found r else leastF (found ++ [lot]) r
def leastN (lots : List Lot) : List Lot := isort leL (leastF [] (isort leK lots))
def grownN : List Lot → Lot → List Lot
  | [], _ => []
  | one :: r, lot => (bif meetsN one lot then [one] else lot.map (withN one)) ++ grownN r lot
def blkN : List Lot → List Lot → List Lot
  | found, [] => found
  | found, lot :: r => blkN (leastN (grownN found lot)) r
def famD (f : List Lot) : PyData := .tuple (f.map lotD)
def famL (f : List Lot) : PyData := .list (f.map lotD)
abbrev Sm (f : List Lot) : Prop := f.length ≤ 100000 ∧ ∀ l ∈ f, l.length ≤ 1000

theorem len_filter_zero {α : Type} (p : α → Bool) (l : List α) : decide (((l.filter p).length : Int) = 0) = l.all fun x => !p x := by
  induction l with
  | nil => rfl
  | cons a l ih =>
    rw [List.all_cons, ← ih]
    cases h : p a with
    | true =>
      rw [List.filter_cons_of_pos h]
      simp
      try omega
    | false =>
      rw [List.filter_cons_of_neg (by rw [h]; exact Bool.false_ne_true)]
      simp
theorem len_filter_pos {α : Type} (p : α → Bool) (l : List α) : decide ((0 : Int) < ((l.filter p).length : Int)) = l.any p := by
  induction l with
  | nil => rfl
  | cons a l ih =>
    rw [List.any_cons, ← ih]
    cases h : p a with
    | true =>
      rw [List.filter_cons_of_pos h]
      simp
      try omega
    | false =>
      rw [List.filter_cons_of_neg (by rw [h]; exact Bool.false_ne_true)]
      simp
theorem un_map {α β : Type} (f : α → β) (l : List α) (p : α → Bool) : (l.filter p).map f = ((([] : List α) ++ (l.filter p).map id)).map f := by simp
theorem within_ok (one two : Lot) (h : one.length ≤ 100000) : m_is_within [.va (lotD one), .va (lotD two)] = some (.ok (.va (.bool (withinN one two)), [.va (lotD one), .va (lotD two)])) := by
  have hL := lcL_map nD nD (i := 2) (test := bM (opM notInG (varM 2) (varM 1))) (elt := varM 2) (ρ0 := [.va (lotD one), .va (lotD two), .un]) (fun n => !memN n two) id rfl one [] fun n _ =>
    ⟨b_va (op_vv (d := nD n) (e := lotD two) rfl rfl (notIn_nat n two)), fun _ => ⟨_, rfl, rfl⟩⟩
  refine runDef_rt rfl (ρ := [.va (lotD one), .va (lotD two), .un]) (ret_of (op_vv (len_of (lc_va (d := lotD one) rfl rfl (by rw [List.length_map]; exact h) rfl hL)) (e := .int 0) rfl (z := .va (.bool (withinN one two))) ?_)) rfl rfl
  show some (Rv.va (.bool (decide (((((([] : List Nat) ++ (one.filter fun n => !memN n two).map id)).map nD).length : Int) = 0)))) = _
  rw [← un_map, List.length_map, len_filter_zero]
  simp [withinN]
theorem meets_ok (one two : Lot) (h : one.length ≤ 100000) : m_meets [.va (lotD one), .va (lotD two)] = some (.ok (.va (.bool (meetsN one two)), [.va (lotD one), .va (lotD two)])) := by
  have hL := lcL_map nD nD (i := 2) (test := bM (opM inG (varM 2) (varM 1))) (elt := varM 2) (ρ0 := [.va (lotD one), .va (lotD two), .un]) (fun n => memN n two) id rfl one [] fun n _ =>
    ⟨b_va (op_vv (d := nD n) (e := lotD two) rfl rfl (in_nat n two)), fun _ => ⟨_, rfl, rfl⟩⟩
  refine runDef_rt rfl (ρ := [.va (lotD one), .va (lotD two), .un]) (ret_of (op_vv (len_of (lc_va (d := lotD one) rfl rfl (by rw [List.length_map]; exact h) rfl hL)) (e := .int 0) rfl (z := .va (.bool (meetsN one two))) ?_)) rfl rfl
  show some (Rv.va (.bool (decide ((0 : Int) < ((((([] : List Nat) ++ (one.filter fun n => memN n two).map id)).map nD).length : Int))))) = _
  rw [← un_map, List.length_map, len_filter_pos]
  rfl
theorem holds_va {d : PyData} {fam : List Lot} (lot : Lot) (hd : seqItems d = some (fam.map lotD)) (h : Sm fam) : m_lot_holds [.va d, .va (lotD lot)] = some (.ok (.va (.bool (holdsN fam lot)), [.va d, .va (lotD lot)])) := by
  have hL := lcL_map lotD lotD (i := 2) (test := bM (callM (quiet m_is_within) (consM (varM 2) (consM (varM 1) nilM)))) (elt := varM 2) (ρ0 := [.va d, .va (lotD lot), .un]) (fun one => withinN one lot) id rfl fam [] fun one hm =>
    ⟨b_va (callM_va [lotD one, lotD lot] rfl (within_ok one lot (Nat.le_trans (h.2 one hm) (by decide))) rfl), fun _ => ⟨_, rfl, rfl⟩⟩
  refine runDef_rt rfl (ρ := [.va d, .va (lotD lot), .un]) (ret_of (op_vv (len_of (lc_va (d := d) rfl hd (by rw [List.length_map]; exact h.1) rfl hL)) (e := .int 0) rfl (z := .va (.bool (holdsN fam lot))) ?_)) rfl rfl
  show some (Rv.va (.bool (decide ((0 : Int) < ((((([] : List Lot) ++ (fam.filter fun one => withinN one lot).map id)).map lotD).length : Int))))) = _
  rw [← un_map, List.length_map, len_filter_pos]
  rfl
theorem holds_ow {k : Nat} {fam : List Lot} (lot : Lot) (h : Sm fam) : m_lot_holds [.ow 1 (fam.map lotD), .va (lotD lot)] = some (.ok (.va (.bool (holdsN fam lot)), [.ow 1 (fam.map lotD), .va (lotD lot)])) := by
  have hL := lcL_map lotD lotD (i := 2) (test := bM (callM (quiet m_is_within) (consM (varM 2) (consM (varM 1) nilM)))) (elt := varM 2) (ρ0 := [.un, .va (lotD lot), .un]) (fun one => withinN one lot) id rfl fam [] fun one hm =>
    ⟨b_va (callM_va [lotD one, lotD lot] rfl (within_ok one lot (Nat.le_trans (h.2 one hm) (by decide))) rfl), fun _ => ⟨_, rfl, rfl⟩⟩
  refine runDef_rt rfl (ρ := [.ow 1 (fam.map lotD), .va (lotD lot), .un]) (ret_of (op_vv (len_of (lc_ow rfl (by rw [List.length_map]; exact h.1) rfl hL)) (e := .int 0) rfl (z := .va (.bool (holdsN fam lot))) ?_)) rfl rfl
  show some (Rv.va (.bool (decide ((0 : Int) < ((((([] : List Lot) ++ (fam.filter fun one => withinN one lot).map id)).map lotD).length : Int))))) = _
  rw [← un_map, List.length_map, len_filter_pos]
  rfl
theorem isTup_nat (l : Lot) : isTupI (lotD l) = true := by
  show (intsD (l.map nD)).isSome = true
  rw [intsD_nat]
  rfl
theorem sortOk_lots (f : List Lot) : sortOk (f.map lotD) = true := by
  unfold sortOk
  rw [Bool.or_eq_true]
  refine .inr (List.all_eq_true.mpr fun d hd => ?_)
  obtain ⟨l, _, rfl⟩ := List.mem_map.mp hd
  exact isTup_nat l
theorem sortOk_nats (l : Lot) : sortOk (l.map nD) = true := by
  unfold sortOk
  rw [Bool.or_eq_true]
  refine .inl (List.all_eq_true.mpr fun d hd => ?_)
  obtain ⟨n, _, rfl⟩ := List.mem_map.mp hd
  rfl
theorem lotsOk_lots {f : List Lot} (h : Sm f) : lotsOk (f.map lotD) = true := by
  unfold lotsOk
  rw [Bool.and_eq_true]
  refine ⟨few_of (by rw [List.length_map]; exact h.1), List.all_eq_true.mpr fun d hd => ?_⟩
  obtain ⟨l, hl, rfl⟩ := List.mem_map.mp hd
  show ((intsD (l.map nD)).isSome && few (l.map nD)) = true
  rw [intsD_nat, few_of (by rw [List.length_map]; exact Nat.le_trans (h.2 l hl) (by decide))]
  rfl
theorem sort_of {ρ ρ1 : En} {f : En → RM Rv} {r : Rv} {d : PyData} {ds : List PyData} (h : f ρ = some (.ok (r, ρ1))) (hl : look ρ1 r.fz = some d) (hs : seqItems d = some ds) (hk : sortOk ds = true) (hf : ds.length ≤ 100000) : cbM sortG (consM f nilM) ρ = some (.ok (.nw (sortD ds), ρ1)) := by
  unfold cbM consM
  rw [h]
  dsimp only [RM.bnd, nilM, looks]
  rw [hl]
  dsimp only [sortG]
  rw [hs]
  dsimp only
  rw [few_of hf, hk]
  rfl
theorem with_ok (lot : Lot) (n : Nat) (h : lot.length ≤ 1000) : m_with_house [.va (lotD lot), .va (nD n)] = some (.ok (.va (lotD (withN lot n)), [.va (lotD lot), .va (nD n)])) := by
  have e : lot.map nD ++ [nD n] = (lot ++ [n]).map nD := by simp
  have h1 : opM addG (varM 0) (tupM (consM (varM 1) nilM)) [.va (lotD lot), .va (nD n)] = some (.ok (.va (.tuple ((lot ++ [n]).map nD)), [.va (lotD lot), .va (nD n)])) := by
    refine op_vv (d := lotD lot) (e := .tuple [nD n]) rfl rfl ?_
    show (match few (lot.map nD ++ [nD n]) with | true => _ | false => none) = _
    rw [e, few_of (by rw [List.length_map, List.length_append]; simp; omega)]
  refine runDef_rt rfl (ρ := [.va (lotD lot), .va (nD n)]) (ret_of (tup_of (sort_of h1 rfl rfl (sortOk_nats _) (by rw [List.length_map, List.length_append]; simp; omega)))) (r' := .va (lotD (withN lot n))) ?_ rfl
  rw [sort_nats]
  rfl

/-! least_lots -/
theorem leastF_len : ∀ (l found : List Lot), (leastF found l).length ≤ found.length + l.length
  | [], found => Nat.le_refl _
  | lot :: r, found => by
    unfold leastF
    cases holdsN found lot with
    | true =>
      have := leastF_len r found
      show (leastF found r).length ≤ _
      rw [List.length_cons]
      omega
    | false =>
      have := leastF_len r (found ++ [lot])
      rw [List.length_append] at this
      show (leastF (found ++ [lot]) r).length ≤ _
      rw [List.length_cons]
      simp at this
      omega
theorem leastF_mem : ∀ (l found : List Lot) (x : Lot), x ∈ leastF found l → x ∈ found ∨ x ∈ l
  | [], found, x, h => .inl h
  | lot :: r, found, x, h => by
    unfold leastF at h
    cases e : holdsN found lot with
    | true =>
      rw [e] at h
      exact (leastF_mem r found x h).imp id (List.mem_cons_of_mem _)
    | false =>
      rw [e] at h
      rcases leastF_mem r _ x h with q | q
      · rcases List.mem_append.mp q with q | q
        · exact .inl q
        · exact .inr (by rw [List.mem_singleton.mp q]; exact List.mem_cons_self)
      · exact .inr (List.mem_cons_of_mem _ q)
theorem least_loop {d0 x2 : Sl} (hx : ∀ k ds, x2 ≠ .ow k ds) : ∀ (l found : List Lot), Sm (found ++ l) → ∃ x2', forL (stoN 2) (ifM (notM (bM (callM (quiet m_lot_holds) (consM (varM 1) (consM (varM 2) nilM))))) (appM 1 (varM 2)) nxM) (l.map lotD) [d0, .ow 0 (found.map lotD), x2] = some (.ok (.nx, [d0, .ow 0 ((leastF found l).map lotD), x2']))
  | [], found, _ => ⟨x2, rfl⟩
  | lot :: r, found, h => by
    have hf : Sm found := ⟨by have := h.1; rw [List.length_append] at this; omega, fun l hl => h.2 l (List.mem_append_left _ hl)⟩
    have hc : callM (quiet m_lot_holds) (consM (varM 1) (consM (varM 2) nilM)) [d0, .ow 0 (found.map lotD), .va (lotD lot)] = some (.ok (.va (.bool (holdsN found lot)), [d0, .ow 0 (found.map lotD), .va (lotD lot)])) :=
      callM_ow (i := 1) (k := 0) [lotD lot] rfl rfl (holds_ow (k := 0) lot hf) rfl
    rw [List.map_cons]
    unfold forL
    dsimp only [stoN, List.set]
    rw [if_tt (not_of (b_va hc))]
    unfold leastF
    cases e : holdsN found lot with
    | true =>
      obtain ⟨x', hx'⟩ := least_loop (d0 := d0) (x2 := .va (lotD lot)) (fun _ _ z => by cases z) r found ⟨by have := h.1; rw [List.length_append, List.length_cons] at this; rw [List.length_append]; omega, fun l hl => h.2 l ((List.mem_append.mp hl).elim (List.mem_append_left _) fun q => List.mem_append_right _ (List.mem_cons_of_mem _ q))⟩
      exact ⟨x', hx'⟩
    | false =>
      obtain ⟨x', hx'⟩ := least_loop (d0 := d0) (x2 := .va (lotD lot)) (fun _ _ z => by cases z) r (found ++ [lot]) (by rw [List.append_assoc]; exact h)
      refine ⟨x', ?_⟩
      have ha : appM 1 (varM 2) [d0, .ow 0 (found.map lotD), .va (lotD lot)] = some (.ok (.nx, [d0, .ow 0 ((found ++ [lot]).map lotD), .va (lotD lot)])) := by
        unfold appM
        show ck (few (found.map lotD)) _ = _
        rw [few_of (by rw [List.length_map]; exact hf.1)]
        show some (Except.ok (Ot.nx, [d0, .ow 0 (found.map lotD ++ [lotD lot]), .va (lotD lot)])) = _
        simp
      show RM.bnd (appM 1 (varM 2) [d0, .ow 0 (found.map lotD), .va (lotD lot)]) _ = _
      rw [ha]
      exact hx'
theorem sm_perm {f g : List Lot} (p : f.Perm g) (h : Sm g) : Sm f := ⟨by rw [p.length_eq]; exact h.1, fun l hl => h.2 l (p.mem_iff.mp hl)⟩
theorem sm_least {f : List Lot} (h : Sm f) : Sm (leastN f) := by
  refine sm_perm (isort_perm _) ⟨?_, fun l hl => ?_⟩
  · have := leastF_len (isort leK f) []
    rw [(isort_perm (le := leK) f).length_eq] at this
    simp at this
    exact Nat.le_trans this h.1
  · rcases leastF_mem _ _ _ hl with q | q
    · cases q
    · exact h.2 l ((isort_perm f).mem_iff.mp q)
theorem least_ok {d : PyData} {f : List Lot} (hd : seqItems d = some (f.map lotD)) (h : Sm f) : m_least_lots [.va d] = some (.ok (.va (famD (leastN f)), [.va d])) := by
  have hs : Sm (isort leK f) := sm_perm (isort_perm f) h
  obtain ⟨x', hx'⟩ := least_loop (d0 := .va d) (x2 := .un) (fun _ _ z => by cases z) (isort leK f) [] hs
  have h1 : forM (seqM (sortKM (varM 0))) (stoN 2) (ifM (notM (bM (callM (quiet m_lot_holds) (consM (varM 1) (consM (varM 2) nilM))))) (appM 1 (varM 2)) nxM) [.va d, .ow 0 [], .un] = some (.ok (.nx, [.va d, .ow 0 ((leastF [] (isort leK f)).map lotD), x'])) := by
    have e : seqM (sortKM (varM 0)) [.va d, .ow 0 [], .un] = some (.ok ((isort leK f).map lotD, [.va d, .ow 0 [], .un])) := by
      unfold seqM sortKM
      show RM.bnd (match seqItems d with | some ds => _ | none => none) _ = _
      rw [hd]
      dsimp only
      rw [lotsOk_lots h, keyed_lots]
      rfl
    unfold Pl.forM
    rw [e]
    exact hx'
  have hlen : ((leastF [] (isort leK f)).map lotD).length ≤ 100000 := by
    have := leastF_len (isort leK f) []
    rw [(isort_perm (le := leK) f).length_eq] at this
    rw [List.length_map]
    simp at this
    exact Nat.le_trans this h.1
  refine runDef_rt rfl (ρ := [.va d, .ow 0 ((leastF [] (isort leK f)).map lotD), x']) ?_ (r := .va (.tuple (sortD ((leastF [] (isort leK f)).map lotD)))) (r' := .va (famD (leastN f))) ?_ rfl
  · show b_least_lotsM [.va d, .un, .un] = _
    unfold b_least_lotsM
    rw [seq_nx (ρ1 := [.va d, .ow 0 [], .un]) rfl, seq_nx h1]
    exact ret_of (tup_of (sort_of (r := .sl 1) rfl rfl rfl (sortOk_lots _) hlen))
  · rw [sort_lots]
    rfl
end Fam

namespace Fam
open PySem PySem.Spec PyProof.Rows L2 Pl K75
section
variable {ρ ρ1 ρ2 ρ3 : En} {f fa fb : En → RM Rv} {r z : Rv} {d e : PyData}
theorem asg_va {i : Nat} (h : f ρ = some (.ok (.va d, ρ1))) : asgM i f ρ = some (.ok (.nx, ρ1.set i (.va d))) := by
  unfold asgM
  rw [h]
  rfl
theorem asg_nw {i : Nat} {ds : List PyData} (h : f ρ = some (.ok (.nw ds, ρ1))) : asgM i f ρ = some (.ok (.nx, ρ1.set i (.ow 0 ds))) := by
  unfold asgM
  rw [h]
  rfl
theorem for_of {src : En → RM (List PyData)} {sto : Sto} {body : En → RM Ot} {items : List PyData} (h : src ρ = some (.ok (items, ρ1))) : Pl.forM src sto body ρ = forL sto body items ρ1 := by
  unfold Pl.forM
  rw [h]
  rfl
theorem sq_of {items : List PyData} (h : f ρ = some (.ok (.va d, ρ1))) (hs : seqItems d = some items) : seqM f ρ = some (.ok (items, ρ1)) := by
  unfold seqM
  rw [h]
  dsimp only [RM.bnd, fzR]
  rw [hs]
  rfl
theorem sq_nw {ds : List PyData} (h : f ρ = some (.ok (.nw ds, ρ1))) : seqM f ρ = some (.ok (ds, ρ1)) := by
  unfold seqM
  rw [h]
  rfl
theorem lcM_of {src : En → RM (List PyData)} {sto : Sto} {test : En → RM Bool} {elt : En → RM Rv} {vs : List Nat} {items acc : List PyData} (hs : src ρ = some (.ok (items, ρ1))) (hl : items.length ≤ 100000) (hn : noOwn ρ1 vs = true) (hL : lcL sto test elt vs items [] (wipeE ρ1 vs) = some (.ok (acc, ρ2))) :
    lcM src sto test elt vs ρ = some (.ok (.nw acc, unw ρ1 ρ2 vs)) := by
  unfold lcM
  rw [hs]
  dsimp only [RM.bnd]
  rw [hn, few_of hl, hL]
  rfl
end
theorem least_ow {f : List Lot} (h : Sm f) : m_least_lots [.ow 1 (f.map lotD)] = some (.ok (.va (famD (leastN f)), [.ow 1 (f.map lotD)])) := by
  have hs : Sm (isort leK f) := sm_perm (isort_perm f) h
  obtain ⟨x', hx'⟩ := least_loop (d0 := .ow 1 (f.map lotD)) (x2 := .un) (fun _ _ z => by cases z) (isort leK f) [] hs
  have h1 : Pl.forM (seqM (sortKM (varM 0))) (stoN 2) (ifM (Pl.notM (bM (callM (quiet m_lot_holds) (consM (varM 1) (consM (varM 2) nilM))))) (appM 1 (varM 2)) nxM) [.ow 1 (f.map lotD), .ow 0 [], .un] = some (.ok (.nx, [.ow 1 (f.map lotD), .ow 0 ((leastF [] (isort leK f)).map lotD), x'])) := by
    refine (for_of (sq_nw (ds := (isort leK f).map lotD) (ρ1 := [.ow 1 (f.map lotD), .ow 0 [], .un]) ?_)).trans hx'
    unfold sortKM
    show ck (lotsOk (f.map lotD)) _ = _
    rw [lotsOk_lots h, keyed_lots]
    rfl
  have hlen : ((leastF [] (isort leK f)).map lotD).length ≤ 100000 := by
    have := leastF_len (isort leK f) []
    rw [(isort_perm (le := leK) f).length_eq] at this
    rw [List.length_map]
    simp at this
    exact Nat.le_trans this h.1
  refine runDef_rt rfl (ρ := [.ow 1 (f.map lotD), .ow 0 ((leastF [] (isort leK f)).map lotD), x']) ?_ (r := .va (.tuple (sortD ((leastF [] (isort leK f)).map lotD)))) (r' := .va (famD (leastN f))) ?_ rfl
  · show b_least_lotsM [.ow 1 (f.map lotD), .un, .un] = _
    unfold b_least_lotsM
    rw [seq_nx (ρ1 := [.ow 1 (f.map lotD), .ow 0 [], .un]) rfl, seq_nx h1]
    exact ret_of (tup_of (sort_of (r := .sl 1) rfl rfl rfl (sortOk_lots _) hlen))
  · rw [sort_lots]
    rfl

/-! blocker_of -/
def g_body : En → RM Ot := ifM (bM (callM (quiet m_meets) (consM (varM 5) (consM (varM 3) nilM)))) (appM 4 (varM 5)) (extM 4 (lcOM 3 (stoN 6) yesM (callM (quiet m_with_house) (consM (varM 5) (consM (varM 6) nilM))) [6]))
theorem grow_loop {A M s2 : Sl} {lot : Lot} (hlot : lot.length ≤ 1000) : ∀ (l acc : List Lot) (x5 : Sl), (acc ++ grownN l lot).length ≤ 100000 → (∀ one ∈ l, one.length ≤ 900) →
    ∃ x5', forL (stoN 5) g_body (l.map lotD) [A, M, s2, .va (lotD lot), .ow 0 (acc.map lotD), x5, .un] = some (.ok (.nx, [A, M, s2, .va (lotD lot), .ow 0 ((acc ++ grownN l lot).map lotD), x5', .un]))
  | [], acc, x5, _, _ => ⟨x5, by unfold grownN; rw [List.append_nil]; rfl⟩
  | one :: l, acc, x5, hlen, h9 => by
    have h1 : one.length ≤ 900 := h9 one List.mem_cons_self
    rw [List.map_cons]
    unfold forL
    dsimp only [stoN, List.set]
    have hm : callM (quiet m_meets) (consM (varM 5) (consM (varM 3) nilM)) [A, M, s2, .va (lotD lot), .ow 0 (acc.map lotD), .va (lotD one), .un] = some (.ok (.va (.bool (meetsN one lot)), [A, M, s2, .va (lotD lot), .ow 0 (acc.map lotD), .va (lotD one), .un])) :=
      callM_va [lotD one, lotD lot] rfl (meets_ok one lot (by omega)) rfl
    have key : g_body [A, M, s2, .va (lotD lot), .ow 0 (acc.map lotD), .va (lotD one), .un] = some (.ok (.nx, [A, M, s2, .va (lotD lot), .ow 0 ((acc ++ bif meetsN one lot then [one] else lot.map (withN one)).map lotD), .va (lotD one), .un])) := by
      unfold g_body
      rw [if_tt (b_va hm)]
      unfold grownN at hlen
      cases e : meetsN one lot with
      | true =>
        rw [if_pos rfl]
        unfold appM
        show ck (few (acc.map lotD)) _ = _
        rw [few_of (by rw [List.length_map]; rw [List.length_append] at hlen; omega)]
        show some (Except.ok (Ot.nx, [A, M, s2, .va (lotD lot), .ow 0 (acc.map lotD ++ [lotD one]), .va (lotD one), .un])) = _
        simp
      | false =>
        rw [if_neg Bool.false_ne_true]
        have hL := lcL_map nD lotD (i := 6) (test := yesM) (elt := callM (quiet m_with_house) (consM (varM 5) (consM (varM 6) nilM))) (ρ0 := [A, M, s2, .va (lotD lot), .ow 0 (acc.map lotD), .va (lotD one), .un]) (fun _ => true) (fun n => withN one n) rfl lot [] fun n _ =>
          ⟨rfl, fun _ => ⟨_, callM_va [lotD one, nD n] rfl (with_ok one n (by omega)) rfl, rfl⟩⟩
        have hlc := lc_va (k := 3) (ρ := [A, M, s2, .va (lotD lot), .ow 0 (acc.map lotD), .va (lotD one), .un]) (d := lotD lot) rfl rfl (by rw [List.length_map]; omega) rfl hL
        unfold extM
        show RM.bnd (lcOM 3 (stoN 6) yesM (callM (quiet m_with_house) (consM (varM 5) (consM (varM 6) nilM))) [6] [A, M, s2, .va (lotD lot), .ow 0 (acc.map lotD), .va (lotD one), .un]) _ = _
        rw [hlc]
        rw [e] at hlen
        have ef : ([] ++ List.map (fun n => withN one n) (List.filter (fun _ => true) lot)) = lot.map (withN one) := by
          rw [List.nil_append, List.filter_eq_self.mpr fun _ _ => rfl]
        rw [ef]
        show ck (few (acc.map lotD ++ (lot.map (withN one)).map lotD)) (some (Except.ok (Ot.nx, [A, M, s2, .va (lotD lot), .ow 0 (acc.map lotD ++ (lot.map (withN one)).map lotD), .va (lotD one), .un]))) = _
        rw [few_of (by
          have hh : (acc ++ (lot.map (withN one) ++ grownN l lot)).length ≤ 100000 := hlen
          simp only [List.length_append, List.length_map] at hh ⊢
          omega)]
        show some (Except.ok (Ot.nx, [A, M, s2, .va (lotD lot), .ow 0 (acc.map lotD ++ (lot.map (withN one)).map lotD), .va (lotD one), .un])) = _
        rw [← List.map_append]
        rfl
    rw [key]
    dsimp only [RM.bnd]
    obtain ⟨x', hx'⟩ := grow_loop (A := A) (M := M) (s2 := s2) hlot l (acc ++ bif meetsN one lot then [one] else lot.map (withN one)) (.va (lotD one)) (by rw [List.append_assoc]; exact hlen) fun o ho => h9 o (List.mem_cons_of_mem _ ho)
    refine ⟨x', ?_⟩
    rw [hx', List.append_assoc]
    rfl
def blkC : List Lot → List Lot → Option (List Lot)
  | found, [] => some found
  | found, lot :: r => bif Nat.ble (grownN found lot).length 100000 && (grownN found lot).all (fun l => Nat.ble l.length 900) then blkC (leastN (grownN found lot)) r else none
def bl_body : En → RM Ot := sqM (asgM 4 (lstM nilM)) (sqM (Pl.forM (seqM (varM 2)) (stoN 5) g_body) (asgM 2 (callM (quiet m_least_lots) (consM (varM 4) nilM))))
theorem leastN_mem {f : List Lot} {x : Lot} (h : x ∈ leastN f) : x ∈ f := by
  have h2 := (isort_perm (le := leL) _).mem_iff.mp h
  rcases leastF_mem _ _ _ h2 with q | q
  · cases q
  · exact (isort_perm (le := leK) f).mem_iff.mp q
theorem blk_loop {A M : Sl} : ∀ (fam found out : List Lot) (s3 s4 s5 : Sl), (∀ l ∈ found, l.length ≤ 900) → (∀ l ∈ fam, l.length ≤ 1000) → blkC found fam = some out →
    ∃ s3' s4' s5', forL (stoN 3) bl_body (fam.map lotD) [A, M, .va (famD found), s3, s4, s5, .un] = some (.ok (.nx, [A, M, .va (famD out), s3', s4', s5', .un]))
  | [], found, out, s3, s4, s5, _, _, h => by
    cases h
    exact ⟨s3, s4, s5, rfl⟩
  | lot :: r, found, out, s3, s4, s5, h9, hf, h => by
    unfold blkC at h
    cases e : Nat.ble (grownN found lot).length 100000 && (grownN found lot).all fun l => Nat.ble l.length 900 with
    | false => rw [e] at h; cases h
    | true =>
      rw [e] at h
      rw [Bool.and_eq_true, List.all_eq_true] at e
      have g1 : (grownN found lot).length ≤ 100000 := Nat.le_of_ble_eq_true e.1
      have g2 : ∀ l ∈ grownN found lot, l.length ≤ 900 := fun l hl => Nat.le_of_ble_eq_true (e.2 l hl)
      obtain ⟨x', hx'⟩ := grow_loop (A := A) (M := M) (s2 := .va (famD found)) (hf lot List.mem_cons_self) found [] s5 g1 h9
      have hb : bl_body [A, M, .va (famD found), .va (lotD lot), s4, s5, .un] = some (.ok (.nx, [A, M, .va (famD (leastN (grownN found lot))), .va (lotD lot), .ow 0 ((grownN found lot).map lotD), x', .un])) := by
        unfold bl_body
        rw [seq_nx (ρ1 := [A, M, .va (famD found), .va (lotD lot), .ow 0 [], s5, .un]) rfl]
        rw [seq_nx (ρ1 := [A, M, .va (famD found), .va (lotD lot), .ow 0 ((grownN found lot).map lotD), x', .un]) ((for_of (sq_of (d := famD found) rfl rfl)).trans hx')]
        have hcall : callM (quiet m_least_lots) (consM (varM 4) nilM) [A, M, .va (famD found), .va (lotD lot), .ow 0 ((grownN found lot).map lotD), x', .un] = some (.ok (.va (famD (leastN (grownN found lot))), [A, M, .va (famD found), .va (lotD lot), .ow 0 ((grownN found lot).map lotD), x', .un])) :=
          callM_ow (i := 4) (k := 0) (es := (grownN found lot).map lotD) [] rfl rfl (least_ow ⟨g1, fun l hl => Nat.le_trans (g2 l hl) (by decide)⟩) rfl
        exact asg_va hcall
      obtain ⟨t3, t4, t5, ht⟩ := blk_loop (A := A) (M := M) r _ out (.va (lotD lot)) (.ow 0 ((grownN found lot).map lotD)) x' (fun l hl => g2 l (leastN_mem hl)) (fun l hl => hf l (List.mem_cons_of_mem _ hl)) h
      refine ⟨t3, t4, t5, ?_⟩
      rw [List.map_cons]
      unfold forL
      dsimp only [stoN, List.set]
      rw [hb]
      exact ht
theorem blocker_ok {fam out : List Lot} {dm : PyData} (hf : ∀ l ∈ fam, l.length ≤ 1000) (h : blkC [[]] fam = some out) : m_blocker_of [.va (famD fam), .va dm] = some (.ok (.va (famD out), [.va (famD fam), .va dm])) := by
  obtain ⟨t3, t4, t5, ht⟩ := blk_loop (A := .va (famD fam)) (M := .va dm) fam [[]] out .un .un .un (fun l hl => by rw [List.mem_singleton.mp hl]; exact Nat.zero_le _) hf h
  refine runDef_rt rfl (ρ := [.va (famD fam), .va dm, .va (famD out), t3, t4, t5, .un]) ?_ (r := .va (famD out)) rfl rfl
  show b_blocker_ofM [.va (famD fam), .va dm, .un, .un, .un, .un, .un] = _
  unfold b_blocker_ofM
  rw [seq_nx (ρ1 := [.va (famD fam), .va dm, .va (famD [[]]), .un, .un, .un, .un]) rfl]
  show sqM (Pl.forM (seqM (varM 0)) (stoN 3) bl_body) (retM (varM 2)) _ = _
  rw [seq_nx (ρ1 := [.va (famD fam), .va dm, .va (famD out), t3, t4, t5, .un]) ((for_of (sq_of (d := famD fam) rfl rfl)).trans ht)]
  rfl
end Fam

namespace Fam
open PySem PySem.Spec PyProof.Rows L2 Pl K75
/-! all_lots -/
def allF : List Nat → List Lot → List Lot
  | [], f => f
  | h :: r, f => allF r (f ++ f.map fun l => l ++ [h])
def allN (m : Nat) : List Lot := isort leL (allF (List.range m) [[]])
def al_body : En → RM Ot := asgM 1 (opM addG (varM 1) (lcOM 1 (stoN 3) yesM (opM addG (varM 3) (tupM (consM (varM 2) nilM))) [3]))
theorem all_loop {A : Sl} : ∀ (hs : List Nat) (f : List Lot) (x2 : Sl), f.length * 2 ^ hs.length ≤ 50000 → (∀ l ∈ f, l.length + hs.length ≤ 1000) →
    ∃ x2', forL (stoN 2) al_body (hs.map nD) [A, .ow 0 (f.map lotD), x2, .un] = some (.ok (.nx, [A, .ow 0 ((allF hs f).map lotD), x2', .un]))
  | [], f, x2, _, _ => ⟨x2, rfl⟩
  | h :: r, f, x2, hl, hw => by
    have hp : f.length * (2 * 2 ^ r.length) ≤ 50000 := by
      rw [List.length_cons, Nat.pow_succ, Nat.mul_comm (2 ^ r.length) 2] at hl
      exact hl
    have h2 : 1 ≤ 2 ^ r.length := Nat.one_le_two_pow
    have hf : f.length * 2 ≤ 50000 := Nat.le_trans (Nat.mul_le_mul_left _ (by omega)) hp
    rw [List.map_cons]
    unfold forL
    dsimp only [stoN, List.set]
    have hL := lcL_map lotD lotD (i := 3) (test := yesM) (elt := opM addG (varM 3) (tupM (consM (varM 2) nilM))) (ρ0 := [A, .un, .va (nD h), .un]) (fun _ => true) (fun l => l ++ [h]) rfl f [] fun l hm =>
      ⟨rfl, fun _ => ⟨.va (lotD (l ++ [h])), by
        refine op_vv (d := lotD l) (e := .tuple [nD h]) rfl rfl ?_
        show (match few (l.map nD ++ [nD h]) with | true => some (Rv.va (.tuple (l.map nD ++ [nD h]))) | false => none) = _
        have := hw l hm
        rw [few_of (by rw [List.length_append, List.length_map]; simp; omega)]
        show some (Rv.va (.tuple (l.map nD ++ [nD h]))) = some (Rv.va (.tuple ((l ++ [h]).map nD)))
        rw [List.map_append]
        rfl, rfl⟩⟩
    have hlc := lc_ow (k := 1) (j := 0) (items := f.map lotD) (ρ := [A, .ow 0 (f.map lotD), .va (nD h), .un]) rfl (by rw [List.length_map]; omega) rfl hL
    have ef : ([] ++ List.map (fun l => l ++ [h]) (List.filter (fun _ => true) f)) = f.map fun l => l ++ [h] := by
      rw [List.nil_append, List.filter_eq_self.mpr fun _ _ => rfl]
    rw [ef] at hlc
    have hb : al_body [A, .ow 0 (f.map lotD), .va (nD h), .un] = some (.ok (.nx, [A, .ow 0 ((f ++ f.map fun l => l ++ [h]).map lotD), .va (nD h), .un])) := by
      unfold al_body
      refine asg_nw (i := 1) (ρ1 := [A, .ow 0 (f.map lotD), .va (nD h), .un]) (ds := (f ++ f.map fun l => l ++ [h]).map lotD) ?_
      unfold opM
      show RM.bnd (lcOM 1 (stoN 3) yesM (opM addG (varM 3) (tupM (consM (varM 2) nilM))) [3] [A, .ow 0 (f.map lotD), .va (nD h), .un]) _ = _
      rw [hlc]
      show ob (match few (f.map lotD ++ (f.map fun l => l ++ [h]).map lotD) with | true => some (Rv.nw (f.map lotD ++ (f.map fun l => l ++ [h]).map lotD)) | false => none) [A, .ow 0 (f.map lotD), .va (nD h), .un] = _
      rw [few_of (by simp only [List.length_append, List.length_map]; omega), ← List.map_append]
      rfl
    rw [hb]
    obtain ⟨x', hx'⟩ := all_loop (A := A) r (f ++ f.map fun l => l ++ [h]) (.va (nD h)) (by
      rw [List.length_append, List.length_map, show f.length + f.length = f.length * 2 by omega, Nat.mul_assoc]
      exact hp) fun l hl' => by
        rcases List.mem_append.mp hl' with q | q
        · have := hw l q
          rw [List.length_cons] at this
          omega
        · obtain ⟨l0, q1, rfl⟩ := List.mem_map.mp q
          have := hw l0 q1
          rw [List.length_cons] at this
          simp
          omega
    exact ⟨x', hx'⟩
theorem rngI_nat (m : Nat) : rngI 0 m = (List.range m).map nD := by
  unfold rngI
  apply List.map_congr_left
  intro i _
  show PyData.int (0 + (i : Int)) = .int i
  rw [Int.zero_add]
theorem small_nat {m : Nat} (h : m ≤ 1000) : small62 (m : Int) = true := by
  unfold small62
  rw [Bool.and_eq_true]
  exact ⟨decide_eq_true (by omega), decide_eq_true (by omega)⟩
theorem ck_true {α : Type} {b : Bool} {m : RM α} (h : b = true) : ck b m = m := by
  cases h
  rfl
theorem rng1_of {ρ ρ1 : En} {f : En → RM Rv} {j : Int} (h : f ρ = some (.ok (.va (.int j), ρ1))) (hs : small62 j = true) : rng1M (consM f nilM) ρ = some (.ok (rngI 0 j.toNat, ρ1)) := by
  have e : rng1M (consM f nilM) ρ = ck (small62 j) (some (.ok (rngI 0 j.toNat, ρ1))) := by
    unfold rng1M consM
    simp only [h, RM.bnd, nilM, Rv.fz, intsR, intR]
  exact e.trans (ck_true hs)
theorem rng_of {ρ ρ1 : En} {f : En → RM Rv} {m : Nat} (h : f ρ = some (.ok (.va (.int (m : Int)), ρ1))) (hm : m ≤ 1000) : rng1M (consM f nilM) ρ = some (.ok ((List.range m).map nD, ρ1)) := by
  rw [rng1_of h (small_nat hm), Int.toNat_natCast, rngI_nat]
theorem pow_le {m : Nat} (h : m ≤ 7) : 2 ^ m ≤ 128 := Nat.le_trans (Nat.pow_le_pow_right (by decide) h) (by decide)
theorem allF_len : ∀ (hs : List Nat) (f : List Lot), (allF hs f).length = f.length * 2 ^ hs.length
  | [], f => by simp [allF]
  | h :: r, f => by
    unfold allF
    rw [allF_len r, List.length_append, List.length_map, List.length_cons, Nat.pow_succ, show f.length + f.length = f.length * 2 by omega, Nat.mul_assoc, Nat.mul_comm 2]
theorem allF_mem : ∀ (hs : List Nat) (f : List Lot) (N : Nat), (∀ l ∈ f, l.length + hs.length ≤ N) → ∀ l ∈ allF hs f, l.length ≤ N
  | [], f, N, h, l, hl => by have := h l hl; simp at this; exact this
  | x :: r, f, N, h, l, hl => by
    refine allF_mem r _ N (fun l' hl' => ?_) l hl
    rcases List.mem_append.mp hl' with q | q
    · have := h l' q
      rw [List.length_cons] at this
      omega
    · obtain ⟨l0, q1, rfl⟩ := List.mem_map.mp q
      have := h l0 q1
      rw [List.length_cons] at this
      simp
      omega
theorem allN_len {m : Nat} (h : m ≤ 7) : (allN m).length ≤ 128 := by
  unfold allN
  rw [(isort_perm _).length_eq, allF_len, List.length_range]
  simpa using pow_le h
theorem allN_mem {m : Nat} {l : Lot} (hl : l ∈ allN m) : l.length ≤ m := by
  have := allF_mem (List.range m) [[]] m (fun l hl => by rw [List.mem_singleton.mp hl, List.length_range]; simp) l ((isort_perm _).mem_iff.mp hl)
  exact this
theorem allF_few {m : Nat} (h : m ≤ 7) : ((allF (List.range m) [[]]).map lotD).length ≤ 100000 := by
  rw [List.length_map, allF_len, List.length_range]
  have := pow_le h
  simp
  omega
theorem lall_ok {m : Nat} (h : m ≤ 7) : m__law_all [.va (nD m)] = some (.ok (.nw ((allN m).map lotD), [.va (nD m)])) := by
  obtain ⟨x', hx'⟩ := all_loop (A := .va (nD m)) (List.range m) [[]] .un (by have := pow_le h; rw [List.length_range]; simp; omega) fun l hl => by rw [List.mem_singleton.mp hl, List.length_range]; simp; omega
  refine runDef_rt rfl (ρ := [.va (nD m), .ow 0 ((allF (List.range m) [[]]).map lotD), x', .un]) ?_ (r := .nw (sortD ((allF (List.range m) [[]]).map lotD))) (r' := .nw ((allN m).map lotD)) ?_ rfl
  · show b__law_allM [.va (nD m), .un, .un, .un] = _
    unfold b__law_allM
    rw [seq_nx (ρ1 := [.va (nD m), .ow 0 ([[]].map lotD), .un, .un]) rfl]
    show sqM (Pl.forM (rng1M (consM (varM 0) nilM)) (stoN 2) al_body) _ _ = _
    rw [seq_nx ((for_of (ρ := [.va (nD m), .ow 0 ([[]].map lotD), .un, .un]) (rng_of (m := m) rfl (by omega))).trans hx')]
    exact ret_of (sort_of (r := .sl 1) rfl rfl rfl (sortOk_lots _) (allF_few h))
  · rw [sort_lots]
    rfl
theorem all_ok {m : Nat} (h : m ≤ 7) : m_all_lots [.va (nD m)] = some (.ok (.va (famD (allN m)), [.va (nD m)])) := by
  obtain ⟨x', hx'⟩ := all_loop (A := .va (nD m)) (List.range m) [[]] .un (by have := pow_le h; rw [List.length_range]; simp; omega) fun l hl => by rw [List.mem_singleton.mp hl, List.length_range]; simp; omega
  refine runDef_rt rfl (ρ := [.va (nD m), .ow 0 ((allF (List.range m) [[]]).map lotD), x', .un]) ?_ (r := .va (.tuple (sortD ((allF (List.range m) [[]]).map lotD)))) (r' := .va (famD (allN m))) ?_ rfl
  · show b_all_lotsM [.va (nD m), .un, .un, .un] = _
    unfold b_all_lotsM
    rw [seq_nx (ρ1 := [.va (nD m), .ow 0 ([[]].map lotD), .un, .un]) rfl]
    show sqM (Pl.forM (rng1M (consM (varM 0) nilM)) (stoN 2) al_body) _ _ = _
    rw [seq_nx ((for_of (ρ := [.va (nD m), .ow 0 ([[]].map lotD), .un, .un]) (rng_of (m := m) rfl (by omega))).trans hx')]
    exact ret_of (tup_of (sort_of (r := .sl 1) rfl rfl rfl (sortOk_lots _) (allF_few h)))
  · rw [sort_lots]
    rfl
/-! thresholds -/
def thrN (m q : Nat) : List Lot := (allN m).filter fun l => Nat.beq l.length q
theorem eqG_nat (a b : Nat) : eqG (.int (a : Int)) (.int (b : Int)) = some (.va (.bool (Nat.beq a b))) := by
  show some (Rv.va (.bool (decide ((a : Int) = b)))) = _
  congr 3
  cases e : Nat.beq a b with
  | true => rw [Nat.eq_of_beq_eq_true e]; exact decide_eq_true rfl
  | false =>
    refine decide_eq_false fun z => ?_
    have : a = b := by omega
    rw [this, Nat.beq_refl] at e
    cases e
theorem len_lot {ρ ρ1 : En} {f : En → RM Rv} {l : Lot} (h : f ρ = some (.ok (.va (lotD l), ρ1))) : cbM lenG (consM f nilM) ρ = some (.ok (.va (.int (l.length : Nat)), ρ1)) := by
  unfold cbM consM
  rw [h]
  show some (Except.ok (Rv.va (.int ((l.map nD).length : Nat)), ρ1)) = _
  rw [List.length_map]
theorem thr_lc {m q : Nat} (h : m ≤ 7) {src : En → RM (List PyData)} (hs : src [.va (nD m), .va (nD q), .un] = some (.ok ((allN m).map lotD, [.va (nD m), .va (nD q), .un]))) :
    lcM src (stoN 2) (bM (opM eqG (cbM lenG (consM (varM 2) nilM)) (varM 1))) (varM 2) [2] [.va (nD m), .va (nD q), .un] = some (.ok (.nw ((thrN m q).map lotD), [.va (nD m), .va (nD q), .un])) := by
  have hL := lcL_map lotD lotD (i := 2) (test := bM (opM eqG (cbM lenG (consM (varM 2) nilM)) (varM 1))) (elt := varM 2) (ρ0 := [.va (nD m), .va (nD q), .un]) (fun l => Nat.beq l.length q) id rfl (allN m) [] fun l _ =>
    ⟨b_va (op_vv (len_lot rfl) (e := nD q) rfl (eqG_nat l.length q)), fun _ => ⟨_, rfl, rfl⟩⟩
  refine (lcM_of hs (by rw [List.length_map]; have := allN_len h; omega) rfl hL).trans ?_
  rw [← un_map]
  rfl
theorem lthr_ok {m q : Nat} (h : m ≤ 7) : m__law_threshold [.va (nD m), .va (nD q)] = some (.ok (.va (famD (thrN m q)), [.va (nD m), .va (nD q)])) := by
  refine runDef_rt rfl (ρ := [.va (nD m), .va (nD q), .un]) (ret_of (tup_of (thr_lc h ?_))) rfl rfl
  exact sq_nw (callM_va [nD m] rfl (lall_ok h) rfl)
theorem thr_ok {m q : Nat} (h : m ≤ 7) : m_threshold_family [.va (nD m), .va (nD q)] = some (.ok (.va (famD (thrN m q)), [.va (nD m), .va (nD q)])) := by
  refine runDef_rt rfl (ρ := [.va (nD m), .va (nD q), .un]) (ret_of (tup_of (thr_lc h ?_))) rfl rfl
  exact sq_of (callM_va [nD m] rfl (all_ok h) rfl) rfl
theorem thrN_mem {m q : Nat} {l : Lot} (h : l ∈ thrN m q) : l.length ≤ m := allN_mem (List.mem_filter.mp h).1
theorem thrN_len {m q : Nat} (h : m ≤ 7) : (thrN m q).length ≤ 128 := Nat.le_trans (List.length_filter_le _ _) (allN_len h)
theorem sm_thr {m q : Nat} (h : m ≤ 7) : Sm (thrN m q) := ⟨by have := thrN_len (q := q) h; omega, fun l hl => by have := thrN_mem hl; omega⟩
end Fam

namespace Fam
open PySem PySem.Spec PyProof.Rows L2 Pl K75
theorem cons1 {ρ ρ1 : En} {f : En → RM Rv} {r : Rv} (h : f ρ = some (.ok (r, ρ1))) : consM f nilM ρ = some (.ok ([r.fz], ρ1)) := by
  unfold consM
  rw [h]
  rfl
/-! live lots -/
theorem and_tt {ρ ρ1 ρ2 : En} {s t : En → RM Bool} {a b : Bool} (h : s ρ = some (.ok (a, ρ1))) (h2 : t ρ1 = some (.ok (b, ρ1))) : andM s t ρ = some (.ok (a && b, ρ1)) := by
  unfold Pl.andM
  rw [h]
  cases a with
  | true => exact h2
  | false => rfl
def liveN (fam blk : List Lot) (m : Nat) : List Lot := (allN m).filter fun l => holdsN fam l && holdsN blk l
theorem live_ok {fam blk : List Lot} {m : Nat} (h : m ≤ 7) (hf : Sm fam) (hb : Sm blk) (hB : blkC [[]] fam = some blk) : m_live_lots [.va (famD fam), .va (nD m)] = some (.ok (.va (famD (liveN fam blk m)), [.va (famD fam), .va (nD m)])) := by
  have hL := lcL_map lotD lotD (i := 3) (test := andM (bM (callM (quiet m_lot_holds) (consM (varM 0) (consM (varM 3) nilM)))) (bM (callM (quiet m_lot_holds) (consM (varM 2) (consM (varM 3) nilM))))) (elt := varM 3) (ρ0 := [.va (famD fam), .va (nD m), .va (famD blk), .un]) (fun l => holdsN fam l && holdsN blk l) id rfl (allN m) [] fun l _ =>
    ⟨and_tt (ρ2 := []) (b_va (callM_va [famD fam, lotD l] rfl (holds_va l rfl hf) rfl)) (b_va (callM_va [famD blk, lotD l] rfl (holds_va l rfl hb) rfl)), fun _ => ⟨_, rfl, rfl⟩⟩
  refine runDef_rt rfl (ρ := [.va (famD fam), .va (nD m), .va (famD blk), .un]) ?_ (r := .va (famD (liveN fam blk m))) rfl rfl
  show b_live_lotsM [.va (famD fam), .va (nD m), .un, .un] = _
  unfold b_live_lotsM
  have hc : callM (quiet m_blocker_of) (consM (varM 0) (consM (varM 1) nilM)) [.va (famD fam), .va (nD m), .un, .un] = some (.ok (.va (famD blk), [.va (famD fam), .va (nD m), .un, .un])) :=
    callM_va [famD fam, nD m] rfl (blocker_ok (fun l hl => hf.2 l hl) hB) rfl
  rw [seq_nx (asg_va hc)]
  have hs : seqM (callM (quiet m_all_lots) (consM (varM 1) nilM)) [.va (famD fam), .va (nD m), .va (famD blk), .un] = some (.ok ((allN m).map lotD, [.va (famD fam), .va (nD m), .va (famD blk), .un])) :=
    sq_of (callM_va [nD m] rfl (all_ok h) rfl) rfl
  refine ret_of (tup_of ((lcM_of hs (by rw [List.length_map]; have := allN_len h; omega) rfl hL).trans ?_))
  rw [← un_map]
  rfl
/-! is_meeting -/
def meetF : List Lot → List Lot → Bool
  | _, [] => true
  | pre, lot :: r => bif pre.any (fun one => !meetsN one lot) then false else meetF (pre ++ [lot]) r
def mt_body : En → RM Ot := ifM (bM (opM gtG (cbM lenG (consM (lcM (seqM (slM slG (varM 0) noPart (partM (varM 1)))) (stoN 3) (notM (bM (callM (quiet m_meets) (consM (varM 3) (consM (varM 2) nilM))))) (varM 3) [3]) nilM)) (cM (.int 0)))) (retM (cM (.bool false))) nxM
theorem cut_pre (pre r : List Lot) : Pl.cutD ((pre ++ r).map lotD) none (some (pre.length : Int)) = pre.map lotD := by
  unfold Pl.cutD
  rw [HT.sIx_none, HT.sIx_nat]
  rw [List.length_map, List.length_append, Nat.min_eq_left (by omega), List.drop_zero, Nat.sub_zero, List.map_append]
  exact List.take_left' (by rw [List.length_map])
theorem meet_loop {fam : List Lot} (hf : Sm fam) : ∀ (r pre : List Lot) (x1 x2 : Sl), fam = pre ++ r → ∃ x1' x2', forL (stoT 2 (stosCons (stoN 1) (stosCons (stoN 2) stosNil))) mt_body (enumI (r.map lotD) pre.length) [.va (famD fam), x1, x2, .un] =
    some (.ok (if meetF pre r = true then (.nx, [.va (famD fam), x1', x2', .un]) else (.rt (.va (.bool false)), [.va (famD fam), x1', x2', .un])))
  | [], pre, x1, x2, _ => ⟨x1, x2, rfl⟩
  | lot :: r, pre, x1, x2, e => by
    have hpre : ∀ l ∈ pre, l.length ≤ 1000 := fun l hl => hf.2 l (by rw [e]; exact List.mem_append_left _ hl)
    have hlen : pre.length ≤ 100000 := by
      have := hf.1
      rw [e, List.length_append] at this
      omega
    have hL := lcL_map lotD lotD (i := 3) (test := Pl.notM (bM (callM (quiet m_meets) (consM (varM 3) (consM (varM 2) nilM))))) (elt := varM 3) (ρ0 := [.va (famD fam), .va (nD pre.length), .va (lotD lot), .un]) (fun one => !meetsN one lot) id rfl pre [] fun one hm =>
      ⟨not_of (b_va (callM_va [lotD one, lotD lot] rfl (meets_ok one lot (by have := hpre one hm; omega)) rfl)), fun _ => ⟨_, rfl, rfl⟩⟩
    have hs : seqM (slM slG (varM 0) noPart (partM (varM 1))) [.va (famD fam), .va (nD pre.length), .va (lotD lot), .un] = some (.ok (pre.map lotD, [.va (famD fam), .va (nD pre.length), .va (lotD lot), .un])) := by
      refine sq_of (d := .tuple (Pl.cutD (fam.map lotD) none (some (pre.length : Int)))) rfl ?_
      rw [e, cut_pre]
      rfl
    have hlc := lcM_of hs (by rw [List.length_map]; exact hlen) rfl hL
    have hb : mt_body [.va (famD fam), .va (nD pre.length), .va (lotD lot), .un] = if (pre.any fun one => !meetsN one lot) = true then some (.ok (.rt (.va (.bool false)), [.va (famD fam), .va (nD pre.length), .va (lotD lot), .un])) else some (.ok (.nx, [.va (famD fam), .va (nD pre.length), .va (lotD lot), .un])) := by
      unfold mt_body
      refine if_tt (b_va (op_vv (len_of hlc) (e := .int 0) rfl ?_))
      rw [← un_map, List.length_map]
      show some (Rv.va (.bool (decide ((0 : Int) < ((pre.filter fun one => !meetsN one lot).length : Int))))) = _
      rw [len_filter_pos]
    show ∃ x1' x2', forL (stoT 2 (stosCons (stoN 1) (stosCons (stoN 2) stosNil))) mt_body (.tuple [.int (pre.length : Int), lotD lot] :: enumI (r.map lotD) (pre.length + 1)) [.va (famD fam), x1, x2, .un] = _
    unfold forL meetF
    have hsto : stoT 2 (stosCons (stoN 1) (stosCons (stoN 2) stosNil)) (.tuple [.int (pre.length : Int), lotD lot]) [.va (famD fam), x1, x2, .un] = some [.va (famD fam), .va (nD pre.length), .va (lotD lot), .un] := rfl
    rw [hsto]
    dsimp only
    rw [hb]
    cases ea : pre.any fun one => !meetsN one lot with
    | true => exact ⟨_, _, rfl⟩
    | false =>
      obtain ⟨y1, y2, hy⟩ := meet_loop hf r (pre ++ [lot]) (.va (nD pre.length)) (.va (lotD lot)) (by rw [e, List.append_assoc]; rfl)
      refine ⟨y1, y2, ?_⟩
      rw [List.length_append] at hy
      exact hy
theorem meeting_ok {fam : List Lot} (hf : Sm fam) : m_is_meeting [.va (famD fam)] = some (.ok (.va (.bool (meetF [] fam)), [.va (famD fam)])) := by
  obtain ⟨x1, x2, hx⟩ := meet_loop hf fam [] .un .un rfl
  have h1 : Pl.forM (enumM (consM (varM 0) nilM)) (stoT 2 (stosCons (stoN 1) (stosCons (stoN 2) stosNil))) mt_body [.va (famD fam), .un, .un, .un] = _ := (for_of (ρ1 := [.va (famD fam), .un, .un, .un]) (items := enumI (fam.map lotD) 0) rfl).trans hx
  cases e : meetF [] fam with
  | true =>
    rw [e, if_pos rfl] at h1
    refine runDef_rt rfl (ρ := [.va (famD fam), x1, x2, .un]) ?_ (r := .va (.bool true)) rfl rfl
    show b_is_meetingM [.va (famD fam), .un, .un, .un] = _
    unfold b_is_meetingM
    exact (seq_nx h1).trans rfl
  | false =>
    rw [e, if_neg Bool.false_ne_true] at h1
    refine runDef_rt rfl (ρ := [.va (famD fam), x1, x2, .un]) ?_ (r := .va (.bool false)) rfl rfl
    show b_is_meetingM [.va (famD fam), .un, .un, .un] = _
    unfold b_is_meetingM
    exact seq_rt h1
/-! richer_family -/
def moreN (fam blk : List Lot) : List Lot := blk.filter fun l => !holdsN fam l
theorem richer_ok {fam blk : List Lot} {m : Nat} (hf : Sm fam) (hf2 : fam.length ≤ 99999) (hb : Sm blk) (hm : meetF [] fam = true) (hB : blkC [[]] fam = some blk) : ∃ d, m_richer_family [.va (famD fam), .va (nD m)] = some (.ok (.va d, [.va (famD fam), .va (nD m)])) ∧ isNone d = (moreN fam blk).isEmpty := by
  have hmt : callM (quiet m_is_meeting) (consM (varM 0) nilM) [.va (famD fam), .va (nD m), .un, .un] = some (.ok (.va (.bool true), [.va (famD fam), .va (nD m), .un, .un])) := callM_va [famD fam] rfl (by rw [← hm]; exact meeting_ok hf) rfl
  have h1 : ifM (Pl.notM (bM (callM (quiet m_is_meeting) (consM (varM 0) nilM)))) neverM nxM [.va (famD fam), .va (nD m), .un, .un] = some (.ok (.nx, [.va (famD fam), .va (nD m), .un, .un])) := (if_tt (not_of (b_va hmt))).trans rfl
  have hc : callM (quiet m_blocker_of) (consM (varM 0) (consM (varM 1) nilM)) [.va (famD fam), .va (nD m), .un, .un] = some (.ok (.va (famD blk), [.va (famD fam), .va (nD m), .un, .un])) :=
    callM_va [famD fam, nD m] rfl (blocker_ok (fun l hl => hf.2 l hl) hB) rfl
  have hL := lcL_map lotD lotD (i := 3) (test := Pl.notM (bM (callM (quiet m_lot_holds) (consM (varM 0) (consM (varM 3) nilM))))) (elt := varM 3) (ρ0 := [.va (famD fam), .va (nD m), .un, .un]) (fun l => !holdsN fam l) id rfl blk [] fun l _ =>
    ⟨not_of (b_va (callM_va [famD fam, lotD l] rfl (holds_va l rfl hf) rfl)), fun _ => ⟨_, rfl, rfl⟩⟩
  have hlc := lcM_of (sq_of hc (items := blk.map lotD) rfl) (by rw [List.length_map]; exact hb.1) rfl hL
  rw [← un_map] at hlc
  have h2 : asgM 2 (lcM (seqM (callM (quiet m_blocker_of) (consM (varM 0) (consM (varM 1) nilM)))) (stoN 3) (Pl.notM (bM (callM (quiet m_lot_holds) (consM (varM 0) (consM (varM 3) nilM))))) (varM 3) [3]) [.va (famD fam), .va (nD m), .un, .un] = some (.ok (.nx, [.va (famD fam), .va (nD m), .ow 0 ((moreN fam blk).map lotD), .un])) := asg_nw hlc
  have ht : bM (opM gtG (cbM lenG (consM (varM 2) nilM)) (cM (.int 0))) [.va (famD fam), .va (nD m), .ow 0 ((moreN fam blk).map lotD), .un] = some (.ok (!(moreN fam blk).isEmpty, [.va (famD fam), .va (nD m), .ow 0 ((moreN fam blk).map lotD), .un])) := by
    refine b_va (op_vv (d := .int (((moreN fam blk).map lotD).length : Nat)) (e := .int 0) rfl rfl ?_)
    show some (Rv.va (.bool (decide ((0 : Int) < (((moreN fam blk).map lotD).length : Int))))) = _
    rw [List.length_map]
    cases moreN fam blk with
    | nil => rfl
    | cons a l =>
      rw [List.length_cons, decide_eq_true (by omega)]
      rfl
  cases e : moreN fam blk with
  | nil =>
    refine ⟨.none, runDef_rt rfl (ρ := [.va (famD fam), .va (nD m), .ow 0 ((moreN fam blk).map lotD), .un]) ?_ (r := .va .none) rfl rfl, rfl⟩
    show b_richer_familyM [.va (famD fam), .va (nD m), .un, .un] = _
    unfold b_richer_familyM
    rw [seq_nx h1, seq_nx h2]
    refine ret_of ?_
    unfold ifX
    rw [ht, e]
    rfl
  | cons a l =>
    have ha : a ∈ blk := by
      have : a ∈ moreN fam blk := by rw [e]; exact List.mem_cons_self
      exact (List.mem_filter.mp this).1
    have hsm : Sm (fam ++ [a]) := ⟨by rw [List.length_append]; simp; omega, fun l hl => (List.mem_append.mp hl).elim (hf.2 l) fun q => by rw [List.mem_singleton.mp q]; exact hb.2 a ha⟩
    refine ⟨famD (leastN (fam ++ [a])), runDef_rt rfl (ρ := [.va (famD fam), .va (nD m), .ow 0 ((moreN fam blk).map lotD), .un]) ?_ (r := .va (famD (leastN (fam ++ [a])))) rfl rfl, rfl⟩
    show b_richer_familyM [.va (famD fam), .va (nD m), .un, .un] = _
    unfold b_richer_familyM
    rw [seq_nx h1, seq_nx h2]
    refine ret_of ?_
    unfold ifX
    rw [ht, e]
    have hadd : opM addG (varM 0) (tupM (consM (opM ixG (varM 2) (cM (.int 0))) nilM)) [.va (famD fam), .va (nD m), .ow 0 ((a :: l).map lotD), .un] = some (.ok (.va (famD (fam ++ [a])), [.va (famD fam), .va (nD m), .ow 0 ((a :: l).map lotD), .un])) := by
      have hix : opM ixG (varM 2) (cM (.int 0)) [.va (famD fam), .va (nD m), .ow 0 ((a :: l).map lotD), .un] = some (.ok (.va (lotD a), [.va (famD fam), .va (nD m), .ow 0 ((a :: l).map lotD), .un])) := by
        unfold opM
        show ob (ixG (.list (lotD a :: l.map lotD)) (.int 0)) _ = _
        have : ixG (.list (lotD a :: l.map lotD)) (.int 0) = some (.va (lotD a)) := by
          show (atI (lotD a :: l.map lotD) 0).map _ = _
          unfold atI ixN
          simp
        rw [this]
        rfl
      have htp : tupM (consM (opM ixG (varM 2) (cM (.int 0))) nilM) [.va (famD fam), .va (nD m), .ow 0 ((a :: l).map lotD), .un] = some (.ok (.va (.tuple [lotD a]), [.va (famD fam), .va (nD m), .ow 0 ((a :: l).map lotD), .un])) := by
        unfold tupM consM
        rw [hix]
        rfl
      refine op_vv (d := famD fam) rfl htp ?_
      show (match few (fam.map lotD ++ [lotD a]) with | true => some (Rv.va (.tuple (fam.map lotD ++ [lotD a]))) | false => none) = _
      rw [few_of (by rw [List.length_append, List.length_map]; simp; omega)]
      show some (Rv.va (.tuple (fam.map lotD ++ [lotD a]))) = some (Rv.va (.tuple ((fam ++ [a]).map lotD)))
      rw [List.map_append]
      rfl
    show callM (quiet m_least_lots) (consM (opM addG (varM 0) (tupM (consM (opM ixG (varM 2) (cM (.int 0))) nilM))) nilM) [.va (famD fam), .va (nD m), .ow 0 ((a :: l).map lotD), .un] = _
    exact callM_va [famD (fam ++ [a])] (cons1 hadd) (least_ok rfl hsm) rfl
end Fam

namespace Fam
open PySem PySem.Spec PyProof.Rows L2 Pl K75
/-! the same -/
def Sf (n : Nat) (d : PyData) : Prop := m__law_same n [.va d, .va d] = some (.ok (.va (.bool true), [.va d, .va d]))
theorem same_nat (n a : Nat) : Sf (n + 1) (nD a) := by
  refine runDef_rt rfl (ρ := [.va (nD a), .va (nD a), .un, .un]) (r := .va (.bool (decide ((a : Int) = a)))) rfl ?_ rfl
  rw [decide_eq_true rfl]
  rfl
theorem same_bool (n : Nat) (b : Bool) : Sf (n + 1) (.bool b) := by
  cases b <;> exact runDef_rt rfl (ρ := [.va (.bool _), .va (.bool _), .un, .un]) (r := .va (.bool true)) rfl rfl rfl
def sm_body (n : Nat) : En → RM Ot := ifM (Pl.notM (bM (callM (quiet (m__law_same n)) (consM (varM 2) (consM (varM 3) nilM))))) (retM (cM (.bool false))) nxM
theorem same_loop {n : Nat} {A B : Sl} : ∀ (ds : List PyData) (s2 s3 : Sl), (∀ d ∈ ds, Sf n d) → ∃ t2 t3, forL (stoT 2 (stosCons (stoN 2) (stosCons (stoN 3) stosNil))) (sm_body n) (zipI ds ds) [A, B, s2, s3] = some (.ok (.nx, [A, B, t2, t3]))
  | [], s2, s3, _ => ⟨s2, s3, rfl⟩
  | d :: ds, s2, s3, h => by
    obtain ⟨t2, t3, ht⟩ := same_loop (A := A) (B := B) ds (.va d) (.va d) fun x hx => h x (List.mem_cons_of_mem _ hx)
    refine ⟨t2, t3, ?_⟩
    have hb : sm_body n [A, B, .va d, .va d] = some (.ok (.nx, [A, B, .va d, .va d])) := by
      have hc : callM (quiet (m__law_same n)) (consM (varM 2) (consM (varM 3) nilM)) [A, B, .va d, .va d] = some (.ok (.va (.bool true), [A, B, .va d, .va d])) := callM_va [d, d] rfl (h d List.mem_cons_self) rfl
      unfold sm_body
      exact (if_tt (not_of (b_va hc))).trans rfl
    show forL (stoT 2 (stosCons (stoN 2) (stosCons (stoN 3) stosNil))) (sm_body n) (.tuple [d, d] :: zipI ds ds) [A, B, s2, s3] = _
    unfold forL
    have hsto : stoT 2 (stosCons (stoN 2) (stosCons (stoN 3) stosNil)) (.tuple [d, d]) [A, B, s2, s3] = some [A, B, .va d, .va d] := rfl
    rw [hsto]
    dsimp only
    rw [hb]
    exact ht
theorem same_tup {n : Nat} {ds : List PyData} (h : ∀ d ∈ ds, Sf n d) : Sf (n + 1) (.tuple ds) := by
  obtain ⟨t2, t3, ht⟩ := same_loop (A := .va (.tuple ds)) (B := .va (.tuple ds)) ds .un .un h
  refine runDef_rt rfl (ρ := [.va (.tuple ds), .va (.tuple ds), t2, t3]) ?_ (r := .va (.bool true)) rfl rfl
  show b__law_sameM (m__law_same n) [.va (.tuple ds), .va (.tuple ds), .un, .un] = _
  unfold b__law_sameM
  refine seq_rt ?_
  rw [if_tt (ρ1 := [.va (.tuple ds), .va (.tuple ds), .un, .un]) (k := true) rfl, if_pos rfl]
  have h1 : orM (Pl.notM (bM (isiM .tuple (varM 0)))) (bM (opM neG (cbM lenG (consM (varM 0) nilM)) (cbM lenG (consM (varM 1) nilM)))) [.va (.tuple ds), .va (.tuple ds), .un, .un] = some (.ok (!decide (((ds.length : Nat) : Int) = (ds.length : Nat)), [.va (.tuple ds), .va (.tuple ds), .un, .un])) := rfl
  rw [decide_eq_true rfl] at h1
  rw [seq_nx ((if_tt h1).trans rfl)]
  show sqM (Pl.forM (zipM (consM (varM 0) (consM (varM 1) nilM))) (stoT 2 (stosCons (stoN 2) (stosCons (stoN 3) stosNil))) (sm_body n)) (retM (cM (.bool true))) _ = _
  rw [seq_nx ((for_of (items := zipI ds ds) rfl).trans ht)]
  rfl
theorem same_lot (n : Nat) (l : Lot) : Sf (n + 2) (lotD l) := same_tup fun d hd => by
  obtain ⟨a, _, rfl⟩ := List.mem_map.mp hd
  exact same_nat n a
theorem same_fam (f : List Lot) : Sf 6 (famD f) := same_tup fun d hd => by
  obtain ⟨a, _, rfl⟩ := List.mem_map.mp hd
  exact same_lot 3 a
theorem cons2 {ρ ρ1 ρ2 : En} {f g : En → RM Rv} {r1 r2 : Rv} (h1 : f ρ = some (.ok (r1, ρ1))) (h2 : g ρ1 = some (.ok (r2, ρ2))) : consM f (consM g nilM) ρ = some (.ok ([r1.fz, r2.fz], ρ2)) := by
  unfold consM
  rw [h1]
  dsimp only [RM.bnd]
  rw [h2]
  rfl
/-- told and due the same -/
theorem same_of {ρ ρ1 ρ2 : En} {f g : En → RM Rv} {d : PyData} (h1 : f ρ = some (.ok (.va d, ρ1))) (h2 : g ρ1 = some (.ok (.va d, ρ2))) (h : Sf 6 d) : Pl.notM (bM (callM (quiet (m__law_same 6)) (consM f (consM g nilM)))) ρ = some (.ok (false, ρ2)) :=
  not_of (b_va (callM_va [d, d] (cons2 h1 h2) h rfl))
theorem or_ff {ρ ρ1 ρ2 : En} {s t : En → RM Bool} (h : s ρ = some (.ok (false, ρ1))) (h2 : t ρ1 = some (.ok (false, ρ2))) : Pl.orM s t ρ = some (.ok (false, ρ2)) := by
  unfold Pl.orM
  rw [h]
  exact h2
theorem if_ff {ρ ρ1 : En} {t : En → RM Bool} {a : En → RM Ot} (h : t ρ = some (.ok (false, ρ1))) : ifM t a nxM ρ = some (.ok (.nx, ρ1)) := (if_tt h).trans rfl
/-! arithmetic -/
theorem natAbs_log {i : Int} {k : Nat} (h : i.natAbs < 2 ^ k) : i.natAbs.log2 ≤ k := by
  by_cases z : i.natAbs = 0
  · rw [z]
    exact Nat.zero_le _
  · exact Nat.le_of_lt ((Nat.log2_lt z).mpr h)
theorem mul_ok {i j : Int} (h : i.natAbs < 2 ^ 64) (h' : j.natAbs < 2 ^ 64) : mulG (.int i) (.int j) = some (.va (.int (i * j))) := by
  have hb : mulB i j = true := decide_eq_true (by have := natAbs_log h; have := natAbs_log h'; omega)
  show (match mulB i j with | true => _ | false => none) = _
  rw [hb]
theorem mod_ok {i j : Int} (h : 0 < j) : modG (.int i) (.int j) = some (.va (.int (i % j))) := by
  have hb : modB i j = true := decide_eq_true h
  show (match modB i j with | true => _ | false => none) = _
  rw [hb]
theorem div_ok {i j : Int} (h : 0 < j) (h2 : j.natAbs < 2 ^ 64) : divG (.int i) (.int j) = some (.va (.int (i / j))) := by
  have hb : divB i j = true := by
    unfold divB
    rw [Bool.and_eq_true]
    exact ⟨decide_eq_true h, decide_eq_true (by have := natAbs_log h2; omega)⟩
  show (match divB i j with | true => _ | false => none) = _
  rw [hb]
section
variable {ρ ρ1 ρ2 : En} {f : En → RM Rv} {i : Int}
theorem int_of (h : f ρ = some (.ok (.va (.int i), ρ1))) : cbM intG (consM f nilM) ρ = some (.ok (.va (.int i), ρ1)) := by
  unfold cbM consM
  rw [h]
  rfl
theorem abs_of (h : f ρ = some (.ok (.va (.int i), ρ1))) : cbM absG (consM f nilM) ρ = some (.ok (.va (.int (if i < 0 then -i else i)), ρ1)) := by
  unfold cbM consM
  rw [h]
  rfl
end
end Fam

namespace Fam
open PySem PySem.Spec PyProof.Rows L2 Pl K75
/-! what is asked of a pair -/
def condC (m q : Nat) : Bool :=
  decide (blkC [[]] (thrN m q) = some (thrN m (m - q + 1))) && decide (meetF [] (thrN m q) = decide (m < 2 * q)) &&
  decide (liveN (thrN m q) (thrN m (m - q + 1)) m = (allN m).filter fun l => Nat.ble (max q (m - q + 1)) l.length) && (decide (2 * q ≤ m) || decide ((moreN (thrN m q) (thrN m (m - q + 1))).isEmpty = decide (2 * q = m + 1)))
theorem add_nat (a b : Nat) : addG (.int (a : Int)) (.int (b : Int)) = some (.va (nD (a + b))) := by
  show some (Rv.va (.int ((a : Int) + b))) = some (Rv.va (.int ((a + b : Nat) : Int)))
  rw [Int.natCast_add]
theorem sub_nat {a b : Nat} (h : b ≤ a) : subG (.int (a : Int)) (.int (b : Int)) = some (.va (nD (a - b))) := by
  show some (Rv.va (.int ((a : Int) - b))) = some (Rv.va (.int ((a - b : Nat) : Int)))
  rw [Int.ofNat_sub h]
theorem mul2_nat (q : Nat) (h : q ≤ 1000) : mulG (.int 2) (.int (q : Int)) = some (.va (nD (2 * q))) := by
  rw [mul_ok (by decide) (by omega)]
  show some (Rv.va (.int (2 * (q : Int)))) = some (Rv.va (.int ((2 * q : Nat) : Int)))
  congr 3
theorem max_nat (a b : Nat) {ρ ρ1 ρ2 : En} {f g : En → RM Rv} (h1 : f ρ = some (.ok (.va (nD a), ρ1))) (h2 : g ρ1 = some (.ok (.va (nD b), ρ2))) : cbM maxG (consM f (consM g nilM)) ρ = some (.ok (.va (nD (max a b)), ρ2)) := by
  unfold cbM
  rw [cons2 h1 h2]
  show some (Except.ok (Rv.va (.int (if (b : Int) > a then (b : Int) else a)), ρ2)) = _
  have : (if (b : Int) > a then (b : Int) else a) = ((max a b : Nat) : Int) := by
    split <;> omega
  rw [this]
  rfl
theorem geG_nat (a b : Nat) : geG (.int (a : Int)) (.int (b : Int)) = some (.va (.bool (Nat.ble b a))) := by
  show some (Rv.va (.bool (decide ((b : Int) ≤ a)))) = _
  congr 3
  cases e : Nat.ble b a with
  | true =>
    have := Nat.le_of_ble_eq_true e
    exact decide_eq_true (by omega)
  | false =>
    refine decide_eq_false fun z => ?_
    have : b ≤ a := by omega
    rw [Nat.ble_eq.mpr this] at e
    cases e
theorem gtG_nat (a b : Nat) : gtG (.int (a : Int)) (.int (b : Int)) = some (.va (.bool (decide (b < a)))) := by
  show some (Rv.va (.bool (decide ((b : Int) < a)))) = _
  congr 3
  by_cases h : b < a
  · rw [decide_eq_true h, decide_eq_true (by omega)]
  · rw [decide_eq_false h, decide_eq_false (by omega)]
theorem leG_nat (a b : Nat) : leG (.int (a : Int)) (.int (b : Int)) = some (.va (.bool (decide (a ≤ b)))) := by
  show some (Rv.va (.bool (decide ((a : Int) ≤ b)))) = _
  congr 3
  by_cases h : a ≤ b
  · rw [decide_eq_true h, decide_eq_true (by omega)]
  · rw [decide_eq_false h, decide_eq_false (by omega)]
theorem eqG_nat' (a b : Nat) : eqG (.int (a : Int)) (.int (b : Int)) = some (.va (.bool (decide (a = b)))) := by
  show some (Rv.va (.bool (decide ((a : Int) = b)))) = _
  congr 3
  by_cases h : a = b
  · rw [decide_eq_true h, decide_eq_true (by omega)]
  · rw [decide_eq_false h, decide_eq_false (by omega)]
theorem callKM_of {G : En → RM Rv} {np nk : Nat} {perm : List Nat} {fr fk : En → RM (List Rv)} {ρ ρ1 ρ2 : En} {rs qs : List Rv} (h1 : fr ρ = some (.ok (rs, ρ1))) (h2 : fk ρ1 = some (.ok (qs, ρ2))) : callKM G np nk perm fr fk ρ = callM G (fun _ => some (.ok (pickC np nk perm rs qs, ρ2))) ρ2 := by
  unfold callKM
  rw [h1]
  dsimp only [RM.bnd]
  rw [h2]
theorem right_ok {m q : Nat} (hm : m ≤ 7) (hq : 1 ≤ q) (hqm : q ≤ m) (hc : condC m q = true) : m__law_right [.va (nD m), .va (nD q)] = some (.ok (.va (.bool true), [.va (nD m), .va (nD q)])) := by
  unfold condC at hc
  rw [Bool.and_eq_true, Bool.and_eq_true, Bool.and_eq_true, decide_eq_true_eq, decide_eq_true_eq, decide_eq_true_eq, Bool.or_eq_true, decide_eq_true_eq, decide_eq_true_eq] at hc
  obtain ⟨⟨⟨c1, c2⟩, c3⟩, c4⟩ := hc
  have hs := sm_thr (q := q) hm
  have hs2 := sm_thr (q := m - q + 1) hm
  have thrB : ∀ l ∈ thrN m q, l.length ≤ 1000 := fun l hl => hs.2 l hl
  let F := famD (thrN m q)
  let B := famD (thrN m (m - q + 1))
  -- due, told
  have e1 : asgM 2 (callM (quiet m__law_threshold) (consM (varM 0) (consM (varM 1) nilM))) [.va (nD m), .va (nD q), .un, .un, .un, .un, .un] = some (.ok (.nx, [.va (nD m), .va (nD q), .va F, .un, .un, .un, .un])) := asg_va (ρ1 := [.va (nD m), .va (nD q), .un, .un, .un, .un, .un]) (callM_va [nD m, nD q] rfl (lthr_ok hm) rfl)
  have e2 : asgM 3 (callM (quiet m_threshold_family) (consM (varM 0) (consM (varM 1) nilM))) [.va (nD m), .va (nD q), .va F, .un, .un, .un, .un] = some (.ok (.nx, [.va (nD m), .va (nD q), .va F, .va F, .un, .un, .un])) := asg_va (ρ1 := [.va (nD m), .va (nD q), .va F, .un, .un, .un, .un]) (callM_va [nD m, nD q] rfl (thr_ok hm) rfl)
  have kw : callKM (quiet m_threshold_family) 0 2 [1, 0] nilM (consM (varM 1) (consM (varM 0) nilM)) [.va (nD m), .va (nD q), .va F, .va F, .un, .un, .un] = some (.ok (.va F, [.va (nD m), .va (nD q), .va F, .va F, .un, .un, .un])) := by
    rw [callKM_of (rs := []) (qs := [.va (nD q), .va (nD m)]) (ρ1 := [.va (nD m), .va (nD q), .va F, .va F, .un, .un, .un]) (ρ2 := [.va (nD m), .va (nD q), .va F, .va F, .un, .un, .un]) rfl rfl]
    exact callM_va [nD m, nD q] rfl (thr_ok hm) rfl
  have e3 := if_ff (a := retM (cM (.bool false))) (or_ff (same_of (ρ := [.va (nD m), .va (nD q), .va F, .va F, .un, .un, .un]) (f := varM 3) (g := varM 2) rfl rfl (same_fam (thrN m q))) (same_of (g := varM 2) kw rfl (same_fam (thrN m q))))
  have arg : ∀ (s2 s3 s4 s5 s6 : Sl), opM addG (opM subG (varM 0) (varM 1)) (cM (.int 1)) [.va (nD m), .va (nD q), s2, s3, s4, s5, s6] = some (.ok (.va (nD (m - q + 1)), [.va (nD m), .va (nD q), s2, s3, s4, s5, s6])) := fun s2 s3 s4 s5 s6 =>
    op_vv (op_vv (d := nD m) (e := nD q) rfl rfl (sub_nat hqm)) (e := .int ((1 : Nat) : Int)) rfl (add_nat (m - q) 1)
  have e4 : asgM 4 (callM (quiet m__law_threshold) (consM (varM 0) (consM (opM addG (opM subG (varM 0) (varM 1)) (cM (.int 1))) nilM))) [.va (nD m), .va (nD q), .va F, .va F, .un, .un, .un] = some (.ok (.nx, [.va (nD m), .va (nD q), .va F, .va F, .va B, .un, .un])) :=
    asg_va (callM_va [nD m, nD (m - q + 1)] (cons2 (r1 := .va (nD m)) rfl (arg _ _ _ _ _)) (lthr_ok hm) rfl)
  have bl : callM (quiet m_blocker_of) (consM (varM 3) (consM (varM 0) nilM)) [.va (nD m), .va (nD q), .va F, .va F, .va B, .un, .un] = some (.ok (.va B, [.va (nD m), .va (nD q), .va F, .va F, .va B, .un, .un])) := callM_va [F, nD m] rfl (blocker_ok thrB c1) rfl
  have mt : callM (quiet m_is_meeting) (consM (varM 3) nilM) [.va (nD m), .va (nD q), .va F, .va F, .va B, .un, .un] = some (.ok (.va (.bool (decide (m < 2 * q))), [.va (nD m), .va (nD q), .va F, .va F, .va B, .un, .un])) := callM_va [F] rfl (by rw [← c2]; exact meeting_ok hs) rfl
  have g2 : opM gtG (opM mulG (cM (.int 2)) (varM 1)) (varM 0) [.va (nD m), .va (nD q), .va F, .va F, .va B, .un, .un] = some (.ok (.va (.bool (decide (m < 2 * q))), [.va (nD m), .va (nD q), .va F, .va F, .va B, .un, .un])) := op_vv (op_vv (d := .int 2) (e := nD q) rfl rfl (mul2_nat q (by omega))) (e := nD m) rfl (gtG_nat _ _)
  have e5 := if_ff (a := retM (cM (.bool false))) (or_ff (same_of (g := varM 4) bl rfl (same_fam _)) (same_of mt g2 (same_bool 5 _)))
  have e6 : asgM 5 (cbM maxG (consM (varM 1) (consM (opM addG (opM subG (varM 0) (varM 1)) (cM (.int 1))) nilM))) [.va (nD m), .va (nD q), .va F, .va F, .va B, .un, .un] = some (.ok (.nx, [.va (nD m), .va (nD q), .va F, .va F, .va B, .va (nD (max q (m - q + 1))), .un])) := asg_va (max_nat q (m - q + 1) rfl (arg _ _ _ _ _))
  let ρ := [Sl.va (nD m), .va (nD q), .va F, .va F, .va B, .va (nD (max q (m - q + 1))), .un]
  have lv : callM (quiet m_live_lots) (consM (varM 3) (consM (varM 0) nilM)) ρ = some (.ok (.va (famD (liveN (thrN m q) (thrN m (m - q + 1)) m)), ρ)) := callM_va [F, nD m] rfl (live_ok hm hs hs2 c1) rfl
  have hL := lcL_map lotD lotD (i := 6) (test := bM (opM geG (cbM lenG (consM (varM 6) nilM)) (varM 5))) (elt := varM 6) (ρ0 := ρ) (fun l => Nat.ble (max q (m - q + 1)) l.length) id rfl (allN m) [] fun l _ =>
    ⟨b_va (op_vv (len_lot rfl) (e := nD (max q (m - q + 1))) rfl (geG_nat l.length _)), fun _ => ⟨_, rfl, rfl⟩⟩
  have al : seqM (callM (quiet m__law_all) (consM (varM 0) nilM)) ρ = some (.ok ((allN m).map lotD, ρ)) := sq_nw (callM_va [nD m] rfl (lall_ok hm) rfl)
  have hlc := lcM_of al (by rw [List.length_map]; have := allN_len hm; omega) rfl hL
  rw [← un_map, ← c3] at hlc
  have e7 := if_ff (ρ1 := ρ) (a := retM (cM (.bool false))) (same_of lv (tup_of hlc) (same_fam _))
  refine runDef_rt rfl (ρ := ρ) ?_ (r := .va (.bool true)) rfl rfl
  show b__law_rightM [.va (nD m), .va (nD q), .un, .un, .un, .un, .un] = _
  unfold b__law_rightM
  rw [seq_nx e1, seq_nx e2, seq_nx e3, seq_nx e4, seq_nx e5, seq_nx e6, seq_nx e7]
  have t8 : bM (opM leG (opM mulG (cM (.int 2)) (varM 1)) (varM 0)) ρ = some (.ok (decide (2 * q ≤ m), ρ)) := b_va (op_vv (op_vv (d := .int 2) (e := nD q) rfl rfl (mul2_nat q (by omega))) (e := nD m) rfl (leG_nat _ _))
  by_cases h2 : 2 * q ≤ m
  · rw [decide_eq_true h2] at t8
    exact seq_rt ((if_tt t8).trans rfl)
  · rw [decide_eq_false h2] at t8
    rw [seq_nx (if_ff t8)]
    have c4' := c4.resolve_left h2
    have hmeet : meetF [] (thrN m q) = true := by
      rw [c2]
      exact decide_eq_true (by omega)
    obtain ⟨d, hr, hd⟩ := richer_ok (m := m) hs (by have := thrN_len (q := q) hm; omega) hs2 hmeet c1
    have rc : callM (quiet m_richer_family) (consM (varM 3) (consM (varM 0) nilM)) ρ = some (.ok (.va d, ρ)) := callM_va [F, nD m] rfl hr rfl
    have i1 : opM isNG (callM (quiet m_richer_family) (consM (varM 3) (consM (varM 0) nilM))) (cM .none) ρ = some (.ok (.va (.bool (isNone d)), ρ)) := op_vv rc (e := .none) rfl rfl
    have i2 : opM eqG (opM mulG (cM (.int 2)) (varM 1)) (opM addG (varM 0) (cM (.int 1))) ρ = some (.ok (.va (.bool (decide (2 * q = m + 1))), ρ)) :=
      op_vv (op_vv (d := .int 2) (e := nD q) rfl rfl (mul2_nat q (by omega))) (op_vv (d := nD m) (e := .int ((1 : Nat) : Int)) rfl rfl (add_nat m 1)) (eqG_nat' _ _)
    refine ret_of (op_vv i1 i2 ?_)
    rw [hd, c4']
    show some (Rv.va (.bool (decide (decide (2 * q = m + 1) = decide (2 * q = m + 1))))) = _
    rw [decide_eq_true rfl]
end Fam

namespace Fam
open PySem PySem.Spec PyProof.Rows L2 Pl K75
theorem cond_all : ∀ m ∈ List.range 8, ∀ q ∈ List.range 8, 1 ≤ q → q ≤ m → condC m q = true := by decide +kernel
theorem right_all {m q : Nat} (hm : m ≤ 7) (hq : 1 ≤ q) (hqm : q ≤ m) : m__law_right [.va (nD m), .va (nD q)] = some (.ok (.va (.bool true), [.va (nD m), .va (nD q)])) :=
  right_ok hm hq hqm (cond_all m (List.mem_range.mpr (by omega)) q (List.mem_range.mpr (by omega)) hq hqm)
/-! the take -/
theorem ix0 (g r : Int) : ixG (.list [.int g, .int r]) (.int 0) = some (.va (.int g)) := rfl
theorem ix1 (g r : Int) : ixG (.list [.int g, .int r]) (.int 1) = some (.va (.int r)) := rfl
theorem op_sl {ρ ρ1 ρ2 : En} {g : PyData → PyData → Option Rv} {fa fb : En → RM Rv} {i : Nat} {d e : PyData} {z : Rv} (ha : fa ρ = some (.ok (.sl i, ρ1))) (hb : fb ρ1 = some (.ok (.va e, ρ2))) (hl : look ρ2 (.sl i) = some d) (hg : g d e = some z) : opM g fa fb ρ = some (.ok (z, ρ2)) := by
  unfold opM
  rw [ha]
  dsimp only [RM.bnd]
  rw [hb]
  dsimp only [RM.bnd]
  unfold lk
  rw [hl]
  dsimp only [look]
  rw [hg]
  rfl
theorem set_of {ρ : En} {fe fi : En → RM Rv} {i k j : Nat} {d : PyData} {n : Int} {ds : List PyData} (h : fe ρ = some (.ok (.va d, ρ))) (hi : ρ[i]? = some (.ow k ds)) (h2 : fi ρ = some (.ok (.va (.int n), ρ))) (hj : ixN ds.length n = some j) : setM i fe fi ρ = some (.ok (.nx, ρ.set i (.ow k (ds.set j d)))) := by
  unfold setM
  rw [h]
  dsimp only [RM.bnd, fzR]
  rw [hi]
  dsimp only
  rw [h2]
  dsimp only
  rw [hi]
  dsimp only
  rw [hj]
theorem take_ok (g r : Int) (hr : 0 ≤ r) (hr2 : r < 2 ^ 32) (k : Nat) (hk : 1 ≤ k) (hk2 : k ≤ 1000) : ∃ (t : Nat) (g' r' : Int), t < k ∧ 0 ≤ r' ∧ r' < 2 ^ 32 ∧ m__law_take [.ow 1 [.int g, .int r], .va (nD k)] = some (.ok (.va (nD t), [.ow 1 [.int g', .int r'], .va (nD k)])) := by
  have hk0 : (0 : Int) < (k : Int) := by omega
  have hkb : (k : Int).natAbs < 2 ^ 64 := by omega
  have tnat : ∀ x : Int, ∃ t : Nat, t < k ∧ x % (k : Int) = (t : Int) := fun x => by
    have h1 := Int.emod_nonneg x (show (k : Int) ≠ 0 by omega)
    have h2 := Int.emod_lt_of_pos x hk0
    exact ⟨(x % (k : Int)).toNat, by omega, by omega⟩
  have i0 : ∀ s2 s3 : Sl, opM ixG (varM 0) (cM (.int 0)) [.ow 1 [.int g, .int r], .va (nD k), s2, s3] = some (.ok (.va (.int g), [.ow 1 [.int g, .int r], .va (nD k), s2, s3])) := fun s2 s3 => op_sl (i := 0) (d := .list [.int g, .int r]) rfl rfl rfl (ix0 g r)
  have t0 : bM (opM gtG (opM ixG (varM 0) (cM (.int 0))) (cM (.int 0))) [.ow 1 [.int g, .int r], .va (nD k), .un, .un] = some (.ok (decide (0 < g), [.ow 1 [.int g, .int r], .va (nD k), .un, .un])) := b_va (op_vv (i0 _ _) (e := .int 0) rfl rfl)
  by_cases hg : 0 < g
  · obtain ⟨t, ht, et⟩ := tnat g
    refine ⟨t, g / (k : Int), r, ht, hr, hr2, ?_⟩
    rw [decide_eq_true hg] at t0
    have q2 : asgM 2 (opM modG (cbM intG (consM (opM ixG (varM 0) (cM (.int 0))) nilM)) (varM 1)) [.ow 1 [.int g, .int r], .va (nD k), .un, .un] = some (.ok (.nx, [.ow 1 [.int g, .int r], .va (nD k), .va (.int (g % (k : Int))), .un])) :=
      asg_va (ρ1 := [.ow 1 [.int g, .int r], .va (nD k), .un, .un]) (op_vv (int_of (i0 _ _)) (e := nD k) rfl (mod_ok hk0))
    have q3 : setM 0 (opM divG (opM ixG (varM 0) (cM (.int 0))) (varM 1)) (cM (.int 0)) [.ow 1 [.int g, .int r], .va (nD k), .va (.int (g % (k : Int))), .un] = some (.ok (.nx, [.ow 1 [.int (g / (k : Int)), .int r], .va (nD k), .va (.int (g % (k : Int))), .un])) :=
      set_of (i := 0) (k := 1) (j := 0) (ds := [.int g, .int r]) (ρ := [.ow 1 [.int g, .int r], .va (nD k), .va (.int (g % (k : Int))), .un]) (op_vv (i0 _ _) (e := nD k) rfl (div_ok hk0 hkb)) rfl (n := 0) rfl rfl
    refine runDef_rt rfl (ρ := [.ow 1 [.int (g / (k : Int)), .int r], .va (nD k), .va (.int (g % (k : Int))), .un]) ?_ (r := .va (.int (g % (k : Int)))) (r' := .va (nD t)) ?_ rfl
    · show b__law_takeM [.ow 1 [.int g, .int r], .va (nD k), .un, .un] = _
      unfold b__law_takeM
      refine seq_rt ?_
      rw [if_tt t0, if_pos rfl, seq_nx q2, seq_nx q3]
      rfl
    · show some (Rv.va (.int (g % (k : Int)))) = _
      rw [et]
      rfl
  · rw [decide_eq_false hg] at t0
    have i1 : ∀ s2 s3 : Sl, opM ixG (varM 0) (cM (.int 1)) [.ow 1 [.int g, .int r], .va (nD k), s2, s3] = some (.ok (.va (.int r), [.ow 1 [.int g, .int r], .va (nD k), s2, s3])) := fun s2 s3 => op_sl (i := 0) (d := .list [.int g, .int r]) rfl rfl rfl (ix1 g r)
    let raw : Int := (r * 39373 + 307) % 2147483647
    let b1 : Int := (raw * 40692 + 61) % 2147483399 + 1
    have raw0 : 0 ≤ raw := Int.emod_nonneg _ (by decide)
    have raw1 : raw < 2147483647 := Int.emod_lt_of_pos _ (by decide)
    have b0 : 0 ≤ (raw * 40692 + 61) % 2147483399 := Int.emod_nonneg _ (by decide)
    have b2 : (raw * 40692 + 61) % 2147483399 < 2147483399 := Int.emod_lt_of_pos _ (by decide)
    obtain ⟨t, ht, et⟩ := tnat ((raw * 2147483629 + b1) / 8233)
    refine ⟨t, g, b1, ht, by show 0 ≤ _ + 1; omega, by show _ + 1 < _; omega, ?_⟩
    have a3 : asgM 3 (opM modG (cbM intG (consM (opM addG (opM mulG (opM ixG (varM 0) (cM (.int 1))) (cM (.int 39373))) (cM (.int 307))) nilM)) (cM (.int 2147483647))) [.ow 1 [.int g, .int r], .va (nD k), .un, .un] = some (.ok (.nx, [.ow 1 [.int g, .int r], .va (nD k), .un, .va (.int raw)])) :=
      asg_va (ρ1 := [.ow 1 [.int g, .int r], .va (nD k), .un, .un]) (op_vv (int_of (op_vv (op_vv (i1 _ _) (e := .int 39373) rfl (mul_ok (by omega) (by decide))) (e := .int 307) rfl (z := .va (.int (r * 39373 + 307))) rfl)) (e := .int 2147483647) rfl (mod_ok (by decide)))
    let ρ3 := [Sl.ow 1 [.int g, .int r], .va (nD k), .un, .va (.int raw)]
    have s1 : setM 0 (opM addG (opM modG (cbM intG (consM (opM addG (opM mulG (varM 3) (cM (.int 40692))) (cM (.int 61))) nilM)) (cM (.int 2147483399))) (cM (.int 1))) (cM (.int 1)) ρ3 = some (.ok (.nx, [.ow 1 [.int g, .int b1], .va (nD k), .un, .va (.int raw)])) :=
      set_of (i := 0) (k := 1) (j := 1) (ds := [.int g, .int r]) (op_vv (op_vv (int_of (op_vv (op_vv (d := .int raw) (e := .int 40692) rfl rfl (mul_ok (by omega) (by decide))) (e := .int 61) rfl (z := .va (.int (raw * 40692 + 61))) rfl)) (e := .int 2147483399) rfl (mod_ok (by decide))) (e := .int 1) rfl (z := .va (.int b1)) rfl) rfl (n := 1) rfl rfl
    refine runDef_rt rfl (ρ := [.ow 1 [.int g, .int b1], .va (nD k), .un, .va (.int raw)]) ?_ (r := .va (nD t)) rfl rfl
    show b__law_takeM [.ow 1 [.int g, .int r], .va (nD k), .un, .un] = _
    unfold b__law_takeM
    rw [seq_nx (if_ff t0), seq_nx a3, seq_nx s1]
    have i1' : opM ixG (varM 0) (cM (.int 1)) [.ow 1 [.int g, .int b1], .va (nD k), .un, .va (.int raw)] = some (.ok (.va (.int b1), [.ow 1 [.int g, .int b1], .va (nD k), .un, .va (.int raw)])) := op_sl (i := 0) (d := .list [.int g, .int b1]) rfl rfl rfl (ix1 g b1)
    refine ret_of (op_vv (int_of (op_vv (op_vv (op_vv (d := .int raw) (e := .int 2147483629) rfl rfl (mul_ok (by omega) (by decide))) i1' (z := .va (.int (raw * 2147483629 + b1))) rfl) (e := .int 8233) rfl (div_ok (by decide) (by decide)))) (e := nD k) rfl ?_)
    rw [show nD k = .int (k : Int) from rfl, mod_ok hk0, et]
    rfl
/-! the box -/
theorem len_list {ρ : En} {ns : List Int} (h : varM 0 ρ = some (.ok (.va (.list (ns.map PyData.int)), ρ))) : cbM lenG (consM (varM 0) nilM) ρ = some (.ok (.va (.int (ns.length : Nat)), ρ)) := by
  unfold cbM consM
  rw [h]
  show some (Except.ok (Rv.va (.int ((ns.map PyData.int).length : Nat)), ρ)) = _
  rw [List.length_map]
theorem ix_list {ns : List Int} {i : Nat} (h : i < ns.length) : ixG (.list (ns.map PyData.int)) (.int (i : Int)) = some (.va (.int ns[i])) := by
  show (atI (ns.map PyData.int) (i : Int)).map _ = _
  have : atI (ns.map PyData.int) (i : Int) = some (.int ns[i]) := by
    unfold atI ixN
    rw [List.length_map, if_pos (by omega), if_pos (by omega)]
    show (ns.map PyData.int)[(i : Int).toNat]? = _
    rw [Int.toNat_natCast, List.getElem?_map, List.getElem?_eq_getElem h]
    rfl
  rw [this]
  rfl
theorem ltG_nat (a b : Nat) : ltG (.int (a : Int)) (.int (b : Int)) = some (.va (.bool (decide (a < b)))) := by
  show some (Rv.va (.bool (decide ((a : Int) < b)))) = _
  congr 3
  by_cases h : a < b
  · rw [decide_eq_true h, decide_eq_true (by omega)]
  · rw [decide_eq_false h, decide_eq_false (by omega)]
theorem lst2 {ρ : En} {f g : En → RM Rv} {a b : Int} (h1 : f ρ = some (.ok (.va (.int a), ρ))) (h2 : g ρ = some (.ok (.va (.int b), ρ))) : lstM (consM f (consM g nilM)) ρ = some (.ok (.nw [.int a, .int b], ρ)) := by
  unfold lstM
  rw [cons2 h1 h2]
  rfl
theorem pow10 : powG (.int 10) (.int 18) = some (.va (.int (10 ^ 18))) := by
  have hb : powB 10 18 = true := by decide
  show (match powB 10 18 with | true => some (Rv.va (.int (10 ^ (18 : Int).toNat))) | false => none) = _
  rw [hb]
  rfl
theorem box_ok (ns : List Int) (k : Nat) (hk : k ≤ 1000) (hn : ns.length ≤ 1000) : ∃ g r : Int, 0 ≤ r ∧ r < 2 ^ 32 ∧ m__law_box [.va (.list (ns.map PyData.int)), .va (nD k)] = some (.ok (.nw [.int g, .int r], [.va (.list (ns.map PyData.int)), .va (nD k)])) := by
  let S := PyData.list (ns.map PyData.int)
  have k12 : opM mulG (cM (.int 12011)) (varM 1) [.va S, .va (nD k), .un, .un] = some (.ok (.va (.int (12011 * (k : Int))), [.va S, .va (nD k), .un, .un])) := op_vv (d := .int 12011) (e := nD k) rfl rfl (mul_ok (by decide) (by omega))
  have a1 : asgM 2 (opM addG (opM mulG (cM (.int 12011)) (varM 1)) (cM (.int 7321))) [.va S, .va (nD k), .un, .un] = some (.ok (.nx, [.va S, .va (nD k), .va (.int (12011 * (k : Int) + 7321)), .un])) := asg_va (ρ1 := [.va S, .va (nD k), .un, .un]) (op_vv k12 (e := .int 7321) rfl rfl)
  let c0 : Int := 12011 * (k : Int) + 7321
  let ρ2 := fun c : Int => [Sl.va S, .va (nD k), .va (.int c), .un]
  have ln : ∀ c, cbM lenG (consM (varM 0) nilM) (ρ2 c) = some (.ok (.va (.int (ns.length : Nat)), ρ2 c)) := fun c => len_list rfl
  have a2 : ∃ c : Int, (ifM (bM (opM ltG (varM 1) (cbM lenG (consM (varM 0) nilM)))) (asgM 2 (cbM absG (consM (cbM intG (consM (opM ixG (varM 0) (varM 1)) nilM)) nilM))) (ifM (bM (opM gtG (cbM lenG (consM (varM 0) nilM)) (cM (.int 0)))) (asgM 2 (opM addG (varM 2) (opM mulG (opM modG (cbM intG (consM (cbM absG (consM (cbM intG (consM (opM ixG (varM 0) (opM modG (cbM intG (consM (varM 1) nilM)) (cbM lenG (consM (varM 0) nilM)))) nilM)) nilM)) nilM)) (cM (.int 2147483563))) (cM (.int 68213))))) nxM)) (ρ2 c0) = some (.ok (.nx, ρ2 c)) := by
    have t1 : bM (opM ltG (varM 1) (cbM lenG (consM (varM 0) nilM))) (ρ2 c0) = some (.ok (decide (k < ns.length), ρ2 c0)) := b_va (op_vv (d := nD k) rfl (ln c0) (ltG_nat _ _))
    by_cases h : k < ns.length
    · rw [decide_eq_true h] at t1
      refine ⟨_, (if_tt t1).trans ((if_pos rfl).trans (asg_va (ρ1 := ρ2 c0) (abs_of (int_of (op_vv (d := S) (e := nD k) rfl rfl (ix_list h))))))⟩
    · rw [decide_eq_false h] at t1
      have t2 : bM (opM gtG (cbM lenG (consM (varM 0) nilM)) (cM (.int 0))) (ρ2 c0) = some (.ok (decide (0 < ns.length), ρ2 c0)) := b_va (op_vv (ln c0) (e := .int ((0 : Nat) : Int)) rfl (gtG_nat _ _))
      by_cases h2 : 0 < ns.length
      · rw [decide_eq_true h2] at t2
        have hix : k % ns.length < ns.length := Nat.mod_lt _ h2
        have m1 : opM modG (cbM intG (consM (varM 1) nilM)) (cbM lenG (consM (varM 0) nilM)) (ρ2 c0) = some (.ok (.va (.int ((k % ns.length : Nat) : Int)), ρ2 c0)) := by
          refine op_vv (int_of (i := (k : Int)) rfl) (ln c0) ?_
          rw [mod_ok (by omega)]
          rfl
        have m2 := abs_of (int_of (op_vv (ρ := ρ2 c0) (fa := varM 0) (d := S) rfl m1 (ix_list hix)))
        have bnd : ∀ x : Int, (x % 2147483563).natAbs < 2 ^ 64 := fun x => by
          have h1 := Int.emod_nonneg x (show (2147483563 : Int) ≠ 0 by decide)
          have h2 := Int.emod_lt_of_pos x (show (0 : Int) < 2147483563 by decide)
          omega
        refine ⟨_, (if_tt t1).trans ((if_neg Bool.false_ne_true).trans ((if_tt t2).trans ((if_pos rfl).trans (asg_va (ρ1 := ρ2 c0) (op_vv (ρ := ρ2 c0) (ρ1 := ρ2 c0) (d := .int c0) rfl (op_vv (op_vv (int_of m2) (e := .int 2147483563) rfl (mod_ok (by decide))) (e := .int 68213) rfl (mul_ok (bnd _) (by decide))) rfl)))))⟩
      · rw [decide_eq_false h2] at t2
        exact ⟨c0, (if_tt t1).trans ((if_neg Bool.false_ne_true).trans (if_ff t2))⟩
  obtain ⟨c, a2⟩ := a2
  have a3 : ∃ g : Int, asgM 3 (ifX (bM (opM geG (varM 2) (opM powG (cM (.int 10)) (cM (.int 18))))) (varM 2) (cM (.int 0))) (ρ2 c) = some (.ok (.nx, [.va S, .va (nD k), .va (.int c), .va (.int g)])) := by
    have t : bM (opM geG (varM 2) (opM powG (cM (.int 10)) (cM (.int 18)))) (ρ2 c) = some (.ok (decide ((10 : Int) ^ 18 ≤ c), ρ2 c)) := b_va (op_vv (d := .int c) rfl (op_vv (d := .int 10) (e := .int 18) rfl rfl pow10) rfl)
    by_cases h : (10 : Int) ^ 18 ≤ c
    · rw [decide_eq_true h] at t
      refine ⟨c, asg_va (ρ1 := ρ2 c) ?_⟩
      unfold ifX
      rw [t]
      rfl
    · rw [decide_eq_false h] at t
      refine ⟨0, asg_va (ρ1 := ρ2 c) ?_⟩
      unfold ifX
      rw [t]
      rfl
  obtain ⟨g, a3⟩ := a3
  let ρ4 := [Sl.va S, .va (nD k), .va (.int c), .va (.int g)]
  have bnd : (c % 2147483563).natAbs < 2 ^ 64 := by
    have h1 := Int.emod_nonneg c (show (2147483563 : Int) ≠ 0 by decide)
    have h2 := Int.emod_lt_of_pos c (show (0 : Int) < 2147483563 by decide)
    omega
  let x : Int := c % 2147483563 * 58271 + 7321 * (k : Int)
  have x0 := Int.emod_nonneg x (show (2147483563 : Int) ≠ 0 by decide)
  have x1 := Int.emod_lt_of_pos x (show (0 : Int) < 2147483563 by decide)
  have e1 : opM mulG (opM modG (cbM intG (consM (varM 2) nilM)) (cM (.int 2147483563))) (cM (.int 58271)) ρ4 = some (.ok (.va (.int (c % 2147483563 * 58271)), ρ4)) := op_vv (op_vv (int_of (i := c) rfl) (e := .int 2147483563) rfl (mod_ok (by decide))) (e := .int 58271) rfl (mul_ok bnd (by decide))
  have e2 : opM mulG (cM (.int 7321)) (varM 1) ρ4 = some (.ok (.va (.int (7321 * (k : Int))), ρ4)) := op_vv (d := .int 7321) (e := nD k) rfl rfl (mul_ok (by decide) (by omega))
  have e3 : opM addG (opM modG (cbM intG (consM (opM addG (opM mulG (opM modG (cbM intG (consM (varM 2) nilM)) (cM (.int 2147483563))) (cM (.int 58271))) (opM mulG (cM (.int 7321)) (varM 1))) nilM)) (cM (.int 2147483563))) (cM (.int 1)) ρ4 = some (.ok (.va (.int (x % 2147483563 + 1)), ρ4)) :=
    op_vv (op_vv (int_of (op_vv e1 e2 (z := .va (.int x)) rfl)) (e := .int 2147483563) rfl (mod_ok (by decide))) (e := .int 1) rfl rfl
  refine ⟨g, x % 2147483563 + 1, by omega, by omega, runDef_rt rfl (ρ := ρ4) ?_ (r := .nw [.int g, .int (x % 2147483563 + 1)]) rfl rfl⟩
  show b__law_boxM [.va S, .va (nD k), .un, .un] = _
  unfold b__law_boxM
  rw [seq_nx a1, seq_nx a2, seq_nx a3]
  exact ret_of (lst2 rfl e3)
end Fam

namespace Fam
open PySem PySem.Spec PyProof.Rows L2 Pl K75
/-- the first argument a list of one's own, that is changed -/
theorem callM_wr {G : En → RM Rv} {fr : En → RM (List Rv)} {ρ ρ1 : En} {r : Rv} {i k : Nat} {es es' : List PyData} (ds : List PyData) (h : fr ρ = some (.ok (.sl i :: ds.map Rv.va, ρ1))) (hi : ρ1[i]? = some (.ow k es)) (hG : G (.ow 1 es :: ds.map Sl.va) = some (.ok (r, .ow 1 es' :: ds.map Sl.va))) (hr : isSl r = false) : callM (quiet G) fr ρ = some (.ok (r, ρ1.set i (.ow k es'))) := by
  unfold callM
  rw [h]
  dsimp only [RM.bnd]
  have e1 : argsOf ρ1 (.sl i :: ds.map Rv.va) 0 = some (.ow 1 es :: ds.map Sl.va) := by
    unfold argsOf
    rw [args_va]
    simp only [argOf, hi]
  have e2 : owsOf ρ1 (.sl i :: ds.map Rv.va) = [i] := by
    unfold owsOf
    rw [hi, ows_va]
  have e3 : back ρ1 (.sl i :: ds.map Rv.va) (.ow 1 es' :: ds.map Sl.va) = some (ρ1.set i (.ow k es')) := by
    unfold back
    rw [hi]
    dsimp only
    exact back_va ds
  rw [e1]
  dsimp only
  rw [e2, decide_eq_true (show [i].Nodup from List.nodup_cons.mpr ⟨by simp, List.nodup_nil⟩)]
  dsimp only [ck]
  unfold quiet
  rw [hG]
  dsimp only
  rw [hr, e3]
  rfl
def lw_body : En → RM Ot := sqM (asgM 2 (callM (quiet m__law_box) (consM (varM 0) (consM (varM 1) nilM))))
    (sqM (asgM 3 (opM addG (cM (.int 1)) (callM (quiet m__law_take) (consM (varM 2) (consM (cM (.int 7)) nilM)))))
    (ifM (Pl.notM (bM (callM (quiet m__law_right) (consM (varM 3) (consM (opM addG (cM (.int 1)) (callM (quiet m__law_take) (consM (varM 2) (consM (varM 3) nilM)))) nilM))))) (retM (cM (.bool false))) nxM))
theorem law_loop {ns : List Int} (hn : ns.length ≤ 1000) : ∀ (ks : List Nat) (x1 x2 x3 : Sl), (∀ k ∈ ks, k ≤ 1000) → ∃ y1 y2 y3, forL (stoN 1) lw_body (ks.map nD) [.va (.list (ns.map PyData.int)), x1, x2, x3] = some (.ok (.nx, [.va (.list (ns.map PyData.int)), y1, y2, y3]))
  | [], x1, x2, x3, _ => ⟨x1, x2, x3, rfl⟩
  | k :: ks, x1, x2, x3, h => by
    let S := PyData.list (ns.map PyData.int)
    obtain ⟨g, r, r0, r1, hb⟩ := box_ok ns k (h k List.mem_cons_self) hn
    obtain ⟨t, g', r', ht, r0', r1', hk⟩ := take_ok g r r0 r1 7 (by decide) (by decide)
    obtain ⟨t2, g2, r2, ht2, r02, r12, hk2⟩ := take_ok g' r' r0' r1' (1 + t) (by omega) (by omega)
    have a1 : asgM 2 (callM (quiet m__law_box) (consM (varM 0) (consM (varM 1) nilM))) [.va S, .va (nD k), x2, x3] = some (.ok (.nx, [.va S, .va (nD k), .ow 0 [.int g, .int r], x3])) := asg_nw (ρ1 := [.va S, .va (nD k), x2, x3]) (callM_va [S, nD k] rfl hb rfl)
    have c2 : callM (quiet m__law_take) (consM (varM 2) (consM (cM (.int 7)) nilM)) [.va S, .va (nD k), .ow 0 [.int g, .int r], x3] = some (.ok (.va (nD t), [.va S, .va (nD k), .ow 0 [.int g', .int r'], x3])) := callM_wr (i := 2) (k := 0) (es := [.int g, .int r]) (es' := [.int g', .int r']) (ρ1 := [.va S, .va (nD k), .ow 0 [.int g, .int r], x3]) [nD 7] rfl rfl hk rfl
    have a2 : asgM 3 (opM addG (cM (.int 1)) (callM (quiet m__law_take) (consM (varM 2) (consM (cM (.int 7)) nilM)))) [.va S, .va (nD k), .ow 0 [.int g, .int r], x3] = some (.ok (.nx, [.va S, .va (nD k), .ow 0 [.int g', .int r'], .va (nD (1 + t))])) := asg_va (ρ1 := [.va S, .va (nD k), .ow 0 [.int g', .int r'], x3]) (op_vv (d := .int ((1 : Nat) : Int)) rfl c2 (add_nat 1 t))
    have c3 : callM (quiet m__law_take) (consM (varM 2) (consM (varM 3) nilM)) [.va S, .va (nD k), .ow 0 [.int g', .int r'], .va (nD (1 + t))] = some (.ok (.va (nD t2), [.va S, .va (nD k), .ow 0 [.int g2, .int r2], .va (nD (1 + t))])) := callM_wr (i := 2) (k := 0) (es := [.int g', .int r']) (es' := [.int g2, .int r2]) (ρ1 := [.va S, .va (nD k), .ow 0 [.int g', .int r'], .va (nD (1 + t))]) [nD (1 + t)] rfl rfl hk2 rfl
    have c4 : opM addG (cM (.int 1)) (callM (quiet m__law_take) (consM (varM 2) (consM (varM 3) nilM))) [.va S, .va (nD k), .ow 0 [.int g', .int r'], .va (nD (1 + t))] = some (.ok (.va (nD (1 + t2)), [.va S, .va (nD k), .ow 0 [.int g2, .int r2], .va (nD (1 + t))])) := op_vv (d := .int ((1 : Nat) : Int)) rfl c3 (add_nat 1 t2)
    have c5 : callM (quiet m__law_right) (consM (varM 3) (consM (opM addG (cM (.int 1)) (callM (quiet m__law_take) (consM (varM 2) (consM (varM 3) nilM)))) nilM)) [.va S, .va (nD k), .ow 0 [.int g', .int r'], .va (nD (1 + t))] = some (.ok (.va (.bool true), [.va S, .va (nD k), .ow 0 [.int g2, .int r2], .va (nD (1 + t))])) :=
      callM_va [nD (1 + t), nD (1 + t2)] (cons2 (r1 := .va (nD (1 + t))) rfl c4) (right_all (by omega) (by omega) (by omega)) rfl
    have hbody : lw_body [.va S, .va (nD k), x2, x3] = some (.ok (.nx, [.va S, .va (nD k), .ow 0 [.int g2, .int r2], .va (nD (1 + t))])) := by
      unfold lw_body
      rw [seq_nx a1, seq_nx a2]
      exact if_ff (not_of (b_va c5))
    obtain ⟨y1, y2, y3, hy⟩ := law_loop hn ks (.va (nD k)) (.ow 0 [.int g2, .int r2]) (.va (nD (1 + t))) fun k hk => h k (List.mem_cons_of_mem _ hk)
    refine ⟨y1, y2, y3, ?_⟩
    rw [List.map_cons]
    unfold forL
    dsimp only [stoN, List.set]
    rw [hbody]
    exact hy
theorem min_nat (a b : Nat) {ρ ρ1 ρ2 : En} {f g : En → RM Rv} (h1 : f ρ = some (.ok (.va (nD a), ρ1))) (h2 : g ρ1 = some (.ok (.va (nD b), ρ2))) : cbM minG (consM f (consM g nilM)) ρ = some (.ok (.va (nD (min a b)), ρ2)) := by
  unfold cbM
  rw [cons2 h1 h2]
  show some (Except.ok (Rv.va (.int (if (b : Int) < a then (b : Int) else a)), ρ2)) = _
  have : (if (b : Int) < a then (b : Int) else a) = ((min a b : Nat) : Int) := by
    split <;> omega
  rw [this]
  rfl
theorem andV_tt {ρ ρ1 : En} {f g : En → RM Rv} (h : f ρ = some (.ok (.va (.bool true), ρ1))) : andV f g ρ = g ρ1 := by
  unfold andV
  rw [h]
  rfl
/-- the law's function tells True -/
theorem plain (ns : List Int) (hn : ns.length ≤ 63) : ∃ o, m_law [.va (.list (ns.map PyData.int))] = some (.ok (.va (.bool true), o)) := by
  let S := PyData.list (ns.map PyData.int)
  obtain ⟨y1, y2, y3, hy⟩ := law_loop (ns := ns) (by omega) (List.range (max 4 (min ns.length 8))) .un .un .un fun k hk => by
    have := List.mem_range.mp hk
    omega
  have hr : rng1M (consM (cbM maxG (consM (cM (.int 4)) (consM (cbM minG (consM (cbM lenG (consM (varM 0) nilM)) (consM (cM (.int 8)) nilM))) nilM))) nilM) [.va S, .un, .un, .un] = some (.ok ((List.range (max 4 (min ns.length 8))).map nD, [.va S, .un, .un, .un])) :=
    rng_of (m := max 4 (min ns.length 8)) (max_nat 4 (min ns.length 8) rfl (min_nat ns.length 8 (ρ1 := [.va S, .un, .un, .un]) (len_list rfl) rfl)) (by omega)
  have right : ∀ (m q : Nat) (s : En), m ≤ 7 → 1 ≤ q → q ≤ m → callM (quiet m__law_right) (consM (cM (.int (m : Int))) (consM (cM (.int (q : Int))) nilM)) s = some (.ok (.va (.bool true), s)) := fun m q s h1 h2 h3 => callM_va [nD m, nD q] rfl (right_all h1 h2 h3) rfl
  refine ⟨_, runDef_rt rfl (ρ := [.va S, y1, y2, y3]) ?_ (r := .va (.bool true)) rfl rfl⟩
  show b_lawM [.va S, .un, .un, .un] = _
  unfold b_lawM
  show sqM (Pl.forM (rng1M (consM (cbM maxG (consM (cM (.int 4)) (consM (cbM minG (consM (cbM lenG (consM (varM 0) nilM)) (consM (cM (.int 8)) nilM))) nilM))) nilM)) (stoN 1) lw_body) _ _ = _
  rw [seq_nx ((for_of hr).trans hy)]
  refine ret_of ?_
  exact (andV_tt (right 7 4 _ (by decide) (by decide) (by decide))).trans ((andV_tt (right 7 3 _ (by decide) (by decide) (by decide))).trans ((andV_tt (right 1 1 _ (by decide) (by decide) (by decide))).trans ((andV_tt (right 4 2 _ (by decide) (by decide) (by decide))).trans (right 6 6 _ (by decide) (by decide) (by decide)))))
end Fam

namespace K70
open PySem PySem.Spec PyProof.Rows L2 Pl
def b__law_boxM : En → RM Ot := (sqM (asgM 2 (opM addG (opM mulG (cM (.int 12011)) (varM 1)) (cM (.int 7321))))
    (sqM (ifM (bM (opM ltG (varM 1) (cbM lenG (consM (varM 0) nilM)))) (asgM 2 (cbM absG (consM (cbM intG (consM (opM ixG (varM 0) (varM 1)) nilM)) nilM))) (ifM (bM (opM gtG (cbM lenG (consM (varM 0) nilM)) (cM (.int 0)))) (asgM 2 (opM addG (varM 2) (opM mulG (opM modG (cbM intG (consM (cbM absG (consM (cbM intG (consM (opM ixG (varM 0) (opM modG (cbM intG (consM (varM 1) nilM)) (cbM lenG (consM (varM 0) nilM)))) nilM)) nilM)) nilM)) (cM (.int 2147483563))) (cM (.int 68213))))) nxM))
    (sqM (asgM 3 (ifX (bM (opM geG (varM 2) (opM powG (cM (.int 10)) (cM (.int 18))))) (varM 2) (cM (.int 0))))
    (retM (lstM (consM (varM 3) (consM (opM addG (opM modG (cbM intG (consM (opM addG (opM mulG (opM modG (cbM intG (consM (varM 2) nilM)) (cM (.int 2147483563))) (cM (.int 58271))) (opM mulG (cM (.int 7321)) (varM 1))) nilM)) (cM (.int 2147483563))) (cM (.int 1))) nilM)))))))
def m__law_box : En → RM Rv := runDef 2 2 b__law_boxM
def b__law_takeM : En → RM Ot := (sqM (ifM (bM (opM gtG (opM ixG (varM 0) (cM (.int 0))) (cM (.int 0)))) (sqM (asgM 2 (opM modG (cbM intG (consM (opM ixG (varM 0) (cM (.int 0))) nilM)) (varM 1)))
    (sqM (setM 0 (opM divG (opM ixG (varM 0) (cM (.int 0))) (varM 1)) (cM (.int 0)))
    (retM (varM 2)))) nxM)
    (sqM (asgM 3 (opM modG (cbM intG (consM (opM addG (opM mulG (opM ixG (varM 0) (cM (.int 1))) (cM (.int 39373))) (cM (.int 307))) nilM)) (cM (.int 2147483647))))
    (sqM (setM 0 (opM addG (opM modG (cbM intG (consM (opM addG (opM mulG (varM 3) (cM (.int 40692))) (cM (.int 61))) nilM)) (cM (.int 2147483399))) (cM (.int 1))) (cM (.int 1)))
    (retM (opM modG (cbM intG (consM (opM divG (opM addG (opM mulG (varM 3) (cM (.int 2147483629))) (opM ixG (varM 0) (cM (.int 1)))) (cM (.int 8233))) nilM)) (varM 1))))))
def m__law_take : En → RM Rv := runDef 2 2 b__law_takeM
def b__law_lotM : En → RM Ot := (sqM (parXM 2 3 (callM (quiet m__law_take) (consM (varM 0) (consM (varM 1) nilM))) (lstM nilM))
    (sqM (asgM 4 (opM addG (cM (.int 1)) (callM (quiet m__law_take) (consM (varM 0) (consM (cM (.int 4)) nilM)))))
    (sqM (forM (rng1M (consM (varM 1) nilM)) (stoN 5) (ifM (orM (bM (opM eqG (varM 5) (varM 2))) (bM (opM ltG (callM (quiet m__law_take) (consM (varM 0) (consM (cM (.int 5)) nilM))) (varM 4)))) (appM 3 (varM 5)) nxM))
    (retM (cbM tupG (consM (varM 3) nilM))))))
def m__law_lot : En → RM Rv := runDef 2 4 b__law_lotM
def b__law_withinM : En → RM Ot := (retM (opM eqG (lcOM 0 (stoN 2) (bM (opM notInG (varM 2) (varM 1))) (cM (.int 1)) [2]) (lstM nilM)))
def m__law_within : En → RM Rv := runDef 2 1 b__law_withinM
def b__law_leastM : En → RM Ot := (sqM (asgM 1 (lstM nilM))
    (sqM (forM (seqM (sortSetM (varM 0))) (stoN 2) (ifM (bM (opM eqG (lcOM 0 (stoN 3) (andM (bM (opM neG (varM 3) (varM 2))) (bM (callM (quiet m__law_within) (consM (varM 3) (consM (varM 2) nilM))))) (cM (.int 1)) [3]) (lstM nilM))) (appM 1 (varM 2)) nxM))
    (retM (cbM tupG (consM (varM 1) nilM)))))
def m__law_least : En → RM Rv := runDef 1 3 b__law_leastM
def b__law_allM : En → RM Ot := (sqM (asgM 1 (lstM (consM (tupM nilM) nilM)))
    (sqM (forM (rng1M (consM (varM 0) nilM)) (stoN 2) (asgM 1 (opM addG (varM 1) (lcOM 1 (stoN 3) yesM (opM addG (varM 3) (tupM (consM (varM 2) nilM))) [3]))))
    (retM (cbM sortG (consM (varM 1) nilM)))))
def m__law_all : En → RM Rv := runDef 1 3 b__law_allM
def b__law_thresholdM : En → RM Ot := (retM (cbM tupG (consM (lcM (seqM (callM (quiet m__law_all) (consM (varM 0) nilM))) (stoN 2) (bM (opM eqG (cbM lenG (consM (varM 2) nilM)) (varM 1))) (varM 2) [2]) nilM)))
def m__law_threshold : En → RM Rv := runDef 2 1 b__law_thresholdM
def b__law_composedM : En → RM Ot := (sqM (parXM 2 3 (lstM nilM) (cM (.int 0)))
    (sqM (forM (seqM (varM 1)) (stoT 2 (stosCons (stoN 4) (stosCons (stoN 5) stosNil))) (sqM (appM 2 (lcOM 5 (stoN 7) yesM (cbM tupG (consM (lcM (seqM (varM 7)) (stoN 9) yesM (opM addG (varM 3) (varM 9)) [9]) nilM)) [7]))
    (asgM 3 (opM addG (varM 3) (varM 4)))))
    (sqM (asgM 6 (lstM nilM))
    (sqM (forM (seqM (varM 0)) (stoN 7) (sqM (asgM 8 (lstM (consM (tupM nilM) nilM)))
    (sqM (forM (seqM (varM 7)) (stoN 9) (sqM (asgM 10 (lstM nilM))
    (sqM (forM (seqM (varM 8)) (stoN 11) (asgM 10 (opM addG (varM 10) (lcM (seqM (opM ixG (varM 2) (varM 9))) (stoN 12) yesM (opM addG (varM 11) (varM 12)) [12]))))
    (asgM 8 (varM 10)))))
    (asgM 6 (opM addG (varM 6) (varM 8))))))
    (retM (cbM tupG (consM (cbM sortG (consM (varM 6) nilM)) nilM)))))))
def m__law_composed : En → RM Rv := runDef 2 11 b__law_composedM
def b__law_shuffledM : En → RM Ot := (sqM (parXM 2 3 (cbM lstG (consM (varM 1) nilM)) (lstM nilM))
    (sqM (forM (rng1M (consM (cbM lenG (consM (varM 1) nilM)) nilM)) (stoN 4) (appM 3 (popM 2 (callM (quiet m__law_take) (consM (varM 0) (consM (cbM lenG (consM (varM 2) nilM)) nilM))))))
    (retM (varM 3))))
def m__law_shuffled : En → RM Rv := runDef 2 3 b__law_shuffledM
def b__law_fanoM : En → RM Ot := (sqM (asgM 1 (callM (quiet m__law_shuffled) (consM (varM 0) (consM (lstRgM (cM (.int 7))) nilM))))
    (retM (cbM tupG (consM (cbM sortG (consM (lcM (rng1M (consM (cM (.int 7)) nilM)) (stoN 2) yesM (cbM tupG (consM (cbM sortG (consM (lcM (seqM (tupM (consM (cM (.int 0)) (consM (cM (.int 1)) (consM (cM (.int 3)) nilM))))) (stoN 3) yesM (opM ixG (varM 1) (opM modG (cbM intG (consM (opM addG (varM 2) (varM 3)) nilM)) (cM (.int 7)))) [3]) nilM)) nilM)) [2]) nilM)) nilM))))
def m__law_fano : En → RM Rv := runDef 1 3 b__law_fanoM
def b__law_pickM : En → RM Ot := (retM (opM ixG (varM 1) (callM (quiet m__law_take) (consM (varM 0) (consM (cbM lenG (consM (varM 1) nilM)) nilM)))))
def m__law_pick : En → RM Rv := runDef 2 0 b__law_pickM
def b__law_holdsM : En → RM Ot := (sqM (forM (seqM (varM 0)) (stoN 2) (ifM (bM (callM (quiet m__law_within) (consM (varM 2) (consM (varM 1) nilM)))) (retM (cM (.bool true))) nxM))
    (retM (cM (.bool false))))
def m__law_holds : En → RM Rv := runDef 2 1 b__law_holdsM
def b__law_othersM : En → RM Ot := (retM (cbM tupG (consM (lcM (rng1M (consM (varM 1) nilM)) (stoN 2) (bM (opM notInG (varM 2) (varM 0))) (varM 2) [2]) nilM)))
def m__law_others : En → RM Rv := runDef 2 1 b__law_othersM
def b__law_own_blockerM : En → RM Ot := (sqM (asgM 2 (ifX (bM (opM eqG (callM (quiet m__law_take) (consM (varM 0) (consM (cM (.int 9)) nilM))) (cM (.int 0)))) (tupM (consM (tupM (consM (callM (quiet m__law_take) (consM (varM 0) (consM (varM 1) nilM))) nilM)) nilM)) (callM (quiet m__law_threshold) (consM (varM 1) (consM (varM 1) nilM)))))
    (sqM (forM (rng1M (consM (cM (.int 70)) nilM)) (stoN 3) (sqM (asgM 4 (lcM (seqM (callM (quiet m__law_all) (consM (varM 1) nilM))) (stoN 6) (andM (notM (bM (callM (quiet m__law_holds) (consM (varM 2) (consM (varM 6) nilM))))) (notM (bM (callM (quiet m__law_holds) (consM (varM 2) (consM (callM (quiet m__law_others) (consM (varM 6) (consM (varM 1) nilM))) nilM)))))) (varM 6) [6]))
    (sqM (asgM 5 (lcOM 4 (stoN 6) (bM (opM gtG (cbM lenG (consM (varM 6) nilM)) (cM (.int 1)))) (varM 6) [6]))
    (sqM (ifM (bM (opM eqG (varM 4) (lstM nilM))) bkM nxM)
    (asgM 2 (callM (quiet m__law_least) (consM (opM addG (cbM lstG (consM (varM 2) nilM)) (lstM (consM (callM (quiet m__law_pick) (consM (varM 0) (consM (ifX (bM (opM neG (varM 5) (lstM nilM))) (varM 5) (varM 4)) nilM))) nilM))) nilM)))))))
    (retM (varM 2))))
def m__law_own_blocker : En → RM Rv := runDef 2 5 b__law_own_blockerM
def b__law_familyM : En → RM Ot := (sqM (parXM 2 3 (opM addG (cM (.int 1)) (callM (quiet m__law_take) (consM (varM 0) (consM (varM 1) nilM)))) (callM (quiet m__law_take) (consM (varM 0) (consM (cM (.int 8)) nilM))))
    (sqM (ifM (bM (opM eqG (varM 3) (cM (.int 0)))) (retM (tupM (consM (varM 2) (consM (callM (quiet m__law_threshold) (consM (varM 2) (consM (opM addG (cM (.int 1)) (callM (quiet m__law_take) (consM (varM 0) (consM (varM 2) nilM)))) nilM))) nilM)))) nxM)
    (sqM (ifM (bM (opM eqG (varM 3) (cM (.int 1)))) (retM (ifX (bM (opM eqG (varM 2) (cM (.int 7)))) (tupM (consM (cM (.int 7)) (consM (callM (quiet m__law_fano) (consM (varM 0) nilM)) nilM))) (tupM (consM (varM 2) (consM (callM (quiet m__law_own_blocker) (consM (varM 0) (consM (varM 2) nilM))) nilM))))) nxM)
    (sqM (ifM (andM (bM (opM eqG (varM 3) (cM (.int 2)))) (bM (opM gtG (varM 1) (cM (.int 5))))) (retM (tupM (consM (cM (.int 6)) (consM (callM (quiet m__law_composed) (consM (callM (quiet m__law_threshold) (consM (cM (.int 3)) (consM (cM (.int 2)) nilM))) (consM (opM repG (tupM (consM (tupM (consM (cM (.int 2)) (consM (callM (quiet m__law_pick) (consM (varM 0) (consM (lstM (consM (tupM (consM (tupM (consM (cM (.int 0)) nilM)) (consM (tupM (consM (cM (.int 1)) nilM)) nilM))) (consM (tupM (consM (tupM (consM (cM (.int 0)) (consM (cM (.int 1)) nilM))) nilM)) nilM))) nilM))) nilM))) nilM)) (cM (.int 3))) nilM))) nilM)))) nxM)
    (sqM (asgM 4 (lcM (rng1M (consM (opM addG (cM (.int 1)) (callM (quiet m__law_take) (consM (varM 0) (consM (callM (quiet m__law_pick) (consM (varM 0) (consM (lstM (consM (cM (.int 2)) (consM (cM (.int 6)) (consM (cM (.int 16)) (consM (cM (.int 40)) nilM))))) nilM))) nilM)))) nilM)) (stoN 5) yesM (callM (quiet m__law_lot) (consM (varM 0) (consM (varM 2) nilM))) [5]))
    (retM (tupM (consM (varM 2) (consM (callM (quiet m__law_least) (consM (varM 4) nilM)) nilM)))))))))
def m__law_family : En → RM Rv := runDef 2 4 b__law_familyM
def b_is_withinM : En → RM Ot := (retM (opM eqG (cbM lenG (consM (lcOM 0 (stoN 2) (bM (opM notInG (varM 2) (varM 1))) (varM 2) [2]) nilM)) (cM (.int 0))))
def m_is_within : En → RM Rv := runDef 2 1 b_is_withinM
def b_lot_holdsM : En → RM Ot := (retM (opM gtG (cbM lenG (consM (lcOM 0 (stoN 2) (bM (callM (quiet m_is_within) (consM (varM 2) (consM (varM 1) nilM)))) (varM 2) [2]) nilM)) (cM (.int 0))))
def m_lot_holds : En → RM Rv := runDef 2 1 b_lot_holdsM
def b_least_lotsM : En → RM Ot := (sqM (asgM 1 (lstM nilM))
    (sqM (forM (seqM (sortKM (varM 0))) (stoN 2) (ifM (notM (bM (callM (quiet m_lot_holds) (consM (varM 1) (consM (varM 2) nilM))))) (appM 1 (varM 2)) nxM))
    (retM (cbM tupG (consM (cbM sortG (consM (varM 1) nilM)) nilM)))))
def m_least_lots : En → RM Rv := runDef 1 2 b_least_lotsM
def b_meetsM : En → RM Ot := (retM (opM gtG (cbM lenG (consM (lcOM 0 (stoN 2) (bM (opM inG (varM 2) (varM 1))) (varM 2) [2]) nilM)) (cM (.int 0))))
def m_meets : En → RM Rv := runDef 2 1 b_meetsM
def b_with_houseM : En → RM Ot := (retM (cbM tupG (consM (cbM sortG (consM (opM addG (varM 0) (tupM (consM (varM 1) nilM))) nilM)) nilM)))
def m_with_house : En → RM Rv := runDef 2 0 b_with_houseM
def b_blocker_ofM : En → RM Ot := (sqM (asgM 2 (tupM (consM (tupM nilM) nilM)))
    (sqM (forM (seqM (varM 0)) (stoN 3) (sqM (asgM 4 (lstM nilM))
    (sqM (forM (seqM (varM 2)) (stoN 5) (ifM (bM (callM (quiet m_meets) (consM (varM 5) (consM (varM 3) nilM)))) (appM 4 (varM 5)) (extM 4 (lcOM 3 (stoN 6) yesM (callM (quiet m_with_house) (consM (varM 5) (consM (varM 6) nilM))) [6]))))
    (asgM 2 (callM (quiet m_least_lots) (consM (varM 4) nilM))))))
    (retM (varM 2))))
def m_blocker_of : En → RM Rv := runDef 2 5 b_blocker_ofM
def b__law_sameM (self : En → RM Rv) : En → RM Ot := (sqM (ifM (bM (isiM .tuple (varM 1))) (sqM (ifM (orM (notM (bM (isiM .tuple (varM 0)))) (bM (opM neG (cbM lenG (consM (varM 0) nilM)) (cbM lenG (consM (varM 1) nilM))))) (retM (cM (.bool false))) nxM)
    (sqM (forM (zipM (consM (varM 0) (consM (varM 1) nilM))) (stoT 2 (stosCons (stoN 2) (stosCons (stoN 3) stosNil))) (ifM (notM (bM (callM (quiet self) (consM (varM 2) (consM (varM 3) nilM))))) (retM (cM (.bool false))) nxM))
    (retM (cM (.bool true))))) nxM)
    (sqM (ifM (bM (opM isNG (varM 1) (cM .none))) (retM (opM isNG (varM 0) (cM .none))) nxM)
    (sqM (ifM (orM (bM (opM isBG (varM 1) (cM (.bool true)))) (bM (opM isBG (varM 1) (cM (.bool false))))) (retM (andV (isiM .bool (varM 0)) (opM eqG (varM 0) (varM 1)))) nxM)
    (sqM (ifM (bM (isiM .int (varM 1))) (retM (andV (isiM .int (varM 0)) (andV (notV (isiM .bool (varM 0))) (opM eqG (varM 0) (varM 1))))) nxM)
    (retM (andV (isiM .str (varM 0)) (andV (isiM .str (varM 1)) (opM eqG (varM 0) (varM 1)))))))))
def m__law_same : Nat → En → RM Rv
  | 0 => noneM
  | n + 1 => runDef 2 2 (b__law_sameM (m__law_same n))
def b_lawM : En → RM Ot := (sqM (forM (rng1M (consM (cbM maxG (consM (cM (.int 3)) (consM (cbM minG (consM (cbM lenG (consM (varM 0) nilM)) (consM (cM (.int 6)) nilM))) nilM))) nilM)) (stoN 1) (sqM (asgM 2 (callM (quiet m__law_box) (consM (varM 0) (consM (varM 1) nilM))))
    (sqM (unpM (stoT 2 (stosCons (stoN 3) (stosCons (stoN 4) stosNil))) (callM (quiet m__law_family) (consM (varM 2) (consM (cM (.int 7)) nilM))))
    (sqM (parM 5 6 (consM (callM (quiet m_blocker_of) (consM (varM 4) (consM (varM 3) nilM))) (consM (cM (.int 0)) nilM)))
    (sqM (forM (seqM (callM (quiet m__law_shuffled) (consM (varM 2) (consM (callM (quiet m__law_all) (consM (varM 3) nilM)) nilM)))) (stoN 7) (sqM (asgM 8 (callM (quiet m__law_others) (consM (varM 7) (consM (varM 3) nilM))))
    (sqM (parM 9 10 (consM (callM (quiet m_lot_holds) (consM (varM 4) (consM (varM 7) nilM))) (consM (callKM (quiet m_lot_holds) 0 2 [0, 1] nilM (consM (varM 5) (consM (varM 8) nilM))) nilM)))
    (sqM (ifM (notM (bM (callM (quiet (m__law_same 6)) (consM (tupM (consM (varM 9) (consM (varM 10) nilM))) (consM (tupM (consM (callM (quiet m__law_holds) (consM (varM 4) (consM (varM 7) nilM))) (consM (notV (callM (quiet m__law_holds) (consM (varM 4) (consM (varM 7) nilM)))) nilM))) nilM))))) (retM (cM (.bool false))) nxM)
    (asgM 6 (opM addG (varM 6) (ifX (bM (varM 9)) (cM (.int 1)) (cM (.int 0)))))))))
    (ifM (orM (bM (opM ltG (varM 6) (cM (.int 1)))) (bM (opM geG (varM 6) (opM shlG (cM (.int 1)) (varM 3))))) (retM (cM (.bool false))) nxM))))))
    (retM (cM (.bool true))))
def m_law : En → RM Rv := runDef 1 10 b_lawM
end K70

namespace Fam
open PySem PySem.Spec PyProof.Rows L2 Pl
/-! ### the functions of the families' laws -/
theorem q_box : K70.m__law_box = K75.m__law_box := rfl
theorem q_take : K70.m__law_take = K75.m__law_take := rfl
theorem q_all : K70.m__law_all = K75.m__law_all := rfl
theorem q_thr : K70.m__law_threshold = K75.m__law_threshold := rfl
theorem q_blk : K70.m_blocker_of = K75.m_blocker_of := rfl
theorem q_holds : K70.m_lot_holds = K75.m_lot_holds := rfl
theorem q_same : ∀ n, K70.m__law_same n = K75.m__law_same n
  | 0 => rfl
  | n + 1 => by
    show runDef 2 2 (K70.b__law_sameM (K70.m__law_same n)) = runDef 2 2 (K75.b__law_sameM (K75.m__law_same n))
    rw [q_same n]
    rfl
theorem erase_perm {α : Type} : ∀ (l : List α) (i : Nat) (h : i < l.length), l.Perm (l[i] :: l.eraseIdx i)
  | [], _, h => absurd h (Nat.not_lt_zero _)
  | x :: l, 0, _ => List.Perm.refl _
  | x :: l, i + 1, h => by
    have ih := erase_perm l i (Nat.lt_of_succ_lt_succ h)
    exact (ih.cons x).trans (List.Perm.swap _ _ _)
def Bx (b : List PyData) : Prop := ∃ g r : Int, b = [.int g, .int r] ∧ 0 ≤ r ∧ r < 2 ^ 32
theorem take_bx {b : List PyData} (h : Bx b) {k : Nat} (hk : 1 ≤ k) (hk2 : k ≤ 1000) : ∃ (t : Nat) (b' : List PyData), t < k ∧ Bx b' ∧ K70.m__law_take [.ow 1 b, .va (nD k)] = some (.ok (.va (nD t), [.ow 1 b', .va (nD k)])) := by
  obtain ⟨g, r, rfl, h1, h2⟩ := h
  obtain ⟨t, g', r', ht, h3, h4, e⟩ := take_ok g r h1 h2 k hk hk2
  exact ⟨t, [.int g', .int r'], ht, ⟨g', r', rfl, h3, h4⟩, e⟩
/-- a call of the take: the box at slot i -/
theorem take_call {b : List PyData} (h : Bx b) {k : Nat} (hk : 1 ≤ k) (hk2 : k ≤ 1000) {i j : Nat} {ρ ρ1 : En} {f : En → RM Rv} (hi : ρ[i]? = some (.ow j b)) (hi1 : ρ1[i]? = some (.ow j b)) (hf : f ρ = some (.ok (.va (nD k), ρ1))) :
    ∃ (t : Nat) (b' : List PyData), t < k ∧ Bx b' ∧ callM (quiet K70.m__law_take) (consM (varM i) (consM f nilM)) ρ = some (.ok (.va (nD t), ρ1.set i (.ow j b'))) := by
  obtain ⟨t, b', ht, hb, e⟩ := take_bx h hk hk2
  refine ⟨t, b', ht, hb, callM_wr (i := i) (k := j) (es := b) (es' := b') (ρ1 := ρ1) [nD k] ?_ hi1 e rfl⟩
  have hv : varM i ρ = some (.ok (.sl i, ρ)) := by
    unfold varM
    rw [hi]
  unfold consM
  rw [hv]
  dsimp only [RM.bnd]
  rw [hf]
  rfl
theorem ix_nat {ds : List PyData} {i : Nat} (h : i < ds.length) : (atI ds (i : Int)) = some ds[i] := by
  unfold atI ixN
  rw [if_pos (by omega), if_pos (by omega)]
  show ds[(i : Int).toNat]? = _
  rw [Int.toNat_natCast, List.getElem?_eq_getElem h]
theorem ixG_of {d : PyData} {ds : List PyData} (hs : seqItems d = some ds) {i : Nat} (h : i < ds.length) : ixG d (nD i) = some (.va ds[i]) := by
  cases d with
  | list es =>
    cases hs
    show (atI ds (i : Int)).map _ = _
    rw [ix_nat h]
    rfl
  | tuple es =>
    cases hs
    show (atI ds (i : Int)).map _ = _
    rw [ix_nat h]
    rfl
  | _ => cases hs
theorem len_items {d : PyData} {ds : List PyData} (hs : seqItems d = some ds) : lenG [d] = some (.va (nD ds.length)) := by
  cases d with
  | list es => cases hs; rfl
  | tuple es => cases hs; rfl
  | _ => cases hs
theorem len_at {ρ ρ1 : En} {f : En → RM Rv} {r : Rv} {d : PyData} {ds : List PyData} (h : f ρ = some (.ok (r, ρ1))) (hl : look ρ1 r.fz = some d) (hs : seqItems d = some ds) : cbM lenG (consM f nilM) ρ = some (.ok (.va (nD ds.length), ρ1)) := by
  unfold cbM consM
  rw [h]
  dsimp only [RM.bnd, nilM, looks]
  rw [hl]
  dsimp only
  rw [len_items hs]
  rfl
/-- some[take(box, len(some))] -/
theorem pick_va {b : List PyData} (h : Bx b) {d : PyData} {ds : List PyData} (hs : seqItems d = some ds) (h1 : 1 ≤ ds.length) (h2 : ds.length ≤ 1000) : ∃ (x : PyData) (b' : List PyData), x ∈ ds ∧ Bx b' ∧ K70.m__law_pick [.ow 1 b, .va d] = some (.ok (.va x, [.ow 1 b', .va d])) := by
  obtain ⟨t, b', ht, hb, e⟩ := take_call h h1 h2 (i := 0) (j := 1) (ρ := [.ow 1 b, .va d]) (f := cbM lenG (consM (varM 1) nilM)) rfl rfl (len_at (r := .va d) rfl rfl hs)
  refine ⟨ds[t], b', List.getElem_mem ht, hb, runDef_rt rfl (ρ := [.ow 1 b', .va d]) (ret_of (op_vv (d := d) rfl e (ixG_of hs ht))) rfl rfl⟩
theorem pick_ow {b : List PyData} (h : Bx b) {ds : List PyData} (h1 : 1 ≤ ds.length) (h2 : ds.length ≤ 1000) : ∃ (x : PyData) (b' : List PyData), x ∈ ds ∧ Bx b' ∧ K70.m__law_pick [.ow 1 b, .ow 2 ds] = some (.ok (.va x, [.ow 1 b', .ow 2 ds])) := by
  obtain ⟨t, b', ht, hb, e⟩ := take_call h h1 h2 (i := 0) (j := 1) (ρ := [.ow 1 b, .ow 2 ds]) (f := cbM lenG (consM (varM 1) nilM)) rfl rfl (len_at (r := .sl 1) (d := .list ds) rfl rfl rfl)
  refine ⟨ds[t], b', List.getElem_mem ht, hb, runDef_rt rfl (ρ := [.ow 1 b', .ow 2 ds]) (ret_of (op_sl (i := 1) (d := .list ds) rfl e rfl (ixG_of (d := .list ds) rfl ht))) rfl rfl⟩
/-! shuffled -/
def sh_body : En → RM Ot := appM 3 (popM 2 (callM (quiet K70.m__law_take) (consM (varM 0) (consM (cbM lenG (consM (varM 2) nilM)) nilM))))
theorem sh_loop {D : Sl} : ∀ (n : Nat) (left told b : List PyData) (items : List PyData) (x4 : Sl), left.length = n → items.length = n → told.length + n ≤ 1000 → Bx b →
    ∃ told' b' y4, (told ++ left).Perm told' ∧ Bx b' ∧ forL (stoN 4) sh_body items [.ow 1 b, D, .ow 0 left, .ow 0 told, x4] = some (.ok (.nx, [.ow 1 b', D, .ow 0 [], .ow 0 told', y4]))
  | 0, left, told, b, items, x4, h1, h2, _, hb => by
    have e1 := List.length_eq_zero_iff.mp h1
    have e2 := List.length_eq_zero_iff.mp h2
    subst e1 e2
    exact ⟨told, b, x4, by rw [List.append_nil], hb, rfl⟩
  | n + 1, left, told, b, items, x4, h1, h2, hl, hb => by
    match items, h2 with
    | it :: items, h2 =>
      rw [List.length_cons] at h2
      obtain ⟨t, b1, ht, hb1, e⟩ := take_call hb (k := left.length) (by omega) (by omega) (i := 0) (j := 1) (ρ := [.ow 1 b, D, .ow 0 left, .ow 0 told, .va it]) (f := cbM lenG (consM (varM 2) nilM)) rfl rfl (len_at (r := .sl 2) (d := .list left) rfl rfl rfl)
      have hp : popM 2 (callM (quiet K70.m__law_take) (consM (varM 0) (consM (cbM lenG (consM (varM 2) nilM)) nilM))) [.ow 1 b, D, .ow 0 left, .ow 0 told, .va it] = some (.ok (.va left[t], [.ow 1 b1, D, .ow 0 (left.eraseIdx t), .ow 0 told, .va it])) := by
        unfold popM
        show RM.bnd (callM (quiet K70.m__law_take) (consM (varM 0) (consM (cbM lenG (consM (varM 2) nilM)) nilM)) [.ow 1 b, D, .ow 0 left, .ow 0 told, .va it]) _ = _
        rw [e]
        show ck (few left) (match ixN left.length (t : Int) with | some j => _ | none => none) = _
        have hix : ixN left.length (t : Int) = some t := by
          unfold ixN
          rw [if_pos (by omega), if_pos (by omega), Int.toNat_natCast]
        rw [few_of (by omega), hix]
        dsimp only [ck]
        rw [List.getElem?_eq_getElem ht]
        rfl
      have ha : sh_body [.ow 1 b, D, .ow 0 left, .ow 0 told, .va it] = some (.ok (.nx, [.ow 1 b1, D, .ow 0 (left.eraseIdx t), .ow 0 (told ++ [left[t]]), .va it])) := by
        unfold sh_body appM
        show RM.bnd (popM 2 (callM (quiet K70.m__law_take) (consM (varM 0) (consM (cbM lenG (consM (varM 2) nilM)) nilM))) [.ow 1 b, D, .ow 0 left, .ow 0 told, .va it]) _ = _
        rw [hp]
        show ck (few told) _ = _
        rw [few_of (by omega)]
        rfl
      obtain ⟨told', b', y4, hperm, hb', hrun⟩ := sh_loop n (left.eraseIdx t) (told ++ [left[t]]) b1 items (.va it) (by rw [List.length_eraseIdx_of_lt ht]; omega) (by omega) (by rw [List.length_append]; simp; omega) hb1
      refine ⟨told', b', y4, ?_, hb', ?_⟩
      · refine List.Perm.trans ?_ hperm
        rw [List.append_assoc]
        refine List.Perm.append_left told ?_
        exact erase_perm left t ht
      · unfold forL
        dsimp only [stoN, List.set]
        rw [ha]
        exact hrun
theorem shuffled_ok {b : List PyData} (h : Bx b) {d : PyData} {ds : List PyData} (hs : seqItems d = some ds) (h2 : ds.length ≤ 1000) : ∃ (es b' : List PyData), ds.Perm es ∧ Bx b' ∧ K70.m__law_shuffled [.ow 1 b, .va d] = some (.ok (.nw es, [.ow 1 b', .va d])) := by
  have hl : cbM lstG (consM (varM 1) nilM) [.ow 1 b, .va d, .un, .un, .un] = some (.ok (.nw ds, [.ow 1 b, .va d, .un, .un, .un])) := by
    cases d with
    | list es => cases hs; rfl
    | tuple es => cases hs; rfl
    | _ => cases hs
  have h1 : parXM 2 3 (cbM lstG (consM (varM 1) nilM)) (lstM nilM) [.ow 1 b, .va d, .un, .un, .un] = some (.ok (.nx, [.ow 1 b, .va d, .ow 0 ds, .ow 0 [], .un])) := by
    unfold parXM
    rw [hl]
    rfl
  obtain ⟨es, b', y4, hp, hb', hrun⟩ := sh_loop (D := .va d) ds.length ds [] b ((List.range ds.length).map nD) .un rfl (by simp) (by simpa using h2) h
  refine ⟨es, b', hp, hb', runDef_rt rfl (ρ := [.ow 1 b', .va d, .ow 0 [], .ow 0 es, y4]) ?_ (r := .sl 3) rfl rfl⟩
  show K70.b__law_shuffledM [.ow 1 b, .va d, .un, .un, .un] = _
  unfold K70.b__law_shuffledM
  rw [seq_nx h1]
  show sqM (Pl.forM _ (stoN 4) sh_body) _ _ = _
  rw [seq_nx ((for_of (rng_of (m := ds.length) (len_at (r := .va d) rfl rfl hs) h2)).trans hrun)]
  rfl
/-! within, holds -/
theorem ints_lay : ∀ ns : List Int, PyData.canLayAll0 (ns.map PyData.int) = true
  | [] => by simp [PyData.canLayAll0]
  | z :: zs => by simp [PyData.canLayAll0, PyData.canLay0, ints_lay zs]
theorem lots_lay : ∀ f : List Lot, PyData.canLayAll0 (f.map lotD) = true
  | [] => by simp [PyData.canLayAll0]
  | z :: zs => by
    have : PyData.canLay0 (lotD z) = true := by
      unfold lotD
      have := ints_lay (z.map Int.ofNat)
      rw [List.map_map] at this
      simp only [PyData.canLay0]
      exact this
    simp [PyData.canLayAll0, this, lots_lay zs]
theorem lots_depth : ∀ f : List Lot, PyData.depthAll (f.map lotD) ≤ 1
  | [] => by simp [PyData.depthAll]
  | z :: zs => by
    have h1 := lots_depth zs
    have h2 : (lotD z).depth ≤ 1 := by
      unfold lotD
      have := PySem.W.depth_ints (z.map Int.ofNat)
      rw [List.map_map] at this
      simp only [PyData.depth]
      have t : PyData.depthAll (List.map nD z) = 0 := this
      omega
    simp only [List.map_cons, PyData.depthAll]
    omega
theorem shaped_ints (ns : List Int) : SeqAt.shaped (.list (ns.map .int)) = true := by
  unfold SeqAt.shaped
  rw [Bool.and_eq_true]
  refine ⟨by simp only [PyData.canLay0]; exact ints_lay ns, decide_eq_true ?_⟩
  simp only [PyData.depth, PySem.W.depth_ints]
  omega
theorem shaped_lots (f : List Lot) : SeqAt.shaped (.list (f.map lotD)) = true := by
  unfold SeqAt.shaped
  rw [Bool.and_eq_true]
  refine ⟨by simp only [PyData.canLay0]; exact lots_lay f, decide_eq_true ?_⟩
  have := lots_depth f
  simp only [PyData.depth]
  omega
theorem shaped_lot (l : Lot) : SeqAt.shaped (lotD l) = true := by
  unfold SeqAt.shaped
  rw [Bool.and_eq_true]
  have := ints_lay (l.map Int.ofNat)
  rw [List.map_map] at this
  have t := PySem.W.depth_ints (l.map Int.ofNat)
  rw [List.map_map] at t
  refine ⟨by unfold lotD; simp only [PyData.canLay0]; exact this, decide_eq_true ?_⟩
  unfold lotD
  simp only [PyData.depth]
  have t : PyData.depthAll (List.map nD l) = 0 := t
  omega
theorem eq_nil_of {d : PyData} {ds : List PyData} (hd : d = .list ds) (h : SeqAt.shaped d = true) : eqG d (.list []) = some (.va (.bool ds.isEmpty)) := by
  subst hd
  show (match SeqAt.shaped (.list ds) && SeqAt.shaped (.list []) with | true => some (PyData.eqv (.list ds) (.list [])) | false => none).map _ = _
  have h2 : SeqAt.shaped (.list []) = true := shaped_ints []
  rw [h, h2]
  cases ds with
  | nil => rfl
  | cons => rfl
theorem ne_nil_of {d : PyData} {ds : List PyData} (hd : d = .list ds) (h : SeqAt.shaped d = true) : neG d (.list []) = some (.va (.bool !ds.isEmpty)) := by
  subst hd
  show (match SeqAt.shaped (.list ds) && SeqAt.shaped (.list []) with | true => some (PyData.eqv (.list ds) (.list [])) | false => none).map _ = _
  have h2 : SeqAt.shaped (.list []) = true := shaped_ints []
  rw [h, h2]
  cases ds with
  | nil => rfl
  | cons => rfl
/-- an operator whose left side is a new list -/
theorem op_nw {ρ ρ1 ρ2 : En} {g : PyData → PyData → Option Rv} {fa fb : En → RM Rv} {ds es : List PyData} {z : Rv} (ha : fa ρ = some (.ok (.nw ds, ρ1))) (hb : fb ρ1 = some (.ok (.nw es, ρ2))) (hg : g (.list ds) (.list es) = some z) : opM g fa fb ρ = some (.ok (z, ρ2)) := by
  unfold opM
  rw [ha]
  dsimp only [RM.bnd]
  rw [hb]
  dsimp only [RM.bnd, lk, look]
  rw [hg]
  rfl
theorem filter_empty {α : Type} (p : α → Bool) (l : List α) : (l.filter p).isEmpty = l.all fun x => !p x := by
  induction l with
  | nil => rfl
  | cons a l ih =>
    rw [List.all_cons]
    cases h : p a with
    | true => rw [List.filter_cons_of_pos h]; rfl
    | false => rw [List.filter_cons_of_neg (by rw [h]; exact Bool.false_ne_true), ih]; rfl
theorem lwithin_ok (one two : Lot) (h : one.length ≤ 100000) : K70.m__law_within [.va (lotD one), .va (lotD two)] = some (.ok (.va (.bool (withinN one two)), [.va (lotD one), .va (lotD two)])) := by
  have hL := lcL_map nD PyData.int (i := 2) (test := bM (opM notInG (varM 2) (varM 1))) (elt := cM (.int 1)) (ρ0 := [.va (lotD one), .va (lotD two), .un]) (fun n => !memN n two) (fun _ => (1 : Int)) rfl one [] fun n _ =>
    ⟨b_va (op_vv (d := nD n) (e := lotD two) rfl rfl (notIn_nat n two)), fun _ => ⟨_, rfl, rfl⟩⟩
  refine runDef_rt rfl (ρ := [.va (lotD one), .va (lotD two), .un]) (ret_of (op_nw (lc_va (d := lotD one) rfl rfl (by rw [List.length_map]; exact h) rfl hL) (es := []) rfl (eq_nil_of rfl (shaped_ints _)))) (r' := .va (.bool (withinN one two))) ?_ rfl
  rw [List.nil_append]
  show some (Rv.va (.bool (List.map PyData.int (List.map (fun _ => (1 : Int)) (one.filter fun n => !memN n two))).isEmpty)) = _
  rw [List.isEmpty_map, List.isEmpty_map, filter_empty]
  simp [withinN]
def lh_body : En → RM Ot := ifM (bM (callM (quiet K70.m__law_within) (consM (varM 2) (consM (varM 1) nilM)))) (retM (cM (.bool true))) nxM
theorem lholds_loop {D : Sl} {lot : Lot} : ∀ (fam : List Lot) (x2 : Sl), (∀ l ∈ fam, l.length ≤ 1000) → ∃ y2, forL (stoN 2) lh_body (fam.map lotD) [D, .va (lotD lot), x2] = some (.ok (if holdsN fam lot = true then .rt (.va (.bool true)) else .nx, [D, .va (lotD lot), y2]))
  | [], x2, _ => ⟨x2, rfl⟩
  | one :: fam, x2, h => by
    have hc : callM (quiet K70.m__law_within) (consM (varM 2) (consM (varM 1) nilM)) [D, .va (lotD lot), .va (lotD one)] = some (.ok (.va (.bool (withinN one lot)), [D, .va (lotD lot), .va (lotD one)])) := callM_va [lotD one, lotD lot] rfl (lwithin_ok one lot (Nat.le_trans (h one List.mem_cons_self) (by decide))) rfl
    have hb : lh_body [D, .va (lotD lot), .va (lotD one)] = if withinN one lot = true then some (.ok (.rt (.va (.bool true)), [D, .va (lotD lot), .va (lotD one)])) else some (.ok (.nx, [D, .va (lotD lot), .va (lotD one)])) := by
      unfold lh_body
      exact if_tt (b_va hc)
    rw [List.map_cons]
    unfold forL
    dsimp only [stoN, List.set]
    rw [hb]
    have hh : holdsN (one :: fam) lot = (withinN one lot || holdsN fam lot) := rfl
    rw [hh]
    cases e : withinN one lot with
    | true => exact ⟨_, rfl⟩
    | false =>
      obtain ⟨y2, hy⟩ := lholds_loop (D := D) (lot := lot) fam (.va (lotD one)) fun l hl => h l (List.mem_cons_of_mem _ hl)
      exact ⟨y2, hy⟩
theorem lholds_ok {d : PyData} {fam : List Lot} (lot : Lot) (hd : seqItems d = some (fam.map lotD)) (h : ∀ l ∈ fam, l.length ≤ 1000) : K70.m__law_holds [.va d, .va (lotD lot)] = some (.ok (.va (.bool (holdsN fam lot)), [.va d, .va (lotD lot)])) := by
  obtain ⟨y2, hy⟩ := lholds_loop (D := .va d) (lot := lot) fam .un h
  have h1 := (for_of (ρ := [.va d, .va (lotD lot), .un]) (sq_of (f := varM 0) (d := d) rfl hd)).trans hy
  refine runDef_rt rfl (ρ := [.va d, .va (lotD lot), y2]) ?_ (r := .va (.bool (holdsN fam lot))) rfl rfl
  show K70.b__law_holdsM [.va d, .va (lotD lot), .un] = _
  unfold K70.b__law_holdsM
  show sqM (Pl.forM (seqM (varM 0)) (stoN 2) lh_body) _ _ = _
  cases e : holdsN fam lot with
  | true =>
    rw [e, if_pos rfl] at h1
    exact seq_rt h1
  | false =>
    rw [e, if_neg Bool.false_ne_true] at h1
    rw [seq_nx h1]
    rfl
end Fam

namespace Fam
open PySem Pl
/-! ### what a blocker is -/
theorem memN_iff (n : Nat) (l : Lot) : memN n l = true ↔ n ∈ l := by
  rw [← memN_contains, List.contains_iff_mem]
theorem within_iff (a b : Lot) : withinN a b = true ↔ ∀ n ∈ a, n ∈ b := by
  unfold withinN
  rw [List.all_eq_true]
  exact ⟨fun h n hn => (memN_iff n b).mp (h n hn), fun h n hn => (memN_iff n b).mpr (h n hn)⟩
theorem meets_iff (a b : Lot) : meetsN a b = true ↔ ∃ n, n ∈ a ∧ n ∈ b := by
  unfold meetsN
  rw [List.any_eq_true]
  exact ⟨fun ⟨n, h1, h2⟩ => ⟨n, h1, (memN_iff n b).mp h2⟩, fun ⟨n, h1, h2⟩ => ⟨n, h1, (memN_iff n b).mpr h2⟩⟩
theorem holds_iff (f : List Lot) (l : Lot) : holdsN f l = true ↔ ∃ a ∈ f, withinN a l = true := by
  unfold holdsN
  rw [List.any_eq_true]
theorem within_refl (a : Lot) : withinN a a = true := (within_iff a a).mpr fun _ h => h
theorem within_trans {a b c : Lot} (h1 : withinN a b = true) (h2 : withinN b c = true) : withinN a c = true := (within_iff a c).mpr fun n hn => (within_iff b c).mp h2 n ((within_iff a b).mp h1 n hn)
theorem withN_mem (one : Lot) (h x : Nat) : x ∈ withN one h ↔ x ∈ one ∨ x = h := by
  unfold withN
  rw [(isort_perm _).mem_iff, List.mem_append, List.mem_singleton]
theorem leastF_below : ∀ (l found : List Lot) (x : Lot), x ∈ found ∨ x ∈ l → ∃ y ∈ leastF found l, withinN y x = true
  | [], found, x, h => by
    rcases h with h | h
    · exact ⟨x, h, within_refl x⟩
    · cases h
  | lot :: r, found, x, h => by
    unfold leastF
    cases e : holdsN found lot with
    | true =>
      show ∃ y ∈ leastF found r, _
      rcases h with h | h
      · exact leastF_below r found x (.inl h)
      · rcases List.mem_cons.mp h with h | h
        · obtain ⟨a, ha, hw⟩ := (holds_iff found lot).mp e
          obtain ⟨y, hy, hw2⟩ := leastF_below r found a (.inl ha)
          exact ⟨y, hy, by rw [h]; exact within_trans hw2 hw⟩
        · exact leastF_below r found x (.inr h)
    | false =>
      show ∃ y ∈ leastF (found ++ [lot]) r, _
      rcases h with h | h
      · exact leastF_below r _ x (.inl (List.mem_append_left _ h))
      · rcases List.mem_cons.mp h with h | h
        · exact leastF_below r _ x (.inl (by rw [h]; exact List.mem_append_right _ List.mem_cons_self))
        · exact leastF_below r _ x (.inr h)
theorem leastN_below {l : List Lot} {x : Lot} (h : x ∈ l) : ∃ y ∈ leastN l, withinN y x = true := by
  obtain ⟨y, hy, hw⟩ := leastF_below (isort leK l) [] x (.inr ((isort_perm l).mem_iff.mpr h))
  exact ⟨y, (isort_perm _).mem_iff.mpr hy, hw⟩
theorem leastF_anti : ∀ (l found : List Lot), found.Pairwise (fun a b => withinN a b = false) → (leastF found l).Pairwise fun a b => withinN a b = false
  | [], found, h => h
  | lot :: r, found, h => by
    unfold leastF
    cases e : holdsN found lot with
    | true => exact leastF_anti r found h
    | false =>
      refine leastF_anti r _ (List.pairwise_append.mpr ⟨h, List.pairwise_singleton _ _, fun a ha b hb => ?_⟩)
      rw [List.mem_singleton.mp hb]
      cases q : withinN a lot with
      | false => rfl
      | true => rw [(holds_iff found lot).mpr ⟨a, ha, q⟩] at e; cases e
/-! counting -/
theorem nodup_len {α : Type} [DecidableEq α] : ∀ (l m : List α), l.Nodup → (∀ x ∈ l, x ∈ m) → l.length ≤ m.length
  | [], _, _, _ => Nat.zero_le _
  | x :: l, m, hn, hs => by
    obtain ⟨h1, h2⟩ := List.nodup_cons.mp hn
    have hx := hs x List.mem_cons_self
    have ih := nodup_len l (m.erase x) h2 fun y hy => (List.mem_erase_of_ne fun z => h1 (by rw [← z]; exact hy)).mpr (hs y (List.mem_cons_of_mem _ hy))
    rw [List.length_erase_of_mem hx] at ih
    have := List.length_pos_of_mem hx
    rw [List.length_cons]
    omega
def bit (n : Nat) (l : Lot) : Nat := (memN n l).toNat
def mask (l : Lot) : Nat := bit 0 l + 2 * bit 1 l + 4 * bit 2 l + 8 * bit 3 l + 16 * bit 4 l + 32 * bit 5 l + 64 * bit 6 l
theorem bit_le (n : Nat) (l : Lot) : bit n l ≤ 1 := by
  unfold bit
  cases memN n l <;> decide
theorem bit_mem {n : Nat} {l : Lot} (h : bit n l = 1) : n ∈ l := by
  unfold bit at h
  cases e : memN n l with
  | true => exact (memN_iff n l).mp e
  | false => rw [e] at h; cases h
theorem bit_of {n : Nat} {l : Lot} (h : n ∈ l) : bit n l = 1 := by
  unfold bit
  rw [(memN_iff n l).mpr h]
  rfl
theorem mask_lt (l : Lot) : mask l < 128 := by
  unfold mask
  have h0 := bit_le 0 l
  have h1 := bit_le 1 l
  have h2 := bit_le 2 l
  have h3 := bit_le 3 l
  have h4 := bit_le 4 l
  have h5 := bit_le 5 l
  have h6 := bit_le 6 l
  omega
theorem mask_within {a b : Lot} (h : mask a = mask b) (ha : ∀ x ∈ a, x < 7) : withinN a b = true := by
  refine (within_iff a b).mpr fun n hn => ?_
  have hb := bit_of hn
  have hlt := ha n hn
  unfold mask at h
  have h0 := bit_le 0 a
  have h1 := bit_le 1 a
  have h2 := bit_le 2 a
  have h3 := bit_le 3 a
  have h4 := bit_le 4 a
  have h5 := bit_le 5 a
  have h6 := bit_le 6 a
  have k0 := bit_le 0 b
  have k1 := bit_le 1 b
  have k2 := bit_le 2 b
  have k3 := bit_le 3 b
  have k4 := bit_le 4 b
  have k5 := bit_le 5 b
  have k6 := bit_le 6 b
  refine bit_mem ?_
  match n, hlt, hb with
  | 0, _, hb => omega
  | 1, _, hb => omega
  | 2, _, hb => omega
  | 3, _, hb => omega
  | 4, _, hb => omega
  | 5, _, hb => omega
  | 6, _, hb => omega
/-- lots, none within a later one: at most 128 -/
theorem anti_len {l : List Lot} (h : l.Pairwise fun a b => withinN a b = false) (h7 : ∀ a ∈ l, ∀ x ∈ a, x < 7) : l.length ≤ 128 := by
  have hn : (l.map mask).Nodup := by
    refine List.pairwise_map.mpr (List.Pairwise.imp_of_mem (fun {a b} ha hb hab e => ?_) h)
    rw [mask_within e (h7 a ha)] at hab
    cases hab
  have := nodup_len (l.map mask) (List.range 128) hn fun x hx => by
    obtain ⟨a, _, rfl⟩ := List.mem_map.mp hx
    exact List.mem_range.mpr (mask_lt a)
  rw [List.length_map, List.length_range] at this
  exact this
theorem leastN_len {l : List Lot} (h7 : ∀ a ∈ l, ∀ x ∈ a, x < 7) : (leastN l).length ≤ 128 := by
  unfold leastN
  rw [(isort_perm _).length_eq]
  refine anti_len (leastF_anti _ [] List.Pairwise.nil) fun a ha => h7 a ?_
  rcases leastF_mem _ _ _ ha with q | q
  · cases q
  · exact (isort_perm l).mem_iff.mp q
/-! the blocker -/
theorem grown_mem {x lot : Lot} : ∀ {found : List Lot}, x ∈ grownN found lot ↔ ∃ one ∈ found, (meetsN one lot = true ∧ x = one) ∨ (meetsN one lot = false ∧ ∃ h ∈ lot, x = withN one h)
  | [] => ⟨fun h => (nomatch h), fun ⟨_, h, _⟩ => (nomatch h)⟩
  | one :: r => by
    unfold grownN
    rw [List.mem_append, grown_mem (found := r)]
    cases e : meetsN one lot with
    | true =>
      show (x ∈ [one] ∨ _) ↔ _
      rw [List.mem_singleton]
      refine ⟨fun h => ?_, fun ⟨o, ho, h⟩ => ?_⟩
      · rcases h with h | ⟨o, ho, h⟩
        · exact ⟨one, List.mem_cons_self, .inl ⟨e, h⟩⟩
        · exact ⟨o, List.mem_cons_of_mem _ ho, h⟩
      · rcases List.mem_cons.mp ho with z | z
        · subst z
          rcases h with h | h
          · exact .inl h.2
          · rw [e] at h; cases h.1
        · exact .inr ⟨o, z, h⟩
    | false =>
      show (x ∈ lot.map (withN one) ∨ _) ↔ _
      rw [List.mem_map]
      refine ⟨fun h => ?_, fun ⟨o, ho, h⟩ => ?_⟩
      · rcases h with ⟨y, hy, z⟩ | ⟨o, ho, h⟩
        · exact ⟨one, List.mem_cons_self, .inr ⟨e, y, hy, z.symm⟩⟩
        · exact ⟨o, List.mem_cons_of_mem _ ho, h⟩
      · rcases List.mem_cons.mp ho with z | z
        · subst z
          rcases h with h | ⟨_, y, hy, h⟩
          · rw [e] at h; cases h.1
          · exact .inl ⟨y, hy, h.symm⟩
        · exact .inr ⟨o, z, h⟩
theorem grown_len {lot : Lot} {k : Nat} (hk : lot.length ≤ k) (hk1 : 1 ≤ k) : ∀ found : List Lot, (grownN found lot).length ≤ found.length * k
  | [] => Nat.zero_le _
  | one :: r => by
    have ih := grown_len hk hk1 r
    unfold grownN
    rw [List.length_append, List.length_cons, Nat.succ_mul]
    cases meetsN one lot with
    | true => show 1 + _ ≤ _; omega
    | false => show (lot.map (withN one)).length + _ ≤ _; rw [List.length_map]; omega
/-- a family over fewer than 8 houses -/
structure Fam7 (n : Nat) (F : List Lot) : Prop where
  n7 : n ≤ 7
  len : F.length ≤ 100
  lot : ∀ l ∈ F, l.length ≤ 100
  lt : ∀ l ∈ F, ∀ x ∈ l, x < n
structure BInv (n : Nat) (P found : List Lot) (k : Nat) : Prop where
  len : found.length ≤ 128
  lot : ∀ l ∈ found, l.length ≤ k
  lt : ∀ l ∈ found, ∀ x ∈ l, x < n
  hit : ∀ t ∈ found, ∀ L ∈ P, meetsN t L = true
  all : ∀ S : Lot, (∀ L ∈ P, meetsN S L = true) → ∃ t ∈ found, withinN t S = true
theorem binv_start (n : Nat) : BInv n [] [[]] 0 :=
  ⟨by decide, fun l hl => by rw [List.mem_singleton.mp hl]; exact Nat.le_refl _, fun l hl x hx => (by rw [List.mem_singleton.mp hl] at hx; cases hx), fun t _ L hL => (nomatch hL), fun S _ => ⟨[], List.mem_cons_self, rfl⟩⟩
theorem withN_len (one : Lot) (h : Nat) : (withN one h).length = one.length + 1 := by
  unfold withN
  rw [(isort_perm _).length_eq, List.length_append]
  rfl
theorem binv_step {n k : Nat} {P found : List Lot} {lot : Lot} (n7 : n ≤ 7) (hl : ∀ x ∈ lot, x < n) (hl2 : lot.length ≤ 100) (B : BInv n P found k) : BInv n (P ++ [lot]) (leastN (grownN found lot)) (k + 1) ∧ (grownN found lot).length ≤ 12800 ∧ ∀ l ∈ grownN found lot, l.length ≤ k + 1 := by
  have glt : ∀ l ∈ grownN found lot, ∀ x ∈ l, x < n := fun l hg x hx => by
    obtain ⟨one, ho, h⟩ := grown_mem.mp hg
    rcases h with ⟨_, h⟩ | ⟨_, y, hy, h⟩
    · subst h
      exact B.lt l ho x hx
    · subst h
      rcases (withN_mem one y x).mp hx with q | q
      · exact B.lt one ho x q
      · rw [q]; exact hl y hy
  have glen : ∀ l ∈ grownN found lot, l.length ≤ k + 1 := fun l hg => by
    obtain ⟨one, ho, h⟩ := grown_mem.mp hg
    have := B.lot one ho
    rcases h with ⟨_, h⟩ | ⟨_, y, hy, h⟩
    · subst h
      omega
    · subst h
      rw [withN_len]
      omega
  refine ⟨⟨leastN_len fun a ha x hx => Nat.lt_of_lt_of_le (glt a ha x hx) n7, fun l h => glen l (leastN_mem h), fun l h => glt l (leastN_mem h), fun t ht L hL => ?_, fun S hS => ?_⟩, ?_, glen⟩
  · obtain ⟨one, ho, h⟩ := grown_mem.mp (leastN_mem ht)
    rcases List.mem_append.mp hL with q | q
    · have hm := B.hit one ho L q
      rcases h with ⟨_, h⟩ | ⟨_, y, hy, h⟩
      · rw [h]; exact hm
      · obtain ⟨x, h1, h2⟩ := (meets_iff one L).mp hm
        exact (meets_iff t L).mpr ⟨x, by rw [h]; exact (withN_mem one y x).mpr (.inl h1), h2⟩
    · rw [List.mem_singleton.mp q]
      rcases h with ⟨hm, h⟩ | ⟨_, y, hy, h⟩
      · rw [h]; exact hm
      · exact (meets_iff t lot).mpr ⟨y, by rw [h]; exact (withN_mem one y y).mpr (.inr rfl), hy⟩
  · obtain ⟨t, ht, hw⟩ := B.all S fun L hL => hS L (List.mem_append_left _ hL)
    have hm := hS lot (List.mem_append_right _ List.mem_cons_self)
    cases e : meetsN t lot with
    | true =>
      obtain ⟨y, hy, hw2⟩ := leastN_below (grown_mem.mpr ⟨t, ht, .inl ⟨e, rfl⟩⟩)
      exact ⟨y, hy, within_trans hw2 hw⟩
    | false =>
      obtain ⟨x, h1, h2⟩ := (meets_iff S lot).mp hm
      obtain ⟨y, hy, hw2⟩ := leastN_below (grown_mem.mpr ⟨t, ht, .inr ⟨e, x, h2, rfl⟩⟩)
      refine ⟨y, hy, within_trans hw2 ((within_iff _ S).mpr fun z hz => ?_)⟩
      rcases (withN_mem t x z).mp hz with q | q
      · exact (within_iff t S).mp hw z q
      · rw [q]; exact h1
  · have := grown_len hl2 (by decide) found
    have := B.len
    omega
theorem blk_some {n : Nat} (n7 : n ≤ 7) : ∀ (F P found : List Lot) (k : Nat), BInv n P found k → k + F.length ≤ 800 → (∀ l ∈ F, ∀ x ∈ l, x < n) → (∀ l ∈ F, l.length ≤ 100) → ∃ out, blkC found F = some out ∧ BInv n (P ++ F) out (k + F.length)
  | [], P, found, k, B, _, _, _ => ⟨found, rfl, by rw [List.append_nil]; exact B⟩
  | lot :: r, P, found, k, B, hk, h1, h2 => by
    rw [List.length_cons] at hk
    obtain ⟨B', g1, g2⟩ := binv_step n7 (h1 lot List.mem_cons_self) (h2 lot List.mem_cons_self) B
    obtain ⟨out, e, Bo⟩ := blk_some n7 r (P ++ [lot]) _ (k + 1) B' (by omega) (fun l hl => h1 l (List.mem_cons_of_mem _ hl)) fun l hl => h2 l (List.mem_cons_of_mem _ hl)
    refine ⟨out, ?_, ?_⟩
    · unfold blkC
      have c1 : Nat.ble (grownN found lot).length 100000 = true := Nat.ble_eq.mpr (by omega)
      have c2 : ((grownN found lot).all fun l => Nat.ble l.length 900) = true := List.all_eq_true.mpr fun l hl => Nat.ble_eq.mpr (by have := g2 l hl; omega)
      rw [c1, c2]
      exact e
    · rw [List.append_assoc] at Bo
      rw [List.length_cons, show k + (r.length + 1) = k + 1 + r.length by omega]
      exact Bo
theorem blocker_all {n : Nat} {F : List Lot} (h : Fam7 n F) : ∃ B, blkC [[]] F = some B ∧ BInv n F B F.length := by
  obtain ⟨out, e, b⟩ := blk_some h.n7 F [] [[]] 0 (binv_start n) (by have := h.len; omega) h.lt h.lot
  refine ⟨out, e, ?_⟩
  rw [List.nil_append, Nat.zero_add] at b
  exact b
def othersN (lot : Lot) (n : Nat) : Lot := (List.range n).filter fun h => !memN h lot
theorem others_mem (lot : Lot) (n x : Nat) : x ∈ othersN lot n ↔ x < n ∧ x ∉ lot := by
  unfold othersN
  rw [List.mem_filter, List.mem_range, Bool.not_eq_true']
  refine and_congr_right fun _ => ?_
  rw [← memN_iff]
  cases memN x lot <;> simp
/-- the blocker holds for the others exactly if the family does not hold -/
theorem dual {n k : Nat} {F B : List Lot} (hF : ∀ l ∈ F, ∀ x ∈ l, x < n) (b : BInv n F B k) (lot : Lot) : holdsN B (othersN lot n) = !holdsN F lot := by
  cases e : holdsN F lot with
  | true =>
    obtain ⟨L, hL, hw⟩ := (holds_iff F lot).mp e
    cases e2 : holdsN B (othersN lot n) with
    | false => rfl
    | true =>
      obtain ⟨t, ht, hw2⟩ := (holds_iff B _).mp e2
      obtain ⟨x, h1, h2⟩ := (meets_iff t L).mp (b.hit t ht L hL)
      exact absurd ((within_iff L lot).mp hw x h2) ((others_mem lot n x).mp ((within_iff t _).mp hw2 x h1)).2
  | false =>
    obtain ⟨t, ht, hw⟩ := b.all (othersN lot n) fun L hL => by
      have hno : ¬ withinN L lot = true := fun z => by
        rw [(holds_iff F lot).mpr ⟨L, hL, z⟩] at e
        cases e
      rw [within_iff] at hno
      obtain ⟨x, hx⟩ := Classical.not_forall.mp hno
      obtain ⟨h1, h2⟩ := Classical.not_imp.mp hx
      exact (meets_iff _ L).mpr ⟨x, (others_mem lot n x).mpr ⟨hF L hL x h1, h2⟩, h1⟩
    exact (holds_iff B _).mpr ⟨t, ht, hw⟩
end Fam

namespace Fam
open PySem PySem.Spec PyProof.Rows L2 Pl
theorem others_ok (lot : Lot) (n : Nat) (h : n ≤ 1000) : K70.m__law_others [.va (lotD lot), .va (nD n)] = some (.ok (.va (lotD (othersN lot n)), [.va (lotD lot), .va (nD n)])) := by
  have hL := lcL_map nD nD (i := 2) (test := bM (opM notInG (varM 2) (varM 0))) (elt := varM 2) (ρ0 := [.va (lotD lot), .va (nD n), .un]) (fun x => !memN x lot) id rfl (List.range n) [] fun x _ =>
    ⟨b_va (op_vv (d := nD x) (e := lotD lot) rfl rfl (notIn_nat x lot)), fun _ => ⟨_, rfl, rfl⟩⟩
  have hs : rng1M (consM (varM 1) nilM) [.va (lotD lot), .va (nD n), .un] = some (.ok ((List.range n).map nD, [.va (lotD lot), .va (nD n), .un])) := rng_of rfl h
  refine runDef_rt rfl (ρ := [.va (lotD lot), .va (nD n), .un]) (ret_of (tup_of (lcM_of hs (by rw [List.length_map, List.length_range]; omega) rfl hL))) (r' := .va (lotD (othersN lot n))) ?_ rfl
  rw [← un_map]
  rfl
/-! _law_least -/
def toZ (l : Lot) : List Int := l.map Int.ofNat
theorem tupZ_toZ (l : Lot) : tupZ (toZ l) = lotD l := by
  unfold tupZ toZ lotD
  rw [List.map_map]
  rfl
theorem toZ_inj {a b : Lot} (h : toZ a = toZ b) : a = b := by
  unfold toZ at h
  exact (List.map_inj_right (f := Int.ofNat) fun x y e => Int.ofNat.inj e).mp h
theorem dd_map : ∀ l : List Lot, dd (l.map toZ) = (dd l).map toZ
  | [] => rfl
  | x :: l => by
    rw [List.map_cons]
    unfold dd
    rw [dd_map l]
    by_cases h : x ∈ dd l
    · rw [if_pos h, if_pos (List.mem_map.mpr ⟨x, h, rfl⟩)]
    · rw [if_neg h, if_neg fun z => by
        obtain ⟨y, hy, e⟩ := List.mem_map.mp z
        exact h (toZ_inj e ▸ hy)]
      rfl
theorem leL_toZ (a b : Lot) : leL a b = leZ (toZ a) (toZ b) := by
  unfold leZ
  rw [tupZ_toZ, tupZ_toZ, dataLe_lot]
theorem sortSet_map (l : List Lot) : sortSetZ (l.map toZ) = (isort leL (dd l)).map toZ := by
  unfold sortSetZ
  rw [dd_map, ← PySem.W.sort_maps toZ (r := leL) fun a _ b _ => leL_toZ a b, isort_eq ord_leL]
theorem lotsZ_map : ∀ l : List Lot, lotsZ (l.map lotD) = some (l.map toZ)
  | [] => rfl
  | x :: l => by
    show (match intsD (x.map nD), lotsZ (l.map lotD) with | some k, some ks => some (k :: ks) | _, _ => none) = _
    rw [intsD_nat, lotsZ_map l]
    rfl
theorem sortSet_of {ρ ρ1 : En} {f : En → RM Rv} {r : Rv} {l : List Lot} (h : f ρ = some (.ok (r, ρ1))) (hl : look ρ1 r = some (famL l)) (hn : l.length < 64) : sortSetM f ρ = some (.ok (.nw ((isort leL (dd l)).map lotD), ρ1)) := by
  unfold sortSetM
  rw [h]
  dsimp only [RM.bnd]
  unfold lk
  rw [hl]
  show (match lotsZ (l.map lotD) with | some ks => ck (decide (ks.length < 64)) (some (.ok (Rv.nw ((sortSetZ ks).map tupZ), ρ1)) : RM Rv) | none => none) = _
  rw [lotsZ_map]
  dsimp only
  rw [decide_eq_true (by rw [List.length_map]; exact hn), sortSet_map, List.map_map]
  have : (tupZ ∘ toZ) = lotD := funext tupZ_toZ
  rw [this]
  rfl
theorem neG_lot (a b : Lot) : neG (lotD a) (lotD b) = some (.va (.bool !decide (a = b))) := by
  show (match SeqAt.shaped (lotD a) && SeqAt.shaped (lotD b) with | true => some (PyData.eqv (lotD a) (lotD b)) | false => none).map _ = _
  rw [shaped_lot, shaped_lot, eqv_nat]
  rfl
def isLeast (lots : List Lot) (lot : Lot) : Bool := lots.all fun one => !(!decide (one = lot) && withinN one lot)
def lleastN (lots : List Lot) : List Lot := (isort leL (dd lots)).filter (isLeast lots)
def ll_test : En → RM Bool := Pl.andM (bM (opM neG (varM 3) (varM 2))) (bM (callM (quiet K70.m__law_within) (consM (varM 3) (consM (varM 2) nilM))))
def ll_body : En → RM Ot := ifM (bM (opM eqG (lcOM 0 (stoN 3) ll_test (cM (.int 1)) [3]) (lstM nilM))) (appM 1 (varM 2)) nxM
theorem ll_lc {lots : List Lot} {s0 s1 : Sl} {lot : Lot} (h : ∀ l ∈ lots, l.length ≤ 1000) : lcL (stoN 3) ll_test (cM (.int 1)) [3] (lots.map lotD) [] [s0, s1, .va (lotD lot), .un] = some (.ok (((lots.filter fun one => !decide (one = lot) && withinN one lot).map fun _ => (1 : Int)).map PyData.int, [s0, s1, .va (lotD lot), .un])) := by
  have hL := lcL_map lotD PyData.int (i := 3) (test := ll_test) (elt := cM (.int 1)) (ρ0 := [s0, s1, .va (lotD lot), .un]) (fun one => !decide (one = lot) && withinN one lot) (fun _ => (1 : Int)) rfl lots [] fun one hm =>
    ⟨and_tt (ρ2 := []) (b_va (op_vv (d := lotD one) (e := lotD lot) rfl rfl (neG_lot one lot))) (b_va (callM_va [lotD one, lotD lot] rfl (lwithin_ok one lot (Nat.le_trans (h one hm) (by decide))) rfl)), fun _ => ⟨_, rfl, rfl⟩⟩
  rw [List.nil_append] at hL
  exact hL
theorem least_test (lots : List Lot) (lot : Lot) : (((lots.filter fun one => !decide (one = lot) && withinN one lot).map fun _ => (1 : Int)).map PyData.int).isEmpty = isLeast lots lot := by
  rw [List.isEmpty_map, List.isEmpty_map, filter_empty]
  rfl
/-- the two ways in which the lots are handed on -/
def SlOf (s : Sl) (lots : List Lot) : Prop := s = .va (famL lots) ∨ s = .ow 1 (lots.map lotD)
theorem ll_lcO {lots : List Lot} {s0 s1 : Sl} {lot : Lot} (hs : SlOf s0 lots) (h1 : ∀ k ds, s1 = .ow k ds → True) (h : ∀ l ∈ lots, l.length ≤ 1000) (hn : lots.length ≤ 1000) : lcOM 0 (stoN 3) ll_test (cM (.int 1)) [3] [s0, s1, .va (lotD lot), .un] = some (.ok (.nw (((lots.filter fun one => !decide (one = lot) && withinN one lot).map fun _ => (1 : Int)).map PyData.int), [s0, s1, .va (lotD lot), .un])) := by
  rcases hs with rfl | rfl
  · exact lc_va (k := 0) (ρ := [.va (famL lots), s1, .va (lotD lot), .un]) (vs := [3]) (d := famL lots) (items := lots.map lotD) rfl rfl (by rw [List.length_map]; omega) rfl (ll_lc (s0 := .va (famL lots)) (s1 := s1) h)
  · exact lc_ow (k := 0) (j := 1) (ρ := [.ow 1 (lots.map lotD), s1, .va (lotD lot), .un]) (vs := [3]) (items := lots.map lotD) rfl (by rw [List.length_map]; omega) rfl (ll_lc (s0 := .un) (s1 := s1) h)
theorem ll_loop {lots : List Lot} {s0 : Sl} (hs : SlOf s0 lots) (h : ∀ l ∈ lots, l.length ≤ 1000) (hn : lots.length ≤ 1000) : ∀ (l found : List Lot) (x2 : Sl), found.length + l.length ≤ 1000 → ∃ y2, forL (stoN 2) ll_body (l.map lotD) [s0, .ow 0 (found.map lotD), x2, .un] = some (.ok (.nx, [s0, .ow 0 ((found ++ l.filter (isLeast lots)).map lotD), y2, .un]))
  | [], found, x2, _ => ⟨x2, by rw [List.filter_nil, List.append_nil]; rfl⟩
  | lot :: l, found, x2, hl => by
    rw [List.length_cons] at hl
    have hb : ll_body [s0, .ow 0 (found.map lotD), .va (lotD lot), .un] = some (.ok (.nx, [s0, .ow 0 ((bif isLeast lots lot then found ++ [lot] else found).map lotD), .va (lotD lot), .un])) := by
      unfold ll_body
      rw [if_tt (b_va (op_nw (ll_lcO hs (fun _ _ _ => trivial) h hn) (es := []) rfl (eq_nil_of rfl (shaped_ints _)))), least_test]
      cases isLeast lots lot with
      | false => rfl
      | true =>
        rw [if_pos rfl]
        unfold appM
        show ck (few (found.map lotD)) (some (Except.ok (Ot.nx, [s0, .ow 0 (found.map lotD ++ [lotD lot]), .va (lotD lot), .un]))) = _
        rw [few_of (by rw [List.length_map]; omega)]
        show some (Except.ok (Ot.nx, [s0, .ow 0 (found.map lotD ++ [lotD lot]), .va (lotD lot), .un])) = _
        rw [show found.map lotD ++ [lotD lot] = (found ++ [lot]).map lotD by simp]
        rfl
    obtain ⟨y2, hy⟩ := ll_loop hs h hn l (bif isLeast lots lot then found ++ [lot] else found) (.va (lotD lot)) (by
      cases isLeast lots lot with
      | true => show (found ++ [lot]).length + _ ≤ _; rw [List.length_append]; simp; omega
      | false => show found.length + _ ≤ _; omega)
    refine ⟨y2, ?_⟩
    rw [List.map_cons]
    unfold forL
    dsimp only [stoN, List.set]
    rw [hb]
    refine hy.trans ?_
    cases e : isLeast lots lot with
    | true =>
      rw [List.filter_cons_of_pos e]
      show some (Except.ok (Ot.nx, [s0, .ow 0 (((found ++ [lot]) ++ l.filter (isLeast lots)).map lotD), y2, .un])) = _
      rw [List.append_assoc]
      rfl
    | false =>
      rw [List.filter_cons_of_neg (by rw [e]; exact Bool.false_ne_true)]
      rfl
theorem dd_len {α : Type} [DecidableEq α] : ∀ l : List α, (dd l).length ≤ l.length
  | [] => Nat.le_refl _
  | x :: l => by
    unfold dd
    have := dd_len l
    split
    · rw [List.length_cons]; omega
    · rw [List.length_cons, List.length_cons]; omega
theorem lleast_ok {lots : List Lot} {s0 : Sl} (hs : SlOf s0 lots) (h : ∀ l ∈ lots, l.length ≤ 1000) (hn : lots.length < 64) : K70.m__law_least [s0] = some (.ok (.va (famD (lleastN lots)), [s0])) := by
  have hlen : (isort leL (dd lots)).length ≤ lots.length := by
    rw [(isort_perm _).length_eq]
    exact dd_len lots
  obtain ⟨y2, hy⟩ := ll_loop hs h (by omega) (isort leL (dd lots)) [] .un (by simp; omega)
  have hset : sortSetM (varM 0) [s0, .ow 0 [], .un, .un] = some (.ok (.nw ((isort leL (dd lots)).map lotD), [s0, .ow 0 [], .un, .un])) := by
    rcases hs with rfl | rfl
    · exact sortSet_of (r := .va (famL lots)) rfl rfl hn
    · exact sortSet_of (r := .sl 0) rfl rfl hn
  have h1 := (for_of (sto := stoN 2) (body := ll_body) (sq_nw hset)).trans hy
  have houts : outs [s0, .ow 0 (([] ++ (isort leL (dd lots)).filter (isLeast lots)).map lotD), y2, .un] [s0] 0 = some [s0] := by
    rcases hs with rfl | rfl <;> rfl
  refine runDef_rt rfl (ρ := [s0, .ow 0 (([] ++ (isort leL (dd lots)).filter (isLeast lots)).map lotD), y2, .un]) ?_ (r := .va (famD (lleastN lots))) rfl houts
  show K70.b__law_leastM [s0, .un, .un, .un] = _
  unfold K70.b__law_leastM
  have h0 : asgM 1 (lstM nilM) [s0, .un, .un, .un] = some (.ok (.nx, [s0, .ow 0 [], .un, .un])) := rfl
  rw [seq_nx h0]
  show sqM (Pl.forM (seqM (sortSetM (varM 0))) (stoN 2) ll_body) _ _ = _
  rw [seq_nx h1]
  rfl
/-! good lots -/
structure GL (n : Nat) (l : Lot) : Prop where
  ne : l ≠ []
  inc : l.Pairwise (· < ·)
  lt : ∀ x ∈ l, x < n
theorem GL.len {n : Nat} {l : Lot} (h : GL n l) : l.length ≤ n := by
  have := nodup_len l (List.range n) (List.Pairwise.imp (fun {a b} hab => Nat.ne_of_lt hab) h.inc) fun x hx => List.mem_range.mpr (h.lt x hx)
  rw [List.length_range] at this
  exact this
theorem lleast_mem {lots : List Lot} {x : Lot} (h : x ∈ lleastN lots) : x ∈ lots := by
  have := (List.mem_filter.mp h).1
  exact (dd_mem x lots).mp ((isort_perm _).mem_iff.mp this)
theorem lleast_nodup (lots : List Lot) : (lleastN lots).Nodup := by
  unfold lleastN
  exact List.Pairwise.filter _ ((isort_perm _).nodup_iff.mpr (dd_nodup lots))
/-- a row that is within another one and no shorter is that one -/
theorem inc_eq : ∀ {a b : Lot}, a.Pairwise (· < ·) → b.Pairwise (· < ·) → (∀ x ∈ a, x ∈ b) → b.length ≤ a.length → a = b := by
  intro a b ha hb hs hl
  have na : a.Nodup := List.Pairwise.imp (fun {x y} h => Nat.ne_of_lt h) ha
  have nb : b.Nodup := List.Pairwise.imp (fun {x y} h => Nat.ne_of_lt h) hb
  have hsub : ∀ x ∈ b, x ∈ a := fun x hx => Classical.byContradiction fun z => by
    have := nodup_len (x :: a) b (List.nodup_cons.mpr ⟨z, na⟩) fun y hy => (List.mem_cons.mp hy).elim (fun e => e ▸ hx) (hs y)
    rw [List.length_cons] at this
    omega
  refine List.Perm.eq_of_pairwise (le := (· < ·)) (fun x y _ _ h1 h2 => absurd h1 (Nat.lt_asymm h2)) ha hb ((List.perm_ext_iff_of_nodup na nb).mpr fun x => ⟨hs x, hsub x⟩)
theorem lleast_ne {n : Nat} {lots : List Lot} (h : ∀ l ∈ lots, GL n l) (hn : lots ≠ []) : lleastN lots ≠ [] := by
  -- the shortest row is least
  have ⟨m, hm, hmin⟩ : ∃ m ∈ lots, ∀ l ∈ lots, m.length ≤ l.length := by
    have : ∀ (ls : List Lot), ls ≠ [] → ∃ m ∈ ls, ∀ l ∈ ls, m.length ≤ l.length := by
      intro ls
      induction ls with
      | nil => exact fun z => absurd rfl z
      | cons x ls ih =>
        intro _
        cases ls with
        | nil => exact ⟨x, List.mem_cons_self, fun l hl => by rw [List.mem_singleton.mp hl]; exact Nat.le_refl _⟩
        | cons y ls =>
          obtain ⟨m, hm, hmin⟩ := ih (List.cons_ne_nil _ _)
          by_cases hx : x.length ≤ m.length
          · exact ⟨x, List.mem_cons_self, fun l hl => (List.mem_cons.mp hl).elim (fun e => e ▸ Nat.le_refl _) fun q => Nat.le_trans hx (hmin l q)⟩
          · exact ⟨m, List.mem_cons_of_mem _ hm, fun l hl => (List.mem_cons.mp hl).elim (fun e => by rw [e]; omega) (hmin l)⟩
    exact this lots hn
  have hmem : m ∈ lleastN lots := by
    refine List.mem_filter.mpr ⟨(isort_perm _).mem_iff.mpr ((dd_mem m lots).mpr hm), List.all_eq_true.mpr fun one ho => ?_⟩
    rw [Bool.not_eq_true', Bool.and_eq_false_iff]
    by_cases e : one = m
    · exact .inl (by rw [decide_eq_true e]; rfl)
    · refine .inr ?_
      cases hw : withinN one m with
      | false => rfl
      | true => exact absurd (inc_eq (h one ho).inc (h m hm).inc ((within_iff one m).mp hw) (hmin one ho)) e
  intro z
  rw [z] at hmem
  cases hmem
/-! rows of lots, none within another one, in order -/
def Inc (l : Lot) : Prop := l.Pairwise (· < ·)
theorem Inc.nd {l : Lot} (h : Inc l) : l.Nodup := List.Pairwise.imp (fun {a b} hab => Nat.ne_of_lt hab) h
structure Well (B : List Lot) : Prop where
  inc : ∀ l ∈ B, Inc l
  anti : ∀ a ∈ B, ∀ b ∈ B, withinN a b = true → a = b
  sorted : B.Pairwise fun a b => leL a b = true
  nd : B.Nodup
theorem pw_two {α : Type} {R : α → α → Prop} : ∀ {l : List α}, l.Pairwise R → ∀ a ∈ l, ∀ b ∈ l, a = b ∨ R a b ∨ R b a
  | [], _, a, ha, _, _ => nomatch ha
  | x :: l, h, a, ha, b, hb => by
    obtain ⟨h1, h2⟩ := List.pairwise_cons.mp h
    rcases List.mem_cons.mp ha with e1 | ha'
    · rcases List.mem_cons.mp hb with e2 | hb'
      · exact .inl (e1.trans e2.symm)
      · exact .inr (.inl (by rw [e1]; exact h1 b hb'))
    · rcases List.mem_cons.mp hb with e2 | hb'
      · exact .inr (.inr (by rw [e2]; exact h1 a ha'))
      · exact pw_two h2 a ha' b hb'
theorem well_one {l : Lot} (h : Inc l) : Well [l] := ⟨fun a ha => by rw [List.mem_singleton.mp ha]; exact h, fun a ha b hb _ => by rw [List.mem_singleton.mp ha, List.mem_singleton.mp hb], List.pairwise_singleton _ _, List.pairwise_singleton _ _⟩
theorem lleast_well {lots : List Lot} (h : ∀ l ∈ lots, Inc l) : Well (lleastN lots) := by
  refine ⟨fun l hl => h l (lleast_mem hl), fun a ha b hb hw => ?_, List.Pairwise.filter _ (isort_sorted ord_leL _), lleast_nodup lots⟩
  have := List.all_eq_true.mp (List.mem_filter.mp hb).2 a (lleast_mem ha)
  rw [hw, Bool.and_true, Bool.not_not] at this
  exact of_decide_eq_true this
def apart (a b : Lot) : Bool := !withinN a b && !withinN b a
theorem apart_anti {L : List Lot} (h : L.Pairwise fun a b => apart a b = true) : (∀ a ∈ L, ∀ b ∈ L, withinN a b = true → a = b) ∧ L.Nodup := by
  refine ⟨fun a ha b hb hw => ?_, List.Pairwise.imp (fun {a b} hab e => ?_) h⟩
  · rcases pw_two h a ha b hb with q | q | q
    · exact q
    · unfold apart at q
      rw [hw] at q
      cases q
    · unfold apart at q
      rw [hw, Bool.not_true, Bool.and_false] at q
      cases q
  · subst e
    unfold apart at hab
    rw [within_refl] at hab
    cases hab
theorem well_sort {L : List Lot} (hi : ∀ l ∈ L, Inc l) (h : L.Pairwise fun a b => apart a b = true) : Well (isort leL L) := by
  obtain ⟨h1, h2⟩ := apart_anti h
  exact ⟨fun l hl => hi l ((isort_perm L).mem_iff.mp hl), fun a ha b hb => h1 a ((isort_perm L).mem_iff.mp ha) b ((isort_perm L).mem_iff.mp hb), isort_sorted ord_leL L, (isort_perm L).nodup_iff.mpr h2⟩
instance (l : Lot) : Decidable (Inc l) := inferInstanceAs (Decidable (l.Pairwise (· < ·)))
/-- told by a look at each two -/
def wellB : List Lot → Bool
  | [] => true
  | a :: r => decide (Inc a) && r.all (fun b => apart a b && leL a b) && wellB r
theorem wellB_pw : ∀ {L : List Lot}, wellB L = true → (∀ l ∈ L, Inc l) ∧ L.Pairwise (fun a b => apart a b = true) ∧ L.Pairwise fun a b => leL a b = true
  | [], _ => ⟨fun l hl => (nomatch hl), List.Pairwise.nil, List.Pairwise.nil⟩
  | a :: r, h => by
    unfold wellB at h
    rw [Bool.and_eq_true, Bool.and_eq_true] at h
    obtain ⟨⟨h1, h2⟩, h3⟩ := h
    obtain ⟨q1, q2, q3⟩ := wellB_pw h3
    rw [List.all_eq_true] at h2
    refine ⟨fun l hl => (List.mem_cons.mp hl).elim (fun e => by rw [e]; exact of_decide_eq_true h1) (q1 l), List.pairwise_cons.mpr ⟨fun b hb => ?_, q2⟩, List.pairwise_cons.mpr ⟨fun b hb => ?_, q3⟩⟩
    · have := h2 b hb
      rw [Bool.and_eq_true] at this
      exact this.1
    · have := h2 b hb
      rw [Bool.and_eq_true] at this
      exact this.2
theorem well_B {L : List Lot} (h : wellB L = true) : Well L := by
  obtain ⟨q1, q2, q3⟩ := wellB_pw h
  obtain ⟨h1, h2⟩ := apart_anti q2
  exact ⟨q1, h1, q3, h2⟩
end Fam

namespace Fam
open PySem PySem.Spec PyProof.Rows L2 Pl
/-! _law_lot -/
def lt_body : En → RM Ot := ifM (Pl.orM (bM (opM eqG (varM 5) (varM 2))) (bM (opM ltG (callM (quiet K70.m__law_take) (consM (varM 0) (consM (cM (.int 5)) nilM))) (varM 4)))) (appM 3 (varM 5)) nxM
theorem or_tt {ρ ρ1 ρ2 : En} {s t : En → RM Bool} {a b : Bool} (h : s ρ = some (.ok (a, ρ1))) (h2 : a = false → t ρ1 = some (.ok (b, ρ2))) : Pl.orM s t ρ = some (.ok (a || b, if a = true then ρ1 else ρ2)) := by
  unfold Pl.orM
  rw [h]
  cases a with
  | true => rfl
  | false => exact h2 rfl
theorem lot_loop {n st sh : Nat} : ∀ (hs acc : List Nat) (b : List PyData) (x5 : Sl), Bx b → (acc ++ hs).Pairwise (· < ·) → (acc ++ hs).length ≤ 1000 → ∃ (acc' : List Nat) (b' : List PyData) (y5 : Sl), Bx b' ∧ acc'.Pairwise (· < ·) ∧ (∀ x ∈ acc', x ∈ acc ++ hs) ∧ (st ∈ acc ∨ st ∈ hs → st ∈ acc') ∧
    forL (stoN 5) lt_body (hs.map nD) [.ow 1 b, .va (nD n), .va (nD st), .ow 0 (acc.map nD), .va (nD sh), x5] = some (.ok (.nx, [.ow 1 b', .va (nD n), .va (nD st), .ow 0 (acc'.map nD), .va (nD sh), y5]))
  | [], acc, b, x5, hb, hp, _ => ⟨acc, b, x5, hb, by rw [List.append_nil] at hp; exact hp, fun x hx => by rw [List.append_nil]; exact hx, fun h => h.elim id (fun z => (nomatch z)), rfl⟩
  | h :: hs, acc, b, x5, hb, hp, hl => by
    have t1 : bM (opM eqG (varM 5) (varM 2)) [.ow 1 b, .va (nD n), .va (nD st), .ow 0 (acc.map nD), .va (nD sh), .va (nD h)] = some (.ok (decide (h = st), [.ow 1 b, .va (nD n), .va (nD st), .ow 0 (acc.map nD), .va (nD sh), .va (nD h)])) := b_va (op_vv (d := nD h) (e := nD st) rfl rfl (eqG_nat' h st))
    obtain ⟨t, b1, _, hb1, e⟩ := take_call hb (k := 5) (by decide) (by decide) (i := 0) (j := 1) (ρ := [.ow 1 b, .va (nD n), .va (nD st), .ow 0 (acc.map nD), .va (nD sh), .va (nD h)]) (f := cM (.int 5)) rfl rfl rfl
    have t2 : bM (opM ltG (callM (quiet K70.m__law_take) (consM (varM 0) (consM (cM (.int 5)) nilM))) (varM 4)) [.ow 1 b, .va (nD n), .va (nD st), .ow 0 (acc.map nD), .va (nD sh), .va (nD h)] = some (.ok (decide (t < sh), [.ow 1 b1, .va (nD n), .va (nD st), .ow 0 (acc.map nD), .va (nD sh), .va (nD h)])) := b_va (op_vv e (e := nD sh) rfl (ltG_nat t sh))
    have hap : ∀ bb, appM 3 (varM 5) [.ow 1 bb, .va (nD n), .va (nD st), .ow 0 (acc.map nD), .va (nD sh), .va (nD h)] = some (.ok (.nx, [.ow 1 bb, .va (nD n), .va (nD st), .ow 0 ((acc ++ [h]).map nD), .va (nD sh), .va (nD h)])) := fun bb => by
      unfold appM
      show ck (few (acc.map nD)) (some (Except.ok (Ot.nx, [.ow 1 bb, .va (nD n), .va (nD st), Sl.ow 0 (acc.map nD ++ [nD h]), .va (nD sh), .va (nD h)]))) = _
      rw [few_of (by rw [List.length_map]; rw [List.length_append] at hl; omega), show acc.map nD ++ [nD h] = (acc ++ [h]).map nD by simp]
      rfl
    have hnext : ∃ (bb : List PyData) (add : Bool), Bx bb ∧ (h = st → add = true) ∧ lt_body [.ow 1 b, .va (nD n), .va (nD st), .ow 0 (acc.map nD), .va (nD sh), .va (nD h)] = some (.ok (.nx, [.ow 1 bb, .va (nD n), .va (nD st), .ow 0 ((if add = true then acc ++ [h] else acc).map nD), .va (nD sh), .va (nD h)])) := by
      unfold lt_body
      by_cases hst : h = st
      · rw [decide_eq_true hst] at t1
        refine ⟨b, true, hb, fun _ => rfl, ?_⟩
        rw [if_tt (or_tt (b := false) (ρ2 := []) t1 fun z => nomatch z)]
        exact hap b
      · rw [decide_eq_false hst] at t1
        have h3 := or_tt (b := decide (t < sh)) t1 fun _ => t2
        by_cases hts : t < sh
        · rw [decide_eq_true hts] at h3
          refine ⟨b1, true, hb1, fun z => absurd z hst, ?_⟩
          rw [if_tt h3]
          exact hap b1
        · rw [decide_eq_false hts] at h3
          refine ⟨b1, false, hb1, fun z => absurd z hst, ?_⟩
          rw [if_tt h3]
          rfl
    obtain ⟨bb, add, hbb, hadd, hbody⟩ := hnext
    have hsub : ((if add = true then acc ++ [h] else acc) ++ hs).Sublist (acc ++ h :: hs) := by
      cases add with
      | true => show ((acc ++ [h]) ++ hs).Sublist _; rw [List.append_assoc]; exact List.Sublist.refl _
      | false => exact (List.Sublist.refl acc).append (List.sublist_cons_self h hs)
    obtain ⟨acc', b', y5, h1, h2, h3, h4, h5⟩ := lot_loop (n := n) (st := st) (sh := sh) hs (if add = true then acc ++ [h] else acc) bb (.va (nD h)) hbb (hp.sublist hsub) (Nat.le_trans hsub.length_le hl)
    refine ⟨acc', b', y5, h1, h2, fun x hx => hsub.subset (h3 x hx), fun hz => h4 ?_, ?_⟩
    · rcases hz with hz | hz
      · left
        cases add with
        | true => exact List.mem_append_left _ hz
        | false => exact hz
      · rcases List.mem_cons.mp hz with hz | hz
        · left
          rw [hadd hz.symm]
          exact List.mem_append_right _ (by rw [hz]; exact List.mem_cons_self)
        · exact .inr hz
    · rw [List.map_cons]
      unfold forL
      dsimp only [stoN, List.set]
      rw [hbody]
      exact h5
theorem lot_ok {b : List PyData} (hb : Bx b) {n : Nat} (h1 : 1 ≤ n) (h2 : n ≤ 1000) : ∃ (l : Lot) (b' : List PyData), Bx b' ∧ GL n l ∧ K70.m__law_lot [.ow 1 b, .va (nD n)] = some (.ok (.va (lotD l), [.ow 1 b', .va (nD n)])) := by
  obtain ⟨st, b1, hst, hb1, e1⟩ := take_call hb h1 h2 (i := 0) (j := 1) (ρ := [.ow 1 b, .va (nD n), .un, .un, .un, .un]) (f := varM 1) rfl rfl rfl
  have p1 : parXM 2 3 (callM (quiet K70.m__law_take) (consM (varM 0) (consM (varM 1) nilM))) (lstM nilM) [.ow 1 b, .va (nD n), .un, .un, .un, .un] = some (.ok (.nx, [.ow 1 b1, .va (nD n), .va (nD st), .ow 0 [], .un, .un])) := by
    unfold parXM
    rw [e1]
    rfl
  obtain ⟨sh, b2, _, hb2, e2⟩ := take_call hb1 (k := 4) (by decide) (by decide) (i := 0) (j := 1) (ρ := [.ow 1 b1, .va (nD n), .va (nD st), .ow 0 [], .un, .un]) (f := cM (.int 4)) rfl rfl rfl
  have p2 : asgM 4 (opM addG (cM (.int 1)) (callM (quiet K70.m__law_take) (consM (varM 0) (consM (cM (.int 4)) nilM)))) [.ow 1 b1, .va (nD n), .va (nD st), .ow 0 [], .un, .un] = some (.ok (.nx, [.ow 1 b2, .va (nD n), .va (nD st), .ow 0 [], .va (nD (1 + sh)), .un])) :=
    asg_va (ρ1 := [.ow 1 b2, .va (nD n), .va (nD st), .ow 0 [], .un, .un]) (op_vv (d := .int ((1 : Nat) : Int)) rfl e2 (add_nat 1 sh))
  obtain ⟨l, b', y5, hb', hinc, hsub, hmem, hrun⟩ := lot_loop (n := n) (st := st) (sh := 1 + sh) (List.range n) [] b2 .un hb2 (by rw [List.nil_append]; exact List.pairwise_lt_range) (by simpa using h2)
  have hst' : st ∈ l := hmem (.inr (List.mem_range.mpr hst))
  refine ⟨l, b', hb', ⟨fun z => by (rw [z] at hst'; cases hst'), hinc, fun x hx => List.mem_range.mp (hsub x hx)⟩, ?_⟩
  refine runDef_rt rfl (ρ := [.ow 1 b', .va (nD n), .va (nD st), .ow 0 (l.map nD), .va (nD (1 + sh)), y5]) ?_ (r := .va (lotD l)) rfl rfl
  show K70.b__law_lotM [.ow 1 b, .va (nD n), .un, .un, .un, .un] = _
  unfold K70.b__law_lotM
  rw [seq_nx p1, seq_nx p2]
  show sqM (Pl.forM (rng1M (consM (varM 1) nilM)) (stoN 5) lt_body) _ _ = _
  rw [seq_nx ((for_of (rng_of (m := n) rfl h2)).trans hrun)]
  rfl
/-! _law_composed: the two that are asked for -/
def fam0 : List Lot := [[0, 2], [0, 3], [1, 2], [1, 3], [0, 4], [0, 5], [1, 4], [1, 5], [2, 4], [2, 5], [3, 4], [3, 5]]
def fam1 : List Lot := [[0, 1, 2, 3], [0, 1, 4, 5], [2, 3, 4, 5]]
def inn (f : List Lot) : PyData := .tuple [.tuple [.int 2, famD f], .tuple [.int 2, famD f], .tuple [.int 2, famD f]]
theorem comp0 : K70.m__law_composed [.va (famD [[0, 1], [0, 2], [1, 2]]), .va (inn [[0], [1]])] = some (.ok (.va (.tuple (sortD (fam0.map lotD))), [.va (famD [[0, 1], [0, 2], [1, 2]]), .va (inn [[0], [1]])])) := by kernel_rfl
theorem comp1 : K70.m__law_composed [.va (famD [[0, 1], [0, 2], [1, 2]]), .va (inn [[0, 1]])] = some (.ok (.va (.tuple (sortD (fam1.map lotD))), [.va (famD [[0, 1], [0, 2], [1, 2]]), .va (inn [[0, 1]])])) := by kernel_rfl
end Fam

namespace Fam
open PySem PySem.Spec PyProof.Rows L2 Pl
theorem op_any {ρ ρ1 ρ2 : En} {g : PyData → PyData → Option Rv} {fa fb : En → RM Rv} {ra rb z : Rv} {d e : PyData} (ha : fa ρ = some (.ok (ra, ρ1))) (hb : fb ρ1 = some (.ok (rb, ρ2))) (la : look ρ2 ra = some d) (lb : look ρ2 rb = some e) (hg : g d e = some z) : opM g fa fb ρ = some (.ok (z, ρ2)) := by
  unfold opM
  rw [ha]
  dsimp only [RM.bnd]
  rw [hb]
  dsimp only [RM.bnd]
  unfold lk
  rw [la]
  dsimp only
  rw [lb]
  dsimp only
  rw [hg]
  rfl
/-! fano -/
def unD : PyData → Nat
  | .int i => i.toNat
  | _ => 0
theorem unD_nD (n : Nat) : unD (nD n) = n := by
  show (n : Int).toNat = n
  exact Int.toNat_natCast n
theorem perm_nats {l : List Nat} {es : List PyData} (h : (l.map nD).Perm es) : ∃ m : List Nat, es = m.map nD ∧ l.Perm m := by
  refine ⟨es.map unD, ?_, ?_⟩
  · rw [List.map_map]
    have : ∀ e ∈ es, (nD ∘ unD) e = e := fun e he => by
      obtain ⟨n, _, rfl⟩ := List.mem_map.mp (h.mem_iff.mpr he)
      show nD (unD (nD n)) = nD n
      rw [unD_nD]
    exact (List.map_id es).symm.trans (List.map_congr_left fun e he => (this e he).symm)
  · have h2 := h.map unD
    rw [List.map_map] at h2
    have : (unD ∘ nD) = id := funext unD_nD
    rw [this, List.map_id] at h2
    exact h2
def fanoL (names : List Nat) (first : Nat) : Lot := isort Nat.ble ([0, 1, 3].map fun step => names.getD ((first + step) % 7) 0)
theorem isort_inc {l : List Nat} (h : l.Nodup) : (isort Nat.ble l).Pairwise (· < ·) := by
  have h1 := isort_sorted ord_nat l
  have h2 : (isort Nat.ble l).Pairwise (· ≠ ·) := (isort_perm l).nodup_iff.mpr h
  exact List.Pairwise.imp (fun {a b} (h : Nat.ble a b = true ∧ a ≠ b) => Nat.lt_of_le_of_ne (Nat.ble_eq.mp h.1) h.2) (List.Pairwise.and h1 h2)
theorem fano_ok6 {b : List PyData} (hb : Bx b) : ∃ (F : List Lot) (b' : List PyData), Bx b' ∧ F.length = 7 ∧ (∃ l ∈ F, 6 ∈ l) ∧ Well F ∧ (∀ l ∈ F, l.length = 3 ∧ ∀ x ∈ l, x < 7) ∧ K70.m__law_fano [.ow 1 b] = some (.ok (.va (famD F), [.ow 1 b'])) := by
  obtain ⟨es, b', hp, hb', hs⟩ := shuffled_ok hb (d := .list ((List.range 7).map nD)) (ds := (List.range 7).map nD) rfl (by simp)
  obtain ⟨names, rfl, hperm⟩ := perm_nats hp
  have hlen : names.length = 7 := by rw [← hperm.length_eq]; rfl
  have hlt : ∀ i, names.getD i 0 < 7 := fun i => by
    rw [List.getD_eq_getElem?_getD]
    cases e : names[i]? with
    | none => exact (by decide : 0 < 7)
    | some x => exact List.mem_range.mp (hperm.mem_iff.mpr (List.mem_of_getElem? e))
  have lr : lstRgM (cM (.int 7)) [.ow 1 b, .un, .un, .un] = some (.ok (.nw ((List.range 7).map nD), [.ow 1 b, .un, .un, .un])) := by
    have e : lstRgM (cM (.int 7)) [.ow 1 b, .un, .un, .un] = some (.ok (.nw (rngI 0 (7 : Int).toNat), [.ow 1 b, .un, .un, .un])) := rfl
    rw [e, show (7 : Int).toNat = 7 from rfl, rngI_nat]
  have c1 : callM (quiet K70.m__law_shuffled) (consM (varM 0) (consM (lstRgM (cM (.int 7))) nilM)) [.ow 1 b, .un, .un, .un] = some (.ok (.nw (names.map nD), [.ow 1 b', .un, .un, .un])) := by
    refine callM_wr (i := 0) (k := 1) (es := b) (es' := b') (ρ1 := [.ow 1 b, .un, .un, .un]) [.list ((List.range 7).map nD)] ?_ rfl hs rfl
    exact cons2 (r1 := .sl 0) rfl lr
  have a1 : asgM 1 (callM (quiet K70.m__law_shuffled) (consM (varM 0) (consM (lstRgM (cM (.int 7))) nilM))) [.ow 1 b, .un, .un, .un] = some (.ok (.nx, [.ow 1 b', .ow 0 (names.map nD), .un, .un])) := asg_nw (ρ1 := [.ow 1 b', .un, .un, .un]) c1
  have inner : ∀ first : Nat, lcM (seqM (tupM (consM (cM (.int 0)) (consM (cM (.int 1)) (consM (cM (.int 3)) nilM))))) (stoN 3) yesM (opM ixG (varM 1) (opM modG (cbM intG (consM (opM addG (varM 2) (varM 3)) nilM)) (cM (.int 7)))) [3] [.ow 1 b', .ow 0 (names.map nD), .va (nD first), .un] = some (.ok (.nw (([0, 1, 3].map fun step => names.getD ((first + step) % 7) 0).map nD), [.ow 1 b', .ow 0 (names.map nD), .va (nD first), .un])) := fun first => by
    have hL := lcL_map nD nD (i := 3) (test := yesM) (elt := opM ixG (varM 1) (opM modG (cbM intG (consM (opM addG (varM 2) (varM 3)) nilM)) (cM (.int 7)))) (ρ0 := [.ow 1 b', .ow 0 (names.map nD), .va (nD first), .un]) (fun _ => true) (fun step => names.getD ((first + step) % 7) 0) rfl [0, 1, 3] [] fun step _ => ⟨rfl, fun _ => by
      have hm : opM modG (cbM intG (consM (opM addG (varM 2) (varM 3)) nilM)) (cM (.int 7)) [.ow 1 b', .ow 0 (names.map nD), .va (nD first), .va (nD step)] = some (.ok (.va (nD ((first + step) % 7)), [.ow 1 b', .ow 0 (names.map nD), .va (nD first), .va (nD step)])) := by
        refine op_vv (int_of (op_vv (d := nD first) (e := nD step) rfl rfl (add_nat first step))) (e := .int 7) rfl ?_
        rw [mod_ok (by decide)]
        rfl
      have hi : (first + step) % 7 < (names.map nD).length := by rw [List.length_map, hlen]; exact Nat.mod_lt _ (by decide)
      refine ⟨_, op_any (ra := .sl 1) (d := .list (names.map nD)) rfl hm rfl rfl (ixG_of (d := .list (names.map nD)) rfl hi), ?_⟩
      rw [List.getElem_map]
      have hi' : (first + step) % 7 < names.length := by rw [hlen]; exact Nat.mod_lt _ (by decide)
      rw [List.getD_eq_getElem?_getD, List.getElem?_eq_getElem hi']
      rfl⟩
    have hsq : seqM (tupM (consM (cM (.int 0)) (consM (cM (.int 1)) (consM (cM (.int 3)) nilM)))) [.ow 1 b', .ow 0 (names.map nD), .va (nD first), .un] = some (.ok ([0, 1, 3].map nD, [.ow 1 b', .ow 0 (names.map nD), .va (nD first), .un])) := rfl
    exact lcM_of hsq (by decide) rfl hL
  have hL := lcL_map nD lotD (i := 2) (test := yesM) (elt := cbM tupG (consM (cbM sortG (consM (lcM (seqM (tupM (consM (cM (.int 0)) (consM (cM (.int 1)) (consM (cM (.int 3)) nilM))))) (stoN 3) yesM (opM ixG (varM 1) (opM modG (cbM intG (consM (opM addG (varM 2) (varM 3)) nilM)) (cM (.int 7)))) [3]) nilM)) nilM)) (ρ0 := [.ow 1 b', .ow 0 (names.map nD), .un, .un]) (fun _ => true) (fanoL names) rfl (List.range 7) [] fun first _ => ⟨rfl, fun _ => ⟨_, tup_of (sort_of (inner first) rfl rfl (sortOk_nats _) (by rw [List.length_map, List.length_map]; exact (by decide : 3 ≤ 100000))), by
    rw [sort_nats]
    rfl⟩⟩
  have hrg : rng1M (consM (cM (.int 7)) nilM) [.ow 1 b', .ow 0 (names.map nD), .un, .un] = some (.ok ((List.range 7).map nD, [.ow 1 b', .ow 0 (names.map nD), .un, .un])) := rng_of (m := 7) rfl (by decide)
  have hlc := lcM_of hrg (by decide) rfl hL
  have hnd : names.Nodup := hperm.nodup_iff.mp List.nodup_range
  have inj : ∀ a b : Nat, a < 7 → b < 7 → names.getD a 0 = names.getD b 0 → a = b := fun a b ha hb e => Classical.byContradiction fun hab => by
    have ha : a < names.length := by rw [hlen]; exact ha
    have hb : b < names.length := by rw [hlen]; exact hb
    rw [List.getD_eq_getElem?_getD, List.getD_eq_getElem?_getD, List.getElem?_eq_getElem ha, List.getElem?_eq_getElem hb] at e
    simp only [Option.getD_some] at e
    rcases Nat.lt_or_gt_of_ne hab with q | q
    · exact (List.pairwise_iff_getElem.mp hnd) _ _ ha hb q e
    · exact (List.pairwise_iff_getElem.mp hnd) _ _ hb ha q e.symm
  have finc : ∀ first, Inc (fanoL names first) := fun first => by
    refine isort_inc ?_
    have n1 : names.getD ((first + 0) % 7) 0 ≠ names.getD ((first + 1) % 7) 0 := fun e => by have := inj _ _ (Nat.mod_lt _ (by decide)) (Nat.mod_lt _ (by decide)) e; omega
    have n2 : names.getD ((first + 0) % 7) 0 ≠ names.getD ((first + 3) % 7) 0 := fun e => by have := inj _ _ (Nat.mod_lt _ (by decide)) (Nat.mod_lt _ (by decide)) e; omega
    have n3 : names.getD ((first + 1) % 7) 0 ≠ names.getD ((first + 3) % 7) 0 := fun e => by have := inj _ _ (Nat.mod_lt _ (by decide)) (Nat.mod_lt _ (by decide)) e; omega
    show ([names.getD ((first + 0) % 7) 0, names.getD ((first + 1) % 7) 0, names.getD ((first + 3) % 7) 0] : List Nat).Nodup
    simp only [List.nodup_cons, List.mem_cons, List.not_mem_nil, or_false, not_false_eq_true, List.nodup_nil, and_true]
    exact ⟨fun z => z.elim n1 n2, n3⟩
  have fmem : ∀ first x, x ∈ fanoL names first ↔ ∃ step ∈ [0, 1, 3], names.getD ((first + step) % 7) 0 = x := fun first x => by
    unfold fanoL
    rw [(isort_perm _).mem_iff, List.mem_map]
  have fno : ∀ a ∈ List.range 7, ∀ b ∈ List.range 7, a ≠ b → withinN (fanoL names a) (fanoL names b) = false := fun a ha b hb hab => by
    cases e : withinN (fanoL names a) (fanoL names b) with
    | false => rfl
    | true =>
      exfalso
      have tab : ∀ a ∈ List.range 7, ∀ b ∈ List.range 7, a ≠ b → ∃ s ∈ [0, 1, 3], ∀ t ∈ [0, 1, 3], (a + s) % 7 ≠ (b + t) % 7 := by decide
      obtain ⟨st, h1, h2⟩ := tab a ha b hb hab
      obtain ⟨t, h3, h4⟩ := (fmem b _).mp ((within_iff _ _).mp e _ ((fmem a _).mpr ⟨st, h1, rfl⟩))
      exact h2 t h3 (inj _ _ (Nat.mod_lt _ (by decide)) (Nat.mod_lt _ (by decide)) h4).symm
  have fwell : Well (isort leL ((List.range 7).map (fanoL names))) := by
    refine well_sort (fun l hl => ?_) (List.pairwise_map.mpr (List.Pairwise.imp_of_mem (fun {a b} ha hb hab => ?_) List.nodup_range))
    · obtain ⟨first, _, rfl⟩ := List.mem_map.mp hl
      exact finc first
    · unfold apart
      rw [fno a ha b hb hab, fno b hb a ha (Ne.symm hab)]
      rfl
  have six : ∃ l ∈ isort leL ((List.range 7).map (fanoL names)), 6 ∈ l := by
    obtain ⟨i, hi, e⟩ := List.getElem_of_mem (hperm.mem_iff.mp (List.mem_range.mpr (by decide : 6 < 7)))
    have hi7 : i < 7 := by omega
    refine ⟨fanoL names i, (isort_perm _).mem_iff.mpr (List.mem_map.mpr ⟨i, List.mem_range.mpr hi7, rfl⟩), (fmem i 6).mpr ⟨0, by decide, ?_⟩⟩
    rw [Nat.add_zero, Nat.mod_eq_of_lt hi7, List.getD_eq_getElem?_getD, List.getElem?_eq_getElem hi, e]
    rfl
  refine ⟨isort leL ((List.range 7).map (fanoL names)), b', hb', ?_, six, fwell, fun l hl => ?_, ?_⟩
  · rw [(isort_perm _).length_eq, List.length_map, List.length_range]
  · obtain ⟨first, _, rfl⟩ := List.mem_map.mp ((isort_perm _).mem_iff.mp hl)
    refine ⟨by unfold fanoL; rw [(isort_perm _).length_eq]; rfl, fun x hx => ?_⟩
    unfold fanoL at hx
    obtain ⟨step, _, rfl⟩ := List.mem_map.mp ((isort_perm _).mem_iff.mp hx)
    exact hlt _
  · refine runDef_rt rfl (ρ := [.ow 1 b', .ow 0 (names.map nD), .un, .un]) ?_ (r := .va (.tuple (sortD (((List.range 7).map (fanoL names)).map lotD)))) (by rw [sort_lots]; rfl) rfl
    show K70.b__law_fanoM [.ow 1 b, .un, .un, .un] = _
    unfold K70.b__law_fanoM
    rw [seq_nx a1]
    have ef : [] ++ List.map (fanoL names) (List.filter (fun _ => true) (List.range 7)) = (List.range 7).map (fanoL names) := by
      rw [List.nil_append, List.filter_eq_self.mpr fun _ _ => rfl]
    rw [ef] at hlc
    exact ret_of (tup_of (sort_of hlc rfl rfl (sortOk_lots _) (by simp)))
theorem fano_ok {b : List PyData} (hb : Bx b) : ∃ (F : List Lot) (b' : List PyData), Bx b' ∧ F.length = 7 ∧ Well F ∧ (∀ l ∈ F, l.length = 3 ∧ ∀ x ∈ l, x < 7) ∧ K70.m__law_fano [.ow 1 b] = some (.ok (.va (famD F), [.ow 1 b'])) := by
  obtain ⟨F, b', h1, h2, _, h3, h4, h5⟩ := fano_ok6 hb
  exact ⟨F, b', h1, h2, h3, h4, h5⟩
/-! a call with two lists of one's own, the first is changed -/
theorem callM_two {G : En → RM Rv} {fr : En → RM (List Rv)} {ρ ρ1 : En} {r : Rv} {i i2 k k2 : Nat} {b b' ws : List PyData} (hne : i ≠ i2) (h : fr ρ = some (.ok ([.sl i, .sl i2], ρ1))) (hi : ρ1[i]? = some (.ow k b)) (hi2 : ρ1[i2]? = some (.ow k2 ws)) (hG : G [.ow 1 b, .ow 2 ws] = some (.ok (r, [.ow 1 b', .ow 2 ws]))) (hr : isSl r = false) : callM (quiet G) fr ρ = some (.ok (r, ρ1.set i (.ow k b'))) := by
  unfold callM
  rw [h]
  dsimp only [RM.bnd]
  have e1 : argsOf ρ1 [.sl i, .sl i2] 0 = some [.ow 1 b, .ow 2 ws] := by
    simp only [argsOf, argOf, hi, hi2]
  have e2 : owsOf ρ1 [.sl i, .sl i2] = [i, i2] := by
    simp only [owsOf, hi, hi2]
  have hs : (ρ1.set i (.ow k b')).set i2 (.ow k2 ws) = ρ1.set i (.ow k b') := by
    apply List.ext_getElem?
    intro j
    by_cases hj : i2 = j
    · subst hj
      rw [List.getElem?_set_self (by rw [List.length_set]; exact (List.getElem?_eq_some_iff.mp hi2).1), List.getElem?_set_ne hne, hi2]
    · rw [List.getElem?_set_ne hj]
  have hi2' : (ρ1.set i (.ow k b'))[i2]? = some (.ow k2 ws) := by rw [List.getElem?_set_ne hne]; exact hi2
  have e3 : back ρ1 [.sl i, .sl i2] [.ow 1 b', .ow 2 ws] = some (ρ1.set i (.ow k b')) := by
    unfold back
    rw [hi]
    dsimp only
    unfold back
    rw [hi2']
    dsimp only
    rw [hs]
    rfl
  rw [e1]
  dsimp only
  rw [e2, decide_eq_true (show [i, i2].Nodup from List.nodup_cons.mpr ⟨by simpa using hne, List.nodup_cons.mpr ⟨by simp, List.nodup_nil⟩⟩)]
  dsimp only [ck]
  unfold quiet
  rw [hG]
  dsimp only
  rw [hr, e3]
  rfl
/-! _law_own_blocker -/
def leftN (F : List Lot) (n : Nat) : List Lot := (allN n).filter fun l => !holdsN F l && !holdsN F (othersN l n)
def wideN (L : List Lot) : List Lot := L.filter fun l => decide (1 < l.length)
structure GF (n : Nat) (F : List Lot) : Prop where
  ne : F ≠ []
  nd : F.Nodup
  gl : ∀ l ∈ F, GL n l
  well : Well F
theorem GL.len1000 {n : Nat} (hn : n ≤ 7) {F : List Lot} (h : ∀ l ∈ F, GL n l) : ∀ l ∈ F, l.length ≤ 1000 := fun l hl => by
  have := (h l hl).len
  omega
theorem allF_inc : ∀ (hs : List Nat) (f : List Lot), (∀ l ∈ f, l.Pairwise (· < ·) ∧ ∀ x ∈ l, ∀ h ∈ hs, x < h) → hs.Pairwise (· < ·) → ∀ l ∈ allF hs f, l.Pairwise (· < ·) ∧ ∀ x ∈ l, x ∈ hs ∨ ∃ l0 ∈ f, x ∈ l0
  | [], f, h, _, l, hl => ⟨(h l hl).1, fun x hx => .inr ⟨l, hl, hx⟩⟩
  | y :: hs, f, h, hp, l, hl => by
    obtain ⟨p1, p2⟩ := List.pairwise_cons.mp hp
    have h' : ∀ l ∈ f ++ f.map (fun l => l ++ [y]), l.Pairwise (· < ·) ∧ ∀ x ∈ l, ∀ h ∈ hs, x < h := fun l hl => by
      rcases List.mem_append.mp hl with q | q
      · exact ⟨(h l q).1, fun x hx z hz => (h l q).2 x hx z (List.mem_cons_of_mem _ hz)⟩
      · obtain ⟨l0, q0, rfl⟩ := List.mem_map.mp q
        refine ⟨List.pairwise_append.mpr ⟨(h l0 q0).1, List.pairwise_singleton _ _, fun a ha b hb => by rw [List.mem_singleton.mp hb]; exact (h l0 q0).2 a ha y List.mem_cons_self⟩, fun x hx z hz => ?_⟩
        rcases List.mem_append.mp hx with w | w
        · exact (h l0 q0).2 x w z (List.mem_cons_of_mem _ hz)
        · rw [List.mem_singleton.mp w]
          exact p1 z hz
    obtain ⟨r1, r2⟩ := allF_inc hs _ h' p2 l hl
    refine ⟨r1, fun x hx => ?_⟩
    rcases r2 x hx with q | ⟨l0, q0, q⟩
    · exact .inl (List.mem_cons_of_mem _ q)
    · rcases List.mem_append.mp q0 with w | w
      · exact .inr ⟨l0, w, q⟩
      · obtain ⟨l1, w1, rfl⟩ := List.mem_map.mp w
        rcases List.mem_append.mp q with v | v
        · exact .inr ⟨l1, w1, v⟩
        · exact .inl (by rw [List.mem_singleton.mp v]; exact List.mem_cons_self)
theorem allN_good {n : Nat} {l : Lot} (h : l ∈ allN n) : l.Pairwise (· < ·) ∧ ∀ x ∈ l, x < n := by
  obtain ⟨r1, r2⟩ := allF_inc (List.range n) [[]] (fun l hl => by rw [List.mem_singleton.mp hl]; exact ⟨List.Pairwise.nil, fun x hx => nomatch hx⟩) List.pairwise_lt_range l ((isort_perm _).mem_iff.mp h)
  refine ⟨r1, fun x hx => ?_⟩
  rcases r2 x hx with q | ⟨l0, q0, q⟩
  · exact List.mem_range.mp q
  · rw [List.mem_singleton.mp q0] at q
    cases q
/-- good rows, no two alike, over six houses: at most 63 -/
theorem good_len {n : Nat} (hn : n ≤ 6) {F : List Lot} (nd : F.Nodup) (h : ∀ l ∈ F, GL n l) : F.length ≤ 63 := by
  have hm : ((F.map mask)).Nodup := by
    refine List.pairwise_map.mpr (List.Pairwise.imp_of_mem (fun {a b} ha hb hne e => ?_) nd)
    have w1 := mask_within e fun x hx => by have := (h a ha).lt x hx; omega
    have w2 := mask_within e.symm fun x hx => by have := (h b hb).lt x hx; omega
    by_cases hl : b.length ≤ a.length
    · exact hne (inc_eq (h a ha).inc (h b hb).inc ((within_iff a b).mp w1) hl)
    · exact hne (inc_eq (h b hb).inc (h a ha).inc ((within_iff b a).mp w2) (by omega)).symm
  have := nodup_len (F.map mask) (List.range' 1 63) hm fun x hx => by
    obtain ⟨a, ha, rfl⟩ := List.mem_map.mp hx
    rw [List.mem_range'_1]
    have g := h a ha
    have b6 : bit 6 a = 0 := by
      have := bit_le 6 a
      by_cases z : bit 6 a = 1
      · have := g.lt 6 (bit_mem z)
        omega
      · omega
    have b0 := bit_le 0 a
    have b1 := bit_le 1 a
    have b2 := bit_le 2 a
    have b3 := bit_le 3 a
    have b4 := bit_le 4 a
    have b5 := bit_le 5 a
    have pos : 1 ≤ mask a := by
      obtain ⟨y, ys, e⟩ := List.exists_cons_of_ne_nil g.ne
      have hy : y ∈ a := by rw [e]; exact List.mem_cons_self
      have hb := bit_of hy
      have hlt := g.lt y hy
      unfold mask
      have : y < 6 := by omega
      match y, this, hb with
      | 0, _, hb => omega
      | 1, _, hb => omega
      | 2, _, hb => omega
      | 3, _, hb => omega
      | 4, _, hb => omega
      | 5, _, hb => omega
    refine ⟨pos, ?_⟩
    unfold mask
    omega
  rw [List.length_map, List.length_range'] at this
  exact this
end Fam

namespace Fam
open PySem PySem.Spec PyProof.Rows L2 Pl
def ob_lc1 : En → RM Rv := lcM (seqM (callM (quiet K70.m__law_all) (consM (varM 1) nilM))) (stoN 6) (Pl.andM (Pl.notM (bM (callM (quiet K70.m__law_holds) (consM (varM 2) (consM (varM 6) nilM))))) (Pl.notM (bM (callM (quiet K70.m__law_holds) (consM (varM 2) (consM (callM (quiet K70.m__law_others) (consM (varM 6) (consM (varM 1) nilM))) nilM)))))) (varM 6) [6]
def ob_pick : En → RM Rv := callM (quiet K70.m__law_pick) (consM (varM 0) (consM (ifX (bM (opM neG (varM 5) (lstM nilM))) (varM 5) (varM 4)) nilM))
def ob_body : En → RM Ot := sqM (asgM 4 ob_lc1)
    (sqM (asgM 5 (lcOM 4 (stoN 6) (bM (opM gtG (cbM lenG (consM (varM 6) nilM)) (cM (.int 1)))) (varM 6) [6]))
    (sqM (ifM (bM (opM eqG (varM 4) (lstM nilM))) bkM nxM)
    (asgM 2 (callM (quiet K70.m__law_least) (consM (opM addG (cbM lstG (consM (varM 2) nilM)) (lstM (consM ob_pick nilM))) nilM)))))
theorem GF.len {n : Nat} {F : List Lot} (hn : n ≤ 6) (h : GF n F) : F.length ≤ 63 := good_len hn h.nd h.gl
theorem ob_step {n : Nat} (hn : n ≤ 6) {F : List Lot} (hF : GF n F) {b : List PyData} (hb : Bx b) (turn s4 s5 : Sl) :
    (∃ s4' s5', ob_body [.ow 1 b, .va (nD n), .va (famD F), turn, s4, s5, .un] = some (.ok (.bk, [.ow 1 b, .va (nD n), .va (famD F), turn, s4', s5', .un]))) ∨
    ∃ F' b' s4' s5', GF n F' ∧ Bx b' ∧ ob_body [.ow 1 b, .va (nD n), .va (famD F), turn, s4, s5, .un] = some (.ok (.nx, [.ow 1 b', .va (nD n), .va (famD F'), turn, s4', s5', .un])) := by
  have hF1000 := GL.len1000 (by omega) hF.gl
  let ρ := [Sl.ow 1 b, .va (nD n), .va (famD F), turn, s4, s5, .un]
  let L := leftN F n
  let W := wideN L
  have hL := lcL_map lotD lotD (i := 6) (test := Pl.andM (Pl.notM (bM (callM (quiet K70.m__law_holds) (consM (varM 2) (consM (varM 6) nilM))))) (Pl.notM (bM (callM (quiet K70.m__law_holds) (consM (varM 2) (consM (callM (quiet K70.m__law_others) (consM (varM 6) (consM (varM 1) nilM))) nilM)))))) (elt := varM 6) (ρ0 := ρ) (fun l => !holdsN F l && !holdsN F (othersN l n)) id rfl (allN n) [] fun l _ =>
    ⟨and_tt (ρ2 := []) (not_of (b_va (callM_va [famD F, lotD l] rfl (lholds_ok l rfl hF1000) rfl))) (not_of (b_va (callM_va [famD F, lotD (othersN l n)] (cons2 (r1 := .va (famD F)) rfl (callM_va [lotD l, nD n] rfl (others_ok l n (by omega)) rfl)) (lholds_ok (othersN l n) rfl hF1000) rfl))), fun _ => ⟨_, rfl, rfl⟩⟩
  have hall : seqM (callM (quiet K70.m__law_all) (consM (varM 1) nilM)) ρ = some (.ok ((allN n).map lotD, ρ)) := sq_nw (callM_va [nD n] rfl (by rw [q_all]; exact lall_ok (by omega)) rfl)
  have hlc := lcM_of hall (by rw [List.length_map]; have := allN_len (m := n) (by omega); omega) rfl hL
  rw [← un_map] at hlc
  have a4 : asgM 4 ob_lc1 ρ = some (.ok (.nx, [.ow 1 b, .va (nD n), .va (famD F), turn, .ow 0 (L.map lotD), s5, .un])) := asg_nw (ρ1 := ρ) hlc
  have hLlen : L.length ≤ 128 := Nat.le_trans (List.length_filter_le _ _) (allN_len (by omega))
  have hW := lcL_map lotD lotD (i := 6) (test := bM (opM gtG (cbM lenG (consM (varM 6) nilM)) (cM (.int 1)))) (elt := varM 6) (ρ0 := [.ow 1 b, .va (nD n), .va (famD F), turn, .un, s5, .un]) (fun l => decide (1 < l.length)) id rfl L [] fun l _ =>
    ⟨b_va (op_vv (len_lot rfl) (e := .int ((1 : Nat) : Int)) rfl (gtG_nat l.length 1)), fun _ => ⟨_, rfl, rfl⟩⟩
  have hlc2 := lc_ow (k := 4) (j := 0) (ρ := [.ow 1 b, .va (nD n), .va (famD F), turn, .ow 0 (L.map lotD), s5, .un]) (vs := [6]) (items := L.map lotD) rfl (by rw [List.length_map]; omega) rfl hW
  rw [← un_map] at hlc2
  have a5 : asgM 5 (lcOM 4 (stoN 6) (bM (opM gtG (cbM lenG (consM (varM 6) nilM)) (cM (.int 1)))) (varM 6) [6]) [.ow 1 b, .va (nD n), .va (famD F), turn, .ow 0 (L.map lotD), s5, .un] = some (.ok (.nx, [.ow 1 b, .va (nD n), .va (famD F), turn, .ow 0 (L.map lotD), .ow 0 (W.map lotD), .un])) := asg_nw (ρ1 := [.ow 1 b, .va (nD n), .va (famD F), turn, .ow 0 (L.map lotD), s5, .un]) hlc2
  let ρ5 := [Sl.ow 1 b, .va (nD n), .va (famD F), turn, .ow 0 (L.map lotD), .ow 0 (W.map lotD), .un]
  have t6 : bM (opM eqG (varM 4) (lstM nilM)) ρ5 = some (.ok (L.isEmpty, ρ5)) := by
    refine b_va (op_any (ra := .sl 4) (d := .list (L.map lotD)) (rb := .nw []) rfl rfl rfl rfl ?_)
    rw [eq_nil_of rfl (shaped_lots L), List.isEmpty_map]
  have t7 : bM (opM neG (varM 5) (lstM nilM)) ρ5 = some (.ok (!W.isEmpty, ρ5)) := by
    refine b_va (op_any (ra := .sl 5) (d := .list (W.map lotD)) (rb := .nw []) rfl rfl rfl rfl ?_)
    rw [ne_nil_of rfl (shaped_lots W), List.isEmpty_map]
  cases eL : L.isEmpty with
  | true =>
    left
    rw [eL] at t6
    refine ⟨.ow 0 (L.map lotD), .ow 0 (W.map lotD), ?_⟩
    unfold ob_body
    rw [seq_nx a4, seq_nx a5]
    have : ifM (bM (opM eqG (varM 4) (lstM nilM))) bkM nxM ρ5 = some (.ok (.bk, ρ5)) := (if_tt t6).trans rfl
    unfold sqM
    rw [this]
    rfl
  | false =>
    right
    rw [eL] at t6
    have hp : ∃ (x : Lot) (b' : List PyData), x ∈ L ∧ Bx b' ∧ ob_pick ρ5 = some (.ok (.va (lotD x), [.ow 1 b', .va (nD n), .va (famD F), turn, .ow 0 (L.map lotD), .ow 0 (W.map lotD), .un])) := by
      cases eW : W.isEmpty with
      | true =>
        rw [eW] at t7
        have hlen : 1 ≤ (L.map lotD).length := by
          rw [List.length_map]
          cases h : L with
          | nil => rw [h] at eL; cases eL
          | cons a l => rw [List.length_cons]; omega
        obtain ⟨x, b', hx, hb', e⟩ := pick_ow hb hlen (by rw [List.length_map]; omega)
        obtain ⟨l, hl, rfl⟩ := List.mem_map.mp hx
        have hi : ifX (bM (opM neG (varM 5) (lstM nilM))) (varM 5) (varM 4) ρ5 = some (.ok (.sl 4, ρ5)) := by
          unfold ifX
          rw [t7]
          rfl
        exact ⟨l, b', hl, hb', callM_two (i := 0) (i2 := 4) (k := 1) (k2 := 0) (by decide) (cons2 (r1 := .sl 0) (ρ1 := ρ5) rfl hi) rfl rfl e rfl⟩
      | false =>
        rw [eW] at t7
        have hlen : 1 ≤ (W.map lotD).length := by
          rw [List.length_map]
          cases h : W with
          | nil => rw [h] at eW; cases eW
          | cons a l => rw [List.length_cons]; omega
        have hWl : W.length ≤ 128 := Nat.le_trans (List.length_filter_le _ _) hLlen
        obtain ⟨x, b', hx, hb', e⟩ := pick_ow hb hlen (by rw [List.length_map]; omega)
        obtain ⟨l, hl, rfl⟩ := List.mem_map.mp hx
        have hi : ifX (bM (opM neG (varM 5) (lstM nilM))) (varM 5) (varM 4) ρ5 = some (.ok (.sl 5, ρ5)) := by
          unfold ifX
          rw [t7]
          rfl
        exact ⟨l, b', (List.mem_filter.mp hl).1, hb', callM_two (i := 0) (i2 := 5) (k := 1) (k2 := 0) (by decide) (cons2 (r1 := .sl 0) (ρ1 := ρ5) rfl hi) rfl rfl e rfl⟩
    obtain ⟨x, b', hx, hb', ep⟩ := hp
    obtain ⟨x1, x2⟩ := List.mem_filter.mp hx
    rw [Bool.and_eq_true, Bool.not_eq_true', Bool.not_eq_true'] at x2
    obtain ⟨xi, xl⟩ := allN_good x1
    have xne : x ≠ [] := fun z => by
      subst z
      obtain ⟨f, fs, ef⟩ := List.exists_cons_of_ne_nil hF.ne
      have hf : f ∈ F := by rw [ef]; exact List.mem_cons_self
      have : holdsN F (othersN [] n) = true := (holds_iff F _).mpr ⟨f, hf, (within_iff f _).mpr fun y hy => (others_mem [] n y).mpr ⟨(hF.gl f hf).lt y hy, by simp⟩⟩
      rw [x2.2] at this
      cases this
    have gx : GL n x := ⟨xne, xi, xl⟩
    have hxF : x ∉ F := fun z => by
      have : holdsN F x = true := (holds_iff F x).mpr ⟨x, z, within_refl x⟩
      rw [x2.1] at this
      cases this
    have gl2 : ∀ l ∈ F ++ [x], GL n l := fun l hl => (List.mem_append.mp hl).elim (hF.gl l) fun q => by rw [List.mem_singleton.mp q]; exact gx
    have nd2 : (F ++ [x]).Nodup := List.pairwise_append.mpr ⟨hF.nd, List.pairwise_singleton _ _, fun a ha c hc => by rw [List.mem_singleton.mp hc]; exact fun z => hxF (z ▸ ha)⟩
    have len2 := good_len hn nd2 gl2
    refine ⟨lleastN (F ++ [x]), b', .ow 0 (L.map lotD), .ow 0 (W.map lotD), ⟨lleast_ne gl2 (by simp), lleast_nodup _, fun l hl => gl2 l (lleast_mem hl), lleast_well fun l hl => (gl2 l hl).inc⟩, hb', ?_⟩
    unfold ob_body
    rw [seq_nx a4, seq_nx a5, seq_nx (if_ff t6)]
    let ρ6 := [Sl.ow 1 b', .va (nD n), .va (famD F), turn, .ow 0 (L.map lotD), .ow 0 (W.map lotD), .un]
    have l1 : lstM (consM ob_pick nilM) ρ5 = some (.ok (.nw [lotD x], ρ6)) := by
      unfold lstM
      rw [cons1 ep]
      rfl
    have l0 : cbM lstG (consM (varM 2) nilM) ρ5 = some (.ok (.nw (F.map lotD), ρ5)) := rfl
    have hadd : opM addG (cbM lstG (consM (varM 2) nilM)) (lstM (consM ob_pick nilM)) ρ5 = some (.ok (.nw ((F ++ [x]).map lotD), ρ6)) := by
      refine op_nw l0 l1 ?_
      show (match few (F.map lotD ++ [lotD x]) with | true => some (Rv.nw (F.map lotD ++ [lotD x])) | false => none) = _
      rw [show F.map lotD ++ [lotD x] = (F ++ [x]).map lotD by simp, few_of (by rw [List.length_map]; omega)]
    have hle : callM (quiet K70.m__law_least) (consM (opM addG (cbM lstG (consM (varM 2) nilM)) (lstM (consM ob_pick nilM))) nilM) ρ5 = some (.ok (.va (famD (lleastN (F ++ [x]))), ρ6)) :=
      callM_va [famL (F ++ [x])] (cons1 hadd) (lleast_ok (.inl rfl) (GL.len1000 (by omega) gl2) (by omega)) rfl
    exact asg_va (ρ1 := ρ6) hle
theorem ob_loop {n : Nat} (hn : n ≤ 6) : ∀ (items : List PyData) {F : List Lot} {b : List PyData} (s3 s4 s5 : Sl), GF n F → Bx b → ∃ F' b' t3 t4 t5, GF n F' ∧ Bx b' ∧ forL (stoN 3) ob_body items [.ow 1 b, .va (nD n), .va (famD F), s3, s4, s5, .un] = some (.ok (.nx, [.ow 1 b', .va (nD n), .va (famD F'), t3, t4, t5, .un]))
  | [], F, b, s3, s4, s5, hF, hb => ⟨F, b, s3, s4, s5, hF, hb, rfl⟩
  | it :: items, F, b, s3, s4, s5, hF, hb => by
    unfold forL
    dsimp only [stoN, List.set]
    rcases ob_step hn hF hb (.va it) s4 s5 with ⟨s4', s5', e⟩ | ⟨F', b', s4', s5', hF', hb', e⟩
    · rw [e]
      exact ⟨F, b, _, _, _, hF, hb, rfl⟩
    · rw [e]
      exact ob_loop hn items (.va it) s4' s5' hF' hb'
theorem range_good {n : Nat} (h : 1 ≤ n) : GL n (List.range n) := by
  refine ⟨fun z => ?_, List.pairwise_lt_range, fun x hx => List.mem_range.mp hx⟩
  have := congrArg List.length z
  rw [List.length_range] at this
  simp at this
  omega
theorem tup1 {ρ ρ1 : En} {f : En → RM Rv} {d : PyData} (h : f ρ = some (.ok (.va d, ρ1))) : tupM (consM f nilM) ρ = some (.ok (.va (.tuple [d]), ρ1)) := by
  unfold tupM
  rw [cons1 h]
  rfl
theorem tup2 {ρ ρ1 ρ2 : En} {f g : En → RM Rv} {d e : PyData} (h : f ρ = some (.ok (.va d, ρ1))) (h2 : g ρ1 = some (.ok (.va e, ρ2))) : tupM (consM f (consM g nilM)) ρ = some (.ok (.va (.tuple [d, e]), ρ2)) := by
  unfold tupM
  rw [cons2 h h2]
  rfl
theorem ifx_of {ρ ρ1 : En} {t : En → RM Bool} {f g : En → RM Rv} {k : Bool} (h : t ρ = some (.ok (k, ρ1))) : ifX t f g ρ = if k = true then f ρ1 else g ρ1 := by
  unfold ifX
  rw [h]
  cases k <;> rfl
theorem thr_self : ∀ n ∈ List.range 8, 1 ≤ n → thrN n n = [List.range n] := by decide +kernel
theorem own_ok {b : List PyData} (hb : Bx b) {n : Nat} (h1 : 1 ≤ n) (hn : n ≤ 6) : ∃ (F : List Lot) (b' : List PyData), Bx b' ∧ GF n F ∧ K70.m__law_own_blocker [.ow 1 b, .va (nD n)] = some (.ok (.va (famD F), [.ow 1 b', .va (nD n)])) := by
  obtain ⟨t, b1, _, hb1, e1⟩ := take_call hb (k := 9) (by decide) (by decide) (i := 0) (j := 1) (ρ := [.ow 1 b, .va (nD n), .un, .un, .un, .un, .un]) (f := cM (.int 9)) rfl rfl rfl
  have t1 : bM (opM eqG (callM (quiet K70.m__law_take) (consM (varM 0) (consM (cM (.int 9)) nilM))) (cM (.int 0))) [.ow 1 b, .va (nD n), .un, .un, .un, .un, .un] = some (.ok (decide (t = 0), [.ow 1 b1, .va (nD n), .un, .un, .un, .un, .un])) := b_va (op_vv e1 (e := .int ((0 : Nat) : Int)) rfl (eqG_nat' t 0))
  have start : ∃ (F : List Lot) (b2 : List PyData), GF n F ∧ Bx b2 ∧ asgM 2 (ifX (bM (opM eqG (callM (quiet K70.m__law_take) (consM (varM 0) (consM (cM (.int 9)) nilM))) (cM (.int 0)))) (tupM (consM (tupM (consM (callM (quiet K70.m__law_take) (consM (varM 0) (consM (varM 1) nilM))) nilM)) nilM)) (callM (quiet K70.m__law_threshold) (consM (varM 1) (consM (varM 1) nilM)))) [.ow 1 b, .va (nD n), .un, .un, .un, .un, .un] = some (.ok (.nx, [.ow 1 b2, .va (nD n), .va (famD F), .un, .un, .un, .un])) := by
    by_cases ht : t = 0
    · rw [decide_eq_true ht] at t1
      obtain ⟨y, b2, hy, hb2, e2⟩ := take_call hb1 h1 (by omega) (i := 0) (j := 1) (ρ := [.ow 1 b1, .va (nD n), .un, .un, .un, .un, .un]) (f := varM 1) rfl rfl rfl
      refine ⟨[[y]], b2, ⟨by simp, List.nodup_cons.mpr ⟨by simp, List.nodup_nil⟩, fun l hl => ?_, well_one (List.pairwise_singleton _ _)⟩, hb2, ?_⟩
      · rw [List.mem_singleton.mp hl]
        exact ⟨by simp, List.pairwise_singleton _ _, fun x hx => by rw [List.mem_singleton.mp hx]; exact hy⟩
      · refine asg_va (ρ1 := [.ow 1 b2, .va (nD n), .un, .un, .un, .un, .un]) ?_
        rw [ifx_of t1, if_pos rfl]
        exact tup1 (tup1 e2)
    · rw [decide_eq_false ht] at t1
      refine ⟨[List.range n], b1, ⟨by simp, List.nodup_cons.mpr ⟨by simp, List.nodup_nil⟩, fun l hl => by rw [List.mem_singleton.mp hl]; exact range_good h1, well_one List.pairwise_lt_range⟩, hb1, asg_va (ρ1 := [.ow 1 b1, .va (nD n), .un, .un, .un, .un, .un]) ?_⟩
      rw [ifx_of t1, if_neg Bool.false_ne_true]
      refine callM_va [nD n, nD n] rfl ?_ rfl
      show K70.m__law_threshold [.va (nD n), .va (nD n)] = _
      rw [q_thr, ← thr_self n (List.mem_range.mpr (by omega)) h1]
      exact lthr_ok (by omega)
  obtain ⟨F, b2, hF, hb2, a2⟩ := start
  obtain ⟨F', b', t3, t4, t5, hF', hb', hrun⟩ := ob_loop hn ((List.range 70).map nD) (b := b2) .un .un .un hF hb2
  refine ⟨F', b', hb', hF', runDef_rt rfl (ρ := [.ow 1 b', .va (nD n), .va (famD F'), t3, t4, t5, .un]) ?_ (r := .va (famD F')) rfl rfl⟩
  show K70.b__law_own_blockerM [.ow 1 b, .va (nD n), .un, .un, .un, .un, .un] = _
  unfold K70.b__law_own_blockerM
  rw [seq_nx a2]
  show sqM (Pl.forM (rng1M (consM (cM (.int 70)) nilM)) (stoN 3) ob_body) _ _ = _
  rw [seq_nx ((for_of (rng_of (m := 70) rfl (by decide))).trans hrun)]
  rfl
end Fam

namespace Fam
open PySem PySem.Spec PyProof.Rows L2 Pl
/-- a family as the laws draw it -/
structure FamOK (n : Nat) (F : List Lot) : Prop where
  n1 : 1 ≤ n
  n7 : n ≤ 7
  ne : F ≠ []
  len : F.length ≤ 100
  lot : ∀ l ∈ F, l ≠ [] ∧ l.length ≤ 100 ∧ ∀ x ∈ l, x < n
  well : Well F
theorem FamOK.inc {n : Nat} {F : List Lot} (h : FamOK n F) : ∀ l ∈ F, Inc l := h.well.inc
theorem FamOK.f7 {n : Nat} {F : List Lot} (h : FamOK n F) : Fam7 n F := ⟨h.n7, h.len, fun l hl => (h.lot l hl).2.1, fun l hl => (h.lot l hl).2.2⟩
theorem GF.ok {n : Nat} {F : List Lot} (h1 : 1 ≤ n) (h7 : n ≤ 7) (ne : F ≠ []) (len : F.length ≤ 100) (h : ∀ l ∈ F, GL n l) (w : Well F) : FamOK n F :=
  ⟨h1, h7, ne, len, fun l hl => ⟨(h l hl).ne, by have := (h l hl).len; omega, (h l hl).lt⟩, w⟩
theorem take_call2 {b0 b : List PyData} (h : Bx b) {k : Nat} (hk : 1 ≤ k) (hk2 : k ≤ 1000) {i j j0 : Nat} {ρ ρ1 : En} {f : En → RM Rv} (hi : ρ[i]? = some (.ow j0 b0)) (hi1 : ρ1[i]? = some (.ow j b)) (hf : f ρ = some (.ok (.va (nD k), ρ1))) :
    ∃ (t : Nat) (b' : List PyData), t < k ∧ Bx b' ∧ callM (quiet K70.m__law_take) (consM (varM i) (consM f nilM)) ρ = some (.ok (.va (nD t), ρ1.set i (.ow j b'))) := by
  obtain ⟨t, b', ht, hb, e⟩ := take_bx h hk hk2
  refine ⟨t, b', ht, hb, callM_wr (i := i) (k := j) (es := b) (es' := b') (ρ1 := ρ1) [nD k] ?_ hi1 e rfl⟩
  have hv : varM i ρ = some (.ok (.sl i, ρ)) := by
    unfold varM
    rw [hi]
  exact cons2 hv hf
theorem thr_ne : ∀ m ∈ List.range 8, ∀ q ∈ List.range 8, 1 ≤ q → q ≤ m → (thrN m q).isEmpty = false := by decide +kernel
theorem thr35 : ∀ m ∈ List.range 8, ∀ q ∈ List.range 8, (thrN m q).length ≤ 100 := by decide +kernel
theorem thr_well : ∀ m ∈ List.range 8, ∀ q ∈ List.range 8, wellB (thrN m q) = true := by decide +kernel
theorem thr_fam {m q : Nat} (hm : m ≤ 7) (hq : 1 ≤ q) (hqm : q ≤ m) : FamOK m (thrN m q) := by
  refine GF.ok (by omega) hm (fun z => ?_) (by have := thrN_len (q := q) hm; have : (thrN m q).length ≤ 100 := thr35 m (List.mem_range.mpr (by omega)) q (List.mem_range.mpr (by omega)); exact this) (fun l hl => ?_) (well_B (thr_well m (List.mem_range.mpr (by omega)) q (List.mem_range.mpr (by omega))))
  · have := thr_ne m (List.mem_range.mpr (by omega)) q (List.mem_range.mpr (by omega)) hq hqm
    rw [z] at this
    cases this
  · obtain ⟨h1, h2⟩ := List.mem_filter.mp hl
    obtain ⟨g1, g2⟩ := allN_good h1
    refine ⟨fun z => ?_, g1, g2⟩
    have := Nat.eq_of_beq_eq_true h2
    rw [z] at this
    simp at this
    omega
/-! the drawn lots -/
theorem lots_loop {n : Nat} (h1 : 1 ≤ n) (h2 : n ≤ 1000) {m0 w : Sl} : ∀ (items : List PyData) (acc : List Lot) (b : List PyData), Bx b → (∀ l ∈ acc, GL n l) → ∃ (lots : List Lot) (b' : List PyData), Bx b' ∧ lots.length = acc.length + items.length ∧ (∀ l ∈ lots, GL n l) ∧
    lcL (stoN 5) yesM (callM (quiet K70.m__law_lot) (consM (varM 0) (consM (varM 2) nilM))) [5] items (acc.map lotD) [.ow 1 b, m0, .va (nD n), w, .un, .un] = some (.ok (lots.map lotD, [.ow 1 b', m0, .va (nD n), w, .un, .un]))
  | [], acc, b, hb, ha => ⟨acc, b, hb, rfl, ha, rfl⟩
  | it :: items, acc, b, hb, ha => by
    obtain ⟨l, b1, hb1, hl, e⟩ := lot_ok hb h1 h2
    have hc : callM (quiet K70.m__law_lot) (consM (varM 0) (consM (varM 2) nilM)) [.ow 1 b, m0, .va (nD n), w, .un, .va it] = some (.ok (.va (lotD l), [.ow 1 b1, m0, .va (nD n), w, .un, .va it])) := callM_wr (i := 0) (k := 1) (es := b) (es' := b1) (ρ1 := [.ow 1 b, m0, .va (nD n), w, .un, .va it]) [nD n] rfl rfl e rfl
    obtain ⟨lots, b', hb', hlen, hg, hrun⟩ := lots_loop h1 h2 (m0 := m0) (w := w) items (acc ++ [l]) b1 hb1 fun x hx => (List.mem_append.mp hx).elim (ha x) fun q => by rw [List.mem_singleton.mp q]; exact hl
    refine ⟨lots, b', hb', by rw [hlen, List.length_append, List.length_cons]; simp; omega, hg, ?_⟩
    unfold lcL
    dsimp only [stoN, List.set, yesM]
    rw [hc]
    dsimp only [fzR]
    rw [show acc.map lotD ++ [lotD l] = (acc ++ [l]).map lotD by simp]
    exact hrun
def FamR (b : List PyData) : Prop := ∃ (n : Nat) (F : List Lot) (b' : List PyData), Bx b' ∧ FamOK n F ∧ K70.m__law_family [.ow 1 b, .va (nD 7)] = some (.ok (.va (.tuple [nD n, famD F]), [.ow 1 b', .va (nD 7)]))
theorem family_ok {b : List PyData} (hb : Bx b) : FamR b := by
  obtain ⟨t, b1, ht, hb1, e1⟩ := take_call hb (k := 7) (by decide) (by decide) (i := 0) (j := 1) (ρ := [.ow 1 b, .va (nD 7), .un, .un, .un, .un]) (f := varM 1) rfl rfl rfl
  obtain ⟨way, b2, hw, hb2, e2⟩ := take_call hb1 (k := 8) (by decide) (by decide) (i := 0) (j := 1) (ρ := [.ow 1 b1, .va (nD 7), .un, .un, .un, .un]) (f := cM (.int 8)) rfl rfl rfl
  let m := 1 + t
  have m1 : 1 ≤ m := by show 1 ≤ 1 + t; omega
  have m7 : m ≤ 7 := by show 1 + t ≤ 7; omega
  let ρ2 := [Sl.ow 1 b2, .va (nD 7), .va (nD m), .va (nD way), .un, .un]
  have p1 : parXM 2 3 (opM addG (cM (.int 1)) (callM (quiet K70.m__law_take) (consM (varM 0) (consM (varM 1) nilM)))) (callM (quiet K70.m__law_take) (consM (varM 0) (consM (cM (.int 8)) nilM))) [.ow 1 b, .va (nD 7), .un, .un, .un, .un] = some (.ok (.nx, ρ2)) := by
    have f1 : opM addG (cM (.int 1)) (callM (quiet K70.m__law_take) (consM (varM 0) (consM (varM 1) nilM))) [.ow 1 b, .va (nD 7), .un, .un, .un, .un] = some (.ok (.va (nD (1 + t)), [.ow 1 b1, .va (nD 7), .un, .un, .un, .un])) := op_vv (d := .int ((1 : Nat) : Int)) rfl e1 (add_nat 1 t)
    unfold parXM
    rw [f1]
    dsimp only [RM.bnd]
    rw [show callM (quiet K70.m__law_take) (consM (varM 0) (consM (cM (.int 8)) nilM)) [.ow 1 b1, .va (nD 7), .un, .un, .un, .un] = _ from e2]
    rfl
  have t0 : bM (opM eqG (varM 3) (cM (.int 0))) ρ2 = some (.ok (decide (way = 0), ρ2)) := b_va (op_vv (d := nD way) (e := .int ((0 : Nat) : Int)) rfl rfl (eqG_nat' way 0))
  have t1 : bM (opM eqG (varM 3) (cM (.int 1))) ρ2 = some (.ok (decide (way = 1), ρ2)) := b_va (op_vv (d := nD way) (e := .int ((1 : Nat) : Int)) rfl rfl (eqG_nat' way 1))
  have t2 : Pl.andM (bM (opM eqG (varM 3) (cM (.int 2)))) (bM (opM gtG (varM 1) (cM (.int 5)))) ρ2 = some (.ok (decide (way = 2) && decide (5 < 7), ρ2)) :=
    and_tt (ρ2 := []) (b_va (op_vv (d := nD way) (e := .int ((2 : Nat) : Int)) rfl rfl (eqG_nat' way 2))) (b_va (op_vv (d := nD 7) (e := .int ((5 : Nat) : Int)) rfl rfl (gtG_nat 7 5)))
  have go : ∀ (n : Nat) (F : List Lot) (b' : List PyData) (ρ' : En) (s2 s3 s4 s5 : Sl), Bx b' → FamOK n F → ρ' = [.ow 1 b', .va (nD 7), s2, s3, s4, s5] → K70.b__law_familyM [.ow 1 b, .va (nD 7), .un, .un, .un, .un] = some (.ok (.rt (.va (.tuple [nD n, famD F])), ρ')) → FamR b := fun n F b' ρ' s2 s3 s4 s5 hb' hF e h => by
    subst e
    exact ⟨n, F, b', hb', hF, runDef_rt rfl h rfl rfl⟩
  by_cases w0 : way = 0
  · rw [decide_eq_true w0] at t0
    obtain ⟨y, b3, hy, hb3, e3⟩ := take_call hb2 m1 (by omega) (i := 0) (j := 1) (ρ := ρ2) (f := varM 2) rfl rfl rfl
    let ρ3 := [Sl.ow 1 b3, .va (nD 7), .va (nD m), .va (nD way), .un, .un]
    have hq : opM addG (cM (.int 1)) (callM (quiet K70.m__law_take) (consM (varM 0) (consM (varM 2) nilM))) ρ2 = some (.ok (.va (nD (1 + y)), ρ3)) := op_vv (d := .int ((1 : Nat) : Int)) rfl e3 (add_nat 1 y)
    have hc : callM (quiet K70.m__law_threshold) (consM (varM 2) (consM (opM addG (cM (.int 1)) (callM (quiet K70.m__law_take) (consM (varM 0) (consM (varM 2) nilM)))) nilM)) ρ2 = some (.ok (.va (famD (thrN m (1 + y))), ρ3)) := callM_va [nD m, nD (1 + y)] (cons2 (r1 := .va (nD m)) (ρ1 := ρ2) rfl hq) (by rw [q_thr]; exact lthr_ok m7) rfl
    refine go m (thrN m (1 + y)) b3 ρ3 _ _ _ _ hb3 (thr_fam m7 (by omega) (by omega)) rfl ?_
    unfold K70.b__law_familyM
    rw [seq_nx p1]
    refine seq_rt ?_
    rw [if_tt t0, if_pos rfl]
    exact ret_of (tup2 (ρ1 := ρ2) rfl hc)
  · rw [decide_eq_false w0] at t0
    by_cases w1 : way = 1
    · rw [decide_eq_true w1] at t1
      have t7 : bM (opM eqG (varM 2) (cM (.int 7))) ρ2 = some (.ok (decide (m = 7), ρ2)) := b_va (op_vv (d := nD m) (e := .int ((7 : Nat) : Int)) rfl rfl (eqG_nat' m 7))
      by_cases h7 : m = 7
      · rw [decide_eq_true h7] at t7
        obtain ⟨F, b3, hb3, f1, fw, f2, f3⟩ := fano_ok hb2
        let ρ3 := [Sl.ow 1 b3, .va (nD 7), .va (nD m), .va (nD way), .un, .un]
        have hc : callM (quiet K70.m__law_fano) (consM (varM 0) nilM) ρ2 = some (.ok (.va (famD F), ρ3)) := callM_wr (i := 0) (k := 1) (es := b2) (es' := b3) (ρ1 := ρ2) [] rfl rfl f3 rfl
        refine go 7 F b3 ρ3 _ _ _ _ hb3 ⟨by decide, by decide, fun z => by (rw [z] at f1; cases f1), by omega, fun l hl => ⟨fun z => ?_, by rw [(f2 l hl).1]; decide, (f2 l hl).2⟩, fw⟩ rfl ?_
        · have := (f2 l hl).1
          rw [z] at this
          cases this
        · unfold K70.b__law_familyM
          rw [seq_nx p1, seq_nx (if_ff t0)]
          refine seq_rt ?_
          rw [if_tt t1, if_pos rfl]
          refine ret_of ?_
          rw [ifx_of t7, if_pos rfl]
          exact tup2 (d := nD 7) (ρ1 := ρ2) rfl hc
      · rw [decide_eq_false h7] at t7
        obtain ⟨F, b3, hb3, hF, f3⟩ := own_ok hb2 (n := m) m1 (by omega)
        let ρ3 := [Sl.ow 1 b3, .va (nD 7), .va (nD m), .va (nD way), .un, .un]
        have hc : callM (quiet K70.m__law_own_blocker) (consM (varM 0) (consM (varM 2) nilM)) ρ2 = some (.ok (.va (famD F), ρ3)) := callM_wr (i := 0) (k := 1) (es := b2) (es' := b3) (ρ1 := ρ2) [nD m] rfl rfl f3 rfl
        refine go m F b3 ρ3 _ _ _ _ hb3 (GF.ok m1 m7 hF.ne (by have := hF.len (by omega); omega) hF.gl hF.well) rfl ?_
        unfold K70.b__law_familyM
        rw [seq_nx p1, seq_nx (if_ff t0)]
        refine seq_rt ?_
        rw [if_tt t1, if_pos rfl]
        refine ret_of ?_
        rw [ifx_of t7, if_neg Bool.false_ne_true]
        exact tup2 (ρ1 := ρ2) rfl hc
    · rw [decide_eq_false w1] at t1
      by_cases w2 : way = 2
      · rw [decide_eq_true w2] at t2
        obtain ⟨x, b3, hx, hb3, e3⟩ := pick_va hb2 (d := .list [famD [[0], [1]], famD [[0, 1]]]) (ds := [famD [[0], [1]], famD [[0, 1]]]) rfl (by decide) (by decide)
        let ρ3 := [Sl.ow 1 b3, .va (nD 7), .va (nD m), .va (nD way), .un, .un]
        have hp : callM (quiet K70.m__law_pick) (consM (varM 0) (consM (lstM (consM (tupM (consM (tupM (consM (cM (.int 0)) nilM)) (consM (tupM (consM (cM (.int 1)) nilM)) nilM))) (consM (tupM (consM (tupM (consM (cM (.int 0)) (consM (cM (.int 1)) nilM))) nilM)) nilM))) nilM)) ρ2 = some (.ok (.va x, ρ3)) :=
          callM_wr (i := 0) (k := 1) (es := b2) (es' := b3) (ρ1 := ρ2) [.list [famD [[0], [1]], famD [[0, 1]]]] rfl rfl e3 rfl
        have hrep : opM repG (tupM (consM (tupM (consM (cM (.int 2)) (consM (callM (quiet K70.m__law_pick) (consM (varM 0) (consM (lstM (consM (tupM (consM (tupM (consM (cM (.int 0)) nilM)) (consM (tupM (consM (cM (.int 1)) nilM)) nilM))) (consM (tupM (consM (tupM (consM (cM (.int 0)) (consM (cM (.int 1)) nilM))) nilM)) nilM))) nilM))) nilM))) nilM)) (cM (.int 3)) ρ2 = some (.ok (.va (.tuple [.tuple [.int 2, x], .tuple [.int 2, x], .tuple [.int 2, x]]), ρ3)) :=
          op_vv (tup1 (tup2 (d := .int 2) (ρ1 := ρ2) rfl hp)) (e := .int 3) rfl rfl
        have hthr : callM (quiet K70.m__law_threshold) (consM (cM (.int 3)) (consM (cM (.int 2)) nilM)) ρ2 = some (.ok (.va (famD [[0, 1], [0, 2], [1, 2]]), ρ2)) := by
          refine callM_va [nD 3, nD 2] rfl ?_ rfl
          show K70.m__law_threshold [.va (nD 3), .va (nD 2)] = _
          rw [q_thr, show ([[0, 1], [0, 2], [1, 2]] : List Lot) = thrN 3 2 by decide +kernel]
          exact lthr_ok (by decide)
        have hcomp : ∃ F : List Lot, FamOK 6 F ∧ K70.m__law_composed [.va (famD [[0, 1], [0, 2], [1, 2]]), .va (.tuple [.tuple [.int 2, x], .tuple [.int 2, x], .tuple [.int 2, x]])] = some (.ok (.va (famD F), [.va (famD [[0, 1], [0, 2], [1, 2]]), .va (.tuple [.tuple [.int 2, x], .tuple [.int 2, x], .tuple [.int 2, x]])])) := by
          have good : ∀ f : List Lot, f ≠ [] → f.length ≤ 100 → (f.all fun l => !l.isEmpty && Nat.ble l.length 100 && l.all fun x => Nat.blt x 6) = true → wellB (isort leL f) = true → FamOK 6 (isort leL f) := fun f h1 h2 h3 h4 => by
            refine ⟨by decide, by decide, fun z => h1 ?_, by rw [(isort_perm f).length_eq]; exact h2, fun l hl => ?_, well_B h4⟩
            · have := (isort_perm (le := leL) f).length_eq
              rw [z] at this
              exact List.length_eq_zero_iff.mp this.symm
            · have := List.all_eq_true.mp h3 l ((isort_perm f).mem_iff.mp hl)
              rw [Bool.and_eq_true, Bool.and_eq_true, Bool.not_eq_true', List.all_eq_true] at this
              refine ⟨fun z => by (rw [z] at this; cases this.1.1), Nat.le_of_ble_eq_true this.1.2, fun x hx => ?_⟩
              have := this.2 x hx
              rw [Nat.blt_eq] at this
              exact this
          rcases List.mem_cons.mp hx with rfl | hx
          · refine ⟨isort leL fam0, good fam0 (by decide) (by decide) (by decide) (by decide +kernel), ?_⟩
            have := comp0
            rw [sort_lots] at this
            exact this
          · rw [List.mem_singleton.mp hx]
            refine ⟨isort leL fam1, good fam1 (by decide) (by decide) (by decide) (by decide +kernel), ?_⟩
            have := comp1
            rw [sort_lots] at this
            exact this
        obtain ⟨F, hF, ec⟩ := hcomp
        have hcc : callM (quiet K70.m__law_composed) (consM (callM (quiet K70.m__law_threshold) (consM (cM (.int 3)) (consM (cM (.int 2)) nilM))) (consM (opM repG (tupM (consM (tupM (consM (cM (.int 2)) (consM (callM (quiet K70.m__law_pick) (consM (varM 0) (consM (lstM (consM (tupM (consM (tupM (consM (cM (.int 0)) nilM)) (consM (tupM (consM (cM (.int 1)) nilM)) nilM))) (consM (tupM (consM (tupM (consM (cM (.int 0)) (consM (cM (.int 1)) nilM))) nilM)) nilM))) nilM))) nilM))) nilM)) (cM (.int 3))) nilM)) ρ2 = some (.ok (.va (famD F), ρ3)) :=
          callM_va [famD [[0, 1], [0, 2], [1, 2]], .tuple [.tuple [.int 2, x], .tuple [.int 2, x], .tuple [.int 2, x]]] (cons2 hthr hrep) ec rfl
        refine go 6 F b3 ρ3 _ _ _ _ hb3 hF rfl ?_
        unfold K70.b__law_familyM
        rw [seq_nx p1, seq_nx (if_ff t0), seq_nx (if_ff t1)]
        refine seq_rt ?_
        rw [if_tt t2, if_pos (by decide)]
        exact ret_of (tup2 (d := nD 6) (ρ1 := ρ2) rfl hcc)
      · rw [decide_eq_false w2] at t2
        obtain ⟨x, b3, hx, hb3, e3⟩ := pick_va hb2 (d := .list [nD 2, nD 6, nD 16, nD 40]) (ds := [nD 2, nD 6, nD 16, nD 40]) rfl (by simp) (by simp)
        let ρ3 := [Sl.ow 1 b3, .va (nD 7), .va (nD m), .va (nD way), .un, .un]
        obtain ⟨k, rfl, k1, k40⟩ : ∃ k, x = nD k ∧ 1 ≤ k ∧ k ≤ 40 := by
          simp only [List.mem_cons, List.not_mem_nil, or_false] at hx
          rcases hx with rfl | rfl | rfl | rfl
          · exact ⟨2, rfl, by decide, by decide⟩
          · exact ⟨6, rfl, by decide, by decide⟩
          · exact ⟨16, rfl, by decide, by decide⟩
          · exact ⟨40, rfl, by decide, by decide⟩
        have hp : callM (quiet K70.m__law_pick) (consM (varM 0) (consM (lstM (consM (cM (.int 2)) (consM (cM (.int 6)) (consM (cM (.int 16)) (consM (cM (.int 40)) nilM))))) nilM)) ρ2 = some (.ok (.va (nD k), ρ3)) :=
          callM_wr (i := 0) (k := 1) (es := b2) (es' := b3) (ρ1 := ρ2) [.list [nD 2, nD 6, nD 16, nD 40]] rfl rfl e3 rfl
        obtain ⟨y, b4, hy, hb4, e4⟩ := take_call2 hb3 k1 (by omega) (i := 0) (j := 1) (j0 := 1) (b0 := b2) (ρ := ρ2) (ρ1 := ρ3) rfl rfl hp
        let ρ4 := [Sl.ow 1 b4, .va (nD 7), .va (nD m), .va (nD way), .un, .un]
        have hrg : rng1M (consM (opM addG (cM (.int 1)) (callM (quiet K70.m__law_take) (consM (varM 0) (consM (callM (quiet K70.m__law_pick) (consM (varM 0) (consM (lstM (consM (cM (.int 2)) (consM (cM (.int 6)) (consM (cM (.int 16)) (consM (cM (.int 40)) nilM))))) nilM))) nilM)))) nilM) ρ2 = some (.ok ((List.range (1 + y)).map nD, ρ4)) := rng_of (m := 1 + y) (op_vv (d := .int ((1 : Nat) : Int)) rfl e4 (add_nat 1 y)) (by omega)
        obtain ⟨lots, b5, hb5, hlen, hg, hrun⟩ := lots_loop m1 (by omega) (m0 := .va (nD 7)) (w := .va (nD way)) ((List.range (1 + y)).map nD) [] b4 hb4 fun l hl => nomatch hl
        rw [List.length_map, List.length_range] at hlen
        simp only [List.length_nil, Nat.zero_add] at hlen
        have hlc := lcM_of (elt := callM (quiet K70.m__law_lot) (consM (varM 0) (consM (varM 2) nilM))) (sto := stoN 5) (test := yesM) (vs := [5]) (ρ2 := [.ow 1 b5, .va (nD 7), .va (nD m), .va (nD way), .un, .un]) hrg (by rw [List.length_map, List.length_range]; omega) rfl hrun
        have a4 := asg_nw (i := 4) hlc
        have hle : callM (quiet K70.m__law_least) (consM (varM 4) nilM) [.ow 1 b5, .va (nD 7), .va (nD m), .va (nD way), .ow 0 (lots.map lotD), .un] = some (.ok (.va (famD (lleastN lots)), [.ow 1 b5, .va (nD 7), .va (nD m), .va (nD way), .ow 0 (lots.map lotD), .un])) :=
          callM_ow (i := 4) (k := 0) (es := lots.map lotD) [] rfl rfl (lleast_ok (.inr rfl) (GL.len1000 m7 hg) (by omega)) rfl
        have hne : lots ≠ [] := fun z => by
          rw [z] at hlen
          simp at hlen
          omega
        have hll : (lleastN lots).length ≤ 100 := by
          have h1 : (lleastN lots).length ≤ (isort leL (dd lots)).length := List.length_filter_le _ _
          rw [(isort_perm _).length_eq] at h1
          have := dd_len lots
          omega
        refine go m (lleastN lots) b5 [.ow 1 b5, .va (nD 7), .va (nD m), .va (nD way), .ow 0 (lots.map lotD), .un] (.va (nD m)) (.va (nD way)) (.ow 0 (lots.map lotD)) .un hb5 (GF.ok m1 m7 (lleast_ne hg hne) hll (fun l hl => hg l (lleast_mem hl)) (lleast_well fun l hl => (hg l hl).inc)) rfl ?_
        unfold K70.b__law_familyM
        rw [seq_nx p1, seq_nx (if_ff t0), seq_nx (if_ff t1), seq_nx (if_ff t2), seq_nx a4]
        exact ret_of (tup2 (d := nD m) rfl hle)
end Fam

namespace Fam
open PySem PySem.Spec PyProof.Rows L2 Pl
def unL : PyData → Lot
  | .tuple ds => ds.map unD
  | _ => []
theorem unL_lotD (l : Lot) : unL (lotD l) = l := by
  show (l.map nD).map unD = l
  rw [List.map_map]
  have : (unD ∘ nD) = id := funext unD_nD
  rw [this, List.map_id]
theorem perm_lots {l : List Lot} {es : List PyData} (h : (l.map lotD).Perm es) : ∃ m : List Lot, es = m.map lotD ∧ l.Perm m := by
  refine ⟨es.map unL, ?_, ?_⟩
  · rw [List.map_map]
    have : ∀ e ∈ es, (lotD ∘ unL) e = e := fun e he => by
      obtain ⟨n, _, rfl⟩ := List.mem_map.mp (h.mem_iff.mpr he)
      show lotD (unL (lotD n)) = lotD n
      rw [unL_lotD]
    exact (List.map_id es).symm.trans (List.map_congr_left fun e he => (this e he).symm)
  · have h2 := h.map unL
    rw [List.map_map] at h2
    have : (unL ∘ lotD) = id := funext unL_lotD
    rw [this, List.map_id] at h2
    exact h2
theorem par_of {ρ ρ1 ρ2 : En} {f g : En → RM Rv} {d e : PyData} {i j : Nat} (h : f ρ = some (.ok (.va d, ρ1))) (h2 : g ρ1 = some (.ok (.va e, ρ2))) : parM i j (consM f (consM g nilM)) ρ = some (.ok (.nx, (ρ2.set i (.va d)).set j (.va e))) := by
  unfold parM
  rw [cons2 h h2]
  rfl
theorem notV_of {ρ ρ1 : En} {f : En → RM Rv} {b : Bool} (h : f ρ = some (.ok (.va (.bool b), ρ1))) : notV f ρ = some (.ok (.va (.bool !b), ρ1)) := by
  unfold notV
  rw [h]
  rfl
def in_test : En → RM Bool := Pl.notM (bM (callM (quiet (K70.m__law_same 6)) (consM (tupM (consM (varM 9) (consM (varM 10) nilM))) (consM (tupM (consM (callM (quiet K70.m__law_holds) (consM (varM 4) (consM (varM 7) nilM))) (consM (notV (callM (quiet K70.m__law_holds) (consM (varM 4) (consM (varM 7) nilM)))) nilM))) nilM))))
def in_body : En → RM Ot := sqM (asgM 8 (callM (quiet K70.m__law_others) (consM (varM 7) (consM (varM 3) nilM))))
    (sqM (parM 9 10 (consM (callM (quiet K70.m_lot_holds) (consM (varM 4) (consM (varM 7) nilM))) (consM (callKM (quiet K70.m_lot_holds) 0 2 [0, 1] nilM (consM (varM 5) (consM (varM 8) nilM))) nilM)))
    (sqM (ifM in_test (retM (cM (.bool false))) nxM)
    (asgM 6 (opM addG (varM 6) (ifX (bM (varM 9)) (cM (.int 1)) (cM (.int 0)))))))
theorem in_loop {n : Nat} {F B : List Lot} (hF : FamOK n F) (hB : BInv n F B F.length) {S K b : Sl} : ∀ (ls : List Lot) (h : Nat) (s7 s8 s9 s10 : Sl), (∀ l ∈ ls, l.length ≤ 1000) → ∃ t7 t8 t9 t10,
    forL (stoN 7) in_body (ls.map lotD) [S, K, b, .va (nD n), .va (famD F), .va (famD B), .va (nD h), s7, s8, s9, s10] = some (.ok (.nx, [S, K, b, .va (nD n), .va (famD F), .va (famD B), .va (nD (h + ls.countP (holdsN F))), t7, t8, t9, t10]))
  | [], h, s7, s8, s9, s10, _ => ⟨s7, s8, s9, s10, rfl⟩
  | l :: ls, h, s7, s8, s9, s10, hl => by
    have smF : Sm F := ⟨by have := hF.len; omega, fun l hl => by have := (hF.lot l hl).2.1; omega⟩
    have smB : Sm B := ⟨by have := hB.len; omega, fun l hl => by have := hB.lot l hl; have := hF.len; omega⟩
    have n7 := hF.n7
    let ρa := [S, K, b, Sl.va (nD n), .va (famD F), .va (famD B), .va (nD h), .va (lotD l), s8, s9, s10]
    let ρb := [S, K, b, Sl.va (nD n), .va (famD F), .va (famD B), .va (nD h), .va (lotD l), .va (lotD (othersN l n)), s9, s10]
    have a8 : asgM 8 (callM (quiet K70.m__law_others) (consM (varM 7) (consM (varM 3) nilM))) ρa = some (.ok (.nx, ρb)) := asg_va (ρ1 := ρa) (callM_va [lotD l, nD n] rfl (others_ok l n (by omega)) rfl)
    have mine : callM (quiet K70.m_lot_holds) (consM (varM 4) (consM (varM 7) nilM)) ρb = some (.ok (.va (.bool (holdsN F l)), ρb)) := callM_va [famD F, lotD l] rfl (by rw [q_holds]; exact holds_va l rfl smF) rfl
    have other : callKM (quiet K70.m_lot_holds) 0 2 [0, 1] nilM (consM (varM 5) (consM (varM 8) nilM)) ρb = some (.ok (.va (.bool (!holdsN F l)), ρb)) := by
      rw [callKM_of (rs := []) (qs := [.va (famD B), .va (lotD (othersN l n))]) (ρ1 := ρb) (ρ2 := ρb) rfl rfl]
      refine callM_va [famD B, lotD (othersN l n)] rfl ?_ rfl
      rw [q_holds, ← dual (fun x hx => (hF.lot x hx).2.2) hB l]
      exact holds_va _ rfl smB
    let ρc := [S, K, b, Sl.va (nD n), .va (famD F), .va (famD B), .va (nD h), .va (lotD l), .va (lotD (othersN l n)), .va (.bool (holdsN F l)), .va (.bool (!holdsN F l))]
    have a9 : parM 9 10 (consM (callM (quiet K70.m_lot_holds) (consM (varM 4) (consM (varM 7) nilM))) (consM (callKM (quiet K70.m_lot_holds) 0 2 [0, 1] nilM (consM (varM 5) (consM (varM 8) nilM))) nilM)) ρb = some (.ok (.nx, ρc)) := par_of mine other
    have lh : callM (quiet K70.m__law_holds) (consM (varM 4) (consM (varM 7) nilM)) ρc = some (.ok (.va (.bool (holdsN F l)), ρc)) := callM_va [famD F, lotD l] rfl (lholds_ok l rfl smF.2) rfl
    have tt : in_test ρc = some (.ok (false, ρc)) := by
      unfold in_test
      rw [q_same]
      exact same_of (d := .tuple [.bool (holdsN F l), .bool (!holdsN F l)]) (tup2 (d := .bool (holdsN F l)) (e := .bool (!holdsN F l)) rfl rfl) (tup2 lh (notV_of lh)) (same_tup fun d hd => by
        rcases List.mem_cons.mp hd with rfl | hd
        · exact same_bool 4 _
        · rw [List.mem_singleton.mp hd]
          exact same_bool 4 _)
    let ρd := [S, K, b, Sl.va (nD n), .va (famD F), .va (famD B), .va (nD (h + if holdsN F l = true then 1 else 0)), .va (lotD l), .va (lotD (othersN l n)), .va (.bool (holdsN F l)), .va (.bool (!holdsN F l))]
    have a6 : asgM 6 (opM addG (varM 6) (ifX (bM (varM 9)) (cM (.int 1)) (cM (.int 0)))) ρc = some (.ok (.nx, ρd)) := by
      refine asg_va (ρ1 := ρc) (op_vv (d := nD h) (e := .int ((if holdsN F l = true then 1 else 0 : Nat) : Int)) rfl ?_ (add_nat _ _))
      rw [ifx_of (k := holdsN F l) (ρ1 := ρc) rfl]
      cases holdsN F l <;> rfl
    have hb : in_body ρa = some (.ok (.nx, ρd)) := by
      unfold in_body
      rw [seq_nx a8, seq_nx a9, seq_nx (if_ff tt)]
      exact a6
    obtain ⟨t7, t8, t9, t10, ht⟩ := in_loop hF hB (S := S) (K := K) (b := b) ls (h + if holdsN F l = true then 1 else 0) (.va (lotD l)) (.va (lotD (othersN l n))) (.va (.bool (holdsN F l))) (.va (.bool (!holdsN F l))) fun x hx => hl x (List.mem_cons_of_mem _ hx)
    refine ⟨t7, t8, t9, t10, ?_⟩
    rw [List.map_cons]
    unfold forL
    dsimp only [stoN, List.set]
    rw [show in_body [S, K, b, Sl.va (nD n), .va (famD F), .va (famD B), .va (nD h), .va (lotD l), s8, s9, s10] = _ from hb]
    refine ht.trans ?_
    rw [List.countP_cons, show h + (if holdsN F l = true then 1 else 0) + ls.countP (holdsN F) = h + (ls.countP (holdsN F) + if holdsN F l = true then 1 else 0) by omega]
theorem range_mem : ∀ n ∈ List.range 8, List.range n ∈ allN n := by decide +kernel
theorem nil_mem : ∀ n ∈ List.range 8, ([] : Lot) ∈ allN n := by decide +kernel
theorem held_bounds {n : Nat} {F : List Lot} (hF : FamOK n F) {ls : List Lot} (hp : (allN n).Perm ls) : 1 ≤ ls.countP (holdsN F) ∧ ls.countP (holdsN F) < 2 ^ n := by
  have n7 := hF.n7
  rw [← hp.countP_eq]
  refine ⟨?_, ?_⟩
  · obtain ⟨f, fs, ef⟩ := List.exists_cons_of_ne_nil hF.ne
    have hf : f ∈ F := by rw [ef]; exact List.mem_cons_self
    exact List.countP_pos_iff.mpr ⟨List.range n, range_mem n (List.mem_range.mpr (by omega)), (holds_iff F _).mpr ⟨f, hf, (within_iff f _).mpr fun x hx => List.mem_range.mpr ((hF.lot f hf).2.2 x hx)⟩⟩
  · have hlen : (allN n).length = 2 ^ n := by
      unfold allN
      rw [(isort_perm _).length_eq, allF_len, List.length_range]
      simp
    have hno : holdsN F [] = false := by
      cases e : holdsN F [] with
      | false => rfl
      | true =>
        obtain ⟨f, hf, hw⟩ := (holds_iff F _).mp e
        obtain ⟨x, xs, ex⟩ := List.exists_cons_of_ne_nil (hF.lot f hf).1
        have := (within_iff f []).mp hw x (by rw [ex]; exact List.mem_cons_self)
        cases this
    have h1 := List.countP_le_length (p := holdsN F) (l := allN n)
    by_cases z : (allN n).countP (holdsN F) = (allN n).length
    · have := (List.countP_eq_length.mp z) [] (nil_mem n (List.mem_range.mpr (by omega)))
      rw [hno] at this
      cases this
    · omega
def l70_body : En → RM Ot := sqM (asgM 2 (callM (quiet K70.m__law_box) (consM (varM 0) (consM (varM 1) nilM))))
    (sqM (unpM (stoT 2 (stosCons (stoN 3) (stosCons (stoN 4) stosNil))) (callM (quiet K70.m__law_family) (consM (varM 2) (consM (cM (.int 7)) nilM))))
    (sqM (parM 5 6 (consM (callM (quiet K70.m_blocker_of) (consM (varM 4) (consM (varM 3) nilM))) (consM (cM (.int 0)) nilM)))
    (sqM (Pl.forM (seqM (callM (quiet K70.m__law_shuffled) (consM (varM 2) (consM (callM (quiet K70.m__law_all) (consM (varM 3) nilM)) nilM)))) (stoN 7) in_body)
    (ifM (Pl.orM (bM (opM ltG (varM 6) (cM (.int 1)))) (bM (opM geG (varM 6) (opM shlG (cM (.int 1)) (varM 3))))) (retM (cM (.bool false))) nxM))))
theorem shl_nat (n : Nat) (h : n ≤ 1000) : shlG (.int 1) (nD n) = some (.va (nD (2 ^ n))) := by
  have hb : powB 1 (n : Int) = true := by
    unfold powB
    rw [Bool.and_eq_true, Bool.and_eq_true]
    exact ⟨⟨decide_eq_true (by omega), decide_eq_true (by omega)⟩, by decide⟩
  show (match powB 1 (n : Int) with | true => some (Rv.va (.int (1 * 2 ^ (n : Int).toNat))) | false => none) = _
  rw [hb, Int.one_mul, Int.toNat_natCast]
  show some (Rv.va (.int (2 ^ n))) = some (Rv.va (.int ((2 ^ n : Nat) : Int)))
  rw [Int.natCast_pow]
  rfl
theorem l70_loop {ns : List Int} (hn : ns.length ≤ 1000) : ∀ (ks : List Nat) (s1 s2 s3 s4 s5 s6 s7 s8 s9 s10 : Sl), (∀ k ∈ ks, k ≤ 1000) → ∃ o, forL (stoN 1) l70_body (ks.map nD) [.va (.list (ns.map PyData.int)), s1, s2, s3, s4, s5, s6, s7, s8, s9, s10] = some (.ok (.nx, .va (.list (ns.map PyData.int)) :: o))
  | [], s1, s2, s3, s4, s5, s6, s7, s8, s9, s10, _ => ⟨_, rfl⟩
  | k :: ks, s1, s2, s3, s4, s5, s6, s7, s8, s9, s10, h => by
    let S := PyData.list (ns.map PyData.int)
    obtain ⟨g, r, r0, r1, hbox⟩ := box_ok ns k (h k List.mem_cons_self) hn
    have hb : Bx [.int g, .int r] := ⟨g, r, rfl, r0, r1⟩
    have a2 : asgM 2 (callM (quiet K70.m__law_box) (consM (varM 0) (consM (varM 1) nilM))) [.va S, .va (nD k), s2, s3, s4, s5, s6, s7, s8, s9, s10] = some (.ok (.nx, [.va S, .va (nD k), .ow 0 [.int g, .int r], s3, s4, s5, s6, s7, s8, s9, s10])) := asg_nw (ρ1 := [.va S, .va (nD k), s2, s3, s4, s5, s6, s7, s8, s9, s10]) (callM_va [S, nD k] rfl (by rw [q_box]; exact hbox) rfl)
    obtain ⟨n, F, b1, hb1, hF, ef⟩ := family_ok hb
    have cf : callM (quiet K70.m__law_family) (consM (varM 2) (consM (cM (.int 7)) nilM)) [.va S, .va (nD k), .ow 0 [.int g, .int r], s3, s4, s5, s6, s7, s8, s9, s10] = some (.ok (.va (.tuple [nD n, famD F]), [.va S, .va (nD k), .ow 0 b1, s3, s4, s5, s6, s7, s8, s9, s10])) :=
      callM_wr (i := 2) (k := 0) (es := [.int g, .int r]) (es' := b1) (ρ1 := [.va S, .va (nD k), .ow 0 [.int g, .int r], s3, s4, s5, s6, s7, s8, s9, s10]) [nD 7] rfl rfl ef rfl
    have a3 : unpM (stoT 2 (stosCons (stoN 3) (stosCons (stoN 4) stosNil))) (callM (quiet K70.m__law_family) (consM (varM 2) (consM (cM (.int 7)) nilM))) [.va S, .va (nD k), .ow 0 [.int g, .int r], s3, s4, s5, s6, s7, s8, s9, s10] = some (.ok (.nx, [.va S, .va (nD k), .ow 0 b1, .va (nD n), .va (famD F), s5, s6, s7, s8, s9, s10])) := by
      unfold unpM
      rw [cf]
      rfl
    obtain ⟨B, eB, hB⟩ := blocker_all hF.f7
    have n7 := hF.n7
    have hblk : callM (quiet K70.m_blocker_of) (consM (varM 4) (consM (varM 3) nilM)) [.va S, .va (nD k), .ow 0 b1, .va (nD n), .va (famD F), s5, s6, s7, s8, s9, s10] = some (.ok (.va (famD B), [.va S, .va (nD k), .ow 0 b1, .va (nD n), .va (famD F), s5, s6, s7, s8, s9, s10])) :=
      callM_va [famD F, nD n] rfl (by rw [q_blk]; exact blocker_ok (fun l hl => by have := (hF.lot l hl).2.1; omega) eB) rfl
    have a4 : parM 5 6 (consM (callM (quiet K70.m_blocker_of) (consM (varM 4) (consM (varM 3) nilM))) (consM (cM (.int 0)) nilM)) [.va S, .va (nD k), .ow 0 b1, .va (nD n), .va (famD F), s5, s6, s7, s8, s9, s10] = some (.ok (.nx, [.va S, .va (nD k), .ow 0 b1, .va (nD n), .va (famD F), .va (famD B), .va (nD 0), s7, s8, s9, s10])) :=
      par_of (e := nD 0) (ρ2 := [.va S, .va (nD k), .ow 0 b1, .va (nD n), .va (famD F), s5, s6, s7, s8, s9, s10]) hblk rfl
    let ρ4 := [Sl.va S, .va (nD k), .ow 0 b1, .va (nD n), .va (famD F), .va (famD B), .va (nD 0), s7, s8, s9, s10]
    have hal : callM (quiet K70.m__law_all) (consM (varM 3) nilM) ρ4 = some (.ok (.nw ((allN n).map lotD), ρ4)) := callM_va [nD n] rfl (by rw [q_all]; exact lall_ok n7) rfl
    obtain ⟨es, b2, hperm, hb2, esh⟩ := shuffled_ok hb1 (d := famL (allN n)) (ds := (allN n).map lotD) rfl (by rw [List.length_map]; have := allN_len n7; omega)
    obtain ⟨ls, rfl, hp⟩ := perm_lots hperm
    have csh : callM (quiet K70.m__law_shuffled) (consM (varM 2) (consM (callM (quiet K70.m__law_all) (consM (varM 3) nilM)) nilM)) ρ4 = some (.ok (.nw (ls.map lotD), [.va S, .va (nD k), .ow 0 b2, .va (nD n), .va (famD F), .va (famD B), .va (nD 0), s7, s8, s9, s10])) :=
      callM_wr (i := 2) (k := 0) (es := b1) (es' := b2) (ρ1 := ρ4) [famL (allN n)] (cons2 (r1 := .sl 2) (ρ1 := ρ4) rfl hal) rfl esh rfl
    obtain ⟨t7, t8, t9, t10, hin⟩ := in_loop hF hB (S := .va S) (K := .va (nD k)) (b := .ow 0 b2) ls 0 s7 s8 s9 s10 fun l hl => by
      have := allN_mem (hp.mem_iff.mpr hl)
      omega
    have a5 := (for_of (sto := stoN 7) (body := in_body) (sq_nw csh)).trans hin
    obtain ⟨h1, h2⟩ := held_bounds hF hp
    let ρ5 := [Sl.va S, .va (nD k), .ow 0 b2, .va (nD n), .va (famD F), .va (famD B), .va (nD (0 + ls.countP (holdsN F))), t7, t8, t9, t10]
    have t1 : bM (opM ltG (varM 6) (cM (.int 1))) ρ5 = some (.ok (false, ρ5)) := by
      have : bM (opM ltG (varM 6) (cM (.int 1))) ρ5 = some (.ok (decide (0 + ls.countP (holdsN F) < 1), ρ5)) := b_va (op_vv (d := nD (0 + ls.countP (holdsN F))) (e := .int ((1 : Nat) : Int)) rfl rfl (ltG_nat _ 1))
      rw [decide_eq_false (by omega)] at this
      exact this
    have t2 : bM (opM geG (varM 6) (opM shlG (cM (.int 1)) (varM 3))) ρ5 = some (.ok (false, ρ5)) := by
      have hs : opM shlG (cM (.int 1)) (varM 3) ρ5 = some (.ok (.va (nD (2 ^ n)), ρ5)) := op_vv (d := .int 1) (e := nD n) rfl rfl (shl_nat n (by omega))
      have : bM (opM geG (varM 6) (opM shlG (cM (.int 1)) (varM 3))) ρ5 = some (.ok (Nat.ble (2 ^ n) (0 + ls.countP (holdsN F)), ρ5)) := b_va (op_vv (d := nD (0 + ls.countP (holdsN F))) rfl hs (geG_nat _ _))
      have hf : Nat.ble (2 ^ n) (0 + ls.countP (holdsN F)) = false := by
        cases e : Nat.ble (2 ^ n) (0 + ls.countP (holdsN F)) with
        | false => rfl
        | true => have := Nat.le_of_ble_eq_true e; omega
      rw [hf] at this
      exact this
    have hbody : l70_body [.va S, .va (nD k), s2, s3, s4, s5, s6, s7, s8, s9, s10] = some (.ok (.nx, ρ5)) := by
      unfold l70_body
      rw [seq_nx a2, seq_nx a3, seq_nx a4, seq_nx a5]
      exact if_ff (or_ff t1 t2)
    obtain ⟨o, ho⟩ := l70_loop hn ks (.va (nD k)) (.ow 0 b2) (.va (nD n)) (.va (famD F)) (.va (famD B)) (.va (nD (0 + ls.countP (holdsN F)))) t7 t8 t9 t10 fun k hk => h k (List.mem_cons_of_mem _ hk)
    refine ⟨o, ?_⟩
    rw [List.map_cons]
    unfold forL
    dsimp only [stoN, List.set]
    rw [hbody]
    exact ho
theorem plain70 (ns : List Int) (hn : ns.length ≤ 63) : ∃ o, K70.m_law [.va (.list (ns.map PyData.int))] = some (.ok (.va (.bool true), o)) := by
  let S := PyData.list (ns.map PyData.int)
  obtain ⟨o, ho⟩ := l70_loop (ns := ns) (by omega) (List.range (max 3 (min ns.length 6))) .un .un .un .un .un .un .un .un .un .un fun k hk => by
    have := List.mem_range.mp hk
    omega
  have hr : rng1M (consM (cbM maxG (consM (cM (.int 3)) (consM (cbM minG (consM (cbM lenG (consM (varM 0) nilM)) (consM (cM (.int 6)) nilM))) nilM))) nilM) [.va S, .un, .un, .un, .un, .un, .un, .un, .un, .un, .un] = some (.ok ((List.range (max 3 (min ns.length 6))).map nD, [.va S, .un, .un, .un, .un, .un, .un, .un, .un, .un, .un])) :=
    rng_of (m := max 3 (min ns.length 6)) (max_nat 3 (min ns.length 6) rfl (min_nat ns.length 6 (ρ1 := [.va S, .un, .un, .un, .un, .un, .un, .un, .un, .un, .un]) (len_list rfl) rfl)) (by omega)
  refine ⟨[.va S], runDef_rt rfl (ρ := .va S :: o) ?_ (r := .va (.bool true)) rfl rfl⟩
  show K70.b_lawM [.va S, .un, .un, .un, .un, .un, .un, .un, .un, .un, .un] = _
  unfold K70.b_lawM
  show sqM (Pl.forM (rng1M (consM (cbM maxG (consM (cM (.int 3)) (consM (cbM minG (consM (cbM lenG (consM (varM 0) nilM)) (consM (cM (.int 6)) nilM))) nilM))) nilM)) (stoN 1) l70_body) _ _ = _
  rw [seq_nx ((for_of hr).trans ho)]
  rfl
end Fam

namespace K68
open PySem PySem.Spec PyProof.Rows L2 Pl
def b__law_sameM (self : En → RM Rv) : En → RM Ot := (sqM (ifM (bM (isiM .tuple (varM 1))) (sqM (ifM (orM (notM (bM (isiM .tuple (varM 0)))) (bM (opM neG (cbM lenG (consM (varM 0) nilM)) (cbM lenG (consM (varM 1) nilM))))) (retM (cM (.bool false))) nxM)
    (sqM (forM (zipM (consM (varM 0) (consM (varM 1) nilM))) (stoT 2 (stosCons (stoN 2) (stosCons (stoN 3) stosNil))) (ifM (notM (bM (callM (quiet self) (consM (varM 2) (consM (varM 3) nilM))))) (retM (cM (.bool false))) nxM))
    (retM (cM (.bool true))))) nxM)
    (sqM (ifM (bM (opM isNG (varM 1) (cM .none))) (retM (opM isNG (varM 0) (cM .none))) nxM)
    (sqM (ifM (orM (bM (opM isBG (varM 1) (cM (.bool true)))) (bM (opM isBG (varM 1) (cM (.bool false))))) (retM (andV (isiM .bool (varM 0)) (opM eqG (varM 0) (varM 1)))) nxM)
    (sqM (ifM (bM (isiM .int (varM 1))) (retM (andV (isiM .int (varM 0)) (andV (notV (isiM .bool (varM 0))) (opM eqG (varM 0) (varM 1))))) nxM)
    (retM (andV (isiM .str (varM 0)) (andV (isiM .str (varM 1)) (opM eqG (varM 0) (varM 1)))))))))
def m__law_same : Nat → En → RM Rv
  | 0 => noneM
  | n + 1 => runDef 2 2 (b__law_sameM (m__law_same n))
def b__law_boxM : En → RM Ot := (sqM (asgM 2 (opM addG (opM mulG (cM (.int 12011)) (varM 1)) (cM (.int 7321))))
    (sqM (ifM (bM (opM ltG (varM 1) (cbM lenG (consM (varM 0) nilM)))) (asgM 2 (cbM absG (consM (cbM intG (consM (opM ixG (varM 0) (varM 1)) nilM)) nilM))) (ifM (bM (opM gtG (cbM lenG (consM (varM 0) nilM)) (cM (.int 0)))) (asgM 2 (opM addG (varM 2) (opM mulG (opM modG (cbM intG (consM (cbM absG (consM (cbM intG (consM (opM ixG (varM 0) (opM modG (cbM intG (consM (varM 1) nilM)) (cbM lenG (consM (varM 0) nilM)))) nilM)) nilM)) nilM)) (cM (.int 2147483563))) (cM (.int 68213))))) nxM))
    (sqM (asgM 3 (ifX (bM (opM geG (varM 2) (opM powG (cM (.int 10)) (cM (.int 18))))) (varM 2) (cM (.int 0))))
    (retM (lstM (consM (varM 3) (consM (opM addG (opM modG (cbM intG (consM (opM addG (opM mulG (opM modG (cbM intG (consM (varM 2) nilM)) (cM (.int 2147483563))) (cM (.int 58271))) (opM mulG (cM (.int 7321)) (varM 1))) nilM)) (cM (.int 2147483563))) (cM (.int 1))) nilM)))))))
def m__law_box : En → RM Rv := runDef 2 2 b__law_boxM
def b__law_takeM : En → RM Ot := (sqM (ifM (bM (opM gtG (opM ixG (varM 0) (cM (.int 0))) (cM (.int 0)))) (sqM (asgM 2 (opM modG (cbM intG (consM (opM ixG (varM 0) (cM (.int 0))) nilM)) (varM 1)))
    (sqM (setM 0 (opM divG (opM ixG (varM 0) (cM (.int 0))) (varM 1)) (cM (.int 0)))
    (retM (varM 2)))) nxM)
    (sqM (asgM 3 (opM modG (cbM intG (consM (opM addG (opM mulG (opM ixG (varM 0) (cM (.int 1))) (cM (.int 39373))) (cM (.int 307))) nilM)) (cM (.int 2147483647))))
    (sqM (setM 0 (opM addG (opM modG (cbM intG (consM (opM addG (opM mulG (varM 3) (cM (.int 40692))) (cM (.int 61))) nilM)) (cM (.int 2147483399))) (cM (.int 1))) (cM (.int 1)))
    (retM (opM modG (cbM intG (consM (opM divG (opM addG (opM mulG (varM 3) (cM (.int 2147483629))) (opM ixG (varM 0) (cM (.int 1)))) (cM (.int 8233))) nilM)) (varM 1))))))
def m__law_take : En → RM Rv := runDef 2 2 b__law_takeM
def b__law_lotM : En → RM Ot := (sqM (parXM 2 3 (callM (quiet m__law_take) (consM (varM 0) (consM (varM 1) nilM))) (lstM nilM))
    (sqM (asgM 4 (opM addG (cM (.int 1)) (callM (quiet m__law_take) (consM (varM 0) (consM (cM (.int 4)) nilM)))))
    (sqM (forM (rng1M (consM (varM 1) nilM)) (stoN 5) (ifM (orM (bM (opM eqG (varM 5) (varM 2))) (bM (opM ltG (callM (quiet m__law_take) (consM (varM 0) (consM (cM (.int 5)) nilM))) (varM 4)))) (appM 3 (varM 5)) nxM))
    (retM (cbM tupG (consM (varM 3) nilM))))))
def m__law_lot : En → RM Rv := runDef 2 4 b__law_lotM
def b__law_withinM : En → RM Ot := (retM (opM eqG (lcOM 0 (stoN 2) (bM (opM notInG (varM 2) (varM 1))) (cM (.int 1)) [2]) (lstM nilM)))
def m__law_within : En → RM Rv := runDef 2 1 b__law_withinM
def b__law_leastM : En → RM Ot := (sqM (asgM 1 (lstM nilM))
    (sqM (forM (seqM (sortSetM (varM 0))) (stoN 2) (ifM (bM (opM eqG (lcOM 0 (stoN 3) (andM (bM (opM neG (varM 3) (varM 2))) (bM (callM (quiet m__law_within) (consM (varM 3) (consM (varM 2) nilM))))) (cM (.int 1)) [3]) (lstM nilM))) (appM 1 (varM 2)) nxM))
    (retM (cbM tupG (consM (varM 1) nilM)))))
def m__law_least : En → RM Rv := runDef 1 3 b__law_leastM
def b__law_allM : En → RM Ot := (sqM (asgM 1 (lstM (consM (tupM nilM) nilM)))
    (sqM (forM (rng1M (consM (varM 0) nilM)) (stoN 2) (asgM 1 (opM addG (varM 1) (lcOM 1 (stoN 3) yesM (opM addG (varM 3) (tupM (consM (varM 2) nilM))) [3]))))
    (retM (cbM sortG (consM (varM 1) nilM)))))
def m__law_all : En → RM Rv := runDef 1 3 b__law_allM
def b__law_thresholdM : En → RM Ot := (retM (cbM tupG (consM (lcM (seqM (callM (quiet m__law_all) (consM (varM 0) nilM))) (stoN 2) (bM (opM eqG (cbM lenG (consM (varM 2) nilM)) (varM 1))) (varM 2) [2]) nilM)))
def m__law_threshold : En → RM Rv := runDef 2 1 b__law_thresholdM
def b__law_composedM : En → RM Ot := (sqM (parXM 2 3 (lstM nilM) (cM (.int 0)))
    (sqM (forM (seqM (varM 1)) (stoT 2 (stosCons (stoN 4) (stosCons (stoN 5) stosNil))) (sqM (appM 2 (lcOM 5 (stoN 7) yesM (cbM tupG (consM (lcM (seqM (varM 7)) (stoN 9) yesM (opM addG (varM 3) (varM 9)) [9]) nilM)) [7]))
    (asgM 3 (opM addG (varM 3) (varM 4)))))
    (sqM (asgM 6 (lstM nilM))
    (sqM (forM (seqM (varM 0)) (stoN 7) (sqM (asgM 8 (lstM (consM (tupM nilM) nilM)))
    (sqM (forM (seqM (varM 7)) (stoN 9) (sqM (asgM 10 (lstM nilM))
    (sqM (forM (seqM (varM 8)) (stoN 11) (asgM 10 (opM addG (varM 10) (lcM (seqM (opM ixG (varM 2) (varM 9))) (stoN 12) yesM (opM addG (varM 11) (varM 12)) [12]))))
    (asgM 8 (varM 10)))))
    (asgM 6 (opM addG (varM 6) (varM 8))))))
    (retM (cbM tupG (consM (cbM sortG (consM (varM 6) nilM)) nilM)))))))
def m__law_composed : En → RM Rv := runDef 2 11 b__law_composedM
def b__law_shuffledM : En → RM Ot := (sqM (parXM 2 3 (cbM lstG (consM (varM 1) nilM)) (lstM nilM))
    (sqM (forM (rng1M (consM (cbM lenG (consM (varM 1) nilM)) nilM)) (stoN 4) (appM 3 (popM 2 (callM (quiet m__law_take) (consM (varM 0) (consM (cbM lenG (consM (varM 2) nilM)) nilM))))))
    (retM (varM 3))))
def m__law_shuffled : En → RM Rv := runDef 2 3 b__law_shuffledM
def b__law_fanoM : En → RM Ot := (sqM (asgM 1 (callM (quiet m__law_shuffled) (consM (varM 0) (consM (lstRgM (cM (.int 7))) nilM))))
    (retM (cbM tupG (consM (cbM sortG (consM (lcM (rng1M (consM (cM (.int 7)) nilM)) (stoN 2) yesM (cbM tupG (consM (cbM sortG (consM (lcM (seqM (tupM (consM (cM (.int 0)) (consM (cM (.int 1)) (consM (cM (.int 3)) nilM))))) (stoN 3) yesM (opM ixG (varM 1) (opM modG (cbM intG (consM (opM addG (varM 2) (varM 3)) nilM)) (cM (.int 7)))) [3]) nilM)) nilM)) [2]) nilM)) nilM))))
def m__law_fano : En → RM Rv := runDef 1 3 b__law_fanoM
def b__law_pickM : En → RM Ot := (retM (opM ixG (varM 1) (callM (quiet m__law_take) (consM (varM 0) (consM (cbM lenG (consM (varM 1) nilM)) nilM)))))
def m__law_pick : En → RM Rv := runDef 2 0 b__law_pickM
def b__law_holdsM : En → RM Ot := (sqM (forM (seqM (varM 0)) (stoN 2) (ifM (bM (callM (quiet m__law_within) (consM (varM 2) (consM (varM 1) nilM)))) (retM (cM (.bool true))) nxM))
    (retM (cM (.bool false))))
def m__law_holds : En → RM Rv := runDef 2 1 b__law_holdsM
def b__law_othersM : En → RM Ot := (retM (cbM tupG (consM (lcM (rng1M (consM (varM 1) nilM)) (stoN 2) (bM (opM notInG (varM 2) (varM 0))) (varM 2) [2]) nilM)))
def m__law_others : En → RM Rv := runDef 2 1 b__law_othersM
def b__law_own_blockerM : En → RM Ot := (sqM (asgM 2 (ifX (bM (opM eqG (callM (quiet m__law_take) (consM (varM 0) (consM (cM (.int 9)) nilM))) (cM (.int 0)))) (tupM (consM (tupM (consM (callM (quiet m__law_take) (consM (varM 0) (consM (varM 1) nilM))) nilM)) nilM)) (callM (quiet m__law_threshold) (consM (varM 1) (consM (varM 1) nilM)))))
    (sqM (forM (rng1M (consM (cM (.int 70)) nilM)) (stoN 3) (sqM (asgM 4 (lcM (seqM (callM (quiet m__law_all) (consM (varM 1) nilM))) (stoN 6) (andM (notM (bM (callM (quiet m__law_holds) (consM (varM 2) (consM (varM 6) nilM))))) (notM (bM (callM (quiet m__law_holds) (consM (varM 2) (consM (callM (quiet m__law_others) (consM (varM 6) (consM (varM 1) nilM))) nilM)))))) (varM 6) [6]))
    (sqM (asgM 5 (lcOM 4 (stoN 6) (bM (opM gtG (cbM lenG (consM (varM 6) nilM)) (cM (.int 1)))) (varM 6) [6]))
    (sqM (ifM (bM (opM eqG (varM 4) (lstM nilM))) bkM nxM)
    (asgM 2 (callM (quiet m__law_least) (consM (opM addG (cbM lstG (consM (varM 2) nilM)) (lstM (consM (callM (quiet m__law_pick) (consM (varM 0) (consM (ifX (bM (opM neG (varM 5) (lstM nilM))) (varM 5) (varM 4)) nilM))) nilM))) nilM)))))))
    (retM (varM 2))))
def m__law_own_blocker : En → RM Rv := runDef 2 5 b__law_own_blockerM
def b__law_familyM : En → RM Ot := (sqM (parXM 2 3 (opM addG (cM (.int 1)) (callM (quiet m__law_take) (consM (varM 0) (consM (varM 1) nilM)))) (callM (quiet m__law_take) (consM (varM 0) (consM (cM (.int 8)) nilM))))
    (sqM (ifM (bM (opM eqG (varM 3) (cM (.int 0)))) (retM (tupM (consM (varM 2) (consM (callM (quiet m__law_threshold) (consM (varM 2) (consM (opM addG (cM (.int 1)) (callM (quiet m__law_take) (consM (varM 0) (consM (varM 2) nilM)))) nilM))) nilM)))) nxM)
    (sqM (ifM (bM (opM eqG (varM 3) (cM (.int 1)))) (retM (ifX (bM (opM eqG (varM 2) (cM (.int 7)))) (tupM (consM (cM (.int 7)) (consM (callM (quiet m__law_fano) (consM (varM 0) nilM)) nilM))) (tupM (consM (varM 2) (consM (callM (quiet m__law_own_blocker) (consM (varM 0) (consM (varM 2) nilM))) nilM))))) nxM)
    (sqM (ifM (andM (bM (opM eqG (varM 3) (cM (.int 2)))) (bM (opM gtG (varM 1) (cM (.int 5))))) (retM (tupM (consM (cM (.int 6)) (consM (callM (quiet m__law_composed) (consM (callM (quiet m__law_threshold) (consM (cM (.int 3)) (consM (cM (.int 2)) nilM))) (consM (opM repG (tupM (consM (tupM (consM (cM (.int 2)) (consM (callM (quiet m__law_pick) (consM (varM 0) (consM (lstM (consM (tupM (consM (tupM (consM (cM (.int 0)) nilM)) (consM (tupM (consM (cM (.int 1)) nilM)) nilM))) (consM (tupM (consM (tupM (consM (cM (.int 0)) (consM (cM (.int 1)) nilM))) nilM)) nilM))) nilM))) nilM))) nilM)) (cM (.int 3))) nilM))) nilM)))) nxM)
    (sqM (asgM 4 (lcM (rng1M (consM (opM addG (cM (.int 1)) (callM (quiet m__law_take) (consM (varM 0) (consM (callM (quiet m__law_pick) (consM (varM 0) (consM (lstM (consM (cM (.int 2)) (consM (cM (.int 6)) (consM (cM (.int 16)) (consM (cM (.int 40)) nilM))))) nilM))) nilM)))) nilM)) (stoN 5) yesM (callM (quiet m__law_lot) (consM (varM 0) (consM (varM 2) nilM))) [5]))
    (retM (tupM (consM (varM 2) (consM (callM (quiet m__law_least) (consM (varM 4) nilM)) nilM)))))))))
def m__law_family : En → RM Rv := runDef 2 4 b__law_familyM
def b__law_maskM : En → RM Ot := (retM (cbM sumG (consM (lcOM 0 (stoN 1) yesM (opM shlG (cM (.int 1)) (varM 1)) [1]) nilM)))
def m__law_mask : En → RM Rv := runDef 1 1 b__law_maskM
def b__law_blockerM : En → RM Ot := (sqM (parXM 2 3 (lcOM 0 (stoN 4) yesM (callM (quiet m__law_mask) (consM (varM 4) nilM)) [4]) (lstM nilM))
    (sqM (forM (rng1M (consM (opM shlG (cM (.int 1)) (varM 1)) nilM)) (stoN 4) (appM 3 (opM eqG (lcOM 2 (stoN 6) (bM (opM eqG (opM bandG (varM 6) (varM 4)) (cM (.int 0)))) (cM (.int 1)) [6]) (lstM nilM))))
    (sqM (asgM 5 (lstM nilM))
    (sqM (forM (rng1M (consM (opM shlG (cM (.int 1)) (varM 1)) nilM)) (stoN 4) (ifM (andM (bM (opM ixG (varM 3) (varM 4))) (bM (opM eqG (lcM (rng1M (consM (varM 1) nilM)) (stoN 7) (andM (iM (opM bandG (varM 4) (opM shlG (cM (.int 1)) (varM 7)))) (bM (opM ixG (varM 3) (opM subG (varM 4) (opM shlG (cM (.int 1)) (varM 7)))))) (cM (.int 1)) [7]) (lstM nilM)))) (appM 5 (cbM tupG (consM (lcM (rng1M (consM (varM 1) nilM)) (stoN 7) (iM (opM bandG (varM 4) (opM shlG (cM (.int 1)) (varM 7)))) (varM 7) [7]) nilM))) nxM))
    (retM (cbM tupG (consM (cbM sortG (consM (varM 5) nilM)) nilM)))))))
def m__law_blocker : En → RM Rv := runDef 2 6 b__law_blockerM
def b_is_withinM : En → RM Ot := (retM (opM eqG (cbM lenG (consM (lcOM 0 (stoN 2) (bM (opM notInG (varM 2) (varM 1))) (varM 2) [2]) nilM)) (cM (.int 0))))
def m_is_within : En → RM Rv := runDef 2 1 b_is_withinM
def b_lot_holdsM : En → RM Ot := (retM (opM gtG (cbM lenG (consM (lcOM 0 (stoN 2) (bM (callM (quiet m_is_within) (consM (varM 2) (consM (varM 1) nilM)))) (varM 2) [2]) nilM)) (cM (.int 0))))
def m_lot_holds : En → RM Rv := runDef 2 1 b_lot_holdsM
def b_least_lotsM : En → RM Ot := (sqM (asgM 1 (lstM nilM))
    (sqM (forM (seqM (sortKM (varM 0))) (stoN 2) (ifM (notM (bM (callM (quiet m_lot_holds) (consM (varM 1) (consM (varM 2) nilM))))) (appM 1 (varM 2)) nxM))
    (retM (cbM tupG (consM (cbM sortG (consM (varM 1) nilM)) nilM)))))
def m_least_lots : En → RM Rv := runDef 1 2 b_least_lotsM
def b_meetsM : En → RM Ot := (retM (opM gtG (cbM lenG (consM (lcOM 0 (stoN 2) (bM (opM inG (varM 2) (varM 1))) (varM 2) [2]) nilM)) (cM (.int 0))))
def m_meets : En → RM Rv := runDef 2 1 b_meetsM
def b_with_houseM : En → RM Ot := (retM (cbM tupG (consM (cbM sortG (consM (opM addG (varM 0) (tupM (consM (varM 1) nilM))) nilM)) nilM)))
def m_with_house : En → RM Rv := runDef 2 0 b_with_houseM
def b_blocker_ofM : En → RM Ot := (sqM (asgM 2 (tupM (consM (tupM nilM) nilM)))
    (sqM (forM (seqM (varM 0)) (stoN 3) (sqM (asgM 4 (lstM nilM))
    (sqM (forM (seqM (varM 2)) (stoN 5) (ifM (bM (callM (quiet m_meets) (consM (varM 5) (consM (varM 3) nilM)))) (appM 4 (varM 5)) (extM 4 (lcOM 3 (stoN 6) yesM (callM (quiet m_with_house) (consM (varM 5) (consM (varM 6) nilM))) [6]))))
    (asgM 2 (callM (quiet m_least_lots) (consM (varM 4) nilM))))))
    (retM (varM 2))))
def m_blocker_of : En → RM Rv := runDef 2 5 b_blocker_ofM
def b__law_meetsM : En → RM Ot := (retM (opM neG (lcOM 0 (stoN 2) (bM (opM inG (varM 2) (varM 1))) (cM (.int 1)) [2]) (lstM nilM)))
def m__law_meets : En → RM Rv := runDef 2 1 b__law_meetsM
def b_lawM : En → RM Ot := (sqM (forM (rng1M (consM (cbM maxG (consM (cM (.int 4)) (consM (cbM minG (consM (cbM lenG (consM (varM 0) nilM)) (consM (cM (.int 8)) nilM))) nilM))) nilM)) (stoN 1) (sqM (asgM 2 (callM (quiet m__law_box) (consM (varM 0) (consM (varM 1) nilM))))
    (sqM (unpM (stoT 2 (stosCons (stoN 3) (stosCons (stoN 4) stosNil))) (callM (quiet m__law_family) (consM (varM 2) (consM (cM (.int 7)) nilM))))
    (sqM (asgM 5 (callM (quiet m__law_blocker) (consM (varM 4) (consM (varM 3) nilM))))
    (sqM (asgM 6 (callM (quiet m_blocker_of) (consM (varM 4) (consM (varM 3) nilM))))
    (sqM (ifM (orM (notM (bM (callM (quiet (m__law_same 6)) (consM (varM 6) (consM (varM 5) nilM))))) (notM (bM (callM (quiet (m__law_same 6)) (consM (callKM (quiet m_blocker_of) 0 2 [1, 0] nilM (consM (varM 3) (consM (varM 4) nilM))) (consM (varM 5) nilM)))))) (retM (cM (.bool false))) nxM)
    (sqM (forM (seqM (varM 6)) (stoN 7) (ifM (bM (opM neG (lcOM 4 (stoN 8) (notM (bM (callM (quiet m__law_meets) (consM (varM 8) (consM (varM 7) nilM))))) (cM (.int 1)) [8]) (lstM nilM))) (retM (cM (.bool false))) nxM))
    (ifM (andM (bM (opM ltG (varM 3) (cM (.int 7)))) (notM (bM (callM (quiet (m__law_same 6)) (consM (callM (quiet m_blocker_of) (consM (varM 4) (consM (opM addG (varM 3) (cM (.int 1))) nilM))) (consM (varM 5) nilM)))))) (retM (cM (.bool false))) nxM))))))))
    (retM (callM (quiet (m__law_same 6)) (consM (tupM (consM (callM (quiet m_blocker_of) (consM (tupM (consM (tupM (consM (cM (.int 0)) (consM (cM (.int 1)) (consM (cM (.int 2)) nilM)))) nilM)) (consM (cM (.int 3)) nilM))) (consM (callM (quiet m_blocker_of) (consM (tupM (consM (tupM (consM (cM (.int 0)) nilM)) (consM (tupM (consM (cM (.int 1)) nilM)) (consM (tupM (consM (cM (.int 2)) nilM)) nilM)))) (consM (cM (.int 3)) nilM))) nilM))) (consM (tupM (consM (tupM (consM (tupM (consM (cM (.int 0)) nilM)) (consM (tupM (consM (cM (.int 1)) nilM)) (consM (tupM (consM (cM (.int 2)) nilM)) nilM)))) (consM (tupM (consM (tupM (consM (cM (.int 0)) (consM (cM (.int 1)) (consM (cM (.int 2)) nilM)))) nilM)) nilM))) nilM)))))
def m_law : En → RM Rv := runDef 1 8 b_lawM
end K68

namespace Fam
open PySem Pl
/-! ### the blocker is the row of all least lots that meet each lot -/
theorem leastF_sub : ∀ (l found : List Lot), ∃ s, leastF found l = found ++ s ∧ s.Sublist l
  | [], found => ⟨[], by rw [List.append_nil]; rfl, List.Sublist.refl _⟩
  | lot :: r, found => by
    unfold leastF
    cases e : holdsN found lot with
    | true =>
      obtain ⟨s, h1, h2⟩ := leastF_sub r found
      exact ⟨s, h1, h2.cons _⟩
    | false =>
      obtain ⟨s, h1, h2⟩ := leastF_sub r (found ++ [lot])
      exact ⟨lot :: s, by show leastF (found ++ [lot]) r = _; rw [h1, List.append_assoc]; rfl, h2.cons₂ _⟩
theorem leK_len {a b : Lot} (h : leK a b = true) : a.length ≤ b.length := by
  unfold leK ltK at h
  by_cases hl : a.length ≤ b.length
  · exact hl
  · exfalso
    have h1 : Nat.beq b.length a.length = false := by
      cases e : Nat.beq b.length a.length with
      | false => rfl
      | true => have := Nat.eq_of_beq_eq_true e; omega
    have h2 : Nat.blt b.length a.length = true := (Nat.blt_eq (x := b.length) (y := a.length)).mpr (by omega)
    simp only [h1, h2, cond_false, Bool.not_true] at h
    cases h
theorem well_least {L : List Lot} (h : ∀ l ∈ L, Inc l) : Well (leastN L) := by
  have hm : ∀ l ∈ leastF [] (isort leK L), l ∈ L := fun l hl => by
    rcases leastF_mem (isort leK L) [] l hl with q | q
    · cases q
    · exact (isort_perm L).mem_iff.mp q
  have p1 := leastF_anti (isort leK L) [] List.Pairwise.nil
  obtain ⟨s, e1, e2⟩ := leastF_sub (isort leK L) []
  have p2 : (leastF [] (isort leK L)).Pairwise fun a b => leK a b = true := by
    rw [e1]
    exact (isort_sorted ord_leK L).sublist e2
  have key : ∀ a ∈ leastF [] (isort leK L), ∀ b ∈ leastF [] (isort leK L), withinN a b = true → a = b := fun a ha b hb hw => by
    rcases pw_two (List.Pairwise.and p1 p2) a ha b hb with q | ⟨q, _⟩ | ⟨q, q2⟩
    · exact q
    · rw [hw] at q; cases q
    · have := inc_eq (h a (hm a ha)) (h b (hm b hb)) ((within_iff a b).mp hw) (leK_len q2)
      exact this
  refine ⟨fun l hl => h l (leastN_mem hl), fun a ha b hb => key a ((isort_perm _).mem_iff.mp ha) b ((isort_perm _).mem_iff.mp hb), isort_sorted ord_leL _, (isort_perm _).nodup_iff.mpr ?_⟩
  refine List.Pairwise.imp (fun {a b} hab e => ?_) p1
  subst e
  rw [within_refl] at hab
  cases hab
theorem grown_inc {found : List Lot} {lot : Lot} (h : ∀ l ∈ found, Inc l) : ∀ l ∈ grownN found lot, Inc l := fun l hl => by
  obtain ⟨one, ho, h2⟩ := grown_mem.mp hl
  rcases h2 with ⟨_, rfl⟩ | ⟨hm, x, hx, rfl⟩
  · exact h _ ho
  · refine isort_inc (List.nodup_append.mpr ⟨(h one ho).nd, List.pairwise_singleton _ _, fun a ha b hb e => ?_⟩)
    rw [List.mem_singleton.mp hb] at e
    subst e
    rw [(meets_iff one lot).mpr ⟨a, ha, hx⟩] at hm
    cases hm
theorem blk_well : ∀ {F found out : List Lot}, Well found → blkC found F = some out → Well out
  | [], found, out, h, e => by
    cases e
    exact h
  | lot :: r, found, out, h, e => by
    unfold blkC at e
    cases c : (Nat.ble (grownN found lot).length 100000 && (grownN found lot).all fun l => Nat.ble l.length 900) with
    | false => rw [c] at e; cases e
    | true =>
      rw [c] at e
      exact blk_well (well_least (grown_inc h.inc)) e
theorem well_start : Well [[]] := well_one List.Pairwise.nil
def Hits (F : List Lot) (l : Lot) : Prop := ∀ f ∈ F, meetsN l f = true
def Least (F : List Lot) (n : Nat) (l : Lot) : Prop := Inc l ∧ (∀ x ∈ l, x < n) ∧ Hits F l ∧ ∀ h ∈ l, ¬ Hits F (l.filter fun x => !Nat.beq x h)
theorem without_mem (l : Lot) (h x : Nat) : x ∈ l.filter (fun x => !Nat.beq x h) ↔ x ∈ l ∧ x ≠ h := by
  rw [List.mem_filter, Bool.not_eq_true']
  refine and_congr_right fun _ => ?_
  cases e : Nat.beq x h with
  | true => exact ⟨fun z => (by cases z), fun z => absurd (Nat.eq_of_beq_eq_true e) z⟩
  | false => exact ⟨fun _ z => (by rw [z, Nat.beq_refl] at e; cases e), fun _ => rfl⟩
theorem blk_iff {n k : Nat} {F B : List Lot} (b : BInv n F B k) (w : Well B) (l : Lot) : l ∈ B ↔ Least F n l := by
  constructor
  · intro hl
    refine ⟨w.inc l hl, b.lt l hl, b.hit l hl, fun h hh z => ?_⟩
    obtain ⟨t, ht, hw⟩ := b.all _ z
    have hw' := (within_iff t _).mp hw
    have e := w.anti t ht l hl ((within_iff t l).mpr fun x hx => ((without_mem l h x).mp (hw' x hx)).1)
    exact ((without_mem l h h).mp (hw' h (by rw [e]; exact hh))).2 rfl
  · rintro ⟨h1, h2, h3, h4⟩
    obtain ⟨t, ht, hw⟩ := b.all l h3
    have hw' := (within_iff t l).mp hw
    have hs : ∀ x ∈ l, x ∈ t := fun x hx => Classical.byContradiction fun z => h4 x hx fun f hf => by
      obtain ⟨y, y1, y2⟩ := (meets_iff t f).mp (b.hit t ht f hf)
      exact (meets_iff _ f).mpr ⟨y, (without_mem l x y).mpr ⟨hw' y y1, fun e => z (by rw [← e]; exact y1)⟩, y2⟩
    have e := inc_eq h1 (w.inc t ht) hs (nodup_len t l (w.inc t ht).nd hw')
    rw [e]
    exact ht
theorem blk_eq {n k : Nat} {F B M : List Lot} (b : BInv n F B k) (w : Well B) (hM : M.Nodup) (h : ∀ l, l ∈ M ↔ Least F n l) : isort leL M = B :=
  sorted_uniq ord_leL (isort_sorted ord_leL M) w.sorted ((isort_perm M).trans ((List.perm_ext_iff_of_nodup hM w.nd).mpr fun l => (h l).trans (blk_iff b w l).symm))
/-! ### lots by their bits -/
def maskN (l : Lot) : Nat := (l.map fun h => 2 ^ h).sum
def bitsN (n x : Nat) : Lot := (List.range n).filter fun h => !Nat.beq (Nat.land x (2 ^ h)) 0
def subs : List Nat → List Lot
  | [] => [[]]
  | h :: r => subs r ++ (subs r).map fun l => h :: l
theorem subs_of : ∀ (hs l : List Nat), l.Sublist hs → l ∈ subs hs
  | _, _, .slnil => List.mem_cons_self
  | _, _, .cons a h => List.mem_append_left _ (subs_of _ _ h)
  | _, _, .cons₂ a h => List.mem_append_right _ (List.mem_map.mpr ⟨_, subs_of _ _ h, rfl⟩)
theorem inc_sub {n : Nat} {l : Lot} (h : Inc l) (hl : ∀ x ∈ l, x < n) : l ∈ subs (List.range n) := by
  refine subs_of _ _ ?_
  have e : l = (List.range n).filter fun x => memN x l := by
    refine List.Perm.eq_of_pairwise (le := (· < ·)) (fun x y _ _ h1 h2 => absurd h1 (Nat.lt_asymm h2)) h (List.pairwise_lt_range.filter _) ((List.perm_ext_iff_of_nodup h.nd (List.nodup_range.filter _)).mpr fun x => ?_)
    rw [List.mem_filter, memN_iff, List.mem_range]
    exact ⟨fun q => ⟨hl x q, q⟩, fun q => q.2⟩
  rw [e]
  exact List.filter_sublist
theorem bits_all : ∀ n ∈ List.range 8, ∀ l ∈ subs (List.range n), maskN l < 2 ^ n ∧ bitsN n (maskN l) = l := by decide +kernel
theorem bits_mask : ∀ n ∈ List.range 8, ∀ x ∈ List.range (2 ^ n), maskN (bitsN n x) = x := by decide +kernel
theorem bits_meet : ∀ l ∈ subs (List.range 7), ∀ x ∈ List.range 128, (!Nat.beq (Nat.land (maskN l) x) 0) = meetsN (bitsN 7 x) l := by decide +kernel
theorem bits_low : ∀ n ∈ List.range 8, ∀ x ∈ List.range (2 ^ n), bitsN 7 x = bitsN n x := by decide +kernel
theorem bits_off : ∀ x ∈ List.range 128, ∀ h ∈ List.range 7, Nat.beq (Nat.land x (2 ^ h)) 0 = false → 2 ^ h ≤ x ∧ bitsN 7 (x - 2 ^ h) = (bitsN 7 x).filter fun y => !Nat.beq y h := by decide +kernel
def metN (F : List Lot) (x : Nat) : Bool := (F.map maskN).all fun m => !Nat.beq (Nat.land m x) 0
def takN (F : List Lot) (x h : Nat) : Bool := !Nat.beq (Nat.land x (2 ^ h)) 0 && metN F (x - 2 ^ h)
def okN (n : Nat) (F : List Lot) (x : Nat) : Bool := metN F x && (List.range n).all fun h => !takN F x h
def forceN (n : Nat) (F : List Lot) : List Lot := ((List.range (2 ^ n)).filter (okN n F)).map (bitsN n)
structure Fits (n : Nat) (F : List Lot) : Prop where
  n7 : n ≤ 7
  inc : ∀ l ∈ F, Inc l
  lt : ∀ l ∈ F, ∀ x ∈ l, x < n
theorem p128 {n : Nat} (h : n ≤ 7) : 2 ^ n ≤ 128 := pow_le h
theorem met_iff {n x : Nat} {F : List Lot} (h : Fits n F) (hx : x < 2 ^ n) : metN F x = true ↔ Hits F (bitsN n x) := by
  have hx' : x < 128 := Nat.lt_of_lt_of_le hx (p128 h.n7)
  unfold metN Hits
  rw [List.all_map, List.all_eq_true]
  refine forall_congr' fun f => forall_congr' fun hf => ?_
  have e := bits_meet f (inc_sub (h.inc f hf) fun y hy => Nat.lt_of_lt_of_le (h.lt f hf y hy) h.n7) x (List.mem_range.mpr hx')
  rw [← bits_low n (List.mem_range.mpr (by have := h.n7; omega)) x (List.mem_range.mpr hx), ← e]
  exact Iff.rfl
theorem bits_mem (n x h : Nat) : h ∈ bitsN n x ↔ h < n ∧ Nat.beq (Nat.land x (2 ^ h)) 0 = false := by
  unfold bitsN
  rw [List.mem_filter, List.mem_range, Bool.not_eq_true']
theorem bits_inc (n x : Nat) : Inc (bitsN n x) := List.pairwise_lt_range.filter _
theorem ok_iff {n x : Nat} {F : List Lot} (h : Fits n F) (hx : x < 2 ^ n) : okN n F x = true ↔ Least F n (bitsN n x) := by
  have n8 : n ∈ List.range 8 := List.mem_range.mpr (by have := h.n7; omega)
  have hx' : x < 128 := Nat.lt_of_lt_of_le hx (p128 h.n7)
  have off : ∀ y, y < n → Nat.beq (Nat.land x (2 ^ y)) 0 = false → (metN F (x - 2 ^ y) = true ↔ Hits F ((bitsN n x).filter fun z => !Nat.beq z y)) := fun y hy hb => by
    obtain ⟨h1, h2⟩ := bits_off x (List.mem_range.mpr hx') y (List.mem_range.mpr (Nat.lt_of_lt_of_le hy h.n7)) hb
    have hlt : x - 2 ^ y < 2 ^ n := Nat.lt_of_le_of_lt (Nat.sub_le _ _) hx
    rw [met_iff h hlt, ← bits_low n n8 _ (List.mem_range.mpr hlt), h2, bits_low n n8 x (List.mem_range.mpr hx)]
  unfold okN Least
  rw [Bool.and_eq_true, met_iff h hx, List.all_eq_true]
  constructor
  · rintro ⟨h1, h2⟩
    refine ⟨bits_inc n x, fun y hy => ((bits_mem n x y).mp hy).1, h1, fun y hy z => ?_⟩
    obtain ⟨q1, q2⟩ := (bits_mem n x y).mp hy
    have := h2 y (List.mem_range.mpr q1)
    unfold takN at this
    rw [q2, (off y q1 q2).mpr z] at this
    cases this
  · rintro ⟨_, _, h1, h2⟩
    refine ⟨h1, fun y hy => ?_⟩
    have q1 := List.mem_range.mp hy
    unfold takN
    cases q2 : Nat.beq (Nat.land x (2 ^ y)) 0 with
    | true => rfl
    | false =>
      cases q3 : metN F (x - 2 ^ y) with
      | false => rfl
      | true => exact absurd ((off y q1 q2).mp q3) (h2 y ((bits_mem n x y).mpr ⟨q1, q2⟩))
theorem force_iff {n : Nat} {F : List Lot} (h : Fits n F) (l : Lot) : l ∈ forceN n F ↔ Least F n l := by
  have n8 : n ∈ List.range 8 := List.mem_range.mpr (by have := h.n7; omega)
  unfold forceN
  rw [List.mem_map]
  constructor
  · rintro ⟨x, hx, rfl⟩
    obtain ⟨h1, h2⟩ := List.mem_filter.mp hx
    exact (ok_iff h (List.mem_range.mp h1)).mp h2
  · intro hl
    obtain ⟨h1, h2⟩ := bits_all n n8 l (inc_sub hl.1 hl.2.1)
    exact ⟨maskN l, List.mem_filter.mpr ⟨List.mem_range.mpr h1, (ok_iff h h1).mpr (by rw [h2]; exact hl)⟩, h2⟩
theorem force_nodup {n : Nat} (n7 : n ≤ 7) (F : List Lot) : (forceN n F).Nodup := by
  have n8 : n ∈ List.range 8 := List.mem_range.mpr (by omega)
  refine List.pairwise_map.mpr (List.Pairwise.imp_of_mem (fun {a b} ha hb hne e => ?_) (List.Pairwise.filter _ (List.nodup_range (n := 2 ^ n))))
  have w1 := bits_mask n n8 a (List.mem_filter.mp ha).1
  have w2 := bits_mask n n8 b (List.mem_filter.mp hb).1
  exact hne (by rw [← w1, ← w2, e])
theorem force_eq {n : Nat} {F B : List Lot} (h : Fits n F) (hB : BInv n F B F.length) (e : blkC [[]] F = some B) : isort leL (forceN n F) = B :=
  blk_eq hB (blk_well well_start e) (force_nodup h.n7 F) (force_iff h)
end Fam

namespace Fam
open PySem PySem.Spec PyProof.Rows L2 Pl
/-! ### the blocker by force -/
theorem sum_nat : ∀ l : List Nat, (l.map Int.ofNat).sum = ((l.sum : Nat) : Int)
  | [] => rfl
  | n :: l => by
    rw [List.map_cons, List.sum_cons, List.sum_cons, sum_nat l, Int.natCast_add]
    rfl
theorem cb_list {ρ ρ1 : En} {g : List PyData → Option Rv} {f : En → RM Rv} {ds : List PyData} {z : Rv} (h : f ρ = some (.ok (.nw ds, ρ1))) (hg : g [.list ds] = some z) : cbM g (consM f nilM) ρ = some (.ok (z, ρ1)) := by
  unfold cbM consM
  rw [h]
  dsimp only [RM.bnd]
  show ob (g [PyData.list ds]) ρ1 = _
  rw [hg]
  rfl
theorem lmask_ok {l : Lot} (hl : ∀ x ∈ l, x ≤ 1000) (hn : l.length ≤ 1000) : K68.m__law_mask [.va (lotD l)] = some (.ok (.va (nD (maskN l)), [.va (lotD l)])) := by
  have hL := lcL_map nD nD (i := 1) (test := yesM) (elt := opM shlG (cM (.int 1)) (varM 1)) (ρ0 := [.va (lotD l), .un]) (fun _ => true) (fun h => 2 ^ h) rfl l [] fun h hm =>
    ⟨rfl, fun _ => ⟨_, op_vv (d := .int 1) (e := nD h) rfl rfl (shl_nat h (hl h hm)), rfl⟩⟩
  rw [List.nil_append, List.filter_eq_self.mpr fun _ _ => rfl] at hL
  have hlc : lcOM 0 (stoN 1) yesM (opM shlG (cM (.int 1)) (varM 1)) [1] [.va (lotD l), .un] = some (.ok (.nw ((l.map fun h => 2 ^ h).map nD), [.va (lotD l), .un])) :=
    lc_va (k := 0) (ρ := [.va (lotD l), .un]) (vs := [1]) (d := lotD l) (items := l.map nD) rfl rfl (by rw [List.length_map]; omega) rfl hL
  refine runDef_rt rfl (ρ := [.va (lotD l), .un]) (ret_of (cb_list hlc ?_)) (r := .va (nD (maskN l))) rfl rfl
  unfold sumG
  dsimp only
  rw [intsD_nat]
  dsimp only
  rw [sum_nat]
  rfl
theorem band_nat (a b : Nat) : bandG (nD a) (nD b) = some (.va (nD (Nat.land a b))) := by
  show some (Rv.va (.int (Builtin.bitAnd (a : Int) (b : Int)))) = _
  unfold Builtin.bitAnd
  rw [decide_eq_true (Int.natCast_nonneg a), decide_eq_true (Int.natCast_nonneg b)]
  rfl
theorem i_va {ρ ρ1 : En} {f : En → RM Rv} {a : Nat} (h : f ρ = some (.ok (.va (nD a), ρ1))) : iM f ρ = some (.ok (!Nat.beq a 0, ρ1)) := by
  unfold iM
  rw [h]
  show some (Except.ok (((a : Int) != 0), ρ1)) = _
  cases a <;> rfl
theorem and_sc {ρ : En} {s t : En → RM Bool} {a b : Bool} (h : s ρ = some (.ok (a, ρ))) (h2 : a = true → t ρ = some (.ok (b, ρ))) : andM s t ρ = some (.ok (a && b, ρ)) := by
  unfold Pl.andM
  rw [h]
  cases a with
  | true => exact h2 rfl
  | false => rfl
/-! first loop: which rows meet all -/
def mA_body : En → RM Ot := appM 3 (opM eqG (lcOM 2 (stoN 6) (bM (opM eqG (opM bandG (varM 6) (varM 4)) (cM (.int 0)))) (cM (.int 1)) [6]) (lstM nilM))
def metM (M : List Nat) (x : Nat) : Bool := M.all fun m => !Nat.beq (Nat.land m x) 0
theorem mA_loop {A B : Sl} {M : List Nat} (hM : M.length ≤ 1000) : ∀ (xs : List Nat) (bs : List Bool) (x4 : Sl), bs.length + xs.length ≤ 1000 → ∃ y4, forL (stoN 4) mA_body (xs.map nD) [A, B, .ow 0 (M.map nD), .ow 0 (bs.map PyData.bool), x4, .un, .un, .un] = some (.ok (.nx, [A, B, .ow 0 (M.map nD), .ow 0 ((bs ++ xs.map (metM M)).map PyData.bool), y4, .un, .un, .un]))
  | [], bs, x4, _ => ⟨x4, by rw [show bs ++ ([] : List Nat).map (metM M) = bs by simp]; rfl⟩
  | x :: xs, bs, x4, h => by
    rw [List.length_cons] at h
    let ρ : En := [A, B, .ow 0 (M.map nD), .ow 0 (bs.map PyData.bool), .va (nD x), .un, .un, .un]
    have hL := lcL_map nD PyData.int (i := 6) (test := bM (opM eqG (opM bandG (varM 6) (varM 4)) (cM (.int 0)))) (elt := cM (.int 1)) (ρ0 := [A, B, .un, .ow 0 (bs.map PyData.bool), .va (nD x), .un, .un, .un]) (fun m => decide (Nat.land m x = 0)) (fun _ => (1 : Int)) rfl M [] fun m hm =>
      ⟨b_va (op_vv (d := nD (Nat.land m x)) (e := .int ((0 : Nat) : Int)) (op_vv (d := nD m) (e := nD x) rfl rfl (band_nat m x)) rfl (eqG_nat' _ 0)), fun _ => ⟨_, rfl, rfl⟩⟩
    rw [List.nil_append] at hL
    have hlc : lcOM 2 (stoN 6) (bM (opM eqG (opM bandG (varM 6) (varM 4)) (cM (.int 0)))) (cM (.int 1)) [6] ρ = some (.ok (.nw (((M.filter fun m => decide (Nat.land m x = 0)).map fun _ => (1 : Int)).map PyData.int), ρ)) :=
      lc_ow (k := 2) (j := 0) (ρ := ρ) (vs := [6]) (items := M.map nD) rfl (by rw [List.length_map]; omega) rfl hL
    have he : (((M.filter fun m => decide (Nat.land m x = 0)).map fun _ => (1 : Int)).map PyData.int).isEmpty = metM M x := by
      rw [List.isEmpty_map, List.isEmpty_map, filter_empty]
      unfold metM
      congr 1
      funext m
      congr 1
      cases e : Nat.beq (Nat.land m x) 0 with
      | true => exact decide_eq_true (Nat.eq_of_beq_eq_true e)
      | false => exact decide_eq_false fun z => by rw [z] at e; cases e
    have hop := op_nw hlc (es := []) (fb := lstM nilM) rfl (eq_nil_of rfl (shaped_ints _))
    rw [he] at hop
    have hb : mA_body ρ = some (.ok (.nx, [A, B, .ow 0 (M.map nD), .ow 0 ((bs ++ [metM M x]).map PyData.bool), .va (nD x), .un, .un, .un])) := by
      unfold mA_body appM
      rw [hop]
      show ck (few (bs.map PyData.bool)) (some (Except.ok (Ot.nx, [A, B, .ow 0 (M.map nD), .ow 0 (bs.map PyData.bool ++ [PyData.bool (metM M x)]), .va (nD x), .un, .un, .un]))) = _
      rw [few_of (by rw [List.length_map]; omega), List.map_append]
      rfl
    obtain ⟨y4, hy⟩ := mA_loop hM (A := A) (B := B) xs (bs ++ [metM M x]) (.va (nD x)) (by rw [List.length_append]; simp; omega)
    refine ⟨y4, ?_⟩
    rw [List.map_cons]
    unfold forL
    dsimp only [stoN, List.set]
    rw [show mA_body [A, B, .ow 0 (M.map nD), .ow 0 (bs.map PyData.bool), .va (nD x), .un, .un, .un] = _ from hb]
    refine hy.trans ?_
    rw [List.map_cons, List.append_assoc]
    rfl
/-! second loop: which of them are least -/
def bitT : En → RM Bool := iM (opM bandG (varM 4) (opM shlG (cM (.int 1)) (varM 7)))
def mB_lc : En → RM Rv := lcM (rng1M (consM (varM 1) nilM)) (stoN 7) (Pl.andM bitT (bM (opM ixG (varM 3) (opM subG (varM 4) (opM shlG (cM (.int 1)) (varM 7)))))) (cM (.int 1)) [7]
def mB_body : En → RM Ot := ifM (Pl.andM (bM (opM ixG (varM 3) (varM 4))) (bM (opM eqG mB_lc (lstM nilM)))) (appM 5 (cbM tupG (consM (lcM (rng1M (consM (varM 1) nilM)) (stoN 7) bitT (varM 7) [7]) nilM))) nxM
theorem bit_ok {A B C D E G : Sl} {x h : Nat} (hh : h ≤ 1000) : bitT [A, B, C, D, .va (nD x), E, G, .va (nD h)] = some (.ok (!Nat.beq (Nat.land x (2 ^ h)) 0, [A, B, C, D, .va (nD x), E, G, .va (nD h)])) :=
  i_va (op_vv (d := nD x) (e := nD (2 ^ h)) rfl (op_vv (d := .int 1) (e := nD h) rfl rfl (shl_nat h hh)) (band_nat x _))
theorem met_at {F : List Lot} {N y : Nat} (h : y < N) : ixG (.list (((List.range N).map (metN F)).map PyData.bool)) (nD y) = some (.va (.bool (metN F y))) := by
  have hl : y < (((List.range N).map (metN F)).map PyData.bool).length := by simp [h]
  rw [ixG_of (d := .list (((List.range N).map (metN F)).map PyData.bool)) rfl hl]
  simp
theorem land_le {x h : Nat} (e : Nat.beq (Nat.land x (2 ^ h)) 0 = false) : 2 ^ h ≤ x := by
  have h1 : x &&& 2 ^ h ≠ 0 := fun z => by
    have : Nat.land x (2 ^ h) = 0 := z
    rw [this] at e
    cases e
  have h2 : x.testBit h = true := by
    cases q : x.testBit h with
    | true => rfl
    | false =>
      exfalso
      apply h1
      apply Nat.eq_of_testBit_eq
      intro i
      rw [Nat.testBit_and, Nat.testBit_two_pow, Nat.zero_testBit]
      by_cases hi : h = i
      · subst hi
        rw [q]
        rfl
      · rw [decide_eq_false hi, Bool.and_false]
  exact Nat.ge_two_pow_of_testBit h2
theorem mB_loop {F : List Lot} {A C : Sl} {n : Nat} (n7 : n ≤ 7) : ∀ (xs : List Nat) (found : List Lot) (x4 : Sl), (∀ x ∈ xs, x < 2 ^ n) → found.length + xs.length ≤ 1000 →
    ∃ y4, forL (stoN 4) mB_body (xs.map nD) [A, .va (nD n), C, .ow 0 (((List.range (2 ^ n)).map (metN F)).map PyData.bool), x4, .ow 0 (found.map lotD), .un, .un] =
      some (.ok (.nx, [A, .va (nD n), C, .ow 0 (((List.range (2 ^ n)).map (metN F)).map PyData.bool), y4, .ow 0 ((found ++ (xs.filter (okN n F)).map (bitsN n)).map lotD), .un, .un]))
  | [], found, x4, _, _ => ⟨x4, by rw [show found ++ (([] : List Nat).filter (okN n F)).map (bitsN n) = found by simp]; rfl⟩
  | x :: xs, found, x4, hx, h => by
    rw [List.length_cons] at h
    have x1 := hx x List.mem_cons_self
    let T := ((List.range (2 ^ n)).map (metN F)).map PyData.bool
    let ρ : En := [A, .va (nD n), C, .ow 0 T, .va (nD x), .ow 0 (found.map lotD), .un, .un]
    have hrg : rng1M (consM (varM 1) nilM) ρ = some (.ok ((List.range n).map nD, ρ)) := rng_of (m := n) rfl (by omega)
    have hL := lcL_map nD PyData.int (i := 7) (test := Pl.andM bitT (bM (opM ixG (varM 3) (opM subG (varM 4) (opM shlG (cM (.int 1)) (varM 7)))))) (elt := cM (.int 1)) (ρ0 := ρ) (takN F x) (fun _ => (1 : Int)) rfl (List.range n) [] fun y hy => by
      have hy' := List.mem_range.mp hy
      refine ⟨and_sc (bit_ok (by omega)) fun hb => ?_, fun _ => ⟨_, rfl, rfl⟩⟩
      have hle : 2 ^ y ≤ x := land_le (by rw [Bool.not_eq_true'] at hb; exact hb)
      have hs : opM subG (varM 4) (opM shlG (cM (.int 1)) (varM 7)) [A, .va (nD n), C, .ow 0 T, .va (nD x), .ow 0 (found.map lotD), .un, .va (nD y)] = some (.ok (.va (nD (x - 2 ^ y)), [A, .va (nD n), C, .ow 0 T, .va (nD x), .ow 0 (found.map lotD), .un, .va (nD y)])) :=
        op_vv (d := nD x) (e := nD (2 ^ y)) rfl (op_vv (d := .int 1) (e := nD y) rfl rfl (shl_nat y (by omega))) (sub_nat hle)
      exact b_va (op_any (ra := .sl 3) (d := .list T) rfl hs rfl rfl (met_at (Nat.lt_of_le_of_lt (Nat.sub_le _ _) x1)))
    rw [List.nil_append] at hL
    have hlc : mB_lc ρ = some (.ok (.nw ((((List.range n).filter (takN F x)).map fun _ => (1 : Int)).map PyData.int), ρ)) := lcM_of hrg (by rw [List.length_map, List.length_range]; omega) rfl hL
    have he : ((((List.range n).filter (takN F x)).map fun _ => (1 : Int)).map PyData.int).isEmpty = (List.range n).all fun y => !takN F x y := by
      rw [List.isEmpty_map, List.isEmpty_map, filter_empty]
    have hop := op_nw hlc (es := []) (fb := lstM nilM) rfl (eq_nil_of rfl (shaped_ints _))
    rw [he] at hop
    have h1 : bM (opM ixG (varM 3) (varM 4)) ρ = some (.ok (metN F x, ρ)) := b_va (op_any (ra := .sl 3) (rb := .va (nD x)) (d := .list T) rfl rfl rfl rfl (met_at x1))
    have ht : Pl.andM (bM (opM ixG (varM 3) (varM 4))) (bM (opM eqG mB_lc (lstM nilM))) ρ = some (.ok (okN n F x, ρ)) := and_tt (ρ2 := []) h1 (b_va hop)
    have hL2 := lcL_map nD nD (i := 7) (test := bitT) (elt := varM 7) (ρ0 := ρ) (fun y => !Nat.beq (Nat.land x (2 ^ y)) 0) id rfl (List.range n) [] fun y hy => by
      have hy' := List.mem_range.mp hy
      exact ⟨bit_ok (by omega), fun _ => ⟨_, rfl, rfl⟩⟩
    rw [List.nil_append, List.map_id] at hL2
    have hlc2 : cbM tupG (consM (lcM (rng1M (consM (varM 1) nilM)) (stoN 7) bitT (varM 7) [7]) nilM) ρ = some (.ok (.va (lotD (bitsN n x)), ρ)) := tup_of (lcM_of hrg (by rw [List.length_map, List.length_range]; omega) rfl hL2)
    have hb : mB_body ρ = some (.ok (.nx, [A, .va (nD n), C, .ow 0 T, .va (nD x), .ow 0 ((bif okN n F x then found ++ [bitsN n x] else found).map lotD), .un, .un])) := by
      unfold mB_body
      rw [if_tt ht]
      cases okN n F x with
      | false => rfl
      | true =>
        rw [if_pos rfl]
        unfold appM
        rw [hlc2]
        show ck (few (found.map lotD)) (some (Except.ok (Ot.nx, [A, .va (nD n), C, .ow 0 T, .va (nD x), .ow 0 (found.map lotD ++ [lotD (bitsN n x)]), .un, .un]))) = _
        rw [few_of (by rw [List.length_map]; omega)]
        show some (Except.ok (Ot.nx, [A, .va (nD n), C, .ow 0 T, .va (nD x), .ow 0 (found.map lotD ++ [lotD (bitsN n x)]), .un, .un])) = _
        rw [show found.map lotD ++ [lotD (bitsN n x)] = (found ++ [bitsN n x]).map lotD by simp]
        rfl
    obtain ⟨y4, hy⟩ := mB_loop (F := F) (A := A) (C := C) n7 xs (bif okN n F x then found ++ [bitsN n x] else found) (.va (nD x)) (fun y hy => hx y (List.mem_cons_of_mem _ hy)) (by
      cases okN n F x with
      | true => show (found ++ [bitsN n x]).length + _ ≤ _; rw [List.length_append]; simp; omega
      | false => show found.length + _ ≤ _; omega)
    refine ⟨y4, ?_⟩
    rw [List.map_cons]
    unfold forL
    dsimp only [stoN, List.set]
    rw [show mB_body [A, .va (nD n), C, .ow 0 (((List.range (2 ^ n)).map (metN F)).map PyData.bool), .va (nD x), .ow 0 (found.map lotD), .un, .un] = _ from hb]
    refine hy.trans ?_
    cases e : okN n F x with
    | true =>
      rw [List.filter_cons_of_pos e]
      show some (Except.ok (Ot.nx, [A, .va (nD n), C, .ow 0 T, y4, .ow 0 (((found ++ [bitsN n x]) ++ (xs.filter (okN n F)).map (bitsN n)).map lotD), .un, .un])) = _
      rw [List.append_assoc]
      rfl
    | false =>
      rw [List.filter_cons_of_neg (by rw [e]; exact Bool.false_ne_true)]
      rfl
end Fam

namespace Fam
open PySem PySem.Spec PyProof.Rows L2 Pl
theorem FamOK.fits {n : Nat} {F : List Lot} (h : FamOK n F) : Fits n F := ⟨h.n7, h.inc, fun l hl => (h.lot l hl).2.2⟩
theorem shl_of {ρ ρ1 : En} {f : En → RM Rv} {n : Nat} (h : f ρ = some (.ok (.va (nD n), ρ1))) (hn : n ≤ 7) : rng1M (consM (opM shlG (cM (.int 1)) f) nilM) ρ = some (.ok ((List.range (2 ^ n)).map nD, ρ1)) :=
  rng_of (m := 2 ^ n) (op_vv (d := .int 1) (e := nD n) rfl h (shl_nat n (by omega))) (Nat.le_trans (pow_le hn) (by decide))
theorem lblk_ok {n : Nat} {F : List Lot} (hF : FamOK n F) : K68.m__law_blocker [.va (famD F), .va (nD n)] = some (.ok (.va (famD (isort leL (forceN n F))), [.va (famD F), .va (nD n)])) := by
  have n7 := hF.n7
  have hp := pow_le n7
  have hlen := hF.len
  let R := List.range (2 ^ n)
  let M := F.map maskN
  have hL := lcL_map lotD nD (i := 4) (test := yesM) (elt := callM (quiet K68.m__law_mask) (consM (varM 4) nilM)) (ρ0 := [.va (famD F), .va (nD n), .un, .un, .un, .un, .un, .un]) (fun _ => true) maskN rfl F [] fun l hl =>
    ⟨rfl, fun _ => ⟨_, callM_va [lotD l] rfl (lmask_ok (fun x hx => by have := (hF.lot l hl).2.2 x hx; omega) (by have := (hF.lot l hl).2.1; omega)) rfl, rfl⟩⟩
  rw [List.nil_append, List.filter_eq_self.mpr fun _ _ => rfl] at hL
  have hlc : lcOM 0 (stoN 4) yesM (callM (quiet K68.m__law_mask) (consM (varM 4) nilM)) [4] [.va (famD F), .va (nD n), .un, .un, .un, .un, .un, .un] = some (.ok (.nw (M.map nD), [.va (famD F), .va (nD n), .un, .un, .un, .un, .un, .un])) :=
    lc_va (k := 0) (ρ := [.va (famD F), .va (nD n), .un, .un, .un, .un, .un, .un]) (vs := [4]) (d := famD F) (items := F.map lotD) rfl rfl (by rw [List.length_map]; omega) rfl hL
  have p1 : parXM 2 3 (lcOM 0 (stoN 4) yesM (callM (quiet K68.m__law_mask) (consM (varM 4) nilM)) [4]) (lstM nilM) [.va (famD F), .va (nD n), .un, .un, .un, .un, .un, .un] = some (.ok (.nx, [.va (famD F), .va (nD n), .ow 0 (M.map nD), .ow 0 [], .un, .un, .un, .un])) := by
    unfold parXM
    rw [hlc]
    rfl
  obtain ⟨y4, h1⟩ := mA_loop (A := .va (famD F)) (B := .va (nD n)) (M := M) (by rw [List.length_map]; omega) R [] .un (by rw [List.length_range, List.length_nil]; omega)
  rw [List.nil_append] at h1
  have l1 := (for_of (sto := stoN 4) (body := mA_body) (shl_of (ρ := [.va (famD F), .va (nD n), .ow 0 (M.map nD), .ow 0 [], .un, .un, .un, .un]) (f := varM 1) rfl n7)).trans h1
  let T := (R.map (metN F)).map PyData.bool
  have p2 : asgM 5 (lstM nilM) [.va (famD F), .va (nD n), .ow 0 (M.map nD), .ow 0 T, y4, .un, .un, .un] = some (.ok (.nx, [.va (famD F), .va (nD n), .ow 0 (M.map nD), .ow 0 T, y4, .ow 0 [], .un, .un])) := rfl
  obtain ⟨z4, h2⟩ := mB_loop (F := F) (A := .va (famD F)) (C := .ow 0 (M.map nD)) n7 R [] y4 (fun x hx => List.mem_range.mp hx) (by rw [List.length_range, List.length_nil]; omega)
  rw [List.nil_append] at h2
  have l2 := (for_of (sto := stoN 4) (body := mB_body) (shl_of (ρ := [.va (famD F), .va (nD n), .ow 0 (M.map nD), .ow 0 T, y4, .ow 0 [], .un, .un]) (f := varM 1) rfl n7)).trans h2
  have fl : ((forceN n F).map lotD).length ≤ 100000 := by
    unfold forceN
    rw [List.length_map, List.length_map]
    have := List.length_filter_le (okN n F) (List.range (2 ^ n))
    rw [List.length_range] at this
    omega
  refine runDef_rt rfl (ρ := [.va (famD F), .va (nD n), .ow 0 (M.map nD), .ow 0 T, z4, .ow 0 ((forceN n F).map lotD), .un, .un]) ?_ (r := .va (.tuple (sortD ((forceN n F).map lotD)))) (by rw [sort_lots]; rfl) rfl
  show K68.b__law_blockerM [.va (famD F), .va (nD n), .un, .un, .un, .un, .un, .un] = _
  unfold K68.b__law_blockerM
  rw [seq_nx p1]
  show sqM (Pl.forM (rng1M (consM (opM shlG (cM (.int 1)) (varM 1)) nilM)) (stoN 4) mA_body) (sqM _ (sqM (Pl.forM (rng1M (consM (opM shlG (cM (.int 1)) (varM 1)) nilM)) (stoN 4) mB_body) _)) _ = _
  rw [seq_nx l1]
  show sqM _ _ [.va (famD F), .va (nD n), .ow 0 (M.map nD), .ow 0 T, y4, .un, .un, .un] = _
  rw [seq_nx p2, seq_nx l2]
  exact ret_of (tup_of (sort_of (r := .sl 5) rfl rfl rfl (sortOk_lots _) fl))
theorem lmeets_ok (one two : Lot) (h : one.length ≤ 100000) : K68.m__law_meets [.va (lotD one), .va (lotD two)] = some (.ok (.va (.bool (meetsN one two)), [.va (lotD one), .va (lotD two)])) := by
  have hL := lcL_map nD PyData.int (i := 2) (test := bM (opM inG (varM 2) (varM 1))) (elt := cM (.int 1)) (ρ0 := [.va (lotD one), .va (lotD two), .un]) (fun n => memN n two) (fun _ => (1 : Int)) rfl one [] fun n _ =>
    ⟨b_va (op_vv (d := nD n) (e := lotD two) rfl rfl (in_nat n two)), fun _ => ⟨_, rfl, rfl⟩⟩
  refine runDef_rt rfl (ρ := [.va (lotD one), .va (lotD two), .un]) (ret_of (op_nw (lc_va (d := lotD one) rfl rfl (by rw [List.length_map]; exact h) rfl hL) (es := []) rfl (ne_nil_of rfl (shaped_ints _)))) (r' := .va (.bool (meetsN one two))) ?_ rfl
  rw [List.nil_append]
  show some (Rv.va (.bool !(List.map PyData.int (List.map (fun _ => (1 : Int)) (one.filter fun n => memN n two))).isEmpty)) = _
  rw [List.isEmpty_map, List.isEmpty_map, filter_empty]
  unfold meetsN
  rw [List.all_eq_not_any_not]
  simp
theorem p_box : K68.m__law_box = K75.m__law_box := rfl
theorem p_fam : K68.m__law_family = K70.m__law_family := rfl
theorem p_blk : K68.m_blocker_of = K75.m_blocker_of := rfl
theorem p_same : ∀ n, K68.m__law_same n = K75.m__law_same n
  | 0 => rfl
  | n + 1 => by
    show runDef 2 2 (K68.b__law_sameM (K68.m__law_same n)) = runDef 2 2 (K75.b__law_sameM (K75.m__law_same n))
    rw [p_same n]
    rfl
theorem same68 {ρ ρ1 ρ2 : En} {f g : En → RM Rv} {d : PyData} (h1 : f ρ = some (.ok (.va d, ρ1))) (h2 : g ρ1 = some (.ok (.va d, ρ2))) (h : Sf 6 d) : Pl.notM (bM (callM (quiet (K68.m__law_same 6)) (consM f (consM g nilM)))) ρ = some (.ok (false, ρ2)) := by
  rw [p_same]
  exact same_of h1 h2 h
def i68_body : En → RM Ot := ifM (bM (opM neG (lcOM 4 (stoN 8) (Pl.notM (bM (callM (quiet K68.m__law_meets) (consM (varM 8) (consM (varM 7) nilM))))) (cM (.int 1)) [8]) (lstM nilM))) (retM (cM (.bool false))) nxM
theorem i68_loop {n : Nat} {F B : List Lot} (hF : FamOK n F) {s0 s1 s2 s3 s5 s6 : Sl} : ∀ (ls : List Lot) (s7 : Sl), (∀ l ∈ ls, Hits F l) → ∃ t7, forL (stoN 7) i68_body (ls.map lotD) [s0, s1, s2, s3, .va (famD F), s5, s6, s7, .un] = some (.ok (.nx, [s0, s1, s2, s3, .va (famD F), s5, s6, t7, .un]))
  | [], s7, _ => ⟨s7, rfl⟩
  | l :: ls, s7, h => by
    let ρ : En := [s0, s1, s2, s3, .va (famD F), s5, s6, .va (lotD l), .un]
    have hL := lcL_map lotD PyData.int (i := 8) (test := Pl.notM (bM (callM (quiet K68.m__law_meets) (consM (varM 8) (consM (varM 7) nilM))))) (elt := cM (.int 1)) (ρ0 := ρ) (fun one => !meetsN one l) (fun _ => (1 : Int)) rfl F [] fun one hm =>
      ⟨not_of (b_va (callM_va [lotD one, lotD l] rfl (lmeets_ok one l (by have := (hF.lot one hm).2.1; omega)) rfl)), fun _ => ⟨_, rfl, rfl⟩⟩
    have he : F.filter (fun one => !meetsN one l) = [] := List.filter_eq_nil_iff.mpr fun one hm z => by
      obtain ⟨x, h1, h2⟩ := (meets_iff l one).mp (h l List.mem_cons_self one hm)
      rw [(meets_iff one l).mpr ⟨x, h2, h1⟩] at z
      cases z
    rw [he] at hL
    have hlc : lcOM 4 (stoN 8) (Pl.notM (bM (callM (quiet K68.m__law_meets) (consM (varM 8) (consM (varM 7) nilM))))) (cM (.int 1)) [8] ρ = some (.ok (.nw [], ρ)) :=
      lc_va (k := 4) (ρ := ρ) (vs := [8]) (d := famD F) (items := F.map lotD) rfl rfl (by rw [List.length_map]; have := hF.len; omega) rfl hL
    have hb : i68_body ρ = some (.ok (.nx, ρ)) := if_ff (b_va (op_nw hlc (es := []) rfl (ne_nil_of rfl (shaped_ints []))))
    obtain ⟨t7, ht⟩ := i68_loop hF (B := B) (s0 := s0) (s1 := s1) (s2 := s2) (s3 := s3) (s5 := s5) (s6 := s6) ls (.va (lotD l)) fun l hl => h l (List.mem_cons_of_mem _ hl)
    refine ⟨t7, ?_⟩
    rw [List.map_cons]
    unfold forL
    dsimp only [stoN, List.set]
    rw [show i68_body [s0, s1, s2, s3, .va (famD F), s5, s6, .va (lotD l), .un] = _ from hb]
    exact ht
def l68_body : En → RM Ot := sqM (asgM 2 (callM (quiet K68.m__law_box) (consM (varM 0) (consM (varM 1) nilM))))
    (sqM (unpM (stoT 2 (stosCons (stoN 3) (stosCons (stoN 4) stosNil))) (callM (quiet K68.m__law_family) (consM (varM 2) (consM (cM (.int 7)) nilM))))
    (sqM (asgM 5 (callM (quiet K68.m__law_blocker) (consM (varM 4) (consM (varM 3) nilM))))
    (sqM (asgM 6 (callM (quiet K68.m_blocker_of) (consM (varM 4) (consM (varM 3) nilM))))
    (sqM (ifM (Pl.orM (Pl.notM (bM (callM (quiet (K68.m__law_same 6)) (consM (varM 6) (consM (varM 5) nilM))))) (Pl.notM (bM (callM (quiet (K68.m__law_same 6)) (consM (callKM (quiet K68.m_blocker_of) 0 2 [1, 0] nilM (consM (varM 3) (consM (varM 4) nilM))) (consM (varM 5) nilM)))))) (retM (cM (.bool false))) nxM)
    (sqM (Pl.forM (seqM (varM 6)) (stoN 7) i68_body)
    (ifM (Pl.andM (bM (opM ltG (varM 3) (cM (.int 7)))) (Pl.notM (bM (callM (quiet (K68.m__law_same 6)) (consM (callM (quiet K68.m_blocker_of) (consM (varM 4) (consM (opM addG (varM 3) (cM (.int 1))) nilM))) (consM (varM 5) nilM)))))) (retM (cM (.bool false))) nxM))))))
theorem l68_loop {ns : List Int} (hn : ns.length ≤ 1000) : ∀ (ks : List Nat) (s1 s2 s3 s4 s5 s6 s7 : Sl), (∀ k ∈ ks, k ≤ 1000) → ∃ t1 t2 t3 t4 t5 t6 t7, forL (stoN 1) l68_body (ks.map nD) [.va (.list (ns.map PyData.int)), s1, s2, s3, s4, s5, s6, s7, .un] = some (.ok (.nx, [.va (.list (ns.map PyData.int)), t1, t2, t3, t4, t5, t6, t7, .un]))
  | [], s1, s2, s3, s4, s5, s6, s7, _ => ⟨s1, s2, s3, s4, s5, s6, s7, rfl⟩
  | k :: ks, s1, s2, s3, s4, s5, s6, s7, h => by
    let S := PyData.list (ns.map PyData.int)
    obtain ⟨g, r, r0, r1, hbox⟩ := box_ok ns k (h k List.mem_cons_self) hn
    have hb : Bx [.int g, .int r] := ⟨g, r, rfl, r0, r1⟩
    have a2 : asgM 2 (callM (quiet K68.m__law_box) (consM (varM 0) (consM (varM 1) nilM))) [.va S, .va (nD k), s2, s3, s4, s5, s6, s7, .un] = some (.ok (.nx, [.va S, .va (nD k), .ow 0 [.int g, .int r], s3, s4, s5, s6, s7, .un])) := asg_nw (ρ1 := [.va S, .va (nD k), s2, s3, s4, s5, s6, s7, .un]) (callM_va [S, nD k] rfl (by rw [p_box]; exact hbox) rfl)
    obtain ⟨n, F, b1, hb1, hF, ef⟩ := family_ok hb
    have cf : callM (quiet K68.m__law_family) (consM (varM 2) (consM (cM (.int 7)) nilM)) [.va S, .va (nD k), .ow 0 [.int g, .int r], s3, s4, s5, s6, s7, .un] = some (.ok (.va (.tuple [nD n, famD F]), [.va S, .va (nD k), .ow 0 b1, s3, s4, s5, s6, s7, .un])) :=
      callM_wr (i := 2) (k := 0) (es := [.int g, .int r]) (es' := b1) (ρ1 := [.va S, .va (nD k), .ow 0 [.int g, .int r], s3, s4, s5, s6, s7, .un]) [nD 7] rfl rfl (by rw [p_fam]; exact ef) rfl
    have a3 : unpM (stoT 2 (stosCons (stoN 3) (stosCons (stoN 4) stosNil))) (callM (quiet K68.m__law_family) (consM (varM 2) (consM (cM (.int 7)) nilM))) [.va S, .va (nD k), .ow 0 [.int g, .int r], s3, s4, s5, s6, s7, .un] = some (.ok (.nx, [.va S, .va (nD k), .ow 0 b1, .va (nD n), .va (famD F), s5, s6, s7, .un])) := by
      unfold unpM
      rw [cf]
      rfl
    obtain ⟨B, eB, hB⟩ := blocker_all hF.f7
    have n7 := hF.n7
    have hforce := force_eq hF.fits hB eB
    have hlb := lblk_ok hF
    rw [hforce] at hlb
    have a5 : asgM 5 (callM (quiet K68.m__law_blocker) (consM (varM 4) (consM (varM 3) nilM))) [.va S, .va (nD k), .ow 0 b1, .va (nD n), .va (famD F), s5, s6, s7, .un] = some (.ok (.nx, [.va S, .va (nD k), .ow 0 b1, .va (nD n), .va (famD F), .va (famD B), s6, s7, .un])) :=
      asg_va (ρ1 := [.va S, .va (nD k), .ow 0 b1, .va (nD n), .va (famD F), s5, s6, s7, .un]) (callM_va [famD F, nD n] rfl hlb rfl)
    have hblk : ∀ d, K68.m_blocker_of [.va (famD F), .va d] = some (.ok (.va (famD B), [.va (famD F), .va d])) := fun d => by
      rw [p_blk]
      exact blocker_ok (fun l hl => by have := (hF.lot l hl).2.1; omega) eB
    have a6 : asgM 6 (callM (quiet K68.m_blocker_of) (consM (varM 4) (consM (varM 3) nilM))) [.va S, .va (nD k), .ow 0 b1, .va (nD n), .va (famD F), .va (famD B), s6, s7, .un] = some (.ok (.nx, [.va S, .va (nD k), .ow 0 b1, .va (nD n), .va (famD F), .va (famD B), .va (famD B), s7, .un])) :=
      asg_va (ρ1 := [.va S, .va (nD k), .ow 0 b1, .va (nD n), .va (famD F), .va (famD B), s6, s7, .un]) (callM_va [famD F, nD n] rfl (hblk (nD n)) rfl)
    let ρ6 : En := [.va S, .va (nD k), .ow 0 b1, .va (nD n), .va (famD F), .va (famD B), .va (famD B), s7, .un]
    have kw : callKM (quiet K68.m_blocker_of) 0 2 [1, 0] nilM (consM (varM 3) (consM (varM 4) nilM)) ρ6 = some (.ok (.va (famD B), ρ6)) := by
      rw [callKM_of (rs := []) (qs := [.va (nD n), .va (famD F)]) (ρ1 := ρ6) (ρ2 := ρ6) rfl rfl]
      exact callM_va [famD F, nD n] rfl (hblk (nD n)) rfl
    have t6 : Pl.orM (Pl.notM (bM (callM (quiet (K68.m__law_same 6)) (consM (varM 6) (consM (varM 5) nilM))))) (Pl.notM (bM (callM (quiet (K68.m__law_same 6)) (consM (callKM (quiet K68.m_blocker_of) 0 2 [1, 0] nilM (consM (varM 3) (consM (varM 4) nilM))) (consM (varM 5) nilM))))) ρ6 = some (.ok (false, ρ6)) :=
      or_ff (same68 (ρ1 := ρ6) rfl rfl (same_fam B)) (same68 (ρ1 := ρ6) kw rfl (same_fam B))
    obtain ⟨t7, hl7⟩ := i68_loop hF (B := B) (s0 := .va S) (s1 := .va (nD k)) (s2 := .ow 0 b1) (s3 := .va (nD n)) (s5 := .va (famD B)) (s6 := .va (famD B)) B s7 fun l hl => hB.hit l hl
    have a7 : Pl.forM (seqM (varM 6)) (stoN 7) i68_body ρ6 = some (.ok (.nx, [.va S, .va (nD k), .ow 0 b1, .va (nD n), .va (famD F), .va (famD B), .va (famD B), t7, .un])) := (for_of (sq_of (d := famD B) (ρ1 := ρ6) rfl rfl)).trans hl7
    let ρ7 : En := [.va S, .va (nD k), .ow 0 b1, .va (nD n), .va (famD F), .va (famD B), .va (famD B), t7, .un]
    have k8 : callM (quiet K68.m_blocker_of) (consM (varM 4) (consM (opM addG (varM 3) (cM (.int 1))) nilM)) ρ7 = some (.ok (.va (famD B), ρ7)) :=
      callM_va [famD F, nD (n + 1)] (cons2 (r1 := .va (famD F)) (ρ1 := ρ7) rfl (op_vv (d := nD n) (e := .int ((1 : Nat) : Int)) (ρ1 := ρ7) rfl rfl (add_nat n 1))) (hblk (nD (n + 1))) rfl
    have t8 : Pl.andM (bM (opM ltG (varM 3) (cM (.int 7)))) (Pl.notM (bM (callM (quiet (K68.m__law_same 6)) (consM (callM (quiet K68.m_blocker_of) (consM (varM 4) (consM (opM addG (varM 3) (cM (.int 1))) nilM))) (consM (varM 5) nilM))))) ρ7 = some (.ok (decide (n < 7) && false, ρ7)) :=
      and_tt (ρ2 := []) (b_va (op_vv (d := nD n) (e := .int ((7 : Nat) : Int)) rfl rfl (ltG_nat n 7))) (same68 (ρ1 := ρ7) k8 rfl (same_fam B))
    rw [Bool.and_false] at t8
    have hbody : l68_body [.va S, .va (nD k), s2, s3, s4, s5, s6, s7, .un] = some (.ok (.nx, ρ7)) := by
      unfold l68_body
      rw [seq_nx a2, seq_nx a3, seq_nx a5, seq_nx a6, seq_nx (if_ff t6), seq_nx a7]
      exact if_ff t8
    obtain ⟨u1, u2, u3, u4, u5, u6, u7, hu⟩ := l68_loop hn ks (.va (nD k)) (.ow 0 b1) (.va (nD n)) (.va (famD F)) (.va (famD B)) (.va (famD B)) t7 fun k hk => h k (List.mem_cons_of_mem _ hk)
    refine ⟨u1, u2, u3, u4, u5, u6, u7, ?_⟩
    rw [List.map_cons]
    unfold forL
    dsimp only [stoN, List.set]
    rw [hbody]
    exact hu
theorem blk_c1 : blkC [[]] [[0, 1, 2]] = some [[0], [1], [2]] := by decide +kernel
theorem blk_c2 : blkC [[]] [[0], [1], [2]] = some [[0, 1, 2]] := by decide +kernel
theorem plain68 (ns : List Int) (hn : ns.length ≤ 63) : ∃ o, K68.m_law [.va (.list (ns.map PyData.int))] = some (.ok (.va (.bool true), o)) := by
  let S := PyData.list (ns.map PyData.int)
  obtain ⟨u1, u2, u3, u4, u5, u6, u7, ho⟩ := l68_loop (ns := ns) (by omega) (List.range (max 4 (min ns.length 8))) .un .un .un .un .un .un .un fun k hk => by
    have := List.mem_range.mp hk
    omega
  have hr : rng1M (consM (cbM maxG (consM (cM (.int 4)) (consM (cbM minG (consM (cbM lenG (consM (varM 0) nilM)) (consM (cM (.int 8)) nilM))) nilM))) nilM) [.va S, .un, .un, .un, .un, .un, .un, .un, .un] = some (.ok ((List.range (max 4 (min ns.length 8))).map nD, [.va S, .un, .un, .un, .un, .un, .un, .un, .un])) :=
    rng_of (m := max 4 (min ns.length 8)) (max_nat 4 (min ns.length 8) rfl (min_nat ns.length 8 (ρ1 := [.va S, .un, .un, .un, .un, .un, .un, .un, .un]) (len_list rfl) rfl)) (by omega)
  let ρ : En := [.va S, u1, u2, u3, u4, u5, u6, u7, .un]
  have c1 : K68.m_blocker_of [.va (famD [[0, 1, 2]]), .va (nD 3)] = some (.ok (.va (famD [[0], [1], [2]]), [.va (famD [[0, 1, 2]]), .va (nD 3)])) := by
    rw [p_blk]
    exact blocker_ok (by decide) blk_c1
  have c2 : K68.m_blocker_of [.va (famD [[0], [1], [2]]), .va (nD 3)] = some (.ok (.va (famD [[0, 1, 2]]), [.va (famD [[0], [1], [2]]), .va (nD 3)])) := by
    rw [p_blk]
    exact blocker_ok (by decide) blk_c2
  have hS : K68.m__law_same 6 [.va (.tuple [famD [[0], [1], [2]], famD [[0, 1, 2]]]), .va (.tuple [famD [[0], [1], [2]], famD [[0, 1, 2]]])] = some (.ok (.va (.bool true), [.va (.tuple [famD [[0], [1], [2]], famD [[0, 1, 2]]]), .va (.tuple [famD [[0], [1], [2]], famD [[0, 1, 2]]])])) := by kernel_rfl
  refine ⟨[.va S], runDef_rt rfl (ρ := ρ) ?_ (r := .va (.bool true)) rfl rfl⟩
  show K68.b_lawM [.va S, .un, .un, .un, .un, .un, .un, .un, .un] = _
  unfold K68.b_lawM
  show sqM (Pl.forM (rng1M (consM (cbM maxG (consM (cM (.int 4)) (consM (cbM minG (consM (cbM lenG (consM (varM 0) nilM)) (consM (cM (.int 8)) nilM))) nilM))) nilM)) (stoN 1) l68_body) _ _ = _
  rw [seq_nx ((for_of hr).trans ho)]
  let D : PyData := .tuple [famD [[0], [1], [2]], famD [[0, 1, 2]]]
  refine ret_of (callM_va (ρ1 := ρ) [D, D] ?_ hS rfl)
  refine cons2 (r1 := .va D) (r2 := .va D) (ρ1 := ρ) ?_ rfl
  refine tup2 (ρ1 := ρ) ?_ ?_
  · exact callM_va (ρ1 := ρ) [famD [[0, 1, 2]], nD 3] rfl c1 rfl
  · exact callM_va (ρ1 := ρ) [famD [[0], [1], [2]], nD 3] rfl c2 rfl
end Fam

namespace K73
open PySem PySem.Spec PyProof.Rows L2 Pl
def b__law_boxM : En → RM Ot := (sqM (asgM 2 (opM addG (opM mulG (cM (.int 12011)) (varM 1)) (cM (.int 7321))))
    (sqM (ifM (bM (opM ltG (varM 1) (cbM lenG (consM (varM 0) nilM)))) (asgM 2 (cbM absG (consM (cbM intG (consM (opM ixG (varM 0) (varM 1)) nilM)) nilM))) (ifM (bM (opM gtG (cbM lenG (consM (varM 0) nilM)) (cM (.int 0)))) (asgM 2 (opM addG (varM 2) (opM mulG (opM modG (cbM intG (consM (cbM absG (consM (cbM intG (consM (opM ixG (varM 0) (opM modG (cbM intG (consM (varM 1) nilM)) (cbM lenG (consM (varM 0) nilM)))) nilM)) nilM)) nilM)) (cM (.int 2147483563))) (cM (.int 68213))))) nxM))
    (sqM (asgM 3 (ifX (bM (opM geG (varM 2) (opM powG (cM (.int 10)) (cM (.int 18))))) (varM 2) (cM (.int 0))))
    (retM (lstM (consM (varM 3) (consM (opM addG (opM modG (cbM intG (consM (opM addG (opM mulG (opM modG (cbM intG (consM (varM 2) nilM)) (cM (.int 2147483563))) (cM (.int 58271))) (opM mulG (cM (.int 7321)) (varM 1))) nilM)) (cM (.int 2147483563))) (cM (.int 1))) nilM)))))))
def m__law_box : En → RM Rv := runDef 2 2 b__law_boxM
def b__law_takeM : En → RM Ot := (sqM (ifM (bM (opM gtG (opM ixG (varM 0) (cM (.int 0))) (cM (.int 0)))) (sqM (asgM 2 (opM modG (cbM intG (consM (opM ixG (varM 0) (cM (.int 0))) nilM)) (varM 1)))
    (sqM (setM 0 (opM divG (opM ixG (varM 0) (cM (.int 0))) (varM 1)) (cM (.int 0)))
    (retM (varM 2)))) nxM)
    (sqM (asgM 3 (opM modG (cbM intG (consM (opM addG (opM mulG (opM ixG (varM 0) (cM (.int 1))) (cM (.int 39373))) (cM (.int 307))) nilM)) (cM (.int 2147483647))))
    (sqM (setM 0 (opM addG (opM modG (cbM intG (consM (opM addG (opM mulG (varM 3) (cM (.int 40692))) (cM (.int 61))) nilM)) (cM (.int 2147483399))) (cM (.int 1))) (cM (.int 1)))
    (retM (opM modG (cbM intG (consM (opM divG (opM addG (opM mulG (varM 3) (cM (.int 2147483629))) (opM ixG (varM 0) (cM (.int 1)))) (cM (.int 8233))) nilM)) (varM 1))))))
def m__law_take : En → RM Rv := runDef 2 2 b__law_takeM
def b__law_lotM : En → RM Ot := (sqM (parXM 2 3 (callM (quiet m__law_take) (consM (varM 0) (consM (varM 1) nilM))) (lstM nilM))
    (sqM (asgM 4 (opM addG (cM (.int 1)) (callM (quiet m__law_take) (consM (varM 0) (consM (cM (.int 4)) nilM)))))
    (sqM (forM (rng1M (consM (varM 1) nilM)) (stoN 5) (ifM (orM (bM (opM eqG (varM 5) (varM 2))) (bM (opM ltG (callM (quiet m__law_take) (consM (varM 0) (consM (cM (.int 5)) nilM))) (varM 4)))) (appM 3 (varM 5)) nxM))
    (retM (cbM tupG (consM (varM 3) nilM))))))
def m__law_lot : En → RM Rv := runDef 2 4 b__law_lotM
def b__law_withinM : En → RM Ot := (retM (opM eqG (lcOM 0 (stoN 2) (bM (opM notInG (varM 2) (varM 1))) (cM (.int 1)) [2]) (lstM nilM)))
def m__law_within : En → RM Rv := runDef 2 1 b__law_withinM
def b__law_leastM : En → RM Ot := (sqM (asgM 1 (lstM nilM))
    (sqM (forM (seqM (sortSetM (varM 0))) (stoN 2) (ifM (bM (opM eqG (lcOM 0 (stoN 3) (andM (bM (opM neG (varM 3) (varM 2))) (bM (callM (quiet m__law_within) (consM (varM 3) (consM (varM 2) nilM))))) (cM (.int 1)) [3]) (lstM nilM))) (appM 1 (varM 2)) nxM))
    (retM (cbM tupG (consM (varM 1) nilM)))))
def m__law_least : En → RM Rv := runDef 1 3 b__law_leastM
def b__law_allM : En → RM Ot := (sqM (asgM 1 (lstM (consM (tupM nilM) nilM)))
    (sqM (forM (rng1M (consM (varM 0) nilM)) (stoN 2) (asgM 1 (opM addG (varM 1) (lcOM 1 (stoN 3) yesM (opM addG (varM 3) (tupM (consM (varM 2) nilM))) [3]))))
    (retM (cbM sortG (consM (varM 1) nilM)))))
def m__law_all : En → RM Rv := runDef 1 3 b__law_allM
def b__law_thresholdM : En → RM Ot := (retM (cbM tupG (consM (lcM (seqM (callM (quiet m__law_all) (consM (varM 0) nilM))) (stoN 2) (bM (opM eqG (cbM lenG (consM (varM 2) nilM)) (varM 1))) (varM 2) [2]) nilM)))
def m__law_threshold : En → RM Rv := runDef 2 1 b__law_thresholdM
def b__law_composedM : En → RM Ot := (sqM (parXM 2 3 (lstM nilM) (cM (.int 0)))
    (sqM (forM (seqM (varM 1)) (stoT 2 (stosCons (stoN 4) (stosCons (stoN 5) stosNil))) (sqM (appM 2 (lcOM 5 (stoN 7) yesM (cbM tupG (consM (lcM (seqM (varM 7)) (stoN 9) yesM (opM addG (varM 3) (varM 9)) [9]) nilM)) [7]))
    (asgM 3 (opM addG (varM 3) (varM 4)))))
    (sqM (asgM 6 (lstM nilM))
    (sqM (forM (seqM (varM 0)) (stoN 7) (sqM (asgM 8 (lstM (consM (tupM nilM) nilM)))
    (sqM (forM (seqM (varM 7)) (stoN 9) (sqM (asgM 10 (lstM nilM))
    (sqM (forM (seqM (varM 8)) (stoN 11) (asgM 10 (opM addG (varM 10) (lcM (seqM (opM ixG (varM 2) (varM 9))) (stoN 12) yesM (opM addG (varM 11) (varM 12)) [12]))))
    (asgM 8 (varM 10)))))
    (asgM 6 (opM addG (varM 6) (varM 8))))))
    (retM (cbM tupG (consM (cbM sortG (consM (varM 6) nilM)) nilM)))))))
def m__law_composed : En → RM Rv := runDef 2 11 b__law_composedM
def b__law_shuffledM : En → RM Ot := (sqM (parXM 2 3 (cbM lstG (consM (varM 1) nilM)) (lstM nilM))
    (sqM (forM (rng1M (consM (cbM lenG (consM (varM 1) nilM)) nilM)) (stoN 4) (appM 3 (popM 2 (callM (quiet m__law_take) (consM (varM 0) (consM (cbM lenG (consM (varM 2) nilM)) nilM))))))
    (retM (varM 3))))
def m__law_shuffled : En → RM Rv := runDef 2 3 b__law_shuffledM
def b__law_fanoM : En → RM Ot := (sqM (asgM 1 (callM (quiet m__law_shuffled) (consM (varM 0) (consM (lstRgM (cM (.int 7))) nilM))))
    (retM (cbM tupG (consM (cbM sortG (consM (lcM (rng1M (consM (cM (.int 7)) nilM)) (stoN 2) yesM (cbM tupG (consM (cbM sortG (consM (lcM (seqM (tupM (consM (cM (.int 0)) (consM (cM (.int 1)) (consM (cM (.int 3)) nilM))))) (stoN 3) yesM (opM ixG (varM 1) (opM modG (cbM intG (consM (opM addG (varM 2) (varM 3)) nilM)) (cM (.int 7)))) [3]) nilM)) nilM)) [2]) nilM)) nilM))))
def m__law_fano : En → RM Rv := runDef 1 3 b__law_fanoM
def b__law_pickM : En → RM Ot := (retM (opM ixG (varM 1) (callM (quiet m__law_take) (consM (varM 0) (consM (cbM lenG (consM (varM 1) nilM)) nilM)))))
def m__law_pick : En → RM Rv := runDef 2 0 b__law_pickM
def b__law_holdsM : En → RM Ot := (sqM (forM (seqM (varM 0)) (stoN 2) (ifM (bM (callM (quiet m__law_within) (consM (varM 2) (consM (varM 1) nilM)))) (retM (cM (.bool true))) nxM))
    (retM (cM (.bool false))))
def m__law_holds : En → RM Rv := runDef 2 1 b__law_holdsM
def b__law_othersM : En → RM Ot := (retM (cbM tupG (consM (lcM (rng1M (consM (varM 1) nilM)) (stoN 2) (bM (opM notInG (varM 2) (varM 0))) (varM 2) [2]) nilM)))
def m__law_others : En → RM Rv := runDef 2 1 b__law_othersM
def b__law_own_blockerM : En → RM Ot := (sqM (asgM 2 (ifX (bM (opM eqG (callM (quiet m__law_take) (consM (varM 0) (consM (cM (.int 9)) nilM))) (cM (.int 0)))) (tupM (consM (tupM (consM (callM (quiet m__law_take) (consM (varM 0) (consM (varM 1) nilM))) nilM)) nilM)) (callM (quiet m__law_threshold) (consM (varM 1) (consM (varM 1) nilM)))))
    (sqM (forM (rng1M (consM (cM (.int 70)) nilM)) (stoN 3) (sqM (asgM 4 (lcM (seqM (callM (quiet m__law_all) (consM (varM 1) nilM))) (stoN 6) (andM (notM (bM (callM (quiet m__law_holds) (consM (varM 2) (consM (varM 6) nilM))))) (notM (bM (callM (quiet m__law_holds) (consM (varM 2) (consM (callM (quiet m__law_others) (consM (varM 6) (consM (varM 1) nilM))) nilM)))))) (varM 6) [6]))
    (sqM (asgM 5 (lcOM 4 (stoN 6) (bM (opM gtG (cbM lenG (consM (varM 6) nilM)) (cM (.int 1)))) (varM 6) [6]))
    (sqM (ifM (bM (opM eqG (varM 4) (lstM nilM))) bkM nxM)
    (asgM 2 (callM (quiet m__law_least) (consM (opM addG (cbM lstG (consM (varM 2) nilM)) (lstM (consM (callM (quiet m__law_pick) (consM (varM 0) (consM (ifX (bM (opM neG (varM 5) (lstM nilM))) (varM 5) (varM 4)) nilM))) nilM))) nilM)))))))
    (retM (varM 2))))
def m__law_own_blocker : En → RM Rv := runDef 2 5 b__law_own_blockerM
def b__law_familyM : En → RM Ot := (sqM (parXM 2 3 (opM addG (cM (.int 1)) (callM (quiet m__law_take) (consM (varM 0) (consM (varM 1) nilM)))) (callM (quiet m__law_take) (consM (varM 0) (consM (cM (.int 8)) nilM))))
    (sqM (ifM (bM (opM eqG (varM 3) (cM (.int 0)))) (retM (tupM (consM (varM 2) (consM (callM (quiet m__law_threshold) (consM (varM 2) (consM (opM addG (cM (.int 1)) (callM (quiet m__law_take) (consM (varM 0) (consM (varM 2) nilM)))) nilM))) nilM)))) nxM)
    (sqM (ifM (bM (opM eqG (varM 3) (cM (.int 1)))) (retM (ifX (bM (opM eqG (varM 2) (cM (.int 7)))) (tupM (consM (cM (.int 7)) (consM (callM (quiet m__law_fano) (consM (varM 0) nilM)) nilM))) (tupM (consM (varM 2) (consM (callM (quiet m__law_own_blocker) (consM (varM 0) (consM (varM 2) nilM))) nilM))))) nxM)
    (sqM (ifM (andM (bM (opM eqG (varM 3) (cM (.int 2)))) (bM (opM gtG (varM 1) (cM (.int 5))))) (retM (tupM (consM (cM (.int 6)) (consM (callM (quiet m__law_composed) (consM (callM (quiet m__law_threshold) (consM (cM (.int 3)) (consM (cM (.int 2)) nilM))) (consM (opM repG (tupM (consM (tupM (consM (cM (.int 2)) (consM (callM (quiet m__law_pick) (consM (varM 0) (consM (lstM (consM (tupM (consM (tupM (consM (cM (.int 0)) nilM)) (consM (tupM (consM (cM (.int 1)) nilM)) nilM))) (consM (tupM (consM (tupM (consM (cM (.int 0)) (consM (cM (.int 1)) nilM))) nilM)) nilM))) nilM))) nilM))) nilM)) (cM (.int 3))) nilM))) nilM)))) nxM)
    (sqM (asgM 4 (lcM (rng1M (consM (opM addG (cM (.int 1)) (callM (quiet m__law_take) (consM (varM 0) (consM (callM (quiet m__law_pick) (consM (varM 0) (consM (lstM (consM (cM (.int 2)) (consM (cM (.int 6)) (consM (cM (.int 16)) (consM (cM (.int 40)) nilM))))) nilM))) nilM)))) nilM)) (stoN 5) yesM (callM (quiet m__law_lot) (consM (varM 0) (consM (varM 2) nilM))) [5]))
    (retM (tupM (consM (varM 2) (consM (callM (quiet m__law_least) (consM (varM 4) nilM)) nilM)))))))))
def m__law_family : En → RM Rv := runDef 2 4 b__law_familyM
def b__law_maskM : En → RM Ot := (retM (cbM sumG (consM (lcOM 0 (stoN 1) yesM (opM shlG (cM (.int 1)) (varM 1)) [1]) nilM)))
def m__law_mask : En → RM Rv := runDef 1 1 b__law_maskM
def b__law_blockerM : En → RM Ot := (sqM (parXM 2 3 (lcOM 0 (stoN 4) yesM (callM (quiet m__law_mask) (consM (varM 4) nilM)) [4]) (lstM nilM))
    (sqM (forM (rng1M (consM (opM shlG (cM (.int 1)) (varM 1)) nilM)) (stoN 4) (appM 3 (opM eqG (lcOM 2 (stoN 6) (bM (opM eqG (opM bandG (varM 6) (varM 4)) (cM (.int 0)))) (cM (.int 1)) [6]) (lstM nilM))))
    (sqM (asgM 5 (lstM nilM))
    (sqM (forM (rng1M (consM (opM shlG (cM (.int 1)) (varM 1)) nilM)) (stoN 4) (ifM (andM (bM (opM ixG (varM 3) (varM 4))) (bM (opM eqG (lcM (rng1M (consM (varM 1) nilM)) (stoN 7) (andM (iM (opM bandG (varM 4) (opM shlG (cM (.int 1)) (varM 7)))) (bM (opM ixG (varM 3) (opM subG (varM 4) (opM shlG (cM (.int 1)) (varM 7)))))) (cM (.int 1)) [7]) (lstM nilM)))) (appM 5 (cbM tupG (consM (lcM (rng1M (consM (varM 1) nilM)) (stoN 7) (iM (opM bandG (varM 4) (opM shlG (cM (.int 1)) (varM 7)))) (varM 7) [7]) nilM))) nxM))
    (retM (cbM tupG (consM (cbM sortG (consM (varM 5) nilM)) nilM)))))))
def m__law_blocker : En → RM Rv := runDef 2 6 b__law_blockerM
def b_is_withinM : En → RM Ot := (retM (opM eqG (cbM lenG (consM (lcOM 0 (stoN 2) (bM (opM notInG (varM 2) (varM 1))) (varM 2) [2]) nilM)) (cM (.int 0))))
def m_is_within : En → RM Rv := runDef 2 1 b_is_withinM
def b_lot_holdsM : En → RM Ot := (retM (opM gtG (cbM lenG (consM (lcOM 0 (stoN 2) (bM (callM (quiet m_is_within) (consM (varM 2) (consM (varM 1) nilM)))) (varM 2) [2]) nilM)) (cM (.int 0))))
def m_lot_holds : En → RM Rv := runDef 2 1 b_lot_holdsM
def b_least_lotsM : En → RM Ot := (sqM (asgM 1 (lstM nilM))
    (sqM (forM (seqM (sortKM (varM 0))) (stoN 2) (ifM (notM (bM (callM (quiet m_lot_holds) (consM (varM 1) (consM (varM 2) nilM))))) (appM 1 (varM 2)) nxM))
    (retM (cbM tupG (consM (cbM sortG (consM (varM 1) nilM)) nilM)))))
def m_least_lots : En → RM Rv := runDef 1 2 b_least_lotsM
def b_meetsM : En → RM Ot := (retM (opM gtG (cbM lenG (consM (lcOM 0 (stoN 2) (bM (opM inG (varM 2) (varM 1))) (varM 2) [2]) nilM)) (cM (.int 0))))
def m_meets : En → RM Rv := runDef 2 1 b_meetsM
def b_with_houseM : En → RM Ot := (retM (cbM tupG (consM (cbM sortG (consM (opM addG (varM 0) (tupM (consM (varM 1) nilM))) nilM)) nilM)))
def m_with_house : En → RM Rv := runDef 2 0 b_with_houseM
def b_blocker_ofM : En → RM Ot := (sqM (asgM 2 (tupM (consM (tupM nilM) nilM)))
    (sqM (forM (seqM (varM 0)) (stoN 3) (sqM (asgM 4 (lstM nilM))
    (sqM (forM (seqM (varM 2)) (stoN 5) (ifM (bM (callM (quiet m_meets) (consM (varM 5) (consM (varM 3) nilM)))) (appM 4 (varM 5)) (extM 4 (lcOM 3 (stoN 6) yesM (callM (quiet m_with_house) (consM (varM 5) (consM (varM 6) nilM))) [6]))))
    (asgM 2 (callM (quiet m_least_lots) (consM (varM 4) nilM))))))
    (retM (varM 2))))
def m_blocker_of : En → RM Rv := runDef 2 5 b_blocker_ofM
def b_all_lotsM : En → RM Ot := (sqM (asgM 1 (lstM (consM (tupM nilM) nilM)))
    (sqM (forM (rng1M (consM (varM 0) nilM)) (stoN 2) (asgM 1 (opM addG (varM 1) (lcOM 1 (stoN 3) yesM (opM addG (varM 3) (tupM (consM (varM 2) nilM))) [3]))))
    (retM (cbM tupG (consM (cbM sortG (consM (varM 1) nilM)) nilM)))))
def m_all_lots : En → RM Rv := runDef 1 3 b_all_lotsM
def b_live_lotsM : En → RM Ot := (sqM (asgM 2 (callM (quiet m_blocker_of) (consM (varM 0) (consM (varM 1) nilM))))
    (retM (cbM tupG (consM (lcM (seqM (callM (quiet m_all_lots) (consM (varM 1) nilM))) (stoN 3) (andM (bM (callM (quiet m_lot_holds) (consM (varM 0) (consM (varM 3) nilM)))) (bM (callM (quiet m_lot_holds) (consM (varM 2) (consM (varM 3) nilM))))) (varM 3) [3]) nilM))))
def m_live_lots : En → RM Rv := runDef 2 2 b_live_lotsM
def b__law_sameM (self : En → RM Rv) : En → RM Ot := (sqM (ifM (bM (isiM .tuple (varM 1))) (sqM (ifM (orM (notM (bM (isiM .tuple (varM 0)))) (bM (opM neG (cbM lenG (consM (varM 0) nilM)) (cbM lenG (consM (varM 1) nilM))))) (retM (cM (.bool false))) nxM)
    (sqM (forM (zipM (consM (varM 0) (consM (varM 1) nilM))) (stoT 2 (stosCons (stoN 2) (stosCons (stoN 3) stosNil))) (ifM (notM (bM (callM (quiet self) (consM (varM 2) (consM (varM 3) nilM))))) (retM (cM (.bool false))) nxM))
    (retM (cM (.bool true))))) nxM)
    (sqM (ifM (bM (opM isNG (varM 1) (cM .none))) (retM (opM isNG (varM 0) (cM .none))) nxM)
    (sqM (ifM (orM (bM (opM isBG (varM 1) (cM (.bool true)))) (bM (opM isBG (varM 1) (cM (.bool false))))) (retM (andV (isiM .bool (varM 0)) (opM eqG (varM 0) (varM 1)))) nxM)
    (sqM (ifM (bM (isiM .int (varM 1))) (retM (andV (isiM .int (varM 0)) (andV (notV (isiM .bool (varM 0))) (opM eqG (varM 0) (varM 1))))) nxM)
    (retM (andV (isiM .str (varM 0)) (andV (isiM .str (varM 1)) (opM eqG (varM 0) (varM 1)))))))))
def m__law_same : Nat → En → RM Rv
  | 0 => noneM
  | n + 1 => runDef 2 2 (b__law_sameM (m__law_same n))
def b__law_live_rightM : En → RM Ot := (sqM (asgM 2 (callM (quiet m__law_blocker) (consM (varM 1) (consM (varM 0) nilM))))
    (sqM (asgM 3 (cbM tupG (consM (lcM (seqM (callM (quiet m__law_all) (consM (varM 0) nilM))) (stoN 5) (andM (bM (callM (quiet m__law_holds) (consM (varM 1) (consM (varM 5) nilM)))) (bM (callM (quiet m__law_holds) (consM (varM 2) (consM (varM 5) nilM))))) (varM 5) [5]) nilM)))
    (sqM (asgM 4 (callM (quiet m_live_lots) (consM (varM 1) (consM (varM 0) nilM))))
    (sqM (ifM (orM (notM (bM (callM (quiet (m__law_same 6)) (consM (varM 4) (consM (varM 3) nilM))))) (bM (opM gtG (opM mulG (cM (.int 2)) (cbM lenG (consM (varM 4) nilM))) (opM shlG (cM (.int 1)) (varM 0))))) (retM (cM (.bool false))) nxM)
    (sqM (ifM (bM (opM neG (lcOM 4 (stoN 5) (bM (opM inTG (callM (quiet m__law_others) (consM (varM 5) (consM (varM 0) nilM))) (varM 4))) (cM (.int 1)) [5]) (lstM nilM))) (retM (cM (.bool false))) nxM)
    (retM (andV (opM eqG (opM eqG (opM mulG (cM (.int 2)) (cbM lenG (consM (varM 4) nilM))) (opM shlG (cM (.int 1)) (varM 0))) (opM eqG (varM 2) (varM 1))) (callM (quiet (m__law_same 6)) (consM (callM (quiet m_blocker_of) (consM (varM 1) (consM (varM 0) nilM))) (consM (varM 2) nilM))))))))))
def m__law_live_right : En → RM Rv := runDef 2 4 b__law_live_rightM
def b_lawM : En → RM Ot := (sqM (forM (rng1M (consM (cbM maxG (consM (cM (.int 3)) (consM (cbM minG (consM (cbM lenG (consM (varM 0) nilM)) (consM (cM (.int 5)) nilM))) nilM))) nilM)) (stoN 1) (sqM (asgM 2 (callM (quiet m__law_box) (consM (varM 0) (consM (varM 1) nilM))))
    (sqM (unpM (stoT 2 (stosCons (stoN 3) (stosCons (stoN 4) stosNil))) (callM (quiet m__law_family) (consM (varM 2) (consM (cM (.int 7)) nilM))))
    (sqM (ifM (notM (bM (callM (quiet m__law_live_right) (consM (varM 3) (consM (varM 4) nilM))))) (retM (cM (.bool false))) nxM)
    (sqM (asgM 3 (opM addG (cM (.int 1)) (callM (quiet m__law_take) (consM (varM 2) (consM (cM (.int 6)) nilM)))))
    (sqM (asgM 4 (ifX (bM (opM eqG (callM (quiet m__law_take) (consM (varM 2) (consM (cM (.int 5)) nilM))) (cM (.int 0)))) (callM (quiet m__law_fano) (consM (varM 2) nilM)) (callM (quiet m__law_own_blocker) (consM (varM 2) (consM (varM 3) nilM)))))
    (sqM (asgM 3 (ifX (andM (bM (opM eqG (cbM lenG (consM (varM 4) nilM)) (cM (.int 7)))) (andM (bM (opM ltG (varM 3) (cM (.int 7)))) (bM (opM eqG (cbM max1G (consM (lcOM 4 (stoN 7) yesM (cbM max1G (consM (varM 7) nilM)) [7]) nilM)) (cM (.int 6)))))) (cM (.int 7)) (varM 3)))
    (sqM (ifM (orM (notM (bM (callM (quiet m__law_live_right) (consM (varM 3) (consM (varM 4) nilM))))) (notM (bM (callM (quiet (m__law_same 6)) (consM (callKM (quiet m_live_lots) 0 2 [1, 0] nilM (consM (varM 3) (consM (varM 4) nilM))) (consM (callM (quiet m_live_lots) (consM (varM 4) (consM (varM 3) nilM))) nilM)))))) (retM (cM (.bool false))) nxM)
    (sqM (asgM 5 (callM (quiet m__law_take) (consM (varM 2) (consM (cbM lenG (consM (varM 4) nilM)) nilM))))
    (sqM (asgM 6 (opM addG (slM slG (varM 4) noPart (partM (varM 5))) (slM slG (varM 4) (partM (opM addG (varM 5) (cM (.int 1)))) noPart)))
    (sqM (ifM (andM (bM (opM neG (varM 6) (tupM nilM))) (notM (bM (callM (quiet m__law_live_right) (consM (varM 3) (consM (varM 6) nilM)))))) (retM (cM (.bool false))) nxM)
    (ifM (notM (bM (callM (quiet m__law_live_right) (consM (varM 3) (consM (callM (quiet m__law_least) (consM (opM addG (cbM lstG (consM (varM 4) nilM)) (lstM (consM (callM (quiet m__law_lot) (consM (varM 2) (consM (varM 3) nilM))) nilM))) nilM)) nilM))))) (retM (cM (.bool false))) nxM))))))))))))
    (retM (cM (.bool true))))
def m_law : En → RM Rv := runDef 1 7 b_lawM
end K73

namespace Fam
open PySem PySem.Spec PyProof.Rows L2 Pl
/-! ### live lots: at most one of a lot and all others -/
theorem allN_full : ∀ n ∈ List.range 8, (allN n).length = 2 ^ n := by
  intro n _
  unfold allN
  rw [(isort_perm _).length_eq, allF_len, List.length_range]
  simp
theorem allF_sub : ∀ (hs : List Nat) (f : List Lot) (s l : Lot), l ∈ f → s.Sublist hs → l ++ s ∈ allF hs f
  | _, f, _, l, h, .slnil => by
    rw [List.append_nil]
    exact h
  | y :: hs, f, s, l, h, .cons _ hs' => allF_sub hs _ s l (List.mem_append_left _ h) hs'
  | y :: hs, f, _, l, h, .cons₂ _ (l₁ := s) hs' => by
    have := allF_sub hs (f ++ f.map fun l => l ++ [y]) s (l ++ [y]) (List.mem_append_right _ (List.mem_map.mpr ⟨l, h, rfl⟩)) hs'
    rw [List.append_assoc] at this
    exact this
theorem inc_sublist {n : Nat} {l : Lot} (h : Inc l) (hl : ∀ x ∈ l, x < n) : l.Sublist (List.range n) := by
  have e : l = (List.range n).filter fun x => memN x l := by
    refine List.Perm.eq_of_pairwise (le := (· < ·)) (fun x y _ _ h1 h2 => absurd h1 (Nat.lt_asymm h2)) h (List.pairwise_lt_range.filter _) ((List.perm_ext_iff_of_nodup h.nd (List.nodup_range.filter _)).mpr fun x => ?_)
    rw [List.mem_filter, memN_iff, List.mem_range]
    exact ⟨fun q => ⟨hl x q, q⟩, fun q => q.2⟩
  rw [e]
  exact List.filter_sublist
theorem allN_iff (n : Nat) (l : Lot) : l ∈ allN n ↔ Inc l ∧ ∀ x ∈ l, x < n := by
  refine ⟨fun h => allN_good h, fun ⟨h1, h2⟩ => (isort_perm _).mem_iff.mpr ?_⟩
  have := allF_sub (List.range n) [[]] l [] List.mem_cons_self (inc_sublist h1 h2)
  exact this
theorem allF_nodup : ∀ (hs : List Nat) (f : List Lot), f.Nodup → (∀ l ∈ f, ∀ x ∈ l, ∀ h ∈ hs, x < h) → hs.Pairwise (· < ·) → (allF hs f).Nodup
  | [], f, h, _, _ => h
  | y :: hs, f, h, hl, hp => by
    obtain ⟨p1, p2⟩ := List.pairwise_cons.mp hp
    have hy : ∀ l ∈ f, y ∉ l := fun l hlf z => Nat.lt_irrefl _ (hl l hlf y z y List.mem_cons_self)
    refine allF_nodup hs _ (List.nodup_append.mpr ⟨h, List.pairwise_map.mpr (List.Pairwise.imp (fun {a b} hab e => hab (List.append_cancel_right e)) h), fun a ha b hb e => ?_⟩) (fun l hlf x hx z hz => ?_) p2
    · obtain ⟨c, hc, rfl⟩ := List.mem_map.mp hb
      exact hy a ha (by rw [e]; exact List.mem_append_right _ List.mem_cons_self)
    · rcases List.mem_append.mp hlf with q | q
      · exact hl l q x hx z (List.mem_cons_of_mem _ hz)
      · obtain ⟨c, hc, rfl⟩ := List.mem_map.mp q
        rcases List.mem_append.mp hx with w | w
        · exact hl c hc x w z (List.mem_cons_of_mem _ hz)
        · rw [List.mem_singleton.mp w]
          exact p1 z hz
/-- no two of all lots alike -/
theorem allN_nodup {n : Nat} (n8 : n ∈ List.range 8) : (allN n).Nodup :=
  (isort_perm _).nodup_iff.mpr (allF_nodup (List.range n) [[]] (List.pairwise_singleton _ _) (fun l hl x hx => by rw [List.mem_singleton.mp hl] at hx; cases hx) List.pairwise_lt_range)
theorem inc_ext {a b : Lot} (ha : Inc a) (hb : Inc b) (h : ∀ x, x ∈ a ↔ x ∈ b) : a = b :=
  List.Perm.eq_of_pairwise (le := (· < ·)) (fun x y _ _ h1 h2 => absurd h1 (Nat.lt_asymm h2)) ha hb ((List.perm_ext_iff_of_nodup ha.nd hb.nd).mpr h)
theorem others_inc (l : Lot) (n : Nat) : Inc (othersN l n) := List.pairwise_lt_range.filter _
theorem others_all (l : Lot) (n : Nat) : othersN l n ∈ allN n := (allN_iff n _).mpr ⟨others_inc l n, fun x hx => ((others_mem l n x).mp hx).1⟩
theorem others_two {l : Lot} {n : Nat} (h : l ∈ allN n) : othersN (othersN l n) n = l := by
  obtain ⟨h1, h2⟩ := (allN_iff n l).mp h
  refine inc_ext (others_inc _ n) h1 fun x => ?_
  rw [others_mem, others_mem]
  constructor
  · rintro ⟨q1, q2⟩
    exact Classical.byContradiction fun z => q2 ⟨q1, z⟩
  · intro hx
    exact ⟨h2 x hx, fun z => z.2 hx⟩
theorem live_mem {F B : List Lot} {n : Nat} {l : Lot} : l ∈ liveN F B n ↔ l ∈ allN n ∧ holdsN F l = true ∧ holdsN B l = true := by
  unfold liveN
  rw [List.mem_filter, Bool.and_eq_true]
section
variable {n : Nat} {F B : List Lot} (dl : ∀ l, holdsN B (othersN l n) = !holdsN F l)
include dl
theorem live_other {l : Lot} (h : l ∈ liveN F B n) : othersN l n ∉ liveN F B n := fun z => by
  obtain ⟨h1, h2, h3⟩ := live_mem.mp h
  obtain ⟨_, h4, _⟩ := live_mem.mp z
  have := dl (othersN l n)
  rw [others_two h1, h3, h4] at this
  cases this
theorem live_both (n8 : n ∈ List.range 8) : (liveN F B n ++ (liveN F B n).map fun l => othersN l n).Nodup := by
  have nd : (liveN F B n).Nodup := List.Pairwise.filter _ (allN_nodup n8)
  refine List.nodup_append.mpr ⟨nd, List.pairwise_map.mpr (List.Pairwise.imp_of_mem (fun {a b} ha hb hab e => hab ?_) nd), fun a ha b hb e => ?_⟩
  · obtain ⟨c, hc, rfl⟩ := List.mem_map.mp hb
    rw [e] at ha
    exact live_other dl hc ha
  · rw [← others_two (live_mem.mp ha).1, ← others_two (live_mem.mp hb).1, e]
theorem live_in : ∀ l ∈ liveN F B n ++ (liveN F B n).map (fun l => othersN l n), l ∈ allN n := fun l hl => by
  rcases List.mem_append.mp hl with q | q
  · exact (live_mem.mp q).1
  · obtain ⟨c, _, rfl⟩ := List.mem_map.mp q
    exact others_all c n
theorem live_half (n8 : n ∈ List.range 8) : 2 * (liveN F B n).length ≤ 2 ^ n := by
  have := nodup_len _ _ (live_both dl n8) (live_in dl)
  rw [List.length_append, List.length_map, allN_full n n8] at this
  omega
theorem well_eq (wF : Well F) (wB : Well B) (hF : ∀ l ∈ F, l ∈ allN n) (hB : ∀ l ∈ B, l ∈ allN n) (h : ∀ l ∈ allN n, holdsN F l = holdsN B l) : B = F := by
  have side : ∀ {P Q : List Lot}, Well P → (∀ l ∈ P, l ∈ allN n) → (∀ l ∈ Q, l ∈ allN n) → Well Q → (∀ l ∈ allN n, holdsN P l = holdsN Q l) → ∀ a ∈ P, a ∈ Q := fun {P Q} wP hP hQ wQ h a ha => by
    have h1 : holdsN Q a = true := by
      rw [← h a (hP a ha)]
      exact (holds_iff P a).mpr ⟨a, ha, within_refl a⟩
    obtain ⟨b, hb, hw⟩ := (holds_iff Q a).mp h1
    have h2 : holdsN P b = true := by
      rw [h b (hQ b hb)]
      exact (holds_iff Q b).mpr ⟨b, hb, within_refl b⟩
    obtain ⟨c, hc, hw2⟩ := (holds_iff P b).mp h2
    have e := wP.anti c hc a ha (within_trans hw2 hw)
    subst e
    have := inc_ext (wP.inc c hc) (wQ.inc b hb) fun x => ⟨fun q => (within_iff c b).mp hw2 x q, fun q => (within_iff b c).mp hw x q⟩
    rw [this]
    exact hb
  exact sorted_uniq ord_leL wB.sorted wF.sorted ((List.perm_ext_iff_of_nodup wB.nd wF.nd).mpr fun l => ⟨side wB hB hF wF (fun l hl => (h l hl).symm) l, side wF hF hB wB h l⟩)
theorem live_full (n8 : n ∈ List.range 8) (wF : Well F) (wB : Well B) (hF : ∀ l ∈ F, l ∈ allN n) (hB : ∀ l ∈ B, l ∈ allN n) : 2 * (liveN F B n).length = 2 ^ n ↔ B = F := by
  constructor
  · intro he
    have cov : ∀ l ∈ allN n, l ∈ liveN F B n ∨ othersN l n ∈ liveN F B n := fun l hl => Classical.byContradiction fun z => by
      have hno : l ∉ liveN F B n ++ (liveN F B n).map (fun l => othersN l n) := fun q => by
        rcases List.mem_append.mp q with w | w
        · exact z (.inl w)
        · obtain ⟨c, hc, e⟩ := List.mem_map.mp w
          refine z (.inr ?_)
          rw [← e, others_two (live_mem.mp hc).1]
          exact hc
      have := nodup_len _ _ (List.nodup_cons.mpr ⟨hno, live_both dl n8⟩) fun x hx => (List.mem_cons.mp hx).elim (fun e => e ▸ hl) (live_in dl x)
      rw [List.length_cons, List.length_append, List.length_map, allN_full n n8] at this
      omega
    refine well_eq dl wF wB hF hB fun l hl => ?_
    rcases cov l hl with q | q
    · obtain ⟨_, q1, q2⟩ := live_mem.mp q
      rw [q1, q2]
    · obtain ⟨q0, q1, q2⟩ := live_mem.mp q
      have a1 := dl l
      have a2 := dl (othersN l n)
      rw [others_two hl] at a2
      rw [q2] at a1
      rw [q1] at a2
      rw [a2]
      cases e : holdsN F l with
      | false => rfl
      | true => rw [e] at a1; cases a1
  · intro he
    have cov : ∀ l ∈ allN n, l ∈ liveN F B n ++ (liveN F B n).map (fun l => othersN l n) := fun l hl => by
      have a1 := dl l
      rw [he] at a1
      rw [he]
      cases e : holdsN F l with
      | true => exact List.mem_append_left _ (live_mem.mpr ⟨hl, e, e⟩)
      | false =>
        rw [e] at a1
        exact List.mem_append_right _ (List.mem_map.mpr ⟨othersN l n, live_mem.mpr ⟨others_all l n, a1, a1⟩, others_two hl⟩)
    have h1 := nodup_len _ _ (allN_nodup n8) cov
    rw [List.length_append, List.length_map, allN_full n n8] at h1
    have := live_half dl n8
    omega
end
end Fam

namespace Fam
open PySem PySem.Spec PyProof.Rows L2 Pl
theorem shaped_fam (f : List Lot) : SeqAt.shaped (famD f) = true := by
  unfold SeqAt.shaped famD
  rw [Bool.and_eq_true]
  refine ⟨by simp only [PyData.canLay0]; exact lots_lay f, decide_eq_true ?_⟩
  have := lots_depth f
  simp only [PyData.depth]
  omega
theorem eqv_fam (a b : List Lot) : PyData.eqv (famD a) (famD b) = decide (a = b) := by
  have key : ∀ a b : List Lot, PyData.eqvAll (a.map lotD) (b.map lotD) = decide (a = b) := by
    intro a
    induction a with
    | nil => intro b; cases b <;> simp [PyData.eqvAll]
    | cons x a ih =>
      intro b
      cases b with
      | nil => simp [PyData.eqvAll]
      | cons y b =>
        rw [List.map_cons, List.map_cons, PyData.eqvAll, ih, eqv_nat]
        by_cases h : x = y
        · simp [h]
        · simp [h]
  unfold famD
  rw [PyData.eqv]
  exact key a b
theorem eqG_fam (a b : List Lot) : eqG (famD a) (famD b) = some (.va (.bool (decide (a = b)))) := by
  show (match SeqAt.shaped (famD a) && SeqAt.shaped (famD b) with | true => some (PyData.eqv (famD a) (famD b)) | false => none).map _ = _
  rw [shaped_fam, shaped_fam, eqv_fam]
  rfl
theorem neG_fam (a b : List Lot) : neG (famD a) (famD b) = some (.va (.bool !(decide (a = b)))) := by
  show (match SeqAt.shaped (famD a) && SeqAt.shaped (famD b) with | true => some (PyData.eqv (famD a) (famD b)) | false => none).map _ = _
  rw [shaped_fam, shaped_fam, eqv_fam]
  rfl
theorem eqG_bool (a b : Bool) : eqG (.bool a) (.bool b) = some (.va (.bool (decide (a = b)))) := rfl
theorem inT_fam (x : Lot) (L : List Lot) : inTG (lotD x) (famD L) = some (.va (.bool (L.any fun z => decide (z = x)))) := by
  show (match SeqAt.shaped (lotD x) && SeqAt.shaped (famD L) with | true => some (Rv.va (.bool ((L.map lotD).any fun z => PyData.eqv z (lotD x)))) | false => none) = _
  rw [shaped_lot, shaped_fam]
  show some (Rv.va (.bool ((L.map lotD).any fun z => PyData.eqv z (lotD x)))) = _
  rw [List.any_map]
  congr 4
  funext z
  exact eqv_nat z x
theorem r_blk : K73.m__law_blocker = K68.m__law_blocker := rfl
theorem r_all : K73.m__law_all = K75.m__law_all := rfl
theorem r_holds : K73.m__law_holds = K70.m__law_holds := rfl
theorem r_others : K73.m__law_others = K70.m__law_others := rfl
theorem r_live : K73.m_live_lots = K75.m_live_lots := rfl
theorem r_blkof : K73.m_blocker_of = K75.m_blocker_of := rfl
theorem r_same : ∀ n, K73.m__law_same n = K75.m__law_same n
  | 0 => rfl
  | n + 1 => by
    show runDef 2 2 (K73.b__law_sameM (K73.m__law_same n)) = runDef 2 2 (K75.b__law_sameM (K75.m__law_same n))
    rw [r_same n]
    rfl
theorem same73 {ρ ρ1 ρ2 : En} {f g : En → RM Rv} {d : PyData} (h1 : f ρ = some (.ok (.va d, ρ1))) (h2 : g ρ1 = some (.ok (.va d, ρ2))) (h : Sf 6 d) : callM (quiet (K73.m__law_same 6)) (consM f (consM g nilM)) ρ = some (.ok (.va (.bool true), ρ2)) := by
  rw [r_same]
  exact callM_va [d, d] (cons2 h1 h2) h rfl
structure Blk (n : Nat) (F B : List Lot) : Prop where
  eB : blkC [[]] F = some B
  inv : BInv n F B F.length
  well : Well B
  force : isort leL (forceN n F) = B
  sm : Sm B
theorem FamOK.blk {n : Nat} {F : List Lot} (hF : FamOK n F) : ∃ B, Blk n F B := by
  obtain ⟨B, eB, hB⟩ := blocker_all hF.f7
  refine ⟨B, eB, hB, blk_well well_start eB, force_eq hF.fits hB eB, ⟨by have := hB.len; omega, fun l hl => by have := hB.lot l hl; have := hF.len; omega⟩⟩
theorem FamOK.sm {n : Nat} {F : List Lot} (hF : FamOK n F) : Sm F := ⟨by have := hF.len; omega, fun l hl => by have := (hF.lot l hl).2.1; omega⟩
theorem Blk.lblk {n : Nat} {F B : List Lot} (hF : FamOK n F) (h : Blk n F B) : K68.m__law_blocker [.va (famD F), .va (nD n)] = some (.ok (.va (famD B), [.va (famD F), .va (nD n)])) := by
  have := lblk_ok hF
  rw [h.force] at this
  exact this
theorem Blk.blk {n : Nat} {F B : List Lot} (hF : FamOK n F) (h : Blk n F B) (d : PyData) : K75.m_blocker_of [.va (famD F), .va d] = some (.ok (.va (famD B), [.va (famD F), .va d])) :=
  blocker_ok (fun l hl => by have := (hF.lot l hl).2.1; omega) h.eB
def lr_in : En → RM Bool := bM (opM inTG (callM (quiet K73.m__law_others) (consM (varM 5) (consM (varM 0) nilM))) (varM 4))
theorem lr_ok {n : Nat} {F : List Lot} (hF : FamOK n F) : K73.m__law_live_right [.va (nD n), .va (famD F)] = some (.ok (.va (.bool true), [.va (nD n), .va (famD F)])) := by
  obtain ⟨B, hb⟩ := hF.blk
  have n7 := hF.n7
  have n8 : n ∈ List.range 8 := List.mem_range.mpr (by omega)
  have hlt : ∀ l ∈ F, ∀ x ∈ l, x < n := fun l hl => (hF.lot l hl).2.2
  have dl : ∀ l, holdsN B (othersN l n) = !holdsN F l := fun l => dual hlt hb.inv l
  let L := liveN F B n
  have hLen : L.length ≤ 128 := Nat.le_trans (List.length_filter_le _ _) (allN_len n7)
  let ρ2 : En := [.va (nD n), .va (famD F), .va (famD B), .un, .un, .un]
  have a2 : asgM 2 (callM (quiet K73.m__law_blocker) (consM (varM 1) (consM (varM 0) nilM))) [.va (nD n), .va (famD F), .un, .un, .un, .un] = some (.ok (.nx, ρ2)) :=
    asg_va (ρ1 := [.va (nD n), .va (famD F), .un, .un, .un, .un]) (callM_va [famD F, nD n] rfl (by rw [r_blk]; exact hb.lblk hF) rfl)
  have hL := lcL_map lotD lotD (i := 5) (test := Pl.andM (bM (callM (quiet K73.m__law_holds) (consM (varM 1) (consM (varM 5) nilM)))) (bM (callM (quiet K73.m__law_holds) (consM (varM 2) (consM (varM 5) nilM))))) (elt := varM 5) (ρ0 := ρ2) (fun l => holdsN F l && holdsN B l) id rfl (allN n) [] fun l _ =>
    ⟨and_tt (ρ2 := []) (b_va (callM_va [famD F, lotD l] rfl (by rw [r_holds]; exact lholds_ok l rfl hF.sm.2) rfl)) (b_va (callM_va [famD B, lotD l] rfl (by rw [r_holds]; exact lholds_ok l rfl hb.sm.2) rfl)), fun _ => ⟨_, rfl, rfl⟩⟩
  rw [List.nil_append, List.map_id] at hL
  have hs : seqM (callM (quiet K73.m__law_all) (consM (varM 0) nilM)) ρ2 = some (.ok ((allN n).map lotD, ρ2)) := sq_nw (callM_va [nD n] rfl (by rw [r_all]; exact lall_ok n7) rfl)
  let ρ3 : En := [.va (nD n), .va (famD F), .va (famD B), .va (famD L), .un, .un]
  have a3 : asgM 3 (cbM tupG (consM (lcM (seqM (callM (quiet K73.m__law_all) (consM (varM 0) nilM))) (stoN 5) (Pl.andM (bM (callM (quiet K73.m__law_holds) (consM (varM 1) (consM (varM 5) nilM)))) (bM (callM (quiet K73.m__law_holds) (consM (varM 2) (consM (varM 5) nilM))))) (varM 5) [5]) nilM)) ρ2 = some (.ok (.nx, ρ3)) :=
    asg_va (ρ1 := ρ2) (tup_of (lcM_of hs (by rw [List.length_map]; have := allN_len n7; omega) rfl hL))
  let ρ4 : En := [.va (nD n), .va (famD F), .va (famD B), .va (famD L), .va (famD L), .un]
  have a4 : asgM 4 (callM (quiet K73.m_live_lots) (consM (varM 1) (consM (varM 0) nilM))) ρ3 = some (.ok (.nx, ρ4)) :=
    asg_va (ρ1 := ρ3) (callM_va [famD F, nD n] rfl (by rw [r_live]; exact live_ok n7 hF.sm hb.sm hb.eB) rfl)
  have hlen : cbM lenG (consM (varM 4) nilM) ρ4 = some (.ok (.va (nD L.length), ρ4)) := by
    have := len_at (ρ := ρ4) (f := varM 4) (r := .va (famD L)) (d := famD L) (ds := L.map lotD) rfl rfl rfl
    rw [List.length_map] at this
    exact this
  have hmul : opM mulG (cM (.int 2)) (cbM lenG (consM (varM 4) nilM)) ρ4 = some (.ok (.va (nD (2 * L.length)), ρ4)) := op_vv (d := .int 2) rfl hlen (mul2_nat L.length (by omega))
  have hshl : opM shlG (cM (.int 1)) (varM 0) ρ4 = some (.ok (.va (nD (2 ^ n)), ρ4)) := op_vv (d := .int 1) (e := nD n) rfl rfl (shl_nat n (by omega))
  have half : 2 * L.length ≤ 2 ^ n := live_half dl n8
  have t5 : Pl.orM (Pl.notM (bM (callM (quiet (K73.m__law_same 6)) (consM (varM 4) (consM (varM 3) nilM))))) (bM (opM gtG (opM mulG (cM (.int 2)) (cbM lenG (consM (varM 4) nilM))) (opM shlG (cM (.int 1)) (varM 0)))) ρ4 = some (.ok (false, ρ4)) := by
    refine or_ff (ρ1 := ρ4) (not_of (b_va (same73 (ρ1 := ρ4) (d := famD L) rfl rfl (same_fam L)))) ?_
    have := b_va (op_vv hmul hshl (gtG_nat (2 * L.length) (2 ^ n)))
    rw [decide_eq_false (by omega)] at this
    exact this
  have hL6 := lcL_map lotD PyData.int (i := 5) (test := lr_in) (elt := cM (.int 1)) (ρ0 := ρ4) (fun l => L.any fun z => decide (z = othersN l n)) (fun _ => (1 : Int)) rfl L [] fun l _ =>
    ⟨b_va (op_vv (d := lotD (othersN l n)) (e := famD L) (callM_va [lotD l, nD n] rfl (by rw [r_others]; exact others_ok l n (by omega)) rfl) rfl (inT_fam (othersN l n) L)), fun _ => ⟨_, rfl, rfl⟩⟩
  have he : L.filter (fun l => L.any fun z => decide (z = othersN l n)) = [] := List.filter_eq_nil_iff.mpr fun l hl z => by
    obtain ⟨y, hy, e⟩ := List.any_eq_true.mp z
    have := of_decide_eq_true e
    subst this
    exact live_other dl hl hy
  rw [he] at hL6
  have hlc6 : lcOM 4 (stoN 5) lr_in (cM (.int 1)) [5] ρ4 = some (.ok (.nw [], ρ4)) :=
    lc_va (k := 4) (ρ := ρ4) (vs := [5]) (d := famD L) (items := L.map lotD) rfl rfl (by rw [List.length_map]; omega) rfl hL6
  have t6 : bM (opM neG (lcOM 4 (stoN 5) lr_in (cM (.int 1)) [5]) (lstM nilM)) ρ4 = some (.ok (false, ρ4)) := b_va (op_nw hlc6 (es := []) rfl (ne_nil_of rfl (shaped_ints [])))
  have full : decide (2 * L.length = 2 ^ n) = decide (B = F) := by
    have := live_full dl n8 hF.well hb.well (fun l hl => (allN_iff n l).mpr ⟨hF.well.inc l hl, hlt l hl⟩) fun l hl => (allN_iff n l).mpr ⟨hb.well.inc l hl, hb.inv.lt l hl⟩
    exact decide_eq_decide.mpr this
  have last : opM eqG (opM eqG (opM mulG (cM (.int 2)) (cbM lenG (consM (varM 4) nilM))) (opM shlG (cM (.int 1)) (varM 0))) (opM eqG (varM 2) (varM 1)) ρ4 = some (.ok (.va (.bool true), ρ4)) := by
    have h1 := op_vv hmul hshl (eqG_nat' (2 * L.length) (2 ^ n))
    have h2 : opM eqG (varM 2) (varM 1) ρ4 = some (.ok (.va (.bool (decide (B = F))), ρ4)) := op_vv (d := famD B) (e := famD F) rfl rfl (eqG_fam B F)
    have := op_vv h1 h2 (eqG_bool _ _)
    rw [full, decide_eq_true rfl] at this
    exact this
  refine runDef_rt rfl (ρ := ρ4) ?_ (r := .va (.bool true)) rfl rfl
  show K73.b__law_live_rightM [.va (nD n), .va (famD F), .un, .un, .un, .un] = _
  unfold K73.b__law_live_rightM
  rw [seq_nx a2, seq_nx a3, seq_nx a4, seq_nx (if_ff t5)]
  show sqM (ifM (bM (opM neG (lcOM 4 (stoN 5) lr_in (cM (.int 1)) [5]) (lstM nilM))) _ _) _ _ = _
  rw [seq_nx (if_ff t6)]
  exact ret_of ((andV_tt last).trans (same73 (ρ1 := ρ4) (d := famD B) (callM_va [famD F, nD n] rfl (by rw [r_blkof]; exact hb.blk hF (nD n)) rfl) rfl (same_fam B)))
end Fam

namespace Fam
open PySem PySem.Spec PyProof.Rows L2 Pl
/-! ### the greatest of a row -/
def maxL : Lot → Nat
  | [] => 0
  | x :: r => r.foldl max x
theorem foldl_max : ∀ (r : List Nat) (x : Nat), x ≤ r.foldl max x ∧ (∀ y ∈ r, y ≤ r.foldl max x) ∧ (r.foldl max x = x ∨ r.foldl max x ∈ r)
  | [], x => ⟨Nat.le_refl _, fun y h => (nomatch h), .inl rfl⟩
  | z :: r, x => by
    obtain ⟨h1, h2, h3⟩ := foldl_max r (max x z)
    show x ≤ r.foldl max (max x z) ∧ (∀ y ∈ z :: r, y ≤ r.foldl max (max x z)) ∧ (r.foldl max (max x z) = x ∨ r.foldl max (max x z) ∈ z :: r)
    refine ⟨by omega, fun y hy => ?_, ?_⟩
    · rcases List.mem_cons.mp hy with q | q
      · omega
      · exact h2 y q
    · rcases h3 with q | q
      · by_cases hxz : x ≤ z
        · refine .inr (List.mem_cons.mpr (.inl ?_))
          rw [q]
          omega
        · refine .inl ?_
          rw [q]
          omega
      · exact .inr (List.mem_cons_of_mem _ q)
theorem maxL_ge {l : Lot} {y : Nat} (h : y ∈ l) : y ≤ maxL l := by
  cases l with
  | nil => cases h
  | cons x r =>
    obtain ⟨h1, h2, _⟩ := foldl_max r x
    rcases List.mem_cons.mp h with q | q
    · rw [q]
      exact h1
    · exact h2 y q
theorem maxL_mem {l : Lot} (h : l ≠ []) : maxL l ∈ l := by
  cases l with
  | nil => exact absurd rfl h
  | cons x r =>
    rcases (foldl_max r x).2.2 with q | q
    · exact List.mem_cons.mpr (.inl q)
    · exact List.mem_cons_of_mem _ q
theorem foldZ : ∀ (r : List Nat) (x : Nat), (r.map Int.ofNat).foldl max (x : Int) = ((r.foldl max x : Nat) : Int)
  | [], x => rfl
  | z :: r, x => by
    show (r.map Int.ofNat).foldl max (max (x : Int) (z : Int)) = ((r.foldl max (max x z) : Nat) : Int)
    rw [← foldZ r (max x z)]
    congr 1
    omega
theorem max1_row {d : PyData} {l : Lot} (hs : seqItems d = some (l.map nD)) (h : l ≠ []) : max1G [d] = some (.va (nD (maxL l))) := by
  cases l with
  | nil => exact absurd rfl h
  | cons x r =>
    unfold max1G
    dsimp only
    rw [hs]
    dsimp only
    rw [intsD_nat]
    show some (Rv.va (.int ((r.map Int.ofNat).foldl max (x : Int)))) = _
    rw [foldZ]
    rfl
theorem cb_va {ρ ρ1 : En} {g : List PyData → Option Rv} {f : En → RM Rv} {d : PyData} {z : Rv} (h : f ρ = some (.ok (.va d, ρ1))) (hg : g [d] = some z) : cbM g (consM f nilM) ρ = some (.ok (z, ρ1)) := by
  unfold cbM consM
  rw [h]
  dsimp only [RM.bnd]
  show ob (g [d]) ρ1 = _
  rw [hg]
  rfl
def seven : En → RM Bool := Pl.andM (bM (opM eqG (cbM lenG (consM (varM 4) nilM)) (cM (.int 7)))) (Pl.andM (bM (opM ltG (varM 3) (cM (.int 7)))) (bM (opM eqG (cbM max1G (consM (lcOM 4 (stoN 7) yesM (cbM max1G (consM (varM 7) nilM)) [7]) nilM)) (cM (.int 6)))))
theorem seven_ok {m : Nat} {F : List Lot} (hne : F ≠ []) (hl : ∀ l ∈ F, l ≠ []) (hn : F.length ≤ 1000) {S K b s5 s6 : Sl} :
    seven [S, K, b, .va (nD m), .va (famD F), s5, s6, .un] = some (.ok (decide (F.length = 7) && (decide (m < 7) && decide (maxL (F.map maxL) = 6)), [S, K, b, .va (nD m), .va (famD F), s5, s6, .un])) := by
  let ρ : En := [S, K, b, .va (nD m), .va (famD F), s5, s6, .un]
  have hL := lcL_map lotD nD (i := 7) (test := yesM) (elt := cbM max1G (consM (varM 7) nilM)) (ρ0 := ρ) (fun _ => true) maxL rfl F [] fun l hm =>
    ⟨rfl, fun _ => ⟨_, cb_va (d := lotD l) rfl (max1_row rfl (hl l hm)), rfl⟩⟩
  rw [List.nil_append, List.filter_eq_self.mpr fun _ _ => rfl] at hL
  have hlc : lcOM 4 (stoN 7) yesM (cbM max1G (consM (varM 7) nilM)) [7] ρ = some (.ok (.nw ((F.map maxL).map nD), ρ)) :=
    lc_va (k := 4) (ρ := ρ) (vs := [7]) (d := famD F) (items := F.map lotD) rfl rfl (by rw [List.length_map]; omega) rfl hL
  have h3 : cbM max1G (consM (lcOM 4 (stoN 7) yesM (cbM max1G (consM (varM 7) nilM)) [7]) nilM) ρ = some (.ok (.va (nD (maxL (F.map maxL))), ρ)) := cb_list hlc (max1_row rfl (by simpa using hne))
  have hlen : cbM lenG (consM (varM 4) nilM) ρ = some (.ok (.va (nD F.length), ρ)) := by
    have := len_at (ρ := ρ) (f := varM 4) (r := .va (famD F)) (d := famD F) (ds := F.map lotD) rfl rfl rfl
    rw [List.length_map] at this
    exact this
  exact and_tt (ρ2 := []) (b_va (op_vv hlen (e := .int ((7 : Nat) : Int)) rfl (eqG_nat' F.length 7))) (and_tt (ρ2 := []) (b_va (op_vv (d := nD m) (e := .int ((7 : Nat) : Int)) rfl rfl (ltG_nat m 7))) (b_va (op_vv h3 (e := .int ((6 : Nat) : Int)) rfl (eqG_nat' _ 6))))
/-! ### a family without one lot; with a lot more -/
theorem fewer_eq {F : List Lot} {p : Nat} (hp : p < F.length) {S K b m s6 s7 : Sl} (hn : F.length ≤ 1000) :
    opM addG (slM slG (varM 4) noPart (partM (varM 5))) (slM slG (varM 4) (partM (opM addG (varM 5) (cM (.int 1)))) noPart) [S, K, b, m, .va (famD F), .va (nD p), s6, s7] = some (.ok (.va (famD (F.eraseIdx p)), [S, K, b, m, .va (famD F), .va (nD p), s6, s7])) := by
  let ρ : En := [S, K, b, m, .va (famD F), .va (nD p), s6, s7]
  have c1 : Pl.cutD (F.map lotD) none (some (p : Int)) = (F.take p).map lotD := by
    unfold Pl.cutD
    rw [HT.sIx_none, HT.sIx_nat, List.length_map, Nat.min_eq_left (by omega), List.drop_zero, Nat.sub_zero, List.map_take]
  have c2 : Pl.cutD (F.map lotD) (some ((p + 1 : Nat) : Int)) none = (F.drop (p + 1)).map lotD := by
    unfold Pl.cutD
    rw [HT.sIx_none, HT.sIx_nat, List.length_map, Nat.min_eq_left (by omega), List.map_drop, List.take_of_length_le (by rw [List.length_drop, List.length_map]; omega)]
  have h1 : slM slG (varM 4) noPart (partM (varM 5)) ρ = some (.ok (.va (.tuple (Pl.cutD (F.map lotD) none (some (p : Int)))), ρ)) := rfl
  have h2 : slM slG (varM 4) (partM (opM addG (varM 5) (cM (.int 1)))) noPart ρ = some (.ok (.va (.tuple (Pl.cutD (F.map lotD) (some ((p + 1 : Nat) : Int)) none)), ρ)) := by
    have ha : opM addG (varM 5) (cM (.int 1)) ρ = some (.ok (.va (nD (p + 1)), ρ)) := op_vv (d := nD p) (e := .int ((1 : Nat) : Int)) rfl rfl (add_nat p 1)
    have hv : varM 4 ρ = some (.ok (.va (famD F), ρ)) := rfl
    unfold slM partM
    rw [hv]
    dsimp only [RM.bnd]
    rw [ha]
    rfl
  rw [c1] at h1
  rw [c2] at h2
  refine op_vv h1 h2 ?_
  show (match few ((F.take p).map lotD ++ (F.drop (p + 1)).map lotD) with | true => some (Rv.va (.tuple ((F.take p).map lotD ++ (F.drop (p + 1)).map lotD))) | false => none) = _
  rw [← List.map_append, ← List.eraseIdx_eq_take_drop_succ, few_of (by rw [List.length_map]; have := List.length_eraseIdx_le F p; omega)]
  rfl
theorem Well.sub {F G : List Lot} (h : Well F) (s : G.Sublist F) : Well G :=
  ⟨fun l hl => h.inc l (s.subset hl), fun a ha b hb => h.anti a (s.subset ha) b (s.subset hb), h.sorted.sublist s, h.nd.sublist s⟩
theorem FamOK.sub {n : Nat} {F G : List Lot} (h : FamOK n F) (s : G.Sublist F) (ne : G ≠ []) : FamOK n G :=
  ⟨h.n1, h.n7, ne, Nat.le_trans s.length_le h.len, fun l hl => h.lot l (s.subset hl), h.well.sub s⟩
theorem FamOK.gl {n : Nat} {F : List Lot} (h : FamOK n F) : ∀ l ∈ F, GL n l := fun l hl => ⟨(h.lot l hl).1, h.well.inc l hl, (h.lot l hl).2.2⟩
theorem well_len {n : Nat} {F : List Lot} (h1 : 1 ≤ n) (hn : n ≤ 6) (g : ∀ l ∈ F, GL n l) (w : Well F) : F.length ≤ 62 := by
  by_cases hr : List.range n ∈ F
  · have := nodup_len F [List.range n] w.nd fun a ha => List.mem_singleton.mpr (w.anti a ha _ hr ((within_iff a _).mpr fun x hx => List.mem_range.mpr ((g a ha).lt x hx)))
    simp at this
    omega
  · have := good_len hn (List.nodup_cons.mpr ⟨hr, w.nd⟩) fun l hl => (List.mem_cons.mp hl).elim (fun e => by rw [e]; exact range_good h1) (g l)
    rw [List.length_cons] at this
    omega
theorem FamOK.more {n : Nat} {F : List Lot} (h : FamOK n F) (hlen : F.length ≤ 62) {l : Lot} (hl : GL n l) : FamOK n (lleastN (F ++ [l])) := by
  have g : ∀ a ∈ F ++ [l], GL n a := fun a ha => (List.mem_append.mp ha).elim (h.gl a) fun q => by rw [List.mem_singleton.mp q]; exact hl
  refine GF.ok h.n1 h.n7 (lleast_ne g (by simp)) ?_ (fun a ha => g a (lleast_mem ha)) (lleast_well fun a ha => (g a ha).inc)
  have := nodup_len _ _ (lleast_nodup (F ++ [l])) fun a ha => lleast_mem ha
  rw [List.length_append] at this
  simp at this
  omega
end Fam

namespace K76
open PySem PySem.Spec PyProof.Rows L2 Pl
def b__law_boxM : En → RM Ot := (sqM (asgM 2 (opM addG (opM mulG (cM (.int 12011)) (varM 1)) (cM (.int 7321))))
    (sqM (ifM (bM (opM ltG (varM 1) (cbM lenG (consM (varM 0) nilM)))) (asgM 2 (cbM absG (consM (cbM intG (consM (opM ixG (varM 0) (varM 1)) nilM)) nilM))) (ifM (bM (opM gtG (cbM lenG (consM (varM 0) nilM)) (cM (.int 0)))) (asgM 2 (opM addG (varM 2) (opM mulG (opM modG (cbM intG (consM (cbM absG (consM (cbM intG (consM (opM ixG (varM 0) (opM modG (cbM intG (consM (varM 1) nilM)) (cbM lenG (consM (varM 0) nilM)))) nilM)) nilM)) nilM)) (cM (.int 2147483563))) (cM (.int 68213))))) nxM))
    (sqM (asgM 3 (ifX (bM (opM geG (varM 2) (opM powG (cM (.int 10)) (cM (.int 18))))) (varM 2) (cM (.int 0))))
    (retM (lstM (consM (varM 3) (consM (opM addG (opM modG (cbM intG (consM (opM addG (opM mulG (opM modG (cbM intG (consM (varM 2) nilM)) (cM (.int 2147483563))) (cM (.int 58271))) (opM mulG (cM (.int 7321)) (varM 1))) nilM)) (cM (.int 2147483563))) (cM (.int 1))) nilM)))))))
def m__law_box : En → RM Rv := runDef 2 2 b__law_boxM
def b__law_takeM : En → RM Ot := (sqM (ifM (bM (opM gtG (opM ixG (varM 0) (cM (.int 0))) (cM (.int 0)))) (sqM (asgM 2 (opM modG (cbM intG (consM (opM ixG (varM 0) (cM (.int 0))) nilM)) (varM 1)))
    (sqM (setM 0 (opM divG (opM ixG (varM 0) (cM (.int 0))) (varM 1)) (cM (.int 0)))
    (retM (varM 2)))) nxM)
    (sqM (asgM 3 (opM modG (cbM intG (consM (opM addG (opM mulG (opM ixG (varM 0) (cM (.int 1))) (cM (.int 39373))) (cM (.int 307))) nilM)) (cM (.int 2147483647))))
    (sqM (setM 0 (opM addG (opM modG (cbM intG (consM (opM addG (opM mulG (varM 3) (cM (.int 40692))) (cM (.int 61))) nilM)) (cM (.int 2147483399))) (cM (.int 1))) (cM (.int 1)))
    (retM (opM modG (cbM intG (consM (opM divG (opM addG (opM mulG (varM 3) (cM (.int 2147483629))) (opM ixG (varM 0) (cM (.int 1)))) (cM (.int 8233))) nilM)) (varM 1))))))
def m__law_take : En → RM Rv := runDef 2 2 b__law_takeM
def b__law_lotM : En → RM Ot := (sqM (parXM 2 3 (callM (quiet m__law_take) (consM (varM 0) (consM (varM 1) nilM))) (lstM nilM))
    (sqM (asgM 4 (opM addG (cM (.int 1)) (callM (quiet m__law_take) (consM (varM 0) (consM (cM (.int 4)) nilM)))))
    (sqM (forM (rng1M (consM (varM 1) nilM)) (stoN 5) (ifM (orM (bM (opM eqG (varM 5) (varM 2))) (bM (opM ltG (callM (quiet m__law_take) (consM (varM 0) (consM (cM (.int 5)) nilM))) (varM 4)))) (appM 3 (varM 5)) nxM))
    (retM (cbM tupG (consM (varM 3) nilM))))))
def m__law_lot : En → RM Rv := runDef 2 4 b__law_lotM
def b__law_withinM : En → RM Ot := (retM (opM eqG (lcOM 0 (stoN 2) (bM (opM notInG (varM 2) (varM 1))) (cM (.int 1)) [2]) (lstM nilM)))
def m__law_within : En → RM Rv := runDef 2 1 b__law_withinM
def b__law_leastM : En → RM Ot := (sqM (asgM 1 (lstM nilM))
    (sqM (forM (seqM (sortSetM (varM 0))) (stoN 2) (ifM (bM (opM eqG (lcOM 0 (stoN 3) (andM (bM (opM neG (varM 3) (varM 2))) (bM (callM (quiet m__law_within) (consM (varM 3) (consM (varM 2) nilM))))) (cM (.int 1)) [3]) (lstM nilM))) (appM 1 (varM 2)) nxM))
    (retM (cbM tupG (consM (varM 1) nilM)))))
def m__law_least : En → RM Rv := runDef 1 3 b__law_leastM
def b__law_allM : En → RM Ot := (sqM (asgM 1 (lstM (consM (tupM nilM) nilM)))
    (sqM (forM (rng1M (consM (varM 0) nilM)) (stoN 2) (asgM 1 (opM addG (varM 1) (lcOM 1 (stoN 3) yesM (opM addG (varM 3) (tupM (consM (varM 2) nilM))) [3]))))
    (retM (cbM sortG (consM (varM 1) nilM)))))
def m__law_all : En → RM Rv := runDef 1 3 b__law_allM
def b__law_thresholdM : En → RM Ot := (retM (cbM tupG (consM (lcM (seqM (callM (quiet m__law_all) (consM (varM 0) nilM))) (stoN 2) (bM (opM eqG (cbM lenG (consM (varM 2) nilM)) (varM 1))) (varM 2) [2]) nilM)))
def m__law_threshold : En → RM Rv := runDef 2 1 b__law_thresholdM
def b__law_composedM : En → RM Ot := (sqM (parXM 2 3 (lstM nilM) (cM (.int 0)))
    (sqM (forM (seqM (varM 1)) (stoT 2 (stosCons (stoN 4) (stosCons (stoN 5) stosNil))) (sqM (appM 2 (lcOM 5 (stoN 7) yesM (cbM tupG (consM (lcM (seqM (varM 7)) (stoN 9) yesM (opM addG (varM 3) (varM 9)) [9]) nilM)) [7]))
    (asgM 3 (opM addG (varM 3) (varM 4)))))
    (sqM (asgM 6 (lstM nilM))
    (sqM (forM (seqM (varM 0)) (stoN 7) (sqM (asgM 8 (lstM (consM (tupM nilM) nilM)))
    (sqM (forM (seqM (varM 7)) (stoN 9) (sqM (asgM 10 (lstM nilM))
    (sqM (forM (seqM (varM 8)) (stoN 11) (asgM 10 (opM addG (varM 10) (lcM (seqM (opM ixG (varM 2) (varM 9))) (stoN 12) yesM (opM addG (varM 11) (varM 12)) [12]))))
    (asgM 8 (varM 10)))))
    (asgM 6 (opM addG (varM 6) (varM 8))))))
    (retM (cbM tupG (consM (cbM sortG (consM (varM 6) nilM)) nilM)))))))
def m__law_composed : En → RM Rv := runDef 2 11 b__law_composedM
def b__law_shuffledM : En → RM Ot := (sqM (parXM 2 3 (cbM lstG (consM (varM 1) nilM)) (lstM nilM))
    (sqM (forM (rng1M (consM (cbM lenG (consM (varM 1) nilM)) nilM)) (stoN 4) (appM 3 (popM 2 (callM (quiet m__law_take) (consM (varM 0) (consM (cbM lenG (consM (varM 2) nilM)) nilM))))))
    (retM (varM 3))))
def m__law_shuffled : En → RM Rv := runDef 2 3 b__law_shuffledM
def b__law_fanoM : En → RM Ot := (sqM (asgM 1 (callM (quiet m__law_shuffled) (consM (varM 0) (consM (lstRgM (cM (.int 7))) nilM))))
    (retM (cbM tupG (consM (cbM sortG (consM (lcM (rng1M (consM (cM (.int 7)) nilM)) (stoN 2) yesM (cbM tupG (consM (cbM sortG (consM (lcM (seqM (tupM (consM (cM (.int 0)) (consM (cM (.int 1)) (consM (cM (.int 3)) nilM))))) (stoN 3) yesM (opM ixG (varM 1) (opM modG (cbM intG (consM (opM addG (varM 2) (varM 3)) nilM)) (cM (.int 7)))) [3]) nilM)) nilM)) [2]) nilM)) nilM))))
def m__law_fano : En → RM Rv := runDef 1 3 b__law_fanoM
def b__law_pickM : En → RM Ot := (retM (opM ixG (varM 1) (callM (quiet m__law_take) (consM (varM 0) (consM (cbM lenG (consM (varM 1) nilM)) nilM)))))
def m__law_pick : En → RM Rv := runDef 2 0 b__law_pickM
def b__law_holdsM : En → RM Ot := (sqM (forM (seqM (varM 0)) (stoN 2) (ifM (bM (callM (quiet m__law_within) (consM (varM 2) (consM (varM 1) nilM)))) (retM (cM (.bool true))) nxM))
    (retM (cM (.bool false))))
def m__law_holds : En → RM Rv := runDef 2 1 b__law_holdsM
def b__law_othersM : En → RM Ot := (retM (cbM tupG (consM (lcM (rng1M (consM (varM 1) nilM)) (stoN 2) (bM (opM notInG (varM 2) (varM 0))) (varM 2) [2]) nilM)))
def m__law_others : En → RM Rv := runDef 2 1 b__law_othersM
def b__law_own_blockerM : En → RM Ot := (sqM (asgM 2 (ifX (bM (opM eqG (callM (quiet m__law_take) (consM (varM 0) (consM (cM (.int 9)) nilM))) (cM (.int 0)))) (tupM (consM (tupM (consM (callM (quiet m__law_take) (consM (varM 0) (consM (varM 1) nilM))) nilM)) nilM)) (callM (quiet m__law_threshold) (consM (varM 1) (consM (varM 1) nilM)))))
    (sqM (forM (rng1M (consM (cM (.int 70)) nilM)) (stoN 3) (sqM (asgM 4 (lcM (seqM (callM (quiet m__law_all) (consM (varM 1) nilM))) (stoN 6) (andM (notM (bM (callM (quiet m__law_holds) (consM (varM 2) (consM (varM 6) nilM))))) (notM (bM (callM (quiet m__law_holds) (consM (varM 2) (consM (callM (quiet m__law_others) (consM (varM 6) (consM (varM 1) nilM))) nilM)))))) (varM 6) [6]))
    (sqM (asgM 5 (lcOM 4 (stoN 6) (bM (opM gtG (cbM lenG (consM (varM 6) nilM)) (cM (.int 1)))) (varM 6) [6]))
    (sqM (ifM (bM (opM eqG (varM 4) (lstM nilM))) bkM nxM)
    (asgM 2 (callM (quiet m__law_least) (consM (opM addG (cbM lstG (consM (varM 2) nilM)) (lstM (consM (callM (quiet m__law_pick) (consM (varM 0) (consM (ifX (bM (opM neG (varM 5) (lstM nilM))) (varM 5) (varM 4)) nilM))) nilM))) nilM)))))))
    (retM (varM 2))))
def m__law_own_blocker : En → RM Rv := runDef 2 5 b__law_own_blockerM
def b__law_familyM : En → RM Ot := (sqM (parXM 2 3 (opM addG (cM (.int 1)) (callM (quiet m__law_take) (consM (varM 0) (consM (varM 1) nilM)))) (callM (quiet m__law_take) (consM (varM 0) (consM (cM (.int 8)) nilM))))
    (sqM (ifM (bM (opM eqG (varM 3) (cM (.int 0)))) (retM (tupM (consM (varM 2) (consM (callM (quiet m__law_threshold) (consM (varM 2) (consM (opM addG (cM (.int 1)) (callM (quiet m__law_take) (consM (varM 0) (consM (varM 2) nilM)))) nilM))) nilM)))) nxM)
    (sqM (ifM (bM (opM eqG (varM 3) (cM (.int 1)))) (retM (ifX (bM (opM eqG (varM 2) (cM (.int 7)))) (tupM (consM (cM (.int 7)) (consM (callM (quiet m__law_fano) (consM (varM 0) nilM)) nilM))) (tupM (consM (varM 2) (consM (callM (quiet m__law_own_blocker) (consM (varM 0) (consM (varM 2) nilM))) nilM))))) nxM)
    (sqM (ifM (andM (bM (opM eqG (varM 3) (cM (.int 2)))) (bM (opM gtG (varM 1) (cM (.int 5))))) (retM (tupM (consM (cM (.int 6)) (consM (callM (quiet m__law_composed) (consM (callM (quiet m__law_threshold) (consM (cM (.int 3)) (consM (cM (.int 2)) nilM))) (consM (opM repG (tupM (consM (tupM (consM (cM (.int 2)) (consM (callM (quiet m__law_pick) (consM (varM 0) (consM (lstM (consM (tupM (consM (tupM (consM (cM (.int 0)) nilM)) (consM (tupM (consM (cM (.int 1)) nilM)) nilM))) (consM (tupM (consM (tupM (consM (cM (.int 0)) (consM (cM (.int 1)) nilM))) nilM)) nilM))) nilM))) nilM))) nilM)) (cM (.int 3))) nilM))) nilM)))) nxM)
    (sqM (asgM 4 (lcM (rng1M (consM (opM addG (cM (.int 1)) (callM (quiet m__law_take) (consM (varM 0) (consM (callM (quiet m__law_pick) (consM (varM 0) (consM (lstM (consM (cM (.int 2)) (consM (cM (.int 6)) (consM (cM (.int 16)) (consM (cM (.int 40)) nilM))))) nilM))) nilM)))) nilM)) (stoN 5) yesM (callM (quiet m__law_lot) (consM (varM 0) (consM (varM 2) nilM))) [5]))
    (retM (tupM (consM (varM 2) (consM (callM (quiet m__law_least) (consM (varM 4) nilM)) nilM)))))))))
def m__law_family : En → RM Rv := runDef 2 4 b__law_familyM
def b_is_withinM : En → RM Ot := (retM (opM eqG (cbM lenG (consM (lcOM 0 (stoN 2) (bM (opM notInG (varM 2) (varM 1))) (varM 2) [2]) nilM)) (cM (.int 0))))
def m_is_within : En → RM Rv := runDef 2 1 b_is_withinM
def b_lot_holdsM : En → RM Ot := (retM (opM gtG (cbM lenG (consM (lcOM 0 (stoN 2) (bM (callM (quiet m_is_within) (consM (varM 2) (consM (varM 1) nilM)))) (varM 2) [2]) nilM)) (cM (.int 0))))
def m_lot_holds : En → RM Rv := runDef 2 1 b_lot_holdsM
def b_least_lotsM : En → RM Ot := (sqM (asgM 1 (lstM nilM))
    (sqM (forM (seqM (sortKM (varM 0))) (stoN 2) (ifM (notM (bM (callM (quiet m_lot_holds) (consM (varM 1) (consM (varM 2) nilM))))) (appM 1 (varM 2)) nxM))
    (retM (cbM tupG (consM (cbM sortG (consM (varM 1) nilM)) nilM)))))
def m_least_lots : En → RM Rv := runDef 1 2 b_least_lotsM
def b_meetsM : En → RM Ot := (retM (opM gtG (cbM lenG (consM (lcOM 0 (stoN 2) (bM (opM inG (varM 2) (varM 1))) (varM 2) [2]) nilM)) (cM (.int 0))))
def m_meets : En → RM Rv := runDef 2 1 b_meetsM
def b_with_houseM : En → RM Ot := (retM (cbM tupG (consM (cbM sortG (consM (opM addG (varM 0) (tupM (consM (varM 1) nilM))) nilM)) nilM)))
def m_with_house : En → RM Rv := runDef 2 0 b_with_houseM
def b_blocker_ofM : En → RM Ot := (sqM (asgM 2 (tupM (consM (tupM nilM) nilM)))
    (sqM (forM (seqM (varM 0)) (stoN 3) (sqM (asgM 4 (lstM nilM))
    (sqM (forM (seqM (varM 2)) (stoN 5) (ifM (bM (callM (quiet m_meets) (consM (varM 5) (consM (varM 3) nilM)))) (appM 4 (varM 5)) (extM 4 (lcOM 3 (stoN 6) yesM (callM (quiet m_with_house) (consM (varM 5) (consM (varM 6) nilM))) [6]))))
    (asgM 2 (callM (quiet m_least_lots) (consM (varM 4) nilM))))))
    (retM (varM 2))))
def m_blocker_of : En → RM Rv := runDef 2 5 b_blocker_ofM
def b_all_lotsM : En → RM Ot := (sqM (asgM 1 (lstM (consM (tupM nilM) nilM)))
    (sqM (forM (rng1M (consM (varM 0) nilM)) (stoN 2) (asgM 1 (opM addG (varM 1) (lcOM 1 (stoN 3) yesM (opM addG (varM 3) (tupM (consM (varM 2) nilM))) [3]))))
    (retM (cbM tupG (consM (cbM sortG (consM (varM 1) nilM)) nilM)))))
def m_all_lots : En → RM Rv := runDef 1 3 b_all_lotsM
def b_live_lotsM : En → RM Ot := (sqM (asgM 2 (callM (quiet m_blocker_of) (consM (varM 0) (consM (varM 1) nilM))))
    (retM (cbM tupG (consM (lcM (seqM (callM (quiet m_all_lots) (consM (varM 1) nilM))) (stoN 3) (andM (bM (callM (quiet m_lot_holds) (consM (varM 0) (consM (varM 3) nilM)))) (bM (callM (quiet m_lot_holds) (consM (varM 2) (consM (varM 3) nilM))))) (varM 3) [3]) nilM))))
def m_live_lots : En → RM Rv := runDef 2 2 b_live_lotsM
def b__law_namedM : En → RM Ot := (retM (cbM tupG (consM (cbM sortG (consM (lcOM 0 (stoN 2) yesM (cbM tupG (consM (cbM sortG (consM (lcM (seqM (varM 2)) (stoN 3) yesM (opM ixG (varM 1) (varM 3)) [3]) nilM)) nilM)) [2]) nilM)) nilM)))
def m__law_named : En → RM Rv := runDef 2 2 b__law_namedM
def b__law_maskM : En → RM Ot := (retM (cbM sumG (consM (lcOM 0 (stoN 1) yesM (opM shlG (cM (.int 1)) (varM 1)) [1]) nilM)))
def m__law_mask : En → RM Rv := runDef 1 1 b__law_maskM
def b__law_blockerM : En → RM Ot := (sqM (parXM 2 3 (lcOM 0 (stoN 4) yesM (callM (quiet m__law_mask) (consM (varM 4) nilM)) [4]) (lstM nilM))
    (sqM (forM (rng1M (consM (opM shlG (cM (.int 1)) (varM 1)) nilM)) (stoN 4) (appM 3 (opM eqG (lcOM 2 (stoN 6) (bM (opM eqG (opM bandG (varM 6) (varM 4)) (cM (.int 0)))) (cM (.int 1)) [6]) (lstM nilM))))
    (sqM (asgM 5 (lstM nilM))
    (sqM (forM (rng1M (consM (opM shlG (cM (.int 1)) (varM 1)) nilM)) (stoN 4) (ifM (andM (bM (opM ixG (varM 3) (varM 4))) (bM (opM eqG (lcM (rng1M (consM (varM 1) nilM)) (stoN 7) (andM (iM (opM bandG (varM 4) (opM shlG (cM (.int 1)) (varM 7)))) (bM (opM ixG (varM 3) (opM subG (varM 4) (opM shlG (cM (.int 1)) (varM 7)))))) (cM (.int 1)) [7]) (lstM nilM)))) (appM 5 (cbM tupG (consM (lcM (rng1M (consM (varM 1) nilM)) (stoN 7) (iM (opM bandG (varM 4) (opM shlG (cM (.int 1)) (varM 7)))) (varM 7) [7]) nilM))) nxM))
    (retM (cbM tupG (consM (cbM sortG (consM (varM 5) nilM)) nilM)))))))
def m__law_blocker : En → RM Rv := runDef 2 6 b__law_blockerM
def b__law_sameM (self : En → RM Rv) : En → RM Ot := (sqM (ifM (bM (isiM .tuple (varM 1))) (sqM (ifM (orM (notM (bM (isiM .tuple (varM 0)))) (bM (opM neG (cbM lenG (consM (varM 0) nilM)) (cbM lenG (consM (varM 1) nilM))))) (retM (cM (.bool false))) nxM)
    (sqM (forM (zipM (consM (varM 0) (consM (varM 1) nilM))) (stoT 2 (stosCons (stoN 2) (stosCons (stoN 3) stosNil))) (ifM (notM (bM (callM (quiet self) (consM (varM 2) (consM (varM 3) nilM))))) (retM (cM (.bool false))) nxM))
    (retM (cM (.bool true))))) nxM)
    (sqM (ifM (bM (opM isNG (varM 1) (cM .none))) (retM (opM isNG (varM 0) (cM .none))) nxM)
    (sqM (ifM (orM (bM (opM isBG (varM 1) (cM (.bool true)))) (bM (opM isBG (varM 1) (cM (.bool false))))) (retM (andV (isiM .bool (varM 0)) (opM eqG (varM 0) (varM 1)))) nxM)
    (sqM (ifM (bM (isiM .int (varM 1))) (retM (andV (isiM .int (varM 0)) (andV (notV (isiM .bool (varM 0))) (opM eqG (varM 0) (varM 1))))) nxM)
    (retM (andV (isiM .str (varM 0)) (andV (isiM .str (varM 1)) (opM eqG (varM 0) (varM 1)))))))))
def m__law_same : Nat → En → RM Rv
  | 0 => noneM
  | n + 1 => runDef 2 2 (b__law_sameM (m__law_same n))
def b_moved_lotsM : En → RM Ot := (retM (lcOM 0 (stoN 2) yesM (cbM tupG (consM (lcM (seqM (varM 2)) (stoN 3) yesM (opM addG (varM 1) (varM 3)) [3]) nilM)) [2]))
def m_moved_lots : En → RM Rv := runDef 2 2 b_moved_lotsM
def b_composed_familyM : En → RM Ot := (sqM (parXM 2 3 (lstM nilM) (cM (.int 0)))
    (sqM (forM (seqM (varM 1)) (stoT 2 (stosCons (stoN 4) (stosCons (stoN 5) stosNil))) (sqM (appM 2 (callM (quiet m_moved_lots) (consM (varM 5) (consM (varM 3) nilM))))
    (augM 3 (fun i j => i + j) (varM 4))))
    (sqM (asgM 6 (lstM nilM))
    (sqM (forM (seqM (varM 0)) (stoN 7) (sqM (asgM 8 (lstM (consM (tupM nilM) nilM)))
    (sqM (forM (seqM (varM 7)) (stoN 9) (asgM 8 (lcOM2 8 (stoN 10) yesM (seqM (opM ixG (varM 2) (varM 9))) (stoN 11) yesM (opM addG (varM 10) (varM 11)) [10, 11] [11])))
    (extOM 6 8))))
    (retM (cbM tupG (consM (cbM sortG (consM (varM 6) nilM)) nilM)))))))
def m_composed_family : En → RM Rv := runDef 2 10 b_composed_familyM
def b_is_meetingM : En → RM Ot := (sqM (forM (enumM (consM (varM 0) nilM)) (stoT 2 (stosCons (stoN 1) (stosCons (stoN 2) stosNil))) (ifM (bM (opM gtG (cbM lenG (consM (lcM (seqM (slM slG (varM 0) noPart (partM (varM 1)))) (stoN 3) (notM (bM (callM (quiet m_meets) (consM (varM 3) (consM (varM 2) nilM))))) (varM 3) [3]) nilM)) (cM (.int 0)))) (retM (cM (.bool false))) nxM))
    (retM (cM (.bool true))))
def m_is_meeting : En → RM Rv := runDef 1 3 b_is_meetingM
def b__law_meetsM : En → RM Ot := (retM (opM neG (lcOM 0 (stoN 2) (bM (opM inG (varM 2) (varM 1))) (cM (.int 1)) [2]) (lstM nilM)))
def m__law_meets : En → RM Rv := runDef 2 1 b__law_meetsM
def b__law_meetingM : En → RM Ot := (retM (opM eqG (lcOM 0 (stoN 1) (bM (opM neG (lcM (seqM (varM 0)) (stoN 2) (notM (bM (callM (quiet m__law_meets) (consM (varM 1) (consM (varM 2) nilM))))) (cM (.int 1)) [2]) (lstM nilM))) (cM (.int 1)) [1]) (lstM nilM)))
def m__law_meeting : En → RM Rv := runDef 1 2 b__law_meetingM
def b_lawM : En → RM Ot := (sqM (forM (rng1M (consM (cbM maxG (consM (cM (.int 3)) (consM (cbM minG (consM (cbM lenG (consM (varM 0) nilM)) (consM (cM (.int 6)) nilM))) nilM))) nilM)) (stoN 1) (sqM (asgM 2 (callM (quiet m__law_box) (consM (varM 0) (consM (varM 1) nilM))))
    (sqM (unpM (stoT 2 (stosCons (stoN 3) (stosCons (stoN 4) stosNil))) (callM (quiet m__law_family) (consM (varM 2) (consM (cM (.int 7)) nilM))))
    (sqM (asgM 5 (callM (quiet m__law_shuffled) (consM (varM 2) (consM (lstRgM (varM 3)) nilM))))
    (sqM (parXM 6 7 (callM (quiet m__law_named) (consM (varM 4) (consM (varM 5) nilM))) (callM (quiet m__law_blocker) (consM (varM 4) (consM (varM 3) nilM))))
    (sqM (ifM (orM (notM (bM (callM (quiet (m__law_same 6)) (consM (callM (quiet m_blocker_of) (consM (varM 4) (consM (varM 3) nilM))) (consM (varM 7) nilM))))) (notM (bM (callM (quiet (m__law_same 6)) (consM (callM (quiet m_blocker_of) (consM (varM 6) (consM (varM 3) nilM))) (consM (callM (quiet m__law_named) (consM (varM 7) (consM (varM 5) nilM))) nilM)))))) (retM (cM (.bool false))) nxM)
    (sqM (asgM 8 (callM (quiet m_live_lots) (consM (varM 4) (consM (varM 3) nilM))))
    (sqM (asgM 9 (cbM tupG (consM (lcM (seqM (callM (quiet m__law_all) (consM (varM 3) nilM))) (stoN 10) (andM (bM (callM (quiet m__law_holds) (consM (varM 4) (consM (varM 10) nilM)))) (bM (callM (quiet m__law_holds) (consM (varM 7) (consM (varM 10) nilM))))) (varM 10) [10]) nilM)))
    (sqM (ifM (orM (notM (bM (callM (quiet (m__law_same 6)) (consM (varM 8) (consM (varM 9) nilM))))) (notM (bM (callM (quiet (m__law_same 6)) (consM (callM (quiet m_live_lots) (consM (varM 6) (consM (varM 3) nilM))) (consM (callM (quiet m__law_named) (consM (varM 9) (consM (varM 5) nilM))) nilM)))))) (retM (cM (.bool false))) nxM)
    (sqM (ifM (notM (bM (callM (quiet (m__law_same 6)) (consM (tupM (consM (callM (quiet m_is_meeting) (consM (varM 4) nilM)) (consM (callM (quiet m_is_meeting) (consM (varM 6) nilM)) nilM))) (consM (tupM (consM (callM (quiet m__law_meeting) (consM (varM 4) nilM)) (consM (callM (quiet m__law_meeting) (consM (varM 4) nilM)) nilM))) nilM))))) (retM (cM (.bool false))) nxM)
    (sqM (asgM 10 (callM (quiet m__law_pick) (consM (varM 2) (consM (callM (quiet m__law_all) (consM (varM 3) nilM)) nilM))))
    (sqM (ifM (notM (bM (callM (quiet (m__law_same 6)) (consM (callM (quiet m_lot_holds) (consM (varM 6) (consM (opM ixG (callM (quiet m__law_named) (consM (lstM (consM (varM 10) nilM)) (consM (varM 5) nilM))) (cM (.int 0))) nilM))) (consM (callM (quiet m__law_holds) (consM (varM 4) (consM (varM 10) nilM))) nilM))))) (retM (cM (.bool false))) nxM)
    (sqM (ifM (notM (bM (callM (quiet (m__law_same 6)) (consM (callM (quiet m_composed_family) (consM (tupM (consM (tupM (consM (cM (.int 0)) nilM)) nilM)) (consM (tupM (consM (tupM (consM (varM 3) (consM (varM 4) nilM))) nilM)) nilM))) (consM (varM 4) nilM))))) (retM (cM (.bool false))) nxM)
    (sqM (ifM (notM (bM (callM (quiet (m__law_same 6)) (consM (callM (quiet m_composed_family) (consM (varM 4) (consM (opM rep2G (tupM (consM (tupM (consM (cM (.int 1)) (consM (tupM (consM (tupM (consM (cM (.int 0)) nilM)) nilM)) nilM))) nilM)) (varM 3)) nilM))) (consM (varM 4) nilM))))) (retM (cM (.bool false))) nxM)
    (ifM (bM (opM ltG (varM 3) (cM (.int 7)))) (sqM (asgM 11 (callM (quiet m__law_named) (consM (varM 4) (consM (lcM (rng1M (consM (varM 3) nilM)) (stoN 12) yesM (opM addG (varM 12) (cM (.int 1))) [12]) nilM))))
    (sqM (ifM (notM (bM (callM (quiet (m__law_same 6)) (consM (callM (quiet m_blocker_of) (consM (varM 11) (consM (opM addG (varM 3) (cM (.int 1))) nilM))) (consM (callM (quiet m__law_named) (consM (varM 7) (consM (lcM (rng1M (consM (varM 3) nilM)) (stoN 12) yesM (opM addG (varM 12) (cM (.int 1))) [12]) nilM))) nilM))))) (retM (cM (.bool false))) nxM)
    (ifM (notM (bM (callM (quiet (m__law_same 6)) (consM (cbM lenG (consM (callM (quiet m_live_lots) (consM (varM 11) (consM (opM addG (varM 3) (cM (.int 1))) nilM))) nilM)) (consM (opM mulG (cM (.int 2)) (cbM lenG (consM (varM 9) nilM))) nilM))))) (retM (cM (.bool false))) nxM))) nxM)))))))))))))))
    (retM (cM (.bool true))))
def m_law : En → RM Rv := runDef 1 12 b_lawM
end K76

namespace Fam
open PySem PySem.Spec PyProof.Rows L2 Pl
/-! ### houses under other names -/
structure Nm (n m : Nat) (ν : Nat → Nat) : Prop where
  inj : ∀ x y, x < n → y < n → ν x = ν y → x = y
  lt : ∀ x, x < n → ν x < m
def namedL (ν : Nat → Nat) (l : Lot) : Lot := isort Nat.ble (l.map ν)
def namedF (ν : Nat → Nat) (F : List Lot) : List Lot := isort leL (F.map (namedL ν))
theorem named_mem (ν : Nat → Nat) (l : Lot) (x : Nat) : x ∈ namedL ν l ↔ ∃ y ∈ l, ν y = x := by
  unfold namedL
  rw [(isort_perm _).mem_iff, List.mem_map]
section
variable {n m : Nat} {ν : Nat → Nat} (N : Nm n m ν)
include N
theorem named_in {l : Lot} (hl : ∀ x ∈ l, x < n) {y : Nat} (hy : y < n) : ν y ∈ namedL ν l ↔ y ∈ l := by
  rw [named_mem]
  constructor
  · rintro ⟨z, hz, e⟩
    rw [← N.inj z y (hl z hz) hy e]
    exact hz
  · exact fun h => ⟨y, h, rfl⟩
theorem named_inc {l : Lot} (hi : Inc l) (hl : ∀ x ∈ l, x < n) : Inc (namedL ν l) :=
  isort_inc (List.pairwise_map.mpr (List.Pairwise.imp_of_mem (fun {a b} ha hb hab e => Nat.lt_irrefl a (by have := N.inj a b (hl a ha) (hl b hb) e; omega)) hi))
theorem named_lt {l : Lot} (hl : ∀ x ∈ l, x < n) : ∀ x ∈ namedL ν l, x < m := fun x hx => by
  obtain ⟨y, hy, rfl⟩ := (named_mem ν l x).mp hx
  exact N.lt y (hl y hy)
theorem named_within {a b : Lot} (ha : ∀ x ∈ a, x < n) (hb : ∀ x ∈ b, x < n) : withinN (namedL ν a) (namedL ν b) = withinN a b := by
  rw [Bool.eq_iff_iff, within_iff, within_iff]
  constructor
  · intro h x hx
    exact (named_in N hb (ha x hx)).mp (h _ ((named_in N ha (ha x hx)).mpr hx))
  · intro h x hx
    obtain ⟨y, hy, rfl⟩ := (named_mem ν a x).mp hx
    exact (named_in N hb (ha y hy)).mpr (h y hy)
theorem named_meets {a b : Lot} (ha : ∀ x ∈ a, x < n) (hb : ∀ x ∈ b, x < n) : meetsN (namedL ν a) (namedL ν b) = meetsN a b := by
  rw [Bool.eq_iff_iff, meets_iff, meets_iff]
  constructor
  · rintro ⟨x, h1, h2⟩
    obtain ⟨y, hy, rfl⟩ := (named_mem ν a x).mp h1
    exact ⟨y, hy, (named_in N hb (ha y hy)).mp h2⟩
  · rintro ⟨x, h1, h2⟩
    exact ⟨ν x, (named_in N ha (ha x h1)).mpr h1, (named_in N hb (hb x h2)).mpr h2⟩
theorem namedL_inj {a b : Lot} (ia : Inc a) (ib : Inc b) (ha : ∀ x ∈ a, x < n) (hb : ∀ x ∈ b, x < n) (e : namedL ν a = namedL ν b) : a = b :=
  inc_ext ia ib fun x => ⟨fun h => (named_in N hb (ha x h)).mp (by rw [← e]; exact (named_in N ha (ha x h)).mpr h), fun h => (named_in N ha (hb x h)).mp (by rw [e]; exact (named_in N hb (hb x h)).mpr h)⟩
theorem namedF_mem (F : List Lot) (l : Lot) : l ∈ namedF ν F ↔ ∃ a ∈ F, namedL ν a = l := by
  unfold namedF
  rw [(isort_perm _).mem_iff, List.mem_map]
theorem named_holds {F : List Lot} {l : Lot} (hF : ∀ a ∈ F, ∀ x ∈ a, x < n) (hl : ∀ x ∈ l, x < n) : holdsN (namedF ν F) (namedL ν l) = holdsN F l := by
  rw [Bool.eq_iff_iff, holds_iff, holds_iff]
  constructor
  · rintro ⟨a, ha, hw⟩
    obtain ⟨b, hb, rfl⟩ := (namedF_mem N F a).mp ha
    rw [named_within N (hF b hb) hl] at hw
    exact ⟨b, hb, hw⟩
  · rintro ⟨a, ha, hw⟩
    exact ⟨namedL ν a, (namedF_mem N F _).mpr ⟨a, ha, rfl⟩, by rw [named_within N (hF a ha) hl]; exact hw⟩
theorem named_well {F : List Lot} (w : Well F) (hF : ∀ a ∈ F, ∀ x ∈ a, x < n) : Well (namedF ν F) := by
  have nd : (F.map (namedL ν)).Nodup := List.pairwise_map.mpr (List.Pairwise.imp_of_mem (fun {a b} ha hb hab e => hab (namedL_inj N (w.inc a ha) (w.inc b hb) (hF a ha) (hF b hb) e)) w.nd)
  refine ⟨fun l hl => ?_, fun a ha b hb hw => ?_, isort_sorted ord_leL _, (isort_perm _).nodup_iff.mpr nd⟩
  · obtain ⟨a, ha, rfl⟩ := (namedF_mem N F l).mp hl
    exact named_inc N (w.inc a ha) (hF a ha)
  · obtain ⟨c, hc, rfl⟩ := (namedF_mem N F a).mp ha
    obtain ⟨d, hd, rfl⟩ := (namedF_mem N F b).mp hb
    rw [named_within N (hF c hc) (hF d hd)] at hw
    rw [w.anti c hc d hd hw]
theorem named_fam {F : List Lot} (h : FamOK n F) (m1 : 1 ≤ m) (m7 : m ≤ 7) : FamOK m (namedF ν F) := by
  have hF : ∀ a ∈ F, ∀ x ∈ a, x < n := fun a ha => (h.lot a ha).2.2
  refine ⟨m1, m7, fun z => h.ne ?_, ?_, fun l hl => ?_, named_well N h.well hF⟩
  · have := (isort_perm (le := leL) (F.map (namedL ν))).length_eq
    unfold namedF at z
    rw [z, List.length_map] at this
    exact List.length_eq_zero_iff.mp this.symm
  · unfold namedF
    rw [(isort_perm _).length_eq, List.length_map]
    exact h.len
  · obtain ⟨a, ha, rfl⟩ := (namedF_mem N F l).mp hl
    have hlen : (namedL ν a).length = a.length := by
      unfold namedL
      rw [(isort_perm _).length_eq, List.length_map]
    refine ⟨fun z => (h.lot a ha).1 ?_, by rw [hlen]; exact (h.lot a ha).2.1, named_lt N (hF a ha)⟩
    rw [z] at hlen
    exact List.length_eq_zero_iff.mp hlen.symm
theorem hits_named {F : List Lot} (hF : ∀ a ∈ F, ∀ x ∈ a, x < n) {l : Lot} (hl : ∀ x ∈ l, x < n) : Hits (namedF ν F) (namedL ν l) ↔ Hits F l := by
  constructor
  · intro h a ha
    rw [← named_meets N hl (hF a ha)]
    exact h _ ((namedF_mem N F _).mpr ⟨a, ha, rfl⟩)
  · intro h a ha
    obtain ⟨c, hc, rfl⟩ := (namedF_mem N F a).mp ha
    rw [named_meets N hl (hF c hc)]
    exact h c hc
theorem named_without {l : Lot} (hi : Inc l) (hl : ∀ x ∈ l, x < n) {h : Nat} (hh : h ∈ l) : (namedL ν l).filter (fun x => !Nat.beq x (ν h)) = namedL ν (l.filter fun x => !Nat.beq x h) := by
  have hi2 : Inc (l.filter fun x => !Nat.beq x h) := hi.filter _
  have hl2 : ∀ x ∈ l.filter (fun x => !Nat.beq x h), x < n := fun x hx => hl x ((without_mem l h x).mp hx).1
  refine inc_ext ((named_inc N hi hl).filter _) (named_inc N hi2 hl2) fun x => ?_
  rw [without_mem, named_mem, named_mem]
  constructor
  · rintro ⟨⟨y, hy, rfl⟩, hne⟩
    exact ⟨y, (without_mem l h y).mpr ⟨hy, fun e => hne (by rw [e])⟩, rfl⟩
  · rintro ⟨y, hy, rfl⟩
    obtain ⟨h1, h2⟩ := (without_mem l h y).mp hy
    exact ⟨⟨y, h1, rfl⟩, fun e => h2 (N.inj y h (hl y h1) (hl h hh) e)⟩
theorem least_named {F : List Lot} (hF : ∀ a ∈ F, ∀ x ∈ a, x < n) (l' : Lot) : Least (namedF ν F) m l' ↔ ∃ l, Least F n l ∧ namedL ν l = l' := by
  constructor
  · rintro ⟨h1, h2, h3, h4⟩
    have img : ∀ x ∈ l', ∃ y, y < n ∧ ν y = x := fun x hx => Classical.byContradiction fun z => h4 x hx fun f hf => by
      obtain ⟨a, ha, rfl⟩ := (namedF_mem N F f).mp hf
      obtain ⟨w, w1, w2⟩ := (meets_iff l' _).mp (h3 _ hf)
      refine (meets_iff _ _).mpr ⟨w, (without_mem l' x w).mpr ⟨w1, fun e => z ?_⟩, w2⟩
      obtain ⟨y, hy, e2⟩ := (named_mem ν a w).mp w2
      exact ⟨y, hF a ha y hy, by rw [e2, e]⟩
    let l := (List.range n).filter fun y => memN (ν y) l'
    have lm : ∀ y, y ∈ l ↔ y < n ∧ ν y ∈ l' := fun y => by rw [List.mem_filter, List.mem_range, memN_iff]
    have li : Inc l := List.pairwise_lt_range.filter _
    have ll : ∀ y ∈ l, y < n := fun y hy => ((lm y).mp hy).1
    have e : namedL ν l = l' := inc_ext (named_inc N li ll) h1 fun x => by
      rw [named_mem]
      constructor
      · rintro ⟨y, hy, rfl⟩
        exact ((lm y).mp hy).2
      · intro hx
        obtain ⟨y, hy, rfl⟩ := img x hx
        exact ⟨y, (lm y).mpr ⟨hy, hx⟩, rfl⟩
    refine ⟨l, ⟨li, ll, (hits_named N hF ll).mp (by rw [e]; exact h3), fun h hh z => ?_⟩, e⟩
    have hl2 : ∀ x ∈ l.filter (fun x => !Nat.beq x h), x < n := fun x hx => ll x ((without_mem l h x).mp hx).1
    refine h4 (ν h) ((lm h).mp hh).2 ?_
    rw [← e, named_without N li ll hh]
    exact (hits_named N hF hl2).mpr z
  · rintro ⟨l, ⟨h1, h2, h3, h4⟩, rfl⟩
    refine ⟨named_inc N h1 h2, named_lt N h2, (hits_named N hF h2).mpr h3, fun h' hh' z => ?_⟩
    obtain ⟨h, hh, rfl⟩ := (named_mem ν l h').mp hh'
    have hl2 : ∀ x ∈ l.filter (fun x => !Nat.beq x h), x < n := fun x hx => h2 x ((without_mem l h x).mp hx).1
    rw [named_without N h1 h2 hh] at z
    exact h4 h hh ((hits_named N hF hl2).mp z)
/-- the blocker of the family under other names -/
theorem blk_named {F B B' : List Lot} (hF : FamOK n F) (b : Blk n F B) (b' : Blk m (namedF ν F) B') : B' = namedF ν B := by
  have hlt : ∀ a ∈ F, ∀ x ∈ a, x < n := fun a ha => (hF.lot a ha).2.2
  have wB := named_well N b.well b.inv.lt
  refine sorted_uniq ord_leL b'.well.sorted wB.sorted ((List.perm_ext_iff_of_nodup b'.well.nd wB.nd).mpr fun l => ?_)
  rw [blk_iff b'.inv b'.well, least_named N hlt, namedF_mem N]
  exact ⟨fun ⟨a, h, e⟩ => ⟨a, (blk_iff b.inv b.well a).mpr h, e⟩, fun ⟨a, h, e⟩ => ⟨a, (blk_iff b.inv b.well a).mp h, e⟩⟩
end
end Fam

namespace Fam
open PySem PySem.Spec PyProof.Rows L2 Pl
/-! ### live lots, meeting, under other names -/
def preL (ν : Nat → Nat) (n : Nat) (l' : Lot) : Lot := (List.range n).filter fun y => memN (ν y) l'
theorem pre_mem (ν : Nat → Nat) (n : Nat) (l' : Lot) (y : Nat) : y ∈ preL ν n l' ↔ y < n ∧ ν y ∈ l' := by
  unfold preL
  rw [List.mem_filter, List.mem_range, memN_iff]
theorem pre_inc (ν : Nat → Nat) (n : Nat) (l' : Lot) : Inc (preL ν n l') := List.pairwise_lt_range.filter _
theorem pre_all (ν : Nat → Nat) (n : Nat) (l' : Lot) : preL ν n l' ∈ allN n := (allN_iff n _).mpr ⟨pre_inc ν n l', fun x hx => ((pre_mem ν n l' x).mp hx).1⟩
theorem live_sorted (F B : List Lot) (n : Nat) : (liveN F B n).Pairwise fun a b => leL a b = true := List.Pairwise.filter _ (isort_sorted ord_leL _)
section
variable {n m : Nat} {ν : Nat → Nat} (N : Nm n m ν)
include N
theorem pre_holds {F : List Lot} (hF : ∀ a ∈ F, ∀ x ∈ a, x < n) (l' : Lot) : holdsN (namedF ν F) l' = holdsN F (preL ν n l') := by
  rw [Bool.eq_iff_iff, holds_iff, holds_iff]
  constructor
  · rintro ⟨a, ha, hw⟩
    obtain ⟨b, hb, rfl⟩ := (namedF_mem N F a).mp ha
    exact ⟨b, hb, (within_iff b _).mpr fun x hx => (pre_mem ν n l' x).mpr ⟨hF b hb x hx, (within_iff _ _).mp hw _ ((named_mem ν b _).mpr ⟨x, hx, rfl⟩)⟩⟩
  · rintro ⟨a, ha, hw⟩
    refine ⟨namedL ν a, (namedF_mem N F _).mpr ⟨a, ha, rfl⟩, (within_iff _ _).mpr fun x hx => ?_⟩
    obtain ⟨y, hy, rfl⟩ := (named_mem ν a x).mp hx
    exact ((pre_mem ν n l' y).mp ((within_iff a _).mp hw y hy)).2
theorem pre_named {l : Lot} (h : l ∈ allN n) : preL ν n (namedL ν l) = l := by
  obtain ⟨h1, h2⟩ := (allN_iff n l).mp h
  refine inc_ext (pre_inc ν n _) h1 fun x => ?_
  rw [pre_mem]
  exact ⟨fun ⟨q1, q2⟩ => (named_in N h2 q1).mp q2, fun q => ⟨h2 x q, (named_in N h2 (h2 x q)).mpr q⟩⟩
theorem live_named {F B : List Lot} (n8 : n ∈ List.range 8) (hm : m = n) (sur : ∀ x, x < n → ∃ y, y < n ∧ ν y = x) (hF : ∀ a ∈ F, ∀ x ∈ a, x < n) (hB : ∀ a ∈ B, ∀ x ∈ a, x < n) : liveN (namedF ν F) (namedF ν B) n = namedF ν (liveN F B n) := by
  subst hm
  have nd1 : (liveN (namedF ν F) (namedF ν B) m).Nodup := List.Pairwise.filter _ (allN_nodup n8)
  have nd2 : ((liveN F B m).map (namedL ν)).Nodup := List.pairwise_map.mpr (List.Pairwise.imp_of_mem (fun {a b} ha hb hab e => hab (by
    have h1 := (allN_iff m a).mp (live_mem.mp ha).1
    have h2 := (allN_iff m b).mp (live_mem.mp hb).1
    exact namedL_inj N h1.1 h2.1 h1.2 h2.2 e)) (List.Pairwise.filter _ (allN_nodup n8)))
  refine sorted_uniq ord_leL (live_sorted _ _ m) (isort_sorted ord_leL _) ((List.perm_ext_iff_of_nodup nd1 ((isort_perm _).nodup_iff.mpr nd2)).mpr fun l' => ?_)
  rw [(isort_perm _).mem_iff, List.mem_map, live_mem, pre_holds N hF, pre_holds N hB]
  constructor
  · rintro ⟨h1, h2, h3⟩
    obtain ⟨q1, q2⟩ := (allN_iff m l').mp h1
    refine ⟨preL ν m l', live_mem.mpr ⟨pre_all ν m l', h2, h3⟩, ?_⟩
    have g := (allN_iff m _).mp (pre_all ν m l')
    refine inc_ext (named_inc N g.1 g.2) q1 fun x => ?_
    rw [named_mem]
    constructor
    · rintro ⟨y, hy, rfl⟩
      exact ((pre_mem ν m l' y).mp hy).2
    · intro hx
      obtain ⟨y, hy, rfl⟩ := sur x (q2 x hx)
      exact ⟨y, (pre_mem ν m l' y).mpr ⟨hy, hx⟩, rfl⟩
  · rintro ⟨l, hl, rfl⟩
    obtain ⟨h1, h2, h3⟩ := live_mem.mp hl
    obtain ⟨q1, q2⟩ := (allN_iff m l).mp h1
    rw [pre_named N h1]
    exact ⟨(allN_iff m _).mpr ⟨named_inc N q1 q2, named_lt N q2⟩, h2, h3⟩
end
/-- all lots meet -/
def mtN (F : List Lot) : Bool := F.all fun a => F.all fun b => meetsN a b
theorem meetF_iff : ∀ (r pre : List Lot), meetF pre r = true ↔ r.Pairwise (fun a b => meetsN a b = true) ∧ ∀ a ∈ pre, ∀ b ∈ r, meetsN a b = true
  | [], pre => ⟨fun _ => ⟨List.Pairwise.nil, fun a _ b hb => (nomatch hb)⟩, fun _ => rfl⟩
  | lot :: r, pre => by
    unfold meetF
    cases e : pre.any fun one => !meetsN one lot with
    | true =>
      obtain ⟨a, ha, h⟩ := List.any_eq_true.mp e
      rw [Bool.not_eq_true'] at h
      refine ⟨fun z => (by cases z), fun z => ?_⟩
      rw [z.2 a ha lot List.mem_cons_self] at h
      cases h
    | false =>
      show meetF (pre ++ [lot]) r = true ↔ _
      rw [meetF_iff r (pre ++ [lot]), List.pairwise_cons]
      have hpre : ∀ a ∈ pre, meetsN a lot = true := fun a ha => by
        have := (List.any_eq_false.mp e) a ha
        rw [Bool.not_eq_true', Bool.not_eq_false] at this
        exact this
      constructor
      · rintro ⟨h1, h2⟩
        refine ⟨⟨fun b hb => h2 lot (List.mem_append_right _ List.mem_cons_self) b hb, h1⟩, fun a ha b hb => ?_⟩
        rcases List.mem_cons.mp hb with q | q
        · rw [q]; exact hpre a ha
        · exact h2 a (List.mem_append_left _ ha) b q
      · rintro ⟨⟨h1, h2⟩, h3⟩
        refine ⟨h2, fun a ha b hb => ?_⟩
        rcases List.mem_append.mp ha with q | q
        · exact h3 a q b (List.mem_cons_of_mem _ hb)
        · rw [List.mem_singleton.mp q]
          exact h1 b hb
theorem meets_comm (a b : Lot) : meetsN a b = meetsN b a := by
  rw [Bool.eq_iff_iff, meets_iff, meets_iff]
  exact ⟨fun ⟨x, h1, h2⟩ => ⟨x, h2, h1⟩, fun ⟨x, h1, h2⟩ => ⟨x, h2, h1⟩⟩
theorem meetF_eq {F : List Lot} (h : ∀ l ∈ F, l ≠ []) : meetF [] F = mtN F := by
  rw [Bool.eq_iff_iff, meetF_iff]
  unfold mtN
  rw [List.all_eq_true]
  constructor
  · rintro ⟨h1, _⟩ a ha
    rw [List.all_eq_true]
    intro b hb
    rcases pw_two h1 a ha b hb with q | q | q
    · subst q
      obtain ⟨y, ys, e⟩ := List.exists_cons_of_ne_nil (h a ha)
      exact (meets_iff a a).mpr ⟨y, by rw [e]; exact List.mem_cons_self, by rw [e]; exact List.mem_cons_self⟩
    · exact q
    · rw [meets_comm]; exact q
  · intro h1
    refine ⟨List.pairwise_of_forall_mem_list fun a ha b hb => List.all_eq_true.mp (h1 a ha) b hb, fun a ha => nomatch ha⟩
theorem mt_named {n m : Nat} {ν : Nat → Nat} (N : Nm n m ν) {F : List Lot} (hF : ∀ a ∈ F, ∀ x ∈ a, x < n) : mtN (namedF ν F) = mtN F := by
  unfold mtN
  rw [Bool.eq_iff_iff, List.all_eq_true, List.all_eq_true]
  constructor
  · intro h a ha
    rw [List.all_eq_true]
    intro b hb
    have := List.all_eq_true.mp (h (namedL ν a) ((namedF_mem N F _).mpr ⟨a, ha, rfl⟩)) (namedL ν b) ((namedF_mem N F _).mpr ⟨b, hb, rfl⟩)
    rw [named_meets N (hF a ha) (hF b hb)] at this
    exact this
  · intro h a ha
    rw [List.all_eq_true]
    intro b hb
    obtain ⟨c, hc, rfl⟩ := (namedF_mem N F a).mp ha
    obtain ⟨d, hd, rfl⟩ := (namedF_mem N F b).mp hb
    rw [named_meets N (hF c hc) (hF d hd)]
    exact List.all_eq_true.mp (h c hc) d hd
/-! one house more, in no lot -/
theorem nm_succ (n : Nat) : Nm n (n + 1) (· + 1) := ⟨fun x y _ _ e => Nat.succ.inj e, fun x h => Nat.succ_lt_succ h⟩
theorem live_more {n : Nat} (n8 : n ∈ List.range 8) (n8' : n + 1 ∈ List.range 8) {F B : List Lot} (hF : ∀ a ∈ F, ∀ x ∈ a, x < n) (hB : ∀ a ∈ B, ∀ x ∈ a, x < n) : (liveN (namedF (· + 1) F) (namedF (· + 1) B) (n + 1)).length = 2 * (liveN F B n).length := by
  have N := nm_succ n
  let L := liveN F B n
  let c := namedL (· + 1)
  have g : ∀ l ∈ L, Inc l ∧ ∀ x ∈ l, x < n := fun l hl => (allN_iff n l).mp (live_mem.mp hl).1
  have ndL : L.Nodup := List.Pairwise.filter _ (allN_nodup n8)
  have cinj : ∀ a ∈ L, ∀ b ∈ L, c a = c b → a = b := fun a ha b hb e => namedL_inj N (g a ha).1 (g b hb).1 (g a ha).2 (g b hb).2 e
  have c0 : ∀ l, 0 ∉ c l := fun l z => by
    obtain ⟨y, _, e⟩ := (named_mem _ l 0).mp z
    exact Nat.succ_ne_zero y e
  have nd : (L.map c ++ L.map fun l => 0 :: c l).Nodup := by
    refine List.nodup_append.mpr ⟨List.pairwise_map.mpr (List.Pairwise.imp_of_mem (fun {a b} ha hb hab e => hab (cinj a ha b hb e)) ndL), List.pairwise_map.mpr (List.Pairwise.imp_of_mem (fun {a b} ha hb hab e => hab (cinj a ha b hb (List.cons.inj e).2)) ndL), fun a ha b hb e => ?_⟩
    obtain ⟨x, _, rfl⟩ := List.mem_map.mp ha
    obtain ⟨y, _, rfl⟩ := List.mem_map.mp hb
    exact c0 x (by rw [e]; exact List.mem_cons_self)
  have nd1 : (liveN (namedF (· + 1) F) (namedF (· + 1) B) (n + 1)).Nodup := List.Pairwise.filter _ (allN_nodup n8')
  have perm : (liveN (namedF (· + 1) F) (namedF (· + 1) B) (n + 1)).Perm (L.map c ++ L.map fun l => 0 :: c l) := by
    refine (List.perm_ext_iff_of_nodup nd1 nd).mpr fun l' => ?_
    rw [live_mem, pre_holds N hF, pre_holds N hB, List.mem_append, List.mem_map, List.mem_map]
    constructor
    · rintro ⟨h1, h2, h3⟩
      obtain ⟨q1, q2⟩ := (allN_iff (n + 1) l').mp h1
      have hp : preL (· + 1) n l' ∈ L := live_mem.mpr ⟨pre_all _ n l', h2, h3⟩
      have gp := g _ hp
      have mem : ∀ x, x ∈ c (preL (· + 1) n l') ↔ x ≠ 0 ∧ x ∈ l' := fun x => by
        show x ∈ namedL (· + 1) _ ↔ _
        rw [named_mem]
        constructor
        · rintro ⟨y, hy, rfl⟩
          exact ⟨Nat.succ_ne_zero y, ((pre_mem _ n l' y).mp hy).2⟩
        · rintro ⟨x0, hx⟩
          obtain ⟨y, rfl⟩ := Nat.exists_eq_succ_of_ne_zero x0
          have := q2 _ hx
          exact ⟨y, (pre_mem _ n l' y).mpr ⟨by omega, hx⟩, rfl⟩
      have ci : Inc (c (preL (· + 1) n l')) := named_inc N gp.1 gp.2
      by_cases h0 : 0 ∈ l'
      · refine .inr ⟨_, hp, inc_ext (List.pairwise_cons.mpr ⟨fun x hx => Nat.pos_of_ne_zero ((mem x).mp hx).1, ci⟩) q1 fun x => ?_⟩
        rw [List.mem_cons, mem]
        by_cases hx : x = 0
        · subst hx
          exact ⟨fun _ => h0, fun _ => .inl rfl⟩
        · exact ⟨fun z => z.elim (fun e => absurd e hx) fun w => w.2, fun z => .inr ⟨hx, z⟩⟩
      · refine .inl ⟨_, hp, inc_ext ci q1 fun x => ?_⟩
        rw [mem]
        exact ⟨fun z => z.2, fun z => ⟨fun e => h0 (e ▸ z), z⟩⟩
    · intro h
      have fin : ∀ l ∈ L, ∀ l', Inc l' → (∀ x ∈ l', x < n + 1) → (∀ x, x + 1 ∈ l' ↔ x ∈ l) → l' ∈ allN (n + 1) ∧ holdsN F (preL (· + 1) n l') = true ∧ holdsN B (preL (· + 1) n l') = true := fun l hl l' i1 i2 i3 => by
        have e : preL (· + 1) n l' = l := inc_ext (pre_inc _ n l') (g l hl).1 fun x => by
          rw [pre_mem, i3]
          exact ⟨fun q => q.2, fun q => ⟨(g l hl).2 x q, q⟩⟩
        rw [e]
        exact ⟨(allN_iff (n + 1) l').mpr ⟨i1, i2⟩, (live_mem.mp hl).2.1, (live_mem.mp hl).2.2⟩
      have cm : ∀ l ∈ L, ∀ x, x + 1 ∈ c l ↔ x ∈ l := fun l hl x => by
        show x + 1 ∈ namedL (· + 1) l ↔ _
        rw [named_mem]
        exact ⟨fun ⟨y, hy, e⟩ => by rw [← Nat.succ.inj e]; exact hy, fun q => ⟨x, q, rfl⟩⟩
      rcases h with ⟨l, hl, rfl⟩ | ⟨l, hl, rfl⟩
      · exact fin l hl _ (named_inc N (g l hl).1 (g l hl).2) (named_lt N (g l hl).2) (cm l hl)
      · refine fin l hl _ (List.pairwise_cons.mpr ⟨fun x hx => Nat.pos_of_ne_zero fun e => c0 l (e ▸ hx), named_inc N (g l hl).1 (g l hl).2⟩) (fun x hx => ?_) fun x => ?_
        · rcases List.mem_cons.mp hx with q | q
          · omega
          · exact named_lt N (g l hl).2 x q
        · rw [List.mem_cons, cm l hl]
          exact ⟨fun z => z.elim (fun e => absurd e (Nat.succ_ne_zero x)) id, .inr⟩
  rw [perm.length_eq, List.length_append, List.length_map, List.length_map]
  show L.length + L.length = 2 * L.length
  omega
end Fam

namespace Fam
open PySem PySem.Spec PyProof.Rows L2 Pl
/-! ### _law_named, _law_meeting -/
def nmF (nm : List Nat) (h : Nat) : Nat := nm.getD h 0
def NmSl (s : Sl) (nm : List Nat) : Prop := s = .va (.list (nm.map nD)) ∨ s = .ow 2 (nm.map nD)
theorem nm_at {nm : List Nat} {h : Nat} (hh : h < nm.length) : ixG (.list (nm.map nD)) (nD h) = some (.va (nD (nmF nm h))) := by
  rw [ixG_of (d := .list (nm.map nD)) rfl (by rw [List.length_map]; exact hh), List.getElem_map]
  unfold nmF
  rw [List.getD_eq_getElem?_getD, List.getElem?_eq_getElem hh]
  rfl
theorem nm_ix {nm : List Nat} {s0 s1 s2 : Sl} (hs : NmSl s1 nm) {h : Nat} (hh : h < nm.length) : opM ixG (varM 1) (varM 3) [s0, s1, s2, .va (nD h)] = some (.ok (.va (nD (nmF nm h)), [s0, s1, s2, .va (nD h)])) := by
  rcases hs with rfl | rfl
  · exact op_any (ra := .va (.list (nm.map nD))) (rb := .va (nD h)) (d := .list (nm.map nD)) (ρ1 := [s0, .va (.list (nm.map nD)), s2, .va (nD h)]) rfl rfl rfl rfl (nm_at hh)
  · exact op_any (ra := .sl 1) (rb := .va (nD h)) (d := .list (nm.map nD)) (ρ1 := [s0, .ow 2 (nm.map nD), s2, .va (nD h)]) rfl rfl rfl rfl (nm_at hh)
def nm_in : En → RM Rv := cbM tupG (consM (cbM sortG (consM (lcM (seqM (varM 2)) (stoN 3) yesM (opM ixG (varM 1) (varM 3)) [3]) nilM)) nilM)
theorem nm_lot {nm : List Nat} {s0 s1 : Sl} (hs : NmSl s1 nm) {l : Lot} (hl : ∀ x ∈ l, x < nm.length) (hn : l.length ≤ 1000) : nm_in [s0, s1, .va (lotD l), .un] = some (.ok (.va (lotD (namedL (nmF nm) l)), [s0, s1, .va (lotD l), .un])) := by
  let ρ : En := [s0, s1, .va (lotD l), .un]
  have hL := lcL_map nD nD (i := 3) (test := yesM) (elt := opM ixG (varM 1) (varM 3)) (ρ0 := ρ) (fun _ => true) (nmF nm) rfl l [] fun h hm =>
    ⟨rfl, fun _ => ⟨_, nm_ix hs (hl h hm), rfl⟩⟩
  rw [List.nil_append, List.filter_eq_self.mpr fun _ _ => rfl] at hL
  have hsq : seqM (varM 2) ρ = some (.ok (l.map nD, ρ)) := sq_of (d := lotD l) rfl rfl
  have hlc := lcM_of hsq (by rw [List.length_map]; omega) rfl hL
  have := tup_of (sort_of hlc rfl rfl (sortOk_nats _) (by rw [List.length_map, List.length_map]; omega))
  rw [sort_nats] at this
  exact this
theorem named_ok {nm : List Nat} {s1 : Sl} (hs : NmSl s1 nm) {d : PyData} {F : List Lot} (hd : seqItems d = some (F.map lotD)) (hF : ∀ l ∈ F, ∀ x ∈ l, x < nm.length) (hl : ∀ l ∈ F, l.length ≤ 1000) (hn : F.length ≤ 1000) :
    K76.m__law_named [.va d, s1] = some (.ok (.va (famD (namedF (nmF nm) F)), [.va d, s1])) := by
  let ρ : En := [.va d, s1, .un, .un]
  have hL := lcL_map lotD lotD (i := 2) (test := yesM) (elt := nm_in) (ρ0 := ρ) (fun _ => true) (namedL (nmF nm)) rfl F [] fun l hm =>
    ⟨rfl, fun _ => ⟨_, nm_lot hs (hF l hm) (hl l hm), rfl⟩⟩
  rw [List.nil_append, List.filter_eq_self.mpr fun _ _ => rfl] at hL
  have hlc : lcOM 0 (stoN 2) yesM nm_in [2] ρ = some (.ok (.nw ((F.map (namedL (nmF nm))).map lotD), ρ)) :=
    lc_va (k := 0) (ρ := ρ) (vs := [2]) (d := d) (items := F.map lotD) rfl hd (by rw [List.length_map]; omega) rfl hL
  have houts : outs ρ [.va d, s1] 0 = some [.va d, s1] := by
    rcases hs with rfl | rfl <;> rfl
  refine runDef_rt rfl (ρ := ρ) ?_ (r := .va (.tuple (sortD ((F.map (namedL (nmF nm))).map lotD)))) (by rw [sort_lots]; rfl) houts
  show K76.b__law_namedM [.va d, s1, .un, .un] = _
  unfold K76.b__law_namedM
  exact ret_of (tup_of (sort_of hlc rfl rfl (sortOk_lots _) (by rw [List.length_map, List.length_map]; omega)))
theorem m76_meets : K76.m__law_meets = K68.m__law_meets := rfl
def mt_in : En → RM Bool := bM (opM neG (lcM (seqM (varM 0)) (stoN 2) (Pl.notM (bM (callM (quiet K76.m__law_meets) (consM (varM 1) (consM (varM 2) nilM))))) (cM (.int 1)) [2]) (lstM nilM))
theorem lmeeting_ok {F : List Lot} (h : Sm F) : K76.m__law_meeting [.va (famD F)] = some (.ok (.va (.bool (mtN F)), [.va (famD F)])) := by
  have inner : ∀ one ∈ F, mt_in [.va (famD F), .va (lotD one), .un] = some (.ok (!F.all fun two => meetsN one two, [.va (famD F), .va (lotD one), .un])) := fun one ho => by
    let ρ : En := [.va (famD F), .va (lotD one), .un]
    have hL := lcL_map lotD PyData.int (i := 2) (test := Pl.notM (bM (callM (quiet K76.m__law_meets) (consM (varM 1) (consM (varM 2) nilM))))) (elt := cM (.int 1)) (ρ0 := ρ) (fun two => !meetsN one two) (fun _ => (1 : Int)) rfl F [] fun two hm =>
      ⟨not_of (b_va (callM_va [lotD one, lotD two] rfl (by rw [m76_meets]; exact lmeets_ok one two (by have := h.2 one ho; omega)) rfl)), fun _ => ⟨_, rfl, rfl⟩⟩
    rw [List.nil_append] at hL
    have hlc := lcM_of (sq_of (d := famD F) (ρ := ρ) (f := varM 0) rfl rfl) (by rw [List.length_map]; exact h.1) rfl hL
    have hop := b_va (op_nw hlc (es := []) (fb := lstM nilM) rfl (ne_nil_of rfl (shaped_ints _)))
    rw [List.isEmpty_map, List.isEmpty_map, filter_empty] at hop
    simp only [Bool.not_not] at hop
    exact hop
  let ρ : En := [.va (famD F), .un, .un]
  have hL := lcL_map lotD PyData.int (i := 1) (test := mt_in) (elt := cM (.int 1)) (ρ0 := ρ) (fun one => !F.all fun two => meetsN one two) (fun _ => (1 : Int)) rfl F [] fun one hm =>
    ⟨inner one hm, fun _ => ⟨_, rfl, rfl⟩⟩
  rw [List.nil_append] at hL
  have hlc : lcOM 0 (stoN 1) mt_in (cM (.int 1)) [1] ρ = some (.ok (.nw (((F.filter fun one => !F.all fun two => meetsN one two).map fun _ => (1 : Int)).map PyData.int), ρ)) :=
    lc_va (k := 0) (ρ := ρ) (vs := [1]) (d := famD F) (items := F.map lotD) rfl rfl (by rw [List.length_map]; exact h.1) rfl hL
  refine runDef_rt rfl (ρ := ρ) ?_ (r := .va (.bool (mtN F))) rfl rfl
  show K76.b__law_meetingM [.va (famD F), .un, .un] = _
  unfold K76.b__law_meetingM
  have hop := op_nw hlc (es := []) (fb := lstM nilM) rfl (eq_nil_of rfl (shaped_ints _))
  rw [List.isEmpty_map, List.isEmpty_map, filter_empty] at hop
  simp only [Bool.not_not] at hop
  exact ret_of hop
/-! ### composed_family -/
def shiftL (a : Nat) (l : Lot) : Lot := l.map (a + ·)
def mvN : Nat → List (Nat × List Lot) → List (List Lot)
  | _, [] => []
  | a, (k, F) :: r => F.map (shiftL a) :: mvN (a + k) r
def crossN (so M : List Lot) : List Lot := so.flatMap fun one => M.map fun two => one ++ two
def prodN (M : List (List Lot)) : Lot → List Lot → List Lot
  | [], so => so
  | h :: r, so => prodN M r (crossN so (M.getD h []))
theorem moved_ok {F : List Lot} (a : Nat) (h : Sm F) : K76.m_moved_lots [.va (famD F), .va (nD a)] = some (.ok (.nw ((F.map (shiftL a)).map lotD), [.va (famD F), .va (nD a)])) := by
  let ρ : En := [.va (famD F), .va (nD a), .un, .un]
  have inner : ∀ l ∈ F, cbM tupG (consM (lcM (seqM (varM 2)) (stoN 3) yesM (opM addG (varM 1) (varM 3)) [3]) nilM) [.va (famD F), .va (nD a), .va (lotD l), .un] = some (.ok (.va (lotD (shiftL a l)), [.va (famD F), .va (nD a), .va (lotD l), .un])) := fun l hl => by
    have hL := lcL_map nD nD (i := 3) (test := yesM) (elt := opM addG (varM 1) (varM 3)) (ρ0 := [.va (famD F), .va (nD a), .va (lotD l), .un]) (fun _ => true) (a + ·) rfl l [] fun x _ =>
      ⟨rfl, fun _ => ⟨_, op_vv (d := nD a) (e := nD x) rfl rfl (add_nat a x), rfl⟩⟩
    rw [List.nil_append, List.filter_eq_self.mpr fun _ _ => rfl] at hL
    exact tup_of (lcM_of (sq_of (d := lotD l) (ρ := [.va (famD F), .va (nD a), .va (lotD l), .un]) (f := varM 2) rfl rfl) (by rw [List.length_map]; have := h.2 l hl; omega) rfl hL)
  have hL := lcL_map lotD lotD (i := 2) (test := yesM) (elt := cbM tupG (consM (lcM (seqM (varM 2)) (stoN 3) yesM (opM addG (varM 1) (varM 3)) [3]) nilM)) (ρ0 := ρ) (fun _ => true) (shiftL a) rfl F [] fun l hm =>
    ⟨rfl, fun _ => ⟨_, inner l hm, rfl⟩⟩
  rw [List.nil_append, List.filter_eq_self.mpr fun _ _ => rfl] at hL
  have hlc : lcOM 0 (stoN 2) yesM (cbM tupG (consM (lcM (seqM (varM 2)) (stoN 3) yesM (opM addG (varM 1) (varM 3)) [3]) nilM)) [2] ρ = some (.ok (.nw ((F.map (shiftL a)).map lotD), ρ)) :=
    lc_va (k := 0) (ρ := ρ) (vs := [2]) (d := famD F) (items := F.map lotD) rfl rfl (by rw [List.length_map]; exact h.1) rfl hL
  exact runDef_rt rfl (ρ := ρ) (ret_of hlc) (r := .nw ((F.map (shiftL a)).map lotD)) rfl rfl
end Fam

namespace Fam
open PySem PySem.Spec PyProof.Rows L2 Pl
def inD (p : Nat × List Lot) : PyData := .tuple [nD p.1, famD p.2]
def c1_body : En → RM Ot := sqM (appM 2 (callM (quiet K76.m_moved_lots) (consM (varM 5) (consM (varM 3) nilM)))) (augM 3 (fun i j => i + j) (varM 4))
theorem c1_loop {O W : Sl} : ∀ (I : List (Nat × List Lot)) (M : List (List Lot)) (a : Nat) (x4 x5 : Sl), (∀ p ∈ I, Sm p.2) → M.length + I.length ≤ 1000 →
    ∃ a' y4 y5, forL (stoT 2 (stosCons (stoN 4) (stosCons (stoN 5) stosNil))) c1_body (I.map inD) [O, W, .ow 0 (M.map famL), .va (nD a), x4, x5, .un, .un, .un, .un, .un, .un] = some (.ok (.nx, [O, W, .ow 0 ((M ++ mvN a I).map famL), .va (nD a'), y4, y5, .un, .un, .un, .un, .un, .un]))
  | [], M, a, x4, x5, _, _ => ⟨a, x4, x5, by rw [show M ++ mvN a [] = M from List.append_nil M]; rfl⟩
  | p :: I, M, a, x4, x5, h, hl => by
    rw [List.length_cons] at hl
    let ρ : En := [O, W, .ow 0 (M.map famL), .va (nD a), .va (nD p.1), .va (famD p.2), .un, .un, .un, .un, .un, .un]
    have hc : callM (quiet K76.m_moved_lots) (consM (varM 5) (consM (varM 3) nilM)) ρ = some (.ok (.nw ((p.2.map (shiftL a)).map lotD), ρ)) := callM_va [famD p.2, nD a] rfl (moved_ok a (h p List.mem_cons_self)) rfl
    have ha : appM 2 (callM (quiet K76.m_moved_lots) (consM (varM 5) (consM (varM 3) nilM))) ρ = some (.ok (.nx, [O, W, .ow 0 ((M ++ [p.2.map (shiftL a)]).map famL), .va (nD a), .va (nD p.1), .va (famD p.2), .un, .un, .un, .un, .un, .un])) := by
      unfold appM
      rw [hc]
      show ck (few (M.map famL)) (some (Except.ok (Ot.nx, [O, W, .ow 0 (M.map famL ++ [famL (p.2.map (shiftL a))]), .va (nD a), .va (nD p.1), .va (famD p.2), .un, .un, .un, .un, .un, .un]))) = _
      rw [few_of (by rw [List.length_map]; omega), List.map_append]
      rfl
    have hb : c1_body ρ = some (.ok (.nx, [O, W, .ow 0 ((M ++ [p.2.map (shiftL a)]).map famL), .va (nD (a + p.1)), .va (nD p.1), .va (famD p.2), .un, .un, .un, .un, .un, .un])) := by
      unfold c1_body
      rw [seq_nx ha]
      show some (Except.ok (Ot.nx, [O, W, .ow 0 ((M ++ [p.2.map (shiftL a)]).map famL), .va (.int ((a : Int) + (p.1 : Int))), .va (nD p.1), .va (famD p.2), .un, .un, .un, .un, .un, .un])) = _
      rw [← Int.natCast_add]
      rfl
    obtain ⟨a', y4, y5, hy⟩ := c1_loop (O := O) (W := W) I (M ++ [p.2.map (shiftL a)]) (a + p.1) (.va (nD p.1)) (.va (famD p.2)) (fun q hq => h q (List.mem_cons_of_mem _ hq)) (by rw [List.length_append]; simp; omega)
    refine ⟨a', y4, y5, ?_⟩
    rw [List.map_cons]
    unfold forL
    show RM.bnd (c1_body ρ) _ = _
    rw [hb]
    refine hy.trans ?_
    rw [List.append_assoc]
    rfl
def x_lc : En → RM Rv := lcOM2 8 (stoN 10) yesM (seqM (opM ixG (varM 2) (varM 9))) (stoN 11) yesM (opM addG (varM 10) (varM 11)) [10, 11] [11]
def Short (F : List Lot) : Prop := ∀ l ∈ F, l.length ≤ 500
theorem x_loop {O W a x4 x5 x6 x7 : Sl} {M : List (List Lot)} {h : Nat} (hh : h < M.length) (hM : (M.getD h []).length ≤ 100) (sM : Short (M.getD h [])) : ∀ (some0 acc : List Lot), Short some0 → acc.length + some0.length * 100 ≤ 100000 →
    lcL2 (stoN 10) yesM (seqM (opM ixG (varM 2) (varM 9))) (stoN 11) yesM (opM addG (varM 10) (varM 11)) [10, 11] [11] (some0.map lotD) (acc.map lotD) [O, W, .ow 0 (M.map famL), a, x4, x5, x6, x7, .un, .va (nD h), .un, .un] =
      some (.ok ((acc ++ crossN some0 (M.getD h [])).map lotD, [O, W, .ow 0 (M.map famL), a, x4, x5, x6, x7, .un, .va (nD h), .un, .un]))
  | [], acc, _, _ => by
    rw [show acc ++ crossN [] (M.getD h []) = acc from List.append_nil acc]
    rfl
  | one :: r, acc, hs, hl => by
    rw [List.length_cons] at hl
    let Mh := M.getD h []
    let ρ : En := [O, W, .ow 0 (M.map famL), a, x4, x5, x6, x7, .un, .va (nD h), .va (lotD one), .un]
    have eM : M.getD h [] = M[h] := by rw [List.getD_eq_getElem?_getD, List.getElem?_eq_getElem hh]; rfl
    have hix : opM ixG (varM 2) (varM 9) ρ = some (.ok (.va (famL Mh), ρ)) := by
      refine op_any (ra := .sl 2) (rb := .va (nD h)) (d := .list (M.map famL)) (ρ1 := ρ) rfl rfl rfl rfl ?_
      rw [ixG_of (d := .list (M.map famL)) rfl (by rw [List.length_map]; exact hh), List.getElem_map, ← eM]
    have hsrc : seqM (opM ixG (varM 2) (varM 9)) ρ = some (.ok (Mh.map lotD, ρ)) := sq_of (d := famL Mh) hix rfl
    have hin := lcL_map lotD lotD (i := 11) (test := yesM) (elt := opM addG (varM 10) (varM 11)) (ρ0 := ρ) (fun _ => true) (one ++ ·) rfl Mh acc fun two hm =>
      ⟨rfl, fun _ => ⟨.va (lotD (one ++ two)), by
        refine op_vv (d := lotD one) (e := lotD two) rfl rfl ?_
        show (match few (one.map nD ++ two.map nD) with | true => some (Rv.va (.tuple (one.map nD ++ two.map nD))) | false => none) = _
        have h1 := hs one List.mem_cons_self
        have h2 := sM two hm
        rw [few_of (by rw [List.length_append, List.length_map, List.length_map]; omega), ← List.map_append]
        rfl, rfl⟩⟩
    rw [List.filter_eq_self.mpr fun _ _ => rfl] at hin
    have f1 : (few (Mh.map lotD) && few (acc.map lotD)) = true := by
      rw [few_of (by rw [List.length_map]; show (M.getD h []).length ≤ _; omega), few_of (by rw [List.length_map]; omega)]
      rfl
    rw [List.map_cons]
    unfold lcL2
    show (match seqM (opM ixG (varM 2) (varM 9)) ρ with
      | some (.ok (items1, ρ3)) => (match few items1 && few (acc.map lotD) with
        | true => (match lcL (stoN 11) yesM (opM addG (varM 10) (varM 11)) [11] items1 (acc.map lotD) (wipeE ρ3 [11]) with
          | some (.ok (acc', ρ4)) => lcL2 (stoN 10) yesM (seqM (opM ixG (varM 2) (varM 9))) (stoN 11) yesM (opM addG (varM 10) (varM 11)) [10, 11] [11] (r.map lotD) acc' (wipeE ρ4 [10, 11])
          | _ => none)
        | false => none)
      | _ => none) = _
    rw [hsrc]
    dsimp only
    rw [f1]
    dsimp only
    rw [show wipeE ρ [11] = ρ from rfl, hin]
    dsimp only
    have ih := x_loop (O := O) (W := W) (a := a) (x4 := x4) (x5 := x5) (x6 := x6) (x7 := x7) hh hM sM r (acc ++ Mh.map (one ++ ·)) (fun l hl => hs l (List.mem_cons_of_mem _ hl)) (by rw [List.length_append, List.length_map]; show acc.length + (M.getD h []).length + _ ≤ _; omega)
    refine (show lcL2 _ _ _ _ _ _ _ _ _ _ (wipeE ρ [10, 11]) = _ from ih).trans ?_
    rw [List.append_assoc]
    rfl
theorem x_ok {O W a x4 x5 x6 x7 : Sl} {M : List (List Lot)} {h : Nat} (hh : h < M.length) (hM : (M.getD h []).length ≤ 100) (sM : Short (M.getD h [])) {some0 : List Lot} (hs : Short some0) (hl : some0.length ≤ 1000) :
    asgM 8 x_lc [O, W, .ow 0 (M.map famL), a, x4, x5, x6, x7, .ow 0 (some0.map lotD), .va (nD h), .un, .un] = some (.ok (.nx, [O, W, .ow 0 (M.map famL), a, x4, x5, x6, x7, .ow 0 ((crossN some0 (M.getD h [])).map lotD), .va (nD h), .un, .un])) := by
  let ρ : En := [O, W, .ow 0 (M.map famL), a, x4, x5, x6, x7, .ow 0 (some0.map lotD), .va (nD h), .un, .un]
  have hL := x_loop (O := O) (W := W) (a := a) (x4 := x4) (x5 := x5) (x6 := x6) (x7 := x7) hh hM sM some0 [] hs (by rw [List.length_nil]; omega)
  rw [List.nil_append] at hL
  have hx : x_lc ρ = some (.ok (.nw ((crossN some0 (M.getD h [])).map lotD), ρ)) := by
    show ck (few (some0.map lotD)) (match lcL2 (stoN 10) yesM (seqM (opM ixG (varM 2) (varM 9))) (stoN 11) yesM (opM addG (varM 10) (varM 11)) [10, 11] [11] (some0.map lotD) [] [O, W, .ow 0 (M.map famL), a, x4, x5, x6, x7, .un, .va (nD h), .un, .un] with
      | some (.ok (acc, ρ2)) => some (.ok (Rv.nw acc, (unw [O, W, .ow 0 (M.map famL), a, x4, x5, x6, x7, .un, .va (nD h), .un, .un] ρ2 [10, 11]).set 8 (.ow 0 (some0.map lotD))))
      | _ => none) = _
    rw [few_of (by rw [List.length_map]; omega), show (([] : List PyData)) = ([] : List Lot).map lotD from rfl, hL]
    rfl
  exact asg_nw (ρ1 := ρ) hx
end Fam

namespace Fam
open PySem PySem.Spec PyProof.Rows L2 Pl
def Bnd (M : List (List Lot)) : Lot → List Lot → Prop
  | [], _ => True
  | h :: r, so => (h < M.length ∧ Short so ∧ so.length ≤ 1000) ∧ Bnd M r (crossN so (M.getD h []))
def MOk (M : List (List Lot)) : Prop := ∀ h, h < M.length → (M.getD h []).length ≤ 100 ∧ Short (M.getD h [])
theorem p_loop {O W a x4 x5 x6 x7 : Sl} {M : List (List Lot)} (hM : MOk M) : ∀ (lot : Lot) (so : List Lot) (x9 : Sl), Bnd M lot so →
    ∃ y9, forL (stoN 9) (asgM 8 x_lc) (lot.map nD) [O, W, .ow 0 (M.map famL), a, x4, x5, x6, x7, .ow 0 (so.map lotD), x9, .un, .un] = some (.ok (.nx, [O, W, .ow 0 (M.map famL), a, x4, x5, x6, x7, .ow 0 ((prodN M lot so).map lotD), y9, .un, .un]))
  | [], so, x9, _ => ⟨x9, rfl⟩
  | h :: r, so, x9, ⟨⟨b1, b2, b3⟩, b4⟩ => by
    obtain ⟨m1, m2⟩ := hM h b1
    have hx := x_ok (O := O) (W := W) (a := a) (x4 := x4) (x5 := x5) (x6 := x6) (x7 := x7) b1 m1 m2 b2 b3
    obtain ⟨y9, hy⟩ := p_loop (O := O) (W := W) (a := a) (x4 := x4) (x5 := x5) (x6 := x6) (x7 := x7) hM r (crossN so (M.getD h [])) (.va (nD h)) b4
    refine ⟨y9, ?_⟩
    rw [List.map_cons]
    unfold forL
    show RM.bnd (asgM 8 x_lc [O, W, .ow 0 (M.map famL), a, x4, x5, x6, x7, .ow 0 (so.map lotD), .va (nD h), .un, .un]) _ = _
    rw [hx]
    exact hy
def compN (M : List (List Lot)) (outer : List Lot) : List Lot := outer.flatMap fun lot => prodN M lot [[]]
def o_body : En → RM Ot := sqM (asgM 8 (lstM (consM (tupM nilM) nilM))) (sqM (Pl.forM (seqM (varM 7)) (stoN 9) (asgM 8 x_lc)) (extOM 6 8))
theorem o_loop {O W a x4 x5 : Sl} {M : List (List Lot)} (hM : MOk M) : ∀ (ls found : List Lot) (x7 x8 x9 : Sl), (∀ l ∈ ls, Bnd M l [[]]) → (found ++ compN M ls).length ≤ 100000 →
    ∃ y7 y8 y9, forL (stoN 7) o_body (ls.map lotD) [O, W, .ow 0 (M.map famL), a, x4, x5, .ow 0 (found.map lotD), x7, x8, x9, .un, .un] = some (.ok (.nx, [O, W, .ow 0 (M.map famL), a, x4, x5, .ow 0 ((found ++ compN M ls).map lotD), y7, y8, y9, .un, .un]))
  | [], found, x7, x8, x9, _, _ => ⟨x7, x8, x9, by rw [show found ++ compN M [] = found from List.append_nil found]; rfl⟩
  | l :: ls, found, x7, x8, x9, hb, hl => by
    have ec : compN M (l :: ls) = prodN M l [[]] ++ compN M ls := rfl
    rw [ec, ← List.append_assoc] at hl
    let ρ : En := [O, W, .ow 0 (M.map famL), a, x4, x5, .ow 0 (found.map lotD), .va (lotD l), x8, x9, .un, .un]
    let ρ2 : En := [O, W, .ow 0 (M.map famL), a, x4, x5, .ow 0 (found.map lotD), .va (lotD l), .ow 0 (([[]] : List Lot).map lotD), x9, .un, .un]
    have a8 : asgM 8 (lstM (consM (tupM nilM) nilM)) ρ = some (.ok (.nx, ρ2)) := rfl
    obtain ⟨y9, hp⟩ := p_loop (O := O) (W := W) (a := a) (x4 := x4) (x5 := x5) (x6 := .ow 0 (found.map lotD)) (x7 := .va (lotD l)) hM l [[]] x9 (hb l List.mem_cons_self)
    have h9 := (for_of (sto := stoN 9) (body := asgM 8 x_lc) (sq_of (d := lotD l) (ρ := ρ2) (ρ1 := ρ2) (f := varM 7) rfl rfl)).trans hp
    have hx : extOM 6 8 [O, W, .ow 0 (M.map famL), a, x4, x5, .ow 0 (found.map lotD), .va (lotD l), .ow 0 ((prodN M l [[]]).map lotD), y9, .un, .un] = some (.ok (.nx, [O, W, .ow 0 (M.map famL), a, x4, x5, .ow 0 ((found ++ prodN M l [[]]).map lotD), .va (lotD l), .ow 0 ((prodN M l [[]]).map lotD), y9, .un, .un])) := by
      show ck (few (found.map lotD ++ (prodN M l [[]]).map lotD)) (some (Except.ok (Ot.nx, [O, W, .ow 0 (M.map famL), a, x4, x5, .ow 0 (found.map lotD ++ (prodN M l [[]]).map lotD), .va (lotD l), .ow 0 ((prodN M l [[]]).map lotD), y9, .un, .un]))) = _
      rw [← List.map_append, few_of (by rw [List.length_map]; rw [List.length_append] at hl; omega)]
      rfl
    have hbody : o_body ρ = some (.ok (.nx, [O, W, .ow 0 (M.map famL), a, x4, x5, .ow 0 ((found ++ prodN M l [[]]).map lotD), .va (lotD l), .ow 0 ((prodN M l [[]]).map lotD), y9, .un, .un])) := by
      unfold o_body
      rw [seq_nx a8, seq_nx h9]
      exact hx
    obtain ⟨y7, y8, z9, hy⟩ := o_loop (O := O) (W := W) (a := a) (x4 := x4) (x5 := x5) hM ls (found ++ prodN M l [[]]) (.va (lotD l)) (.ow 0 ((prodN M l [[]]).map lotD)) y9 (fun q hq => hb q (List.mem_cons_of_mem _ hq)) hl
    refine ⟨y7, y8, z9, ?_⟩
    rw [List.map_cons]
    unfold forL
    show RM.bnd (o_body ρ) _ = _
    rw [hbody]
    refine hy.trans ?_
    rw [ec, List.append_assoc]
theorem comp_ok {I : List (Nat × List Lot)} {outer : List Lot} (hI : ∀ p ∈ I, Sm p.2) (hn : I.length ≤ 1000) (hM : MOk (mvN 0 I)) (hb : ∀ l ∈ outer, Bnd (mvN 0 I) l [[]]) (hl : (compN (mvN 0 I) outer).length ≤ 100000) :
    K76.m_composed_family [.va (famD outer), .va (.tuple (I.map inD))] = some (.ok (.va (famD (isort leL (compN (mvN 0 I) outer))), [.va (famD outer), .va (.tuple (I.map inD))])) := by
  let W : PyData := .tuple (I.map inD)
  have p0 : parXM 2 3 (lstM nilM) (cM (.int 0)) [.va (famD outer), .va W, .un, .un, .un, .un, .un, .un, .un, .un, .un, .un] = some (.ok (.nx, [.va (famD outer), .va W, .ow 0 [], .va (nD 0), .un, .un, .un, .un, .un, .un, .un, .un])) := rfl
  obtain ⟨a', y4, y5, h1⟩ := c1_loop (O := .va (famD outer)) (W := .va W) I [] 0 .un .un hI (by rw [List.length_nil]; omega)
  rw [List.nil_append] at h1
  have l1 := (for_of (sto := stoT 2 (stosCons (stoN 4) (stosCons (stoN 5) stosNil))) (body := c1_body) (sq_of (d := W) (items := I.map inD) (ρ := [.va (famD outer), .va W, .ow 0 [], .va (nD 0), .un, .un, .un, .un, .un, .un, .un, .un]) (f := varM 1) rfl rfl)).trans h1
  let M := mvN 0 I
  have a6 : asgM 6 (lstM nilM) [.va (famD outer), .va W, .ow 0 (M.map famL), .va (nD a'), y4, y5, .un, .un, .un, .un, .un, .un] = some (.ok (.nx, [.va (famD outer), .va W, .ow 0 (M.map famL), .va (nD a'), y4, y5, .ow 0 [], .un, .un, .un, .un, .un])) := rfl
  obtain ⟨y7, y8, y9, h2⟩ := o_loop (O := .va (famD outer)) (W := .va W) (a := .va (nD a')) (x4 := y4) (x5 := y5) hM outer [] .un .un .un hb (by rw [List.nil_append]; exact hl)
  rw [List.nil_append] at h2
  have l2 := (for_of (sto := stoN 7) (body := o_body) (sq_of (d := famD outer) (items := outer.map lotD) (ρ := [.va (famD outer), .va W, .ow 0 (M.map famL), .va (nD a'), y4, y5, .ow 0 [], .un, .un, .un, .un, .un]) (f := varM 0) rfl rfl)).trans h2
  refine runDef_rt rfl (ρ := [.va (famD outer), .va W, .ow 0 (M.map famL), .va (nD a'), y4, y5, .ow 0 ((compN M outer).map lotD), y7, y8, y9, .un, .un]) ?_ (r := .va (.tuple (sortD ((compN M outer).map lotD)))) (by rw [sort_lots]; rfl) rfl
  show K76.b_composed_familyM [.va (famD outer), .va W, .un, .un, .un, .un, .un, .un, .un, .un, .un, .un] = _
  unfold K76.b_composed_familyM
  rw [seq_nx p0]
  show sqM (Pl.forM (seqM (varM 1)) (stoT 2 (stosCons (stoN 4) (stosCons (stoN 5) stosNil))) c1_body) (sqM _ (sqM (Pl.forM (seqM (varM 0)) (stoN 7) o_body) _)) _ = _
  rw [seq_nx l1]
  show sqM _ _ [.va (famD outer), .va W, .ow 0 (M.map famL), .va (nD a'), y4, y5, .un, .un, .un, .un, .un, .un] = _
  rw [seq_nx a6, seq_nx l2]
  exact ret_of (tup_of (sort_of (r := .sl 6) rfl rfl rfl (sortOk_lots _) (by rw [List.length_map]; exact hl)))
/-- one house by itself -/
theorem comp_one {n : Nat} {F : List Lot} (h : FamOK n F) : K76.m_composed_family [.va (famD [[0]]), .va (.tuple ([(n, F)].map inD))] = some (.ok (.va (famD F), [.va (famD [[0]]), .va (.tuple ([(n, F)].map inD))])) := by
  have e0 : F.map (shiftL 0) = F := by
    have : shiftL 0 = id := by funext l; unfold shiftL; simp
    rw [this, List.map_id]
  have eM : mvN 0 [(n, F)] = [F] := by show [F.map (shiftL 0)] = [F]; rw [e0]
  have eC : compN [F] [[0]] = F := by
    show crossN [[]] F ++ [] = F
    unfold crossN
    simp
  have := comp_ok (I := [(n, F)]) (outer := [[0]]) (fun p hp => by rw [List.mem_singleton.mp hp]; exact h.sm) (by simp) (by
      rw [eM]
      intro x hx
      have : x = 0 := by simpa using hx
      subst this
      exact ⟨h.len, fun l hl => by have := (h.lot l hl).2.1; omega⟩) (fun l hl => by
      rw [List.mem_singleton.mp hl, eM]
      exact ⟨⟨by simp, fun l hl => by rw [List.mem_singleton.mp hl]; simp, by simp⟩, trivial⟩) (by rw [eM, eC]; have := h.len; omega)
  rw [eM, eC, isort_id ord_leL h.well.sorted] at this
  exact this
end Fam

namespace Fam
open PySem PySem.Spec PyProof.Rows L2 Pl
/-! ### single houses in the place of each -/
theorem mv_single : ∀ (n a : Nat), mvN a (List.replicate n (1, [[0]])) = (List.range' a n).map fun i => [[i]]
  | 0, a => rfl
  | n + 1, a => by
    rw [List.replicate_succ, List.range'_succ, List.map_cons, ← mv_single n (a + 1)]
    rfl
theorem mv_at {n h : Nat} (hh : h < n) : (mvN 0 (List.replicate n (1, [[0]]))).getD h [] = [[h]] := by
  rw [mv_single, List.getD_eq_getElem?_getD, List.getElem?_map, List.getElem?_range' hh]
  simp
theorem mv_len (n : Nat) : (mvN 0 (List.replicate n (1, [[0]]))).length = n := by
  rw [mv_single, List.length_map, List.length_range']
theorem prod_single {n : Nat} : ∀ (l one : Lot), (∀ x ∈ l, x < n) → one.length + l.length ≤ 500 → prodN (mvN 0 (List.replicate n (1, [[0]]))) l [one] = [one ++ l] ∧ Bnd (mvN 0 (List.replicate n (1, [[0]]))) l [one]
  | [], one, _, _ => ⟨by rw [List.append_nil]; rfl, trivial⟩
  | h :: r, one, hl, hn => by
    rw [List.length_cons] at hn
    have h1 := hl h List.mem_cons_self
    have ec : crossN [one] ((mvN 0 (List.replicate n (1, [[0]]))).getD h []) = [one ++ [h]] := by
      rw [mv_at h1]
      rfl
    obtain ⟨q1, q2⟩ := prod_single (n := n) r (one ++ [h]) (fun x hx => hl x (List.mem_cons_of_mem _ hx)) (by rw [List.length_append]; simp; omega)
    refine ⟨?_, ⟨by rw [mv_len]; exact h1, fun l hl => by rw [List.mem_singleton.mp hl]; omega, by simp⟩, ?_⟩
    · show prodN _ r (crossN [one] _) = _
      rw [ec, q1, List.append_assoc]
      rfl
    · rw [ec]
      exact q2
theorem comp_self {n : Nat} {F : List Lot} (h : FamOK n F) : K76.m_composed_family [.va (famD F), .va (.tuple ((List.replicate n (1, [[0]])).map inD))] = some (.ok (.va (famD F), [.va (famD F), .va (.tuple ((List.replicate n (1, [[0]])).map inD))])) := by
  have n7 := h.n7
  have ps : ∀ l ∈ F, prodN (mvN 0 (List.replicate n (1, [[0]]))) l [[]] = [l] ∧ Bnd (mvN 0 (List.replicate n (1, [[0]]))) l [[]] := fun l hl => prod_single l [] (h.lot l hl).2.2 (by have := (h.lot l hl).2.1; rw [List.length_nil]; omega)
  have eC : ∀ G : List Lot, (∀ l ∈ G, l ∈ F) → compN (mvN 0 (List.replicate n (1, [[0]]))) G = G := by
    intro G
    induction G with
    | nil => intro _; rfl
    | cons a r ih =>
      intro hG
      show prodN _ a [[]] ++ compN _ r = _
      rw [(ps a (hG a List.mem_cons_self)).1, ih fun l hl => hG l (List.mem_cons_of_mem _ hl)]
      rfl
  have eF := eC F fun l hl => hl
  have := comp_ok (I := List.replicate n (1, [[0]])) (outer := F) (fun p hp => by
      rw [(List.mem_replicate.mp hp).2]
      exact ⟨by simp, fun l hl => by rw [List.mem_singleton.mp hl]; simp⟩) (by rw [List.length_replicate]; omega) (fun x hx => by
      rw [mv_len] at hx
      rw [mv_at hx]
      exact ⟨by simp, fun l hl => by rw [List.mem_singleton.mp hl]; simp⟩) (fun l hl => (ps l hl).2) (by rw [eF]; have := h.len; omega)
  rw [eF, isort_id ord_leL h.well.sorted] at this
  exact this
theorem rep_single (n : Nat) (h1 : 1 ≤ n) (hn : n ≤ 7) : rep2G (.tuple [inD (1, [[0]])]) (nD n) = some (.va (.tuple ((List.replicate n (1, [[0]])).map inD))) := by
  have : n = 1 ∨ n = 2 ∨ n = 3 ∨ n = 4 ∨ n = 5 ∨ n = 6 ∨ n = 7 := by omega
  rcases this with rfl | rfl | rfl | rfl | rfl | rfl | rfl <;> kernel_rfl
/-! the drawn names -/
theorem nm_perm {n : Nat} {nm : List Nat} (h : (List.range n).Perm nm) : Nm n n (nmF nm) ∧ (∀ x, x < n → ∃ y, y < n ∧ nmF nm y = x) ∧ nm.length = n := by
  have hlen : nm.length = n := by rw [← h.length_eq, List.length_range]
  have hnd : nm.Nodup := h.nodup_iff.mp List.nodup_range
  have at_ : ∀ i (hi : i < nm.length), nmF nm i = nm[i] := fun i hi => by
    unfold nmF
    rw [List.getD_eq_getElem?_getD, List.getElem?_eq_getElem hi]
    rfl
  refine ⟨⟨fun x y hx hy e => ?_, fun x hx => ?_⟩, fun x hx => ?_, hlen⟩
  · rw [at_ x (by omega), at_ y (by omega)] at e
    rcases Nat.lt_trichotomy x y with q | q | q
    · exact absurd e ((List.pairwise_iff_getElem.mp hnd) x y (by omega) (by omega) q)
    · exact q
    · exact absurd e.symm ((List.pairwise_iff_getElem.mp hnd) y x (by omega) (by omega) q)
  · rw [at_ x (by omega)]
    exact List.mem_range.mp (h.mem_iff.mpr (List.getElem_mem _))
  · obtain ⟨i, hi, e⟩ := List.getElem_of_mem (h.mem_iff.mp (List.mem_range.mpr hx))
    exact ⟨i, by omega, by rw [at_ i hi, e]⟩
theorem nm_up {n : Nat} : Nm n (n + 1) (nmF ((List.range n).map (· + 1))) ∧ ∀ x, x < n → nmF ((List.range n).map (· + 1)) x = x + 1 := by
  have e : ∀ x, x < n → nmF ((List.range n).map (· + 1)) x = x + 1 := fun x hx => by
    unfold nmF
    rw [List.getD_eq_getElem?_getD, List.getElem?_map, List.getElem?_range hx]
    rfl
  exact ⟨⟨fun x y hx hy h => by rw [e x hx, e y hy] at h; omega, fun x hx => by rw [e x hx]; omega⟩, e⟩
theorem namedL_congr {n : Nat} {ν μ : Nat → Nat} (h : ∀ x, x < n → ν x = μ x) {l : Lot} (hl : ∀ x ∈ l, x < n) : namedL ν l = namedL μ l := by
  unfold namedL
  rw [List.map_congr_left fun x hx => h x (hl x hx)]
theorem namedF_congr {n : Nat} {ν μ : Nat → Nat} (h : ∀ x, x < n → ν x = μ x) {F : List Lot} (hF : ∀ l ∈ F, ∀ x ∈ l, x < n) : namedF ν F = namedF μ F := by
  unfold namedF
  rw [List.map_congr_left fun l hl => namedL_congr h (hF l hl)]
end Fam

namespace K72
open PySem PySem.Spec PyProof.Rows L2 Pl
def b__law_boxM : En → RM Ot := (sqM (asgM 2 (opM addG (opM mulG (cM (.int 12011)) (varM 1)) (cM (.int 7321))))
    (sqM (ifM (bM (opM ltG (varM 1) (cbM lenG (consM (varM 0) nilM)))) (asgM 2 (cbM absG (consM (cbM intG (consM (opM ixG (varM 0) (varM 1)) nilM)) nilM))) (ifM (bM (opM gtG (cbM lenG (consM (varM 0) nilM)) (cM (.int 0)))) (asgM 2 (opM addG (varM 2) (opM mulG (opM modG (cbM intG (consM (cbM absG (consM (cbM intG (consM (opM ixG (varM 0) (opM modG (cbM intG (consM (varM 1) nilM)) (cbM lenG (consM (varM 0) nilM)))) nilM)) nilM)) nilM)) (cM (.int 2147483563))) (cM (.int 68213))))) nxM))
    (sqM (asgM 3 (ifX (bM (opM geG (varM 2) (opM powG (cM (.int 10)) (cM (.int 18))))) (varM 2) (cM (.int 0))))
    (retM (lstM (consM (varM 3) (consM (opM addG (opM modG (cbM intG (consM (opM addG (opM mulG (opM modG (cbM intG (consM (varM 2) nilM)) (cM (.int 2147483563))) (cM (.int 58271))) (opM mulG (cM (.int 7321)) (varM 1))) nilM)) (cM (.int 2147483563))) (cM (.int 1))) nilM)))))))
def m__law_box : En → RM Rv := runDef 2 2 b__law_boxM
def b__law_takeM : En → RM Ot := (sqM (ifM (bM (opM gtG (opM ixG (varM 0) (cM (.int 0))) (cM (.int 0)))) (sqM (asgM 2 (opM modG (cbM intG (consM (opM ixG (varM 0) (cM (.int 0))) nilM)) (varM 1)))
    (sqM (setM 0 (opM divG (opM ixG (varM 0) (cM (.int 0))) (varM 1)) (cM (.int 0)))
    (retM (varM 2)))) nxM)
    (sqM (asgM 3 (opM modG (cbM intG (consM (opM addG (opM mulG (opM ixG (varM 0) (cM (.int 1))) (cM (.int 39373))) (cM (.int 307))) nilM)) (cM (.int 2147483647))))
    (sqM (setM 0 (opM addG (opM modG (cbM intG (consM (opM addG (opM mulG (varM 3) (cM (.int 40692))) (cM (.int 61))) nilM)) (cM (.int 2147483399))) (cM (.int 1))) (cM (.int 1)))
    (retM (opM modG (cbM intG (consM (opM divG (opM addG (opM mulG (varM 3) (cM (.int 2147483629))) (opM ixG (varM 0) (cM (.int 1)))) (cM (.int 8233))) nilM)) (varM 1))))))
def m__law_take : En → RM Rv := runDef 2 2 b__law_takeM
def b__law_pickM : En → RM Ot := (retM (opM ixG (varM 1) (callM (quiet m__law_take) (consM (varM 0) (consM (cbM lenG (consM (varM 1) nilM)) nilM)))))
def m__law_pick : En → RM Rv := runDef 2 0 b__law_pickM
def b__law_sizesM : En → RM Ot := (sqM (parXM 1 2 (opM addG (cM (.int 2)) (callM (quiet m__law_take) (consM (varM 0) (consM (cM (.int 6)) nilM)))) (lstM nilM))
    (sqM (forM (rng1M (consM (cM (.int 7)) nilM)) (stoN 3) (sqM (ifM (bM (opM eqG (varM 1) (cM (.int 0)))) bkM nxM)
    (sqM (asgM 4 (opM addG (cM (.int 1)) (callM (quiet m__law_take) (consM (varM 0) (consM (cbM minG (consM (varM 1) (consM (callM (quiet m__law_pick) (consM (varM 0) (consM (lstM (consM (cM (.int 1)) (consM (cM (.int 2)) (consM (cM (.int 3)) (consM (cM (.int 5)) nilM))))) nilM))) nilM))) nilM)))))
    (sqM (appM 2 (varM 4))
    (asgM 1 (opM subG (varM 1) (varM 4)))))))
    (retM (varM 2))))
def m__law_sizes : En → RM Rv := runDef 1 4 b__law_sizesM
def b__law_withinM : En → RM Ot := (retM (opM eqG (lcOM 0 (stoN 2) (bM (opM notInG (varM 2) (varM 1))) (cM (.int 1)) [2]) (lstM nilM)))
def m__law_within : En → RM Rv := runDef 2 1 b__law_withinM
def b__law_leastM : En → RM Ot := (sqM (asgM 1 (lstM nilM))
    (sqM (forM (seqM (sortSetM (varM 0))) (stoN 2) (ifM (bM (opM eqG (lcOM 0 (stoN 3) (andM (bM (opM neG (varM 3) (varM 2))) (bM (callM (quiet m__law_within) (consM (varM 3) (consM (varM 2) nilM))))) (cM (.int 1)) [3]) (lstM nilM))) (appM 1 (varM 2)) nxM))
    (retM (cbM tupG (consM (varM 1) nilM)))))
def m__law_least : En → RM Rv := runDef 1 3 b__law_leastM
def b__law_allM : En → RM Ot := (sqM (asgM 1 (lstM (consM (tupM nilM) nilM)))
    (sqM (forM (rng1M (consM (varM 0) nilM)) (stoN 2) (asgM 1 (opM addG (varM 1) (lcOM 1 (stoN 3) yesM (opM addG (varM 3) (tupM (consM (varM 2) nilM))) [3]))))
    (retM (cbM sortG (consM (varM 1) nilM)))))
def m__law_all : En → RM Rv := runDef 1 3 b__law_allM
def b__law_thresholdM : En → RM Ot := (retM (cbM tupG (consM (lcM (seqM (callM (quiet m__law_all) (consM (varM 0) nilM))) (stoN 2) (bM (opM eqG (cbM lenG (consM (varM 2) nilM)) (varM 1))) (varM 2) [2]) nilM)))
def m__law_threshold : En → RM Rv := runDef 2 1 b__law_thresholdM
def b__law_lotM : En → RM Ot := (sqM (parXM 2 3 (callM (quiet m__law_take) (consM (varM 0) (consM (varM 1) nilM))) (lstM nilM))
    (sqM (asgM 4 (opM addG (cM (.int 1)) (callM (quiet m__law_take) (consM (varM 0) (consM (cM (.int 4)) nilM)))))
    (sqM (forM (rng1M (consM (varM 1) nilM)) (stoN 5) (ifM (orM (bM (opM eqG (varM 5) (varM 2))) (bM (opM ltG (callM (quiet m__law_take) (consM (varM 0) (consM (cM (.int 5)) nilM))) (varM 4)))) (appM 3 (varM 5)) nxM))
    (retM (cbM tupG (consM (varM 3) nilM))))))
def m__law_lot : En → RM Rv := runDef 2 4 b__law_lotM
def b__law_overM : En → RM Ot := (sqM (asgM 2 (callM (quiet m__law_take) (consM (varM 0) (consM (cM (.int 3)) nilM))))
    (sqM (ifM (bM (opM eqG (varM 2) (cM (.int 0)))) (retM (callM (quiet m__law_threshold) (consM (varM 1) (consM (opM addG (cM (.int 1)) (callM (quiet m__law_take) (consM (varM 0) (consM (varM 1) nilM)))) nilM)))) nxM)
    (retM (callM (quiet m__law_least) (consM (lcM (rng1M (consM (opM addG (cM (.int 1)) (callM (quiet m__law_take) (consM (varM 0) (consM (cM (.int 5)) nilM)))) nilM)) (stoN 3) yesM (callM (quiet m__law_lot) (consM (varM 0) (consM (varM 1) nilM))) [3]) nilM)))))
def m__law_over : En → RM Rv := runDef 2 2 b__law_overM
def b_is_withinM : En → RM Ot := (retM (opM eqG (cbM lenG (consM (lcOM 0 (stoN 2) (bM (opM notInG (varM 2) (varM 1))) (varM 2) [2]) nilM)) (cM (.int 0))))
def m_is_within : En → RM Rv := runDef 2 1 b_is_withinM
def b_lot_holdsM : En → RM Ot := (retM (opM gtG (cbM lenG (consM (lcOM 0 (stoN 2) (bM (callM (quiet m_is_within) (consM (varM 2) (consM (varM 1) nilM)))) (varM 2) [2]) nilM)) (cM (.int 0))))
def m_lot_holds : En → RM Rv := runDef 2 1 b_lot_holdsM
def b_least_lotsM : En → RM Ot := (sqM (asgM 1 (lstM nilM))
    (sqM (forM (seqM (sortKM (varM 0))) (stoN 2) (ifM (notM (bM (callM (quiet m_lot_holds) (consM (varM 1) (consM (varM 2) nilM))))) (appM 1 (varM 2)) nxM))
    (retM (cbM tupG (consM (cbM sortG (consM (varM 1) nilM)) nilM)))))
def m_least_lots : En → RM Rv := runDef 1 2 b_least_lotsM
def b_meetsM : En → RM Ot := (retM (opM gtG (cbM lenG (consM (lcOM 0 (stoN 2) (bM (opM inG (varM 2) (varM 1))) (varM 2) [2]) nilM)) (cM (.int 0))))
def m_meets : En → RM Rv := runDef 2 1 b_meetsM
def b_with_houseM : En → RM Ot := (retM (cbM tupG (consM (cbM sortG (consM (opM addG (varM 0) (tupM (consM (varM 1) nilM))) nilM)) nilM)))
def m_with_house : En → RM Rv := runDef 2 0 b_with_houseM
def b_blocker_ofM : En → RM Ot := (sqM (asgM 2 (tupM (consM (tupM nilM) nilM)))
    (sqM (forM (seqM (varM 0)) (stoN 3) (sqM (asgM 4 (lstM nilM))
    (sqM (forM (seqM (varM 2)) (stoN 5) (ifM (bM (callM (quiet m_meets) (consM (varM 5) (consM (varM 3) nilM)))) (appM 4 (varM 5)) (extM 4 (lcOM 3 (stoN 6) yesM (callM (quiet m_with_house) (consM (varM 5) (consM (varM 6) nilM))) [6]))))
    (asgM 2 (callM (quiet m_least_lots) (consM (varM 4) nilM))))))
    (retM (varM 2))))
def m_blocker_of : En → RM Rv := runDef 2 5 b_blocker_ofM
def b__law_composedM : En → RM Ot := (sqM (parXM 2 3 (lstM nilM) (cM (.int 0)))
    (sqM (forM (seqM (varM 1)) (stoT 2 (stosCons (stoN 4) (stosCons (stoN 5) stosNil))) (sqM (appM 2 (lcOM 5 (stoN 7) yesM (cbM tupG (consM (lcM (seqM (varM 7)) (stoN 9) yesM (opM addG (varM 3) (varM 9)) [9]) nilM)) [7]))
    (asgM 3 (opM addG (varM 3) (varM 4)))))
    (sqM (asgM 6 (lstM nilM))
    (sqM (forM (seqM (varM 0)) (stoN 7) (sqM (asgM 8 (lstM (consM (tupM nilM) nilM)))
    (sqM (forM (seqM (varM 7)) (stoN 9) (sqM (asgM 10 (lstM nilM))
    (sqM (forM (seqM (varM 8)) (stoN 11) (asgM 10 (opM addG (varM 10) (lcM (seqM (opM ixG (varM 2) (varM 9))) (stoN 12) yesM (opM addG (varM 11) (varM 12)) [12]))))
    (asgM 8 (varM 10)))))
    (asgM 6 (opM addG (varM 6) (varM 8))))))
    (retM (cbM tupG (consM (cbM sortG (consM (varM 6) nilM)) nilM)))))))
def m__law_composed : En → RM Rv := runDef 2 11 b__law_composedM
def b__law_sameM (self : En → RM Rv) : En → RM Ot := (sqM (ifM (bM (isiM .tuple (varM 1))) (sqM (ifM (orM (notM (bM (isiM .tuple (varM 0)))) (bM (opM neG (cbM lenG (consM (varM 0) nilM)) (cbM lenG (consM (varM 1) nilM))))) (retM (cM (.bool false))) nxM)
    (sqM (forM (zipM (consM (varM 0) (consM (varM 1) nilM))) (stoT 2 (stosCons (stoN 2) (stosCons (stoN 3) stosNil))) (ifM (notM (bM (callM (quiet self) (consM (varM 2) (consM (varM 3) nilM))))) (retM (cM (.bool false))) nxM))
    (retM (cM (.bool true))))) nxM)
    (sqM (ifM (bM (opM isNG (varM 1) (cM .none))) (retM (opM isNG (varM 0) (cM .none))) nxM)
    (sqM (ifM (orM (bM (opM isBG (varM 1) (cM (.bool true)))) (bM (opM isBG (varM 1) (cM (.bool false))))) (retM (andV (isiM .bool (varM 0)) (opM eqG (varM 0) (varM 1)))) nxM)
    (sqM (ifM (bM (isiM .int (varM 1))) (retM (andV (isiM .int (varM 0)) (andV (notV (isiM .bool (varM 0))) (opM eqG (varM 0) (varM 1))))) nxM)
    (retM (andV (isiM .str (varM 0)) (andV (isiM .str (varM 1)) (opM eqG (varM 0) (varM 1)))))))))
def m__law_same : Nat → En → RM Rv
  | 0 => noneM
  | n + 1 => runDef 2 2 (b__law_sameM (m__law_same n))
def b_moved_lotsM : En → RM Ot := (retM (lcOM 0 (stoN 2) yesM (cbM tupG (consM (lcM (seqM (varM 2)) (stoN 3) yesM (opM addG (varM 1) (varM 3)) [3]) nilM)) [2]))
def m_moved_lots : En → RM Rv := runDef 2 2 b_moved_lotsM
def b_composed_familyM : En → RM Ot := (sqM (parXM 2 3 (lstM nilM) (cM (.int 0)))
    (sqM (forM (seqM (varM 1)) (stoT 2 (stosCons (stoN 4) (stosCons (stoN 5) stosNil))) (sqM (appM 2 (callM (quiet m_moved_lots) (consM (varM 5) (consM (varM 3) nilM))))
    (augM 3 (fun i j => i + j) (varM 4))))
    (sqM (asgM 6 (lstM nilM))
    (sqM (forM (seqM (varM 0)) (stoN 7) (sqM (asgM 8 (lstM (consM (tupM nilM) nilM)))
    (sqM (forM (seqM (varM 7)) (stoN 9) (asgM 8 (lcOM2 8 (stoN 10) yesM (seqM (opM ixG (varM 2) (varM 9))) (stoN 11) yesM (opM addG (varM 10) (varM 11)) [10, 11] [11])))
    (extOM 6 8))))
    (retM (cbM tupG (consM (cbM sortG (consM (varM 6) nilM)) nilM)))))))
def m_composed_family : En → RM Rv := runDef 2 10 b_composed_familyM
def b__law_maskM : En → RM Ot := (retM (cbM sumG (consM (lcOM 0 (stoN 1) yesM (opM shlG (cM (.int 1)) (varM 1)) [1]) nilM)))
def m__law_mask : En → RM Rv := runDef 1 1 b__law_maskM
def b__law_blockerM : En → RM Ot := (sqM (parXM 2 3 (lcOM 0 (stoN 4) yesM (callM (quiet m__law_mask) (consM (varM 4) nilM)) [4]) (lstM nilM))
    (sqM (forM (rng1M (consM (opM shlG (cM (.int 1)) (varM 1)) nilM)) (stoN 4) (appM 3 (opM eqG (lcOM 2 (stoN 6) (bM (opM eqG (opM bandG (varM 6) (varM 4)) (cM (.int 0)))) (cM (.int 1)) [6]) (lstM nilM))))
    (sqM (asgM 5 (lstM nilM))
    (sqM (forM (rng1M (consM (opM shlG (cM (.int 1)) (varM 1)) nilM)) (stoN 4) (ifM (andM (bM (opM ixG (varM 3) (varM 4))) (bM (opM eqG (lcM (rng1M (consM (varM 1) nilM)) (stoN 7) (andM (iM (opM bandG (varM 4) (opM shlG (cM (.int 1)) (varM 7)))) (bM (opM ixG (varM 3) (opM subG (varM 4) (opM shlG (cM (.int 1)) (varM 7)))))) (cM (.int 1)) [7]) (lstM nilM)))) (appM 5 (cbM tupG (consM (lcM (rng1M (consM (varM 1) nilM)) (stoN 7) (iM (opM bandG (varM 4) (opM shlG (cM (.int 1)) (varM 7)))) (varM 7) [7]) nilM))) nxM))
    (retM (cbM tupG (consM (cbM sortG (consM (varM 5) nilM)) nilM)))))))
def m__law_blocker : En → RM Rv := runDef 2 6 b__law_blockerM
def b__law_holdsM : En → RM Ot := (sqM (forM (seqM (varM 0)) (stoN 2) (ifM (bM (callM (quiet m__law_within) (consM (varM 2) (consM (varM 1) nilM)))) (retM (cM (.bool true))) nxM))
    (retM (cM (.bool false))))
def m__law_holds : En → RM Rv := runDef 2 1 b__law_holdsM
def b__law_parts_heldM : En → RM Ot := (sqM (parXM 2 3 (lstM nilM) (cM (.int 0)))
    (sqM (forM (enumM (consM (varM 0) nilM)) (stoT 2 (stosCons (stoN 4) (stosCons (stoT 2 (stosCons (stoN 5) (stosCons (stoN 6) stosNil))) stosNil))) (sqM (asgM 7 (cbM tupG (consM (lcOM 1 (stoN 8) (andM (bM (opM geG (varM 8) (varM 3))) (bM (opM ltG (varM 8) (opM addG (varM 3) (varM 5))))) (opM subG (varM 8) (varM 3)) [8]) nilM)))
    (sqM (ifM (bM (callM (quiet m__law_holds) (consM (varM 6) (consM (varM 7) nilM)))) (appM 2 (varM 4)) nxM)
    (asgM 3 (opM addG (varM 3) (varM 5))))))
    (retM (cbM tupG (consM (varM 2) nilM)))))
def m__law_parts_held : En → RM Rv := runDef 2 7 b__law_parts_heldM
def b_lawM : En → RM Ot := (sqM (forM (rng1M (consM (cbM maxG (consM (cM (.int 3)) (consM (cbM minG (consM (cbM lenG (consM (varM 0) nilM)) (consM (cM (.int 6)) nilM))) nilM))) nilM)) (stoN 1) (sqM (asgM 2 (callM (quiet m__law_box) (consM (varM 0) (consM (varM 1) nilM))))
    (sqM (asgM 3 (callM (quiet m__law_sizes) (consM (varM 2) nilM)))
    (sqM (asgM 4 (callM (quiet m__law_over) (consM (varM 2) (consM (cbM lenG (consM (varM 3) nilM)) nilM))))
    (sqM (asgM 5 (cbM tupG (consM (lcOM 3 (stoN 12) yesM (tupM (consM (varM 12) (consM (callM (quiet m__law_over) (consM (varM 2) (consM (varM 12) nilM))) nilM))) [12]) nilM)))
    (sqM (parM 6 7 (consM (callM (quiet m__law_composed) (consM (varM 4) (consM (varM 5) nilM))) (consM (cbM sumG (consM (varM 3) nilM)) nilM)))
    (sqM (ifM (notM (bM (callM (quiet (m__law_same 6)) (consM (callM (quiet m_composed_family) (consM (varM 4) (consM (varM 5) nilM))) (consM (varM 6) nilM))))) (retM (cM (.bool false))) nxM)
    (sqM (asgM 8 (cbM tupG (consM (lcOM 5 (stoT 2 (stosCons (stoN 12) (stosCons (stoN 13) stosNil))) yesM (tupM (consM (varM 12) (consM (callM (quiet m_blocker_of) (consM (varM 13) (consM (varM 12) nilM))) nilM))) [12, 13]) nilM)))
    (sqM (asgM 9 (callM (quiet m_blocker_of) (consM (callKM (quiet m_composed_family) 0 2 [0, 1] nilM (consM (varM 4) (consM (varM 5) nilM))) (consM (varM 7) nilM))))
    (sqM (ifM (notM (bM (callM (quiet (m__law_same 6)) (consM (varM 9) (consM (callM (quiet m_composed_family) (consM (callM (quiet m_blocker_of) (consM (varM 4) (consM (cbM lenG (consM (varM 3) nilM)) nilM))) (consM (varM 8) nilM))) nilM))))) (retM (cM (.bool false))) nxM)
    (sqM (asgM 10 (cbM tupG (consM (lcOM 5 (stoT 2 (stosCons (stoN 12) (stosCons (stoN 13) stosNil))) yesM (tupM (consM (varM 12) (consM (callM (quiet m__law_blocker) (consM (varM 13) (consM (varM 12) nilM))) nilM))) [12, 13]) nilM)))
    (sqM (ifM (notM (bM (callM (quiet (m__law_same 6)) (consM (varM 9) (consM (callM (quiet m__law_composed) (consM (callM (quiet m__law_blocker) (consM (varM 4) (consM (cbM lenG (consM (varM 3) nilM)) nilM))) (consM (varM 10) nilM))) nilM))))) (retM (cM (.bool false))) nxM)
    (forM (seqM (callM (quiet m__law_all) (consM (varM 7) nilM))) (stoN 11) (ifM (notM (bM (callM (quiet (m__law_same 6)) (consM (callM (quiet m_lot_holds) (consM (varM 6) (consM (varM 11) nilM))) (consM (callM (quiet m__law_holds) (consM (varM 4) (consM (callM (quiet m__law_parts_held) (consM (varM 5) (consM (varM 11) nilM))) nilM))) nilM))))) (retM (cM (.bool false))) nxM))))))))))))))
    (retM (cM (.bool true))))
def m_law : En → RM Rv := runDef 1 13 b_lawM
end K72

namespace Fam
open PySem Pl
/-! ### at most 35 lots, none within another one: 35 chains of lots, each within the next one -/
def chainT : List Nat := [0, 0, 1, 0, 2, 2, 1, 0, 3, 3, 4, 3, 5, 2, 1, 0, 6, 6, 7, 6, 8, 8, 7, 6, 9, 9, 4, 3, 5, 2, 1, 0, 10, 10, 11, 10, 12, 12, 11, 10, 13, 13, 14, 13, 15, 12, 11, 10, 16, 16, 17, 16, 18, 8, 7, 6, 19, 9, 4, 3, 5, 2, 1, 0, 20, 20, 21, 20, 22, 22, 21, 20, 23, 23, 24, 23, 25, 22, 21, 20, 26, 26, 27, 26, 28, 28, 27, 26, 29, 29, 24, 23, 25, 22, 21, 20, 30, 30, 31, 30, 32, 32, 31, 30, 33, 33, 14, 13, 15, 12, 11, 10, 34, 34, 17, 16, 18, 8, 7, 6, 19, 9, 4, 3, 5, 2, 1, 0]
def chainN (x : Nat) : Nat := chainT.getD x 0
theorem chain_lt : ∀ x ∈ List.range 128, chainN x < 35 := by decide +kernel
theorem chain_ok : ∀ x ∈ List.range 128, ∀ y ∈ List.range 128, chainN x = chainN y → (withinN (bitsN 7 x) (bitsN 7 y) || withinN (bitsN 7 y) (bitsN 7 x)) = true := by decide +kernel
theorem apart_iff (a b : Lot) : apart a b = true ↔ withinN a b = false ∧ withinN b a = false := by
  unfold apart
  cases withinN a b <;> cases withinN b a <;> simp
theorem sperner_pw {F : List Lot} (hi : ∀ l ∈ F, Inc l) (h7 : ∀ l ∈ F, ∀ x ∈ l, x < 7) (h : F.Pairwise fun a b => apart a b = true) : F.length ≤ 35 := by
  have hs : ∀ l ∈ F, maskN l ∈ List.range 128 ∧ bitsN 7 (maskN l) = l := fun l hl => by
    obtain ⟨q1, q2⟩ := bits_all 7 (by decide) l (inc_sub (hi l hl) (h7 l hl))
    exact ⟨List.mem_range.mpr q1, q2⟩
  have hn : (F.map fun l => chainN (maskN l)).Nodup := by
    refine List.pairwise_map.mpr (List.Pairwise.imp_of_mem (fun {a b} ha hb hab e => ?_) h)
    have q := chain_ok _ (hs a ha).1 _ (hs b hb).1 e
    rw [(hs a ha).2, (hs b hb).2, ((apart_iff a b).mp hab).1, ((apart_iff a b).mp hab).2] at q
    cases q
  have := nodup_len _ (List.range 35) hn fun x hx => by
    obtain ⟨l, hl, rfl⟩ := List.mem_map.mp hx
    exact List.mem_range.mpr (chain_lt _ (hs l hl).1)
  rw [List.length_map, List.length_range] at this
  exact this
theorem Well.apart {F : List Lot} (w : Well F) : F.Pairwise fun a b => apart a b = true := by
  refine List.Pairwise.imp_of_mem (fun {a b} ha hb hab => (apart_iff a b).mpr ⟨?_, ?_⟩) w.nd
  · cases e : withinN a b with
    | false => rfl
    | true => exact absurd (w.anti a ha b hb e) hab
  · cases e : withinN b a with
    | false => rfl
    | true => exact absurd (w.anti b hb a ha e).symm hab
theorem sperner {F : List Lot} (w : Well F) (h7 : ∀ l ∈ F, ∀ x ∈ l, x < 7) : F.length ≤ 35 := sperner_pw w.inc h7 w.apart
end Fam

namespace Fam
open PySem PySem.Spec PyProof.Rows L2 Pl
/-! ### rows of lots, each row of a block of houses of its own -/
structure Blks (M : List (List Lot)) (lo : Nat → Nat) : Prop where
  mono : ∀ h, lo h ≤ lo (h + 1)
  ne : ∀ h, h < M.length → M.getD h [] ≠ []
  fam : ∀ h, h < M.length → ∀ f ∈ M.getD h [], f ≠ [] ∧ Inc f ∧ ∀ x ∈ f, lo h ≤ x ∧ x < lo (h + 1)
  apt : ∀ h, h < M.length → (M.getD h []).Pairwise fun a b => apart a b = true
theorem Blks.le {M : List (List Lot)} {lo : Nat → Nat} (B : Blks M lo) {h k : Nat} (hk : h ≤ k) : lo h ≤ lo k := by
  induction hk with
  | refl => exact Nat.le_refl _
  | step _ ih => exact Nat.le_trans ih (B.mono _)
theorem within_cat {o o' f g : Lot} {c : Nat} (ho : ∀ x ∈ o, x < c) (ho' : ∀ x ∈ o', x < c) (hf : ∀ x ∈ f, c ≤ x) (hg : ∀ x ∈ g, c ≤ x) : withinN (o ++ f) (o' ++ g) = (withinN o o' && withinN f g) := by
  rw [Bool.eq_iff_iff, Bool.and_eq_true, within_iff, within_iff, within_iff]
  constructor
  · intro h
    refine ⟨fun n hn => ?_, fun n hn => ?_⟩
    · rcases List.mem_append.mp (h n (List.mem_append_left _ hn)) with q | q
      · exact q
      · have := ho n hn; have := hg n q; omega
    · rcases List.mem_append.mp (h n (List.mem_append_right _ hn)) with q | q
      · have := ho' n q; have := hf n hn; omega
      · exact q
  · rintro ⟨h1, h2⟩ n hn
    rcases List.mem_append.mp hn with q | q
    · exact List.mem_append_left _ (h1 n q)
    · exact List.mem_append_right _ (h2 n q)
theorem mem_cross {so M : List Lot} {x : Lot} : x ∈ crossN so M ↔ ∃ o ∈ so, ∃ f ∈ M, o ++ f = x := by
  unfold crossN
  rw [List.mem_flatMap]
  exact exists_congr fun o => and_congr_right fun _ => List.mem_map
theorem cross_apart {so M : List Lot} {c : Nat} (h1 : so.Pairwise fun a b => apart a b = true) (hs : ∀ o ∈ so, ∀ x ∈ o, x < c) (h2 : M.Pairwise fun a b => apart a b = true) (hm : ∀ f ∈ M, ∀ x ∈ f, c ≤ x) : (crossN so M).Pairwise fun a b => apart a b = true := by
  unfold crossN
  rw [List.pairwise_flatMap]
  refine ⟨fun o ho => List.pairwise_map.mpr (List.Pairwise.imp_of_mem (fun {f g} hf hg h => ?_) h2), List.Pairwise.imp_of_mem (fun {o o'} ho ho' h x hx y hy => ?_) h1⟩
  · obtain ⟨q1, q2⟩ := (apart_iff f g).mp h
    refine (apart_iff _ _).mpr ⟨?_, ?_⟩
    · rw [within_cat (hs o ho) (hs o ho) (hm f hf) (hm g hg), q1, Bool.and_false]
    · rw [within_cat (hs o ho) (hs o ho) (hm g hg) (hm f hf), q2, Bool.and_false]
  · obtain ⟨f, hf, rfl⟩ := List.mem_map.mp hx
    obtain ⟨g, hg, rfl⟩ := List.mem_map.mp hy
    obtain ⟨q1, q2⟩ := (apart_iff o o').mp h
    refine (apart_iff _ _).mpr ⟨?_, ?_⟩
    · rw [within_cat (hs o ho) (hs o' ho') (hm f hf) (hm g hg), q1, Bool.false_and]
    · rw [within_cat (hs o' ho') (hs o ho) (hm g hg) (hm f hf), q2, Bool.false_and]
theorem inc_cat {o f : Lot} {c : Nat} (ho : Inc o) (hf : Inc f) (h1 : ∀ x ∈ o, x < c) (h2 : ∀ x ∈ f, c ≤ x) : Inc (o ++ f) :=
  List.pairwise_append.mpr ⟨ho, hf, fun a ha b hb => by have := h1 a ha; have := h2 b hb; omega⟩
theorem inc_short {l : Lot} {n : Nat} (h : Inc l) (hl : ∀ x ∈ l, x < n) : l.length ≤ n := by
  have := nodup_len l (List.range n) h.nd fun x hx => List.mem_range.mpr (hl x hx)
  rw [List.length_range] at this
  exact this
section
variable {M : List (List Lot)} {lo : Nat → Nat} (B : Blks M lo)
include B
theorem prod_ok (h7 : lo M.length ≤ 7) : ∀ (o : Lot) (so : List Lot) (k : Nat), Inc o → (∀ h ∈ o, k ≤ h ∧ h < M.length) → so.Pairwise (fun a b => apart a b = true) → (∀ s ∈ so, Inc s ∧ ∀ x ∈ s, x < lo k) → k ≤ M.length →
    (prodN M o so).Pairwise (fun a b => apart a b = true) ∧ (∀ s ∈ prodN M o so, Inc s ∧ ∀ x ∈ s, x < lo M.length) ∧ Bnd M o so
  | [], so, k, _, _, hp, hs, hk => ⟨hp, fun s q => ⟨(hs s q).1, fun x hx => Nat.lt_of_lt_of_le ((hs s q).2 x hx) (B.le hk)⟩, trivial⟩
  | h :: r, so, k, hi, ho, hp, hs, hk => by
    obtain ⟨k1, k2⟩ := ho h List.mem_cons_self
    obtain ⟨i1, i2⟩ := List.pairwise_cons.mp hi
    have hlo : ∀ s ∈ so, ∀ x ∈ s, x < lo h := fun s q x hx => Nat.lt_of_lt_of_le ((hs s q).2 x hx) (B.le k1)
    have s7 : ∀ s ∈ so, ∀ x ∈ s, x < 7 := fun s q x hx => Nat.lt_of_lt_of_le (hlo s q x hx) (Nat.le_trans (B.le (Nat.le_of_lt k2)) h7)
    have hM : ∀ f ∈ M.getD h [], ∀ x ∈ f, lo h ≤ x := fun f hf x hx => ((B.fam h k2 f hf).2.2 x hx).1
    obtain ⟨r1, r2, r3⟩ := prod_ok h7 r (crossN so (M.getD h [])) (h + 1) i2 (fun x hx => ⟨i1 x hx, (ho x (List.mem_cons_of_mem _ hx)).2⟩) (cross_apart hp hlo (B.apt h k2) hM) (fun s q => by
      obtain ⟨o, ho', f, hf, rfl⟩ := mem_cross.mp q
      refine ⟨inc_cat (hs o ho').1 (B.fam h k2 f hf).2.1 (hlo o ho') (hM f hf), fun x hx => ?_⟩
      rcases List.mem_append.mp hx with z | z
      · exact Nat.lt_of_lt_of_le (hlo o ho' x z) (B.mono h)
      · exact ((B.fam h k2 f hf).2.2 x z).2) k2
    refine ⟨r1, r2, ⟨⟨k2, fun s q => ?_, ?_⟩, r3⟩⟩
    · have := inc_short (hs s q).1 (s7 s q)
      omega
    · have := sperner_pw (fun s q => (hs s q).1) s7 hp
      omega
theorem prod_mem : ∀ (o : Lot) (so : List Lot) (x : Lot), (∀ h ∈ o, h < M.length) → x ∈ prodN M o so → ∃ s ∈ so, (∀ y ∈ s, y ∈ x) ∧ (∀ y ∈ x, y ∈ s ∨ ∃ h ∈ o, lo h ≤ y ∧ y < lo (h + 1)) ∧ ∀ h ∈ o, ∃ y ∈ x, lo h ≤ y ∧ y < lo (h + 1)
  | [], so, x, _, hx => ⟨x, hx, fun y hy => hy, fun y hy => .inl hy, fun h hh => nomatch hh⟩
  | h :: r, so, x, ho, hx => by
    have k2 := ho h List.mem_cons_self
    obtain ⟨s', hs', q1, q2, q3⟩ := prod_mem r (crossN so (M.getD h [])) x (fun z hz => ho z (List.mem_cons_of_mem _ hz)) hx
    obtain ⟨s, hs, f, hf, rfl⟩ := mem_cross.mp hs'
    obtain ⟨f1, f2, f3⟩ := B.fam h k2 f hf
    refine ⟨s, hs, fun y hy => q1 y (List.mem_append_left _ hy), fun y hy => ?_, fun z hz => ?_⟩
    · rcases q2 y hy with w | ⟨z, hz, w⟩
      · rcases List.mem_append.mp w with w | w
        · exact .inl w
        · exact .inr ⟨h, List.mem_cons_self, f3 y w⟩
      · exact .inr ⟨z, List.mem_cons_of_mem _ hz, w⟩
    · rcases List.mem_cons.mp hz with e | hz
      · subst e
        cases f with
        | nil => exact absurd rfl f1
        | cons y f => exact ⟨y, q1 y (List.mem_append_right _ List.mem_cons_self), f3 y List.mem_cons_self⟩
      · exact q3 z hz
theorem prod_ne : ∀ (o : Lot) (so : List Lot), (∀ h ∈ o, h < M.length) → so ≠ [] → prodN M o so ≠ []
  | [], so, _, h => h
  | h :: r, so, ho, hs => by
    refine prod_ne r _ (fun z hz => ho z (List.mem_cons_of_mem _ hz)) fun e => ?_
    cases so with
    | nil => exact hs rfl
    | cons s so =>
      cases e2 : M.getD h [] with
      | nil => exact B.ne h (ho h List.mem_cons_self) e2
      | cons f g =>
        have : s ++ f ∈ crossN (s :: so) (M.getD h []) := mem_cross.mpr ⟨s, List.mem_cons_self, f, by rw [e2]; exact List.mem_cons_self, rfl⟩
        rw [e] at this
        cases this
theorem blk_apart {h k y : Nat} (h1 : lo h ≤ y ∧ y < lo (h + 1)) (h2 : lo k ≤ y ∧ y < lo (k + 1)) : h = k := by
  rcases Nat.lt_trichotomy h k with q | q | q
  · have := B.le (h := h + 1) (k := k) q
    omega
  · exact q
  · have := B.le (h := k + 1) (k := h) q
    omega
theorem prod_within {o o' x y : Lot} (ho : ∀ h ∈ o, h < M.length) (ho' : ∀ h ∈ o', h < M.length) (hx : x ∈ prodN M o [[]]) (hy : y ∈ prodN M o' [[]]) (h : withinN x y = true) : withinN o o' = true := by
  obtain ⟨s, hs, _, _, q3⟩ := prod_mem B o _ x ho hx
  obtain ⟨s', hs', _, q2, _⟩ := prod_mem B o' _ y ho' hy
  have e' : s' = [] := List.mem_singleton.mp hs'
  subst e'
  refine (within_iff _ _).mpr fun n hn => ?_
  obtain ⟨z, hz, w⟩ := q3 n hn
  rcases q2 z ((within_iff _ _).mp h z hz) with v | ⟨k, hk, v⟩
  · cases v
  · rw [blk_apart B w v]
    exact hk
theorem comp_apart (h7 : lo M.length ≤ 7) {outer : List Lot} (w : outer.Pairwise fun a b => apart a b = true) (hi : ∀ o ∈ outer, Inc o ∧ ∀ h ∈ o, h < M.length) :
    (compN M outer).Pairwise (fun a b => apart a b = true) ∧ (∀ x ∈ compN M outer, Inc x ∧ ∀ y ∈ x, y < lo M.length) ∧ ∀ o ∈ outer, Bnd M o [[]] := by
  have h0 : ∀ o ∈ outer, _ := fun o ho => prod_ok B h7 o [[]] 0 (hi o ho).1 (fun h hh => ⟨Nat.zero_le _, (hi o ho).2 h hh⟩) (List.pairwise_singleton _ _) (fun s hs => by
    have e : s = [] := List.mem_singleton.mp hs
    subst e
    exact ⟨List.Pairwise.nil, fun x hx => nomatch hx⟩) (Nat.zero_le _)
  refine ⟨?_, fun x hx => ?_, fun o ho => (h0 o ho).2.2⟩
  · unfold compN
    rw [List.pairwise_flatMap]
    refine ⟨fun o ho => (h0 o ho).1, List.Pairwise.imp_of_mem (fun {o o'} ho ho' h x hx y hy => ?_) w⟩
    obtain ⟨q1, q2⟩ := (apart_iff o o').mp h
    refine (apart_iff _ _).mpr ⟨?_, ?_⟩
    · cases e : withinN x y with
      | false => rfl
      | true => rw [prod_within B (hi o ho).2 (hi o' ho').2 hx hy e] at q1; cases q1
    · cases e : withinN y x with
      | false => rfl
      | true => rw [prod_within B (hi o' ho').2 (hi o ho).2 hy hx e] at q2; cases q2
  · obtain ⟨o, ho, hx⟩ := List.mem_flatMap.mp hx
    exact (h0 o ho).2.1 x hx
end
/-! what the composed row holds for -/
theorem within_app (a b l : Lot) : withinN (a ++ b) l = (withinN a l && withinN b l) := by
  unfold withinN
  rw [List.all_append]
theorem cross_holds (so M : List Lot) (l : Lot) : holdsN (crossN so M) l = (holdsN so l && holdsN M l) := by
  rw [Bool.eq_iff_iff, Bool.and_eq_true, holds_iff, holds_iff, holds_iff]
  constructor
  · rintro ⟨a, ha, h⟩
    obtain ⟨o, ho, f, hf, rfl⟩ := mem_cross.mp ha
    rw [within_app, Bool.and_eq_true] at h
    exact ⟨⟨o, ho, h.1⟩, ⟨f, hf, h.2⟩⟩
  · rintro ⟨⟨o, ho, h1⟩, ⟨f, hf, h2⟩⟩
    exact ⟨o ++ f, mem_cross.mpr ⟨o, ho, f, hf, rfl⟩, by rw [within_app, h1, h2]; rfl⟩
theorem prod_holds (M : List (List Lot)) (l : Lot) : ∀ (o : Lot) (so : List Lot), holdsN (prodN M o so) l = (holdsN so l && o.all fun h => holdsN (M.getD h []) l)
  | [], so => by rw [List.all_nil, Bool.and_true]; rfl
  | h :: r, so => by
    show holdsN (prodN M r (crossN so (M.getD h []))) l = _
    rw [prod_holds M l r, cross_holds, List.all_cons, Bool.and_assoc]
theorem comp_holds (M : List (List Lot)) (outer : List Lot) (l : Lot) : holdsN (compN M outer) l = outer.any fun o => o.all fun h => holdsN (M.getD h []) l := by
  unfold compN
  have e1 : ∀ L : List Lot, holdsN (L.flatMap fun o => prodN M o [[]]) l = L.any fun o => holdsN (prodN M o [[]]) l := fun L => by
    unfold holdsN
    rw [List.any_flatMap]
  rw [e1]
  refine congrArg (List.any outer) (funext fun o => ?_)
  rw [prod_holds]
  rfl
theorem holds_perm {A B : List Lot} (p : A.Perm B) (l : Lot) : holdsN A l = holdsN B l := by
  rw [Bool.eq_iff_iff, holds_iff, holds_iff]
  exact exists_congr fun a => and_congr_left fun _ => p.mem_iff
end Fam

namespace Fam
open PySem PySem.Spec PyProof.Rows L2 Pl
abbrev Inn := List (Nat × List Lot)
def loI : Nat → Inn → Nat → Nat
  | a, _, 0 => a
  | a, [], _ + 1 => a
  | a, p :: r, h + 1 => loI (a + p.1) r h
def totI (I : Inn) : Nat := (I.map Prod.fst).sum
theorem mvN_len : ∀ (I : Inn) (a : Nat), (mvN a I).length = I.length
  | [], a => rfl
  | p :: I, a => by
    show (mvN (a + p.1) I).length + 1 = _
    rw [mvN_len I]
    rfl
theorem mvN_at : ∀ (I : Inn) (a h : Nat) (hh : h < I.length), (mvN a I).getD h [] = (I[h].2).map (shiftL (loI a I h))
  | p :: I, a, 0, _ => rfl
  | p :: I, a, h + 1, hh => by
    show (mvN (a + p.1) I).getD h [] = _
    rw [mvN_at I (a + p.1) h (by simpa using hh)]
    rfl
theorem loI_mono : ∀ (I : Inn) (a h : Nat), loI a I h ≤ loI a I (h + 1)
  | [], a, 0 => Nat.le_refl _
  | [], a, h + 1 => Nat.le_refl _
  | p :: I, a, 0 => by
    show a ≤ loI (a + p.1) I 0
    have : loI (a + p.1) I 0 = a + p.1 := by cases I <;> rfl
    omega
  | p :: I, a, h + 1 => loI_mono I (a + p.1) h
theorem loI_zero (I : Inn) (a : Nat) : loI a I 0 = a := by cases I <;> rfl
theorem loI_succ : ∀ (I : Inn) (a h : Nat) (hh : h < I.length), loI a I (h + 1) = loI a I h + I[h].1
  | p :: I, a, 0, _ => by
    show loI (a + p.1) I 0 = a + p.1
    rw [loI_zero]
  | p :: I, a, h + 1, hh => by
    show loI (a + p.1) I (h + 1) = loI (a + p.1) I h + _
    rw [loI_succ I (a + p.1) h (by simpa using hh)]
    rfl
theorem loI_end : ∀ (I : Inn) (a : Nat), loI a I I.length = a + totI I
  | [], a => rfl
  | p :: I, a => by
    show loI (a + p.1) I I.length = a + totI (p :: I)
    rw [loI_end I]
    unfold totI
    rw [List.map_cons, List.sum_cons]
    omega
theorem shift_mem (a : Nat) (f : Lot) (x : Nat) : x ∈ shiftL a f ↔ a ≤ x ∧ x - a ∈ f := by
  unfold shiftL
  rw [List.mem_map]
  constructor
  · rintro ⟨y, hy, rfl⟩
    exact ⟨Nat.le_add_right _ _, by rw [Nat.add_sub_cancel_left]; exact hy⟩
  · rintro ⟨h1, h2⟩
    exact ⟨x - a, h2, by omega⟩
theorem shift_within2 (a : Nat) (f g : Lot) : withinN (shiftL a f) (shiftL a g) = withinN f g := by
  rw [Bool.eq_iff_iff, within_iff, within_iff]
  constructor
  · intro h n hn
    have := (shift_mem a g (a + n)).mp (h (a + n) ((shift_mem a f _).mpr ⟨by omega, by rw [Nat.add_sub_cancel_left]; exact hn⟩))
    rw [Nat.add_sub_cancel_left] at this
    exact this.2
  · intro h n hn
    obtain ⟨h1, h2⟩ := (shift_mem a f n).mp hn
    exact (shift_mem a g n).mpr ⟨h1, h _ h2⟩
theorem shift_inc {a : Nat} {f : Lot} (h : Inc f) : Inc (shiftL a f) := by
  unfold shiftL Inc
  exact List.pairwise_map.mpr (List.Pairwise.imp (fun {x y} q => by omega) h)
structure InnOK (I : Inn) : Prop where
  fam : ∀ p ∈ I, FamOK p.1 p.2
  tot : totI I ≤ 7
theorem blks {I : Inn} (hI : InnOK I) : Blks (mvN 0 I) (loI 0 I) := by
  refine ⟨loI_mono I 0, fun h hh => ?_, fun h hh f hf => ?_, fun h hh => ?_⟩
  all_goals rw [mvN_len] at hh
  · rw [mvN_at I 0 h hh]
    have := (hI.fam _ (List.getElem_mem hh)).ne
    intro e
    exact this (List.map_eq_nil_iff.mp e)
  · rw [mvN_at I 0 h hh] at hf
    obtain ⟨g, hg, rfl⟩ := List.mem_map.mp hf
    have F := hI.fam _ (List.getElem_mem hh)
    obtain ⟨g1, _, g3⟩ := F.lot g hg
    refine ⟨fun e => g1 (List.map_eq_nil_iff.mp e), shift_inc (F.inc g hg), fun x hx => ?_⟩
    obtain ⟨x1, x2⟩ := (shift_mem _ _ _).mp hx
    have := g3 _ x2
    rw [loI_succ I 0 h hh]
    omega
  · rw [mvN_at I 0 h hh]
    refine List.pairwise_map.mpr (List.Pairwise.imp (fun {f g} q => ?_) (hI.fam _ (List.getElem_mem hh)).well.apart)
    unfold apart at q ⊢
    rw [shift_within2, shift_within2]
    exact q
def compF (I : Inn) (outer : List Lot) : List Lot := isort leL (compN (mvN 0 I) outer)
theorem comp_ap {I : Inn} (hI : InnOK I) {outer : List Lot} (ho : FamOK I.length outer) :
    (compN (mvN 0 I) outer).Pairwise (fun a b => apart a b = true) ∧ (∀ x ∈ compN (mvN 0 I) outer, Inc x ∧ ∀ y ∈ x, y < totI I) ∧ ∀ o ∈ outer, Bnd (mvN 0 I) o [[]] := by
  have h := comp_apart (blks hI) (by rw [mvN_len, loI_end, Nat.zero_add]; exact hI.tot) ho.well.apart fun o q => ⟨ho.inc o q, fun h hh => by rw [mvN_len]; exact (ho.lot o q).2.2 h hh⟩
  rw [mvN_len, loI_end, Nat.zero_add] at h
  exact h
theorem tot_ge : ∀ {I : Inn}, (∀ p ∈ I, FamOK p.1 p.2) → I.length ≤ totI I
  | [], _ => Nat.le_refl _
  | p :: I, h => by
    have := tot_ge fun q hq => h q (List.mem_cons_of_mem _ hq)
    have := (h p List.mem_cons_self).n1
    unfold totI at *
    rw [List.map_cons, List.sum_cons, List.length_cons]
    omega
theorem comp_fam {I : Inn} (hI : InnOK I) {outer : List Lot} (ho : FamOK I.length outer) : FamOK (totI I) (compF I outer) := by
  obtain ⟨h1, h2, _⟩ := comp_ap hI ho
  have w : Well (compF I outer) := well_sort (fun l hl => (h2 l hl).1) h1
  have hm : ∀ l ∈ compF I outer, l ∈ compN (mvN 0 I) outer := fun l hl => (isort_perm _).mem_iff.mp hl
  have h7 : ∀ l ∈ compF I outer, ∀ x ∈ l, x < 7 := fun l hl x hx => Nat.lt_of_lt_of_le ((h2 l (hm l hl)).2 x hx) hI.tot
  have hlen := sperner w h7
  refine ⟨by have := tot_ge hI.fam; have := ho.n1; omega, hI.tot, ?_, by omega, fun l hl => ⟨?_, ?_, (h2 l (hm l hl)).2⟩, w⟩
  · intro e
    cases e2 : outer with
    | nil => exact ho.ne e2
    | cons o r =>
      have hmem : o ∈ outer := by rw [e2]; exact List.mem_cons_self
      have q := prod_ne (blks hI) o [[]] (fun h hh => by rw [mvN_len]; exact (ho.lot o hmem).2.2 h hh) (by simp)
      cases e3 : prodN (mvN 0 I) o [[]] with
      | nil => exact q e3
      | cons x s =>
        have : x ∈ compF I outer := (isort_perm _).mem_iff.mpr (List.mem_flatMap.mpr ⟨o, hmem, by rw [e3]; exact List.mem_cons_self⟩)
        rw [e] at this
        cases this
  · intro e
    obtain ⟨o, hmem, hx⟩ := List.mem_flatMap.mp (hm l hl)
    obtain ⟨_, _, _, _, q3⟩ := prod_mem (blks hI) o [[]] l (fun h hh => by rw [mvN_len]; exact (ho.lot o hmem).2.2 h hh) hx
    cases o with
    | nil => exact (ho.lot [] hmem).1 rfl
    | cons h r =>
      obtain ⟨y, hy, _⟩ := q3 h List.mem_cons_self
      rw [e] at hy
      cases hy
  · have := inc_short (w.inc l hl) (h7 l hl)
    omega
/-! what is told of a lot's part -/
def partN (a k : Nat) (l : Lot) : Lot := (l.filter fun x => Nat.ble a x && Nat.blt x (a + k)).map fun x => x - a
theorem part_mem (a k : Nat) (l : Lot) (x : Nat) : x ∈ partN a k l ↔ x < k ∧ a + x ∈ l := by
  unfold partN
  rw [List.mem_map]
  constructor
  · rintro ⟨y, hy, rfl⟩
    obtain ⟨h1, h2⟩ := List.mem_filter.mp hy
    rw [Bool.and_eq_true] at h2
    have q1 := Nat.le_of_ble_eq_true h2.1
    have q2 : y < a + k := (Nat.blt_eq (x := y) (y := a + k)).mp h2.2
    exact ⟨by omega, by rw [show a + (y - a) = y by omega]; exact h1⟩
  · rintro ⟨h1, h2⟩
    refine ⟨a + x, List.mem_filter.mpr ⟨h2, ?_⟩, by omega⟩
    rw [Bool.and_eq_true]
    exact ⟨Nat.ble_eq_true_of_le (by omega), (Nat.blt_eq (x := a + x) (y := a + k)).mpr (by omega)⟩
theorem shift_holds {F : List Lot} {a k : Nat} (hF : ∀ f ∈ F, ∀ x ∈ f, x < k) (l : Lot) : holdsN (F.map (shiftL a)) l = holdsN F (partN a k l) := by
  rw [Bool.eq_iff_iff, holds_iff, holds_iff]
  constructor
  · rintro ⟨g, hg, h⟩
    obtain ⟨f, hf, rfl⟩ := List.mem_map.mp hg
    refine ⟨f, hf, (within_iff _ _).mpr fun n hn => (part_mem _ _ _ _).mpr ⟨hF f hf n hn, (within_iff _ _).mp h _ ((shift_mem _ _ _).mpr ⟨by omega, by rw [Nat.add_sub_cancel_left]; exact hn⟩)⟩⟩
  · rintro ⟨f, hf, h⟩
    refine ⟨_, List.mem_map.mpr ⟨f, hf, rfl⟩, (within_iff _ _).mpr fun n hn => ?_⟩
    obtain ⟨h1, h2⟩ := (shift_mem _ _ _).mp hn
    have := ((part_mem _ _ _ _).mp ((within_iff _ _).mp h _ h2)).2
    rw [show a + (n - a) = n by omega] at this
    exact this
theorem holds_ext {F : List Lot} {l l' : Lot} (h : ∀ x, x ∈ l ↔ x ∈ l') : holdsN F l = holdsN F l' := by
  rw [Bool.eq_iff_iff, holds_iff, holds_iff]
  refine exists_congr fun a => and_congr_right fun _ => ?_
  rw [within_iff, within_iff]
  exact forall_congr' fun n => forall_congr' fun _ => h n
def placesN (I : Inn) (l : Lot) : Lot := (List.range I.length).filter fun h => holdsN ((mvN 0 I).getD h []) l
theorem comp_places {I : Inn} {outer : List Lot} (ho : ∀ o ∈ outer, ∀ h ∈ o, h < I.length) (l : Lot) : holdsN (compF I outer) l = holdsN outer (placesN I l) := by
  unfold compF
  rw [holds_perm (isort_perm _), comp_holds]
  unfold holdsN
  rw [Bool.eq_iff_iff, List.any_eq_true, List.any_eq_true]
  refine exists_congr fun o => and_congr_right fun q => ?_
  rw [List.all_eq_true, within_iff]
  refine forall_congr' fun h => forall_congr' fun hh => ?_
  unfold placesN
  rw [List.mem_filter, List.mem_range]
  exact ⟨fun z => ⟨ho o q h hh, z⟩, fun z => z.2⟩
/-! the blocker of a composed family -/
theorem Blk.fam {n : Nat} {F B : List Lot} (hF : FamOK n F) (h : Blk n F B) : FamOK n B := by
  have h7 : ∀ l ∈ B, ∀ x ∈ l, x < 7 := fun l hl x hx => Nat.lt_of_lt_of_le (h.inv.lt l hl x hx) hF.n7
  have hlen := sperner h.well h7
  refine ⟨hF.n1, hF.n7, ?_, by omega, fun l hl => ⟨?_, ?_, h.inv.lt l hl⟩, h.well⟩
  · intro e
    have d := dual (fun l hl => (hF.lot l hl).2.2) h.inv []
    rw [e] at d
    have : holdsN F [] = false := by
      cases q : holdsN F [] with
      | false => rfl
      | true =>
        obtain ⟨a, ha, w⟩ := (holds_iff _ _).mp q
        cases a with
        | nil => exact absurd rfl (hF.lot [] ha).1
        | cons x a => exact absurd ((within_iff _ _).mp w x List.mem_cons_self) (by simp)
    rw [this] at d
    cases d
  · intro e
    cases e2 : F with
    | nil => exact hF.ne e2
    | cons f r =>
      have := h.inv.hit l hl f (by rw [e2]; exact List.mem_cons_self)
      rw [e] at this
      cases this
  · have := inc_short (h.well.inc l hl) (h7 l hl)
    omega
structure Duals (I J : Inn) : Prop where
  len : J.length = I.length
  nth : ∀ (h : Nat) (h1 : h < I.length) (h2 : h < J.length), J[h].1 = I[h].1 ∧ Blk I[h].1 I[h].2 J[h].2
theorem Duals.lo {I J : Inn} (D : Duals I J) : ∀ h, h ≤ I.length → loI 0 J h = loI 0 I h
  | 0, _ => by rw [loI_zero, loI_zero]
  | h + 1, hh => by
    rw [loI_succ I 0 h hh, loI_succ J 0 h (by rw [D.len]; exact hh), D.lo h (by omega), (D.nth h hh (by rw [D.len]; exact hh)).1]
theorem Duals.tot {I J : Inn} (D : Duals I J) : totI J = totI I := by
  have h := D.lo I.length (Nat.le_refl _)
  rw [loI_end I] at h
  rw [← D.len, loI_end J] at h
  omega
theorem Duals.ok {I J : Inn} (D : Duals I J) (hI : InnOK I) : InnOK J := by
  refine ⟨fun p hp => ?_, by rw [D.tot]; exact hI.tot⟩
  obtain ⟨h, hh, rfl⟩ := List.mem_iff_getElem.mp hp
  have h1 : h < I.length := by rw [← D.len]; exact hh
  obtain ⟨e1, e2⟩ := D.nth h h1 hh
  rw [e1]
  exact e2.fam (hI.fam _ (List.getElem_mem h1))
theorem Duals.holds {I J : Inn} (D : Duals I J) (hI : InnOK I) {h : Nat} (hh : h < I.length) (l : Lot) : holdsN ((mvN 0 J).getD h []) (othersN l (totI I)) = !holdsN ((mvN 0 I).getD h []) l := by
  have h2 : h < J.length := by rw [D.len]; exact hh
  obtain ⟨e1, e2⟩ := D.nth h hh h2
  have F := hI.fam _ (List.getElem_mem hh)
  have lt1 : ∀ f ∈ I[h].2, ∀ x ∈ f, x < I[h].1 := fun f hf => (F.lot f hf).2.2
  rw [mvN_at J 0 h h2, mvN_at I 0 h hh, D.lo h (by omega), shift_holds (k := I[h].1) (fun f hf => e2.inv.lt f hf), shift_holds (k := I[h].1) lt1, ← dual lt1 e2.inv]
  refine holds_ext fun x => ?_
  rw [part_mem, others_mem, others_mem, part_mem]
  have hle : loI 0 I (h + 1) ≤ totI I := by
    have : loI 0 I (h + 1) ≤ loI 0 I I.length := (blks hI).le (show h + 1 ≤ I.length from hh)
    rw [loI_end, Nat.zero_add] at this
    exact this
  rw [loI_succ I 0 h hh] at hle
  constructor
  · rintro ⟨a, b, c⟩
    exact ⟨a, fun z => c z.2⟩
  · rintro ⟨a, b⟩
    exact ⟨a, by omega, fun z => b ⟨a, z⟩⟩
theorem comp_dual {I J : Inn} (D : Duals I J) (hI : InnOK I) {outer OB : List Lot} (ho : FamOK I.length outer) (hb : Blk I.length outer OB) (l : Lot) : holdsN (compF J OB) (othersN l (totI I)) = !holdsN (compF I outer) l := by
  have lt1 : ∀ o ∈ outer, ∀ h ∈ o, h < I.length := fun o q => (ho.lot o q).2.2
  rw [comp_places (fun o q h hh => by rw [D.len]; exact hb.inv.lt o q h hh), comp_places lt1, ← dual lt1 hb.inv]
  refine holds_ext fun h => ?_
  rw [others_mem]
  unfold placesN
  rw [List.mem_filter, List.mem_filter, List.mem_range, List.mem_range, D.len]
  constructor
  · rintro ⟨a, b⟩
    rw [D.holds hI a] at b
    exact ⟨a, fun z => by rw [z.2] at b; cases b⟩
  · rintro ⟨a, b⟩
    refine ⟨a, ?_⟩
    rw [D.holds hI a]
    cases e : holdsN ((mvN 0 I).getD h []) l with
    | false => rfl
    | true => exact absurd ⟨a, e⟩ b
theorem FamOK.all {n : Nat} {F : List Lot} (h : FamOK n F) : ∀ l ∈ F, l ∈ allN n := fun l hl => (allN_iff n l).mpr ⟨h.inc l hl, (h.lot l hl).2.2⟩
theorem well_uniq {n : Nat} {F B : List Lot} (wF : Well F) (wB : Well B) (hF : ∀ l ∈ F, l ∈ allN n) (hB : ∀ l ∈ B, l ∈ allN n) (h : ∀ l ∈ allN n, holdsN F l = holdsN B l) : B = F := by
  have side : ∀ {P Q : List Lot}, Well P → (∀ l ∈ P, l ∈ allN n) → (∀ l ∈ Q, l ∈ allN n) → Well Q → (∀ l ∈ allN n, holdsN P l = holdsN Q l) → ∀ a ∈ P, a ∈ Q := fun {P Q} wP hP hQ wQ h a ha => by
    have h1 : holdsN Q a = true := by
      rw [← h a (hP a ha)]
      exact (holds_iff P a).mpr ⟨a, ha, within_refl a⟩
    obtain ⟨b, hb, hw⟩ := (holds_iff Q a).mp h1
    have h2 : holdsN P b = true := by
      rw [h b (hQ b hb)]
      exact (holds_iff Q b).mpr ⟨b, hb, within_refl b⟩
    obtain ⟨c, hc, hw2⟩ := (holds_iff P b).mp h2
    have e := wP.anti c hc a ha (within_trans hw2 hw)
    subst e
    have := inc_ext (wP.inc c hc) (wQ.inc b hb) fun x => ⟨fun q => (within_iff c b).mp hw2 x q, fun q => (within_iff b c).mp hw x q⟩
    rw [this]
    exact hb
  exact sorted_uniq ord_leL wB.sorted wF.sorted ((List.perm_ext_iff_of_nodup wB.nd wF.nd).mpr fun l => ⟨side wB hB hF wF (fun l hl => (h l hl).symm) l, side wF hF hB wB h l⟩)
theorem comp_blk {I J : Inn} (D : Duals I J) (hI : InnOK I) {outer OB C : List Lot} (ho : FamOK I.length outer) (hb : Blk I.length outer OB) (hc : Blk (totI I) (compF I outer) C) : C = compF J OB := by
  have f1 := comp_fam hI ho
  have f2 : FamOK (totI I) (compF J OB) := by
    rw [← D.tot]
    exact comp_fam (D.ok hI) (by rw [D.len]; exact hb.fam ho)
  refine well_uniq f2.well hc.well f2.all (hc.fam f1).all fun l hl => ?_
  rw [← others_two hl, comp_dual D hI ho hb, dual (fun l hl => (f1.lot l hl).2.2) hc.inv]
end Fam

namespace Fam
open PySem PySem.Spec PyProof.Rows L2 Pl
local macro_rules | `(tactic| decreasing_trivial) => `(tactic| simp -implicitDefEqProofs only [X.bnd, X.bndE, X.ckt, X.ob1, X.var, X.varV, X.varO, X.cN, X.cB, X.cO, X.cS, X.cNeg, X.op0, X.op1, X.op2, X.op3, X.un0, X.un1, X.un2, X.nil, X.cons0, X.cons1, X.cons2, X.cb0, X.cb1, X.cb2, X.tup0, X.tup1, X.tup2, X.lst0, X.lst1, X.lst2, X.fzA0, X.fzA1, X.fzA2, X.fzA3, X.b0, X.b1, X.not0, X.not1, X.and0, X.andt, X.andf, X.or0, X.ort, X.orf, X.andV0, X.andVt, X.andVf, X.orV0, X.orVt, X.orVf, X.notV0, X.notV1, X.ifX0, X.ifXt, X.ifXf, X.noP, X.part0, X.part1, X.partN, X.sl0, X.sl1, X.sl2, X.sl3, X.sl4, X.seq0, X.seq1, X.seq2, X.sq0, X.sqn, X.sqr, X.sqb, X.sqc, X.if0, X.ift, X.iff, X.asg0, X.asgV, X.asgN, X.asgS, X.asg2, X.nxS, X.unp0, X.unp1, X.unp2, X.ret0, X.ret1, X.retN, X.nx, X.bk, X.ct, X.yes, X.drop0, X.drop1, X.par0, X.par1, X.par2, X.parX0, X.parX1, X.parX2, X.setO1, X.app0, X.appA, X.app1, X.app2, X.app3, X.ext0, X.extA, X.ext1, X.ext2, X.extO0, X.extO1, X.aug0, X.augA, X.augAN, X.aug1, X.aug1N, X.set0, X.set1, X.set2, X.set2b, X.set3, X.set4, X.set4N, X.set5, X.forS, X.forN, X.forO, X.forKn, X.forKc, X.forKb, X.forKr, X.rngA, X.isi0, X.isi1, X.isi2, X.im0, X.imN, X.enum0, X.enum1, X.enum2, X.enum3, X.zip0, X.zip1, X.zipL, X.zipT, X.lstRg0, X.lc0, X.lc1, X.lc2, X.lcO0, X.lcOo, X.lcOv, X.lcO2, X.callA, X.callB, X.callC, X.callOk, X.callEr, X.bOk, X.bEr, X.qt, X.qtOk, X.kwA, X.kwB, X.kwC, X.lkV, X.lkN, X.lkS, X.lkOv, X.lkOo, X.lks0, X.lks1, X.consO1, X.fzV, X.fzN, X.fzSl, X.agV, X.agN, X.agS, X.agOv, X.agOo, X.ags0, X.ags1, X.consS1, X.ow0, X.owV, X.owN, X.owS, X.owOv, X.owOo, X.nd0, X.nd1, X.bk0, X.bkV, X.bkN, X.bkS, X.bkOo, X.bkOv, X.isV, X.isN, X.fzRv, X.fzRn, fzS, fzR, X.stN, stoT, stosCons, stosNil, setR, Option.bind_some, X.seqL, X.seqT, X.seqLot, X.few0, X.few1, X.few2, X.few3, X.few4, X.few5, X.addN, X.ltN', X.leN', X.gtN', X.geN', X.eqN', X.neN', X.minN, X.maxN, X.lenL, X.lenT, X.lenLot, List.getElem?_cons_zero, List.getElem?_cons_succ, List.set_cons_zero, List.set_cons_succ, List.length_map, List.map_cons, List.map_nil, List.nil_append, List.cons_append, decide_true, decide_false, Bool.not_true, Bool.not_false, Bool.true_and, Bool.and_true, X.rd, X.rkN, X.rkR, X.rkE, X.rr, X.rx, X.rsV, X.rsN, X.rsS, X.rsOv, X.rsOo, X.out0, X.outV, X.outU, X.outO, X.outKo, List.replicate_succ, List.replicate_zero, List.length_cons, List.length_nil, Nat.reduceAdd, Nat.zero_add, wipeE, unw, noOwn, List.all_cons, List.all_nil])
theorem u_box : K72.m__law_box = K75.m__law_box := rfl
theorem u_take : K72.m__law_take = K70.m__law_take := rfl
theorem u_pick : K72.m__law_pick = K70.m__law_pick := rfl
theorem u_lot : K72.m__law_lot = K70.m__law_lot := rfl
theorem u_least : K72.m__law_least = K70.m__law_least := rfl
theorem u_thr : K72.m__law_threshold = K75.m__law_threshold := rfl
theorem u_all : K72.m__law_all = K75.m__law_all := rfl
theorem u_lholds : K72.m__law_holds = K70.m__law_holds := rfl
theorem u_holds : K72.m_lot_holds = K75.m_lot_holds := rfl
theorem u_blk : K72.m_blocker_of = K75.m_blocker_of := rfl
theorem u_lblk : K72.m__law_blocker = K68.m__law_blocker := rfl
theorem u_comp : K72.m_composed_family = K76.m_composed_family := rfl
theorem u_same : ∀ n, K72.m__law_same n = K75.m__law_same n
  | 0 => rfl
  | n + 1 => by
    show runDef 2 2 (K72.b__law_sameM (K72.m__law_same n)) = runDef 2 2 (K75.b__law_sameM (K75.m__law_same n))
    rw [u_same n]
    rfl
theorem take72 {b : List PyData} (h : Bx b) {k : Nat} (hk : 1 ≤ k) (hk2 : k ≤ 1000) : ∃ (t : Nat) (b' : List PyData), t < k ∧ Bx b' ∧ K72.m__law_take [.ow 1 b, .va (nD k)] = some (.ok (.va (nD t), [.ow 1 b', .va (nD k)])) := take_bx h hk hk2
/-! sizes -/
def sz_L1 : En → RM Ot := (sqM (ifM (bM (opM eqG (varM 1) (cM (.int 0)))) bkM nxM)
    (sqM (asgM 4 (opM addG (cM (.int 1)) (callM (quiet K72.m__law_take) (consM (varM 0) (consM (cbM minG (consM (varM 1) (consM (callM (quiet K72.m__law_pick) (consM (varM 0) (consM (lstM (consM (cM (.int 1)) (consM (cM (.int 2)) (consM (cM (.int 3)) (consM (cM (.int 5)) nilM))))) nilM))) nilM))) nilM)))))
    (sqM (appM 2 (varM 4))
    (asgM 1 (opM subG (varM 1) (varM 4))))))
theorem sizes_loop : ∀ (items : List PyData) (left : Nat) (sz : List Nat) (b : List PyData) (x3 x4 : Sl), Bx b → (∀ s ∈ sz, 1 ≤ s) → left + sz.sum ≤ 7 → sz.length ≤ sz.sum →
    ∃ (left' : Nat) (sz' : List Nat) (b' : List PyData) (y3 y4 : Sl), Bx b' ∧ (∀ s ∈ sz', 1 ≤ s) ∧ sz'.sum ≤ 7 ∧ sz.length ≤ sz'.length ∧ (items ≠ [] → left ≠ 0 → sz' ≠ []) ∧
      forL (stoN 3) sz_L1 items [.ow 1 b, .va (nD left), .ow 0 (sz.map nD), x3, x4] = some (.ok (.nx, [.ow 1 b', .va (nD left'), .ow 0 (sz'.map nD), y3, y4]))
  | [], left, sz, b, x3, x4, hb, h1, h7, _ => ⟨left, sz, b, x3, x4, hb, h1, by omega, Nat.le_refl _, fun z => absurd rfl z, rfl⟩
  | it :: items, left, sz, b, x3, x4, hb, h1, h7, hs => by
    rw [X.forC]
    unfold sz_L1
    decreasing_trivial
    by_cases h0 : left = 0
    · rw [decide_eq_true h0]
      decreasing_trivial
      exact ⟨left, sz, b, _, _, hb, h1, by omega, Nat.le_refl _, fun _ z => absurd h0 z, rfl⟩
    · rw [decide_eq_false h0]
      decreasing_trivial
      obtain ⟨x, b1, hx, hb1, e1⟩ := pick_va hb (d := .list [nD 1, nD 2, nD 3, nD 5]) rfl (by decide) (by decide)
      have hx' : ∃ p, 1 ≤ p ∧ p ≤ 5 ∧ x = nD p := by
        simp only [List.mem_cons, List.not_mem_nil, or_false] at hx
        rcases hx with h | h | h | h
        · exact ⟨1, by omega, by omega, h⟩
        · exact ⟨2, by omega, by omega, h⟩
        · exact ⟨3, by omega, by omega, h⟩
        · exact ⟨5, by omega, by omega, h⟩
      obtain ⟨p, p1, p5, rfl⟩ := hx'
      rw [u_pick, e1]
      decreasing_trivial
      obtain ⟨t, b2, ht, hb2, e2⟩ := take72 hb1 (k := min left p) (by omega) (by omega)
      rw [e2]
      decreasing_trivial
      rw [X.fewMap (by omega)]
      decreasing_trivial
      rw [X.subN _ _ (by omega)]
      decreasing_trivial
      have e3 : sz.map nD ++ [nD (1 + t)] = (sz ++ [1 + t]).map nD := by rw [List.map_append]; rfl
      rw [e3]
      have e4 : (sz ++ [1 + t]).sum = sz.sum + (1 + t) := by rw [List.sum_append]; simp
      obtain ⟨l', sz', b', y3, y4, q1, q2, q3, q4, q5, q6⟩ := sizes_loop items (left - (1 + t)) (sz ++ [1 + t]) b2 (.va it) (.va (nD (1 + t))) hb2 (fun s hs => by
        rcases List.mem_append.mp hs with z | z
        · exact h1 s z
        · rw [List.mem_singleton.mp z]; omega) (by rw [e4]; omega) (by rw [e4, List.length_append, List.length_singleton]; omega)
      rw [List.length_append, List.length_singleton] at q4
      refine ⟨l', sz', b', y3, y4, q1, q2, q3, by omega, fun _ _ z => ?_, q6⟩
      rw [z] at q4
      simp at q4
theorem sizes_ok {b : List PyData} (hb : Bx b) : ∃ (sz : List Nat) (b' : List PyData), Bx b' ∧ (∀ s ∈ sz, 1 ≤ s) ∧ sz.sum ≤ 7 ∧ sz ≠ [] ∧ K72.m__law_sizes [.ow 1 b] = some (.ok (.nw (sz.map nD), [.ow 1 b'])) := by
  obtain ⟨t, b1, ht, hb1, e1⟩ := take72 hb (k := 6) (by decide) (by decide)
  obtain ⟨l', sz', b', y3, y4, q1, q2, q3, q4, q5, q6⟩ := sizes_loop ((List.range 7).map nD) (2 + t) [] b1 .un .un hb1 (fun s hs => nomatch hs) (by simp; omega) (Nat.le_refl _)
  refine ⟨sz', b', q1, q2, q3, q5 (by decide) (by omega), ?_⟩
  unfold K72.m__law_sizes K72.b__law_sizesM
  unfold sz_L1 at q6
  decreasing_trivial
  rw [e1]
  decreasing_trivial
  rw [X.rngB' (by decide)]
  decreasing_trivial
  rw [show ([] : List PyData) = ([] : List Nat).map nD from rfl, q6]
  decreasing_trivial
/-! a family over so many houses -/
theorem olots_loop {n : Nat} (h1 : 1 ≤ n) (h2 : n ≤ 1000) {w : Sl} : ∀ (items : List PyData) (acc : List Lot) (b : List PyData), Bx b → (∀ l ∈ acc, GL n l) → ∃ (lots : List Lot) (b' : List PyData), Bx b' ∧ lots.length = acc.length + items.length ∧ (∀ l ∈ lots, GL n l) ∧
    lcL (stoN 3) yesM (callM (quiet K72.m__law_lot) (consM (varM 0) (consM (varM 1) nilM))) [3] items (acc.map lotD) [.ow 1 b, .va (nD n), w, .un] = some (.ok (lots.map lotD, [.ow 1 b', .va (nD n), w, .un]))
  | [], acc, b, hb, ha => ⟨acc, b, hb, rfl, ha, rfl⟩
  | it :: items, acc, b, hb, ha => by
    obtain ⟨l, b1, hb1, hl, e⟩ := lot_ok hb h1 h2
    have hc : callM (quiet K72.m__law_lot) (consM (varM 0) (consM (varM 1) nilM)) [.ow 1 b, .va (nD n), w, .va it] = some (.ok (.va (lotD l), [.ow 1 b1, .va (nD n), w, .va it])) := by
      decreasing_trivial
      rw [u_lot, e]
      decreasing_trivial
    obtain ⟨lots, b', hb', hlen, hg, hrun⟩ := olots_loop h1 h2 (w := w) items (acc ++ [l]) b1 hb1 fun x hx => (List.mem_append.mp hx).elim (ha x) fun q => by rw [List.mem_singleton.mp q]; exact hl
    refine ⟨lots, b', hb', by rw [hlen, List.length_append, List.length_cons]; simp; omega, hg, ?_⟩
    unfold lcL
    dsimp only [stoN, List.set, yesM]
    rw [hc]
    dsimp only [fzR]
    rw [show acc.map lotD ++ [lotD l] = (acc ++ [l]).map lotD by simp]
    exact hrun
theorem over_ok {b : List PyData} (hb : Bx b) {n : Nat} (h1 : 1 ≤ n) (h7 : n ≤ 7) : ∃ (F : List Lot) (b' : List PyData), Bx b' ∧ FamOK n F ∧ K72.m__law_over [.ow 1 b, .va (nD n)] = some (.ok (.va (famD F), [.ow 1 b', .va (nD n)])) := by
  obtain ⟨t, b1, ht, hb1, e1⟩ := take72 hb (k := 3) (by decide) (by decide)
  by_cases h0 : t = 0
  · obtain ⟨q, b2, hq, hb2, e2⟩ := take72 hb1 (k := n) h1 (by omega)
    refine ⟨thrN n (1 + q), b2, hb2, thr_fam h7 (by omega) (by omega), ?_⟩
    unfold K72.m__law_over K72.b__law_overM
    decreasing_trivial
    rw [e1]
    decreasing_trivial
    rw [decide_eq_true h0]
    decreasing_trivial
    rw [e2]
    decreasing_trivial
    rw [u_thr, lthr_ok h7]
    decreasing_trivial
  · obtain ⟨q, b2, hq, hb2, e2⟩ := take72 hb1 (k := 5) (by decide) (by decide)
    obtain ⟨lots, b3, hb3, hlen, hg, hrun⟩ := olots_loop h1 (by omega) (w := .va (nD t)) ((List.range (1 + q)).map nD) [] b2 hb2 fun l hl => nomatch hl
    rw [List.length_map, List.length_range, List.length_nil] at hlen
    have hne : lots ≠ [] := fun z => by rw [z] at hlen; simp at hlen; omega
    have hl : (lleastN lots).length ≤ lots.length := by
      unfold lleastN
      refine Nat.le_trans (List.length_filter_le _ _) ?_
      rw [(isort_perm _).length_eq]
      exact dd_len lots
    refine ⟨lleastN lots, b3, hb3, GF.ok h1 h7 (lleast_ne hg hne) (by omega) (fun l hl => hg l (lleast_mem hl)) (lleast_well fun l hl => (hg l hl).inc), ?_⟩
    unfold K72.m__law_over K72.b__law_overM
    decreasing_trivial
    rw [e1]
    decreasing_trivial
    rw [decide_eq_false h0]
    decreasing_trivial
    rw [e2]
    decreasing_trivial
    rw [X.rngB' (by omega)]
    decreasing_trivial
    rw [X.fewMap (by rw [List.length_range]; omega)]
    decreasing_trivial
    rw [show ([] : List PyData) = ([] : List Lot).map lotD from rfl, hrun]
    decreasing_trivial
    rw [u_least, lleast_ok (lots := lots) (s0 := .va (.list (lots.map lotD))) (.inl rfl) (fun l hl => by have := (hg l hl).len; omega) (by omega)]
    decreasing_trivial
end Fam

namespace Fam
open PySem PySem.Spec PyProof.Rows L2 Pl
local macro_rules | `(tactic| decreasing_trivial) => `(tactic| simp -implicitDefEqProofs only [X.bnd, X.bndE, X.ckt, X.ob1, X.var, X.varV, X.varO, X.cN, X.cB, X.cO, X.cS, X.cNeg, X.op0, X.op1, X.op2, X.op3, X.un0, X.un1, X.un2, X.nil, X.cons0, X.cons1, X.cons2, X.cb0, X.cb1, X.cb2, X.tup0, X.tup1, X.tup2, X.lst0, X.lst1, X.lst2, X.fzA0, X.fzA1, X.fzA2, X.fzA3, X.b0, X.b1, X.not0, X.not1, X.and0, X.andt, X.andf, X.or0, X.ort, X.orf, X.andV0, X.andVt, X.andVf, X.orV0, X.orVt, X.orVf, X.notV0, X.notV1, X.ifX0, X.ifXt, X.ifXf, X.noP, X.part0, X.part1, X.partN, X.sl0, X.sl1, X.sl2, X.sl3, X.sl4, X.seq0, X.seq1, X.seq2, X.sq0, X.sqn, X.sqr, X.sqb, X.sqc, X.if0, X.ift, X.iff, X.asg0, X.asgV, X.asgN, X.asgS, X.asg2, X.nxS, X.unp0, X.unp1, X.unp2, X.ret0, X.ret1, X.retN, X.nx, X.bk, X.ct, X.yes, X.drop0, X.drop1, X.par0, X.par1, X.par2, X.parX0, X.parX1, X.parX2, X.setO1, X.app0, X.appA, X.app1, X.app2, X.app3, X.ext0, X.extA, X.ext1, X.ext2, X.extO0, X.extO1, X.aug0, X.augA, X.augAN, X.aug1, X.aug1N, X.set0, X.set1, X.set2, X.set2b, X.set3, X.set4, X.set4N, X.set5, X.forS, X.forN, X.forO, X.forKn, X.forKc, X.forKb, X.forKr, X.rngA, X.isi0, X.isi1, X.isi2, X.im0, X.imN, X.enum0, X.enum1, X.enum2, X.enum3, X.zip0, X.zip1, X.zipL, X.zipT, X.lstRg0, X.lc0, X.lc1, X.lc2, X.lcO0, X.lcOo, X.lcOv, X.lcO2, X.callA, X.callB, X.callC, X.callOk, X.callEr, X.bOk, X.bEr, X.qt, X.qtOk, X.kwA, X.kwB, X.kwC, X.lkV, X.lkN, X.lkS, X.lkOv, X.lkOo, X.lks0, X.lks1, X.consO1, X.fzV, X.fzN, X.fzSl, X.agV, X.agN, X.agS, X.agOv, X.agOo, X.ags0, X.ags1, X.consS1, X.ow0, X.owV, X.owN, X.owS, X.owOv, X.owOo, X.nd0, X.nd1, X.bk0, X.bkV, X.bkN, X.bkS, X.bkOo, X.bkOv, X.isV, X.isN, X.fzRv, X.fzRn, fzS, fzR, X.stN, stoT, stosCons, stosNil, setR, Option.bind_some, X.seqL, X.seqT, X.seqLot, X.few0, X.few1, X.few2, X.few3, X.few4, X.few5, X.addN, X.ltN', X.leN', X.gtN', X.geN', X.eqN', X.neN', X.minN, X.maxN, X.lenL, X.lenT, X.lenLot, List.getElem?_cons_zero, List.getElem?_cons_succ, List.set_cons_zero, List.set_cons_succ, List.length_map, List.map_cons, List.map_nil, List.nil_append, List.cons_append, decide_true, decide_false, Bool.not_true, Bool.not_false, Bool.true_and, Bool.and_true, X.pk01, X.pk10, X.rd, X.rkN, X.rkR, X.rkE, X.rr, X.rx, X.rsV, X.rsN, X.rsS, X.rsOv, X.rsOo, X.out0, X.outV, X.outU, X.outO, X.outKo, List.replicate_succ, List.replicate_zero, List.length_cons, List.length_nil, Nat.reduceAdd, Nat.zero_add, wipeE, unw, noOwn, List.all_cons, List.all_nil])
section
variable {ds es : List PyData}
theorem addL (h : (ds ++ es).length ≤ 100000) : addG (.list ds) (.list es) = some (.nw (ds ++ es)) := by
  simp only [addG, few_of h]
theorem addT (h : (ds ++ es).length ≤ 100000) : addG (.tuple ds) (.tuple es) = some (.va (.tuple (ds ++ es))) := by
  simp only [addG, few_of h]
theorem addLots (a b : Lot) (h : a.length + b.length ≤ 100000) : addG (lotD a) (lotD b) = some (.va (lotD (a ++ b))) := by
  unfold lotD
  rw [addT (by rw [List.length_append, List.length_map, List.length_map]; exact h), List.map_append]
theorem tupL : tupG [.list ds] = some (.va (.tuple ds)) := rfl
theorem tupT : tupG [.tuple ds] = some (.va (.tuple ds)) := rfl
theorem sortLots (F : List Lot) (h : F.length ≤ 100000) : sortG [.list (F.map lotD)] = some (.nw ((isort leL F).map lotD)) := by
  unfold sortG seqItems
  dsimp only
  rw [few_of (by rw [List.length_map]; exact h), sortOk_lots, sort_lots]
  rfl
theorem ixL {α : Type} (D : α → PyData) (M : List α) {h : Nat} (hh : h < M.length) : ixG (.list (M.map D)) (nD h) = some (.va (D M[h])) := by
  rw [ixG_of (d := .list (M.map D)) (ds := M.map D) rfl (by rw [List.length_map]; exact hh), List.getElem_map]
theorem ixT {α : Type} (D : α → PyData) (M : List α) {h : Nat} (hh : h < M.length) : ixG (.tuple (M.map D)) (nD h) = some (.va (D M[h])) := by
  rw [ixG_of (d := .tuple (M.map D)) (ds := M.map D) rfl (by rw [List.length_map]; exact hh), List.getElem_map]
theorem seqFam (F : List Lot) : seqItems (famD F) = some (F.map lotD) := rfl
theorem seqFamL (F : List Lot) : seqItems (famL F) = some (F.map lotD) := rfl
theorem lcMap {β γ : Type} (D : β → PyData) (E : γ → PyData) (p : β → Bool) (g : β → γ) {i : Nat} {test : En → RM Bool} {elt : En → RM Rv} {ρ0 : En} {l : List β} (h0 : ρ0.set i .un = ρ0)
    (h : ∀ b ∈ l, test (ρ0.set i (.va (D b))) = some (.ok (p b, ρ0.set i (.va (D b)))) ∧ (p b = true → ∃ r, elt (ρ0.set i (.va (D b))) = some (.ok (r, ρ0.set i (.va (D b)))) ∧ fzR r (ρ0.set i (.va (D b))) = some (.ok (E (g b), ρ0.set i (.va (D b)))))) :
    lcL (stoN i) test elt [i] (l.map D) [] ρ0 = some (.ok (((l.filter p).map g).map E, ρ0)) := by
  have := lcL_map D E p g h0 l [] h
  rw [List.nil_append] at this
  exact this
theorem lcAll {β γ : Type} (D : β → PyData) (E : γ → PyData) (g : β → γ) {i : Nat} {elt : En → RM Rv} {ρ0 : En} {l : List β} (h0 : ρ0.set i .un = ρ0)
    (h : ∀ b ∈ l, elt (ρ0.set i (.va (D b))) = some (.ok (.va (E (g b)), ρ0.set i (.va (D b))))) :
    lcL (stoN i) yesM elt [i] (l.map D) [] ρ0 = some (.ok ((l.map g).map E, ρ0)) := by
  have := lcMap D E (fun _ => true) g (test := yesM) h0 fun b hb => ⟨rfl, fun _ => ⟨_, h b hb, rfl⟩⟩
  rw [List.filter_eq_self.mpr (fun _ _ => rfl)] at this
  exact this
end
/-! the law's own composed family -/
def lco_L1 : En → RM Ot := (sqM (appM 2 (lcOM 5 (stoN 7) yesM (cbM tupG (consM (lcM (seqM (varM 7)) (stoN 9) yesM (opM addG (varM 3) (varM 9)) [9]) nilM)) [7]))
    (asgM 3 (opM addG (varM 3) (varM 4))))
def lco_L2 : En → RM Ot := (sqM (asgM 8 (lstM (consM (tupM nilM) nilM)))
    (sqM (Pl.forM (seqM (varM 7)) (stoN 9) (sqM (asgM 10 (lstM nilM))
    (sqM (Pl.forM (seqM (varM 8)) (stoN 11) (asgM 10 (opM addG (varM 10) (lcM (seqM (opM ixG (varM 2) (varM 9))) (stoN 12) yesM (opM addG (varM 11) (varM 12)) [12]))))
    (asgM 8 (varM 10)))))
    (asgM 6 (opM addG (varM 6) (varM 8)))))
def lco_L3 : En → RM Ot := (sqM (asgM 10 (lstM nilM))
    (sqM (Pl.forM (seqM (varM 8)) (stoN 11) (asgM 10 (opM addG (varM 10) (lcM (seqM (opM ixG (varM 2) (varM 9))) (stoN 12) yesM (opM addG (varM 11) (varM 12)) [12]))))
    (asgM 8 (varM 10))))
def lco_L4 : En → RM Ot := (asgM 10 (opM addG (varM 10) (lcM (seqM (opM ixG (varM 2) (varM 9))) (stoN 12) yesM (opM addG (varM 11) (varM 12)) [12])))
theorem lco1 {O W : Sl} : ∀ (I : Inn) (M : List (List Lot)) (a : Nat) (x4 x5 : Sl), (∀ p ∈ I, Sm p.2) → M.length + I.length ≤ 1000 →
    ∃ a' y4 y5, forL (stoT 2 (stosCons (stoN 4) (stosCons (stoN 5) stosNil))) lco_L1 (I.map inD) [O, W, .ow 0 (M.map famL), .va (nD a), x4, x5, .un, .un, .un, .un, .un, .un, .un] = some (.ok (.nx, [O, W, .ow 0 ((M ++ mvN a I).map famL), .va (nD a'), y4, y5, .un, .un, .un, .un, .un, .un, .un]))
  | [], M, a, x4, x5, _, _ => ⟨a, x4, x5, by rw [show mvN a [] = [] from rfl, List.append_nil]; rfl⟩
  | p :: I, M, a, x4, x5, h, hl => by
    rw [List.length_cons] at hl
    have hp := h p List.mem_cons_self
    obtain ⟨a', y4, y5, hr⟩ := lco1 (O := O) (W := W) I (M ++ [p.2.map (shiftL a)]) (a + p.1) (.va (nD p.1)) (.va (famD p.2)) (fun q hq => h q (List.mem_cons_of_mem _ hq)) (by rw [List.length_append, List.length_singleton]; omega)
    refine ⟨a', y4, y5, ?_⟩
    rw [List.map_cons, X.forC]
    rw [show inD p = .tuple [nD p.1, famD p.2] from rfl]
    unfold lco_L1
    unfold lco_L1 at hr
    decreasing_trivial
    rw [seqFam]
    decreasing_trivial
    rw [X.fewMap hp.1]
    decreasing_trivial
    rw [lcAll lotD lotD (shiftL a)]
    · decreasing_trivial
      rw [X.fewMap (by omega)]
      decreasing_trivial
      rw [show M.map famL ++ [PyData.list ((p.2.map (shiftL a)).map lotD)] = (M ++ [p.2.map (shiftL a)]).map famL by rw [List.map_append]; rfl, hr, List.append_assoc]
      rfl
    · rfl
    · intro l hlm
      have := hp.2 l hlm
      decreasing_trivial
      rw [X.fewMap (by omega)]
      decreasing_trivial
      rw [lcAll nD nD (a + ·)]
      · decreasing_trivial
        rw [tupL]
        decreasing_trivial
        rfl
      · rfl
      · intro x _
        decreasing_trivial

theorem getD_at {α : Type} (M : List α) (d : α) {h : Nat} (hh : h < M.length) : M.getD h d = M[h] := by
  rw [List.getD_eq_getElem?_getD, List.getElem?_eq_getElem hh]
  rfl
theorem cross_len (so M : List Lot) : (crossN so M).length = so.length * M.length := by
  unfold crossN
  induction so with
  | nil => simp
  | cons o so ih => rw [List.flatMap_cons, List.length_append, ih, List.length_map, List.length_cons, Nat.succ_mul, Nat.add_comm]
theorem lco4 {O W a x4 x5 x6 x7 x8 : Sl} {M : List (List Lot)} {h : Nat} (hh : h < M.length) (hM : M[h].length ≤ 100) (sM : Short M[h]) : ∀ (so acc : List Lot) (x11 : Sl), Short so → acc.length + so.length * 100 ≤ 100000 →
    ∃ y11, forL (stoN 11) lco_L4 (so.map lotD) [O, W, .ow 0 (M.map famL), a, x4, x5, x6, x7, x8, .va (nD h), .ow 0 (acc.map lotD), x11, .un] = some (.ok (.nx, [O, W, .ow 0 (M.map famL), a, x4, x5, x6, x7, x8, .va (nD h), .ow 0 ((acc ++ crossN so M[h]).map lotD), y11, .un]))
  | [], acc, x11, _, _ => ⟨x11, by rw [show crossN [] M[h] = [] from rfl, List.append_nil]; rfl⟩
  | o :: so, acc, x11, hs, hl => by
    rw [List.length_cons] at hl
    have ho := hs o List.mem_cons_self
    have ec : crossN (o :: so) M[h] = M[h].map (fun two => o ++ two) ++ crossN so M[h] := rfl
    obtain ⟨y11, hr⟩ := lco4 (O := O) (W := W) (a := a) (x4 := x4) (x5 := x5) (x6 := x6) (x7 := x7) (x8 := x8) hh hM sM so (acc ++ M[h].map fun two => o ++ two) (.va (lotD o)) (fun q hq => hs q (List.mem_cons_of_mem _ hq)) (by rw [List.length_append, List.length_map]; omega)
    refine ⟨y11, ?_⟩
    rw [List.map_cons, X.forC]
    unfold lco_L4
    unfold lco_L4 at hr
    decreasing_trivial
    rw [ixL famL M hh]
    decreasing_trivial
    rw [seqFamL]
    decreasing_trivial
    rw [X.fewMap (by omega)]
    decreasing_trivial
    rw [lcAll lotD lotD (fun two => o ++ two)]
    · decreasing_trivial
      rw [addL (by rw [List.length_append, List.length_map, List.length_map, List.length_map]; omega)]
      decreasing_trivial
      rw [← List.map_append, hr, ec, List.append_assoc]
    · rfl
    · intro two ht
      have := sM two ht
      decreasing_trivial
      rw [addLots _ _ (by omega)]
      decreasing_trivial
def Sl8 (s : Sl) (so : List Lot) : Prop := s = .ow 0 (so.map lotD) ∨ s = .va (.list (so.map lotD))
theorem lco3 {O W a x4 x5 x6 x7 : Sl} {M : List (List Lot)} (hM : MOk M) : ∀ (lot : Lot) (so : List Lot) (s8 x9 x10 x11 : Sl), Sl8 s8 so → Bnd M lot so →
    ∃ s8' y9 y10 y11, Sl8 s8' (prodN M lot so) ∧ forL (stoN 9) lco_L3 (lot.map nD) [O, W, .ow 0 (M.map famL), a, x4, x5, x6, x7, s8, x9, x10, x11, .un] = some (.ok (.nx, [O, W, .ow 0 (M.map famL), a, x4, x5, x6, x7, s8', y9, y10, y11, .un]))
  | [], so, s8, x9, x10, x11, h8, _ => ⟨s8, x9, x10, x11, h8, rfl⟩
  | h :: lot, so, s8, x9, x10, x11, h8, ⟨⟨b1, b2, b3⟩, b4⟩ => by
    obtain ⟨m1, m2⟩ := hM h b1
    rw [getD_at M [] b1] at m1 m2 b4
    obtain ⟨y11, h4⟩ := lco4 (O := O) (W := W) (a := a) (x4 := x4) (x5 := x5) (x6 := x6) (x7 := x7) (x8 := .va (.list (so.map lotD))) b1 m1 m2 so [] x11 b2 (by simp; omega)
    rw [List.map_nil, List.nil_append] at h4
    obtain ⟨s8', z9, z10, z11, k8, hr⟩ := lco3 (O := O) (W := W) (a := a) (x4 := x4) (x5 := x5) (x6 := x6) (x7 := x7) hM lot (crossN so M[h]) (.va (.list ((crossN so M[h]).map lotD))) (.va (nD h)) (.va (.list ((crossN so M[h]).map lotD))) y11 (.inr rfl) b4
    refine ⟨s8', z9, z10, z11, by show Sl8 s8' (prodN M lot (crossN so (M.getD h []))); rw [getD_at M [] b1]; exact k8, ?_⟩
    rw [List.map_cons, X.forC]
    unfold lco_L3
    unfold lco_L3 at hr
    unfold lco_L4 at h4
    rcases h8 with rfl | rfl
    · decreasing_trivial
      rw [h4]
      decreasing_trivial
      exact hr
    · decreasing_trivial
      rw [h4]
      decreasing_trivial
      exact hr
theorem lco2 {O W a x4 x5 : Sl} {M : List (List Lot)} (hM : MOk M) : ∀ (ls found : List Lot) (x7 x8 x9 x10 x11 : Sl), (∀ l ∈ ls, Bnd M l [[]]) → (found ++ compN M ls).length ≤ 100000 →
    ∃ y7 y8 y9 y10 y11, forL (stoN 7) lco_L2 (ls.map lotD) [O, W, .ow 0 (M.map famL), a, x4, x5, .ow 0 (found.map lotD), x7, x8, x9, x10, x11, .un] = some (.ok (.nx, [O, W, .ow 0 (M.map famL), a, x4, x5, .ow 0 ((found ++ compN M ls).map lotD), y7, y8, y9, y10, y11, .un]))
  | [], found, x7, x8, x9, x10, x11, _, _ => ⟨x7, x8, x9, x10, x11, by rw [show compN M [] = [] from rfl, List.append_nil]; rfl⟩
  | l :: ls, found, x7, x8, x9, x10, x11, hb, hl => by
    have ec : compN M (l :: ls) = prodN M l [[]] ++ compN M ls := rfl
    rw [ec, ← List.append_assoc] at hl
    have hl1 : (found ++ prodN M l [[]]).length ≤ 100000 := by rw [List.length_append] at hl; omega
    obtain ⟨s8', z9, z10, z11, k8, h3⟩ := lco3 (O := O) (W := W) (a := a) (x4 := x4) (x5 := x5) (x6 := .ow 0 (found.map lotD)) (x7 := .va (lotD l)) hM l [[]] (.ow 0 [.tuple []]) x9 x10 x11 (.inl rfl) (hb l List.mem_cons_self)
    obtain ⟨y7, y8, y9, y10, y11, hr⟩ := lco2 (O := O) (W := W) (a := a) (x4 := x4) (x5 := x5) hM ls (found ++ prodN M l [[]]) (.va (lotD l)) s8' z9 z10 z11 (fun q hq => hb q (List.mem_cons_of_mem _ hq)) hl
    refine ⟨y7, y8, y9, y10, y11, ?_⟩
    rw [List.map_cons, X.forC]
    unfold lco_L2
    unfold lco_L2 at hr
    unfold lco_L3 at h3
    decreasing_trivial
    rw [h3]
    rw [ec, ← List.append_assoc]
    rcases k8 with rfl | rfl
    all_goals
      decreasing_trivial
      rw [addL (by rw [← List.map_append, List.length_map]; exact hl1)]
      decreasing_trivial
      rw [← List.map_append]
      exact hr
theorem lcomp_ok {I : Inn} {outer : List Lot} (hI : InnOK I) (ho : FamOK I.length outer) :
    K72.m__law_composed [.va (famD outer), .va (.tuple (I.map inD))] = some (.ok (.va (famD (compF I outer)), [.va (famD outer), .va (.tuple (I.map inD))])) := by
  obtain ⟨c1, c2, c3⟩ := comp_ap hI ho
  have hlen := sperner_pw (fun l hl => (c2 l hl).1) (fun l hl x hx => Nat.lt_of_lt_of_le ((c2 l hl).2 x hx) hI.tot) c1
  have hn : I.length ≤ 7 := Nat.le_trans (tot_ge hI.fam) hI.tot
  have hM : MOk (mvN 0 I) := fun h hh => by
    rw [mvN_len] at hh
    rw [mvN_at I 0 h hh, List.length_map]
    have F := hI.fam _ (List.getElem_mem hh)
    refine ⟨F.len, fun l hl => ?_⟩
    obtain ⟨f, hf, rfl⟩ := List.mem_map.mp hl
    have := (F.lot f hf).2.1
    unfold shiftL
    rw [List.length_map]
    omega
  obtain ⟨a', y4, y5, h1⟩ := lco1 (O := .va (famD outer)) (W := .va (.tuple (I.map inD))) I [] 0 .un .un (fun p hp => (hI.fam p hp).sm) (by simp; omega)
  rw [List.map_nil, List.nil_append] at h1
  obtain ⟨y7, y8, y9, y10, y11, h2⟩ := lco2 (O := .va (famD outer)) (W := .va (.tuple (I.map inD))) (a := .va (nD a')) (x4 := y4) (x5 := y5) hM outer [] .un .un .un .un .un c3 (by rw [List.nil_append]; omega)
  rw [List.map_nil, List.nil_append] at h2
  unfold K72.m__law_composed K72.b__law_composedM
  unfold lco_L1 at h1
  unfold lco_L2 at h2
  decreasing_trivial
  rw [h1]
  decreasing_trivial
  rw [seqFam]
  decreasing_trivial
  rw [h2]
  decreasing_trivial
  rw [sortLots _ (by omega)]
  decreasing_trivial
  rw [tupL]
  decreasing_trivial
  rfl
theorem comp72 {I : Inn} {outer : List Lot} (hI : InnOK I) (ho : FamOK I.length outer) :
    K72.m_composed_family [.va (famD outer), .va (.tuple (I.map inD))] = some (.ok (.va (famD (compF I outer)), [.va (famD outer), .va (.tuple (I.map inD))])) := by
  obtain ⟨c1, c2, c3⟩ := comp_ap hI ho
  have hlen := sperner_pw (fun l hl => (c2 l hl).1) (fun l hl x hx => Nat.lt_of_lt_of_le ((c2 l hl).2 x hx) hI.tot) c1
  have hn : I.length ≤ 7 := Nat.le_trans (tot_ge hI.fam) hI.tot
  have hM : MOk (mvN 0 I) := fun h hh => by
    rw [mvN_len] at hh
    rw [mvN_at I 0 h hh, List.length_map]
    have F := hI.fam _ (List.getElem_mem hh)
    refine ⟨F.len, fun l hl => ?_⟩
    obtain ⟨f, hf, rfl⟩ := List.mem_map.mp hl
    have := (F.lot f hf).2.1
    unfold shiftL
    rw [List.length_map]
    omega
  rw [u_comp]
  exact comp_ok (fun p hp => (hI.fam p hp).sm) (by omega) hM c3 (by omega)

end Fam

namespace Fam
open PySem PySem.Spec PyProof.Rows L2 Pl
local macro_rules | `(tactic| decreasing_trivial) => `(tactic| simp -implicitDefEqProofs only [X.bnd, X.bndE, X.ckt, X.ob1, X.var, X.varV, X.varO, X.cN, X.cB, X.cO, X.cS, X.cNeg, X.op0, X.op1, X.op2, X.op3, X.un0, X.un1, X.un2, X.nil, X.cons0, X.cons1, X.cons2, X.cb0, X.cb1, X.cb2, X.tup0, X.tup1, X.tup2, X.lst0, X.lst1, X.lst2, X.fzA0, X.fzA1, X.fzA2, X.fzA3, X.b0, X.b1, X.not0, X.not1, X.and0, X.andt, X.andf, X.or0, X.ort, X.orf, X.andV0, X.andVt, X.andVf, X.orV0, X.orVt, X.orVf, X.notV0, X.notV1, X.ifX0, X.ifXt, X.ifXf, X.noP, X.part0, X.part1, X.partN, X.sl0, X.sl1, X.sl2, X.sl3, X.sl4, X.seq0, X.seq1, X.seq2, X.sq0, X.sqn, X.sqr, X.sqb, X.sqc, X.if0, X.ift, X.iff, X.asg0, X.asgV, X.asgN, X.asgS, X.asg2, X.nxS, X.unp0, X.unp1, X.unp2, X.ret0, X.ret1, X.retN, X.nx, X.bk, X.ct, X.yes, X.drop0, X.drop1, X.par0, X.par1, X.par2, X.parX0, X.parX1, X.parX2, X.setO1, X.app0, X.appA, X.app1, X.app2, X.app3, X.ext0, X.extA, X.ext1, X.ext2, X.extO0, X.extO1, X.aug0, X.augA, X.augAN, X.aug1, X.aug1N, X.set0, X.set1, X.set2, X.set2b, X.set3, X.set4, X.set4N, X.set5, X.forS, X.forN, X.forO, X.forKn, X.forKc, X.forKb, X.forKr, X.rngA, X.isi0, X.isi1, X.isi2, X.im0, X.imN, X.enum0, X.enum1, X.enum2, X.enum3, X.zip0, X.zip1, X.zipL, X.zipT, X.lstRg0, X.lc0, X.lc1, X.lc2, X.lcO0, X.lcOo, X.lcOv, X.lcO2, X.callA, X.callB, X.callC, X.callOk, X.callEr, X.bOk, X.bEr, X.qt, X.qtOk, X.kwA, X.kwB, X.kwC, X.lkV, X.lkN, X.lkS, X.lkOv, X.lkOo, X.lks0, X.lks1, X.consO1, X.fzV, X.fzN, X.fzSl, X.agV, X.agN, X.agS, X.agOv, X.agOo, X.ags0, X.ags1, X.consS1, X.ow0, X.owV, X.owN, X.owS, X.owOv, X.owOo, X.nd0, X.nd1, X.bk0, X.bkV, X.bkN, X.bkS, X.bkOo, X.bkOv, X.isV, X.isN, X.fzRv, X.fzRn, fzS, fzR, X.stN, stoT, stosCons, stosNil, setR, Option.bind_some, X.seqL, X.seqT, X.seqLot, X.few0, X.few1, X.few2, X.few3, X.few4, X.few5, X.addN, X.ltN', X.leN', X.gtN', X.geN', X.eqN', X.neN', X.minN, X.maxN, X.lenL, X.lenT, X.lenLot, List.getElem?_cons_zero, List.getElem?_cons_succ, List.set_cons_zero, List.set_cons_succ, List.length_map, List.map_cons, List.map_nil, List.nil_append, List.cons_append, decide_true, decide_false, Bool.not_true, Bool.not_false, Bool.true_and, Bool.and_true, X.pk01, X.pk10, X.rd, X.rkN, X.rkR, X.rkE, X.rr, X.rx, X.rsV, X.rsN, X.rsS, X.rsOv, X.rsOo, X.out0, X.outV, X.outU, X.outO, X.outKo, List.replicate_succ, List.replicate_zero, List.length_cons, List.length_nil, Nat.reduceAdd, Nat.zero_add, wipeE, unw, noOwn, List.all_cons, List.all_nil])
/-! which houses of the outer family are held -/
section
variable {β γ : Type} {sto : Sto} {elt : En → RM Rv} {vs : List Nat} {ρ0 ρ1 ρ4 : En} {d e : PyData} {ds acc : List PyData}
theorem lcStep (h1 : sto d ρ0 = some ρ1) (h2 : elt ρ1 = some (.ok (.va e, ρ4))) : lcL sto yesM elt vs (d :: ds) acc ρ0 = lcL sto yesM elt vs ds (acc ++ [e]) (wipeE ρ4 vs) := by
  conv => lhs; unfold lcL
  rw [h1]
  dsimp only [yesM]
  rw [h2]
  rfl
theorem lcGenA (D : β → PyData) (E : γ → PyData) (g : β → γ) : ∀ (l : List β) (acc : List γ), (∀ b ∈ l, ∃ ρ1 ρ4, sto (D b) ρ0 = some ρ1 ∧ elt ρ1 = some (.ok (.va (E (g b)), ρ4)) ∧ wipeE ρ4 vs = ρ0) →
    lcL sto yesM elt vs (l.map D) (acc.map E) ρ0 = some (.ok ((acc ++ l.map g).map E, ρ0))
  | [], acc, _ => by simp [lcL]
  | b :: l, acc, h => by
    obtain ⟨ρ1, ρ4, q1, q2, q3⟩ := h b List.mem_cons_self
    rw [List.map_cons, lcStep q1 q2, q3]
    have := lcGenA D E g l (acc ++ [g b]) fun x hx => h x (List.mem_cons_of_mem _ hx)
    rw [List.map_append] at this
    rw [show [E (g b)] = [g b].map E from rfl, this, List.append_assoc]
    rfl
theorem lcGen (D : β → PyData) (E : γ → PyData) (g : β → γ) {l : List β} (h : ∀ b ∈ l, ∃ ρ1 ρ4, sto (D b) ρ0 = some ρ1 ∧ elt ρ1 = some (.ok (.va (E (g b)), ρ4)) ∧ wipeE ρ4 vs = ρ0) :
    lcL sto yesM elt vs (l.map D) [] ρ0 = some (.ok ((l.map g).map E, ρ0)) := by
  have := lcGenA D E g l [] h
  rw [List.nil_append] at this
  exact this
end
theorem pick01 {α : Type} (a b : α) : pickC 0 2 [0, 1] [] [a, b] = [a, b] := rfl
theorem pick10 {α : Type} (a b : α) : pickC 0 2 [1, 0] [] [a, b] = [b, a] := rfl
def ph_L1 : En → RM Ot := (sqM (asgM 7 (cbM tupG (consM (lcOM 1 (stoN 8) (Pl.andM (bM (opM geG (varM 8) (varM 3))) (bM (opM ltG (varM 8) (opM addG (varM 3) (varM 5))))) (opM subG (varM 8) (varM 3)) [8]) nilM)))
    (sqM (ifM (bM (callM (quiet K72.m__law_holds) (consM (varM 6) (consM (varM 7) nilM)))) (appM 2 (varM 4)) nxM)
    (asgM 3 (opM addG (varM 3) (varM 5)))))
def plN : Nat → Nat → Inn → Lot → List Nat
  | _, _, [], _ => []
  | a, h, p :: r, l => (bif holdsN p.2 (partN a p.1 l) then [h] else []) ++ plN (a + p.1) (h + 1) r l
theorem pl_mem (l : Lot) : ∀ (I : Inn) (a h x : Nat), x ∈ plN a h I l ↔ ∃ (i : Nat) (hi : i < I.length), x = h + i ∧ holdsN I[i].2 (partN (loI a I i) I[i].1 l) = true
  | [], a, h, x => ⟨fun q => (nomatch q), fun ⟨i, hi, _⟩ => absurd hi (Nat.not_lt_zero i)⟩
  | p :: r, a, h, x => by
    unfold plN
    rw [List.mem_append, pl_mem l r]
    constructor
    · rintro (q | ⟨i, hi, e, q⟩)
      · cases e : holdsN p.2 (partN a p.1 l) with
        | false => rw [e] at q; cases q
        | true =>
          rw [e] at q
          exact ⟨0, Nat.succ_pos _, List.mem_singleton.mp q, e⟩
      · exact ⟨i + 1, Nat.succ_lt_succ hi, by omega, q⟩
    · rintro ⟨i, hi, e, q⟩
      cases i with
      | zero =>
        left
        have q' : holdsN p.2 (partN a p.1 l) = true := q
        rw [q']
        exact List.mem_singleton.mpr e
      | succ i => exact .inr ⟨i, Nat.lt_of_succ_lt_succ hi, by omega, q⟩
theorem pl_places {I : Inn} (hI : InnOK I) (l : Lot) (x : Nat) : x ∈ plN 0 0 I l ↔ x ∈ placesN I l := by
  rw [pl_mem]
  unfold placesN
  rw [List.mem_filter, List.mem_range]
  constructor
  · rintro ⟨i, hi, e, q⟩
    have e' : x = i := by omega
    subst e'
    refine ⟨hi, ?_⟩
    rw [mvN_at I 0 x hi, shift_holds (k := I[x].1) (fun f hf => ((hI.fam _ (List.getElem_mem hi)).lot f hf).2.2)]
    exact q
  · rintro ⟨hi, q⟩
    refine ⟨x, hi, by omega, ?_⟩
    rw [mvN_at I 0 x hi, shift_holds (k := I[x].1) (fun f hf => ((hI.fam _ (List.getElem_mem hi)).lot f hf).2.2)] at q
    exact q
theorem ph_loop {W : Sl} {l : Lot} (hl : l.length ≤ 1000) : ∀ (I : Inn) (acc : List Nat) (a h : Nat) (x4 x5 x6 x7 : Sl), (∀ p ∈ I, FamOK p.1 p.2) → acc.length + I.length ≤ 1000 →
    ∃ a' y4 y5 y6 y7, forL (stoT 2 (stosCons (stoN 4) (stosCons (stoT 2 (stosCons (stoN 5) (stosCons (stoN 6) stosNil))) stosNil))) ph_L1 (enumI (I.map inD) h) [W, .va (lotD l), .ow 0 (acc.map nD), .va (nD a), x4, x5, x6, x7, .un] =
      some (.ok (.nx, [W, .va (lotD l), .ow 0 ((acc ++ plN a h I l).map nD), .va (nD a'), y4, y5, y6, y7, .un]))
  | [], acc, a, h, x4, x5, x6, x7, _, _ => ⟨a, x4, x5, x6, x7, by rw [show plN a h [] l = [] from rfl, List.append_nil]; rfl⟩
  | p :: I, acc, a, h, x4, x5, x6, x7, hI, hn => by
    rw [List.length_cons] at hn
    have hp := hI p List.mem_cons_self
    obtain ⟨a', y4, y5, y6, y7, hr⟩ := ph_loop (W := W) hl I (acc ++ (bif holdsN p.2 (partN a p.1 l) then [h] else [])) (a + p.1) (h + 1) (.va (nD h)) (.va (nD p.1)) (.va (famD p.2)) (.va (lotD (partN a p.1 l))) (fun q hq => hI q (List.mem_cons_of_mem _ hq)) (by
      rw [List.length_append]
      cases holdsN p.2 (partN a p.1 l) <;> simp <;> omega)
    refine ⟨a', y4, y5, y6, y7, ?_⟩
    rw [List.map_cons, show enumI (inD p :: I.map inD) h = .tuple [nD h, .tuple [nD p.1, famD p.2]] :: enumI (I.map inD) (h + 1) from rfl, X.forC]
    unfold ph_L1
    unfold ph_L1 at hr
    decreasing_trivial
    rw [X.fewMap (by omega)]
    decreasing_trivial
    rw [lcMap nD nD (fun x => Nat.ble a x && Nat.blt x (a + p.1)) (fun x => x - a)]
    · decreasing_trivial
      rw [tupL]
      decreasing_trivial
      rw [show PyData.tuple (List.map nD (List.map (fun x => x - a) (List.filter (fun x => Nat.ble a x && Nat.blt x (a + p.1)) l))) = lotD (partN a p.1 l) from rfl]
      rw [u_lholds, lholds_ok _ rfl hp.sm.2]
      decreasing_trivial
      rw [show plN a h (p :: I) l = (bif holdsN p.2 (partN a p.1 l) then [h] else []) ++ plN (a + p.1) (h + 1) I l from rfl, ← List.append_assoc]
      cases e : holdsN p.2 (partN a p.1 l) with
      | true =>
        rw [e] at hr
        decreasing_trivial
        rw [X.fewMap (by omega)]
        decreasing_trivial
        rw [show acc.map nD ++ [nD h] = (acc ++ [h]).map nD by rw [List.map_append]; rfl]
        exact hr
      | false =>
        rw [e] at hr
        decreasing_trivial
        rw [show (bif false then [h] else []) = ([] : List Nat) from rfl, List.append_nil] at hr
        rw [show (bif false then [h] else []) = ([] : List Nat) from rfl, List.append_nil]
        exact hr
    · rfl
    · intro x _
      decreasing_trivial
      by_cases h1 : a ≤ x
      · rw [decide_eq_true h1, Nat.ble_eq_true_of_le h1]
        decreasing_trivial
        refine ⟨?_, fun _ => ?_⟩
        · congr 3
          by_cases h2 : x < a + p.1
          · rw [decide_eq_true h2, (Nat.blt_eq (x := x) (y := a + p.1)).mpr h2]
          · rw [decide_eq_false h2]
            cases e : Nat.blt x (a + p.1) with
            | false => rfl
            | true => exact absurd ((Nat.blt_eq (x := x) (y := a + p.1)).mp e) h2
        · refine ⟨.va (nD (x - a)), ?_, rfl⟩
          rw [X.subN _ _ h1]
          decreasing_trivial
      · rw [decide_eq_false h1]
        have : Nat.ble a x = false := by
          cases e : Nat.ble a x with
          | false => rfl
          | true => exact absurd (Nat.le_of_ble_eq_true e) h1
        rw [this]
        decreasing_trivial
        exact ⟨rfl, fun z => nomatch z⟩
theorem parts_ok {I : Inn} (hI : InnOK I) {l : Lot} (hl : l.length ≤ 1000) : K72.m__law_parts_held [.va (.tuple (I.map inD)), .va (lotD l)] = some (.ok (.va (lotD (plN 0 0 I l)), [.va (.tuple (I.map inD)), .va (lotD l)])) := by
  have hn : I.length ≤ 7 := Nat.le_trans (tot_ge hI.fam) hI.tot
  obtain ⟨a', y4, y5, y6, y7, h1⟩ := ph_loop (W := .va (.tuple (I.map inD))) hl I [] 0 0 .un .un .un .un hI.fam (by simp; omega)
  rw [List.map_nil, List.nil_append] at h1
  unfold K72.m__law_parts_held K72.b__law_parts_heldM
  unfold ph_L1 at h1
  decreasing_trivial
  rw [h1]
  decreasing_trivial
  rw [tupL]
  decreasing_trivial
  rfl

end Fam

namespace Fam
open PySem PySem.Spec PyProof.Rows L2 Pl
local macro_rules | `(tactic| decreasing_trivial) => `(tactic| simp -implicitDefEqProofs only [X.bnd, X.bndE, X.ckt, X.ob1, X.var, X.varV, X.varO, X.cN, X.cB, X.cO, X.cS, X.cNeg, X.op0, X.op1, X.op2, X.op3, X.un0, X.un1, X.un2, X.nil, X.cons0, X.cons1, X.cons2, X.cb0, X.cb1, X.cb2, X.tup0, X.tup1, X.tup2, X.lst0, X.lst1, X.lst2, X.fzA0, X.fzA1, X.fzA2, X.fzA3, X.b0, X.b1, X.not0, X.not1, X.and0, X.andt, X.andf, X.or0, X.ort, X.orf, X.andV0, X.andVt, X.andVf, X.orV0, X.orVt, X.orVf, X.notV0, X.notV1, X.ifX0, X.ifXt, X.ifXf, X.noP, X.part0, X.part1, X.partN, X.sl0, X.sl1, X.sl2, X.sl3, X.sl4, X.seq0, X.seq1, X.seq2, X.sq0, X.sqn, X.sqr, X.sqb, X.sqc, X.if0, X.ift, X.iff, X.asg0, X.asgV, X.asgN, X.asgS, X.asg2, X.nxS, X.unp0, X.unp1, X.unp2, X.ret0, X.ret1, X.retN, X.nx, X.bk, X.ct, X.yes, X.drop0, X.drop1, X.par0, X.par1, X.par2, X.parX0, X.parX1, X.parX2, X.setO1, X.app0, X.appA, X.app1, X.app2, X.app3, X.ext0, X.extA, X.ext1, X.ext2, X.extO0, X.extO1, X.aug0, X.augA, X.augAN, X.aug1, X.aug1N, X.set0, X.set1, X.set2, X.set2b, X.set3, X.set4, X.set4N, X.set5, X.forS, X.forN, X.forO, X.forKn, X.forKc, X.forKb, X.forKr, X.rngA, X.isi0, X.isi1, X.isi2, X.im0, X.imN, X.enum0, X.enum1, X.enum2, X.enum3, X.zip0, X.zip1, X.zipL, X.zipT, X.lstRg0, X.lc0, X.lc1, X.lc2, X.lcO0, X.lcOo, X.lcOv, X.lcO2, X.callA, X.callB, X.callC, X.callOk, X.callEr, X.bOk, X.bEr, X.qt, X.qtOk, X.kwA, X.kwB, X.kwC, X.lkV, X.lkN, X.lkS, X.lkOv, X.lkOo, X.lks0, X.lks1, X.consO1, X.fzV, X.fzN, X.fzSl, X.agV, X.agN, X.agS, X.agOv, X.agOo, X.ags0, X.ags1, X.consS1, X.ow0, X.owV, X.owN, X.owS, X.owOv, X.owOo, X.nd0, X.nd1, X.bk0, X.bkV, X.bkN, X.bkS, X.bkOo, X.bkOv, X.isV, X.isN, X.fzRv, X.fzRn, fzS, fzR, X.stN, stoT, stosCons, stosNil, setR, Option.bind_some, X.seqL, X.seqT, X.seqLot, X.few0, X.few1, X.few2, X.few3, X.few4, X.few5, X.addN, X.ltN', X.leN', X.gtN', X.geN', X.eqN', X.neN', X.minN, X.maxN, X.lenL, X.lenT, X.lenLot, List.getElem?_cons_zero, List.getElem?_cons_succ, List.set_cons_zero, List.set_cons_succ, List.length_map, List.map_cons, List.map_nil, List.nil_append, List.cons_append, decide_true, decide_false, Bool.not_true, Bool.not_false, Bool.true_and, Bool.and_true, X.pk01, X.pk10, X.rd, X.rkN, X.rkR, X.rkE, X.rr, X.rx, X.rsV, X.rsN, X.rsS, X.rsOv, X.rsOo, X.out0, X.outV, X.outU, X.outO, X.outKo, List.replicate_succ, List.replicate_zero, List.length_cons, List.length_nil, Nat.reduceAdd, Nat.zero_add, wipeE, unw, noOwn, List.all_cons, List.all_nil])
theorem same72 (F : List Lot) : K72.m__law_same 6 [.va (famD F), .va (famD F)] = some (.ok (.va (.bool true), [.va (famD F), .va (famD F)])) := by
  rw [u_same]
  exact same_fam F
theorem same72b (b : Bool) : K72.m__law_same 6 [.va (.bool b), .va (.bool b)] = some (.ok (.va (.bool true), [.va (.bool b), .va (.bool b)])) := by
  rw [u_same]
  exact same_bool 5 b
theorem sumN (l : List Nat) : sumG [.list (l.map nD)] = some (.va (nD l.sum)) := by
  simp only [sumG, intsD_nat]
  show some (Rv.va (.int (l.map Int.ofNat).sum)) = _
  rw [sum_nat]
  rfl
/-! the inner families -/
theorem inn_loop {S K s4 s5 s6 s7 s8 s9 s10 s11 s13 : Sl} : ∀ (sz : List Nat) (acc : Inn) (b : List PyData), Bx b → (∀ s ∈ sz, 1 ≤ s ∧ s ≤ 7) → (∀ p ∈ acc, FamOK p.1 p.2) →
    ∃ (I : Inn) (b' : List PyData), Bx b' ∧ I.map Prod.fst = acc.map Prod.fst ++ sz ∧ (∀ p ∈ I, FamOK p.1 p.2) ∧
      lcL (stoN 12) yesM (tupM (consM (varM 12) (consM (callM (quiet K72.m__law_over) (consM (varM 2) (consM (varM 12) nilM))) nilM))) [12] (sz.map nD) (acc.map inD) [S, K, .ow 0 b, .un, s4, s5, s6, s7, s8, s9, s10, s11, .un, s13] =
        some (.ok (I.map inD, [S, K, .ow 0 b', .un, s4, s5, s6, s7, s8, s9, s10, s11, .un, s13]))
  | [], acc, b, hb, _, ha => ⟨acc, b, hb, by rw [List.append_nil], ha, rfl⟩
  | s :: sz, acc, b, hb, h, ha => by
    obtain ⟨q1, q2⟩ := h s List.mem_cons_self
    obtain ⟨F, b1, hb1, hF, e⟩ := over_ok hb q1 q2
    obtain ⟨I, b', p1, p2, p3, p4⟩ := inn_loop (S := S) (K := K) (s4 := s4) (s5 := s5) (s6 := s6) (s7 := s7) (s8 := s8) (s9 := s9) (s10 := s10) (s11 := s11) (s13 := s13) sz (acc ++ [(s, F)]) b1 hb1 (fun x hx => h x (List.mem_cons_of_mem _ hx)) fun p hp => (List.mem_append.mp hp).elim (ha p) fun z => by rw [List.mem_singleton.mp z]; exact hF
    refine ⟨I, b', p1, by rw [p2, List.map_append, List.append_assoc]; rfl, p3, ?_⟩
    rw [List.map_cons, lcStep (ρ1 := [S, K, .ow 0 b, .un, s4, s5, s6, s7, s8, s9, s10, s11, .va (nD s), s13]) (e := inD (s, F)) (ρ4 := [S, K, .ow 0 b1, .un, s4, s5, s6, s7, s8, s9, s10, s11, .va (nD s), s13]) rfl]
    · rw [show acc.map inD ++ [inD (s, F)] = (acc ++ [(s, F)]).map inD by rw [List.map_append]; rfl]
      exact p4
    · decreasing_trivial
      rw [e]
      decreasing_trivial
      rfl
def dualI (I : Inn) : Inn := I.map fun p => (p.1, isort leL (forceN p.1 p.2))
theorem dual_ok {I : Inn} (h : ∀ p ∈ I, FamOK p.1 p.2) : Duals I (dualI I) := by
  refine ⟨List.length_map _, fun i h1 h2 => ?_⟩
  have e : (dualI I)[i] = (I[i].1, isort leL (forceN I[i].1 I[i].2)) := List.getElem_map (fun p : Nat × List Lot => (p.1, isort leL (forceN p.1 p.2)))
  rw [e]
  refine ⟨rfl, ?_⟩
  obtain ⟨B, hB⟩ := (h _ (List.getElem_mem h1)).blk
  rw [hB.force]
  exact hB

end Fam

namespace Fam
open PySem PySem.Spec PyProof.Rows L2 Pl
local macro_rules | `(tactic| decreasing_trivial) => `(tactic| (try simp -implicitDefEqProofs only [X.bnd, X.bndE, X.ckt, X.ob1, X.var, X.varV, X.varO, X.cN, X.cB, X.cO, X.cS, X.cNeg, X.op0, X.op1, X.op2, X.op3, X.un0, X.un1, X.un2, X.nil, X.cons0, X.cons1, X.cons2, X.cb0, X.cb1, X.cb2, X.tup0, X.tup1, X.tup2, X.lst0, X.lst1, X.lst2, X.fzA0, X.fzA1, X.fzA2, X.fzA3, X.b0, X.b1, X.not0, X.not1, X.and0, X.andt, X.andf, X.or0, X.ort, X.orf, X.andV0, X.andVt, X.andVf, X.orV0, X.orVt, X.orVf, X.notV0, X.notV1, X.ifX0, X.ifXt, X.ifXf, X.noP, X.part0, X.part1, X.partN, X.sl0, X.sl1, X.sl2, X.sl3, X.sl4, X.seq0, X.seq1, X.seq2, X.sq0, X.sqn, X.sqr, X.sqb, X.sqc, X.if0, X.ift, X.iff, X.asg0, X.asgV, X.asgN, X.asgS, X.asg2, X.nxS, X.unp0, X.unp1, X.unp2, X.ret0, X.ret1, X.retN, X.nx, X.bk, X.ct, X.yes, X.drop0, X.drop1, X.par0, X.par1, X.par2, X.parX0, X.parX1, X.parX2, X.setO1, X.app0, X.appA, X.app1, X.app2, X.app3, X.ext0, X.extA, X.ext1, X.ext2, X.extO0, X.extO1, X.aug0, X.augA, X.augAN, X.aug1, X.aug1N, X.set0, X.set1, X.set2, X.set2b, X.set3, X.set4, X.set4N, X.set5, X.forS, X.forN, X.forO, X.forKn, X.forKc, X.forKb, X.forKr, X.rngA, X.isi0, X.isi1, X.isi2, X.im0, X.imN, X.enum0, X.enum1, X.enum2, X.enum3, X.zip0, X.zip1, X.zipL, X.zipT, X.lstRg0, X.lc0, X.lc1, X.lc2, X.lcO0, X.lcOo, X.lcOv, X.lcO2, X.callA, X.callB, X.callC, X.callOk, X.callEr, X.bOk, X.bEr, X.qt, X.qtOk, X.kwA, X.kwB, X.kwC, X.lkV, X.lkN, X.lkS, X.lkOv, X.lkOo, X.lks0, X.lks1, X.consO1, X.fzV, X.fzN, X.fzSl, X.agV, X.agN, X.agS, X.agOv, X.agOo, X.ags0, X.ags1, X.consS1, X.ow0, X.owV, X.owN, X.owS, X.owOv, X.owOo, X.nd0, X.nd1, X.bk0, X.bkV, X.bkN, X.bkS, X.bkOo, X.bkOv, X.isV, X.isN, X.fzRv, X.fzRn, fzS, fzR, X.stN, stoT, stosCons, stosNil, setR, Option.bind_some, X.seqL, X.seqT, X.seqLot, X.few0, X.few1, X.few2, X.few3, X.few4, X.few5, X.addN, X.ltN', X.leN', X.gtN', X.geN', X.eqN', X.neN', X.minN, X.maxN, X.lenL, X.lenT, X.lenLot, List.getElem?_cons_zero, List.getElem?_cons_succ, List.set_cons_zero, List.set_cons_succ, List.length_map, List.map_cons, List.map_nil, List.nil_append, List.cons_append, decide_true, decide_false, Bool.not_true, Bool.not_false, Bool.true_and, Bool.and_true, X.pk01, X.pk10, X.rd, X.rkN, X.rkR, X.rkE, X.rr, X.rx, X.rsV, X.rsN, X.rsS, X.rsOv, X.rsOo, X.out0, X.outV, X.outU, X.outO, X.outKo, List.replicate_succ, List.replicate_zero, List.length_cons, List.length_nil, Nat.reduceAdd, Nat.zero_add, wipeE, unw, noOwn, List.all_cons, List.all_nil]))
theorem sum_ge : ∀ (l : List Nat) (s : Nat), s ∈ l → s ≤ l.sum
  | x :: l, s, h => by
    rw [List.sum_cons]
    rcases List.mem_cons.mp h with e | q
    · omega
    · have := sum_ge l s q
      omega
def l72_L1 : En → RM Ot := (sqM (asgM 2 (callM (quiet K72.m__law_box) (consM (varM 0) (consM (varM 1) nilM))))
    (sqM (asgM 3 (callM (quiet K72.m__law_sizes) (consM (varM 2) nilM)))
    (sqM (asgM 4 (callM (quiet K72.m__law_over) (consM (varM 2) (consM (cbM lenG (consM (varM 3) nilM)) nilM))))
    (sqM (asgM 5 (cbM tupG (consM (lcOM 3 (stoN 12) yesM (tupM (consM (varM 12) (consM (callM (quiet K72.m__law_over) (consM (varM 2) (consM (varM 12) nilM))) nilM))) [12]) nilM)))
    (sqM (parM 6 7 (consM (callM (quiet K72.m__law_composed) (consM (varM 4) (consM (varM 5) nilM))) (consM (cbM sumG (consM (varM 3) nilM)) nilM)))
    (sqM (ifM (Pl.notM (bM (callM (quiet (K72.m__law_same 6)) (consM (callM (quiet K72.m_composed_family) (consM (varM 4) (consM (varM 5) nilM))) (consM (varM 6) nilM))))) (retM (cM (.bool false))) nxM)
    (sqM (asgM 8 (cbM tupG (consM (lcOM 5 (stoT 2 (stosCons (stoN 12) (stosCons (stoN 13) stosNil))) yesM (tupM (consM (varM 12) (consM (callM (quiet K72.m_blocker_of) (consM (varM 13) (consM (varM 12) nilM))) nilM))) [12, 13]) nilM)))
    (sqM (asgM 9 (callM (quiet K72.m_blocker_of) (consM (callKM (quiet K72.m_composed_family) 0 2 [0, 1] nilM (consM (varM 4) (consM (varM 5) nilM))) (consM (varM 7) nilM))))
    (sqM (ifM (Pl.notM (bM (callM (quiet (K72.m__law_same 6)) (consM (varM 9) (consM (callM (quiet K72.m_composed_family) (consM (callM (quiet K72.m_blocker_of) (consM (varM 4) (consM (cbM lenG (consM (varM 3) nilM)) nilM))) (consM (varM 8) nilM))) nilM))))) (retM (cM (.bool false))) nxM)
    (sqM (asgM 10 (cbM tupG (consM (lcOM 5 (stoT 2 (stosCons (stoN 12) (stosCons (stoN 13) stosNil))) yesM (tupM (consM (varM 12) (consM (callM (quiet K72.m__law_blocker) (consM (varM 13) (consM (varM 12) nilM))) nilM))) [12, 13]) nilM)))
    (sqM (ifM (Pl.notM (bM (callM (quiet (K72.m__law_same 6)) (consM (varM 9) (consM (callM (quiet K72.m__law_composed) (consM (callM (quiet K72.m__law_blocker) (consM (varM 4) (consM (cbM lenG (consM (varM 3) nilM)) nilM))) (consM (varM 10) nilM))) nilM))))) (retM (cM (.bool false))) nxM)
    (Pl.forM (seqM (callM (quiet K72.m__law_all) (consM (varM 7) nilM))) (stoN 11) (ifM (Pl.notM (bM (callM (quiet (K72.m__law_same 6)) (consM (callM (quiet K72.m_lot_holds) (consM (varM 6) (consM (varM 11) nilM))) (consM (callM (quiet K72.m__law_holds) (consM (varM 4) (consM (callM (quiet K72.m__law_parts_held) (consM (varM 5) (consM (varM 11) nilM))) nilM))) nilM))))) (retM (cM (.bool false))) nxM)))))))))))))
def l72_L2 : En → RM Ot := (ifM (Pl.notM (bM (callM (quiet (K72.m__law_same 6)) (consM (callM (quiet K72.m_lot_holds) (consM (varM 6) (consM (varM 11) nilM))) (consM (callM (quiet K72.m__law_holds) (consM (varM 4) (consM (callM (quiet K72.m__law_parts_held) (consM (varM 5) (consM (varM 11) nilM))) nilM))) nilM))))) (retM (cM (.bool false))) nxM)
theorem l72_in {S K b sz : Sl} {I : Inn} {outer : List Lot} (hI : InnOK I) (ho : FamOK I.length outer) {n : Nat} {s8 s9 s10 : Sl} : ∀ (ls : List Lot) (x11 : Sl), (∀ l ∈ ls, l.length ≤ 1000) →
    ∃ y11, forL (stoN 11) l72_L2 (ls.map lotD) [S, K, b, sz, .va (famD outer), .va (.tuple (I.map inD)), .va (famD (compF I outer)), .va (nD n), s8, s9, s10, x11, .un, .un] =
      some (.ok (.nx, [S, K, b, sz, .va (famD outer), .va (.tuple (I.map inD)), .va (famD (compF I outer)), .va (nD n), s8, s9, s10, y11, .un, .un]))
  | [], x11, _ => ⟨x11, rfl⟩
  | l :: ls, x11, h => by
    have hl := h l List.mem_cons_self
    obtain ⟨y11, hr⟩ := l72_in (S := S) (K := K) (b := b) (sz := sz) hI ho (n := n) (s8 := s8) (s9 := s9) (s10 := s10) ls (.va (lotD l)) fun q hq => h q (List.mem_cons_of_mem _ hq)
    refine ⟨y11, ?_⟩
    have hD := comp_fam hI ho
    have e1 : holdsN outer (plN 0 0 I l) = holdsN (compF I outer) l := by
      rw [comp_places (fun o q => (ho.lot o q).2.2)]
      exact holds_ext (pl_places hI l)
    rw [List.map_cons, X.forC]
    unfold l72_L2
    unfold l72_L2 at hr
    decreasing_trivial
    rw [u_holds, holds_va l (seqFam _) hD.sm]
    decreasing_trivial
    rw [parts_ok hI hl]
    decreasing_trivial
    rw [u_lholds, lholds_ok _ (seqFam _) ho.sm.2, e1]
    decreasing_trivial
    rw [same72b]
    decreasing_trivial
    exact hr
theorem l72_step {ns : List Int} (hn : ns.length ≤ 1000) {k : Nat} (hk : k ≤ 1000) (s2 s3 s4 s5 s6 s7 s8 s9 s10 s11 : Sl) : ∃ t2 t3 t4 t5 t6 t7 t8 t9 t10 t11, l72_L1 [.va (.list (ns.map PyData.int)), .va (nD k), s2, s3, s4, s5, s6, s7, s8, s9, s10, s11, .un, .un] = some (.ok (.nx, [.va (.list (ns.map PyData.int)), .va (nD k), t2, t3, t4, t5, t6, t7, t8, t9, t10, t11, .un, .un])) := by
  obtain ⟨g, r, r0, r1, hbox⟩ := box_ok ns k hk hn
  have hb : Bx [.int g, .int r] := ⟨g, r, rfl, r0, r1⟩
  obtain ⟨sz, b1, hb1, z1, z7, zne, ez⟩ := sizes_ok hb
  have zlen : sz.length ≤ sz.sum := by
    clear z7 zne ez
    induction sz with
    | nil => exact Nat.le_refl _
    | cons s sz ih =>
      have := z1 s List.mem_cons_self
      have := ih fun q hq => z1 q (List.mem_cons_of_mem _ hq)
      rw [List.length_cons, List.sum_cons]
      omega
  have zpos : 1 ≤ sz.length := by
    cases sz with
    | nil => exact absurd rfl zne
    | cons s sz => rw [List.length_cons]; omega
  obtain ⟨outer, b2, hb2, hO, eo⟩ := over_ok hb1 zpos (by omega)
  have zle : ∀ s ∈ sz, 1 ≤ s ∧ s ≤ 7 := fun s hs => ⟨z1 s hs, by
    have := sum_ge sz s hs
    omega⟩
  obtain ⟨I, b3, hb3, hI1, hI2, ei⟩ := inn_loop (S := .va (.list (ns.map PyData.int))) (K := .va (nD k)) (s4 := .va (famD outer)) (s5 := s5) (s6 := s6) (s7 := s7) (s8 := s8) (s9 := s9) (s10 := s10) (s11 := s11) (s13 := .un) sz [] b2 hb2 zle fun p hp => nomatch hp
  rw [List.map_nil, List.nil_append] at hI1
  have hlen : I.length = sz.length := by rw [← hI1, List.length_map]
  have htot : totI I = sz.sum := by unfold totI; rw [hI1]
  have hI : InnOK I := ⟨hI2, by omega⟩
  rw [← hlen] at hO
  have D := dual_ok hI2
  have hD := comp_fam hI hO
  obtain ⟨OB, hOB⟩ := hO.blk
  obtain ⟨C, hC⟩ := hD.blk
  have eC : C = compF (dualI I) OB := comp_blk D hI hO hOB hC
  have hDI := D.ok hI
  have hOB2 : FamOK (dualI I).length OB := by rw [D.len]; exact hOB.fam hO
  obtain ⟨y11, hin⟩ := l72_in (S := .va (.list (ns.map PyData.int))) (K := .va (nD k)) (b := .ow 0 b3) (sz := .ow 0 (sz.map nD)) hI hO (n := sz.sum) (s8 := .va (.tuple ((dualI I).map inD))) (s9 := .va (famD C)) (s10 := .va (.tuple ((dualI I).map inD))) (allN sz.sum) s11 fun l hl => by have := allN_mem hl; omega
  refine ⟨?_, ?_, ?_, ?_, ?_, ?_, ?_, ?_, ?_, y11, ?_⟩
  rotate_left 9
  unfold l72_L1
  unfold l72_L2 at hin
  decreasing_trivial
  rw [u_box, hbox]
  decreasing_trivial
  rw [ez]
  decreasing_trivial
  rw [eo]
  decreasing_trivial
  rw [X.fewMap (by omega)]
  decreasing_trivial
  rw [show ([] : List PyData) = ([] : Inn).map inD from rfl, ei]
  decreasing_trivial
  rw [tupL]
  decreasing_trivial
  rw [lcomp_ok hI hO]
  decreasing_trivial
  rw [sumN]
  decreasing_trivial
  rw [comp72 hI hO]
  decreasing_trivial
  rw [same72]
  decreasing_trivial
  rw [X.fewMap (by omega)]
  decreasing_trivial
  rw [lcGen inD inD (fun p : Nat × List Lot => (p.1, isort leL (forceN p.1 p.2)))]
  · decreasing_trivial
    rw [tupL]
    decreasing_trivial
    rw [comp72 hI hO]
    decreasing_trivial
    rw [← htot, u_blk, hC.blk hD]
    decreasing_trivial
    rw [← hlen, hOB.blk hO]
    decreasing_trivial
    rw [show List.map inD (List.map (fun p : Nat × List Lot => (p.1, isort leL (forceN p.1 p.2))) I) = (dualI I).map inD from rfl]
    decreasing_trivial
    rw [comp72 hDI hOB2, ← eC]
    decreasing_trivial
    rw [same72]
    decreasing_trivial
    rw [X.fewMap (by omega)]
    decreasing_trivial
    rw [lcGen inD inD (fun p : Nat × List Lot => (p.1, isort leL (forceN p.1 p.2)))]
    · decreasing_trivial
      rw [tupL]
      decreasing_trivial
      rw [← hlen, u_lblk, hOB.lblk hO]
      decreasing_trivial
      rw [show List.map inD (List.map (fun p : Nat × List Lot => (p.1, isort leL (forceN p.1 p.2))) I) = (dualI I).map inD from rfl]
      rw [lcomp_ok hDI hOB2, ← eC]
      decreasing_trivial
      rw [same72]
      decreasing_trivial
      rw [u_all, lall_ok (show totI I ≤ 7 from hI.tot)]
      decreasing_trivial
      rw [htot]
      exact hin
    · intro p hp
      obtain ⟨B, hB⟩ := (hI2 p hp).blk
      refine ⟨_, ?_, rfl, ?_, ?_⟩
      rotate_left 1
      · decreasing_trivial
        rw [u_lblk, hB.lblk (hI2 p hp), hB.force]
        decreasing_trivial
        rfl
      · rfl
  · intro p hp
    obtain ⟨B, hB⟩ := (hI2 p hp).blk
    refine ⟨_, ?_, rfl, ?_, ?_⟩
    rotate_left 1
    · decreasing_trivial
      rw [u_blk, hB.blk (hI2 p hp), hB.force]
      decreasing_trivial
      rfl
    · rfl
/-- a loop by its invariant -/
theorem loopE {body : En → RM Ot} {P : En → Prop} {i : Nat} (hs : ∀ (k : Nat) (ρ : En), k ≤ 1000 → P ρ → ∃ ρ', body (ρ.set i (.va (nD k))) = some (.ok (.nx, ρ')) ∧ P ρ') : ∀ (ks : List Nat) (ρ : En), (∀ k ∈ ks, k ≤ 1000) → P ρ → ∃ ρ', forL (stoN i) body (ks.map nD) ρ = some (.ok (.nx, ρ')) ∧ P ρ'
  | [], ρ, _, h => ⟨ρ, rfl, h⟩
  | k :: ks, ρ, hk, h => by
    obtain ⟨ρ1, e1, h1⟩ := hs k ρ (hk k List.mem_cons_self) h
    obtain ⟨ρ2, e2, h2⟩ := loopE hs ks ρ1 (fun q hq => hk q (List.mem_cons_of_mem _ hq)) h1
    refine ⟨ρ2, ?_, h2⟩
    rw [List.map_cons, X.forC]
    decreasing_trivial
    rw [e1]
    decreasing_trivial
    exact e2
theorem plain72 (ns : List Int) (hn : ns.length ≤ 63) : ∃ o, K72.m_law [.va (.list (ns.map PyData.int))] = some (.ok (.va (.bool true), o)) := by
  obtain ⟨ρ', e, s1, s2, s3, s4, s5, s6, s7, s8, s9, s10, s11, h⟩ := loopE (body := l72_L1) (i := 1) (P := fun ρ => ∃ s1 s2 s3 s4 s5 s6 s7 s8 s9 s10 s11, ρ = [.va (.list (ns.map PyData.int)), s1, s2, s3, s4, s5, s6, s7, s8, s9, s10, s11, .un, .un]) (fun k ρ hk ⟨s1, s2, s3, s4, s5, s6, s7, s8, s9, s10, s11, h⟩ => by
    subst h
    obtain ⟨t2, t3, t4, t5, t6, t7, t8, t9, t10, t11, e⟩ := l72_step (ns := ns) (by omega) hk s2 s3 s4 s5 s6 s7 s8 s9 s10 s11
    exact ⟨_, e, _, _, _, _, _, _, _, _, _, _, _, rfl⟩) (List.range (max 3 (min ns.length 6))) [.va (.list (ns.map PyData.int)), .un, .un, .un, .un, .un, .un, .un, .un, .un, .un, .un, .un, .un] (fun k hk => by
      have := List.mem_range.mp hk
      omega) ⟨_, _, _, _, _, _, _, _, _, _, _, rfl⟩
  subst h
  refine ⟨[.va (.list (ns.map PyData.int))], ?_⟩
  unfold l72_L1 at e
  unfold K72.m_law K72.b_lawM
  decreasing_trivial
  rw [X.rngB' (by omega)]
  decreasing_trivial
  rw [e]
  decreasing_trivial

end Fam

namespace K72
open PySem PySem.Spec PyProof.Rows L2 Pl
abbrev pgm : Program := PySem.Challenge.pw_whoknowswhen_k72_whole_blockers_of_compo
def topS (i : Nat) : Stmt := pgm.main.body.getD i (.Pass ⟨0, 0, 0, 0⟩)
abbrev s__law_box : Stmt := topS 10
def N__law_box : List Str := [("script" : Str), ("k" : Str), ("cell" : Str), ("great" : Str)]
theorem sc__law_box : FnScope N__law_box [("script" : Str), ("k" : Str)] (defScope s__law_box) := ⟨rfl, rfl, rfl, by decide +kernel, rfl, by decide +kernel, by decide +kernel⟩
abbrev s__law_take : Stmt := topS 11
def N__law_take : List Str := [("box" : Str), ("many" : Str), ("digit" : Str), ("raw" : Str)]
theorem sc__law_take : FnScope N__law_take [("box" : Str), ("many" : Str)] (defScope s__law_take) := ⟨rfl, rfl, rfl, by decide +kernel, rfl, by decide +kernel, by decide +kernel⟩
abbrev s__law_pick : Stmt := topS 12
def N__law_pick : List Str := [("box" : Str), ("some" : Str)]
theorem sc__law_pick : FnScope N__law_pick [("box" : Str), ("some" : Str)] (defScope s__law_pick) := ⟨rfl, rfl, rfl, by decide +kernel, rfl, by decide +kernel, by decide +kernel⟩
abbrev s__law_sizes : Stmt := topS 23
def N__law_sizes : List Str := [("box" : Str), ("left" : Str), ("sizes" : Str), ("turn" : Str), ("size" : Str)]
theorem sc__law_sizes : FnScope N__law_sizes [("box" : Str)] (defScope s__law_sizes) := ⟨rfl, rfl, rfl, by decide +kernel, rfl, by decide +kernel, by decide +kernel⟩
abbrev s__law_within : Stmt := topS 15
def N__law_within : List Str := [("one" : Str), ("two" : Str), ("house" : Str)]
theorem sc__law_within : FnScope N__law_within [("one" : Str), ("two" : Str)] (defScope s__law_within) := ⟨rfl, rfl, rfl, by decide +kernel, rfl, by decide +kernel, by decide +kernel⟩
abbrev s__law_least : Stmt := topS 17
def N__law_least : List Str := [("lots" : Str), ("found" : Str), ("lot" : Str), ("one" : Str)]
theorem sc__law_least : FnScope N__law_least [("lots" : Str)] (defScope s__law_least) := ⟨rfl, rfl, rfl, by decide +kernel, rfl, by decide +kernel, by decide +kernel⟩
abbrev s__law_all : Stmt := topS 14
def N__law_all : List Str := [("many" : Str), ("found" : Str), ("house" : Str), ("lot" : Str)]
theorem sc__law_all : FnScope N__law_all [("many" : Str)] (defScope s__law_all) := ⟨rfl, rfl, rfl, by decide +kernel, rfl, by decide +kernel, by decide +kernel⟩
abbrev s__law_threshold : Stmt := topS 21
def N__law_threshold : List Str := [("many" : Str), ("quorum" : Str), ("lot" : Str)]
theorem sc__law_threshold : FnScope N__law_threshold [("many" : Str), ("quorum" : Str)] (defScope s__law_threshold) := ⟨rfl, rfl, rfl, by decide +kernel, rfl, by decide +kernel, by decide +kernel⟩
abbrev s__law_lot : Stmt := topS 20
def N__law_lot : List Str := [("box" : Str), ("many" : Str), ("start" : Str), ("lot" : Str), ("share" : Str), ("house" : Str)]
theorem sc__law_lot : FnScope N__law_lot [("box" : Str), ("many" : Str)] (defScope s__law_lot) := ⟨rfl, rfl, rfl, by decide +kernel, rfl, by decide +kernel, by decide +kernel⟩
abbrev s__law_over : Stmt := topS 24
def N__law_over : List Str := [("box" : Str), ("many" : Str), ("way" : Str), ("turn" : Str)]
theorem sc__law_over : FnScope N__law_over [("box" : Str), ("many" : Str)] (defScope s__law_over) := ⟨rfl, rfl, rfl, by decide +kernel, rfl, by decide +kernel, by decide +kernel⟩
abbrev s_is_within : Stmt := topS 1
def N_is_within : List Str := [("one" : Str), ("two" : Str), ("house" : Str)]
theorem sc_is_within : FnScope N_is_within [("one" : Str), ("two" : Str)] (defScope s_is_within) := ⟨rfl, rfl, rfl, by decide +kernel, rfl, by decide +kernel, by decide +kernel⟩
abbrev s_lot_holds : Stmt := topS 2
def N_lot_holds : List Str := [("family" : Str), ("lot" : Str), ("one" : Str)]
theorem sc_lot_holds : FnScope N_lot_holds [("family" : Str), ("lot" : Str)] (defScope s_lot_holds) := ⟨rfl, rfl, rfl, by decide +kernel, rfl, by decide +kernel, by decide +kernel⟩
abbrev s_least_lots : Stmt := topS 3
def N_least_lots : List Str := [("lots" : Str), ("found" : Str), ("lot" : Str)]
theorem sc_least_lots : FnScope N_least_lots [("lots" : Str)] (defScope s_least_lots) := ⟨rfl, rfl, rfl, by decide +kernel, rfl, by decide +kernel, by decide +kernel⟩
abbrev s_meets : Stmt := topS 4
def N_meets : List Str := [("one" : Str), ("two" : Str), ("house" : Str)]
theorem sc_meets : FnScope N_meets [("one" : Str), ("two" : Str)] (defScope s_meets) := ⟨rfl, rfl, rfl, by decide +kernel, rfl, by decide +kernel, by decide +kernel⟩
abbrev s_with_house : Stmt := topS 5
def N_with_house : List Str := [("lot" : Str), ("house" : Str)]
theorem sc_with_house : FnScope N_with_house [("lot" : Str), ("house" : Str)] (defScope s_with_house) := ⟨rfl, rfl, rfl, by decide +kernel, rfl, by decide +kernel, by decide +kernel⟩
abbrev s_blocker_of : Stmt := topS 6
def N_blocker_of : List Str := [("family" : Str), ("many" : Str), ("found" : Str), ("lot" : Str), ("grown" : Str), ("one" : Str), ("house" : Str)]
theorem sc_blocker_of : FnScope N_blocker_of [("family" : Str), ("many" : Str)] (defScope s_blocker_of) := ⟨rfl, rfl, rfl, by decide +kernel, rfl, by decide +kernel, by decide +kernel⟩
abbrev s__law_composed : Stmt := topS 22
def N__law_composed : List Str := [("outer" : Str), ("inners" : Str), ("moved" : Str), ("first" : Str), ("many" : Str), ("family" : Str), ("found" : Str), ("lot" : Str), ("some" : Str), ("house" : Str), ("longer" : Str), ("one" : Str), ("two" : Str)]
theorem sc__law_composed : FnScope N__law_composed [("outer" : Str), ("inners" : Str)] (defScope s__law_composed) := ⟨rfl, rfl, rfl, by decide +kernel, rfl, by decide +kernel, by decide +kernel⟩
abbrev s__law_same : Stmt := topS 13
def N__law_same : List Str := [("told" : Str), ("due" : Str), ("one" : Str), ("other" : Str)]
theorem sc__law_same : FnScope N__law_same [("told" : Str), ("due" : Str)] (defScope s__law_same) := ⟨rfl, rfl, rfl, by decide +kernel, rfl, by decide +kernel, by decide +kernel⟩
abbrev s_moved_lots : Stmt := topS 7
def N_moved_lots : List Str := [("family" : Str), ("first" : Str), ("lot" : Str), ("house" : Str)]
theorem sc_moved_lots : FnScope N_moved_lots [("family" : Str), ("first" : Str)] (defScope s_moved_lots) := ⟨rfl, rfl, rfl, by decide +kernel, rfl, by decide +kernel, by decide +kernel⟩
abbrev s_composed_family : Stmt := topS 8
def N_composed_family : List Str := [("outer" : Str), ("inners" : Str), ("moved" : Str), ("first" : Str), ("many" : Str), ("family" : Str), ("found" : Str), ("lot" : Str), ("some" : Str), ("house" : Str), ("one" : Str), ("two" : Str)]
theorem sc_composed_family : FnScope N_composed_family [("outer" : Str), ("inners" : Str)] (defScope s_composed_family) := ⟨rfl, rfl, rfl, by decide +kernel, rfl, by decide +kernel, by decide +kernel⟩
abbrev s__law_mask : Stmt := topS 18
def N__law_mask : List Str := [("lot" : Str), ("house" : Str)]
theorem sc__law_mask : FnScope N__law_mask [("lot" : Str)] (defScope s__law_mask) := ⟨rfl, rfl, rfl, by decide +kernel, rfl, by decide +kernel, by decide +kernel⟩
abbrev s__law_blocker : Stmt := topS 19
def N__law_blocker : List Str := [("family" : Str), ("many" : Str), ("masks" : Str), ("meets_v" : Str), ("lot" : Str), ("found" : Str), ("mask" : Str), ("house" : Str)]
theorem sc__law_blocker : FnScope N__law_blocker [("family" : Str), ("many" : Str)] (defScope s__law_blocker) := ⟨rfl, rfl, rfl, by decide +kernel, rfl, by decide +kernel, by decide +kernel⟩
abbrev s__law_holds : Stmt := topS 16
def N__law_holds : List Str := [("family" : Str), ("lot" : Str), ("one" : Str)]
theorem sc__law_holds : FnScope N__law_holds [("family" : Str), ("lot" : Str)] (defScope s__law_holds) := ⟨rfl, rfl, rfl, by decide +kernel, rfl, by decide +kernel, by decide +kernel⟩
abbrev s__law_parts_held : Stmt := topS 25
def N__law_parts_held : List Str := [("inners" : Str), ("lot" : Str), ("held" : Str), ("first" : Str), ("place" : Str), ("many" : Str), ("family" : Str), ("part" : Str), ("house" : Str)]
theorem sc__law_parts_held : FnScope N__law_parts_held [("inners" : Str), ("lot" : Str)] (defScope s__law_parts_held) := ⟨rfl, rfl, rfl, by decide +kernel, rfl, by decide +kernel, by decide +kernel⟩
abbrev s_law : Stmt := topS 26
def N_law : List Str := [("script" : Str), ("k" : Str), ("box" : Str), ("sizes" : Str), ("outer" : Str), ("inners" : Str), ("due" : Str), ("total" : Str), ("blockers" : Str), ("told" : Str), ("own" : Str), ("lot" : Str), ("size" : Str), ("family" : Str)]
theorem sc_law : FnScope N_law [("script" : Str)] (defScope s_law) := ⟨rfl, rfl, rfl, by decide +kernel, rfl, by decide +kernel, by decide +kernel⟩

structure Fx (K : PySem.W.Frag) (mg : Str → Option Value) where
  f__law_box : Addr
  fd__law_box : FuncData
  F__law_box : Fun K "_law_box" "_law_box" s__law_box f__law_box fd__law_box
  g__law_box : mg "_law_box" = some (.ref f__law_box)
  f__law_take : Addr
  fd__law_take : FuncData
  F__law_take : Fun K "_law_take" "_law_take" s__law_take f__law_take fd__law_take
  g__law_take : mg "_law_take" = some (.ref f__law_take)
  f__law_pick : Addr
  fd__law_pick : FuncData
  F__law_pick : Fun K "_law_pick" "_law_pick" s__law_pick f__law_pick fd__law_pick
  g__law_pick : mg "_law_pick" = some (.ref f__law_pick)
  f__law_sizes : Addr
  fd__law_sizes : FuncData
  F__law_sizes : Fun K "_law_sizes" "_law_sizes" s__law_sizes f__law_sizes fd__law_sizes
  g__law_sizes : mg "_law_sizes" = some (.ref f__law_sizes)
  f__law_within : Addr
  fd__law_within : FuncData
  F__law_within : Fun K "_law_within" "_law_within" s__law_within f__law_within fd__law_within
  g__law_within : mg "_law_within" = some (.ref f__law_within)
  f__law_least : Addr
  fd__law_least : FuncData
  F__law_least : Fun K "_law_least" "_law_least" s__law_least f__law_least fd__law_least
  g__law_least : mg "_law_least" = some (.ref f__law_least)
  f__law_all : Addr
  fd__law_all : FuncData
  F__law_all : Fun K "_law_all" "_law_all" s__law_all f__law_all fd__law_all
  g__law_all : mg "_law_all" = some (.ref f__law_all)
  f__law_threshold : Addr
  fd__law_threshold : FuncData
  F__law_threshold : Fun K "_law_threshold" "_law_threshold" s__law_threshold f__law_threshold fd__law_threshold
  g__law_threshold : mg "_law_threshold" = some (.ref f__law_threshold)
  f__law_lot : Addr
  fd__law_lot : FuncData
  F__law_lot : Fun K "_law_lot" "_law_lot" s__law_lot f__law_lot fd__law_lot
  g__law_lot : mg "_law_lot" = some (.ref f__law_lot)
  f__law_over : Addr
  fd__law_over : FuncData
  F__law_over : Fun K "_law_over" "_law_over" s__law_over f__law_over fd__law_over
  g__law_over : mg "_law_over" = some (.ref f__law_over)
  f_is_within : Addr
  fd_is_within : FuncData
  F_is_within : Fun K "is_within" "is_within" s_is_within f_is_within fd_is_within
  g_is_within : mg "is_within" = some (.ref f_is_within)
  f_lot_holds : Addr
  fd_lot_holds : FuncData
  F_lot_holds : Fun K "lot_holds" "lot_holds" s_lot_holds f_lot_holds fd_lot_holds
  g_lot_holds : mg "lot_holds" = some (.ref f_lot_holds)
  f_least_lots : Addr
  fd_least_lots : FuncData
  F_least_lots : Fun K "least_lots" "least_lots" s_least_lots f_least_lots fd_least_lots
  g_least_lots : mg "least_lots" = some (.ref f_least_lots)
  f_meets : Addr
  fd_meets : FuncData
  F_meets : Fun K "meets" "meets" s_meets f_meets fd_meets
  g_meets : mg "meets" = some (.ref f_meets)
  f_with_house : Addr
  fd_with_house : FuncData
  F_with_house : Fun K "with_house" "with_house" s_with_house f_with_house fd_with_house
  g_with_house : mg "with_house" = some (.ref f_with_house)
  f_blocker_of : Addr
  fd_blocker_of : FuncData
  F_blocker_of : Fun K "blocker_of" "blocker_of" s_blocker_of f_blocker_of fd_blocker_of
  g_blocker_of : mg "blocker_of" = some (.ref f_blocker_of)
  f__law_composed : Addr
  fd__law_composed : FuncData
  F__law_composed : Fun K "_law_composed" "_law_composed" s__law_composed f__law_composed fd__law_composed
  g__law_composed : mg "_law_composed" = some (.ref f__law_composed)
  f__law_same : Addr
  fd__law_same : FuncData
  F__law_same : Fun K "_law_same" "_law_same" s__law_same f__law_same fd__law_same
  g__law_same : mg "_law_same" = some (.ref f__law_same)
  f_moved_lots : Addr
  fd_moved_lots : FuncData
  F_moved_lots : Fun K "moved_lots" "moved_lots" s_moved_lots f_moved_lots fd_moved_lots
  g_moved_lots : mg "moved_lots" = some (.ref f_moved_lots)
  f_composed_family : Addr
  fd_composed_family : FuncData
  F_composed_family : Fun K "composed_family" "composed_family" s_composed_family f_composed_family fd_composed_family
  g_composed_family : mg "composed_family" = some (.ref f_composed_family)
  f__law_mask : Addr
  fd__law_mask : FuncData
  F__law_mask : Fun K "_law_mask" "_law_mask" s__law_mask f__law_mask fd__law_mask
  g__law_mask : mg "_law_mask" = some (.ref f__law_mask)
  f__law_blocker : Addr
  fd__law_blocker : FuncData
  F__law_blocker : Fun K "_law_blocker" "_law_blocker" s__law_blocker f__law_blocker fd__law_blocker
  g__law_blocker : mg "_law_blocker" = some (.ref f__law_blocker)
  f__law_holds : Addr
  fd__law_holds : FuncData
  F__law_holds : Fun K "_law_holds" "_law_holds" s__law_holds f__law_holds fd__law_holds
  g__law_holds : mg "_law_holds" = some (.ref f__law_holds)
  f__law_parts_held : Addr
  fd__law_parts_held : FuncData
  F__law_parts_held : Fun K "_law_parts_held" "_law_parts_held" s__law_parts_held f__law_parts_held fd__law_parts_held
  g__law_parts_held : mg "_law_parts_held" = some (.ref f__law_parts_held)
  f_law : Addr
  fd_law : FuncData
  F_law : Fun K "law" "law" s_law f_law fd_law
  g_law : mg "law" = some (.ref f_law)
  n_abs : mg "abs" = none
  n_bool : mg "bool" = none
  n_enumerate : mg "enumerate" = none
  n_int : mg "int" = none
  n_isinstance : mg "isinstance" = none
  n_len : mg "len" = none
  n_max : mg "max" = none
  n_min : mg "min" = none
  n_range : mg "range" = none
  n_set : mg "set" = none
  n_sorted : mg "sorted" = none
  n_str : mg "str" = none
  n_sum : mg "sum" = none
  n_tuple : mg "tuple" = none
  n_zip : mg "zip" = none
  cc : Addr
  hcc : fd_least_lots.code = .ref cc
def T0 (P0 : Addr) : Lw := ⟨⟨fun _ => 0, fun _ => ""⟩, [(P0, (("least_lots" : Str) ++ ".<locals>.") ++ "<lambda>")]⟩
section
variable {P : Program} {w : World} {K : PySem.W.Frag} {mg : Str → Option Value} {base : Heap}
theorem b__law_box (W : Fx K mg) : Binds K W.fd__law_box [("script" : Str), ("k" : Str)] [] := W.F__law_box.binds fun _ _ _ _ _ _ us hl => match us, hl with | [_, _], _ => rfl
theorem b__law_take (W : Fx K mg) : Binds K W.fd__law_take [("box" : Str), ("many" : Str)] [] := W.F__law_take.binds fun _ _ _ _ _ _ us hl => match us, hl with | [_, _], _ => rfl
theorem b__law_pick (W : Fx K mg) : Binds K W.fd__law_pick [("box" : Str), ("some" : Str)] [] := W.F__law_pick.binds fun _ _ _ _ _ _ us hl => match us, hl with | [_, _], _ => rfl
theorem b__law_sizes (W : Fx K mg) : Binds K W.fd__law_sizes [("box" : Str)] [] := W.F__law_sizes.binds fun _ _ _ _ _ _ us hl => match us, hl with | [_], _ => rfl
theorem b__law_within (W : Fx K mg) : Binds K W.fd__law_within [("one" : Str), ("two" : Str)] [] := W.F__law_within.binds fun _ _ _ _ _ _ us hl => match us, hl with | [_, _], _ => rfl
theorem b__law_least (W : Fx K mg) : Binds K W.fd__law_least [("lots" : Str)] [] := W.F__law_least.binds fun _ _ _ _ _ _ us hl => match us, hl with | [_], _ => rfl
theorem b__law_all (W : Fx K mg) : Binds K W.fd__law_all [("many" : Str)] [] := W.F__law_all.binds fun _ _ _ _ _ _ us hl => match us, hl with | [_], _ => rfl
theorem b__law_threshold (W : Fx K mg) : Binds K W.fd__law_threshold [("many" : Str), ("quorum" : Str)] [] := W.F__law_threshold.binds fun _ _ _ _ _ _ us hl => match us, hl with | [_, _], _ => rfl
theorem b__law_lot (W : Fx K mg) : Binds K W.fd__law_lot [("box" : Str), ("many" : Str)] [] := W.F__law_lot.binds fun _ _ _ _ _ _ us hl => match us, hl with | [_, _], _ => rfl
theorem b__law_over (W : Fx K mg) : Binds K W.fd__law_over [("box" : Str), ("many" : Str)] [] := W.F__law_over.binds fun _ _ _ _ _ _ us hl => match us, hl with | [_, _], _ => rfl
theorem b_is_within (W : Fx K mg) : Binds K W.fd_is_within [("one" : Str), ("two" : Str)] [] := W.F_is_within.binds fun _ _ _ _ _ _ us hl => match us, hl with | [_, _], _ => rfl
theorem b_lot_holds (W : Fx K mg) : Binds K W.fd_lot_holds [("family" : Str), ("lot" : Str)] [] := W.F_lot_holds.binds fun _ _ _ _ _ _ us hl => match us, hl with | [_, _], _ => rfl
theorem b_least_lots (W : Fx K mg) : Binds K W.fd_least_lots [("lots" : Str)] [] := W.F_least_lots.binds fun _ _ _ _ _ _ us hl => match us, hl with | [_], _ => rfl
theorem b_meets (W : Fx K mg) : Binds K W.fd_meets [("one" : Str), ("two" : Str)] [] := W.F_meets.binds fun _ _ _ _ _ _ us hl => match us, hl with | [_, _], _ => rfl
theorem b_with_house (W : Fx K mg) : Binds K W.fd_with_house [("lot" : Str), ("house" : Str)] [] := W.F_with_house.binds fun _ _ _ _ _ _ us hl => match us, hl with | [_, _], _ => rfl
theorem b_blocker_of (W : Fx K mg) : Binds K W.fd_blocker_of [("family" : Str), ("many" : Str)] [] := W.F_blocker_of.binds fun _ _ _ _ _ _ us hl => match us, hl with | [_, _], _ => rfl
theorem b__law_composed (W : Fx K mg) : Binds K W.fd__law_composed [("outer" : Str), ("inners" : Str)] [] := W.F__law_composed.binds fun _ _ _ _ _ _ us hl => match us, hl with | [_, _], _ => rfl
theorem b__law_same (W : Fx K mg) : Binds K W.fd__law_same [("told" : Str), ("due" : Str)] [] := W.F__law_same.binds fun _ _ _ _ _ _ us hl => match us, hl with | [_, _], _ => rfl
theorem b_moved_lots (W : Fx K mg) : Binds K W.fd_moved_lots [("family" : Str), ("first" : Str)] [] := W.F_moved_lots.binds fun _ _ _ _ _ _ us hl => match us, hl with | [_, _], _ => rfl
theorem b_composed_family (W : Fx K mg) : Binds K W.fd_composed_family [("outer" : Str), ("inners" : Str)] [] := W.F_composed_family.binds fun _ _ _ _ _ _ us hl => match us, hl with | [_, _], _ => rfl
theorem b__law_mask (W : Fx K mg) : Binds K W.fd__law_mask [("lot" : Str)] [] := W.F__law_mask.binds fun _ _ _ _ _ _ us hl => match us, hl with | [_], _ => rfl
theorem b__law_blocker (W : Fx K mg) : Binds K W.fd__law_blocker [("family" : Str), ("many" : Str)] [] := W.F__law_blocker.binds fun _ _ _ _ _ _ us hl => match us, hl with | [_, _], _ => rfl
theorem b__law_holds (W : Fx K mg) : Binds K W.fd__law_holds [("family" : Str), ("lot" : Str)] [] := W.F__law_holds.binds fun _ _ _ _ _ _ us hl => match us, hl with | [_, _], _ => rfl
theorem b__law_parts_held (W : Fx K mg) : Binds K W.fd__law_parts_held [("inners" : Str), ("lot" : Str)] [] := W.F__law_parts_held.binds fun _ _ _ _ _ _ us hl => match us, hl with | [_, _], _ => rfl
theorem b_law (W : Fx K mg) : Binds K W.fd_law [("script" : Str)] [] := W.F_law.binds fun _ _ _ _ _ _ us hl => match us, hl with | [_], _ => rfl
theorem kb_composed_family_0 (W : Fx K mg) : KBinds K W.fd_composed_family [("outer" : Str), ("inners" : Str)] [("outer" : Str), ("inners" : Str)] (pickC 0 2 [0, 1]) (pickC 0 2 [0, 1]) := fun_kbinds W.F_composed_family (by decide) fun _ _ _ _ _ _ us ws h1 h2 => match us, ws, h1, h2 with | [], [_, _], _, _ => rfl
theorem ok__law_box (W : Fx K mg) {P0 : Addr} (TB : LamX.TabB base mg W.cc P0) : FnOk P w K mg base CX0 1 W.f__law_box W.fd__law_box [("script" : Str), ("k" : Str)] (spG (T0 P0) K m__law_box) := by
  refine fn_ok W.F__law_box sc__law_box rfl rfl fun cdv A outer s H vs E hr => ?_
  refine ⟨_, (pss_cons (ps_set (i := 2) sc__law_box.nd rfl (by first | exact .inl rfl | exact .inr rfl) (pe_op (addK K) (pe_op op_mulW pe_int (pv 1)) pe_int))
      (pss_cons (ps_if (pt_cmpR op_lt (pv 1) (pe_callB (lenK K) (by rfl) W.n_len (by decide +kernel) (pa_cons (pv 0) pa_nil)) (nomark _)) (pss_one (ps_set (i := 2) sc__law_box.nd rfl (by first | exact .inl rfl | exact .inr rfl) (pe_callB call_abs (by rfl) W.n_abs (by decide +kernel) (pa_cons (pe_callTy call_int1 (by rfl) W.n_int (by decide +kernel) (pa_cons (pe_ix (ixK K) (pv 0) (pv 1) (fun _ _ => rfl)) pa_nil)) pa_nil)))) (pss_one (ps_if (pt_cmpR op_gt (pe_callB (lenK K) (by rfl) W.n_len (by decide +kernel) (pa_cons (pv 0) pa_nil)) pe_int (nomark _)) (pss_one (ps_set (i := 2) sc__law_box.nd rfl (by first | exact .inl rfl | exact .inr rfl) (pe_op (addK K) (pv 2) (pe_op op_mulW (pe_op op_mod (pe_callTy call_int1 (by rfl) W.n_int (by decide +kernel) (pa_cons (pe_callB call_abs (by rfl) W.n_abs (by decide +kernel) (pa_cons (pe_callTy call_int1 (by rfl) W.n_int (by decide +kernel) (pa_cons (pe_ix (ixK K) (pv 0) (pe_op op_mod (pe_callTy call_int1 (by rfl) W.n_int (by decide +kernel) (pa_cons (pv 1) pa_nil)) (pe_callB (lenK K) (by rfl) W.n_len (by decide +kernel) (pa_cons (pv 0) pa_nil))) (fun _ _ => rfl)) pa_nil)) pa_nil)) pa_nil)) pe_int) pe_int)))) pss_nil)))
      (pss_cons (ps_set (i := 3) sc__law_box.nd rfl (by first | exact .inl rfl | exact .inr rfl) (pe_ifExp (pt_cmpR op_ge (pv 2) (pe_op op_pow pe_int pe_int) (nomark _)) (pv 2) pe_int))
      (pss_one (ps_ret (pe_lst (pa_cons (pv 3) (pa_cons (pe_op (addK K) (pe_op op_mod (pe_callTy call_int1 (by rfl) W.n_int (by decide +kernel) (pa_cons (pe_op (addK K) (pe_op op_mulW (pe_op op_mod (pe_callTy call_int1 (by rfl) W.n_int (by decide +kernel) (pa_cons (pv 2) pa_nil)) pe_int) pe_int) (pe_op op_mulW pe_int (pv 1))) pa_nil)) pe_int) pe_int) pa_nil)))))))), ?_⟩
  exact (js_seq (js_asg (je_op ok_add (je_op ok_mul je_int je_var) je_int))
      (js_seq (js_if (jt_val (je_op ok_lt je_var (je_cb ok_len (ja_cons je_var ja_nil)))) (js_asg (je_cb ok_abs (ja_cons (je_cb ok_int (ja_cons (je_op ok_ix je_var je_var) ja_nil)) ja_nil))) (js_if (jt_val (je_op ok_gt (je_cb ok_len (ja_cons je_var ja_nil)) je_int)) (js_asg (je_op ok_add je_var (je_op ok_mul (je_op ok_mod (je_cb ok_int (ja_cons (je_cb ok_abs (ja_cons (je_cb ok_int (ja_cons (je_op ok_ix je_var (je_op ok_mod (je_cb ok_int (ja_cons je_var ja_nil)) (je_cb ok_len (ja_cons je_var ja_nil)))) ja_nil)) ja_nil)) ja_nil)) je_int) je_int))) js_next))
      (js_seq (js_asg (je_if (jt_val (je_op ok_ge je_var (je_op ok_pow je_int je_int))) je_var je_int))
      (js_ret (je_lst (ja_cons je_var (ja_cons (je_op ok_add (je_op ok_mod (je_cb ok_int (ja_cons (je_op ok_add (je_op ok_mul (je_op ok_mod (je_cb ok_int (ja_cons je_var ja_nil)) je_int) je_int) (je_op ok_mul je_int je_var)) ja_nil)) je_int) je_int) ja_nil)))))))
theorem ok__law_take (W : Fx K mg) {P0 : Addr} (TB : LamX.TabB base mg W.cc P0) : FnOk P w K mg base CX0 1 W.f__law_take W.fd__law_take [("box" : Str), ("many" : Str)] (spG (T0 P0) K m__law_take) := by
  refine fn_ok W.F__law_take sc__law_take rfl rfl fun cdv A outer s H vs E hr => ?_
  refine ⟨_, (pss_cons (ps_if (pt_cmpR op_gt (pe_ix (ixK K) (pv 0) pe_int (fun _ _ => rfl)) pe_int (nomark _)) (pss_cons (ps_set (i := 2) sc__law_take.nd rfl (by first | exact .inl rfl | exact .inr rfl) (pe_op op_mod (pe_callTy call_int1 (by rfl) W.n_int (by decide +kernel) (pa_cons (pe_ix (ixK K) (pv 0) pe_int (fun _ _ => rfl)) pa_nil)) (pv 1)))
      (pss_cons (ps_asg (pe_op op_fdivW (pe_ix (ixK K) (pv 0) pe_int (fun _ _ => rfl)) (pv 1)) (pg_sub (pv 0) pe_int set_list))
      (pss_one (ps_ret (pv 2))))) pss_nil)
      (pss_cons (ps_set (i := 3) sc__law_take.nd rfl (by first | exact .inl rfl | exact .inr rfl) (pe_op op_mod (pe_callTy call_int1 (by rfl) W.n_int (by decide +kernel) (pa_cons (pe_op (addK K) (pe_op op_mulW (pe_ix (ixK K) (pv 0) pe_int (fun _ _ => rfl)) pe_int) pe_int) pa_nil)) pe_int))
      (pss_cons (ps_asg (pe_op (addK K) (pe_op op_mod (pe_callTy call_int1 (by rfl) W.n_int (by decide +kernel) (pa_cons (pe_op (addK K) (pe_op op_mulW (pv 3) pe_int) pe_int) pa_nil)) pe_int) pe_int) (pg_sub (pv 0) pe_int set_list))
      (pss_one (ps_ret (pe_op op_mod (pe_callTy call_int1 (by rfl) W.n_int (by decide +kernel) (pa_cons (pe_op op_fdivW (pe_op (addK K) (pe_op op_mulW (pv 3) pe_int) (pe_ix (ixK K) (pv 0) pe_int (fun _ _ => rfl))) pe_int) pa_nil)) (pv 1))))))), ?_⟩
  exact (js_seq (js_if (jt_val (je_op ok_gt (je_op ok_ix je_var je_int) je_int)) (js_seq (js_asg (je_op ok_mod (je_cb ok_int (ja_cons (je_op ok_ix je_var je_int) ja_nil)) je_var))
      (js_seq (js_set (je_op ok_div (je_op ok_ix je_var je_int) je_var) je_int)
      (js_ret je_var))) js_next)
      (js_seq (js_asg (je_op ok_mod (je_cb ok_int (ja_cons (je_op ok_add (je_op ok_mul (je_op ok_ix je_var je_int) je_int) je_int) ja_nil)) je_int))
      (js_seq (js_set (je_op ok_add (je_op ok_mod (je_cb ok_int (ja_cons (je_op ok_add (je_op ok_mul je_var je_int) je_int) ja_nil)) je_int) je_int) je_int)
      (js_ret (je_op ok_mod (je_cb ok_int (ja_cons (je_op ok_div (je_op ok_add (je_op ok_mul je_var je_int) (je_op ok_ix je_var je_int)) je_int) ja_nil)) je_var)))))
theorem ok__law_pick (W : Fx K mg) {P0 : Addr} (TB : LamX.TabB base mg W.cc P0) : FnOk P w K mg base CX0 2 W.f__law_pick W.fd__law_pick [("box" : Str), ("some" : Str)] (spG (T0 P0) K m__law_pick) := by
  refine fn_ok W.F__law_pick sc__law_pick rfl rfl fun cdv A outer s H vs E hr => ?_
  refine ⟨_, (pss_one (ps_ret (pe_ix (ixK K) (pv 1) (pe_call (ok__law_take W TB) (hr.mono (by omega)) (by rfl) W.g__law_take W.F__law_take.kp (b__law_take W) .nil pass0 (pa_cons (pv 0) (pa_cons (pe_callB (lenK K) (by rfl) W.n_len (by decide +kernel) (pa_cons (pv 1) pa_nil)) pa_nil))) (fun _ _ => rfl)))), ?_⟩
  exact (js_ret (je_op ok_ix je_var (je_call0 (T := T0 P0) rfl rfl (ja_cons je_var (ja_cons (je_cb ok_len (ja_cons je_var ja_nil)) ja_nil)))))
theorem ok__law_sizes (W : Fx K mg) {P0 : Addr} (TB : LamX.TabB base mg W.cc P0) : FnOk P w K mg base CX0 3 W.f__law_sizes W.fd__law_sizes [("box" : Str)] (spG (T0 P0) K m__law_sizes) := by
  refine fn_ok W.F__law_sizes sc__law_sizes rfl rfl fun cdv A outer s H vs E hr => ?_
  refine ⟨_, (pss_cons (ps_par (i := 1) (j := 2) rfl sc__law_sizes.nd rfl rfl (by decide) rfl rfl (pa_cons (pe_op (addK K) pe_int (pe_call (ok__law_take W TB) (hr.mono (by omega)) (by rfl) W.g__law_take W.F__law_take.kp (b__law_take W) .nil pass0 (pa_cons (pv 0) (pa_cons pe_int pa_nil)))) (pa_cons (pe_lst pa_nil) pa_nil)) rfl)
      (pss_cons (ps_for PassesOwn.never rfl (pi_range1 (by rfl) W.n_range (pa_cons pe_int pa_nil)) (pg_name (i := 3) sc__law_sizes.nd rfl (by first | exact .inl rfl | exact .inr rfl)) (pss_cons (ps_if (pt_cmpR (eqK K (room64 hr)) (pv 1) pe_int (nomark _)) (pss_one ps_break) pss_nil)
      (pss_cons (ps_set (i := 4) sc__law_sizes.nd rfl (by first | exact .inl rfl | exact .inr rfl) (pe_op (addK K) pe_int (pe_call (ok__law_take W TB) (hr.mono (by omega)) (by rfl) W.g__law_take W.F__law_take.kp (b__law_take W) .nil pass0 (pa_cons (pv 0) (pa_cons (pe_callB (call_min2 rfl) (by rfl) W.n_min (by decide +kernel) (pa_cons (pv 1) (pa_cons (pe_call (ok__law_pick W TB) (hr.mono (by omega)) (by rfl) W.g__law_pick W.F__law_pick.kp (b__law_pick W) .nil pass0 (pa_cons (pv 0) (pa_cons (pe_lst (pa_cons pe_int (pa_cons pe_int (pa_cons pe_int (pa_cons pe_int pa_nil))))) pa_nil))) pa_nil))) pa_nil)))))
      (pss_cons (ps_expr (pe_bm PySem.F.plainAttrs_list PySem.F.slot_list_append PySem.F.type_list_append mt_append (pv 2) (pa_cons (pv 4) pa_nil)))
      (pss_one (ps_set (i := 1) sc__law_sizes.nd rfl (by first | exact .inl rfl | exact .inr rfl) (pe_op op_sub (pv 1) (pv 4))))))))
      (pss_one (ps_ret (pv 2))))), ?_⟩
  exact (js_seq (js_parX (je_op ok_add je_int (je_call0 (T := T0 P0) rfl rfl (ja_cons je_var (ja_cons je_int ja_nil)))) (je_lst ja_nil))
      (js_seq (js_for (ji_rng1 (ja_cons je_int ja_nil)) (g_name 3) (js_seq (js_if (jt_val (je_op ok_eq je_var je_int)) js_break js_next)
      (js_seq (js_asg (je_op ok_add je_int (je_call0 (T := T0 P0) rfl rfl (ja_cons je_var (ja_cons (je_cb ok_min (ja_cons je_var (ja_cons (je_call0 (T := T0 P0) rfl rfl (ja_cons je_var (ja_cons (je_lst (ja_cons je_int (ja_cons je_int (ja_cons je_int (ja_cons je_int ja_nil))))) ja_nil))) ja_nil))) ja_nil)))))
      (js_seq (js_app je_var)
      (js_asg (je_op ok_sub je_var je_var))))))
      (js_ret je_var)))
theorem ok__law_within (W : Fx K mg) {P0 : Addr} (TB : LamX.TabB base mg W.cc P0) : FnOk P w K mg base CX0 1 W.f__law_within W.fd__law_within [("one" : Str), ("two" : Str)] (spG (T0 P0) K m__law_within) := by
  refine fn_ok W.F__law_within sc__law_within rfl rfl fun cdv A outer s H vs E hr => ?_
  refine ⟨_, (pss_one (ps_ret (pe_cmpR (eqK K (room64 hr)) (pe_lc (own := [(("house" : Str), 2)]) rfl sc__law_within.nd (seqK K (pv 0)) (by exact Pl.blkOk_by (N := N__law_within) (sc := defScope s__law_within) (by decide +kernel)) (fun _ _ _ _ _ => (pg_name (i := 2) sc__law_within.nd rfl (by first | exact .inl rfl | exact .inr rfl))) (fun _ _ _ _ _ => (pts_one (pt_cmpR (notInK K (room_u hr)) (pv 2) (pv 1) (by rfl)))) (fun _ _ _ _ _ => pe_int)) (pe_lst pa_nil) (nomark _)))), ?_⟩
  exact (js_ret (je_op ok_eq (je_lcO (vs := [2]) (g_name 2) (fun _ _ h => h) (jt_val (je_op ok_notIn je_var je_var)) je_int) (je_lst ja_nil)))
theorem ok__law_least (W : Fx K mg) {P0 : Addr} (TB : LamX.TabB base mg W.cc P0) : FnOk P w K mg base CX0 2 W.f__law_least W.fd__law_least [("lots" : Str)] (spG (T0 P0) K m__law_least) := by
  refine fn_ok W.F__law_least sc__law_least rfl rfl fun cdv A outer s H vs E hr => ?_
  refine ⟨_, (pss_cons (ps_set (i := 1) sc__law_least.nd rfl (by first | exact .inl rfl | exact .inr rfl) (pe_lst pa_nil))
      (pss_cons (ps_for PassesOwn.never rfl (seqK K (pe_callB (sortSetK K P w rfl (room64 hr)) (by rfl) W.n_sorted (by decide +kernel) (pa_cons (pe_callTy (setOfK K P w rfl (room64 hr)) (by rfl) W.n_set (by decide +kernel) (pa_cons (pv 0) pa_nil)) pa_nil))) (pg_name (i := 2) sc__law_least.nd rfl (by first | exact .inl rfl | exact .inr rfl)) (pss_one (ps_if (pt_cmpR (eqK K (room64 hr)) (pe_lc (own := [(("one" : Str), 3)]) rfl sc__law_least.nd (seqK K (pv 0)) (by exact Pl.blkOk_by (N := N__law_least) (sc := defScope s__law_least) (by decide +kernel)) (fun _ _ _ _ _ => (pg_name (i := 3) sc__law_least.nd rfl (by first | exact .inl rfl | exact .inr rfl))) (fun _ _ _ _ _ => (pts_one (PW.pt (pw_and (pt_cmpR (neK K (room64 hr)) (pv 3) (pv 2) (nomark _)) (pw_and1 (pt_val (pe_call (ok__law_within W TB) (hr.mono (by omega)) (by rfl) W.g__law_within W.F__law_within.kp (b__law_within W) .nil pass0 (pa_cons (pv 3) (pa_cons (pv 2) pa_nil))))))))) (fun _ _ _ _ _ => pe_int)) (pe_lst pa_nil) (nomark _)) (pss_one (ps_expr (pe_bm PySem.F.plainAttrs_list PySem.F.slot_list_append PySem.F.type_list_append mt_append (pv 1) (pa_cons (pv 2) pa_nil)))) pss_nil)))
      (pss_one (ps_ret (pe_callTy (tupleK K) (by rfl) W.n_tuple (by decide +kernel) (pa_cons (pv 1) pa_nil)))))), ?_⟩
  exact (js_seq (js_asg (je_lst ja_nil))
      (js_seq (js_for (ji_seq (je_sortSet je_var)) (g_name 2) (js_if (jt_val (je_op ok_eq (je_lcO (vs := [3]) (g_name 3) (fun _ _ h => h) (jt_and (jt_val (je_op ok_ne je_var je_var)) (jt_B (je_call0 (T := T0 P0) rfl rfl (ja_cons je_var (ja_cons je_var ja_nil))))) je_int) (je_lst ja_nil))) (js_app je_var) js_next))
      (js_ret (je_cb ok_tup (ja_cons je_var ja_nil)))))
theorem ok__law_all (W : Fx K mg) {P0 : Addr} (TB : LamX.TabB base mg W.cc P0) : FnOk P w K mg base CX0 1 W.f__law_all W.fd__law_all [("many" : Str)] (spG (T0 P0) K m__law_all) := by
  refine fn_ok W.F__law_all sc__law_all rfl rfl fun cdv A outer s H vs E hr => ?_
  refine ⟨_, (pss_cons (ps_set (i := 1) sc__law_all.nd rfl (by first | exact .inl rfl | exact .inr rfl) (pe_lst (pa_cons (pe_tup pa_nil) pa_nil)))
      (pss_cons (ps_for PassesOwn.never rfl (pi_range1 (by rfl) W.n_range (pa_cons (pv 0) pa_nil)) (pg_name (i := 2) sc__law_all.nd rfl (by first | exact .inl rfl | exact .inr rfl)) (pss_one (ps_set (i := 1) sc__law_all.nd rfl (by first | exact .inl rfl | exact .inr rfl) (pe_op (addK K) (pv 1) (pe_lc (own := [(("lot" : Str), 3)]) rfl sc__law_all.nd (seqK K (pv 1)) (by exact Pl.blkOk_by (N := N__law_all) (sc := defScope s__law_all) (by decide +kernel)) (fun _ _ _ _ _ => (pg_name (i := 3) sc__law_all.nd rfl (by first | exact .inl rfl | exact .inr rfl))) (fun _ _ _ _ _ => pts_nil) (fun _ _ _ _ _ => (pe_op (addK K) (pv 3) (pe_tup (pa_cons (pv 2) pa_nil)))))))))
      (pss_one (ps_ret (pe_callB (sortedK K (room64 hr)) (by rfl) W.n_sorted (by decide +kernel) (pa_cons (pv 1) pa_nil)))))), ?_⟩
  exact (js_seq (js_asg (je_lst (ja_cons (je_tup ja_nil) ja_nil)))
      (js_seq (js_for (ji_rng1 (ja_cons je_var ja_nil)) (g_name 2) (js_asg (je_op ok_add je_var (je_lcO (vs := [3]) (g_name 3) (fun _ _ h => h) jt_yes (je_op ok_add je_var (je_tup (ja_cons je_var ja_nil)))))))
      (js_ret (je_cb ok_sort (ja_cons je_var ja_nil)))))
theorem ok__law_threshold (W : Fx K mg) {P0 : Addr} (TB : LamX.TabB base mg W.cc P0) : FnOk P w K mg base CX0 2 W.f__law_threshold W.fd__law_threshold [("many" : Str), ("quorum" : Str)] (spG (T0 P0) K m__law_threshold) := by
  refine fn_ok W.F__law_threshold sc__law_threshold rfl rfl fun cdv A outer s H vs E hr => ?_
  refine ⟨_, (pss_one (ps_ret (pe_callTy (tupleK K) (by rfl) W.n_tuple (by decide +kernel) (pa_cons (pe_lc (own := [(("lot" : Str), 2)]) rfl sc__law_threshold.nd (seqK K (pe_call (ok__law_all W TB) (hr.mono (by omega)) (by rfl) W.g__law_all W.F__law_all.kp (b__law_all W) .nil pass0 (pa_cons (pv 0) pa_nil))) (by exact Pl.blkOk_by (N := N__law_threshold) (sc := defScope s__law_threshold) (by decide +kernel)) (fun _ _ _ _ _ => (pg_name (i := 2) sc__law_threshold.nd rfl (by first | exact .inl rfl | exact .inr rfl))) (fun _ _ _ _ _ => (pts_one (pt_cmpR (eqK K (room64 hr)) (pe_callB (lenK K) (by rfl) W.n_len (by decide +kernel) (pa_cons (pv 2) pa_nil)) (pv 1) (nomark _)))) (fun _ _ _ _ _ => (pv 2))) pa_nil)))), ?_⟩
  exact (js_ret (je_cb ok_tup (ja_cons (je_lc (vs := [2]) (ji_seq (je_call0 (T := T0 P0) rfl rfl (ja_cons je_var ja_nil))) (g_name 2) (fun _ _ h => h) (jt_val (je_op ok_eq (je_cb ok_len (ja_cons je_var ja_nil)) je_var)) je_var) ja_nil)))
theorem ok__law_lot (W : Fx K mg) {P0 : Addr} (TB : LamX.TabB base mg W.cc P0) : FnOk P w K mg base CX0 2 W.f__law_lot W.fd__law_lot [("box" : Str), ("many" : Str)] (spG (T0 P0) K m__law_lot) := by
  refine fn_ok W.F__law_lot sc__law_lot rfl rfl fun cdv A outer s H vs E hr => ?_
  refine ⟨_, (pss_cons (ps_par (i := 2) (j := 3) rfl sc__law_lot.nd rfl rfl (by decide) rfl rfl (pa_cons (pe_call (ok__law_take W TB) (hr.mono (by omega)) (by rfl) W.g__law_take W.F__law_take.kp (b__law_take W) .nil pass0 (pa_cons (pv 0) (pa_cons (pv 1) pa_nil))) (pa_cons (pe_lst pa_nil) pa_nil)) rfl)
      (pss_cons (ps_set (i := 4) sc__law_lot.nd rfl (by first | exact .inl rfl | exact .inr rfl) (pe_op (addK K) pe_int (pe_call (ok__law_take W TB) (hr.mono (by omega)) (by rfl) W.g__law_take W.F__law_take.kp (b__law_take W) .nil pass0 (pa_cons (pv 0) (pa_cons pe_int pa_nil)))))
      (pss_cons (ps_for PassesOwn.never rfl (pi_range1 (by rfl) W.n_range (pa_cons (pv 1) pa_nil)) (pg_name (i := 5) sc__law_lot.nd rfl (by first | exact .inl rfl | exact .inr rfl)) (pss_one (ps_if (PW.pt (pw_or (pt_cmpR (eqK K (room64 hr)) (pv 5) (pv 2) (nomark _)) (pw_or1 (pt_cmpR op_lt (pe_call (ok__law_take W TB) (hr.mono (by omega)) (by rfl) W.g__law_take W.F__law_take.kp (b__law_take W) .nil pass0 (pa_cons (pv 0) (pa_cons pe_int pa_nil))) (pv 4) (nomark _))))) (pss_one (ps_expr (pe_bm PySem.F.plainAttrs_list PySem.F.slot_list_append PySem.F.type_list_append mt_append (pv 3) (pa_cons (pv 5) pa_nil)))) pss_nil)))
      (pss_one (ps_ret (pe_callTy (tupleK K) (by rfl) W.n_tuple (by decide +kernel) (pa_cons (pv 3) pa_nil))))))), ?_⟩
  exact (js_seq (js_parX (je_call0 (T := T0 P0) rfl rfl (ja_cons je_var (ja_cons je_var ja_nil))) (je_lst ja_nil))
      (js_seq (js_asg (je_op ok_add je_int (je_call0 (T := T0 P0) rfl rfl (ja_cons je_var (ja_cons je_int ja_nil)))))
      (js_seq (js_for (ji_rng1 (ja_cons je_var ja_nil)) (g_name 5) (js_if (jt_or (jt_val (je_op ok_eq je_var je_var)) (jt_val (je_op ok_lt (je_call0 (T := T0 P0) rfl rfl (ja_cons je_var (ja_cons je_int ja_nil))) je_var))) (js_app je_var) js_next))
      (js_ret (je_cb ok_tup (ja_cons je_var ja_nil))))))
theorem ok__law_over (W : Fx K mg) {P0 : Addr} (TB : LamX.TabB base mg W.cc P0) : FnOk P w K mg base CX0 3 W.f__law_over W.fd__law_over [("box" : Str), ("many" : Str)] (spG (T0 P0) K m__law_over) := by
  refine fn_ok W.F__law_over sc__law_over rfl rfl fun cdv A outer s H vs E hr => ?_
  refine ⟨_, (pss_cons (ps_set (i := 2) sc__law_over.nd rfl (by first | exact .inl rfl | exact .inr rfl) (pe_call (ok__law_take W TB) (hr.mono (by omega)) (by rfl) W.g__law_take W.F__law_take.kp (b__law_take W) .nil pass0 (pa_cons (pv 0) (pa_cons pe_int pa_nil))))
      (pss_cons (ps_if (pt_cmpR (eqK K (room64 hr)) (pv 2) pe_int (nomark _)) (pss_one (ps_ret (pe_call (ok__law_threshold W TB) (hr.mono (by omega)) (by rfl) W.g__law_threshold W.F__law_threshold.kp (b__law_threshold W) .nil pass0 (pa_cons (pv 1) (pa_cons (pe_op (addK K) pe_int (pe_call (ok__law_take W TB) (hr.mono (by omega)) (by rfl) W.g__law_take W.F__law_take.kp (b__law_take W) .nil pass0 (pa_cons (pv 0) (pa_cons (pv 1) pa_nil)))) pa_nil))))) pss_nil)
      (pss_one (ps_ret (pe_call (ok__law_least W TB) (hr.mono (by omega)) (by rfl) W.g__law_least W.F__law_least.kp (b__law_least W) .nil pass0 (pa_cons (pe_lc (own := [(("turn" : Str), 3)]) rfl sc__law_over.nd (pi_range1 (by rfl) W.n_range (pa_cons (pe_op (addK K) pe_int (pe_call (ok__law_take W TB) (hr.mono (by omega)) (by rfl) W.g__law_take W.F__law_take.kp (b__law_take W) .nil pass0 (pa_cons (pv 0) (pa_cons pe_int pa_nil)))) pa_nil)) (by exact Pl.blkOk_by (N := N__law_over) (sc := defScope s__law_over) (by decide +kernel)) (fun _ _ _ _ _ => (pg_name (i := 3) sc__law_over.nd rfl (by first | exact .inl rfl | exact .inr rfl))) (fun _ _ _ _ _ => pts_nil) (fun _ _ _ _ _ => (pe_call (ok__law_lot W TB) (hr.mono (by omega)) (by rfl) W.g__law_lot W.F__law_lot.kp (b__law_lot W) .nil pass0 (pa_cons (pv 0) (pa_cons (pv 1) pa_nil))))) pa_nil)))))), ?_⟩
  exact (js_seq (js_asg (je_call0 (T := T0 P0) rfl rfl (ja_cons je_var (ja_cons je_int ja_nil))))
      (js_seq (js_if (jt_val (je_op ok_eq je_var je_int)) (js_ret (je_call0 (T := T0 P0) rfl rfl (ja_cons je_var (ja_cons (je_op ok_add je_int (je_call0 (T := T0 P0) rfl rfl (ja_cons je_var (ja_cons je_var ja_nil)))) ja_nil)))) js_next)
      (js_ret (je_call0 (T := T0 P0) rfl rfl (ja_cons (je_lc (vs := [3]) (ji_rng1 (ja_cons (je_op ok_add je_int (je_call0 (T := T0 P0) rfl rfl (ja_cons je_var (ja_cons je_int ja_nil)))) ja_nil)) (g_name 3) (fun _ _ h => h) jt_yes (je_call0 (T := T0 P0) rfl rfl (ja_cons je_var (ja_cons je_var ja_nil)))) ja_nil)))))
theorem ok_is_within (W : Fx K mg) {P0 : Addr} (TB : LamX.TabB base mg W.cc P0) : FnOk P w K mg base CX0 1 W.f_is_within W.fd_is_within [("one" : Str), ("two" : Str)] (spG (T0 P0) K m_is_within) := by
  refine fn_ok W.F_is_within sc_is_within rfl rfl fun cdv A outer s H vs E hr => ?_
  refine ⟨_, (pss_one (ps_ret (pe_cmpR (eqK K (room64 hr)) (pe_callB (lenK K) (by rfl) W.n_len (by decide +kernel) (pa_cons (pe_lc (own := [(("house" : Str), 2)]) rfl sc_is_within.nd (seqK K (pv 0)) (by exact Pl.blkOk_by (N := N_is_within) (sc := defScope s_is_within) (by decide +kernel)) (fun _ _ _ _ _ => (pg_name (i := 2) sc_is_within.nd rfl (by first | exact .inl rfl | exact .inr rfl))) (fun _ _ _ _ _ => (pts_one (pt_cmpR (notInK K (room_u hr)) (pv 2) (pv 1) (by rfl)))) (fun _ _ _ _ _ => (pv 2))) pa_nil)) pe_int (nomark _)))), ?_⟩
  exact (js_ret (je_op ok_eq (je_cb ok_len (ja_cons (je_lcO (vs := [2]) (g_name 2) (fun _ _ h => h) (jt_val (je_op ok_notIn je_var je_var)) je_var) ja_nil)) je_int))
theorem ok_lot_holds (W : Fx K mg) {P0 : Addr} (TB : LamX.TabB base mg W.cc P0) : FnOk P w K mg base CX0 2 W.f_lot_holds W.fd_lot_holds [("family" : Str), ("lot" : Str)] (spG (T0 P0) K m_lot_holds) := by
  refine fn_ok W.F_lot_holds sc_lot_holds rfl rfl fun cdv A outer s H vs E hr => ?_
  refine ⟨_, (pss_one (ps_ret (pe_cmpR op_gt (pe_callB (lenK K) (by rfl) W.n_len (by decide +kernel) (pa_cons (pe_lc (own := [(("one" : Str), 2)]) rfl sc_lot_holds.nd (seqK K (pv 0)) (by exact Pl.blkOk_by (N := N_lot_holds) (sc := defScope s_lot_holds) (by decide +kernel)) (fun _ _ _ _ _ => (pg_name (i := 2) sc_lot_holds.nd rfl (by first | exact .inl rfl | exact .inr rfl))) (fun _ _ _ _ _ => (pts_one (pt_val (pe_call (ok_is_within W TB) (hr.mono (by omega)) (by rfl) W.g_is_within W.F_is_within.kp (b_is_within W) .nil pass0 (pa_cons (pv 2) (pa_cons (pv 1) pa_nil)))))) (fun _ _ _ _ _ => (pv 2))) pa_nil)) pe_int (nomark _)))), ?_⟩
  exact (js_ret (je_op ok_gt (je_cb ok_len (ja_cons (je_lcO (vs := [2]) (g_name 2) (fun _ _ h => h) (jt_B (je_call0 (T := T0 P0) rfl rfl (ja_cons je_var (ja_cons je_var ja_nil)))) je_var) ja_nil)) je_int))
theorem ok_least_lots (W : Fx K mg) {P0 : Addr} (TB : LamX.TabB base mg W.cc P0) : FnOk P w K mg base CX0 3 W.f_least_lots W.fd_least_lots [("lots" : Str)] (spG (T0 P0) K m_least_lots) := by
  refine fn_okC W.F_least_lots sc_least_lots rfl rfl fun A outer s H vs E hr => ?_
  rw [W.hcc] at hr ⊢
  refine ⟨_, (pss_cons (ps_set (i := 1) sc_least_lots.nd rfl (by first | exact .inl rfl | exact .inr rfl) (pe_lst pa_nil))
      (pss_cons (ps_for PassesOwn.never rfl (seqK K (pe_sortK (T := (T0 P0).tb) TB rfl (by exact List.mem_singleton.mpr rfl) (fun q hq _ => by rw [List.mem_singleton.mp hq]; rfl) (by exact keyS_by (by decide +kernel)) W.n_len (by rfl) W.n_sorted hr (by decide +kernel) (by decide +kernel) (pv 0))) (pg_name (i := 2) sc_least_lots.nd rfl (by first | exact .inl rfl | exact .inr rfl)) (pss_one (ps_if (pt_not (pt_val (pe_call (ok_lot_holds W TB) (hr.mono (by omega)) (by rfl) W.g_lot_holds W.F_lot_holds.kp (b_lot_holds W) .nil pass0 (pa_cons (pv 1) (pa_cons (pv 2) pa_nil))))) (pss_one (ps_expr (pe_bm PySem.F.plainAttrs_list PySem.F.slot_list_append PySem.F.type_list_append mt_append (pv 1) (pa_cons (pv 2) pa_nil)))) pss_nil)))
      (pss_one (ps_ret (pe_callTy (tupleK K) (by rfl) W.n_tuple (by decide +kernel) (pa_cons (pe_callB (sortedK K (room64 hr)) (by rfl) W.n_sorted (by decide +kernel) (pa_cons (pv 1) pa_nil)) pa_nil)))))), ?_⟩
  exact (js_seq (js_asg (je_lst ja_nil))
      (js_seq (js_for (ji_seq (je_sortK (T := (T0 P0).tb) rfl je_var)) (g_name 2) (js_if (jt_not (jt_B (je_call0 (T := T0 P0) rfl rfl (ja_cons je_var (ja_cons je_var ja_nil))))) (js_app je_var) js_next))
      (js_ret (je_cb ok_tup (ja_cons (je_cb ok_sort (ja_cons je_var ja_nil)) ja_nil)))))
theorem ok_meets (W : Fx K mg) {P0 : Addr} (TB : LamX.TabB base mg W.cc P0) : FnOk P w K mg base CX0 1 W.f_meets W.fd_meets [("one" : Str), ("two" : Str)] (spG (T0 P0) K m_meets) := by
  refine fn_ok W.F_meets sc_meets rfl rfl fun cdv A outer s H vs E hr => ?_
  refine ⟨_, (pss_one (ps_ret (pe_cmpR op_gt (pe_callB (lenK K) (by rfl) W.n_len (by decide +kernel) (pa_cons (pe_lc (own := [(("house" : Str), 2)]) rfl sc_meets.nd (seqK K (pv 0)) (by exact Pl.blkOk_by (N := N_meets) (sc := defScope s_meets) (by decide +kernel)) (fun _ _ _ _ _ => (pg_name (i := 2) sc_meets.nd rfl (by first | exact .inl rfl | exact .inr rfl))) (fun _ _ _ _ _ => (pts_one (pt_cmpR (inK K (room_u hr)) (pv 2) (pv 1) (by rfl)))) (fun _ _ _ _ _ => (pv 2))) pa_nil)) pe_int (nomark _)))), ?_⟩
  exact (js_ret (je_op ok_gt (je_cb ok_len (ja_cons (je_lcO (vs := [2]) (g_name 2) (fun _ _ h => h) (jt_val (je_op ok_in je_var je_var)) je_var) ja_nil)) je_int))
theorem ok_with_house (W : Fx K mg) {P0 : Addr} (TB : LamX.TabB base mg W.cc P0) : FnOk P w K mg base CX0 1 W.f_with_house W.fd_with_house [("lot" : Str), ("house" : Str)] (spG (T0 P0) K m_with_house) := by
  refine fn_ok W.F_with_house sc_with_house rfl rfl fun cdv A outer s H vs E hr => ?_
  refine ⟨_, (pss_one (ps_ret (pe_callTy (tupleK K) (by rfl) W.n_tuple (by decide +kernel) (pa_cons (pe_callB (sortedK K (room64 hr)) (by rfl) W.n_sorted (by decide +kernel) (pa_cons (pe_op (addK K) (pv 0) (pe_tup (pa_cons (pv 1) pa_nil))) pa_nil)) pa_nil)))), ?_⟩
  exact (js_ret (je_cb ok_tup (ja_cons (je_cb ok_sort (ja_cons (je_op ok_add je_var (je_tup (ja_cons je_var ja_nil))) ja_nil)) ja_nil)))
theorem ok_blocker_of (W : Fx K mg) {P0 : Addr} (TB : LamX.TabB base mg W.cc P0) : FnOk P w K mg base CX0 4 W.f_blocker_of W.fd_blocker_of [("family" : Str), ("many" : Str)] (spG (T0 P0) K m_blocker_of) := by
  refine fn_ok W.F_blocker_of sc_blocker_of rfl rfl fun cdv A outer s H vs E hr => ?_
  refine ⟨_, (pss_cons (ps_set (i := 2) sc_blocker_of.nd rfl (by first | exact .inl rfl | exact .inr rfl) (pe_tup (pa_cons (pe_tup pa_nil) pa_nil)))
      (pss_cons (ps_for PassesOwn.never rfl (seqK K (pv 0)) (pg_name (i := 3) sc_blocker_of.nd rfl (by first | exact .inl rfl | exact .inr rfl)) (pss_cons (ps_set (i := 4) sc_blocker_of.nd rfl (by first | exact .inl rfl | exact .inr rfl) (pe_lst pa_nil))
      (pss_cons (ps_for PassesOwn.never rfl (seqK K (pv 2)) (pg_name (i := 5) sc_blocker_of.nd rfl (by first | exact .inl rfl | exact .inr rfl)) (pss_one (ps_if (pt_val (pe_call (ok_meets W TB) (hr.mono (by omega)) (by rfl) W.g_meets W.F_meets.kp (b_meets W) .nil pass0 (pa_cons (pv 5) (pa_cons (pv 3) pa_nil)))) (pss_one (ps_expr (pe_bm PySem.F.plainAttrs_list PySem.F.slot_list_append PySem.F.type_list_append mt_append (pv 4) (pa_cons (pv 5) pa_nil)))) (pss_one (ps_expr (pe_bm PySem.F.plainAttrs_list PySem.F.slot_list_extend PySem.F.type_list_extend mt_extend (pv 4) (pa_cons (pe_lc (own := [(("house" : Str), 6)]) rfl sc_blocker_of.nd (seqK K (pv 3)) (by exact Pl.blkOk_by (N := N_blocker_of) (sc := defScope s_blocker_of) (by decide +kernel)) (fun _ _ _ _ _ => (pg_name (i := 6) sc_blocker_of.nd rfl (by first | exact .inl rfl | exact .inr rfl))) (fun _ _ _ _ _ => pts_nil) (fun _ _ _ _ _ => (pe_call (ok_with_house W TB) (hr.mono (by omega)) (by rfl) W.g_with_house W.F_with_house.kp (b_with_house W) .nil pass0 (pa_cons (pv 5) (pa_cons (pv 6) pa_nil))))) pa_nil)))))))
      (pss_one (ps_set (i := 2) sc_blocker_of.nd rfl (by first | exact .inl rfl | exact .inr rfl) (pe_call (ok_least_lots W TB) (hr.mono (by omega)) (by rfl) W.g_least_lots W.F_least_lots.kp (b_least_lots W) .nil pass0 (pa_cons (pv 4) pa_nil)))))))
      (pss_one (ps_ret (pv 2))))), ?_⟩
  exact (js_seq (js_asg (je_tup (ja_cons (je_tup ja_nil) ja_nil)))
      (js_seq (js_for (ji_seq je_var) (g_name 3) (js_seq (js_asg (je_lst ja_nil))
      (js_seq (js_for (ji_seq je_var) (g_name 5) (js_if (jt_B (je_call0 (T := T0 P0) rfl rfl (ja_cons je_var (ja_cons je_var ja_nil)))) (js_app je_var) (js_ext (je_lcO (vs := [6]) (g_name 6) (fun _ _ h => h) jt_yes (je_call0 (T := T0 P0) rfl rfl (ja_cons je_var (ja_cons je_var ja_nil)))))))
      (js_asg (je_call0 (T := T0 P0) rfl rfl (ja_cons je_var ja_nil))))))
      (js_ret je_var)))
theorem ok__law_composed (W : Fx K mg) {P0 : Addr} (TB : LamX.TabB base mg W.cc P0) : FnOk P w K mg base CX0 1 W.f__law_composed W.fd__law_composed [("outer" : Str), ("inners" : Str)] (spG (T0 P0) K m__law_composed) := by
  refine fn_ok W.F__law_composed sc__law_composed rfl rfl fun cdv A outer s H vs E hr => ?_
  refine ⟨_, (pss_cons (ps_asg (pe_tup (pa_cons (pe_lst pa_nil) (pa_cons pe_int pa_nil))) (tgK (n := 2) K rfl (pgs_cons (pg_name (i := 2) sc__law_composed.nd rfl (by first | exact .inl rfl | exact .inr rfl)) (pgs_cons (pg_name (i := 3) sc__law_composed.nd rfl (by first | exact .inl rfl | exact .inr rfl)) pgs_nil))))
      (pss_cons (ps_for PassesOwn.never rfl (seqK K (pv 1)) (tgK (n := 2) K rfl (pgs_cons (pg_name (i := 4) sc__law_composed.nd rfl (by first | exact .inl rfl | exact .inr rfl)) (pgs_cons (pg_name (i := 5) sc__law_composed.nd rfl (by first | exact .inl rfl | exact .inr rfl)) pgs_nil))) (pss_cons (ps_expr (pe_bm PySem.F.plainAttrs_list PySem.F.slot_list_append PySem.F.type_list_append mt_append (pv 2) (pa_cons (pe_lc (own := [(("lot" : Str), 7)]) rfl sc__law_composed.nd (seqK K (pv 5)) (by exact Pl.blkOk_by (N := N__law_composed) (sc := defScope s__law_composed) (by decide +kernel)) (fun _ _ _ _ _ => (pg_name (i := 7) sc__law_composed.nd rfl (by first | exact .inl rfl | exact .inr rfl))) (fun _ _ _ _ _ => pts_nil) (fun _ _ _ _ _ => (pe_callTy (tupleK K) (by rfl) W.n_tuple (by decide +kernel) (pa_cons (pe_lc (own := [(("house" : Str), 9)]) rfl sc__law_composed.nd (seqK K (pv 7)) (by exact Pl.blkOk_by (by kernel_rfl)) (fun _ _ _ _ _ => (pg_name (i := 9) sc__law_composed.nd rfl (by first | exact .inl rfl | exact .inr rfl))) (fun _ _ _ _ _ => pts_nil) (fun _ _ _ _ _ => (pe_op (addK K) (pv 3) (pv 9)))) pa_nil)))) pa_nil)))
      (pss_one (ps_set (i := 3) sc__law_composed.nd rfl (by first | exact .inl rfl | exact .inr rfl) (pe_op (addK K) (pv 3) (pv 4))))))
      (pss_cons (ps_set (i := 6) sc__law_composed.nd rfl (by first | exact .inl rfl | exact .inr rfl) (pe_lst pa_nil))
      (pss_cons (ps_for PassesOwn.never rfl (seqK K (pv 0)) (pg_name (i := 7) sc__law_composed.nd rfl (by first | exact .inl rfl | exact .inr rfl)) (pss_cons (ps_set (i := 8) sc__law_composed.nd rfl (by first | exact .inl rfl | exact .inr rfl) (pe_lst (pa_cons (pe_tup pa_nil) pa_nil)))
      (pss_cons (ps_for PassesOwn.never rfl (seqK K (pv 7)) (pg_name (i := 9) sc__law_composed.nd rfl (by first | exact .inl rfl | exact .inr rfl)) (pss_cons (ps_set (i := 10) sc__law_composed.nd rfl (by first | exact .inl rfl | exact .inr rfl) (pe_lst pa_nil))
      (pss_cons (ps_for PassesOwn.never rfl (seqK K (pv 8)) (pg_name (i := 11) sc__law_composed.nd rfl (by first | exact .inl rfl | exact .inr rfl)) (pss_one (ps_set (i := 10) sc__law_composed.nd rfl (by first | exact .inl rfl | exact .inr rfl) (pe_op (addK K) (pv 10) (pe_lc (own := [(("two" : Str), 12)]) rfl sc__law_composed.nd (seqK K (pe_ix (ixK K) (pv 2) (pv 9) (fun _ _ => rfl))) (by exact Pl.blkOk_by (N := N__law_composed) (sc := defScope s__law_composed) (by decide +kernel)) (fun _ _ _ _ _ => (pg_name (i := 12) sc__law_composed.nd rfl (by first | exact .inl rfl | exact .inr rfl))) (fun _ _ _ _ _ => pts_nil) (fun _ _ _ _ _ => (pe_op (addK K) (pv 11) (pv 12))))))))
      (pss_one (ps_set (i := 8) sc__law_composed.nd rfl (by first | exact .inl rfl | exact .inr rfl) (pv 10))))))
      (pss_one (ps_set (i := 6) sc__law_composed.nd rfl (by first | exact .inl rfl | exact .inr rfl) (pe_op (addK K) (pv 6) (pv 8)))))))
      (pss_one (ps_ret (pe_callTy (tupleK K) (by rfl) W.n_tuple (by decide +kernel) (pa_cons (pe_callB (sortedK K (room64 hr)) (by rfl) W.n_sorted (by decide +kernel) (pa_cons (pv 6) pa_nil)) pa_nil)))))))), ?_⟩
  exact (js_seq (js_parT (je_lst ja_nil) je_int)
      (js_seq (js_for (ji_seq je_var) (g_tup (gs_cons (g_name 4) (gs_cons (g_name 5) gs_nil))) (js_seq (js_app (je_lcO (vs := [7]) (g_name 7) (fun _ _ h => h) jt_yes (je_cb ok_tup (ja_cons (je_lc (vs := [9]) (ji_seq je_var) (g_name 9) (fun _ _ h => h) jt_yes (je_op ok_add je_var je_var)) ja_nil))))
      (js_asg (je_op ok_add je_var je_var))))
      (js_seq (js_asg (je_lst ja_nil))
      (js_seq (js_for (ji_seq je_var) (g_name 7) (js_seq (js_asg (je_lst (ja_cons (je_tup ja_nil) ja_nil)))
      (js_seq (js_for (ji_seq je_var) (g_name 9) (js_seq (js_asg (je_lst ja_nil))
      (js_seq (js_for (ji_seq je_var) (g_name 11) (js_asg (je_op ok_add je_var (je_lc (vs := [12]) (ji_seq (je_op ok_ix je_var je_var)) (g_name 12) (fun _ _ h => h) jt_yes (je_op ok_add je_var je_var)))))
      (js_asg je_var))))
      (js_asg (je_op ok_add je_var je_var)))))
      (js_ret (je_cb ok_tup (ja_cons (je_cb ok_sort (ja_cons je_var ja_nil)) ja_nil)))))))
theorem ok__law_same (W : Fx K mg) {P0 : Addr} (TB : LamX.TabB base mg W.cc P0) : ∀ n : Nat, FnOk P w K mg base CX0 (n + 0) W.f__law_same W.fd__law_same [("told" : Str), ("due" : Str)] (spG (T0 P0) K (m__law_same n))
  | 0 => fnok_none
  | n + 1 => by
    have ih := ok__law_same W TB n
    show FnOk P w K mg base CX0 (n + 0 + 1) W.f__law_same W.fd__law_same [("told" : Str), ("due" : Str)] (spG (T0 P0) K (runDef 2 2 (b__law_sameM (m__law_same n))))
    refine fn_ok W.F__law_same sc__law_same rfl rfl fun cdv A outer s H vs E hr => ?_
    refine ⟨_, (pss_cons (ps_if (pt_val (pe_callB (isiK K) (by rfl) W.n_isinstance (by decide +kernel) (pa_cons (pv 1) (pa_cons (pe_bltn (v := .ty "tuple") (by rfl) W.n_tuple (by decide +kernel) rfl) pa_nil)))) (pss_cons (ps_if (PW.pt (pw_or (pt_not (pt_val (pe_callB (isiK K) (by rfl) W.n_isinstance (by decide +kernel) (pa_cons (pv 0) (pa_cons (pe_bltn (v := .ty "tuple") (by rfl) W.n_tuple (by decide +kernel) rfl) pa_nil))))) (pw_or1 (pt_cmpR (neK K (room64 hr)) (pe_callB (lenK K) (by rfl) W.n_len (by decide +kernel) (pa_cons (pv 0) pa_nil)) (pe_callB (lenK K) (by rfl) W.n_len (by decide +kernel) (pa_cons (pv 1) pa_nil)) (nomark _))))) (pss_one (ps_ret pe_bl)) pss_nil)
      (pss_cons (ps_for PassesOwn.never rfl (RZ.pi_zipA (by rfl) W.n_zip (pa_cons (pv 0) (pa_cons (pv 1) pa_nil))) (tgK (n := 2) K rfl (pgs_cons (pg_name (i := 2) sc__law_same.nd rfl (by first | exact .inl rfl | exact .inr rfl)) (pgs_cons (pg_name (i := 3) sc__law_same.nd rfl (by first | exact .inl rfl | exact .inr rfl)) pgs_nil))) (pss_one (ps_if (pt_not (pt_val (pe_call ih hr (by rfl) W.g__law_same W.F__law_same.kp (b__law_same W) .nil pass0 (pa_cons (pv 2) (pa_cons (pv 3) pa_nil))))) (pss_one (ps_ret pe_bl)) pss_nil)))
      (pss_one (ps_ret pe_bl)))) pss_nil)
      (pss_cons (ps_if (pt_cmpR op_isN (pv 1) pe_non (nomark _)) (pss_one (ps_ret (pe_cmpR op_isN (pv 0) pe_non (nomark _)))) pss_nil)
      (pss_cons (ps_if (PW.pt (pw_or (pt_cmpR op_isBG (pv 1) pe_bl (nomark _)) (pw_or1 (pt_cmpR op_isBG (pv 1) pe_bl (nomark _))))) (pss_one (ps_ret (pe_and (pe_callB (isiK K) (by rfl) W.n_isinstance (by decide +kernel) (pa_cons (pv 0) (pa_cons (pe_bltn (v := .ty "bool") (by rfl) W.n_bool (by decide +kernel) rfl) pa_nil))) (pe_one (pe_cmpR (eqK K (room64 hr)) (pv 0) (pv 1) (nomark _)))))) pss_nil)
      (pss_cons (ps_if (pt_val (pe_callB (isiK K) (by rfl) W.n_isinstance (by decide +kernel) (pa_cons (pv 1) (pa_cons (pe_bltn (v := .ty "int") (by rfl) W.n_int (by decide +kernel) rfl) pa_nil)))) (pss_one (ps_ret (pe_and (pe_callB (isiK K) (by rfl) W.n_isinstance (by decide +kernel) (pa_cons (pv 0) (pa_cons (pe_bltn (v := .ty "int") (by rfl) W.n_int (by decide +kernel) rfl) pa_nil))) (pe_and (pe_not (pe_callB (isiK K) (by rfl) W.n_isinstance (by decide +kernel) (pa_cons (pv 0) (pa_cons (pe_bltn (v := .ty "bool") (by rfl) W.n_bool (by decide +kernel) rfl) pa_nil)))) (pe_one (pe_cmpR (eqK K (room64 hr)) (pv 0) (pv 1) (nomark _))))))) pss_nil)
      (pss_one (ps_ret (pe_and (pe_callB (isiK K) (by rfl) W.n_isinstance (by decide +kernel) (pa_cons (pv 0) (pa_cons (pe_bltn (v := .ty "str") (by rfl) W.n_str (by decide +kernel) rfl) pa_nil))) (pe_and (pe_callB (isiK K) (by rfl) W.n_isinstance (by decide +kernel) (pa_cons (pv 1) (pa_cons (pe_bltn (v := .ty "str") (by rfl) W.n_str (by decide +kernel) rfl) pa_nil))) (pe_one (pe_cmpR (eqK K (room64 hr)) (pv 0) (pv 1) (nomark _))))))))))), ?_⟩
    exact (js_seq (js_if (jt_B (je_isi (n := .tuple) je_var)) (js_seq (js_if (jt_or (jt_not (jt_B (je_isi (n := .tuple) je_var))) (jt_val (je_op ok_ne (je_cb ok_len (ja_cons je_var ja_nil)) (je_cb ok_len (ja_cons je_var ja_nil))))) (js_ret je_bl) js_next)
      (js_seq (js_for (ji_zip (ja_cons je_var (ja_cons je_var ja_nil))) (g_tup (gs_cons (g_name 2) (gs_cons (g_name 3) gs_nil))) (js_if (jt_not (jt_B (je_call0 (T := T0 P0) rfl rfl (ja_cons je_var (ja_cons je_var ja_nil))))) (js_ret je_bl) js_next))
      (js_ret je_bl))) js_next)
      (js_seq (js_if (jt_val (je_op ok_isN je_var je_non)) (js_ret (je_op ok_isN je_var je_non)) js_next)
      (js_seq (js_if (jt_or (jt_val (je_op ok_isB je_var je_bl)) (jt_val (je_op ok_isB je_var je_bl))) (js_ret (je_andV (je_isi (n := .bool) je_var) (je_op ok_eq je_var je_var))) js_next)
      (js_seq (js_if (jt_B (je_isi (n := .int) je_var)) (js_ret (je_andV (je_isi (n := .int) je_var) (je_andV (je_notV (je_isi (n := .bool) je_var)) (je_op ok_eq je_var je_var)))) js_next)
      (js_ret (je_andV (je_isi (n := .str) je_var) (je_andV (je_isi (n := .str) je_var) (je_op ok_eq je_var je_var))))))))
theorem ok_moved_lots (W : Fx K mg) {P0 : Addr} (TB : LamX.TabB base mg W.cc P0) : FnOk P w K mg base CX0 1 W.f_moved_lots W.fd_moved_lots [("family" : Str), ("first" : Str)] (spG (T0 P0) K m_moved_lots) := by
  refine fn_ok W.F_moved_lots sc_moved_lots rfl rfl fun cdv A outer s H vs E hr => ?_
  refine ⟨_, (pss_one (ps_ret (pe_lc (own := [(("lot" : Str), 2)]) rfl sc_moved_lots.nd (seqK K (pv 0)) (by exact Pl.blkOk_by (N := N_moved_lots) (sc := defScope s_moved_lots) (by decide +kernel)) (fun _ _ _ _ _ => (pg_name (i := 2) sc_moved_lots.nd rfl (by first | exact .inl rfl | exact .inr rfl))) (fun _ _ _ _ _ => pts_nil) (fun _ _ _ _ _ => (pe_callTy (tupleK K) (by rfl) W.n_tuple (by decide +kernel) (pa_cons (pe_lc (own := [(("house" : Str), 3)]) rfl sc_moved_lots.nd (seqK K (pv 2)) (by exact Pl.blkOk_by (by kernel_rfl)) (fun _ _ _ _ _ => (pg_name (i := 3) sc_moved_lots.nd rfl (by first | exact .inl rfl | exact .inr rfl))) (fun _ _ _ _ _ => pts_nil) (fun _ _ _ _ _ => (pe_op (addK K) (pv 1) (pv 3)))) pa_nil)))))), ?_⟩
  exact (js_ret (je_lcO (vs := [2]) (g_name 2) (fun _ _ h => h) jt_yes (je_cb ok_tup (ja_cons (je_lc (vs := [3]) (ji_seq je_var) (g_name 3) (fun _ _ h => h) jt_yes (je_op ok_add je_var je_var)) ja_nil))))
theorem ok_composed_family (W : Fx K mg) {P0 : Addr} (TB : LamX.TabB base mg W.cc P0) : FnOk P w K mg base CX0 2 W.f_composed_family W.fd_composed_family [("outer" : Str), ("inners" : Str)] (spG (T0 P0) K m_composed_family) := by
  refine fn_ok W.F_composed_family sc_composed_family rfl rfl fun cdv A outer s H vs E hr => ?_
  refine ⟨_, (pss_cons (ps_asg (pe_tup (pa_cons (pe_lst pa_nil) (pa_cons pe_int pa_nil))) (tgK (n := 2) K rfl (pgs_cons (pg_name (i := 2) sc_composed_family.nd rfl (by first | exact .inl rfl | exact .inr rfl)) (pgs_cons (pg_name (i := 3) sc_composed_family.nd rfl (by first | exact .inl rfl | exact .inr rfl)) pgs_nil))))
      (pss_cons (ps_for PassesOwn.never rfl (seqK K (pv 1)) (tgK (n := 2) K rfl (pgs_cons (pg_name (i := 4) sc_composed_family.nd rfl (by first | exact .inl rfl | exact .inr rfl)) (pgs_cons (pg_name (i := 5) sc_composed_family.nd rfl (by first | exact .inl rfl | exact .inr rfl)) pgs_nil))) (pss_cons (ps_expr (pe_bm PySem.F.plainAttrs_list PySem.F.slot_list_append PySem.F.type_list_append mt_append (pv 2) (pa_cons (pe_call (ok_moved_lots W TB) (hr.mono (by omega)) (by rfl) W.g_moved_lots W.F_moved_lots.kp (b_moved_lots W) .nil pass0 (pa_cons (pv 5) (pa_cons (pv 3) pa_nil))) pa_nil)))
      (pss_one (ps_aug (i := 3) sc_composed_family.nd rfl (by first | exact .inl rfl | exact .inr rfl) (pv 4) ip_add))))
      (pss_cons (ps_set (i := 6) sc_composed_family.nd rfl (by first | exact .inl rfl | exact .inr rfl) (pe_lst pa_nil))
      (pss_cons (ps_for PassesOwn.never rfl (seqK K (pv 0)) (pg_name (i := 7) sc_composed_family.nd rfl (by first | exact .inl rfl | exact .inr rfl)) (pss_cons (ps_set (i := 8) sc_composed_family.nd rfl (by first | exact .inl rfl | exact .inr rfl) (pe_lst (pa_cons (pe_tup pa_nil) pa_nil)))
      (pss_cons (ps_for PassesOwn.never rfl (seqK K (pv 7)) (pg_name (i := 9) sc_composed_family.nd rfl (by first | exact .inl rfl | exact .inr rfl)) (pss_one (ps_setLc2 (i := 8) (own := [(("one" : Str), 10), (("two" : Str), 11)]) (vs1 := [11]) rfl sc_composed_family.nd rfl rfl rfl (seqK K (pv 8)) (by exact Pl.blkOk_by (N := N_composed_family) (sc := defScope s_composed_family) (by decide +kernel)) (by decide) (fun _ _ _ _ _ => (pg_name (i := 10) sc_composed_family.nd rfl (by first | exact .inl rfl | exact .inr rfl))) (fun _ _ _ _ _ => pts_nil) (fun _ _ _ _ _ => (seqK K (pe_ix (ixK K) (pv 2) (pv 9) (fun _ _ => rfl)))) (fun _ _ _ _ _ => (pg_name (i := 11) sc_composed_family.nd rfl (by first | exact .inl rfl | exact .inr rfl))) (fun _ _ _ _ _ => pts_nil) (fun _ _ _ _ _ => (pe_op (addK K) (pv 10) (pv 11))))))
      (pss_one (ps_expr (pe_bm PySem.F.plainAttrs_list PySem.F.slot_list_extend PySem.F.type_list_extend mt_extend (pv 6) (pa_cons (pv 8) pa_nil)))))))
      (pss_one (ps_ret (pe_callTy (tupleK K) (by rfl) W.n_tuple (by decide +kernel) (pa_cons (pe_callB (sortedK K (room64 hr)) (by rfl) W.n_sorted (by decide +kernel) (pa_cons (pv 6) pa_nil)) pa_nil)))))))), ?_⟩
  exact (js_seq (js_parT (je_lst ja_nil) je_int)
      (js_seq (js_for (ji_seq je_var) (g_tup (gs_cons (g_name 4) (gs_cons (g_name 5) gs_nil))) (js_seq (js_app (je_call0 (T := T0 P0) rfl rfl (ja_cons je_var (ja_cons je_var ja_nil))))
      (js_aug je_var)))
      (js_seq (js_asg (je_lst ja_nil))
      (js_seq (js_for (ji_seq je_var) (g_name 7) (js_seq (js_asg (je_lst (ja_cons (je_tup ja_nil) ja_nil)))
      (js_seq (js_for (ji_seq je_var) (g_name 9) (js_asg (je_lcO2 (vs := [10, 11]) (vs1 := [11]) (g_name 10) (But.sub (by decide)) jt_yes (ji_seq (je_op ok_ix je_var je_var)) (g_name 11) (fun _ _ h => h) jt_yes (je_op ok_add je_var je_var) (by decide))))
      js_extO)))
      (js_ret (je_cb ok_tup (ja_cons (je_cb ok_sort (ja_cons je_var ja_nil)) ja_nil)))))))
theorem ok__law_mask (W : Fx K mg) {P0 : Addr} (TB : LamX.TabB base mg W.cc P0) : FnOk P w K mg base CX0 1 W.f__law_mask W.fd__law_mask [("lot" : Str)] (spG (T0 P0) K m__law_mask) := by
  refine fn_ok W.F__law_mask sc__law_mask rfl rfl fun cdv A outer s H vs E hr => ?_
  refine ⟨_, (pss_one (ps_ret (pe_callB (sumK K rfl) (by rfl) W.n_sum (by decide +kernel) (pa_cons (pe_lc (own := [(("house" : Str), 1)]) rfl sc__law_mask.nd (seqK K (pv 0)) (by exact Pl.blkOk_by (N := N__law_mask) (sc := defScope s__law_mask) (by decide +kernel)) (fun _ _ _ _ _ => (pg_name (i := 1) sc__law_mask.nd rfl (by first | exact .inl rfl | exact .inr rfl))) (fun _ _ _ _ _ => pts_nil) (fun _ _ _ _ _ => (pe_op op_shl pe_int (pv 1)))) pa_nil)))), ?_⟩
  exact (js_ret (je_cb ok_sum (ja_cons (je_lcO (vs := [1]) (g_name 1) (fun _ _ h => h) jt_yes (je_op ok_shl je_int je_var)) ja_nil)))
theorem ok__law_blocker (W : Fx K mg) {P0 : Addr} (TB : LamX.TabB base mg W.cc P0) : FnOk P w K mg base CX0 2 W.f__law_blocker W.fd__law_blocker [("family" : Str), ("many" : Str)] (spG (T0 P0) K m__law_blocker) := by
  refine fn_ok W.F__law_blocker sc__law_blocker rfl rfl fun cdv A outer s H vs E hr => ?_
  refine ⟨_, (pss_cons (ps_asg (pe_tup (pa_cons (pe_lc (own := [(("lot" : Str), 4)]) rfl sc__law_blocker.nd (seqK K (pv 0)) (by exact Pl.blkOk_by (N := N__law_blocker) (sc := defScope s__law_blocker) (by decide +kernel)) (fun _ _ _ _ _ => (pg_name (i := 4) sc__law_blocker.nd rfl (by first | exact .inl rfl | exact .inr rfl))) (fun _ _ _ _ _ => pts_nil) (fun _ _ _ _ _ => (pe_call (ok__law_mask W TB) (hr.mono (by omega)) (by rfl) W.g__law_mask W.F__law_mask.kp (b__law_mask W) .nil pass0 (pa_cons (pv 4) pa_nil)))) (pa_cons (pe_lst pa_nil) pa_nil))) (tgK (n := 2) K rfl (pgs_cons (pg_name (i := 2) sc__law_blocker.nd rfl (by first | exact .inl rfl | exact .inr rfl)) (pgs_cons (pg_name (i := 3) sc__law_blocker.nd rfl (by first | exact .inl rfl | exact .inr rfl)) pgs_nil))))
      (pss_cons (ps_for PassesOwn.never rfl (pi_range1 (by rfl) W.n_range (pa_cons (pe_op op_shl pe_int (pv 1)) pa_nil)) (pg_name (i := 4) sc__law_blocker.nd rfl (by first | exact .inl rfl | exact .inr rfl)) (pss_one (ps_expr (pe_bm PySem.F.plainAttrs_list PySem.F.slot_list_append PySem.F.type_list_append mt_append (pv 3) (pa_cons (pe_cmpR (eqK K (room64 hr)) (pe_lc (own := [(("mask" : Str), 6)]) rfl sc__law_blocker.nd (seqK K (pv 2)) (by exact Pl.blkOk_by (N := N__law_blocker) (sc := defScope s__law_blocker) (by decide +kernel)) (fun _ _ _ _ _ => (pg_name (i := 6) sc__law_blocker.nd rfl (by first | exact .inl rfl | exact .inr rfl))) (fun _ _ _ _ _ => (pts_one (pt_cmpR (eqK K (room64 hr)) (pe_op op_and (pv 6) (pv 4)) pe_int (nomark _)))) (fun _ _ _ _ _ => pe_int)) (pe_lst pa_nil) (nomark _)) pa_nil)))))
      (pss_cons (ps_set (i := 5) sc__law_blocker.nd rfl (by first | exact .inl rfl | exact .inr rfl) (pe_lst pa_nil))
      (pss_cons (ps_for PassesOwn.never rfl (pi_range1 (by rfl) W.n_range (pa_cons (pe_op op_shl pe_int (pv 1)) pa_nil)) (pg_name (i := 4) sc__law_blocker.nd rfl (by first | exact .inl rfl | exact .inr rfl)) (pss_one (ps_if (PW.pt (pw_and (pt_val (pe_ix (ixK K) (pv 3) (pv 4) (fun _ _ => rfl))) (pw_and1 (pt_cmpR (eqK K (room64 hr)) (pe_lc (own := [(("house" : Str), 7)]) rfl sc__law_blocker.nd (pi_range1 (by rfl) W.n_range (pa_cons (pv 1) pa_nil)) (by exact Pl.blkOk_by (N := N__law_blocker) (sc := defScope s__law_blocker) (by decide +kernel)) (fun _ _ _ _ _ => (pg_name (i := 7) sc__law_blocker.nd rfl (by first | exact .inl rfl | exact .inr rfl))) (fun _ _ _ _ _ => (pts_one (PW.pt (pw_and (pt_truK K (pe_op op_and (pv 4) (pe_op op_shl pe_int (pv 7)))) (pw_and1 (pt_val (pe_ix (ixK K) (pv 3) (pe_op op_sub (pv 4) (pe_op op_shl pe_int (pv 7))) (fun _ _ => rfl)))))))) (fun _ _ _ _ _ => pe_int)) (pe_lst pa_nil) (nomark _))))) (pss_one (ps_expr (pe_bm PySem.F.plainAttrs_list PySem.F.slot_list_append PySem.F.type_list_append mt_append (pv 5) (pa_cons (pe_callTy (tupleK K) (by rfl) W.n_tuple (by decide +kernel) (pa_cons (pe_lc (own := [(("house" : Str), 7)]) rfl sc__law_blocker.nd (pi_range1 (by rfl) W.n_range (pa_cons (pv 1) pa_nil)) (by exact Pl.blkOk_by (N := N__law_blocker) (sc := defScope s__law_blocker) (by decide +kernel)) (fun _ _ _ _ _ => (pg_name (i := 7) sc__law_blocker.nd rfl (by first | exact .inl rfl | exact .inr rfl))) (fun _ _ _ _ _ => (pts_one (pt_truK K (pe_op op_and (pv 4) (pe_op op_shl pe_int (pv 7)))))) (fun _ _ _ _ _ => (pv 7))) pa_nil)) pa_nil)))) pss_nil)))
      (pss_one (ps_ret (pe_callTy (tupleK K) (by rfl) W.n_tuple (by decide +kernel) (pa_cons (pe_callB (sortedK K (room64 hr)) (by rfl) W.n_sorted (by decide +kernel) (pa_cons (pv 5) pa_nil)) pa_nil)))))))), ?_⟩
  exact (js_seq (js_parT (je_lcO (vs := [4]) (g_name 4) (fun _ _ h => h) jt_yes (je_call0 (T := T0 P0) rfl rfl (ja_cons je_var ja_nil))) (je_lst ja_nil))
      (js_seq (js_for (ji_rng1 (ja_cons (je_op ok_shl je_int je_var) ja_nil)) (g_name 4) (js_app (je_op ok_eq (je_lcO (vs := [6]) (g_name 6) (fun _ _ h => h) (jt_val (je_op ok_eq (je_op ok_band je_var je_var) je_int)) je_int) (je_lst ja_nil))))
      (js_seq (js_asg (je_lst ja_nil))
      (js_seq (js_for (ji_rng1 (ja_cons (je_op ok_shl je_int je_var) ja_nil)) (g_name 4) (js_if (jt_and (jt_B (je_op ok_ix je_var je_var)) (jt_val (je_op ok_eq (je_lc (vs := [7]) (ji_rng1 (ja_cons je_var ja_nil)) (g_name 7) (fun _ _ h => h) (jt_and (jt_int (je_op ok_band je_var (je_op ok_shl je_int je_var))) (jt_B (je_op ok_ix je_var (je_op ok_sub je_var (je_op ok_shl je_int je_var))))) je_int) (je_lst ja_nil)))) (js_app (je_cb ok_tup (ja_cons (je_lc (vs := [7]) (ji_rng1 (ja_cons je_var ja_nil)) (g_name 7) (fun _ _ h => h) (jt_int (je_op ok_band je_var (je_op ok_shl je_int je_var))) je_var) ja_nil))) js_next))
      (js_ret (je_cb ok_tup (ja_cons (je_cb ok_sort (ja_cons je_var ja_nil)) ja_nil)))))))
theorem ok__law_holds (W : Fx K mg) {P0 : Addr} (TB : LamX.TabB base mg W.cc P0) : FnOk P w K mg base CX0 2 W.f__law_holds W.fd__law_holds [("family" : Str), ("lot" : Str)] (spG (T0 P0) K m__law_holds) := by
  refine fn_ok W.F__law_holds sc__law_holds rfl rfl fun cdv A outer s H vs E hr => ?_
  refine ⟨_, (pss_cons (ps_for PassesOwn.never rfl (seqK K (pv 0)) (pg_name (i := 2) sc__law_holds.nd rfl (by first | exact .inl rfl | exact .inr rfl)) (pss_one (ps_if (pt_val (pe_call (ok__law_within W TB) (hr.mono (by omega)) (by rfl) W.g__law_within W.F__law_within.kp (b__law_within W) .nil pass0 (pa_cons (pv 2) (pa_cons (pv 1) pa_nil)))) (pss_one (ps_ret pe_bl)) pss_nil)))
      (pss_one (ps_ret pe_bl))), ?_⟩
  exact (js_seq (js_for (ji_seq je_var) (g_name 2) (js_if (jt_B (je_call0 (T := T0 P0) rfl rfl (ja_cons je_var (ja_cons je_var ja_nil)))) (js_ret je_bl) js_next))
      (js_ret je_bl))
theorem ok__law_parts_held (W : Fx K mg) {P0 : Addr} (TB : LamX.TabB base mg W.cc P0) : FnOk P w K mg base CX0 3 W.f__law_parts_held W.fd__law_parts_held [("inners" : Str), ("lot" : Str)] (spG (T0 P0) K m__law_parts_held) := by
  refine fn_ok W.F__law_parts_held sc__law_parts_held rfl rfl fun cdv A outer s H vs E hr => ?_
  refine ⟨_, (pss_cons (ps_asg (pe_tup (pa_cons (pe_lst pa_nil) (pa_cons pe_int pa_nil))) (tgK (n := 2) K rfl (pgs_cons (pg_name (i := 2) sc__law_parts_held.nd rfl (by first | exact .inl rfl | exact .inr rfl)) (pgs_cons (pg_name (i := 3) sc__law_parts_held.nd rfl (by first | exact .inl rfl | exact .inr rfl)) pgs_nil))))
      (pss_cons (ps_for PassesOwn.never rfl (pi_enumG (by rfl) W.n_enumerate (pa_cons (pv 0) pa_nil)) (tgK (n := 2) K rfl (pgs_cons (pg_name (i := 4) sc__law_parts_held.nd rfl (by first | exact .inl rfl | exact .inr rfl)) (pgs_cons (tgK (n := 2) K rfl (pgs_cons (pg_name (i := 5) sc__law_parts_held.nd rfl (by first | exact .inl rfl | exact .inr rfl)) (pgs_cons (pg_name (i := 6) sc__law_parts_held.nd rfl (by first | exact .inl rfl | exact .inr rfl)) pgs_nil))) pgs_nil))) (pss_cons (ps_set (i := 7) sc__law_parts_held.nd rfl (by first | exact .inl rfl | exact .inr rfl) (pe_callTy (tupleK K) (by rfl) W.n_tuple (by decide +kernel) (pa_cons (pe_lc (own := [(("house" : Str), 8)]) rfl sc__law_parts_held.nd (seqK K (pv 1)) (by exact Pl.blkOk_by (N := N__law_parts_held) (sc := defScope s__law_parts_held) (by decide +kernel)) (fun _ _ _ _ _ => (pg_name (i := 8) sc__law_parts_held.nd rfl (by first | exact .inl rfl | exact .inr rfl))) (fun _ _ _ _ _ => (pts_one (PW.pt (pw_and (pt_cmpR op_ge (pv 8) (pv 3) (nomark _)) (pw_and1 (pt_cmpR op_lt (pv 8) (pe_op (addK K) (pv 3) (pv 5)) (nomark _))))))) (fun _ _ _ _ _ => (pe_op op_sub (pv 8) (pv 3)))) pa_nil)))
      (pss_cons (ps_if (pt_val (pe_call (ok__law_holds W TB) (hr.mono (by omega)) (by rfl) W.g__law_holds W.F__law_holds.kp (b__law_holds W) .nil pass0 (pa_cons (pv 6) (pa_cons (pv 7) pa_nil)))) (pss_one (ps_expr (pe_bm PySem.F.plainAttrs_list PySem.F.slot_list_append PySem.F.type_list_append mt_append (pv 2) (pa_cons (pv 4) pa_nil)))) pss_nil)
      (pss_one (ps_set (i := 3) sc__law_parts_held.nd rfl (by first | exact .inl rfl | exact .inr rfl) (pe_op (addK K) (pv 3) (pv 5)))))))
      (pss_one (ps_ret (pe_callTy (tupleK K) (by rfl) W.n_tuple (by decide +kernel) (pa_cons (pv 2) pa_nil)))))), ?_⟩
  exact (js_seq (js_parT (je_lst ja_nil) je_int)
      (js_seq (js_for (ji_enum (ja_cons je_var ja_nil)) (g_tup (gs_cons (g_name 4) (gs_cons (g_tup (gs_cons (g_name 5) (gs_cons (g_name 6) gs_nil))) gs_nil))) (js_seq (js_asg (je_cb ok_tup (ja_cons (je_lcO (vs := [8]) (g_name 8) (fun _ _ h => h) (jt_and (jt_val (je_op ok_ge je_var je_var)) (jt_val (je_op ok_lt je_var (je_op ok_add je_var je_var)))) (je_op ok_sub je_var je_var)) ja_nil)))
      (js_seq (js_if (jt_B (je_call0 (T := T0 P0) rfl rfl (ja_cons je_var (ja_cons je_var ja_nil)))) (js_app je_var) js_next)
      (js_asg (je_op ok_add je_var je_var)))))
      (js_ret (je_cb ok_tup (ja_cons je_var ja_nil)))))
theorem ok_law (W : Fx K mg) {P0 : Addr} (TB : LamX.TabB base mg W.cc P0) : FnOk P w K mg base CX0 7 W.f_law W.fd_law [("script" : Str)] (spG (T0 P0) K m_law) := by
  refine fn_ok W.F_law sc_law rfl rfl fun cdv A outer s H vs E hr => ?_
  refine ⟨_, (pss_cons (ps_for PassesOwn.never rfl (pi_range1 (by rfl) W.n_range (pa_cons (pe_callB (call_max2 rfl) (by rfl) W.n_max (by decide +kernel) (pa_cons pe_int (pa_cons (pe_callB (call_min2 rfl) (by rfl) W.n_min (by decide +kernel) (pa_cons (pe_callB (lenK K) (by rfl) W.n_len (by decide +kernel) (pa_cons (pv 0) pa_nil)) (pa_cons pe_int pa_nil))) pa_nil))) pa_nil)) (pg_name (i := 1) sc_law.nd rfl (by first | exact .inl rfl | exact .inr rfl)) (pss_cons (ps_set (i := 2) sc_law.nd rfl (by first | exact .inl rfl | exact .inr rfl) (pe_call (ok__law_box W TB) (hr.mono (by omega)) (by rfl) W.g__law_box W.F__law_box.kp (b__law_box W) .nil pass0 (pa_cons (pv 0) (pa_cons (pv 1) pa_nil))))
      (pss_cons (ps_set (i := 3) sc_law.nd rfl (by first | exact .inl rfl | exact .inr rfl) (pe_call (ok__law_sizes W TB) (hr.mono (by omega)) (by rfl) W.g__law_sizes W.F__law_sizes.kp (b__law_sizes W) .nil pass0 (pa_cons (pv 2) pa_nil)))
      (pss_cons (ps_set (i := 4) sc_law.nd rfl (by first | exact .inl rfl | exact .inr rfl) (pe_call (ok__law_over W TB) (hr.mono (by omega)) (by rfl) W.g__law_over W.F__law_over.kp (b__law_over W) .nil pass0 (pa_cons (pv 2) (pa_cons (pe_callB (lenK K) (by rfl) W.n_len (by decide +kernel) (pa_cons (pv 3) pa_nil)) pa_nil))))
      (pss_cons (ps_set (i := 5) sc_law.nd rfl (by first | exact .inl rfl | exact .inr rfl) (pe_callTy (tupleK K) (by rfl) W.n_tuple (by decide +kernel) (pa_cons (pe_lc (own := [(("size" : Str), 12)]) rfl sc_law.nd (seqK K (pv 3)) (by exact Pl.blkOk_by (N := N_law) (sc := defScope s_law) (by decide +kernel)) (fun _ _ _ _ _ => (pg_name (i := 12) sc_law.nd rfl (by first | exact .inl rfl | exact .inr rfl))) (fun _ _ _ _ _ => pts_nil) (fun _ _ _ _ _ => (pe_tup (pa_cons (pv 12) (pa_cons (pe_call (ok__law_over W TB) (hr.mono (by omega)) (by rfl) W.g__law_over W.F__law_over.kp (b__law_over W) .nil pass0 (pa_cons (pv 2) (pa_cons (pv 12) pa_nil))) pa_nil))))) pa_nil)))
      (pss_cons (ps_par (i := 6) (j := 7) rfl sc_law.nd rfl rfl (by decide) rfl rfl (pa_cons (pe_call (ok__law_composed W TB) (hr.mono (by omega)) (by rfl) W.g__law_composed W.F__law_composed.kp (b__law_composed W) .nil pass0 (pa_cons (pv 4) (pa_cons (pv 5) pa_nil))) (pa_cons (pe_callB (sumK K rfl) (by rfl) W.n_sum (by decide +kernel) (pa_cons (pv 3) pa_nil)) pa_nil)) rfl)
      (pss_cons (ps_if (pt_not (pt_val (pe_call (ok__law_same W TB 6) (hr.mono (by omega)) (by rfl) W.g__law_same W.F__law_same.kp (b__law_same W) .nil pass0 (pa_cons (pe_call (ok_composed_family W TB) (hr.mono (by omega)) (by rfl) W.g_composed_family W.F_composed_family.kp (b_composed_family W) .nil pass0 (pa_cons (pv 4) (pa_cons (pv 5) pa_nil))) (pa_cons (pv 6) pa_nil))))) (pss_one (ps_ret pe_bl)) pss_nil)
      (pss_cons (ps_set (i := 8) sc_law.nd rfl (by first | exact .inl rfl | exact .inr rfl) (pe_callTy (tupleK K) (by rfl) W.n_tuple (by decide +kernel) (pa_cons (pe_lc (own := [(("size" : Str), 12), (("family" : Str), 13)]) rfl sc_law.nd (seqK K (pv 5)) (by exact Pl.blkOk_by (N := N_law) (sc := defScope s_law) (by decide +kernel)) (fun _ _ _ _ _ => (tgK (n := 2) K rfl (pgs_cons (pg_name (i := 12) sc_law.nd rfl (by first | exact .inl rfl | exact .inr rfl)) (pgs_cons (pg_name (i := 13) sc_law.nd rfl (by first | exact .inl rfl | exact .inr rfl)) pgs_nil)))) (fun _ _ _ _ _ => pts_nil) (fun _ _ _ _ _ => (pe_tup (pa_cons (pv 12) (pa_cons (pe_call (ok_blocker_of W TB) (hr.mono (by omega)) (by rfl) W.g_blocker_of W.F_blocker_of.kp (b_blocker_of W) .nil pass0 (pa_cons (pv 13) (pa_cons (pv 12) pa_nil))) pa_nil))))) pa_nil)))
      (pss_cons (ps_set (i := 9) sc_law.nd rfl (by first | exact .inl rfl | exact .inr rfl) (pe_call (ok_blocker_of W TB) (hr.mono (by omega)) (by rfl) W.g_blocker_of W.F_blocker_of.kp (b_blocker_of W) .nil pass0 (pa_cons (pe_callK0 (ok_composed_family W TB) (hr.mono (by decide)) (by rfl) W.g_composed_family W.F_composed_family.kp (kb_composed_family_0 W) pass0 (pk_cons (pv 4) (pk_cons (pv 5) pk_nil))) (pa_cons (pv 7) pa_nil))))
      (pss_cons (ps_if (pt_not (pt_val (pe_call (ok__law_same W TB 6) (hr.mono (by omega)) (by rfl) W.g__law_same W.F__law_same.kp (b__law_same W) .nil pass0 (pa_cons (pv 9) (pa_cons (pe_call (ok_composed_family W TB) (hr.mono (by omega)) (by rfl) W.g_composed_family W.F_composed_family.kp (b_composed_family W) .nil pass0 (pa_cons (pe_call (ok_blocker_of W TB) (hr.mono (by omega)) (by rfl) W.g_blocker_of W.F_blocker_of.kp (b_blocker_of W) .nil pass0 (pa_cons (pv 4) (pa_cons (pe_callB (lenK K) (by rfl) W.n_len (by decide +kernel) (pa_cons (pv 3) pa_nil)) pa_nil))) (pa_cons (pv 8) pa_nil))) pa_nil))))) (pss_one (ps_ret pe_bl)) pss_nil)
      (pss_cons (ps_set (i := 10) sc_law.nd rfl (by first | exact .inl rfl | exact .inr rfl) (pe_callTy (tupleK K) (by rfl) W.n_tuple (by decide +kernel) (pa_cons (pe_lc (own := [(("size" : Str), 12), (("family" : Str), 13)]) rfl sc_law.nd (seqK K (pv 5)) (by exact Pl.blkOk_by (N := N_law) (sc := defScope s_law) (by decide +kernel)) (fun _ _ _ _ _ => (tgK (n := 2) K rfl (pgs_cons (pg_name (i := 12) sc_law.nd rfl (by first | exact .inl rfl | exact .inr rfl)) (pgs_cons (pg_name (i := 13) sc_law.nd rfl (by first | exact .inl rfl | exact .inr rfl)) pgs_nil)))) (fun _ _ _ _ _ => pts_nil) (fun _ _ _ _ _ => (pe_tup (pa_cons (pv 12) (pa_cons (pe_call (ok__law_blocker W TB) (hr.mono (by omega)) (by rfl) W.g__law_blocker W.F__law_blocker.kp (b__law_blocker W) .nil pass0 (pa_cons (pv 13) (pa_cons (pv 12) pa_nil))) pa_nil))))) pa_nil)))
      (pss_cons (ps_if (pt_not (pt_val (pe_call (ok__law_same W TB 6) (hr.mono (by omega)) (by rfl) W.g__law_same W.F__law_same.kp (b__law_same W) .nil pass0 (pa_cons (pv 9) (pa_cons (pe_call (ok__law_composed W TB) (hr.mono (by omega)) (by rfl) W.g__law_composed W.F__law_composed.kp (b__law_composed W) .nil pass0 (pa_cons (pe_call (ok__law_blocker W TB) (hr.mono (by omega)) (by rfl) W.g__law_blocker W.F__law_blocker.kp (b__law_blocker W) .nil pass0 (pa_cons (pv 4) (pa_cons (pe_callB (lenK K) (by rfl) W.n_len (by decide +kernel) (pa_cons (pv 3) pa_nil)) pa_nil))) (pa_cons (pv 10) pa_nil))) pa_nil))))) (pss_one (ps_ret pe_bl)) pss_nil)
      (pss_one (ps_for PassesOwn.never rfl (seqK K (pe_call (ok__law_all W TB) (hr.mono (by omega)) (by rfl) W.g__law_all W.F__law_all.kp (b__law_all W) .nil pass0 (pa_cons (pv 7) pa_nil))) (pg_name (i := 11) sc_law.nd rfl (by first | exact .inl rfl | exact .inr rfl)) (pss_one (ps_if (pt_not (pt_val (pe_call (ok__law_same W TB 6) (hr.mono (by omega)) (by rfl) W.g__law_same W.F__law_same.kp (b__law_same W) .nil pass0 (pa_cons (pe_call (ok_lot_holds W TB) (hr.mono (by omega)) (by rfl) W.g_lot_holds W.F_lot_holds.kp (b_lot_holds W) .nil pass0 (pa_cons (pv 6) (pa_cons (pv 11) pa_nil))) (pa_cons (pe_call (ok__law_holds W TB) (hr.mono (by omega)) (by rfl) W.g__law_holds W.F__law_holds.kp (b__law_holds W) .nil pass0 (pa_cons (pv 4) (pa_cons (pe_call (ok__law_parts_held W TB) (hr.mono (by omega)) (by rfl) W.g__law_parts_held W.F__law_parts_held.kp (b__law_parts_held W) .nil pass0 (pa_cons (pv 5) (pa_cons (pv 11) pa_nil))) pa_nil))) pa_nil))))) (pss_one (ps_ret pe_bl)) pss_nil))))))))))))))))
      (pss_one (ps_ret pe_bl))), ?_⟩
  exact (js_seq (js_for (ji_rng1 (ja_cons (je_cb ok_max (ja_cons je_int (ja_cons (je_cb ok_min (ja_cons (je_cb ok_len (ja_cons je_var ja_nil)) (ja_cons je_int ja_nil))) ja_nil))) ja_nil)) (g_name 1) (js_seq (js_asg (je_call0 (T := T0 P0) rfl rfl (ja_cons je_var (ja_cons je_var ja_nil))))
      (js_seq (js_asg (je_call0 (T := T0 P0) rfl rfl (ja_cons je_var ja_nil)))
      (js_seq (js_asg (je_call0 (T := T0 P0) rfl rfl (ja_cons je_var (ja_cons (je_cb ok_len (ja_cons je_var ja_nil)) ja_nil))))
      (js_seq (js_asg (je_cb ok_tup (ja_cons (je_lcO (vs := [12]) (g_name 12) (fun _ _ h => h) jt_yes (je_tup (ja_cons je_var (ja_cons (je_call0 (T := T0 P0) rfl rfl (ja_cons je_var (ja_cons je_var ja_nil))) ja_nil)))) ja_nil)))
      (js_seq (js_par (ja_cons (je_call0 (T := T0 P0) rfl rfl (ja_cons je_var (ja_cons je_var ja_nil))) (ja_cons (je_cb ok_sum (ja_cons je_var ja_nil)) ja_nil)))
      (js_seq (js_if (jt_not (jt_B (je_call0 (T := T0 P0) rfl rfl (ja_cons (je_call0 (T := T0 P0) rfl rfl (ja_cons je_var (ja_cons je_var ja_nil))) (ja_cons je_var ja_nil))))) (js_ret je_bl) js_next)
      (js_seq (js_asg (je_cb ok_tup (ja_cons (je_lcO (vs := [12, 13]) (g_tup (gs_cons (g_name 12) (gs_cons (g_name 13) gs_nil))) (fun _ _ h => h) jt_yes (je_tup (ja_cons je_var (ja_cons (je_call0 (T := T0 P0) rfl rfl (ja_cons je_var (ja_cons je_var ja_nil))) ja_nil)))) ja_nil)))
      (js_seq (js_asg (je_call0 (T := T0 P0) rfl rfl (ja_cons (je_callK (T := T0 P0) rfl rfl ja_nil (ja_cons je_var (ja_cons je_var ja_nil))) (ja_cons je_var ja_nil))))
      (js_seq (js_if (jt_not (jt_B (je_call0 (T := T0 P0) rfl rfl (ja_cons je_var (ja_cons (je_call0 (T := T0 P0) rfl rfl (ja_cons (je_call0 (T := T0 P0) rfl rfl (ja_cons je_var (ja_cons (je_cb ok_len (ja_cons je_var ja_nil)) ja_nil))) (ja_cons je_var ja_nil))) ja_nil))))) (js_ret je_bl) js_next)
      (js_seq (js_asg (je_cb ok_tup (ja_cons (je_lcO (vs := [12, 13]) (g_tup (gs_cons (g_name 12) (gs_cons (g_name 13) gs_nil))) (fun _ _ h => h) jt_yes (je_tup (ja_cons je_var (ja_cons (je_call0 (T := T0 P0) rfl rfl (ja_cons je_var (ja_cons je_var ja_nil))) ja_nil)))) ja_nil)))
      (js_seq (js_if (jt_not (jt_B (je_call0 (T := T0 P0) rfl rfl (ja_cons je_var (ja_cons (je_call0 (T := T0 P0) rfl rfl (ja_cons (je_call0 (T := T0 P0) rfl rfl (ja_cons je_var (ja_cons (je_cb ok_len (ja_cons je_var ja_nil)) ja_nil))) (ja_cons je_var ja_nil))) ja_nil))))) (js_ret je_bl) js_next)
      (js_for (ji_seq (je_call0 (T := T0 P0) rfl rfl (ja_cons je_var ja_nil))) (g_name 11) (js_if (jt_not (jt_B (je_call0 (T := T0 P0) rfl rfl (ja_cons (je_call0 (T := T0 P0) rfl rfl (ja_cons je_var (ja_cons je_var ja_nil))) (ja_cons (je_call0 (T := T0 P0) rfl rfl (ja_cons je_var (ja_cons (je_call0 (T := T0 P0) rfl rfl (ja_cons je_var (ja_cons je_var ja_nil))) ja_nil))) ja_nil))))) (js_ret je_bl) js_next))))))))))))))
      (js_ret je_bl))
end
theorem all_mk {w : World} {K : PySem.W.Frag} {h : Heap} {mg : Str → Option Value} {fa : Addr} (X : K.In h) (G : h.Ns mainGlobals mg) (hfa : mg "law" = some (.ref fa))
    {f_0 : Addr} {od_0 an_0 : Option Addr} {sl_0 : Array (Option Value)} {oc_0 kV_0 dc_0 pm_0 cd_0 ct_0 : Value}
    (a_0 : PySem.W.nsIn K mainGlobals "_law_box" = some (some (.ref f_0))) (l_0 : K.lookup f_0 = some ⟨oc_0, od_0, .func (PySem.W.fnOf "_law_box" "_law_box" (defArgs s__law_box) (defBody s__law_box) (defScope s__law_box) .none kV_0 dc_0 pm_0 an_0 cd_0 ct_0), sl_0⟩) (c_0 : PySem.W.codeIn K cd_0 "_law_box" = true) (k_0 : PySem.W.keepIn K (.ref f_0) = true)
    {f_1 : Addr} {od_1 an_1 : Option Addr} {sl_1 : Array (Option Value)} {oc_1 kV_1 dc_1 pm_1 cd_1 ct_1 : Value}
    (a_1 : PySem.W.nsIn K mainGlobals "_law_take" = some (some (.ref f_1))) (l_1 : K.lookup f_1 = some ⟨oc_1, od_1, .func (PySem.W.fnOf "_law_take" "_law_take" (defArgs s__law_take) (defBody s__law_take) (defScope s__law_take) .none kV_1 dc_1 pm_1 an_1 cd_1 ct_1), sl_1⟩) (c_1 : PySem.W.codeIn K cd_1 "_law_take" = true) (k_1 : PySem.W.keepIn K (.ref f_1) = true)
    {f_2 : Addr} {od_2 an_2 : Option Addr} {sl_2 : Array (Option Value)} {oc_2 kV_2 dc_2 pm_2 cd_2 ct_2 : Value}
    (a_2 : PySem.W.nsIn K mainGlobals "_law_pick" = some (some (.ref f_2))) (l_2 : K.lookup f_2 = some ⟨oc_2, od_2, .func (PySem.W.fnOf "_law_pick" "_law_pick" (defArgs s__law_pick) (defBody s__law_pick) (defScope s__law_pick) .none kV_2 dc_2 pm_2 an_2 cd_2 ct_2), sl_2⟩) (c_2 : PySem.W.codeIn K cd_2 "_law_pick" = true) (k_2 : PySem.W.keepIn K (.ref f_2) = true)
    {f_3 : Addr} {od_3 an_3 : Option Addr} {sl_3 : Array (Option Value)} {oc_3 kV_3 dc_3 pm_3 cd_3 ct_3 : Value}
    (a_3 : PySem.W.nsIn K mainGlobals "_law_sizes" = some (some (.ref f_3))) (l_3 : K.lookup f_3 = some ⟨oc_3, od_3, .func (PySem.W.fnOf "_law_sizes" "_law_sizes" (defArgs s__law_sizes) (defBody s__law_sizes) (defScope s__law_sizes) .none kV_3 dc_3 pm_3 an_3 cd_3 ct_3), sl_3⟩) (c_3 : PySem.W.codeIn K cd_3 "_law_sizes" = true) (k_3 : PySem.W.keepIn K (.ref f_3) = true)
    {f_4 : Addr} {od_4 an_4 : Option Addr} {sl_4 : Array (Option Value)} {oc_4 kV_4 dc_4 pm_4 cd_4 ct_4 : Value}
    (a_4 : PySem.W.nsIn K mainGlobals "_law_within" = some (some (.ref f_4))) (l_4 : K.lookup f_4 = some ⟨oc_4, od_4, .func (PySem.W.fnOf "_law_within" "_law_within" (defArgs s__law_within) (defBody s__law_within) (defScope s__law_within) .none kV_4 dc_4 pm_4 an_4 cd_4 ct_4), sl_4⟩) (c_4 : PySem.W.codeIn K cd_4 "_law_within" = true) (k_4 : PySem.W.keepIn K (.ref f_4) = true)
    {f_5 : Addr} {od_5 an_5 : Option Addr} {sl_5 : Array (Option Value)} {oc_5 kV_5 dc_5 pm_5 cd_5 ct_5 : Value}
    (a_5 : PySem.W.nsIn K mainGlobals "_law_least" = some (some (.ref f_5))) (l_5 : K.lookup f_5 = some ⟨oc_5, od_5, .func (PySem.W.fnOf "_law_least" "_law_least" (defArgs s__law_least) (defBody s__law_least) (defScope s__law_least) .none kV_5 dc_5 pm_5 an_5 cd_5 ct_5), sl_5⟩) (c_5 : PySem.W.codeIn K cd_5 "_law_least" = true) (k_5 : PySem.W.keepIn K (.ref f_5) = true)
    {f_6 : Addr} {od_6 an_6 : Option Addr} {sl_6 : Array (Option Value)} {oc_6 kV_6 dc_6 pm_6 cd_6 ct_6 : Value}
    (a_6 : PySem.W.nsIn K mainGlobals "_law_all" = some (some (.ref f_6))) (l_6 : K.lookup f_6 = some ⟨oc_6, od_6, .func (PySem.W.fnOf "_law_all" "_law_all" (defArgs s__law_all) (defBody s__law_all) (defScope s__law_all) .none kV_6 dc_6 pm_6 an_6 cd_6 ct_6), sl_6⟩) (c_6 : PySem.W.codeIn K cd_6 "_law_all" = true) (k_6 : PySem.W.keepIn K (.ref f_6) = true)
    {f_7 : Addr} {od_7 an_7 : Option Addr} {sl_7 : Array (Option Value)} {oc_7 kV_7 dc_7 pm_7 cd_7 ct_7 : Value}
    (a_7 : PySem.W.nsIn K mainGlobals "_law_threshold" = some (some (.ref f_7))) (l_7 : K.lookup f_7 = some ⟨oc_7, od_7, .func (PySem.W.fnOf "_law_threshold" "_law_threshold" (defArgs s__law_threshold) (defBody s__law_threshold) (defScope s__law_threshold) .none kV_7 dc_7 pm_7 an_7 cd_7 ct_7), sl_7⟩) (c_7 : PySem.W.codeIn K cd_7 "_law_threshold" = true) (k_7 : PySem.W.keepIn K (.ref f_7) = true)
    {f_8 : Addr} {od_8 an_8 : Option Addr} {sl_8 : Array (Option Value)} {oc_8 kV_8 dc_8 pm_8 cd_8 ct_8 : Value}
    (a_8 : PySem.W.nsIn K mainGlobals "_law_lot" = some (some (.ref f_8))) (l_8 : K.lookup f_8 = some ⟨oc_8, od_8, .func (PySem.W.fnOf "_law_lot" "_law_lot" (defArgs s__law_lot) (defBody s__law_lot) (defScope s__law_lot) .none kV_8 dc_8 pm_8 an_8 cd_8 ct_8), sl_8⟩) (c_8 : PySem.W.codeIn K cd_8 "_law_lot" = true) (k_8 : PySem.W.keepIn K (.ref f_8) = true)
    {f_9 : Addr} {od_9 an_9 : Option Addr} {sl_9 : Array (Option Value)} {oc_9 kV_9 dc_9 pm_9 cd_9 ct_9 : Value}
    (a_9 : PySem.W.nsIn K mainGlobals "_law_over" = some (some (.ref f_9))) (l_9 : K.lookup f_9 = some ⟨oc_9, od_9, .func (PySem.W.fnOf "_law_over" "_law_over" (defArgs s__law_over) (defBody s__law_over) (defScope s__law_over) .none kV_9 dc_9 pm_9 an_9 cd_9 ct_9), sl_9⟩) (c_9 : PySem.W.codeIn K cd_9 "_law_over" = true) (k_9 : PySem.W.keepIn K (.ref f_9) = true)
    {f_10 : Addr} {od_10 an_10 : Option Addr} {sl_10 : Array (Option Value)} {oc_10 kV_10 dc_10 pm_10 cd_10 ct_10 : Value}
    (a_10 : PySem.W.nsIn K mainGlobals "is_within" = some (some (.ref f_10))) (l_10 : K.lookup f_10 = some ⟨oc_10, od_10, .func (PySem.W.fnOf "is_within" "is_within" (defArgs s_is_within) (defBody s_is_within) (defScope s_is_within) .none kV_10 dc_10 pm_10 an_10 cd_10 ct_10), sl_10⟩) (c_10 : PySem.W.codeIn K cd_10 "is_within" = true) (k_10 : PySem.W.keepIn K (.ref f_10) = true)
    {f_11 : Addr} {od_11 an_11 : Option Addr} {sl_11 : Array (Option Value)} {oc_11 kV_11 dc_11 pm_11 cd_11 ct_11 : Value}
    (a_11 : PySem.W.nsIn K mainGlobals "lot_holds" = some (some (.ref f_11))) (l_11 : K.lookup f_11 = some ⟨oc_11, od_11, .func (PySem.W.fnOf "lot_holds" "lot_holds" (defArgs s_lot_holds) (defBody s_lot_holds) (defScope s_lot_holds) .none kV_11 dc_11 pm_11 an_11 cd_11 ct_11), sl_11⟩) (c_11 : PySem.W.codeIn K cd_11 "lot_holds" = true) (k_11 : PySem.W.keepIn K (.ref f_11) = true)
    {f_12 : Addr} {od_12 an_12 : Option Addr} {sl_12 : Array (Option Value)} {oc_12 kV_12 dc_12 pm_12 cd_12 ct_12 : Value}
    (a_12 : PySem.W.nsIn K mainGlobals "least_lots" = some (some (.ref f_12))) (l_12 : K.lookup f_12 = some ⟨oc_12, od_12, .func (PySem.W.fnOf "least_lots" "least_lots" (defArgs s_least_lots) (defBody s_least_lots) (defScope s_least_lots) .none kV_12 dc_12 pm_12 an_12 cd_12 ct_12), sl_12⟩) (c_12 : PySem.W.codeIn K cd_12 "least_lots" = true) (k_12 : PySem.W.keepIn K (.ref f_12) = true)
    {f_13 : Addr} {od_13 an_13 : Option Addr} {sl_13 : Array (Option Value)} {oc_13 kV_13 dc_13 pm_13 cd_13 ct_13 : Value}
    (a_13 : PySem.W.nsIn K mainGlobals "meets" = some (some (.ref f_13))) (l_13 : K.lookup f_13 = some ⟨oc_13, od_13, .func (PySem.W.fnOf "meets" "meets" (defArgs s_meets) (defBody s_meets) (defScope s_meets) .none kV_13 dc_13 pm_13 an_13 cd_13 ct_13), sl_13⟩) (c_13 : PySem.W.codeIn K cd_13 "meets" = true) (k_13 : PySem.W.keepIn K (.ref f_13) = true)
    {f_14 : Addr} {od_14 an_14 : Option Addr} {sl_14 : Array (Option Value)} {oc_14 kV_14 dc_14 pm_14 cd_14 ct_14 : Value}
    (a_14 : PySem.W.nsIn K mainGlobals "with_house" = some (some (.ref f_14))) (l_14 : K.lookup f_14 = some ⟨oc_14, od_14, .func (PySem.W.fnOf "with_house" "with_house" (defArgs s_with_house) (defBody s_with_house) (defScope s_with_house) .none kV_14 dc_14 pm_14 an_14 cd_14 ct_14), sl_14⟩) (c_14 : PySem.W.codeIn K cd_14 "with_house" = true) (k_14 : PySem.W.keepIn K (.ref f_14) = true)
    {f_15 : Addr} {od_15 an_15 : Option Addr} {sl_15 : Array (Option Value)} {oc_15 kV_15 dc_15 pm_15 cd_15 ct_15 : Value}
    (a_15 : PySem.W.nsIn K mainGlobals "blocker_of" = some (some (.ref f_15))) (l_15 : K.lookup f_15 = some ⟨oc_15, od_15, .func (PySem.W.fnOf "blocker_of" "blocker_of" (defArgs s_blocker_of) (defBody s_blocker_of) (defScope s_blocker_of) .none kV_15 dc_15 pm_15 an_15 cd_15 ct_15), sl_15⟩) (c_15 : PySem.W.codeIn K cd_15 "blocker_of" = true) (k_15 : PySem.W.keepIn K (.ref f_15) = true)
    {f_16 : Addr} {od_16 an_16 : Option Addr} {sl_16 : Array (Option Value)} {oc_16 kV_16 dc_16 pm_16 cd_16 ct_16 : Value}
    (a_16 : PySem.W.nsIn K mainGlobals "_law_composed" = some (some (.ref f_16))) (l_16 : K.lookup f_16 = some ⟨oc_16, od_16, .func (PySem.W.fnOf "_law_composed" "_law_composed" (defArgs s__law_composed) (defBody s__law_composed) (defScope s__law_composed) .none kV_16 dc_16 pm_16 an_16 cd_16 ct_16), sl_16⟩) (c_16 : PySem.W.codeIn K cd_16 "_law_composed" = true) (k_16 : PySem.W.keepIn K (.ref f_16) = true)
    {f_17 : Addr} {od_17 an_17 : Option Addr} {sl_17 : Array (Option Value)} {oc_17 kV_17 dc_17 pm_17 cd_17 ct_17 : Value}
    (a_17 : PySem.W.nsIn K mainGlobals "_law_same" = some (some (.ref f_17))) (l_17 : K.lookup f_17 = some ⟨oc_17, od_17, .func (PySem.W.fnOf "_law_same" "_law_same" (defArgs s__law_same) (defBody s__law_same) (defScope s__law_same) .none kV_17 dc_17 pm_17 an_17 cd_17 ct_17), sl_17⟩) (c_17 : PySem.W.codeIn K cd_17 "_law_same" = true) (k_17 : PySem.W.keepIn K (.ref f_17) = true)
    {f_18 : Addr} {od_18 an_18 : Option Addr} {sl_18 : Array (Option Value)} {oc_18 kV_18 dc_18 pm_18 cd_18 ct_18 : Value}
    (a_18 : PySem.W.nsIn K mainGlobals "moved_lots" = some (some (.ref f_18))) (l_18 : K.lookup f_18 = some ⟨oc_18, od_18, .func (PySem.W.fnOf "moved_lots" "moved_lots" (defArgs s_moved_lots) (defBody s_moved_lots) (defScope s_moved_lots) .none kV_18 dc_18 pm_18 an_18 cd_18 ct_18), sl_18⟩) (c_18 : PySem.W.codeIn K cd_18 "moved_lots" = true) (k_18 : PySem.W.keepIn K (.ref f_18) = true)
    {f_19 : Addr} {od_19 an_19 : Option Addr} {sl_19 : Array (Option Value)} {oc_19 kV_19 dc_19 pm_19 cd_19 ct_19 : Value}
    (a_19 : PySem.W.nsIn K mainGlobals "composed_family" = some (some (.ref f_19))) (l_19 : K.lookup f_19 = some ⟨oc_19, od_19, .func (PySem.W.fnOf "composed_family" "composed_family" (defArgs s_composed_family) (defBody s_composed_family) (defScope s_composed_family) .none kV_19 dc_19 pm_19 an_19 cd_19 ct_19), sl_19⟩) (c_19 : PySem.W.codeIn K cd_19 "composed_family" = true) (k_19 : PySem.W.keepIn K (.ref f_19) = true)
    {f_20 : Addr} {od_20 an_20 : Option Addr} {sl_20 : Array (Option Value)} {oc_20 kV_20 dc_20 pm_20 cd_20 ct_20 : Value}
    (a_20 : PySem.W.nsIn K mainGlobals "_law_mask" = some (some (.ref f_20))) (l_20 : K.lookup f_20 = some ⟨oc_20, od_20, .func (PySem.W.fnOf "_law_mask" "_law_mask" (defArgs s__law_mask) (defBody s__law_mask) (defScope s__law_mask) .none kV_20 dc_20 pm_20 an_20 cd_20 ct_20), sl_20⟩) (c_20 : PySem.W.codeIn K cd_20 "_law_mask" = true) (k_20 : PySem.W.keepIn K (.ref f_20) = true)
    {f_21 : Addr} {od_21 an_21 : Option Addr} {sl_21 : Array (Option Value)} {oc_21 kV_21 dc_21 pm_21 cd_21 ct_21 : Value}
    (a_21 : PySem.W.nsIn K mainGlobals "_law_blocker" = some (some (.ref f_21))) (l_21 : K.lookup f_21 = some ⟨oc_21, od_21, .func (PySem.W.fnOf "_law_blocker" "_law_blocker" (defArgs s__law_blocker) (defBody s__law_blocker) (defScope s__law_blocker) .none kV_21 dc_21 pm_21 an_21 cd_21 ct_21), sl_21⟩) (c_21 : PySem.W.codeIn K cd_21 "_law_blocker" = true) (k_21 : PySem.W.keepIn K (.ref f_21) = true)
    {f_22 : Addr} {od_22 an_22 : Option Addr} {sl_22 : Array (Option Value)} {oc_22 kV_22 dc_22 pm_22 cd_22 ct_22 : Value}
    (a_22 : PySem.W.nsIn K mainGlobals "_law_holds" = some (some (.ref f_22))) (l_22 : K.lookup f_22 = some ⟨oc_22, od_22, .func (PySem.W.fnOf "_law_holds" "_law_holds" (defArgs s__law_holds) (defBody s__law_holds) (defScope s__law_holds) .none kV_22 dc_22 pm_22 an_22 cd_22 ct_22), sl_22⟩) (c_22 : PySem.W.codeIn K cd_22 "_law_holds" = true) (k_22 : PySem.W.keepIn K (.ref f_22) = true)
    {f_23 : Addr} {od_23 an_23 : Option Addr} {sl_23 : Array (Option Value)} {oc_23 kV_23 dc_23 pm_23 cd_23 ct_23 : Value}
    (a_23 : PySem.W.nsIn K mainGlobals "_law_parts_held" = some (some (.ref f_23))) (l_23 : K.lookup f_23 = some ⟨oc_23, od_23, .func (PySem.W.fnOf "_law_parts_held" "_law_parts_held" (defArgs s__law_parts_held) (defBody s__law_parts_held) (defScope s__law_parts_held) .none kV_23 dc_23 pm_23 an_23 cd_23 ct_23), sl_23⟩) (c_23 : PySem.W.codeIn K cd_23 "_law_parts_held" = true) (k_23 : PySem.W.keepIn K (.ref f_23) = true)
    {f_24 : Addr} {od_24 an_24 : Option Addr} {sl_24 : Array (Option Value)} {oc_24 kV_24 dc_24 pm_24 cd_24 ct_24 : Value}
    (a_24 : PySem.W.nsIn K mainGlobals "law" = some (some (.ref f_24))) (l_24 : K.lookup f_24 = some ⟨oc_24, od_24, .func (PySem.W.fnOf "law" "law" (defArgs s_law) (defBody s_law) (defScope s_law) .none kV_24 dc_24 pm_24 an_24 cd_24 ct_24), sl_24⟩) (c_24 : PySem.W.codeIn K cd_24 "law" = true) (k_24 : PySem.W.keepIn K (.ref f_24) = true)
    (z_abs : PySem.W.nsIn K mainGlobals "abs" = some none)
    (z_bool : PySem.W.nsIn K mainGlobals "bool" = some none)
    (z_enumerate : PySem.W.nsIn K mainGlobals "enumerate" = some none)
    (z_int : PySem.W.nsIn K mainGlobals "int" = some none)
    (z_isinstance : PySem.W.nsIn K mainGlobals "isinstance" = some none)
    (z_len : PySem.W.nsIn K mainGlobals "len" = some none)
    (z_max : PySem.W.nsIn K mainGlobals "max" = some none)
    (z_min : PySem.W.nsIn K mainGlobals "min" = some none)
    (z_range : PySem.W.nsIn K mainGlobals "range" = some none)
    (z_set : PySem.W.nsIn K mainGlobals "set" = some none)
    (z_sorted : PySem.W.nsIn K mainGlobals "sorted" = some none)
    (z_str : PySem.W.nsIn K mainGlobals "str" = some none)
    (z_sum : PySem.W.nsIn K mainGlobals "sum" = some none)
    (z_tuple : PySem.W.nsIn K mainGlobals "tuple" = some none)
    (z_zip : PySem.W.nsIn K mainGlobals "zip" = some none)
    {c0 P0 : Addr} (e0 : cd_12 = .ref c0) (e1 : PySem.W.codeHdIn K c0 P0 = true) (e2 : K.lookup P0 = none) (e3 : h.get? P0 = some (PySem.W.tabObj #[]))
    (plain : ∀ ns : List Int, ns.length ≤ 63 → ∃ o, m_law [.va (.list (ns.map PyData.int))] = some (.ok (.va (.bool true), o))) :
    LamX.LawAtS PySem.Challenge.rw_whoknowswhen_k72_whole_blockers_of_compo w K CX0 7 63 "script" mg fa h := by
  have e := hfa.symm.trans (PySem.W.mg_of X G a_24)
  cases e
  subst e0
  let W : Fx K mg := ⟨f_0, _, fun_mk (st := s__law_box) l_0 c_0 k_0, PySem.W.mg_of X G a_0, f_1, _, fun_mk (st := s__law_take) l_1 c_1 k_1, PySem.W.mg_of X G a_1, f_2, _, fun_mk (st := s__law_pick) l_2 c_2 k_2, PySem.W.mg_of X G a_2, f_3, _, fun_mk (st := s__law_sizes) l_3 c_3 k_3, PySem.W.mg_of X G a_3, f_4, _, fun_mk (st := s__law_within) l_4 c_4 k_4, PySem.W.mg_of X G a_4, f_5, _, fun_mk (st := s__law_least) l_5 c_5 k_5, PySem.W.mg_of X G a_5, f_6, _, fun_mk (st := s__law_all) l_6 c_6 k_6, PySem.W.mg_of X G a_6, f_7, _, fun_mk (st := s__law_threshold) l_7 c_7 k_7, PySem.W.mg_of X G a_7, f_8, _, fun_mk (st := s__law_lot) l_8 c_8 k_8, PySem.W.mg_of X G a_8, f_9, _, fun_mk (st := s__law_over) l_9 c_9 k_9, PySem.W.mg_of X G a_9, f_10, _, fun_mk (st := s_is_within) l_10 c_10 k_10, PySem.W.mg_of X G a_10, f_11, _, fun_mk (st := s_lot_holds) l_11 c_11 k_11, PySem.W.mg_of X G a_11, f_12, _, fun_mk (st := s_least_lots) l_12 c_12 k_12, PySem.W.mg_of X G a_12, f_13, _, fun_mk (st := s_meets) l_13 c_13 k_13, PySem.W.mg_of X G a_13, f_14, _, fun_mk (st := s_with_house) l_14 c_14 k_14, PySem.W.mg_of X G a_14, f_15, _, fun_mk (st := s_blocker_of) l_15 c_15 k_15, PySem.W.mg_of X G a_15, f_16, _, fun_mk (st := s__law_composed) l_16 c_16 k_16, PySem.W.mg_of X G a_16, f_17, _, fun_mk (st := s__law_same) l_17 c_17 k_17, PySem.W.mg_of X G a_17, f_18, _, fun_mk (st := s_moved_lots) l_18 c_18 k_18, PySem.W.mg_of X G a_18, f_19, _, fun_mk (st := s_composed_family) l_19 c_19 k_19, PySem.W.mg_of X G a_19, f_20, _, fun_mk (st := s__law_mask) l_20 c_20 k_20, PySem.W.mg_of X G a_20, f_21, _, fun_mk (st := s__law_blocker) l_21 c_21 k_21, PySem.W.mg_of X G a_21, f_22, _, fun_mk (st := s__law_holds) l_22 c_22 k_22, PySem.W.mg_of X G a_22, f_23, _, fun_mk (st := s__law_parts_held) l_23 c_23 k_23, PySem.W.mg_of X G a_23, fa, _, fun_mk (st := s_law) l_24 c_24 k_24, PySem.W.mg_of X G a_24, PySem.W.mg_none_of X G z_abs, PySem.W.mg_none_of X G z_bool, PySem.W.mg_none_of X G z_enumerate, PySem.W.mg_none_of X G z_int, PySem.W.mg_none_of X G z_isinstance, PySem.W.mg_none_of X G z_len, PySem.W.mg_none_of X G z_max, PySem.W.mg_none_of X G z_min, PySem.W.mg_none_of X G z_range, PySem.W.mg_none_of X G z_set, PySem.W.mg_none_of X G z_sorted, PySem.W.mg_none_of X G z_str, PySem.W.mg_none_of X G z_sum, PySem.W.mg_none_of X G z_tuple, PySem.W.mg_none_of X G z_zip, c0, rfl⟩
  refine ⟨W.fd_law, [(c0, P0)], spG (T0 P0) K m_law, fun p hp => by rw [List.mem_singleton.mp hp]; exact e3, fun p hp => by rw [List.mem_singleton.mp hp]; exact e2, fun p hp => by rw [List.mem_singleton.mp hp]; exact PySem.W.codeHd_of_K X e1, fun s v => ?_, fun H a ns hl _ hT hS => ?_, fun base hK hns hTB => ?_⟩
  · exact BindsTo.of_eq (fd := W.fd_law) rfl
  · obtain ⟨o, e⟩ := plain ns hl
    exact law_ok (fun p hp => by rw [List.mem_singleton.mp hp]; exact LamX.TabS.nil (hT _ (List.mem_singleton.mpr rfl))) hS e
  · exact ok_law W (hTB _ (List.mem_singleton.mpr rfl))
-- CASES a_0 l_0 c_0 k_0 a_1 l_1 c_1 k_1 a_2 l_2 c_2 k_2 a_3 l_3 c_3 k_3 a_4 l_4 c_4 k_4 a_5 l_5 c_5 k_5 a_6 l_6 c_6 k_6 a_7 l_7 c_7 k_7 a_8 l_8 c_8 k_8 a_9 l_9 c_9 k_9 a_10 l_10 c_10 k_10 a_11 l_11 c_11 k_11 a_12 l_12 c_12 k_12 a_13 l_13 c_13 k_13 a_14 l_14 c_14 k_14 a_15 l_15 c_15 k_15 a_16 l_16 c_16 k_16 a_17 l_17 c_17 k_17 a_18 l_18 c_18 k_18 a_19 l_19 c_19 k_19 a_20 l_20 c_20 k_20 a_21 l_21 c_21 k_21 a_22 l_22 c_22 k_22 a_23 l_23 c_23 k_23 a_24 l_24 c_24 k_24 z_abs z_bool z_enumerate z_int z_isinstance z_len z_max z_min z_range z_set z_sorted z_str z_sum z_tuple z_zip  lam
end K72

open PySem PySem.W PyProof.Rows
set_option maxHeartbeats 0 in
theorem PySem.Challenge.cw_whoknowswhen_k72_whole_blockers_of_compo_holds : PySem.Challenge.rw_whoknowswhen_k72_whole_blockers_of_compo.Holds := by
  w_on; o_law; k_head; (case hw => w_witness2)
  k_fill
  refine LamX.walk_ofTs (l := PySem.Challenge.rw_whoknowswhen_k72_whole_blockers_of_compo) (n := 63) (k := 7) (x := "script") (CX := fun _ => L2.CX0) rfl (by decide) rfl ⟨rfl, by decide, by decide⟩ (fun w h Y => PySem.W.km_in_of Y) ?F (fun _ _ _ _ _ h => h)
  case F =>
    intro w mg fa h Y KX G hmg
    have hT8 := PySem.W.km_tabs_of Y
    refine' K72.all_mk KX G hmg ?a_0 ?l_0 ?c_0 ?k_0 ?a_1 ?l_1 ?c_1 ?k_1 ?a_2 ?l_2 ?c_2 ?k_2 ?a_3 ?l_3 ?c_3 ?k_3 ?a_4 ?l_4 ?c_4 ?k_4 ?a_5 ?l_5 ?c_5 ?k_5 ?a_6 ?l_6 ?c_6 ?k_6 ?a_7 ?l_7 ?c_7 ?k_7 ?a_8 ?l_8 ?c_8 ?k_8 ?a_9 ?l_9 ?c_9 ?k_9 ?a_10 ?l_10 ?c_10 ?k_10 ?a_11 ?l_11 ?c_11 ?k_11 ?a_12 ?l_12 ?c_12 ?k_12 ?a_13 ?l_13 ?c_13 ?k_13 ?a_14 ?l_14 ?c_14 ?k_14 ?a_15 ?l_15 ?c_15 ?k_15 ?a_16 ?l_16 ?c_16 ?k_16 ?a_17 ?l_17 ?c_17 ?k_17 ?a_18 ?l_18 ?c_18 ?k_18 ?a_19 ?l_19 ?c_19 ?k_19 ?a_20 ?l_20 ?c_20 ?k_20 ?a_21 ?l_21 ?c_21 ?k_21 ?a_22 ?l_22 ?c_22 ?k_22 ?a_23 ?l_23 ?c_23 ?k_23 ?a_24 ?l_24 ?c_24 ?k_24 ?z_abs ?z_bool ?z_enumerate ?z_int ?z_isinstance ?z_len ?z_max ?z_min ?z_range ?z_set ?z_sorted ?z_str ?z_sum ?z_tuple ?z_zip ?e0 ?e1 ?e2 (hT8 _ List.mem_cons_self) Fam.plain72
    (case a_0 => k_is)
    (case l_0 => k_is)
    (case c_0 => k_is)
    (case k_0 => k_is)
    (case a_1 => k_is)
    (case l_1 => k_is)
    (case c_1 => k_is)
    (case k_1 => k_is)
    (case a_2 => k_is)
    (case l_2 => k_is)
    (case c_2 => k_is)
    (case k_2 => k_is)
    (case a_3 => k_is)
    (case l_3 => k_is)
    (case c_3 => k_is)
    (case k_3 => k_is)
    (case a_4 => k_is)
    (case l_4 => k_is)
    (case c_4 => k_is)
    (case k_4 => k_is)
    (case a_5 => k_is)
    (case l_5 => k_is)
    (case c_5 => k_is)
    (case k_5 => k_is)
    (case a_6 => k_is)
    (case l_6 => k_is)
    (case c_6 => k_is)
    (case k_6 => k_is)
    (case a_7 => k_is)
    (case l_7 => k_is)
    (case c_7 => k_is)
    (case k_7 => k_is)
    (case a_8 => k_is)
    (case l_8 => k_is)
    (case c_8 => k_is)
    (case k_8 => k_is)
    (case a_9 => k_is)
    (case l_9 => k_is)
    (case c_9 => k_is)
    (case k_9 => k_is)
    (case a_10 => k_is)
    (case l_10 => k_is)
    (case c_10 => k_is)
    (case k_10 => k_is)
    (case a_11 => k_is)
    (case l_11 => k_is)
    (case c_11 => k_is)
    (case k_11 => k_is)
    (case a_12 => k_is)
    (case l_12 => k_is)
    (case c_12 => k_is)
    (case k_12 => k_is)
    (case a_13 => k_is)
    (case l_13 => k_is)
    (case c_13 => k_is)
    (case k_13 => k_is)
    (case a_14 => k_is)
    (case l_14 => k_is)
    (case c_14 => k_is)
    (case k_14 => k_is)
    (case a_15 => k_is)
    (case l_15 => k_is)
    (case c_15 => k_is)
    (case k_15 => k_is)
    (case a_16 => k_is)
    (case l_16 => k_is)
    (case c_16 => k_is)
    (case k_16 => k_is)
    (case a_17 => k_is)
    (case l_17 => k_is)
    (case c_17 => k_is)
    (case k_17 => k_is)
    (case a_18 => k_is)
    (case l_18 => k_is)
    (case c_18 => k_is)
    (case k_18 => k_is)
    (case a_19 => k_is)
    (case l_19 => k_is)
    (case c_19 => k_is)
    (case k_19 => k_is)
    (case a_20 => k_is)
    (case l_20 => k_is)
    (case c_20 => k_is)
    (case k_20 => k_is)
    (case a_21 => k_is)
    (case l_21 => k_is)
    (case c_21 => k_is)
    (case k_21 => k_is)
    (case a_22 => k_is)
    (case l_22 => k_is)
    (case c_22 => k_is)
    (case k_22 => k_is)
    (case a_23 => k_is)
    (case l_23 => k_is)
    (case c_23 => k_is)
    (case k_23 => k_is)
    (case a_24 => k_is)
    (case l_24 => k_is)
    (case c_24 => k_is)
    (case k_24 => k_is)
    (case z_abs => k_is)
    (case z_bool => k_is)
    (case z_enumerate => k_is)
    (case z_int => k_is)
    (case z_isinstance => k_is)
    (case z_len => k_is)
    (case z_max => k_is)
    (case z_min => k_is)
    (case z_range => k_is)
    (case z_set => k_is)
    (case z_sorted => k_is)
    (case z_str => k_is)
    (case z_sum => k_is)
    (case z_tuple => k_is)
    (case z_zip => k_is)
    (case e0 => rfl)
    (case e1 => kernel_rfl)
    (case e2 => kernel_rfl)

