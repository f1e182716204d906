import PyProof.Rows.All
import Wide.All
import OpenK.AllK
import Wide.FinOn
import HandS.ForMost
import HandS.Walk
import HandS.Zip
import HandS.Deep
import HandS.IsInst
import HandS.Wide
import HandS.TupAny
import HandS.Style
import KE.SortData
import KE.DatumMoreOrd
import PySem.Challenge.RW_tiledwhole_k53_whole_paths_that_never_me
set_option Elab.async false
set_option linter.all false
set_option maxRecDepth 100000
set_option maxHeartbeats 4000000
/-! DL: pure data over the hand layer. A slot holds data (sh: it never changes any more), a list that only this slot knows (own), the law's hand (hnd), or nothing that is known. -/
namespace DL
open PySem L2

abbrev Dt := PyData
inductive Sl where
  | no
  | sh (d : Dt)
  | own (ds : List Dt)
  | bow (ds : List Dt)
  | hnd
abbrev En := List Sl
def isOwn : Sl → Bool
  | .own _ => true
  | .bow _ => true
  | .hnd => true
  | _ => false
/-- the law's hand: cells, a place, what is left of a cell, a mix, a count -/
def HandI (hs : List Dt) : Prop := ∃ (cells : List Int) (i l m c : Int), hs = [.list (cells.map PyData.int), .int i, .int l, .int m, .int c] ∧ 0 ≤ i

/-! ### data -/
mutual
theorem dp_mono {K : PySem.W.Frag} {G G' : Hp} (e : Same G G') : ∀ (d : PyData) (v : V), Dp K G v d → Dp K G' v d
  | .none, _, h => by cases h; exact .non
  | .bool b, _, h => by cases h; exact .bl b
  | .int i, _, h => by cases h; exact .int i
  | .str x, _, h => by cases h; exact .str x
  | .list ds, _, h => by
    cases h with
    | lst hs ha => exact .lst (e.seq hs) (dpAll_mono e ds _ ha)
  | .tuple ds, _, h => by
    cases h with
    | tup hs ha =>
      refine .tup ?_ (dpAll_mono e ds _ ha)
      rcases hs with (hs | ⟨o, hs⟩) | hs
      · exact .inl (.inl (e _ _ hs))
      · exact .inl (.inr ⟨o, e _ _ hs⟩)
      · exact .inr hs
  | .dict _, _, h => by cases h
theorem dpAll_mono {K : PySem.W.Frag} {G G' : Hp} (e : Same G G') : ∀ (ds : List PyData) (vs : List V), DpAll K G vs ds → DpAll K G' vs ds
  | [], _, h => by cases h; exact .nil
  | d :: ds, _, h => by
    cases h with
    | cons h1 h2 => exact .cons (dp_mono e d _ h1) (dpAll_mono e ds _ h2)
end
end DL
namespace L2
open PySem
theorem DpAll.len {K : PySem.W.Frag} {G : Hp} : ∀ {vs : List V} {ds : List PyData}, DpAll K G vs ds → vs.length = ds.length
  | _, [], h => by cases h; rfl
  | _, d :: ds, h => by
    cases h with
    | cons h1 h2 => rw [List.length_cons, List.length_cons, DpAll.len h2]
theorem DpAll.get {K : PySem.W.Frag} {G : Hp} : ∀ {vs : List V} {ds : List PyData} {i : Nat} {d : PyData}, DpAll K G vs ds → ds[i]? = some d → ∃ v, vs[i]? = some v ∧ Dp K G v d
  | _, [], i, d, h, e => by simp at e
  | _, d :: ds, 0, d', h, e => by
    cases h with
    | cons h1 h2 =>
      simp at e
      subst e
      exact ⟨_, rfl, h1⟩
  | _, d :: ds, i + 1, d', h, e => by
    cases h with
    | cons h1 h2 =>
      obtain ⟨v, a, b⟩ := DpAll.get (i := i) h2 (by simpa using e)
      exact ⟨v, by simpa using a, b⟩
theorem DpAll.getV {K : PySem.W.Frag} {G : Hp} : ∀ {vs : List V} {ds : List PyData} {i : Nat} {v : V}, DpAll K G vs ds → vs[i]? = some v → ∃ d, ds[i]? = some d ∧ Dp K G v d
  | _, [], i, v, h, e => by cases h; simp at e
  | _, d :: ds, 0, v, h, e => by
    cases h with
    | cons h1 h2 =>
      simp at e
      subst e
      exact ⟨_, rfl, h1⟩
  | _, d :: ds, i + 1, v, h, e => by
    cases h with
    | cons h1 h2 =>
      obtain ⟨v, a, b⟩ := DpAll.getV (i := i) h2 (by simpa using e)
      exact ⟨v, by simpa using a, b⟩
theorem DpAll.set {K : PySem.W.Frag} {G : Hp} {v : V} {d : PyData} (hv : Dp K G v d) : ∀ {vs : List V} {ds : List PyData} (i : Nat), DpAll K G vs ds → DpAll K G (vs.set i v) (ds.set i d)
  | _, [], i, h => by cases h; exact .nil
  | _, e :: ds, 0, h => by
    cases h with
    | cons h1 h2 => exact .cons hv h2
  | _, e :: ds, i + 1, h => by
    cases h with
    | cons h1 h2 => exact .cons h1 (DpAll.set hv i h2)
theorem DpAll.append {K : PySem.W.Frag} {G : Hp} {ws : List V} {es : List PyData} (hw : DpAll K G ws es) : ∀ {vs : List V} {ds : List PyData}, DpAll K G vs ds → DpAll K G (vs ++ ws) (ds ++ es)
  | _, [], h => by cases h; exact hw
  | _, e :: ds, h => by
    cases h with
    | cons h1 h2 => exact .cons h1 (DpAll.append hw h2)
theorem DpAll.take {K : PySem.W.Frag} {G : Hp} : ∀ {vs : List V} {ds : List PyData} (n : Nat), DpAll K G vs ds → DpAll K G (vs.take n) (ds.take n)
  | _, [], n, h => by cases h; simp; exact .nil
  | _, e :: ds, 0, h => by simp; exact .nil
  | _, e :: ds, n + 1, h => by
    cases h with
    | cons h1 h2 => exact .cons h1 (DpAll.take n h2)
theorem DpAll.drop {K : PySem.W.Frag} {G : Hp} : ∀ {vs : List V} {ds : List PyData} (n : Nat), DpAll K G vs ds → DpAll K G (vs.drop n) (ds.drop n)
  | _, [], n, h => by cases h; simp; exact .nil
  | _, e :: ds, 0, h => h
  | _, e :: ds, n + 1, h => by
    cases h with
    | cons h1 h2 => exact DpAll.drop n h2
theorem DpAll.dropLast {K : PySem.W.Frag} {G : Hp} {vs : List V} {ds : List PyData} (h : DpAll K G vs ds) : DpAll K G vs.dropLast ds.dropLast := by
  rw [List.dropLast_eq_take, List.dropLast_eq_take, DpAll.len h]
  exact h.take _
theorem DpAll.eraseIdx {K : PySem.W.Frag} {G : Hp} : ∀ {vs : List V} {ds : List PyData} (i : Nat), DpAll K G vs ds → DpAll K G (vs.eraseIdx i) (ds.eraseIdx i)
  | _, [], i, h => by cases h; exact .nil
  | _, e :: ds, 0, h => by
    cases h with
    | cons h1 h2 => exact h2
  | _, e :: ds, i + 1, h => by
    cases h with
    | cons h1 h2 => exact .cons h1 (DpAll.eraseIdx i h2)

theorem Same.ne {H H' : Hp} (e : Same H H') {a : Addr} (h : H a ≠ none) : H' a ≠ none := by
  cases q : H a with
  | none => exact absurd q h
  | some o =>
    rw [e a o q]
    exact Option.some_ne_none o
end L2
namespace DL
open PySem L2
/-! ### heaps: G what is frozen, H all -/
def Grow (G H G' H' : Hp) : Prop := Same G G' ∧ Same H H' ∧ Same G' H' ∧ ∀ a, H a ≠ none → G a = none → G' a = none
theorem Grow.refl {G H : Hp} (h : Same G H) : Grow G H G H := ⟨Same.refl _, Same.refl _, h, fun _ _ e => e⟩
theorem Grow.trans {G H G1 H1 G2 H2 : Hp} (a : Grow G H G1 H1) (b : Grow G1 H1 G2 H2) : Grow G H G2 H2 :=
  ⟨a.1.trans b.1, a.2.1.trans b.2.1, b.2.2.1, fun x h e => b.2.2.2 x (Same.ne a.2.1 h) (a.2.2.2 x h e)⟩
theorem same_new {H : Hp} {p : Addr} {o : HO} (h : H p = none) : Same H (upd H p o) := fun a u e => by
  rw [upd_ne (ne_of_none e h)]
  exact e
theorem none_back {G H : Hp} (s : Same G H) {p : Addr} (h : H p = none) : G p = none := s.free h
theorem same_upd2 {G H : Hp} {p : Addr} {o : HO} (s : Same G H) : Same (upd G p o) (upd H p o) := fun a u e => by
  by_cases h : a = p
  · subst h
    rw [upd_same] at e ⊢
    exact e
  · rw [upd_ne h] at e ⊢
    exact s a u e
theorem same_updR {G H : Hp} {p : Addr} {o : HO} (s : Same G H) (h : G p = none) : Same G (upd H p o) := fun a u e => by
  rw [upd_ne (ne_of_none e h)]
  exact s a u e
/-- a new frozen object -/
theorem Grow.new {G H : Hp} (s : Same G H) {p : Addr} {o : HO} (h : H p = none) : Grow G H (upd G p o) (upd H p o) :=
  ⟨same_new (none_back s h), same_new h, same_upd2 s, fun a ha e => by
    have hp : a ≠ p := fun z => ha (by rw [z]; exact h)
    rw [upd_ne hp]
    exact e⟩
/-- a new object, not frozen -/
theorem Grow.newH {G H : Hp} (s : Same G H) {p : Addr} {o : HO} (h : H p = none) : Grow G H G (upd H p o) :=
  ⟨Same.refl _, same_new h, same_updR s (none_back s h), fun a ha e => e⟩

/-! ### the slots -/
structure Base where
  G0 : Hp
  H0 : Hp
  bor : Option Addr
def LstAt (K : PySem.W.Frag) (G H : Hp) (a : Addr) (ds : List Dt) : Prop := G a = none ∧ ∃ vs, H a = some (.lst vs) ∧ DpAll K G vs ds
def RepS (K : PySem.W.Frag) (C : Base) (G H : Hp) : Sl → Option (Option V) → Prop
  | .no, _ => True
  | .sh d, o => ∃ v, o = some (some v) ∧ Dp K G v d
  | .own ds, o => ∃ a : Addr, o = some (some (V.ref a)) ∧ C.H0 a = none ∧ LstAt K G H a ds
  | .bow ds, o => ∃ a : Addr, o = some (some (V.ref a)) ∧ C.bor = some a ∧ LstAt K G H a ds
  | .hnd, o => ∃ a : Addr, o = some (some (V.ref a)) ∧ (C.H0 a = none ∨ C.bor = some a) ∧ ∃ ds, HandI ds ∧ LstAt K G H a ds
/-- what every list of one's own has -/
theorem RepS.own_at {K : PySem.W.Frag} {C : Base} {G H : Hp} {s : Sl} {o : Option (Option V)} (h : RepS K C G H s o) (w : isOwn s = true) : ∃ a : Addr, o = some (some (V.ref a)) ∧ (C.H0 a = none ∨ C.bor = some a) ∧ ∃ ds, LstAt K G H a ds := by
  cases s with
  | no => cases w
  | sh d => cases w
  | own ds =>
    obtain ⟨a, e, p, q⟩ := h
    exact ⟨a, e, .inl p, ds, q⟩
  | bow ds =>
    obtain ⟨a, e, p, q⟩ := h
    exact ⟨a, e, .inr p, ds, q⟩
  | hnd =>
    obtain ⟨a, e, p, ds, _, q⟩ := h
    exact ⟨a, e, p, ds, q⟩
def Owns (env : En) (σ : L2.St) (a : Addr) : Prop := ∃ (i : Nat) (s : Sl), env[i]? = some s ∧ isOwn s = true ∧ σ[i]? = some (some (V.ref a))
structure Rep (K : PySem.W.Frag) (C : Base) (G H : Hp) (σ : L2.St) (env : En) : Prop where
  len : env.length = σ.length
  gg : Same C.G0 G
  gh : Same G H
  hh : ∀ a o, C.bor ≠ some a → C.H0 a = some o → H a = some o
  bh : ∀ a, C.bor = some a → H a ≠ none
  nw : ∀ a, C.H0 a ≠ none → C.G0 a = none → G a = none
  sl : ∀ (i : Nat) (s : Sl), env[i]? = some s → RepS K C G H s (σ[i]?)
  ap : ∀ (i j : Nat) (s s' : Sl) (a : Addr), env[i]? = some s → env[j]? = some s' → isOwn s = true → isOwn s' = true → σ[i]? = some (some (V.ref a)) → σ[j]? = some (some (V.ref a)) → i = j
  b0 : ∀ (a : Addr) (s : Sl), C.bor = some a → env[0]? = some s → isOwn s = true → σ[0]? = some (some (V.ref a))
section
variable {K : PySem.W.Frag} {C : Base} {G H G' H' G1 H1 : Hp} {σ : L2.St} {env env' env1 : En}
theorem LstAt.grow {a : Addr} {ds : List Dt} (h : LstAt K G H a ds) (g : Grow G H G' H') : LstAt K G' H' a ds := by
  obtain ⟨h1, vs, h3, h4⟩ := h
  exact ⟨g.2.2.2 a (by rw [h3]; exact Option.some_ne_none _) h1, vs, g.2.1 _ _ h3, dpAll_mono g.1 _ _ h4⟩
theorem RepS.grow {s : Sl} {o : Option (Option V)} (h : RepS K C G H s o) (g : Grow G H G' H') : RepS K C G' H' s o := by
  cases s with
  | no => trivial
  | sh d =>
    obtain ⟨v, e, p⟩ := h
    exact ⟨v, e, dp_mono g.1 _ _ p⟩
  | own ds =>
    obtain ⟨a, e, p, q⟩ := h
    exact ⟨a, e, p, q.grow g⟩
  | bow ds =>
    obtain ⟨a, e, p, q⟩ := h
    exact ⟨a, e, p, q.grow g⟩
  | hnd =>
    obtain ⟨a, e, p, ds, i, q⟩ := h
    exact ⟨a, e, p, ds, i, q.grow g⟩
theorem Rep.there (r : Rep K C G H σ env) {a : Addr} (h : C.H0 a ≠ none) : H a ≠ none := by
  by_cases hb : C.bor = some a
  · exact r.bh a hb
  · cases q : C.H0 a with
    | none => exact absurd q h
    | some o =>
      rw [r.hh a o hb q]
      exact Option.some_ne_none o
theorem Rep.grow (r : Rep K C G H σ env) (g : Grow G H G' H') : Rep K C G' H' σ env where
  len := r.len
  gg := r.gg.trans g.1
  gh := g.2.2.1
  hh := fun a o hb e => g.2.1 a o (r.hh a o hb e)
  bh := fun a hb => Same.ne g.2.1 (r.bh a hb)
  nw := fun a h0 g0 => g.2.2.2 a (r.there h0) (r.nw a h0 g0)
  sl := fun i s e => (r.sl i s e).grow g
  ap := r.ap
  b0 := r.b0
theorem Rep.fresh0 (r : Rep K C G H σ env) {l : Addr} (h : H l = none) : C.H0 l = none := by
  cases q : C.H0 l with
  | none => rfl
  | some o => exact absurd h (r.there (by rw [q]; exact Option.some_ne_none o))
theorem Rep.ownsH (r : Rep K C G H σ env) {a : Addr} (h : Owns env σ a) : H a ≠ none := by
  obtain ⟨i, s, e, o, q⟩ := h
  obtain ⟨b, e1, _, ds, _, vs, e2, _⟩ := (r.sl i s e).own_at o
  rw [q] at e1
  cases e1
  rw [e2]
  exact Option.some_ne_none _
theorem Rep.newOwn (r : Rep K C G H σ env) {l : Addr} (h : H l = none) : ¬ Owns env σ l := fun o => r.ownsH o h

/-- what an expression may do to the heaps and to what is known of the slots -/
structure Stp (K : PySem.W.Frag) (C : Base) (σ : L2.St) (env : En) (G H : Hp) (env' : En) (G' H' : Hp) : Prop where
  rep : Rep K C G' H' σ env'
  gx : Same G G'
  kp : ∀ a o, H a = some o → ¬ Owns env σ a → H' a = some o ∧ (G a = none → G' a = none)
  ow : ∀ a, Owns env' σ a → Owns env σ a
  al : ∀ a, H a ≠ none → H' a ≠ none
theorem Stp.refl (r : Rep K C G H σ env) : Stp K C σ env G H env G H := ⟨r, Same.refl _, fun _ _ e _ => ⟨e, fun z => z⟩, fun _ o => o, fun _ h => h⟩
theorem Stp.trans {env2 : En} {G2 H2 : Hp} (a : Stp K C σ env G H env1 G1 H1) (b : Stp K C σ env1 G1 H1 env2 G2 H2) : Stp K C σ env G H env2 G2 H2 where
  rep := b.rep
  gx := a.gx.trans b.gx
  kp := fun x o e n => by
    obtain ⟨e1, g1⟩ := a.kp x o e n
    obtain ⟨e2, g2⟩ := b.kp x o e1 (fun z => n (a.ow x z))
    exact ⟨e2, fun z => g2 (g1 z)⟩
  ow := fun x o => a.ow x (b.ow x o)
  al := fun x h => b.al x (a.al x h)
theorem Stp.grow (r : Rep K C G H σ env) (g : Grow G H G' H') : Stp K C σ env G H env G' H' where
  rep := r.grow g
  gx := g.1
  kp := fun a o e _ => ⟨g.2.1 a o e, g.2.2.2 a (by rw [e]; exact Option.some_ne_none _)⟩
  ow := fun _ o => o
  al := fun _ h => Same.ne g.2.1 h
theorem Stp.then_grow (a : Stp K C σ env G H env1 G1 H1) {G2 H2 : Hp} (g : Grow G1 H1 G2 H2) : Stp K C σ env G H env1 G2 H2 := a.trans (Stp.grow a.rep g)

/-- a slot is given data -/
theorem Rep.setSh (r : Rep K C G H σ env) {i : Nat} {v : V} {d : Dt} (h : Dp K G v d) : Rep K C G H (σ.set i (some v)) (env.set i (.sh d)) where
  len := by rw [List.length_set, List.length_set]; exact r.len
  gg := r.gg
  gh := r.gh
  hh := r.hh
  bh := r.bh
  nw := r.nw
  sl := fun j s e => by
    by_cases hj : i = j
    · subst hj
      by_cases hl : i < env.length
      · rw [List.getElem?_set_self hl] at e
        rw [List.getElem?_set_self (by rw [← r.len]; exact hl)]
        cases e
        exact ⟨v, rfl, h⟩
      · rw [List.getElem?_eq_none (by rw [List.length_set]; omega)] at e
        cases e
    · rw [List.getElem?_set_ne hj] at e ⊢
      exact r.sl j s e
  ap := fun j k s s' a e1 e2 o1 o2 q1 q2 => by
    by_cases hj : i = j
    · subst hj
      by_cases hl : i < env.length
      · rw [List.getElem?_set_self hl] at e1
        cases e1
        cases o1
      · rw [List.getElem?_eq_none (by rw [List.length_set]; omega)] at e1
        cases e1
    · by_cases hk : i = k
      · subst hk
        by_cases hl : i < env.length
        · rw [List.getElem?_set_self hl] at e2
          cases e2
          cases o2
        · rw [List.getElem?_eq_none (by rw [List.length_set]; omega)] at e2
          cases e2
      · rw [List.getElem?_set_ne hj] at e1 q1
        rw [List.getElem?_set_ne hk] at e2 q2
        exact r.ap j k s s' a e1 e2 o1 o2 q1 q2
  b0 := fun a s hb e o => by
    by_cases hj : i = 0
    · subst hj
      by_cases hl : 0 < env.length
      · rw [List.getElem?_set_self hl] at e
        cases e
        cases o
      · rw [List.getElem?_eq_none (by rw [List.length_set]; omega)] at e
        cases e
    · rw [List.getElem?_set_ne hj] at e ⊢
      exact r.b0 a s hb e o
/-- a slot's knowledge is forgotten, its value whatever -/
theorem Rep.setNo (r : Rep K C G H σ env) {i : Nat} (o : Option V) : Rep K C G H (σ.set i o) (env.set i .no) where
  len := by rw [List.length_set, List.length_set]; exact r.len
  gg := r.gg
  gh := r.gh
  hh := r.hh
  bh := r.bh
  nw := r.nw
  sl := fun j s e => by
    by_cases hj : i = j
    · subst hj
      by_cases hl : i < env.length
      · rw [List.getElem?_set_self hl] at e
        cases e
        trivial
      · rw [List.getElem?_eq_none (by rw [List.length_set]; omega)] at e
        cases e
    · rw [List.getElem?_set_ne hj] at e ⊢
      exact r.sl j s e
  ap := fun j k s s' a e1 e2 o1 o2 q1 q2 => by
    by_cases hj : i = j
    · subst hj
      by_cases hl : i < env.length
      · rw [List.getElem?_set_self hl] at e1
        cases e1
        cases o1
      · rw [List.getElem?_eq_none (by rw [List.length_set]; omega)] at e1
        cases e1
    · by_cases hk : i = k
      · subst hk
        by_cases hl : i < env.length
        · rw [List.getElem?_set_self hl] at e2
          cases e2
          cases o2
        · rw [List.getElem?_eq_none (by rw [List.length_set]; omega)] at e2
          cases e2
      · rw [List.getElem?_set_ne hj] at e1 q1
        rw [List.getElem?_set_ne hk] at e2 q2
        exact r.ap j k s s' a e1 e2 o1 o2 q1 q2
  b0 := fun a s hb e o => by
    by_cases hj : i = 0
    · subst hj
      by_cases hl : 0 < env.length
      · rw [List.getElem?_set_self hl] at e
        cases e
        cases o
      · rw [List.getElem?_eq_none (by rw [List.length_set]; omega)] at e
        cases e
    · rw [List.getElem?_set_ne hj] at e ⊢
      exact r.b0 a s hb e o
/-- the same, the value left as it is -/
theorem Rep.forget (r : Rep K C G H σ env) (i : Nat) : Rep K C G H σ (env.set i .no) where
  len := by rw [List.length_set]; exact r.len
  gg := r.gg
  gh := r.gh
  hh := r.hh
  bh := r.bh
  nw := r.nw
  sl := fun j s e => by
    by_cases hj : i = j
    · subst hj
      by_cases hl : i < env.length
      · rw [List.getElem?_set_self hl] at e
        cases e
        trivial
      · rw [List.getElem?_eq_none (by rw [List.length_set]; omega)] at e
        cases e
    · rw [List.getElem?_set_ne hj] at e
      exact r.sl j s e
  ap := fun j k s s' a e1 e2 o1 o2 q1 q2 => by
    by_cases hj : i = j
    · subst hj
      by_cases hl : i < env.length
      · rw [List.getElem?_set_self hl] at e1
        cases e1
        cases o1
      · rw [List.getElem?_eq_none (by rw [List.length_set]; omega)] at e1
        cases e1
    · by_cases hk : i = k
      · subst hk
        by_cases hl : i < env.length
        · rw [List.getElem?_set_self hl] at e2
          cases e2
          cases o2
        · rw [List.getElem?_eq_none (by rw [List.length_set]; omega)] at e2
          cases e2
      · rw [List.getElem?_set_ne hj] at e1
        rw [List.getElem?_set_ne hk] at e2
        exact r.ap j k s s' a e1 e2 o1 o2 q1 q2
  b0 := fun a s hb e o => by
    by_cases hj : i = 0
    · subst hj
      by_cases hl : 0 < env.length
      · rw [List.getElem?_set_self hl] at e
        cases e
        cases o
      · rw [List.getElem?_eq_none (by rw [List.length_set]; omega)] at e
        cases e
    · rw [List.getElem?_set_ne hj] at e
      exact r.b0 a s hb e o
/-- a slot is given a list of its own -/
theorem Rep.setOwn (r : Rep K C G H σ env) {i : Nat} {l : Addr} {ds : List Dt} (h0 : 0 < i) (h1 : C.H0 l = none) (hl : LstAt K G H l ds) (hn : ¬ Owns env σ l) : Rep K C G H (σ.set i (some (.ref l))) (env.set i (.own ds)) where
  len := by rw [List.length_set, List.length_set]; exact r.len
  gg := r.gg
  gh := r.gh
  hh := r.hh
  bh := r.bh
  nw := r.nw
  sl := fun j s e => by
    by_cases hj : i = j
    · subst hj
      by_cases hi : i < env.length
      · rw [List.getElem?_set_self hi] at e
        rw [List.getElem?_set_self (by rw [← r.len]; exact hi)]
        cases e
        exact ⟨l, rfl, h1, hl⟩
      · rw [List.getElem?_eq_none (by rw [List.length_set]; omega)] at e
        cases e
    · rw [List.getElem?_set_ne hj] at e ⊢
      exact r.sl j s e
  ap := fun j k s s' a e1 e2 o1 o2 q1 q2 => by
    by_cases hj : i = j
    · by_cases hk : i = k
      · omega
      · subst hj
        rw [List.getElem?_set_ne hk] at e2 q2
        by_cases hi : i < σ.length
        · rw [List.getElem?_set_self hi] at q1
          cases q1
          exact absurd ⟨k, s', e2, o2, q2⟩ hn
        · rw [List.getElem?_eq_none (by rw [List.length_set]; omega)] at q1
          cases q1
    · by_cases hk : i = k
      · subst hk
        rw [List.getElem?_set_ne hj] at e1 q1
        by_cases hi : i < σ.length
        · rw [List.getElem?_set_self hi] at q2
          cases q2
          exact absurd ⟨j, s, e1, o1, q1⟩ hn
        · rw [List.getElem?_eq_none (by rw [List.length_set]; omega)] at q2
          cases q2
      · rw [List.getElem?_set_ne hj] at e1 q1
        rw [List.getElem?_set_ne hk] at e2 q2
        exact r.ap j k s s' a e1 e2 o1 o2 q1 q2
  b0 := fun a s hb e o => by
    have hj : i ≠ 0 := by omega
    rw [List.getElem?_set_ne hj] at e ⊢
    exact r.b0 a s hb e o
/-- the list of a slot is changed -/
theorem Rep.mut (r : Rep K C G H σ env) {i : Nat} {l : Addr} {vs' : List V} {s' : Sl} (hi : ∃ s, env[i]? = some s ∧ isOwn s = true) (hσ : σ[i]? = some (some (.ref l)))
    (hs : isOwn s' = true) (ok : RepS K C G (upd H l (.lst vs')) s' (some (some (.ref l)))) : Rep K C G (upd H l (.lst vs')) σ (env.set i s') := by
  obtain ⟨s0, e0, o0⟩ := hi
  have il : i < env.length := (List.getElem?_eq_some_iff.mp e0).1
  have gl : G l = none ∧ (C.H0 l = none ∨ C.bor = some l) := by
    obtain ⟨b, e1, z1, ds, z2, _⟩ := (r.sl i s0 e0).own_at o0
    rw [hσ] at e1
    cases e1
    exact ⟨z2, z1⟩
  refine ⟨by rw [List.length_set]; exact r.len, r.gg, same_updR r.gh gl.1, fun a o hb e => ?_, fun a hb => ?_, r.nw, fun j s e => ?_, fun j k s s'' a e1 e2 o1 o2 q1 q2 => ?_, fun a s hb e o => ?_⟩
  · have hne : a ≠ l := fun z => by
      subst z
      rcases gl.2 with z | z
      · rw [z] at e; cases e
      · exact hb z
    rw [upd_ne hne]
    exact r.hh a o hb e
  · by_cases h : a = l
    · subst h
      rw [upd_same]
      exact Option.some_ne_none _
    · rw [upd_ne h]
      exact r.bh a hb
  · by_cases hj : i = j
    · subst hj
      rw [List.getElem?_set_self il] at e
      cases e
      rw [hσ]
      exact ok
    · rw [List.getElem?_set_ne hj] at e
      have z := r.sl j s e
      have stay : ∀ (b : Addr) (ds' : List Dt), isOwn s = true → σ[j]? = some (some (V.ref b)) → LstAt K G H b ds' → LstAt K G (upd H l (.lst vs')) b ds' := fun b ds' os eb q => by
        have hb : b ≠ l := fun q => by
          subst q
          exact hj (r.ap i j s0 s b e0 e o0 os hσ eb)
        obtain ⟨z1, vs, z3, z4⟩ := q
        exact ⟨z1, vs, by rw [upd_ne hb]; exact z3, z4⟩
      cases s with
      | no => trivial
      | sh d => exact z
      | own ds' =>
        obtain ⟨b, e1, z1, z2⟩ := z
        exact ⟨b, e1, z1, stay b ds' rfl e1 z2⟩
      | bow ds' =>
        obtain ⟨b, e1, z1, z2⟩ := z
        exact ⟨b, e1, z1, stay b ds' rfl e1 z2⟩
      | hnd =>
        obtain ⟨b, e1, z1, ds', z2, z3⟩ := z
        exact ⟨b, e1, z1, ds', z2, stay b ds' rfl e1 z3⟩
  · have f : ∀ j s, (env.set i s')[j]? = some s → isOwn s = true → ∃ s1, env[j]? = some s1 ∧ isOwn s1 = true := fun j s e o => by
      by_cases hj : i = j
      · subst hj
        exact ⟨s0, e0, o0⟩
      · rw [List.getElem?_set_ne hj] at e
        exact ⟨s, e, o⟩
    obtain ⟨t1, a1, b1⟩ := f j s e1 o1
    obtain ⟨t2, a2, b2⟩ := f k s'' e2 o2
    exact r.ap j k t1 t2 a a1 a2 b1 b2 q1 q2
  · by_cases hj : i = 0
    · subst hj
      exact r.b0 a s0 hb e0 o0
    · rw [List.getElem?_set_ne hj] at e
      exact r.b0 a s hb e o
end

/-! ### expressions: what a reading does, told of data alone -/
abbrev WE := En → (Dt → En → Prop) → Prop
abbrev WF := En → (List Dt → En → Prop) → Prop
abbrev WT := En → (Bool → En → Prop) → Prop
abbrev WA := En → (List Dt → En → Prop) → Prop
/-- data, or a list that may still change -/
def Pk (K : PySem.W.Frag) (G H : Hp) (v : V) (d : Dt) : Prop := Dp K G v d ∨ ∃ (l : Addr) (ds : List Dt), v = .ref l ∧ d = .list ds ∧ ∃ vs, H l = some (.lst vs) ∧ DpAll K G vs ds
theorem Pk.dp {K : PySem.W.Frag} {G H : Hp} {v : V} {d : Dt} (h : Pk K G H v d) (s : Same G H) : Dp K H v d := by
  rcases h with h | ⟨l, ds, rfl, rfl, vs, h1, h2⟩
  · exact dp_mono s _ _ h
  · exact .lst (SqL.of h1) (dpAll_mono s _ _ h2)
/-- as a list, or a tuple, of values -/
theorem Pk.lst {K : PySem.W.Frag} {G H : Hp} {v : V} {ds : List Dt} (h : Pk K G H v (.list ds)) (s : Same G H) : ∃ a vs, v = .ref a ∧ SqL K H a vs ∧ DpAll K G vs ds := by
  rcases h with h | ⟨l, ds', rfl, e, vs, h1, h2⟩
  · cases h with
    | lst h1 h2 => exact ⟨_, _, rfl, s.seq h1, h2⟩
  · cases e
    exact ⟨_, _, rfl, SqL.of h1, h2⟩
theorem sqT_mono {K : PySem.W.Frag} {G H : Hp} {a : Addr} {xs : List V} (s : Same G H) (hs : SqT K G a xs) : SqT K H a xs := by
  rcases hs with (hs | ⟨o, hs⟩) | hs
  · exact .inl (.inl (s _ _ hs))
  · exact .inl (.inr ⟨o, s _ _ hs⟩)
  · exact .inr hs
theorem Pk.tup {K : PySem.W.Frag} {G H : Hp} {v : V} {ds : List Dt} (h : Pk K G H v (.tuple ds)) (s : Same G H) : ∃ a vs, v = .ref a ∧ SqT K G a vs ∧ SqT K H a vs ∧ DpAll K G vs ds := by
  rcases h with h | ⟨l, ds', rfl, e, vs, h1, h2⟩
  · cases h with
    | tup h1 h2 => exact ⟨_, _, rfl, h1, sqT_mono s h1, h2⟩
  · cases e
theorem Pk.tupD {K : PySem.W.Frag} {G H : Hp} {v : V} {ds : List Dt} (h : Pk K G H v (.tuple ds)) : Dp K G v (.tuple ds) := by
  rcases h with h | ⟨l, ds', rfl, e, vs, h1, h2⟩
  · exact h
  · cases e
theorem Pk.int {K : PySem.W.Frag} {G H : Hp} {v : V} {i : Int} (h : Pk K G H v (.int i)) : v = .int i := by
  rcases h with h | ⟨l, ds', rfl, e, vs, h1, h2⟩
  · cases h; rfl
  · cases e
theorem Pk.bl {K : PySem.W.Frag} {G H : Hp} {v : V} {b : Bool} (h : Pk K G H v (.bool b)) : v = .bl b := by
  rcases h with h | ⟨l, ds', rfl, e, vs, h1, h2⟩
  · cases h; rfl
  · cases e
theorem Pk.str {K : PySem.W.Frag} {G H : Hp} {v : V} {x : Str} (h : Pk K G H v (.str x)) : v = .str x := by
  rcases h with h | ⟨l, ds', rfl, e, vs, h1, h2⟩
  · cases h; rfl
  · cases e
theorem Pk.isN {K : PySem.W.Frag} {G H : Hp} {v : V} {d : Dt} (h : Pk K G H v d) : decide (v = .non) = (match d with | .none => true | _ => false) := by
  rcases h with h | ⟨l, ds', rfl, rfl, vs, h1, h2⟩
  · cases h <;> rfl
  · rfl

def SimE (K : PySem.W.Frag) (t : TE) (w : WE) : Prop := ∀ (C : Base) (G H : Hp) (σ : L2.St) (env : En) (R : Dt → En → Prop) (Q : VK), Rep K C G H σ env → w env R →
  (∀ d env' v G' H', Stp K C σ env G H env' G' H' → Dp K G' v d → R d env' → Q v H') → t σ H Q
def SimP (K : PySem.W.Frag) (t : TE) (w : WE) : Prop := ∀ (C : Base) (G H : Hp) (σ : L2.St) (env : En) (R : Dt → En → Prop) (Q : VK), Rep K C G H σ env → w env R →
  (∀ d env' v G' H', Stp K C σ env G H env' G' H' → Pk K G' H' v d → R d env' → Q v H') → t σ H Q
def SimF (K : PySem.W.Frag) (t : TE) (w : WF) : Prop := ∀ (C : Base) (G H : Hp) (σ : L2.St) (env : En) (R : List Dt → En → Prop) (Q : VK), Rep K C G H σ env → w env R →
  (∀ ds env' l G' H', Stp K C σ env G H env' G' H' → H l = none → LstAt K G' H' l ds → R ds env' → Q (.ref l) H') → t σ H Q
def SimT (K : PySem.W.Frag) (t : TT) (w : WT) : Prop := ∀ (C : Base) (G H : Hp) (σ : L2.St) (env : En) (R : Bool → En → Prop) (Q : Bool → Hp → Prop), Rep K C G H σ env → w env R →
  (∀ b env' G' H', Stp K C σ env G H env' G' H' → R b env' → Q b H') → t σ H Q
def SimA (K : PySem.W.Frag) (t : TA) (w : WA) : Prop := ∀ (C : Base) (G H : Hp) (σ : L2.St) (env : En) (R : List Dt → En → Prop) (Q : List V → Hp → Prop), Rep K C G H σ env → w env R →
  (∀ ds env' vs G' H', Stp K C σ env G H env' G' H' → DpAll K G' vs ds → R ds env' → Q vs H') → t σ H Q
structure DE (X : Cx) (e : Expr) (t : TE) (w : WE) : Prop where
  pe : PE X e t
  sim : SimE X.K t w
structure DP (X : Cx) (e : Expr) (t : TE) (w : WE) : Prop where
  pe : PE X e t
  sim : SimP X.K t w
structure DF (X : Cx) (e : Expr) (t : TE) (w : WF) : Prop where
  pe : PE X e t
  sim : SimF X.K t w
structure DT (X : Cx) (e : Expr) (t : TT) (w : WT) : Prop where
  pe : PT X e t
  sim : SimT X.K t w
structure DW (X : Cx) (e : Expr) (t : TT) (w : WT) : Prop where
  pe : PW X e t
  sim : SimT X.K t w
structure DA (X : Cx) (es : List Expr) (t : TA) (w : WA) : Prop where
  pe : PA X es t
  sim : SimA X.K t w
section
variable {X : Cx} {a b e : Expr} {es : List Expr} {pos : Pos} {ta tb te tc : TE} {tt tu : TT} {tl : TA} {wa wb we : WE} {wf : WF} {K : PySem.W.Frag}
/-! names, constants -/
def wVar (i : Nat) : WE := fun env R => match env[i]? with
  | some (.sh d) => R d env
  | some (.own ds) => R (.list ds) (env.set i (.sh (.list ds)))
  | _ => False
def peek (env : En) (i : Nat) : Option Dt := match env[i]? with
  | some (.sh d) => some d
  | some (.own ds) => some (.list ds)
  | some (.bow ds) => some (.list ds)
  | _ => none
def wPeek (i : Nat) : WE := fun env R => match peek env i with
  | some d => R d env
  | none => False
def wC (d : Dt) : WE := fun env R => R d env
/-- a list of one's own is frozen -/
theorem Rep.frz {C : Base} {G H : Hp} {σ : L2.St} {env : En} (r : Rep K C G H σ env) {i : Nat} {ds : List Dt} (e : env[i]? = some (.own ds)) :
    ∃ a G', σ[i]? = some (some (.ref a)) ∧ Stp K C σ env G H (env.set i (.sh (.list ds))) G' H ∧ Dp K G' (.ref a) (.list ds) := by
  obtain ⟨a, ea, c0, ga, vs, ha, dv⟩ := r.sl i _ e
  have sG : Same G (upd G a (.lst vs)) := same_new ga
  have dG : Dp K (upd G a (.lst vs)) (.ref a) (.list ds) := .lst (SqL.of upd_same) (dpAll_mono sG _ _ dv)
  have il : i < env.length := (List.getElem?_eq_some_iff.mp e).1
  refine ⟨a, upd G a (.lst vs), ea, ⟨⟨?_, ?_, ?_, ?_, ?_, ?_, ?_, ?_, ?_⟩, sG, fun b o hb hn => ⟨hb, fun z => ?_⟩, fun b ob => ?_, fun b hb => hb⟩, dG⟩
  · rw [List.length_set]
    exact r.len
  · exact r.gg.trans sG
  · intro b o hb
    by_cases q : b = a
    · subst q
      rw [upd_same] at hb
      cases hb
      exact ha
    · rw [upd_ne q] at hb
      exact r.gh b o hb
  · exact r.hh
  · exact r.bh
  · intro b h0 g0
    have q : b ≠ a := fun q => h0 (by rw [q]; exact c0)
    rw [upd_ne q]
    exact r.nw b h0 g0
  · intro j s ej
    by_cases hj : i = j
    · subst hj
      rw [List.getElem?_set_self il] at ej
      cases ej
      exact ⟨_, ea, dG⟩
    · rw [List.getElem?_set_ne hj] at ej
      have z := r.sl j s ej
      have stay : ∀ (b : Addr) (ds' : List Dt), isOwn s = true → σ[j]? = some (some (V.ref b)) → LstAt K G H b ds' → LstAt K (upd G a (.lst vs)) H b ds' := fun b ds' os eb q => by
        have hb : b ≠ a := fun q => by
          subst q
          exact hj (r.ap i j _ s b e ej rfl os ea eb)
        obtain ⟨z1, vs', z3, z4⟩ := q
        exact ⟨by rw [upd_ne hb]; exact z1, vs', z3, dpAll_mono sG _ _ z4⟩
      cases s with
      | no => trivial
      | sh d =>
        obtain ⟨v, e1, p⟩ := z
        exact ⟨v, e1, dp_mono sG _ _ p⟩
      | own ds' =>
        obtain ⟨b, e1, z1, z2⟩ := z
        exact ⟨b, e1, z1, stay b ds' rfl e1 z2⟩
      | bow ds' =>
        obtain ⟨b, e1, z1, z2⟩ := z
        exact ⟨b, e1, z1, stay b ds' rfl e1 z2⟩
      | hnd =>
        obtain ⟨b, e1, z1, ds', z2, z3⟩ := z
        exact ⟨b, e1, z1, ds', z2, stay b ds' rfl e1 z3⟩
  · have f : ∀ j s, (env.set i (.sh (.list ds)))[j]? = some s → isOwn s = true → ∃ s1, env[j]? = some s1 ∧ isOwn s1 = true := fun j s ej o => by
      by_cases hj : i = j
      · subst hj
        exact ⟨_, e, rfl⟩
      · rw [List.getElem?_set_ne hj] at ej
        exact ⟨s, ej, o⟩
    intro j k s s'' b e1 e2 o1 o2 q1 q2
    obtain ⟨t1, a1, b1⟩ := f j s e1 o1
    obtain ⟨t2, a2, b2⟩ := f k s'' e2 o2
    exact r.ap j k t1 t2 b a1 a2 b1 b2 q1 q2
  · intro b s hb ej o
    by_cases hj : i = 0
    · subst hj
      exact r.b0 b _ hb e rfl
    · rw [List.getElem?_set_ne hj] at ej
      exact r.b0 b s hb ej o
  · have q : b ≠ a := fun q => hn ⟨i, _, e, rfl, by rw [q]; exact ea⟩
    rw [upd_ne q]
    exact z
  · obtain ⟨j, s, ej, o, q⟩ := ob
    by_cases hj : i = j
    · subst hj
      exact ⟨i, _, e, rfl, q⟩
    · rw [List.getElem?_set_ne hj] at ej
      exact ⟨j, s, ej, o, q⟩
theorem sim_var (i : Nat) : SimE K (tVar i) (wVar i) := by
  intro C G H σ env R Q r h k
  unfold wVar at h
  cases e : env[i]? with
  | none => rw [e] at h; exact h.elim
  | some s =>
    rw [e] at h
    cases s with
    | no => exact h.elim
    | bow ds => exact h.elim
    | hnd => exact h.elim
    | sh d =>
      obtain ⟨v, ev, p⟩ := r.sl i _ e
      exact ⟨v, ev, k d env v G H (Stp.refl r) p h⟩
    | own ds =>
      obtain ⟨a, G', ea, st, p⟩ := r.frz e
      exact ⟨_, ea, k _ _ _ G' H st p h⟩
theorem Rep.peek {C : Base} {G H : Hp} {σ : L2.St} {env : En} (r : Rep K C G H σ env) {i : Nat} {d : Dt} (e : peek env i = some d) : ∃ v, σ[i]? = some (some v) ∧ Pk K G H v d := by
  unfold DL.peek at e
  cases q : env[i]? with
  | none => rw [q] at e; cases e
  | some s =>
    rw [q] at e
    have z := r.sl i s q
    cases s with
    | no => cases e
    | hnd => cases e
    | sh d =>
      cases e
      obtain ⟨v, ev, p⟩ := z
      exact ⟨v, ev, .inl p⟩
    | own ds =>
      cases e
      obtain ⟨a, ev, _, _, vs, h1, h2⟩ := z
      exact ⟨_, ev, .inr ⟨a, ds, rfl, rfl, vs, h1, h2⟩⟩
    | bow ds =>
      cases e
      obtain ⟨a, ev, _, _, vs, h1, h2⟩ := z
      exact ⟨_, ev, .inr ⟨a, ds, rfl, rfl, vs, h1, h2⟩⟩
theorem sim_peek (i : Nat) : SimP K (tVar i) (wPeek i) := by
  intro C G H σ env R Q r h k
  unfold wPeek at h
  cases e : DL.peek env i with
  | none => rw [e] at h; exact h.elim
  | some d =>
    rw [e] at h
    obtain ⟨v, ev, p⟩ := r.peek e
    exact ⟨v, ev, k d env v G H (Stp.refl r) p h⟩
theorem de_var (i : Nat) {x : Str} (hN : X.N[i]? = some x := by rfl) (hv : Vis X.env.scope x := by first | exact Or.inl rfl | exact Or.inr (Or.inl rfl) | exact Or.inr (Or.inr rfl)) (hd : (x == ("__debug__" : Str)) = false := by decide)
    (hcd : (x == ("__classdict__" : Str)) = false := by decide) : DE X (.Name x pos) (tVar i) (wVar i) := ⟨pv i hN hv hd hcd, sim_var i⟩
theorem dp_var (i : Nat) {x : Str} (hN : X.N[i]? = some x := by rfl) (hv : Vis X.env.scope x := by first | exact Or.inl rfl | exact Or.inr (Or.inl rfl) | exact Or.inr (Or.inr rfl)) (hd : (x == ("__debug__" : Str)) = false := by decide)
    (hcd : (x == ("__classdict__" : Str)) = false := by decide) : DP X (.Name x pos) (tVar i) (wPeek i) := ⟨pv i hN hv hd hcd, sim_peek i⟩
theorem dp_of (h : DE X e te we) : DP X e te we := by
  obtain ⟨p, s⟩ := h
  exact ⟨p, fun C G H σ env R Q r hw k => s C G H σ env R Q r hw fun d env' v G' H' st q => k d env' v G' H' st (.inl q)⟩
theorem sim_c {v : V} {d : Dt} (h : ∀ G, Dp K G v d) : SimE K (tC v) (wC d) := fun C G H σ env R Q r hw k => k d env v G H (Stp.refl r) (h G) hw
theorem de_int {i j} : DE X (.Constant (.int i) j pos) (tC (.int i)) (wC (.int i)) := ⟨pe_int, sim_c fun _ => .int i⟩
theorem de_bl {b j} : DE X (.Constant (.bool b) j pos) (tC (.bl b)) (wC (.bool b)) := ⟨pe_bl, sim_c fun _ => .bl b⟩
theorem de_non {j} : DE X (.Constant .none j pos) (tC .non) (wC .none) := ⟨pe_non, sim_c fun _ => .non⟩
theorem de_str {x j} : DE X (.Constant (.str x) j pos) (tC (.str x)) (wC (.str x)) := ⟨pe_str, sim_c fun _ => .str x⟩
/-- a module's constant -/
theorem de_glob {x : Str} {v : V} {u : Value} {d : Dt} (hg : Gl X x) (hm : X.mg x = some u) (r : RelV v u) (h : ∀ G, Dp X.K G v d) (hd : (x == ("__debug__" : Str)) = false := by decide) : DE X (.Name x pos) (tC v) (wC d) := ⟨pe_glob hg hm r hd, sim_c h⟩

/-! operators of two, told of data -/
abbrev G2 := Dt → Dt → (Dt → Prop) → Prop
def OpSim (K : PySem.W.Frag) (r : R2) (g : G2) : Prop := ∀ (G H : Hp) (x y : V) (dx dy : Dt) (R : Dt → Prop) (Q : VK), Same G H → Pk K G H x dx → Pk K G H y dy → g dx dy R →
  (∀ d v G' H', Grow G H G' H' → Dp K G' v d → R d → Q v H') → r x y H Q
def wBin (g : G2) (wa wb : WE) : WE := fun env R => wa env fun x e1 => wb e1 fun y e2 => g x y fun d => R d e2
/-- the first operand a name, looked at behind the second -/
def wBinV (g : G2) (i : Nat) (wb : WE) : WE := fun env R => match peek env i with
  | none => False
  | some _ => wb env fun y e2 => match peek e2 i with
    | some x => g x y fun d => R d e2
    | none => False
theorem Pk.mono {G H G' H' : Hp} {v : V} {d : Dt} (g : Grow G H G' H') (h : Pk K G H v d) : Pk K G' H' v d := by
  rcases h with h | ⟨l, ds, rfl, rfl, vs, h1, h2⟩
  · exact .inl (dp_mono g.1 _ _ h)
  · exact .inr ⟨l, ds, rfl, rfl, vs, g.2.1 _ _ h1, dpAll_mono g.1 _ _ h2⟩
theorem sim_bin {r : R2} {g : G2} {ta tb : TE} (hr : OpSim K r g) (ha : SimE K ta wa) (hb : SimP K tb wb) : SimE K (tOp r ta tb) (wBin g wa wb) := by
  intro C G H σ env R Q rp h k
  refine ha C G H σ env _ _ rp h fun x e1 v1 G1 H1 s1 p1 h1 => ?_
  refine hb C G1 H1 σ e1 _ _ s1.rep h1 fun y e2 v2 G2 H2 s2 p2 h2 => ?_
  refine hr G2 H2 v1 v2 x y _ _ s2.rep.gh (.inl (dp_mono s2.gx _ _ p1)) p2 h2 fun d v G' H' gr p q => ?_
  exact k d e2 v G' H' ((s1.trans s2).then_grow gr) p q
theorem sim_binV {r : R2} {g : G2} {tb : TE} {i : Nat} (hr : OpSim K r g) (hb : SimP K tb wb) : SimE K (tOp r (tVar i) tb) (wBinV g i wb) := by
  intro C G H σ env R Q rp h k
  unfold wBinV at h
  cases e0 : DL.peek env i with
  | none => rw [e0] at h; exact h.elim
  | some d0 =>
    rw [e0] at h
    obtain ⟨v1, ev, _⟩ := rp.peek e0
    refine ⟨v1, ev, hb C G H σ env _ _ rp h fun y e2 v2 G2 H2 s2 p2 h2 => ?_⟩
    cases e : DL.peek e2 i with
    | none => rw [e] at h2; exact h2.elim
    | some x =>
      rw [e] at h2
      obtain ⟨v, ev', p1⟩ := s2.rep.peek e
      rw [ev] at ev'
      cases ev'
      exact hr G2 H2 v1 v2 x y _ _ s2.rep.gh p1 p2 h2 fun d v G' H' gr p q => k d e2 v G' H' (s2.then_grow gr) p q
theorem de_bin {op : Operator} {r : R2} {g : G2} (ho : OpR X (binaryOp op) r) (hs : OpSim X.K r g) (ha : DE X a ta wa) (hb : DP X b tb wb) : DE X (.BinOp a op b pos) (tOp r ta tb) (wBin g wa wb) := by
  obtain ⟨pa, sa⟩ := ha
  obtain ⟨pb, sb⟩ := hb
  exact ⟨pe_op ho pa pb, sim_bin hs sa sb⟩
theorem de_binV {op : Operator} {r : R2} {g : G2} (i : Nat) {x : Str} {pos' : Pos} (ho : OpR X (binaryOp op) r) (hs : OpSim X.K r g) (hb : DP X b tb wb)
    (hN : X.N[i]? = some x := by rfl) (hv : Vis X.env.scope x := by first | exact Or.inl rfl | exact Or.inr (Or.inl rfl) | exact Or.inr (Or.inr rfl)) (hd : (x == ("__debug__" : Str)) = false := by decide) (hcd : (x == ("__classdict__" : Str)) = false := by decide) :
    DE X (.BinOp (.Name x pos') op b pos) (tOp r (tVar i) tb) (wBinV g i wb) := by
  obtain ⟨pb, sb⟩ := hb
  exact ⟨pe_op ho (pv i hN hv hd hcd) pb, sim_binV hs sb⟩
/-- comparisons, as a value and as a test -/
theorem de_cmp {op : CmpOp} {r : R2} {g : G2} (ho : OpR X (compareOp op) r) (hs : OpSim X.K r g) (ha : DE X a ta wa) (hb : DP X b tb wb) (hm : behindInMarks op b = false) : DE X (.Compare a [op] [b] pos) (tOp r ta tb) (wBin g wa wb) := by
  obtain ⟨pa, sa⟩ := ha
  obtain ⟨pb, sb⟩ := hb
  exact ⟨pe_cmpR ho pa pb hm, sim_bin hs sa sb⟩
theorem de_cmpV {op : CmpOp} {r : R2} {g : G2} (i : Nat) {x : Str} {pos' : Pos} (ho : OpR X (compareOp op) r) (hs : OpSim X.K r g) (hb : DP X b tb wb) (hm : behindInMarks op b = false)
    (hN : X.N[i]? = some x := by rfl) (hv : Vis X.env.scope x := by first | exact Or.inl rfl | exact Or.inr (Or.inl rfl) | exact Or.inr (Or.inr rfl)) (hd : (x == ("__debug__" : Str)) = false := by decide) (hcd : (x == ("__classdict__" : Str)) = false := by decide) :
    DE X (.Compare (.Name x pos') [op] [b] pos) (tOp r (tVar i) tb) (wBinV g i wb) := by
  obtain ⟨pb, sb⟩ := hb
  exact ⟨pe_cmpR ho (pv i hN hv hd hcd) pb hm, sim_binV hs sb⟩
/-- a value's truth, where it is a bool -/
def wTB (w : WE) : WT := fun env R => w env fun d e => match d with
  | .bool b => R b e
  | _ => False
theorem sim_tB {t : TE} (h : SimE K t we) : SimT K (tB t) (wTB we) := by
  intro C G H σ env R Q rp hw k
  refine h C G H σ env _ _ rp hw fun d e1 v G1 H1 s1 p1 h1 => ?_
  cases d with
  | bool b =>
    cases p1
    exact ⟨b, rfl, k b e1 G1 H1 s1 h1⟩
  | _ => exact h1.elim
theorem sim_tTest {t : TE} (h : SimE K t we) : SimT K (tTest t) (wTB we) := sim_tB h
theorem dt_cmp {op : CmpOp} {r : R2} {g : G2} (ho : OpR X (compareOp op) r) (hs : OpSim X.K r g) (ha : DE X a ta wa) (hb : DP X b tb wb) (hm : behindInMarks op b = false) : DT X (.Compare a [op] [b] pos) (tTest (tOp r ta tb)) (wTB (wBin g wa wb)) := by
  obtain ⟨pa, sa⟩ := ha
  obtain ⟨pb, sb⟩ := hb
  exact ⟨pt_cmpR ho pa pb hm, sim_tTest (sim_bin hs sa sb)⟩
theorem dt_cmpV {op : CmpOp} {r : R2} {g : G2} (i : Nat) {x : Str} {pos' : Pos} (ho : OpR X (compareOp op) r) (hs : OpSim X.K r g) (hb : DP X b tb wb) (hm : behindInMarks op b = false)
    (hN : X.N[i]? = some x := by rfl) (hv : Vis X.env.scope x := by first | exact Or.inl rfl | exact Or.inr (Or.inl rfl) | exact Or.inr (Or.inr rfl)) (hd : (x == ("__debug__" : Str)) = false := by decide) (hcd : (x == ("__classdict__" : Str)) = false := by decide) :
    DT X (.Compare (.Name x pos') [op] [b] pos) (tTest (tOp r (tVar i) tb)) (wTB (wBinV g i wb)) := by
  obtain ⟨pb, sb⟩ := hb
  exact ⟨pt_cmpR ho (pv i hN hv hd hcd) pb hm, sim_tTest (sim_binV hs sb)⟩
theorem dt_val (h : DE X e te we) (he : ∀ whole, isTrue e X.env whole = (do let v ← whole; standAt e.pos; holding [v] (truthy v)) := by intro _; rfl) : DT X e (tB te) (wTB we) := by
  obtain ⟨p, s⟩ := h
  exact ⟨pt_val p he, sim_tB s⟩
/-! a < b < c -/
def wChain (g g' : G2) (wa wb wc : WE) : WE := fun env R => wa env fun x e1 => wb e1 fun y e2 => g x y fun d => match d with
  | .bool true => wc e2 fun z e3 => g' y z fun d' => R d' e3
  | .bool false => R (.bool false) e2
  | _ => False
theorem sim_chain {r r' : R2} {g g' : G2} {ta tb tc : TE} {wc : WE} (hr : OpSim K r g) (hr' : OpSim K r' g') (ha : SimE K ta wa) (hb : SimE K tb wb) (hc : SimP K tc wc) : SimE K (tChain r r' ta tb tc) (wChain g g' wa wb wc) := by
  intro C G H σ env R Q rp h k
  refine ha C G H σ env _ _ rp h fun x e1 v1 G1 H1 s1 p1 h1 => ?_
  refine hb C G1 H1 σ e1 _ _ s1.rep h1 fun y e2 v2 G2 H2 s2 p2 h2 => ?_
  refine hr G2 H2 v1 v2 x y _ _ s2.rep.gh (.inl (dp_mono s2.gx _ _ p1)) (.inl p2) h2 fun d v G' H' gr p q => ?_
  have s3 := (s1.trans s2).then_grow gr
  cases d with
  | bool c =>
    cases p
    refine ⟨c, rfl, ?_⟩
    cases c with
    | true =>
      refine iteT (hc C G' H' σ e2 _ _ s3.rep q fun z e3 v3 G3 H3 s4 p4 h4 => ?_)
      exact hr' G3 H3 v2 v3 y z _ _ s4.rep.gh (.inl (dp_mono (gr.1.trans s4.gx) _ _ p2)) p4 h4 fun d' v' G'' H'' gr' p' q' => k d' e3 v' G'' H'' ((s3.trans s4).then_grow gr') p' q'
    | false => exact iteF (k _ e2 _ G' H' s3 (.bl false) q)
  | _ => exact q.elim
theorem de_chain {op op' : CmpOp} {c : Expr} {wc : WE} {r r' : R2} {g g' : G2} (ho : OpR X (compareOp op) r) (ho' : OpR X (compareOp op') r') (hs : OpSim X.K r g) (hs' : OpSim X.K r' g') (ha : DE X a ta wa) (hb : DE X b tb wb) (hc : DP X c tc wc)
    (hm : lastMarks [op, op'] [b, c] = false := by with_unfolding_all rfl) : DE X (.Compare a [op, op'] [b, c] pos) (tChain r r' ta tb tc) (wChain g g' wa wb wc) := by
  obtain ⟨pa, sa⟩ := ha
  obtain ⟨pb, sb⟩ := hb
  obtain ⟨pc, sc⟩ := hc
  exact ⟨pe_chain ho ho' pa pb pc hm, sim_chain hs hs' sa sb sc⟩
theorem dt_chain {op op' : CmpOp} {c : Expr} {wc : WE} {r r' : R2} {g g' : G2} (ho : OpR X (compareOp op) r) (ho' : OpR X (compareOp op') r') (hs : OpSim X.K r g) (hs' : OpSim X.K r' g') (ha : DE X a ta wa) (hb : DE X b tb wb) (hc : DP X c tc wc)
    (hm : lastMarks [op, op'] [b, c] = false := by with_unfolding_all rfl) : DT X (.Compare a [op, op'] [b, c] pos) (tTest (tChain r r' ta tb tc)) (wTB (wChain g g' wa wb wc)) := by
  obtain ⟨pa, sa⟩ := ha
  obtain ⟨pb, sb⟩ := hb
  obtain ⟨pc, sc⟩ := hc
  exact ⟨pt_chain ho ho' pa pb pc hm, sim_tTest (sim_chain hs hs' sa sb sc)⟩
/-! and, or, not -/
def wAndT (t u : WT) : WT := fun env R => t env fun b e => if b = true then u e R else R false e
def wOrT (t u : WT) : WT := fun env R => t env fun b e => if b = true then R true e else u e R
def wNotT (t : WT) : WT := fun env R => t env fun b e => R (!b) e
variable {wt wu : WT}
theorem dw_pt (h : DW X e tt wt) : DT X e tt wt := by
  obtain ⟨p, s⟩ := h
  exact ⟨p.pt, s⟩
theorem dw_and1 (h : DT X a tt wt) : DW X (.BoolOp .And [a] pos) tt wt := by
  obtain ⟨p, s⟩ := h
  exact ⟨pw_and1 p, s⟩
theorem dw_or1 (h : DT X a tt wt) : DW X (.BoolOp .Or [a] pos) tt wt := by
  obtain ⟨p, s⟩ := h
  exact ⟨pw_or1 p, s⟩
theorem sim_and {t u : TT} (h1 : SimT K t wt) (h2 : SimT K u wu) : SimT K (tAnd t u) (wAndT wt wu) := by
  intro C G H σ env R Q rp hw k
  refine h1 C G H σ env _ _ rp hw fun b e1 G1 H1 s1 q1 => ?_
  cases b with
  | true => exact iteT (h2 C G1 H1 σ e1 _ _ s1.rep q1 fun b e2 G2 H2 s2 q2 => k b e2 G2 H2 (s1.trans s2) q2)
  | false => exact iteF (k _ _ _ _ s1 q1)
theorem sim_or {t u : TT} (h1 : SimT K t wt) (h2 : SimT K u wu) : SimT K (tOr t u) (wOrT wt wu) := by
  intro C G H σ env R Q rp hw k
  refine h1 C G H σ env _ _ rp hw fun b e1 G1 H1 s1 q1 => ?_
  cases b with
  | true => exact iteT (k _ _ _ _ s1 q1)
  | false => exact iteF (h2 C G1 H1 σ e1 _ _ s1.rep q1 fun b e2 G2 H2 s2 q2 => k b e2 G2 H2 (s1.trans s2) q2)
theorem dw_and {rest : List Expr} (ha : DT X a tt wt) (hb : DW X (.BoolOp .And (b :: rest) pos) tu wu) : DW X (.BoolOp .And (a :: b :: rest) pos) (tAnd tt tu) (wAndT wt wu) := by
  obtain ⟨p, s⟩ := ha
  obtain ⟨p', s'⟩ := hb
  exact ⟨pw_and p p', sim_and s s'⟩
theorem dw_or {rest : List Expr} (ha : DT X a tt wt) (hb : DW X (.BoolOp .Or (b :: rest) pos) tu wu) : DW X (.BoolOp .Or (a :: b :: rest) pos) (tOr tt tu) (wOrT wt wu) := by
  obtain ⟨p, s⟩ := ha
  obtain ⟨p', s'⟩ := hb
  exact ⟨pw_or p p', sim_or s s'⟩
theorem dt_not (ha : DT X a tt wt) : DT X (.UnaryOp .Not a pos) (tNot tt) (wNotT wt) := by
  obtain ⟨p, s⟩ := ha
  exact ⟨pt_not p, fun C G H σ env R Q rp hw k => s C G H σ env _ _ rp hw fun b e1 G1 H1 s1 q1 => k _ _ _ _ s1 q1⟩
/-- as values: all but the last are bools -/
def wAndV (w u : WE) : WE := fun env R => w env fun d e => match d with
  | .bool true => u e R
  | .bool false => R (.bool false) e
  | _ => False
def wOrV (w u : WE) : WE := fun env R => w env fun d e => match d with
  | .bool true => R (.bool true) e
  | .bool false => u e R
  | _ => False
def wNotV (w : WE) : WE := fun env R => w env fun d e => match d with
  | .bool b => R (.bool !b) e
  | _ => False
theorem de_one {op} (h : DE X a te we) : DE X (.BoolOp op [a] pos) te we := by
  obtain ⟨p, s⟩ := h
  exact ⟨pe_one p, s⟩
theorem de_and {rest : List Expr} (ha : DE X a ta wa) (hb : DE X (.BoolOp .And (b :: rest) pos) tb wb) : DE X (.BoolOp .And (a :: b :: rest) pos) (tAndV ta tb) (wAndV wa wb) := by
  obtain ⟨p, s⟩ := ha
  obtain ⟨p', s'⟩ := hb
  refine ⟨pe_and p p', fun C G H σ env R Q rp hw k => s C G H σ env _ _ rp hw fun d e1 v G1 H1 s1 p1 q1 => ?_⟩
  cases d with
  | bool b =>
    cases p1
    refine ⟨b, rfl, ?_⟩
    cases b with
    | true => exact iteT (s' C G1 H1 σ e1 _ _ s1.rep q1 fun d e2 v G2 H2 s2 p2 q2 => k d e2 v G2 H2 (s1.trans s2) p2 q2)
    | false => exact iteF (k _ _ _ _ _ s1 (.bl false) q1)
  | _ => exact q1.elim
theorem de_or {rest : List Expr} (ha : DE X a ta wa) (hb : DE X (.BoolOp .Or (b :: rest) pos) tb wb) : DE X (.BoolOp .Or (a :: b :: rest) pos) (tOrV ta tb) (wOrV wa wb) := by
  obtain ⟨p, s⟩ := ha
  obtain ⟨p', s'⟩ := hb
  refine ⟨pe_or p p', fun C G H σ env R Q rp hw k => s C G H σ env _ _ rp hw fun d e1 v G1 H1 s1 p1 q1 => ?_⟩
  cases d with
  | bool b =>
    cases p1
    refine ⟨b, rfl, ?_⟩
    cases b with
    | true => exact iteT (k _ _ _ _ _ s1 (.bl true) q1)
    | false => exact iteF (s' C G1 H1 σ e1 _ _ s1.rep q1 fun d e2 v G2 H2 s2 p2 q2 => k d e2 v G2 H2 (s1.trans s2) p2 q2)
  | _ => exact q1.elim
theorem de_not (ha : DE X a ta wa) : DE X (.UnaryOp .Not a pos) (tNotV ta) (wNotV wa) := by
  obtain ⟨p, s⟩ := ha
  refine ⟨pe_not p, fun C G H σ env R Q rp hw k => s C G H σ env _ _ rp hw fun d e1 v G1 H1 s1 p1 q1 => ?_⟩
  cases d with
  | bool b =>
    cases p1
    exact ⟨b, rfl, k _ _ _ _ _ s1 (.bl _) q1⟩
  | _ => exact q1.elim
/-! a if t else b -/
def wIfE (t : WT) (w u : WE) : WE := fun env R => t env fun b e => if b = true then w e R else u e R
def wIfF (t : WT) (w u : WF) : WF := fun env R => t env fun b e => if b = true then w e R else u e R
theorem de_if {c : Expr} (hc : DT X c tt wt) (ha : DE X a ta wa) (hb : DE X b tb wb) : DE X (.IfExp c a b pos) (tIf tt ta tb) (wIfE wt wa wb) := by
  obtain ⟨pc, sc⟩ := hc
  obtain ⟨pa, sa⟩ := ha
  obtain ⟨pb, sb⟩ := hb
  refine ⟨pe_ifExp pc pa pb, fun C G H σ env R Q rp hw k => sc C G H σ env _ _ rp hw fun b e1 G1 H1 s1 q1 => ?_⟩
  cases b with
  | true => exact iteT (sa C G1 H1 σ e1 _ _ s1.rep q1 fun d e2 v G2 H2 s2 p2 q2 => k d e2 v G2 H2 (s1.trans s2) p2 q2)
  | false => exact iteF (sb C G1 H1 σ e1 _ _ s1.rep q1 fun d e2 v G2 H2 s2 p2 q2 => k d e2 v G2 H2 (s1.trans s2) p2 q2)
theorem none_al {G H G' H' : Hp} {C : Base} {σ : L2.St} {env env' : En} (s : Stp K C σ env G H env' G' H') {l : Addr} (h : H' l = none) : H l = none := by
  cases q : H l with
  | none => rfl
  | some o => exact absurd h (s.al l (by rw [q]; exact Option.some_ne_none o))
theorem df_if {c : Expr} {wf wg : WF} (hc : DT X c tt wt) (ha : DF X a ta wf) (hb : DF X b tb wg) : DF X (.IfExp c a b pos) (tIf tt ta tb) (wIfF wt wf wg) := by
  obtain ⟨pc, sc⟩ := hc
  obtain ⟨pa, sa⟩ := ha
  obtain ⟨pb, sb⟩ := hb
  refine ⟨pe_ifExp pc pa pb, fun C G H σ env R Q rp hw k => sc C G H σ env _ _ rp hw fun b e1 G1 H1 s1 q1 => ?_⟩
  cases b with
  | true => exact iteT (sa C G1 H1 σ e1 _ _ s1.rep q1 fun d e2 v G2 H2 s2 p2 r2 q2 => k d e2 v G2 H2 (s1.trans s2) (none_al s1 p2) r2 q2)
  | false => exact iteF (sb C G1 H1 σ e1 _ _ s1.rep q1 fun d e2 v G2 H2 s2 p2 r2 q2 => k d e2 v G2 H2 (s1.trans s2) (none_al s1 p2) r2 q2)
/-! a new list, frozen at once -/
def wFrz (w : WF) : WE := fun env R => w env fun ds e => R (.list ds) e
theorem grow_frz {G H : Hp} (s : Same G H) {l : Addr} {vs : List V} (h : H l = some (.lst vs)) (g : G l = none) : Same G (upd G l (.lst vs)) ∧ Same (upd G l (.lst vs)) H := by
  refine ⟨same_new g, fun b o hb => ?_⟩
  by_cases q : b = l
  · subst q
    rw [upd_same] at hb
    cases hb
    exact h
  · rw [upd_ne q] at hb
    exact s b o hb
/-- a list that no slot knows is frozen -/
theorem Rep.frzNew {C : Base} {G H : Hp} {σ : L2.St} {env : En} (r : Rep K C G H σ env) {l : Addr} {ds : List Dt} (c0 : C.H0 l = none) (hl : LstAt K G H l ds) (hn : ¬ Owns env σ l) :
    ∃ G', Rep K C G' H σ env ∧ Same G G' ∧ Dp K G' (.ref l) (.list ds) ∧ ∀ a, a ≠ l → G a = none → G' a = none := by
  obtain ⟨g, vs, h, dv⟩ := hl
  obtain ⟨sG, sH⟩ := grow_frz r.gh h g
  have dG : Dp K (upd G l (.lst vs)) (.ref l) (.list ds) := .lst (SqL.of upd_same) (dpAll_mono sG _ _ dv)
  refine ⟨upd G l (.lst vs), ⟨r.len, r.gg.trans sG, sH, r.hh, r.bh, fun b h0 g0 => ?_, fun j s ej => ?_, r.ap, r.b0⟩, sG, dG, fun a ha e => by rw [upd_ne ha]; exact e⟩
  · have q : b ≠ l := fun q => h0 (by rw [q]; exact c0)
    rw [upd_ne q]
    exact r.nw b h0 g0
  · have z := r.sl j s ej
    have stay : ∀ (b : Addr) (ds' : List Dt), isOwn s = true → σ[j]? = some (some (V.ref b)) → LstAt K G H b ds' → LstAt K (upd G l (.lst vs)) H b ds' := fun b ds' os eb q => by
      have hb : b ≠ l := fun q => hn ⟨j, s, ej, os, by rw [← q]; exact eb⟩
      obtain ⟨z1, vs', z3, z4⟩ := q
      exact ⟨by rw [upd_ne hb]; exact z1, vs', z3, dpAll_mono sG _ _ z4⟩
    cases s with
    | no => trivial
    | sh d =>
      obtain ⟨v, e1, p⟩ := z
      exact ⟨v, e1, dp_mono sG _ _ p⟩
    | own ds' =>
      obtain ⟨b, e1, z1, z2⟩ := z
      exact ⟨b, e1, z1, stay b ds' rfl e1 z2⟩
    | bow ds' =>
      obtain ⟨b, e1, z1, z2⟩ := z
      exact ⟨b, e1, z1, stay b ds' rfl e1 z2⟩
    | hnd =>
      obtain ⟨b, e1, z1, ds', z2, z3⟩ := z
      exact ⟨b, e1, z1, ds', z2, stay b ds' rfl e1 z3⟩
theorem sim_frz {t : TE} (h : SimF K t wf) : SimE K t (wFrz wf) := by
  intro C G H σ env R Q rp hw k
  refine h C G H σ env _ _ rp hw fun ds e1 l G1 H1 s1 hl l1 h1 => ?_
  have nO : ¬ Owns e1 σ l := fun o => rp.newOwn hl (s1.ow l o)
  obtain ⟨G2, r2, g2, d2, n2⟩ := s1.rep.frzNew (rp.fresh0 hl) l1 nO
  refine k _ e1 _ G2 H1 ⟨r2, s1.gx.trans g2, fun a o ha hn => ?_, s1.ow, s1.al⟩ d2 h1
  obtain ⟨x, y⟩ := s1.kp a o ha hn
  exact ⟨x, fun z => n2 a (ne_of_none ha hl) (y z)⟩
theorem de_frz (h : DF X e te wf) : DE X e te (wFrz wf) := by
  obtain ⟨p, s⟩ := h
  exact ⟨p, sim_frz s⟩
/-! arguments, displays -/
def wANil : WA := fun env R => R [] env
def wACons (w : WE) (u : WA) : WA := fun env R => w env fun d e => u e fun ds e2 => R (d :: ds) e2
variable {wl : WA}
theorem da_nil : DA X [] tNil wANil := ⟨pa_nil, fun C G H σ env R Q r hw k => k [] env [] G H (Stp.refl r) .nil hw⟩
theorem da_cons (ha : DE X e te we) (hr : DA X es tl wl) (hs : starEach (e :: es) X.env = (false, eval e X.env) :: starEach es X.env := by rfl) : DA X (e :: es) (tCons te tl) (wACons we wl) := by
  obtain ⟨p, s⟩ := ha
  obtain ⟨p', s'⟩ := hr
  refine ⟨pa_cons p p' hs, fun C G H σ env R Q rp hw k => s C G H σ env _ _ rp hw fun d e1 v G1 H1 s1 p1 q1 => ?_⟩
  exact s' C G1 H1 σ e1 _ _ s1.rep q1 fun ds e2 vs G2 H2 s2 p2 q2 => k _ _ _ _ _ (s1.trans s2) (.cons (dp_mono s2.gx _ _ p1) p2) q2
def wTup (w : WA) : WE := fun env R => w env fun ds e => ds.length ≤ sizeLine ∧ R (.tuple ds) e
def wLst (w : WA) : WF := fun env R => w env fun ds e => ds.length ≤ sizeLine ∧ R ds e
theorem de_tup {x1} (h : DA X es tl wl) : DE X (.Tuple es x1 pos) (tTup tl) (wTup wl) := by
  obtain ⟨p, s⟩ := h
  refine ⟨pe_tup p, fun C G H σ env R Q rp hw k => s C G H σ env _ _ rp hw fun ds e1 vs G1 H1 s1 p1 q1 => ?_⟩
  refine ⟨by rw [DpAll.len p1]; exact q1.1, fun l hl => ?_⟩
  have g := Grow.new s1.rep.gh (o := .tup vs) hl
  exact k _ e1 _ _ _ (s1.then_grow g) (.tup (SqT.of upd_same) (dpAll_mono g.1 _ _ p1)) q1.2
theorem df_lst (h : DA X es tl wl) : DF X (.List es pos) (tLst tl) (wLst wl) := by
  obtain ⟨p, s⟩ := h
  refine ⟨pe_lst p, fun C G H σ env R Q rp hw k => s C G H σ env _ _ rp hw fun ds e1 vs G1 H1 s1 p1 q1 => ?_⟩
  refine ⟨by rw [DpAll.len p1]; exact q1.1, fun l hl => ?_⟩
  exact k _ e1 l _ _ (s1.then_grow (Grow.newH s1.rep.gh hl)) (none_al s1 hl) ⟨none_back s1.rep.gh hl, vs, upd_same, p1⟩ q1.2
end

/-! ### operators by data -/
section
variable {X : Cx} {K : PySem.W.Frag}
def gI (f : Int → Int → Int) : G2 := fun x y R => match x, y with
  | .int i, .int j => R (.int (f i j))
  | _, _ => False
def gIC (c : Int → Int → Prop) (f : Int → Int → Int) : G2 := fun x y R => match x, y with
  | .int i, .int j => c i j ∧ R (.int (f i j))
  | _, _ => False
def gB (f : Int → Int → Bool) : G2 := fun x y R => match x, y with
  | .int i, .int j => R (.bool (f i j))
  | _, _ => False
theorem os_I {f : Int → Int → Int} : OpSim K (rI0 fun i j => .int (f i j)) (gI f) := by
  intro G H x y dx dy R Q s px py h k
  cases dx <;> cases dy <;> first | exact h.elim | skip
  cases px.int
  cases py.int
  exact ⟨_, _, rfl, rfl, k _ _ G H (Grow.refl s) (.int _) h⟩
theorem os_IC {c : Int → Int → Prop} {f : Int → Int → Int} : OpSim K (rI c fun i j => .int (f i j)) (gIC c f) := by
  intro G H x y dx dy R Q s px py h k
  cases dx <;> cases dy <;> first | exact h.elim | skip
  cases px.int
  cases py.int
  exact ⟨_, _, rfl, rfl, h.1, k _ _ G H (Grow.refl s) (.int _) h.2⟩
theorem os_B {f : Int → Int → Bool} : OpSim K (rI0 fun i j => .bl (f i j)) (gB f) := by
  intro G H x y dx dy R Q s px py h k
  cases dx <;> cases dy <;> first | exact h.elim | skip
  cases px.int
  cases py.int
  exact ⟨_, _, rfl, rfl, k _ _ G H (Grow.refl s) (.bl _) h⟩
/-- + of ints, texts, tuples; of lists: a new list, frozen -/
def gAdd : G2 := fun x y R => match x, y with
  | .int i, .int j => R (.int (i + j))
  | .str i, .str j => i.length + j.length ≤ sizeLine ∧ R (.str (i ++ j))
  | .tuple xs, .tuple ys => xs.length + ys.length ≤ sizeLine ∧ R (.tuple (xs ++ ys))
  | _, _ => False
abbrev rStrAdd : R2 := fun x y H Q => ∃ i j, x = .str i ∧ y = .str j ∧ i.length + j.length ≤ sizeLine ∧ Q (.str (i ++ j)) H
def rAddA (K : PySem.W.Frag) : R2 := fun x y H Q => rI0 (fun i j => .int (i + j)) x y H Q ∨ (rStrAdd x y H Q ∨ rCatA K x y H Q)
theorem op_addA : OpR X (binaryOp .Add) (rAddA X.K) := op_add.or (op_add_str.or op_catA)
theorem dpAll_nil {G : Hp} {vs : List V} (h : DpAll K G vs []) : vs = [] := by cases h; rfl
theorem dpAll_nil' {G : Hp} {ds : List Dt} (h : DpAll K G [] ds) : ds = [] := by cases h; rfl
theorem os_add : OpSim K (rAddA K) gAdd := by
  intro G H x y dx dy R Q s px py h k
  cases dx <;> cases dy <;> first | exact h.elim | skip
  · cases px.int
    cases py.int
    exact .inl ⟨_, _, rfl, rfl, k _ _ G H (Grow.refl s) (.int _) h⟩
  · cases px.str
    cases py.str
    exact .inr (.inl ⟨_, _, rfl, rfl, h.1, k _ _ G H (Grow.refl s) (.str _) h.2⟩)
  · rename_i xs ys
    obtain ⟨p, vs, rfl, p0, p1, p2⟩ := px.tup s
    obtain ⟨q, ws, rfl, q0, q1, q2⟩ := py.tup s
    have py' := py.tupD
    have px' := px.tupD
    refine .inr (.inr ⟨p, q, vs, ws, rfl, rfl, p1, q1, by rw [DpAll.len p2, DpAll.len q2]; exact h.1, fun e => ?_, fun _ e => ?_, fun _ _ l hl => ?_⟩)
    · subst e
      have e := dpAll_nil' p2
      subst e
      exact k _ _ G H (Grow.refl s) py' h.2
    · subst e
      have e := dpAll_nil' q2
      subst e
      have h2 := h.2
      rw [List.append_nil] at h2
      exact k _ _ G H (Grow.refl s) px' h2
    · have g := Grow.new s (o := .tup (vs ++ ws)) hl
      exact k _ _ _ _ g (.tup (SqT.of upd_same) (dpAll_mono g.1 _ _ (q2.append p2))) h.2
/-! products with one side small; floor and rest -/
def gMul : G2 := gIC CMul fun i j => i * j
def gMulW : G2 := gIC CMulW fun i j => i * j
def gDiv : G2 := gIC CDivN fun i j => i.fdiv j
def gDivW : G2 := gIC CDivW fun i j => i / j
def gMod : G2 := gIC (fun _ j => j ≠ 0) fun i j => i.fmod j
def gPow : G2 := gIC CPow fun i j => i ^ j.toNat
/-! comparisons -/
def gLt : G2 := gB fun i j => decide (i < j)
def gLe : G2 := gB fun i j => decide (i ≤ j)
def gGt : G2 := gB fun i j => decide (j < i)
def gGe : G2 := gB fun i j => decide (j ≤ i)
def gEq : G2 := fun x y R => (SeqAt.shaped x = true ∧ SeqAt.shaped y = true) ∧ R (.bool (PyData.eqv x y))
def gNe : G2 := fun x y R => (SeqAt.shaped x = true ∧ SeqAt.shaped y = true) ∧ R (.bool (!PyData.eqv x y))
theorem os_eq : OpSim K (rEqD K) gEq := by
  intro G H x y dx dy R Q s px py h k
  exact ⟨dx, dy, px.dp s, py.dp s, h.1.1, h.1.2, k _ _ G H (Grow.refl s) (.bl _) h.2⟩
theorem os_ne : OpSim K (rNeD K) gNe := by
  intro G H x y dx dy R Q s px py h k
  exact ⟨dx, dy, px.dp s, py.dp s, h.1.1, h.1.2, k _ _ G H (Grow.refl s) (.bl _) h.2⟩
def isNone : Dt → Bool
  | .none => true
  | _ => false
theorem isN_dec {G H : Hp} {v : V} {d : Dt} (h : Pk K G H v d) : decide (v = .non) = isNone d := by
  rw [Pk.isN h]
  cases d <;> rfl
def gIsN : G2 := fun x y R => isNone y = true ∧ R (.bool (isNone x))
def gNotN : G2 := fun x y R => isNone y = true ∧ R (.bool !(isNone x))
theorem pk_none {G H : Hp} {v : V} {d : Dt} (h : Pk K G H v d) (e : isNone d = true) : v = .non := by
  cases d <;> first | cases e | skip
  rcases h with h | ⟨l, ds', rfl, e, vs, h1, h2⟩
  · cases h; rfl
  · cases e
theorem os_isN : OpSim K (fun x y H Q => y = .non ∧ Q (.bl (decide (x = .non))) H) gIsN := by
  intro G H x y dx dy R Q s px py h k
  refine ⟨pk_none py h.1, ?_⟩
  rw [isN_dec px]
  exact k _ _ G H (Grow.refl s) (.bl _) h.2
theorem os_notN : OpSim K (fun x y H Q => y = .non ∧ Q (.bl (!decide (x = .non))) H) gNotN := by
  intro G H x y dx dy R Q s px py h k
  refine ⟨pk_none py h.1, ?_⟩
  rw [isN_dec px]
  exact k _ _ G H (Grow.refl s) (.bl _) h.2
/-! x is True -/
def gIsB : G2 := fun x y R => match x, y with
  | .bool a, .bool b => R (.bool (decide (a = b)))
  | _, _ => False
def gIsNotB : G2 := fun x y R => match x, y with
  | .bool a, .bool b => R (.bool (!decide (a = b)))
  | _, _ => False
theorem os_isB : OpSim K rIsB gIsB := by
  intro G H x y dx dy R Q s px py h k
  cases dx <;> cases dy <;> first | exact h.elim | skip
  cases px.bl
  cases py.bl
  exact ⟨_, _, rfl, rfl, k _ _ G H (Grow.refl s) (.bl _) h⟩
theorem os_isNotB : OpSim K rNotB gIsNotB := by
  intro G H x y dx dy R Q s px py h k
  cases dx <;> cases dy <;> first | exact h.elim | skip
  cases px.bl
  cases py.bl
  exact ⟨_, _, rfl, rfl, k _ _ G H (Grow.refl s) (.bl _) h⟩
/-! x in xs, a list or a tuple of data -/
def rInT (K : PySem.W.Frag) : R2 := fun x y H Q => ∃ d ds, Dp K H x d ∧ Dp K H y (.tuple ds) ∧ SeqAt.shaped d = true ∧ SeqAt.shaped (.tuple ds) = true ∧ Q (.bl (ds.any fun z => PyData.eqv z d)) H
def rNotInT (K : PySem.W.Frag) : R2 := fun x y H Q => ∃ d ds, Dp K H x d ∧ Dp K H y (.tuple ds) ∧ SeqAt.shaped d = true ∧ SeqAt.shaped (.tuple ds) = true ∧ Q (.bl (!ds.any fun z => PyData.eqv z d)) H
theorem room_inT {xs : List PyData} {d : PyData} {A : Around} (h : SeqAt.shaped d = true) (hu : A.units + 65 < cLine) : A.units + 1 + min (PyData.depthAll xs) d.depth < cLine := by
  have h1 := SeqAt.depth_of_shaped h
  omega
theorem op_inT (hu : X.A.units + 65 < cLine) : OpR X (compareOp .In) (rInT X.K) := by
  intro pins s σ H x y v u Q I rx ry h
  obtain ⟨d, ds, hd, he, sd, se, q⟩ := h
  obtain ⟨as, r1⟩ := Dp.reads I d x v hd rx
  obtain ⟨bs, r2⟩ := Dp.reads I (.tuple ds) y u he ry
  exact SeqAt.in_tuple_reads r2 r1 (SeqAt.canLay_of_shaped se) (SeqAt.canLay_of_shaped sd) (room_inT sd hu) ⟨.bl _, H, I, rfl, q⟩
theorem op_notInT (hu : X.A.units + 65 < cLine) : OpR X (compareOp .NotIn) (rNotInT X.K) := by
  intro pins s σ H x y v u Q I rx ry h
  obtain ⟨d, ds, hd, he, sd, se, q⟩ := h
  obtain ⟨as, r1⟩ := Dp.reads I d x v hd rx
  obtain ⟨bs, r2⟩ := Dp.reads I (.tuple ds) y u he ry
  exact SeqAt.notIn_tuple_reads r2 r1 (SeqAt.canLay_of_shaped se) (SeqAt.canLay_of_shaped sd) (room_inT sd hu) ⟨.bl _, H, I, rfl, q⟩
def inD (d : Dt) (ds : List Dt) : Bool := ds.any fun z => PyData.eqv z d
def gIn : G2 := fun x y R => match y with
  | .list ds => (SeqAt.shaped x = true ∧ SeqAt.shaped (.list ds) = true) ∧ R (.bool (inD x ds))
  | .tuple ds => (SeqAt.shaped x = true ∧ SeqAt.shaped (.tuple ds) = true) ∧ R (.bool (inD x ds))
  | _ => False
def gNotIn : G2 := fun x y R => match y with
  | .list ds => (SeqAt.shaped x = true ∧ SeqAt.shaped (.list ds) = true) ∧ R (.bool (!inD x ds))
  | .tuple ds => (SeqAt.shaped x = true ∧ SeqAt.shaped (.tuple ds) = true) ∧ R (.bool (!inD x ds))
  | _ => False
def rInA (K : PySem.W.Frag) : R2 := fun x y H Q => rInD K x y H Q ∨ rInT K x y H Q
def rNotInA (K : PySem.W.Frag) : R2 := fun x y H Q => rNotInD K x y H Q ∨ rNotInT K x y H Q
theorem op_inA (hu : X.A.units + 65 < cLine) : OpR X (compareOp .In) (rInA X.K) := (op_inD hu).or (op_inT hu)
theorem op_notInA (hu : X.A.units + 65 < cLine) : OpR X (compareOp .NotIn) (rNotInA X.K) := (op_notInD hu).or (op_notInT hu)
theorem os_in : OpSim K (rInA K) gIn := by
  intro G H x y dx dy R Q s px py h k
  cases dy <;> first | exact h.elim | skip
  · exact .inl ⟨dx, _, px.dp s, py.dp s, h.1.1, h.1.2, k _ _ G H (Grow.refl s) (.bl _) h.2⟩
  · exact .inr ⟨dx, _, px.dp s, py.dp s, h.1.1, h.1.2, k _ _ G H (Grow.refl s) (.bl _) h.2⟩
theorem os_notIn : OpSim K (rNotInA K) gNotIn := by
  intro G H x y dx dy R Q s px py h k
  cases dy <;> first | exact h.elim | skip
  · exact .inl ⟨dx, _, px.dp s, py.dp s, h.1.1, h.1.2, k _ _ G H (Grow.refl s) (.bl _) h.2⟩
  · exact .inr ⟨dx, _, px.dp s, py.dp s, h.1.1, h.1.2, k _ _ G H (Grow.refl s) (.bl _) h.2⟩
/-! s < t of texts, -n -/
def wNeg (w : WE) : WE := fun env R => w env fun d e => match d with
  | .int i => R (.int (-i)) e
  | _ => False
theorem de_neg {a : Expr} {pos : Pos} {ta : TE} {wa : WE} (ha : DE X a ta wa) : DE X (.UnaryOp .USub a pos) (tUn (rU fun i => .int (-i)) ta) (wNeg wa) := by
  obtain ⟨p, s⟩ := ha
  refine ⟨pe_un un_neg p, fun C G H σ env R Q rp hw k => s C G H σ env _ _ rp hw fun d e1 v G1 H1 s1 p1 q1 => ?_⟩
  cases d with
  | int i =>
    cases p1
    exact ⟨i, rfl, k _ _ _ _ _ s1 (.int _) q1⟩
  | _ => exact q1.elim
/-! items -/
def atD (d : Dt) (i : Int) : Option Dt := match d with
  | .list ds => atI ds i
  | .tuple ds => atI ds i
  | .str z => if z.length ≤ sizeLine then (atI z.cps.toList i).map fun c => .str ⟨#[c]⟩ else none
  | _ => none
def gIx : G2 := fun x y R => match y with
  | .int i => match atD x i with
    | some d => R d
    | none => False
  | _ => False
theorem atI_dp {G : Hp} {vs : List V} {ds : List Dt} {i : Int} {d : Dt} (h : DpAll K G vs ds) (e : atI ds i = some d) : ∃ v, atI vs i = some v ∧ Dp K G v d := by
  unfold atI at e ⊢
  rw [DpAll.len h]
  cases q : ixN ds.length i with
  | none => rw [q] at e; cases e
  | some j =>
    rw [q] at e
    exact DpAll.get h e
theorem os_ix : OpSim K (rIx K) gIx := by
  intro G H x y dx dy R Q s px py h k
  cases dy <;> first | exact h.elim | skip
  rename_i i
  cases py.int
  change (match atD dx i with | some d => R d | none => False) at h
  cases e : atD dx i with
  | none => rw [e] at h; exact h.elim
  | some d =>
    rw [e] at h
    cases dx with
    | list ds =>
      obtain ⟨p, vs, rfl, p1, p2⟩ := px.lst s
      obtain ⟨v, ev, pv⟩ := atI_dp p2 e
      exact .inl ⟨p, vs, i, v, rfl, rfl, p1, ev, k d v G H (Grow.refl s) pv h⟩
    | tuple ds =>
      obtain ⟨p, vs, rfl, p0, p1, p2⟩ := px.tup s
      obtain ⟨v, ev, pv⟩ := atI_dp p2 e
      exact .inr (.inl ⟨p, vs, i, v, rfl, rfl, p1, ev, k d v G H (Grow.refl s) pv h⟩)
    | str z =>
      cases px.str
      have e : (if z.length ≤ sizeLine then (atI z.cps.toList i).map fun c => PyData.str ⟨#[c]⟩ else none) = some d := e
      by_cases hz : z.length ≤ sizeLine
      · rw [if_pos hz] at e
        cases q : atI z.cps.toList i with
        | none => rw [q] at e; cases e
        | some c =>
          rw [q] at e
          cases e
          exact .inr (.inr ⟨z, i, c, rfl, rfl, hz, q, k _ _ G H (Grow.refl s) (.str _) h⟩)
      · rw [if_neg hz] at e
        cases e
    | _ => cases e
variable {a b : Expr} {pos : Pos} {ta tb : TE} {wa wb : WE}
theorem de_ix (ha : DE X a ta wa) (hb : DP X b tb wb) (hs : PlainIx b) : DE X (.Subscript a b pos) (tOp (rIx X.K) ta tb) (wBin gIx wa wb) := by
  obtain ⟨pa, sa⟩ := ha
  obtain ⟨pb, sb⟩ := hb
  exact ⟨pe_ix ix_seq pa pb hs, sim_bin os_ix sa sb⟩
theorem de_ixV (i : Nat) {x : Str} {pos' : Pos} (hb : DP X b tb wb) (hs : PlainIx b)
    (hN : X.N[i]? = some x := by rfl) (hv : Vis X.env.scope x := by first | exact Or.inl rfl | exact Or.inr (Or.inl rfl) | exact Or.inr (Or.inr rfl)) (hd : (x == ("__debug__" : Str)) = false := by decide) (hcd : (x == ("__classdict__" : Str)) = false := by decide) :
    DE X (.Subscript (.Name x pos') b pos) (tOp (rIx X.K) (tVar i) tb) (wBinV gIx i wb) := by
  obtain ⟨pb, sb⟩ := hb
  exact ⟨pe_ix ix_seq (pv i hN hv hd hcd) pb hs, sim_binV os_ix sb⟩
end

/-! ### built-ins of one argument -/
abbrev G1 := Dt → (Dt → Prop) → Prop
abbrev G1F := Dt → (List Dt → Prop) → Prop
def CallSim (K : PySem.W.Frag) (r : List V → Hp → VK → Prop) (g : G1) : Prop := ∀ (G H : Hp) (x : V) (dx : Dt) (R : Dt → Prop) (Q : VK), Same G H → Pk K G H x dx → g dx R →
  (∀ d v G' H', Grow G H G' H' → Dp K G' v d → R d → Q v H') → r [x] H Q
def CallSimF (K : PySem.W.Frag) (r : List V → Hp → VK → Prop) (g : G1F) : Prop := ∀ (G H : Hp) (x : V) (dx : Dt) (R : List Dt → Prop) (Q : VK), Same G H → Pk K G H x dx → g dx R →
  (∀ ds l vs, H l = none → DpAll K G vs ds → R ds → Q (.ref l) (upd H l (.lst vs))) → r [x] H Q
def wC1 (g : G1) (w : WE) : WE := fun env R => w env fun d e => g d fun d' => R d' e
def wC1F (g : G1F) (w : WE) : WF := fun env R => w env fun d e => g d fun ds => R ds e
section
variable {X : Cx} {K : PySem.W.Frag} {a b e : Expr} {es : List Expr} {p pos apos cpos : Pos} {ta tb te : TE} {wa wb we : WE} {tl : TA} {wl : WA} {x : Str} {bid T : String} {r : List V → Hp → VK → Prop} {g : G1} {gf : G1F}
theorem sim_c1 {te : TE} (hr : CallSim K r g) (h : SimP K te we) : SimE K (tCB r (tCons te tNil)) (wC1 g we) := by
  intro C G H σ env R Q rp hw k
  refine h C G H σ env _ _ rp hw fun d e1 v G1 H1 s1 p1 h1 => ?_
  exact hr G1 H1 v d _ _ s1.rep.gh p1 h1 fun d' v' G' H' gr pd q => k d' e1 v' G' H' (s1.then_grow gr) pd q
theorem sim_c1F {te : TE} (hr : CallSimF K r gf) (h : SimP K te we) : SimF K (tCB r (tCons te tNil)) (wC1F gf we) := by
  intro C G H σ env R Q rp hw k
  refine h C G H σ env _ _ rp hw fun d e1 v G1 H1 s1 p1 h1 => ?_
  exact hr G1 H1 v d _ _ s1.rep.gh p1 h1 fun ds l vs hl pd q => k ds e1 l G1 _ (s1.then_grow (Grow.newH s1.rep.gh hl)) (none_al s1 hl) ⟨none_back s1.rep.gh hl, vs, upd_same, pd⟩ q
theorem de_callB (hc : CallR X (.builtin bid) r) (hs : CallSim X.K r g) (hg : Gl X x) (hm : X.mg x = none) (hv : bootBuiltins x = some (.builtin bid)) (ha : DP X e te we) (hn : x ≠ "__name__" := by decide) (hdb : (x == ("__debug__" : Str)) = false := by decide)
    (he : starEach [e] X.env = (false, eval e X.env) :: starEach [] X.env := by rfl) (hpl : (backTo pos (starEach [] X.env)).any (·.1) = false := by rfl) :
    DE X (.Call (.Name x p) [e] [] pos) (tCB r (tCons te tNil)) (wC1 g we) := ⟨pe_callB hc hg hm hv (pa_cons ha.pe pa_nil he) hn hdb he hpl, sim_c1 hs ha.sim⟩
theorem de_callT (hc : CallR X (.type T) r) (hs : CallSim X.K r g) (hg : Gl X x) (hm : X.mg x = none) (hv : bootBuiltins x = some (.type T)) (ha : DP X e te we) (hn : x ≠ "__name__" := by decide) (hdb : (x == ("__debug__" : Str)) = false := by decide)
    (he : starEach [e] X.env = (false, eval e X.env) :: starEach [] X.env := by rfl) (hpl : (backTo pos (starEach [] X.env)).any (·.1) = false := by rfl) :
    DE X (.Call (.Name x p) [e] [] pos) (tCB r (tCons te tNil)) (wC1 g we) := ⟨pe_callTy hc hg hm hv (pa_cons ha.pe pa_nil he) hn hdb he hpl, sim_c1 hs ha.sim⟩
theorem df_callB (hc : CallR X (.builtin bid) r) (hs : CallSimF X.K r gf) (hg : Gl X x) (hm : X.mg x = none) (hv : bootBuiltins x = some (.builtin bid)) (ha : DP X e te we) (hn : x ≠ "__name__" := by decide) (hdb : (x == ("__debug__" : Str)) = false := by decide)
    (he : starEach [e] X.env = (false, eval e X.env) :: starEach [] X.env := by rfl) (hpl : (backTo pos (starEach [] X.env)).any (·.1) = false := by rfl) :
    DF X (.Call (.Name x p) [e] [] pos) (tCB r (tCons te tNil)) (wC1F gf we) := ⟨pe_callB hc hg hm hv (pa_cons ha.pe pa_nil he) hn hdb he hpl, sim_c1F hs ha.sim⟩
theorem df_callT (hc : CallR X (.type T) r) (hs : CallSimF X.K r gf) (hg : Gl X x) (hm : X.mg x = none) (hv : bootBuiltins x = some (.type T)) (ha : DP X e te we) (hn : x ≠ "__name__" := by decide) (hdb : (x == ("__debug__" : Str)) = false := by decide)
    (he : starEach [e] X.env = (false, eval e X.env) :: starEach [] X.env := by rfl) (hpl : (backTo pos (starEach [] X.env)).any (·.1) = false := by rfl) :
    DF X (.Call (.Name x p) [e] [] pos) (tCB r (tCons te tNil)) (wC1F gf we) := ⟨pe_callTy hc hg hm hv (pa_cons ha.pe pa_nil he) hn hdb he hpl, sim_c1F hs ha.sim⟩
/-! len -/
def gLen : G1 := fun d R => match d with
  | .list ds => R (.int (ds.length : Nat))
  | .tuple ds => R (.int (ds.length : Nat))
  | .str z => z.length ≤ sizeLine ∧ R (.int (z.length : Nat))
  | _ => False
def rLen (K : PySem.W.Frag) : List V → Hp → VK → Prop := fun xs H Q => (∃ p ys, xs = [.ref p] ∧ (SqL K H p ys ∨ SqT K H p ys) ∧ Q (.int ys.length) H) ∨ ∃ z, xs = [.str z] ∧ z.length ≤ sizeLine ∧ Q (.int z.length) H
theorem cr_len : CallR X (.builtin "len") (rLen X.K) := call_len_seq.or call_len_str
theorem cs_len : CallSim K (rLen K) gLen := by
  intro G H x dx R Q s px h k
  cases dx <;> first | exact h.elim | skip
  · cases px.str
    exact .inr ⟨_, rfl, h.1, k _ _ G H (Grow.refl s) (.int _) h.2⟩
  · rename_i ds
    obtain ⟨p, vs, rfl, p1, p2⟩ := px.lst s
    refine .inl ⟨p, vs, rfl, .inl p1, ?_⟩
    rw [DpAll.len p2]
    exact k _ _ G H (Grow.refl s) (.int _) h
  · rename_i ds
    obtain ⟨p, vs, rfl, p0, p1, p2⟩ := px.tup s
    refine .inl ⟨p, vs, rfl, .inr p1, ?_⟩
    rw [DpAll.len p2]
    exact k _ _ G H (Grow.refl s) (.int _) h
/-! int, abs, bool -/
def gInt : G1 := fun d R => match d with
  | .int i => R (.int i)
  | .bool b => R (.int (if b then 1 else 0))
  | _ => False
theorem cs_int : CallSim K (fun xs H Q => (∃ i, xs = [.int i] ∧ Q (.int i) H) ∨ ∃ k, xs = [.bl k] ∧ Q (.int (if k then 1 else 0)) H) gInt := by
  intro G H x dx R Q s px h k
  cases dx <;> first | exact h.elim | skip
  · cases px.bl
    exact .inr ⟨_, rfl, k _ _ G H (Grow.refl s) (.int _) h⟩
  · cases px.int
    exact .inl ⟨_, rfl, k _ _ G H (Grow.refl s) (.int _) h⟩
def gAbs : G1 := fun d R => match d with
  | .int i => R (.int (if i < 0 then -i else i))
  | _ => False
theorem cs_abs : CallSim K (fun xs H Q => ∃ i, xs = [.int i] ∧ Q (.int (if i < 0 then -i else i)) H) gAbs := by
  intro G H x dx R Q s px h k
  cases dx <;> first | exact h.elim | skip
  cases px.int
  exact ⟨_, rfl, k _ _ G H (Grow.refl s) (.int _) h⟩
/-! lists of ints, of bools -/
def intsOf : List Dt → Option (List Int)
  | [] => some []
  | .int i :: ds => (intsOf ds).map (i :: ·)
  | _ => none
theorem intsOf_map (ns : List Int) : intsOf (ns.map PyData.int) = some ns := by
  induction ns with
  | nil => rfl
  | cons n ns ih => show (intsOf (ns.map PyData.int)).map (n :: ·) = _; rw [ih]; rfl
theorem intsOf_eq : ∀ {ds : List Dt} {ns : List Int}, intsOf ds = some ns → ds = ns.map PyData.int
  | [], ns, h => by cases h; rfl
  | d :: ds, ns, h => by
    cases d with
    | int i =>
      have h : (intsOf ds).map (i :: ·) = some ns := h
      cases q : intsOf ds with
      | none => rw [q] at h; cases h
      | some ms =>
        rw [q] at h
        cases h
        rw [intsOf_eq q]
        rfl
    | _ => cases h
theorem dpAll_ints {G : Hp} : ∀ {vs : List V} {ns : List Int}, DpAll K G vs (ns.map PyData.int) → vs = ns.map V.int
  | _, [], h => by cases h; rfl
  | _, n :: ns, h => by
    cases h with
    | cons h1 h2 =>
      cases h1
      rw [dpAll_ints h2]
      rfl
def blsOf : List Dt → Option (List Bool)
  | [] => some []
  | .bool i :: ds => (blsOf ds).map (i :: ·)
  | _ => none
theorem blsOf_map (ns : List Bool) : blsOf (ns.map PyData.bool) = some ns := by
  induction ns with
  | nil => rfl
  | cons n ns ih => show (blsOf (ns.map PyData.bool)).map (n :: ·) = _; rw [ih]; rfl
theorem blsOf_eq : ∀ {ds : List Dt} {ns : List Bool}, blsOf ds = some ns → ds = ns.map PyData.bool
  | [], ns, h => by cases h; rfl
  | d :: ds, ns, h => by
    cases d with
    | bool i =>
      have h : (blsOf ds).map (i :: ·) = some ns := h
      cases q : blsOf ds with
      | none => rw [q] at h; cases h
      | some ms =>
        rw [q] at h
        cases h
        rw [blsOf_eq q]
        rfl
    | _ => cases h
theorem dpAll_bls {G : Hp} : ∀ {vs : List V} {ns : List Bool}, DpAll K G vs (ns.map PyData.bool) → vs = ns.map V.bl
  | _, [], h => by cases h; rfl
  | _, n :: ns, h => by
    cases h with
    | cons h1 h2 =>
      cases h1
      rw [dpAll_bls h2]
      rfl
def maxL : List Int → Int
  | [] => 0
  | x :: xs => xs.foldl max x
def minL : List Int → Int
  | [] => 0
  | x :: xs => xs.foldl min x
theorem foldl_max (xs : List Int) : ∀ x, (xs.foldl max x = x ∨ xs.foldl max x ∈ xs) ∧ x ≤ xs.foldl max x ∧ ∀ y ∈ xs, y ≤ xs.foldl max x := by
  induction xs with
  | nil => intro x; exact ⟨.inl rfl, Int.le_refl _, fun y h => by cases h⟩
  | cons z zs ih =>
    intro x
    obtain ⟨h1, h2, h3⟩ := ih (max x z)
    refine ⟨?_, ?_, fun y hy => ?_⟩
    · show zs.foldl max (max x z) = x ∨ zs.foldl max (max x z) ∈ z :: zs
      rcases h1 with h1 | h1
      · rw [h1]
        by_cases q : x ≤ z
        · exact .inr (by rw [Int.max_eq_right q]; exact List.mem_cons_self)
        · exact .inl (Int.max_eq_left (by omega))
      · exact .inr (List.mem_cons_of_mem _ h1)
    · show x ≤ zs.foldl max (max x z)
      omega
    · show y ≤ zs.foldl max (max x z)
      rcases List.mem_cons.mp hy with rfl | hy
      · omega
      · exact h3 y hy
theorem foldl_min (xs : List Int) : ∀ x, (xs.foldl min x = x ∨ xs.foldl min x ∈ xs) ∧ xs.foldl min x ≤ x ∧ ∀ y ∈ xs, xs.foldl min x ≤ y := by
  induction xs with
  | nil => intro x; exact ⟨.inl rfl, Int.le_refl _, fun y h => by cases h⟩
  | cons z zs ih =>
    intro x
    obtain ⟨h1, h2, h3⟩ := ih (min x z)
    refine ⟨?_, ?_, fun y hy => ?_⟩
    · show zs.foldl min (min x z) = x ∨ zs.foldl min (min x z) ∈ z :: zs
      rcases h1 with h1 | h1
      · rw [h1]
        by_cases q : x ≤ z
        · exact .inl (Int.min_eq_left q)
        · exact .inr (by rw [Int.min_eq_right (by omega)]; exact List.mem_cons_self)
      · exact .inr (List.mem_cons_of_mem _ h1)
    · show zs.foldl min (min x z) ≤ x
      omega
    · show zs.foldl min (min x z) ≤ y
      rcases List.mem_cons.mp hy with rfl | hy
      · omega
      · exact h3 y hy
theorem maxL_spec {xs : List Int} (h : 0 < xs.length) : maxL xs ∈ xs ∧ ∀ y ∈ xs, y ≤ maxL xs := by
  cases xs with
  | nil => cases h
  | cons x xs =>
    obtain ⟨h1, h2, h3⟩ := foldl_max xs x
    refine ⟨?_, fun y hy => ?_⟩
    · rcases h1 with h1 | h1
      · show xs.foldl max x ∈ x :: xs
        rw [h1]
        exact List.mem_cons_self
      · exact List.mem_cons_of_mem _ h1
    · rcases List.mem_cons.mp hy with rfl | hy
      · exact h2
      · exact h3 y hy
theorem minL_spec {xs : List Int} (h : 0 < xs.length) : minL xs ∈ xs ∧ ∀ y ∈ xs, minL xs ≤ y := by
  cases xs with
  | nil => cases h
  | cons x xs =>
    obtain ⟨h1, h2, h3⟩ := foldl_min xs x
    refine ⟨?_, fun y hy => ?_⟩
    · rcases h1 with h1 | h1
      · show xs.foldl min x ∈ x :: xs
        rw [h1]
        exact List.mem_cons_self
      · exact List.mem_cons_of_mem _ h1
    · rcases List.mem_cons.mp hy with rfl | hy
      · exact h2
      · exact h3 y hy
def gSum : G1 := fun d R => match d with
  | .list ds => match intsOf ds with
    | some ns => R (.int ns.sum)
    | none => False
  | _ => False
def gMax : G1 := fun d R => match d with
  | .list ds => match intsOf ds with
    | some ns => 0 < ns.length ∧ R (.int (maxL ns))
    | none => False
  | _ => False
def gMin : G1 := fun d R => match d with
  | .list ds => match intsOf ds with
    | some ns => 0 < ns.length ∧ R (.int (minL ns))
    | none => False
  | _ => False
def gAll : G1 := fun d R => match d with
  | .list ds => match blsOf ds with
    | some bs => R (.bool (bs.all id))
    | none => False
  | _ => False
def gAny : G1 := fun d R => match d with
  | .list ds => match blsOf ds with
    | some bs => R (.bool (bs.any id))
    | none => False
  | _ => False
theorem cs_sum : CallSim K (rSum K) gSum := by
  intro G H x dx R Q s px h k
  cases dx <;> first | exact h.elim | skip
  rename_i ds
  change (match intsOf ds with | some ns => R (.int ns.sum) | none => False) at h
  cases q : intsOf ds with
  | none => rw [q] at h; exact h.elim
  | some ns =>
    rw [q] at h
    obtain ⟨p, vs, rfl, p1, p2⟩ := px.lst s
    rw [intsOf_eq q] at p2
    rw [dpAll_ints p2] at p1
    exact ⟨p, ns, rfl, p1, k _ _ G H (Grow.refl s) (.int _) h⟩
theorem cs_max : CallSim K (rMax K) gMax := by
  intro G H x dx R Q s px h k
  cases dx <;> first | exact h.elim | skip
  rename_i ds
  change (match intsOf ds with | some ns => 0 < ns.length ∧ R (.int (maxL ns)) | none => False) at h
  cases q : intsOf ds with
  | none => rw [q] at h; exact h.elim
  | some ns =>
    rw [q] at h
    obtain ⟨p, vs, rfl, p1, p2⟩ := px.lst s
    rw [intsOf_eq q] at p2
    rw [dpAll_ints p2] at p1
    refine ⟨p, ns, rfl, p1, h.1, fun m h1 h2 => ?_⟩
    obtain ⟨z1, z2⟩ := maxL_spec h.1
    rw [show m = maxL ns from Int.le_antisymm (z2 _ h1) (h2 _ z1)]
    exact k _ _ G H (Grow.refl s) (.int _) h.2
theorem cs_min : CallSim K (rMin K) gMin := by
  intro G H x dx R Q s px h k
  cases dx <;> first | exact h.elim | skip
  rename_i ds
  change (match intsOf ds with | some ns => 0 < ns.length ∧ R (.int (minL ns)) | none => False) at h
  cases q : intsOf ds with
  | none => rw [q] at h; exact h.elim
  | some ns =>
    rw [q] at h
    obtain ⟨p, vs, rfl, p1, p2⟩ := px.lst s
    rw [intsOf_eq q] at p2
    rw [dpAll_ints p2] at p1
    refine ⟨p, ns, rfl, p1, h.1, fun m h1 h2 => ?_⟩
    obtain ⟨z1, z2⟩ := minL_spec h.1
    rw [show m = minL ns from Int.le_antisymm (h2 _ z1) (z2 _ h1)]
    exact k _ _ G H (Grow.refl s) (.int _) h.2
theorem cs_all : CallSim K (rAll K) gAll := by
  intro G H x dx R Q s px h k
  cases dx <;> first | exact h.elim | skip
  rename_i ds
  change (match blsOf ds with | some ns => R (.bool (ns.all id)) | none => False) at h
  cases q : blsOf ds with
  | none => rw [q] at h; exact h.elim
  | some ns =>
    rw [q] at h
    obtain ⟨p, vs, rfl, p1, p2⟩ := px.lst s
    rw [blsOf_eq q] at p2
    rw [dpAll_bls p2] at p1
    exact ⟨p, ns, rfl, p1, k _ _ G H (Grow.refl s) (.bl _) h⟩
theorem cs_any : CallSim K (rAny K) gAny := by
  intro G H x dx R Q s px h k
  cases dx <;> first | exact h.elim | skip
  rename_i ds
  change (match blsOf ds with | some ns => R (.bool (ns.any id)) | none => False) at h
  cases q : blsOf ds with
  | none => rw [q] at h; exact h.elim
  | some ns =>
    rw [q] at h
    obtain ⟨p, vs, rfl, p1, p2⟩ := px.lst s
    rw [blsOf_eq q] at p2
    rw [dpAll_bls p2] at p1
    exact ⟨p, ns, rfl, p1, k _ _ G H (Grow.refl s) (.bl _) h⟩
/-! tuple(x), list(x) -/
def gTupOf : G1 := fun d R => match d with
  | .list ds => R (.tuple ds)
  | .tuple ds => R (.tuple ds)
  | _ => False
theorem cs_tup : CallSim K (fun xs H Q => ∃ p ys, xs = [.ref p] ∧ ((SqL K H p ys ∧ ∀ l, H l = none → Q (.ref l) (upd H l (.tup ys))) ∨ (SqT K H p ys ∧ Q (.ref p) H))) gTupOf := by
  intro G H x dx R Q s px h k
  cases dx <;> first | exact h.elim | skip
  · rename_i ds
    obtain ⟨p, vs, rfl, p1, p2⟩ := px.lst s
    refine ⟨p, vs, rfl, .inl ⟨p1, fun l hl => ?_⟩⟩
    have g := Grow.new s (o := .tup vs) hl
    exact k _ _ _ _ g (.tup (SqT.of upd_same) (dpAll_mono g.1 _ _ p2)) h
  · have px' := px.tupD
    obtain ⟨p, vs, rfl, p0, p1, p2⟩ := px.tup s
    exact ⟨p, vs, rfl, .inr ⟨p1, k _ _ G H (Grow.refl s) px' h⟩⟩
def gLstOf : G1F := fun d R => match d with
  | .list ds => R ds
  | .tuple ds => R ds
  | _ => False
theorem cs_lst : CallSimF K (fun xs H Q => ∃ p ys, xs = [.ref p] ∧ (SqL K H p ys ∨ SqT K H p ys) ∧ ∀ l, H l = none → Q (.ref l) (upd H l (.lst ys))) gLstOf := by
  intro G H x dx R Q s px h k
  cases dx <;> first | exact h.elim | skip
  · obtain ⟨p, vs, rfl, p1, p2⟩ := px.lst s
    exact ⟨p, vs, rfl, .inl p1, fun l hl => k _ l _ hl p2 h⟩
  · obtain ⟨p, vs, rfl, p0, p1, p2⟩ := px.tup s
    exact ⟨p, vs, rfl, .inr p1, fun l hl => k _ l _ hl p2 h⟩
/-! sorted of data that are alike -/
def sortD (ds : List Dt) : List Dt := ds.mergeSort (PySem.W.dataLe false fun d => d)
def SortOk (ds : List Dt) : Prop := PySem.W.AllAlike ds ∧ PySem.W.Sortable ds ∧ ds.length ≤ sizeLine ∧ ∀ d ∈ ds, d.depth ≤ 60
def rSortD (K : PySem.W.Frag) : List V → Hp → VK → Prop := fun xs H Q => ∃ (a : Addr) (ys : List V) (ds : List Dt) (G : Hp), xs = [.ref a] ∧ SqL K H a ys ∧ Same G H ∧ DpAll K G ys ds ∧ SortOk ds ∧
  ∀ (zs : List V) (l : Addr), H l = none → DpAll K G zs (sortD ds) → Q (.ref l) (upd H l (.lst zs))
theorem each_of {G : Hp} {P : V → Dt → Prop} : ∀ {ys : List V} {us : List Value} {ds : List Dt}, Vals ys us → DpAll K G ys ds → PySem.W.EachIs (fun v d => ∃ x, RelV x v ∧ Dp K G x d) us ds
  | _, _, [], .nil, h => .nil
  | _, _, d :: ds, .cons r t, h => by
    cases h with
    | cons h1 h2 => exact .cons ⟨_, r, h1⟩ (each_of (P := P) t h2)
theorem of_each {G : Hp} : ∀ {us : List Value} {ds : List Dt}, PySem.W.EachIs (fun v d => ∃ x, RelV x v ∧ Dp K G x d) us ds → ∃ zs, Vals zs us ∧ DpAll K G zs ds
  | _, _, .nil => ⟨[], .nil, .nil⟩
  | _, _, .cons ⟨x, r, h⟩ t => by
    obtain ⟨zs, a, b⟩ := of_each t
    exact ⟨x :: zs, .cons r a, .cons h b⟩
open PyProof.Rows in
theorem cr_sortD (hu : X.A.units + 64 < cLine) : CallR X (.builtin "sorted") (rSortD X.K) := by
  intro pins s σ H vs us Q I r h
  obtain ⟨a, ys, ds, G, rfl, hs, sG, hd, ⟨ok1, ok2, ok3, ok4⟩, q⟩ := h
  obtain ⟨its, rv, hl, _⟩ := I.list hs
  rw [Vals.ref1 r]
  have e1 := each_of (P := fun _ _ => True) rv hd
  have er : PySem.W.EachIs (fun v b => ∃ as, Reads s.heap v b as) its ds := e1.mono fun v d ⟨x, rx, hx⟩ => Dp.reads I d x v (dp_mono sG _ _ hx) rx
  have em : ds.map (fun d : PyData => d) = ds := List.map_id' ds
  refine PySem.W.sorted_data (enc := fun d => d) hl.isList e1 er (by rw [em]; exact ok1) (by rw [em]; exact ok2) ok3 (fun b hb => by have := ok4 b hb; omega) fun out ho eo => ?_
  obtain ⟨c, hc⟩ := sortedAll_at s.heap its out.toArray
  obtain ⟨zs, rz, dz⟩ := of_each eo
  have hlen : zs.length ≤ sizeLine := by rw [rz.length, ho]; exact ok3
  refine ⟨.ref _, upd H (s.heap.objs.size + 1) (.lst zs), I.laid (t' := s.toks) (fun _ _ => sortedAll_old) (Nat.le_succ _) ⟨hlen, out, c, rz, hc⟩, rfl, q zs _ (I.hok.fresh (Nat.le_succ _)) dz⟩
def gSort : G1F := fun d R => match d with
  | .list ds => SortOk ds ∧ R (sortD ds)
  | _ => False
theorem cs_sort : CallSimF K (rSortD K) gSort := by
  intro G H x dx R Q s px h k
  cases dx <;> first | exact h.elim | skip
  obtain ⟨p, vs, rfl, p1, p2⟩ := px.lst s
  exact ⟨p, vs, _, G, rfl, p1, s, p2, h.1, fun zs l hl dz => k _ l _ hl dz h.2⟩
/-! isinstance(x, T), T a built-in class -/
def tyN : Dt → String
  | .none => "NoneType"
  | .bool _ => "bool"
  | .int _ => "int"
  | .str _ => "str"
  | .list _ => "list"
  | .tuple _ => "tuple"
  | .dict _ => "dict"
inductive Ty6 where
  | bool | int | str | list | tuple | dict
def nameOf : Ty6 → String
  | .bool => "bool"
  | .int => "int"
  | .str => "str"
  | .list => "list"
  | .tuple => "tuple"
  | .dict => "dict"
def isY : Ty6 → Dt → Bool
  | .bool, .bool _ => true
  | .int, .bool _ => true
  | .int, .int _ => true
  | .str, .str _ => true
  | .list, .list _ => true
  | .tuple, .tuple _ => true
  | .dict, .dict _ => true
  | _, _ => false
theorem dp_ty {G : Hp} {v : V} {d : Dt} (h : Dp K G v d) : TyX K G v (.type (tyN d)) := by
  cases h with
  | non => exact .base .non
  | bl b => exact .base (.bl b)
  | int i => exact .base (.int i)
  | str x => exact .base (.str x)
  | lst hs _ =>
    rcases hs with (hs | ⟨o, hs⟩) | ⟨o, its, n, h1, h2, _⟩
    · exact .base (.lst hs)
    · exact .base (.frz hs)
    · exact .kList h1 h2
  | tup hs _ =>
    rcases hs with (hs | ⟨o, hs⟩) | ⟨o, its, n, h1, h2, _⟩
    · exact .base (.tup hs)
    · exact .fTuple hs
    · exact .kTuple h1 h2
theorem kit_tab (y : Ty6) : kitB "NoneType" (nameOf y) = some (isY y .none) ∧ kitB "bool" (nameOf y) = some (isY y (.bool true)) ∧ kitB "int" (nameOf y) = some (isY y (.int 0)) ∧ kitB "str" (nameOf y) = some (isY y (.str ⟨#[]⟩)) ∧
    kitB "list" (nameOf y) = some (isY y (.list [])) ∧ kitB "tuple" (nameOf y) = some (isY y (.tuple [])) ∧ kitB "dict" (nameOf y) = some (isY y (.dict [])) := by
  cases y <;> decide +kernel
theorem kit_is (y : Ty6) (d : Dt) : kitB (tyN d) (nameOf y) = some (isY y d) := by
  obtain ⟨h1, h2, h3, h4, h5, h6, h7⟩ := kit_tab y
  cases d with
  | none => exact h1
  | bool b => exact h2.trans (by cases y <;> rfl)
  | int i => exact h3.trans (by cases y <;> rfl)
  | str x => exact h4.trans (by cases y <;> rfl)
  | list xs => exact h5.trans (by cases y <;> rfl)
  | tuple xs => exact h6.trans (by cases y <;> rfl)
  | dict xs => exact h7.trans (by cases y <;> rfl)
def wIsi (T : Ty6) (w : WE) : WE := fun env R => w env fun d e => R (.bool (isY T d)) e
theorem de_isi (T : Ty6) {y : Str} {p2 : Pos} (hg : Gl X "isinstance") (hm : X.mg "isinstance" = none) (ha : DP X e te we) (hgT : Gl X y) (hmT : X.mg y = none) (hvT : bootBuiltins y = some (.type (nameOf T)))
    (hn : y ≠ "__name__" := by decide) (hd : (y == ("__debug__" : Str)) = false := by decide)
    (he : starEach [e, .Name y p2] X.env = (false, eval e X.env) :: starEach [.Name y p2] X.env := by rfl) (he2 : starEach [.Name y p2] X.env = (false, eval (.Name y p2) X.env) :: starEach [] X.env := by rfl)
    (hpl : (backTo pos (starEach [.Name y p2] X.env)).any (·.1) = false := by rfl) :
    DE X (.Call (.Name "isinstance" p) [e, .Name y p2] [] pos) (tCB (rIsi X.K) (tCons te (tCons (tC (.ty (nameOf T))) tNil))) (wIsi T we) := by
  refine ⟨pe_callB call_isi hg hm (by decide +kernel) (pa_cons ha.pe (pa_cons (pe_bltn (v := .ty (nameOf T)) hgT hmT hvT rfl hn hd) pa_nil he2) he) (by decide) (by decide) he hpl, fun C G H σ env R Q rp hw k => ?_⟩
  refine ha.sim C G H σ env _ _ rp hw fun d e1 v G1 H1 s1 p1 h1 => ?_
  exact ⟨v, .ty (nameOf T), .type (tyN d), .type (nameOf T), isY T d, rfl, .ty (nameOf T), dp_ty (p1.dp s1.rep.gh), kit_ty (kit_is T d), k _ e1 _ G1 H1 s1 (.bl _) h1⟩
/-! max(a, b), min(a, b) -/
def wC2 (g : G2) (wa wb : WE) : WE := wBin g wa wb
def gMax2 : G2 := gI fun i j => if j > i then j else i
def gMin2 : G2 := gI fun i j => if j < i then j else i
theorem de_max2 (hc : X.calm = true) (hg : Gl X "max") (hm : X.mg "max" = none) (ha : DE X a ta wa) (hb : DE X b tb wb)
    (he : starEach [a, b] X.env = (false, eval a X.env) :: starEach [b] X.env := by rfl) (he2 : starEach [b] X.env = (false, eval b X.env) :: starEach [] X.env := by rfl) (hpl : (backTo pos (starEach [b] X.env)).any (·.1) = false := by rfl) :
    DE X (.Call (.Name "max" p) [a, b] [] pos) (tCB (fun xs H Q => ∃ i j, xs = [.int i, .int j] ∧ Q (.int (if j > i then j else i)) H) (tCons ta (tCons tb tNil))) (wBin gMax2 wa wb) := by
  refine ⟨pe_callB (call_max2 hc) hg hm (by decide +kernel) (pa_cons ha.pe (pa_cons hb.pe pa_nil he2) he) (by decide) (by decide) he hpl, fun C G H σ env R Q rp hw k => ?_⟩
  refine ha.sim C G H σ env _ _ rp hw fun d e1 v G1 H1 s1 p1 h1 => ?_
  refine hb.sim C G1 H1 σ e1 _ _ s1.rep h1 fun d' e2 v' G2 H2 s2 p2 h2 => ?_
  cases d <;> cases d' <;> first | exact h2.elim | skip
  cases p1
  cases p2
  exact ⟨_, _, rfl, k _ e2 _ G2 H2 (s1.trans s2) (.int _) h2⟩
theorem de_min2 (hc : X.calm = true) (hg : Gl X "min") (hm : X.mg "min" = none) (ha : DE X a ta wa) (hb : DE X b tb wb)
    (he : starEach [a, b] X.env = (false, eval a X.env) :: starEach [b] X.env := by rfl) (he2 : starEach [b] X.env = (false, eval b X.env) :: starEach [] X.env := by rfl) (hpl : (backTo pos (starEach [b] X.env)).any (·.1) = false := by rfl) :
    DE X (.Call (.Name "min" p) [a, b] [] pos) (tCB (fun xs H Q => ∃ i j, xs = [.int i, .int j] ∧ Q (.int (if j < i then j else i)) H) (tCons ta (tCons tb tNil))) (wBin gMin2 wa wb) := by
  refine ⟨pe_callB (call_min2 hc) hg hm (by decide +kernel) (pa_cons ha.pe (pa_cons hb.pe pa_nil he2) he) (by decide) (by decide) he hpl, fun C G H σ env R Q rp hw k => ?_⟩
  refine ha.sim C G H σ env _ _ rp hw fun d e1 v G1 H1 s1 p1 h1 => ?_
  refine hb.sim C G1 H1 σ e1 _ _ s1.rep h1 fun d' e2 v' G2 H2 s2 p2 h2 => ?_
  cases d <;> cases d' <;> first | exact h2.elim | skip
  cases p1
  cases p2
  exact ⟨_, _, rfl, k _ e2 _ G2 H2 (s1.trans s2) (.int _) h2⟩
/-! slices -/
abbrev WO := En → (Option Int → En → Prop) → Prop
def SimO (K : PySem.W.Frag) (t : TO) (w : WO) : Prop := ∀ (C : Base) (G H : Hp) (σ : L2.St) (env : En) (R : Option Int → En → Prop) (Q : Option Int → Hp → Prop), Rep K C G H σ env → w env R →
  (∀ o env' G' H', Stp K C σ env G H env' G' H' → R o env' → Q o H') → t σ H Q
structure DO (X : Cx) (e : Option Expr) (t : TO) (w : WO) : Prop where
  pe : PO X e t
  sim : SimO X.K t w
def wONone : WO := fun env R => R none env
def wOSome (w : WE) : WO := fun env R => w env fun d e => match d with
  | .int i => R (some i) e
  | _ => False
theorem do_none : DO X none tNoPart wONone := ⟨po_none, fun C G H σ env R Q rp hw k => k _ _ _ _ (Stp.refl rp) hw⟩
theorem do_some (h : DE X e te we) : DO X (some e) (tPart te) (wOSome we) := by
  refine ⟨po_some h.pe, fun C G H σ env R Q rp hw k => h.sim C G H σ env _ _ rp hw fun d e1 v G1 H1 s1 p1 h1 => ?_⟩
  cases d <;> first | exact h1.elim | skip
  cases p1
  exact ⟨_, rfl, k _ _ _ _ s1 h1⟩
def cutD (xs : List Dt) (lo hi : Option Int) : List Dt := (xs.drop (HT.sIx xs.length 0 lo)).take (HT.sIx xs.length xs.length hi - HT.sIx xs.length 0 lo)
theorem dpAll_cut {G : Hp} {vs : List V} {ds : List Dt} {lo hi : Option Int} (h : DpAll K G vs ds) : DpAll K G (cutV vs lo hi) (cutD ds lo hi) := by
  unfold cutV cutD
  rw [DpAll.len h]
  exact (h.drop _).take _
def rSlAny (K : PySem.W.Frag) : V → Option Int → Option Int → Hp → VK → Prop := fun x lo hi H Q => rSlL K x lo hi H Q ∨ (rSlA K x lo hi H Q ∨ rSlS x lo hi H Q)
theorem sl_any : SlR X (rSlAny X.K) := sl_list.or (sl_tupA.or sl_str)
/-- of a tuple, a text, a list that is frozen: data -/
def gSl : Dt → Option Int → Option Int → (Dt → Prop) → Prop := fun d lo hi R => match d with
  | .list ds => R (.list (cutD ds lo hi))
  | .tuple ds => R (.tuple (cutD ds lo hi))
  | .str z => z.length ≤ sizeLine ∧ R (.str (cutS z lo hi))
  | _ => False
theorem cut_whole {α : Type} {xs : List α} {lo hi : Option Int} (h : HT.sIx xs.length 0 lo = 0 ∧ HT.sIx xs.length xs.length hi = xs.length) : (xs.drop (HT.sIx xs.length 0 lo)).take (HT.sIx xs.length xs.length hi - HT.sIx xs.length 0 lo) = xs := by
  rw [h.1, h.2, List.drop_zero, Nat.sub_zero, List.take_length]
theorem os_sl {G H : Hp} {x : V} {d : Dt} {lo hi : Option Int} {R : Dt → Prop} {Q : VK} (s : Same G H) (px : Pk K G H x d) (h : gSl d lo hi R) (k : ∀ d' v G' H', Grow G H G' H' → Dp K G' v d' → R d' → Q v H') : rSlAny K x lo hi H Q := by
  cases d <;> first | exact h.elim | skip
  · cases px.str
    exact .inr (.inr ⟨_, rfl, h.1, k _ _ G H (Grow.refl s) (.str _) h.2⟩)
  · obtain ⟨p, vs, rfl, p1, p2⟩ := px.lst s
    refine .inl ⟨p, vs, rfl, p1, fun l hl => ?_⟩
    have g := Grow.new s (o := .lst (cutV vs lo hi)) hl
    exact k _ _ _ _ g (.lst (SqL.of upd_same) (dpAll_mono g.1 _ _ (dpAll_cut p2))) h
  · have px' := px.tupD
    rename_i ds
    obtain ⟨p, vs, rfl, p0, p1, p2⟩ := px.tup s
    refine .inr (.inl ⟨p, vs, rfl, p1, fun hw => ?_, fun _ l hl => ?_⟩)
    · have e : cutD ds lo hi = ds := cut_whole (by rw [← DpAll.len p2]; exact hw)
      have h : R (.tuple (cutD ds lo hi)) := h
      rw [e] at h
      exact k _ _ G H (Grow.refl s) px' h
    · have g := Grow.new s (o := .tup (cutV vs lo hi)) hl
      exact k _ _ _ _ g (.tup (SqT.of upd_same) (dpAll_mono g.1 _ _ (dpAll_cut p2))) h
variable {lo hi : Option Expr} {to th : TO} {wo wh : WO} {p2 : Pos}
def wSl (w : WE) (wo wh : WO) : WE := fun env R => w env fun d e1 => wo e1 fun i e2 => wh e2 fun j e3 => gSl d i j fun d' => R d' e3
theorem de_sl (he : DE X e te we) (hl : DO X lo to wo) (hh : DO X hi th wh) : DE X (.Subscript e (.Slice lo hi none p2) pos) (tSl (rSlAny X.K) te to th) (wSl we wo wh) := by
  refine ⟨pe_slice sl_any he.pe hl.pe hh.pe, fun C G H σ env R Q rp hw k => ?_⟩
  refine he.sim C G H σ env _ _ rp hw fun d e1 v G1 H1 s1 p1 h1 => ?_
  refine hl.sim C G1 H1 σ e1 _ _ s1.rep h1 fun i e2 G2 H2 s2 h2 => ?_
  refine hh.sim C G2 H2 σ e2 _ _ s2.rep h2 fun j e3 G3 H3 s3 h3 => ?_
  exact os_sl s3.rep.gh (.inl (dp_mono (s2.gx.trans s3.gx) _ _ p1)) h3 fun d' v' G' H' g p q => k _ e3 _ _ _ (((s1.trans s2).trans s3).then_grow g) p q
/-- of a name, looked at behind the bounds -/
def wSlV (i : Nat) (wo wh : WO) : WE := fun env R => match peek env i with
  | none => False
  | some _ => wo env fun lo e2 => wh e2 fun hi e3 => match peek e3 i with
    | some d => gSl d lo hi fun d' => R d' e3
    | none => False
theorem de_slV (i : Nat) {x : Str} {pos' : Pos} (hl : DO X lo to wo) (hh : DO X hi th wh)
    (hN : X.N[i]? = some x := by rfl) (hv : Vis X.env.scope x := by first | exact Or.inl rfl | exact Or.inr (Or.inl rfl) | exact Or.inr (Or.inr rfl)) (hd : (x == ("__debug__" : Str)) = false := by decide) (hcd : (x == ("__classdict__" : Str)) = false := by decide) :
    DE X (.Subscript (.Name x pos') (.Slice lo hi none p2) pos) (tSl (rSlAny X.K) (tVar i) to th) (wSlV i wo wh) := by
  refine ⟨pe_slice sl_any (pv i hN hv hd hcd) hl.pe hh.pe, fun C G H σ env R Q rp h k => ?_⟩
  unfold wSlV at h
  cases e0 : DL.peek env i with
  | none => rw [e0] at h; exact h.elim
  | some d0 =>
    rw [e0] at h
    obtain ⟨v1, ev, _⟩ := rp.peek e0
    refine ⟨v1, ev, hl.sim C G H σ env _ _ rp h fun lo e2 G2 H2 s2 h2 => ?_⟩
    refine hh.sim C G2 H2 σ e2 _ _ s2.rep h2 fun hi e3 G3 H3 s3 h3 => ?_
    cases e : DL.peek e3 i with
    | none => rw [e] at h3; exact h3.elim
    | some d =>
      rw [e] at h3
      obtain ⟨v, ev', p1⟩ := s3.rep.peek e
      rw [ev] at ev'
      cases ev'
      exact os_sl s3.rep.gh p1 h3 fun d' v' G' H' g p q => k _ e3 _ _ _ ((s2.trans s3).then_grow g) p q
/-- a list's slice as a new list -/
def wSlF (w : WE) (wo wh : WO) : WF := fun env R => w env fun d e1 => wo e1 fun i e2 => wh e2 fun j e3 => match d with
  | .list ds => R (cutD ds i j) e3
  | _ => False
theorem df_sl (he : DE X e te we) (hl : DO X lo to wo) (hh : DO X hi th wh) : DF X (.Subscript e (.Slice lo hi none p2) pos) (tSl (rSlL X.K) te to th) (wSlF we wo wh) := by
  refine ⟨pe_slice sl_list he.pe hl.pe hh.pe, fun C G H σ env R Q rp hw k => ?_⟩
  refine he.sim C G H σ env _ _ rp hw fun d e1 v G1 H1 s1 p1 h1 => ?_
  refine hl.sim C G1 H1 σ e1 _ _ s1.rep h1 fun i e2 G2 H2 s2 h2 => ?_
  refine hh.sim C G2 H2 σ e2 _ _ s2.rep h2 fun j e3 G3 H3 s3 h3 => ?_
  cases d <;> first | exact h3.elim | skip
  obtain ⟨p, vs, rfl, q1, q2⟩ := (show Pk X.K G3 H3 v (.list _) from .inl (dp_mono (s2.gx.trans s3.gx) _ _ p1)).lst s3.rep.gh
  refine ⟨p, vs, rfl, q1, fun l hl => ?_⟩
  have s := (s1.trans s2).trans s3
  exact k _ e3 l _ _ (s.then_grow (Grow.newH s.rep.gh hl)) (none_al s hl) ⟨none_back s.rep.gh hl, _, upd_same, dpAll_cut q2⟩ h3
end

/-! ### what is walked -/
abbrev WI := En → (List Dt → En → Prop) → Prop
structure ItOk (K : PySem.W.Frag) (G : Hp) (J : It) (ds : List Dt) : Prop where
  ex : ∃ (Gd : Hp → Prop) (Y : Nat → Hp → V → Hp → Prop), Walk J ds.length Gd Y ∧ (∀ G1 H1, Same G G1 → Same G1 H1 → Gd H1) ∧
    ∀ i x G1 H1 H2, i < ds.length → Same G G1 → Same G1 H1 → Y i H1 x H2 → ∃ d G2, ds[i]? = some d ∧ Grow G1 H1 G2 H2 ∧ Dp K G2 x d
def SimI (K : PySem.W.Frag) (wi : TI) (w : WI) : Prop := ∀ (C : Base) (G H : Hp) (σ : L2.St) (env : En) (R : List Dt → En → Prop) (Q : It → Hp → Prop), Rep K C G H σ env → w env R →
  (∀ ds env' J G' H', Stp K C σ env G H env' G' H' → ItOk K G' J ds → R ds env' → Q J H') → wi σ H Q
structure DI (X : Cx) (tg iter : Expr) (t : TI) (w : WI) : Prop where
  pe : PI X tg iter t
  sim : SimI X.K t w
theorem sqT_seq {K : PySem.W.Frag} {G H : Hp} {a : Addr} {xs : List V} (s : Same G H) (h : SqT K G a xs) : SqT K H a xs := sqT_mono s h
section
variable {X : Cx} {K : PySem.W.Frag} {a b e tg : Expr} {es : List Expr} {p pos : Pos} {ta tb te : TE} {wa wb we : WE} {tl : TA} {wl : WA}
theorem itOk_list {G : Hp} {l : Addr} {vs : List V} {ds : List Dt} (h : SqL K G l vs) (d : DpAll K G vs ds) : ItOk K G (Itl K l) ds := by
  refine ⟨fun H => SqL K H l vs, YAt vs, by rw [← DpAll.len d]; exact walk_list, fun G1 H1 s1 s2 => (s1.trans s2).seq h, fun i x G1 H1 H2 hi s1 s2 y => ?_⟩
  obtain ⟨rfl, y⟩ := y
  obtain ⟨z, e1, e2⟩ := DpAll.getV d y
  exact ⟨z, G1, e1, Grow.refl s2, dp_mono s1 _ _ e2⟩
theorem itOk_tup {G : Hp} {l : Addr} {vs : List V} {ds : List Dt} (h : SqT K G l vs) (d : DpAll K G vs ds) : ItOk K G (Itt K l) ds := by
  refine ⟨fun H => SqT K H l vs, YAt vs, by rw [← DpAll.len d]; exact walk_tup, fun G1 H1 s1 s2 => sqT_seq (s1.trans s2) h, fun i x G1 H1 H2 hi s1 s2 y => ?_⟩
  obtain ⟨rfl, y⟩ := y
  obtain ⟨z, e1, e2⟩ := DpAll.getV d y
  exact ⟨z, G1, e1, Grow.refl s2, dp_mono s1 _ _ e2⟩
/-- a list; a tuple -/
def wIL (w : WE) : WI := fun env R => w env fun d e => match d with
  | .list ds => R ds e
  | _ => False
def wIT (w : WE) : WI := fun env R => w env fun d e => match d with
  | .tuple ds => R ds e
  | _ => False
theorem di_list (h : DE X e te we) : DI X tg e (iList X.K te) (wIL we) := by
  refine ⟨pi_list h.pe, fun C G H σ env R Q rp hw k => h.sim C G H σ env _ _ rp hw fun d e1 v G1 H1 s1 p1 h1 => ?_⟩
  cases d <;> first | exact h1.elim | skip
  cases p1 with
  | lst hs ha => exact ⟨_, rfl, ⟨_, s1.rep.gh.seq hs⟩, k _ _ _ _ _ s1 (itOk_list hs ha) h1⟩
theorem di_tup (h : DE X e te we) : DI X tg e (iTup X.K te) (wIT we) := by
  refine ⟨pi_tup h.pe, fun C G H σ env R Q rp hw k => h.sim C G H σ env _ _ rp hw fun d e1 v G1 H1 s1 p1 h1 => ?_⟩
  cases d <;> first | exact h1.elim | skip
  cases p1 with
  | tup hs ha => exact ⟨_, rfl, ⟨_, sqT_seq s1.rep.gh hs⟩, k _ _ _ _ _ s1 (itOk_tup hs ha) h1⟩
/-- a list that is new -/
theorem di_frz {wf : WF} (h : DF X e te wf) : DI X tg e (iList X.K te) (wIL (wFrz wf)) := di_list (de_frz h)
/-- lo, lo + c, .. n of them -/
def rgD (lo c : Int) (n : Nat) : List Dt := (List.range n).map fun i => .int (lo + (i : Nat) * c)
theorem rgD_len (lo c : Int) (n : Nat) : (rgD lo c n).length = n := by unfold rgD; rw [List.length_map, List.length_range]
theorem rgD_get (lo c : Int) (n i : Nat) (h : i < n) : (rgD lo c n)[i]? = some (.int (lo + (i : Nat) * c)) := by
  unfold rgD
  rw [List.getElem?_map, List.getElem?_range h]
  rfl
theorem itOk_range {G : Hp} {lo : Int} {n : Nat} : ItOk K G (Itr lo n) (rgD lo 1 n) := by
  refine ⟨fun _ => True, YFn fun i => .int (lo + i), by rw [rgD_len]; exact walk_range, fun _ _ _ _ => trivial, fun i x G1 H1 H2 hi s1 s2 y => ?_⟩
  obtain ⟨rfl, rfl⟩ := y
  rw [rgD_len] at hi
  refine ⟨_, G1, rgD_get lo 1 n i hi, Grow.refl s2, ?_⟩
  rw [Int.mul_one]
  exact .int _
theorem itOk_rangeC {G : Hp} {lo c : Int} {n : Nat} : ItOk K G (Itc lo c n) (rgD lo c n) := by
  refine ⟨fun _ => True, YFn fun i => .int (lo + (i : Nat) * c), by rw [rgD_len]; exact walk_rangeC, fun _ _ _ _ => trivial, fun i x G1 H1 H2 hi s1 s2 y => ?_⟩
  obtain ⟨rfl, rfl⟩ := y
  rw [rgD_len] at hi
  exact ⟨_, G1, rgD_get lo c n i hi, Grow.refl s2, .int _⟩
def wIR1 (w : WE) : WI := fun env R => w env fun d e => match d with
  | .int n => (-(2 ^ 62) ≤ n ∧ n < 2 ^ 62) ∧ R (rgD 0 1 n.toNat) e
  | _ => False
def wIR2 (wa wb : WE) : WI := fun env R => wa env fun d e => wb e fun d' e' => match d, d' with
  | .int m, .int n => (-(2 ^ 62) ≤ m ∧ m < 2 ^ 62 ∧ -(2 ^ 62) ≤ n ∧ n < 2 ^ 62) ∧ R (rgD m 1 (n - m).toNat) e'
  | _, _ => False
def rgN (i j c : Int) : Nat := if 0 < c then ((j - i + c - 1) / c).toNat else ((i - j - c - 1) / (-c)).toNat
def wIR3 (wa wb wc : WE) : WI := fun env R => wa env fun d e => wb e fun d' e' => wc e' fun d'' e'' => match d, d', d'' with
  | .int m, .int n, .int c => ∃ k, RgC m n c k ∧ R (rgD m c k) e''
  | _, _, _ => False
theorem di_range1 (hg : Gl X "range") (hm : X.mg "range" = none) (h : DE X e te we) (hs : starEach [e] X.env = [(false, eval e X.env)] := by rfl) : DI X tg (.Call (.Name "range" p) [e] [] pos) (iRng1 (tCons te tNil)) (wIR1 we) := by
  refine ⟨pi_range1 hg hm (pa_cons h.pe pa_nil hs) hs, fun C G H σ env R Q rp hw k => h.sim C G H σ env _ _ rp hw fun d e1 v G1 H1 s1 p1 h1 => ?_⟩
  cases d <;> first | exact h1.elim | skip
  cases p1
  exact ⟨_, rfl, h1.1.1, h1.1.2, k _ _ _ _ _ s1 itOk_range h1.2⟩
theorem di_range2 (hg : Gl X "range") (hm : X.mg "range" = none) (h : DE X a ta wa) (h' : DE X b tb wb) (hs : starEach [a, b] X.env = [(false, eval a X.env), (false, eval b X.env)] := by rfl) (hs2 : starEach [b] X.env = [(false, eval b X.env)] := by rfl) :
    DI X tg (.Call (.Name "range" p) [a, b] [] pos) (iRng2 (tCons ta (tCons tb tNil))) (wIR2 wa wb) := by
  refine ⟨pi_range2 hg hm (pa_cons h.pe (pa_cons h'.pe pa_nil hs2) (by rw [hs, hs2])) hs hs2, fun C G H σ env R Q rp hw k => h.sim C G H σ env _ _ rp hw fun d e1 v G1 H1 s1 p1 h1 => ?_⟩
  refine h'.sim C G1 H1 σ e1 _ _ s1.rep h1 fun d' e2 v' G2 H2 s2 p2 h2 => ?_
  cases d <;> cases d' <;> first | exact h2.elim | skip
  cases p1
  cases p2
  exact ⟨_, _, rfl, h2.1, k _ _ _ _ _ (s1.trans s2) itOk_range h2.2⟩
theorem di_range3 {c : Expr} {tc : TE} {wc : WE} (hg : Gl X "range") (hm : X.mg "range" = none) (h : DE X a ta wa) (h' : DE X b tb wb) (h'' : DE X c tc wc)
    (hs : starEach [a, b, c] X.env = [(false, eval a X.env), (false, eval b X.env), (false, eval c X.env)] := by rfl) (hs2 : starEach [b, c] X.env = [(false, eval b X.env), (false, eval c X.env)] := by rfl) (hs3 : starEach [c] X.env = [(false, eval c X.env)] := by rfl) :
    DI X tg (.Call (.Name "range" p) [a, b, c] [] pos) (iRng3 (tCons ta (tCons tb (tCons tc tNil)))) (wIR3 wa wb wc) := by
  refine ⟨pi_range3 hg hm (pa_cons h.pe (pa_cons h'.pe (pa_cons h''.pe pa_nil hs3) (by rw [hs2, hs3])) (by rw [hs, hs2])) (by rw [hs, hs2]) (by first | rfl | (rw [hs2]; rfl)), fun C G H σ env R Q rp hw k => h.sim C G H σ env _ _ rp hw fun d e1 v G1 H1 s1 p1 h1 => ?_⟩
  refine h'.sim C G1 H1 σ e1 _ _ s1.rep h1 fun d' e2 v' G2 H2 s2 p2 h2 => ?_
  refine h''.sim C G2 H2 σ e2 _ _ s2.rep h2 fun d'' e3 v'' G3 H3 s3 p3 h3 => ?_
  cases d <;> cases d' <;> cases d'' <;> first | exact h3.elim | skip
  cases p1
  cases p2
  cases p3
  obtain ⟨n, hn, q⟩ := h3
  exact ⟨_, _, _, n, rfl, hn, k _ _ _ _ _ ((s1.trans s2).trans s3) itOk_rangeC q⟩
/-! zip of two lists or of two tuples; enumerate of a list -/
def zipD (xs ys : List Dt) : List Dt := (xs.zip ys).map fun p => .tuple [p.1, p.2]
theorem zipD_len (xs ys : List Dt) : (zipD xs ys).length = min xs.length ys.length := by unfold zipD; rw [List.length_map, List.length_zip]
theorem zipD_get {xs ys : List Dt} {i : Nat} {x y : Dt} (h1 : xs[i]? = some x) (h2 : ys[i]? = some y) : (zipD xs ys)[i]? = some (.tuple [x, y]) := by
  unfold zipD
  have e : (xs.zip ys)[i]? = some (x, y) := List.getElem?_zip_eq_some.mpr ⟨h1, h2⟩
  rw [List.getElem?_map, e]
  rfl
theorem itOk_pair {G : Hp} {J : It} {ds : List Dt} {Gd : Hp → Prop} {f g : Nat → Option V} (w : Walk J ds.length Gd (YPair f g)) (st : ∀ G1 H1, Same G G1 → Same G1 H1 → Gd H1)
    (hf : ∀ i x y, i < ds.length → f i = some x → g i = some y → ∃ d d', ds[i]? = some (.tuple [d, d']) ∧ Dp K G x d ∧ Dp K G y d') : ItOk K G J ds := by
  refine ⟨Gd, _, w, st, fun i v G1 H1 H2 hi s1 s2 y => ?_⟩
  obtain ⟨T, x, y, rfl, hT, rfl, h1, h2⟩ := y
  obtain ⟨d, d', e, p, q⟩ := hf i x y hi h1 h2
  have gr := Grow.new s2 (o := .tup [x, y]) hT
  exact ⟨_, _, e, gr, .tup (SqT.of upd_same) (.cons (dp_mono (s1.trans gr.1) _ _ p) (.cons (dp_mono (s1.trans gr.1) _ _ q) .nil))⟩
theorem itOk_zip {G : Hp} {l m : Addr} {vs ws : List V} {ds es : List Dt} (h : SqL K G l vs) (h' : SqL K G m ws) (d : DpAll K G vs ds) (d' : DpAll K G ws es) : ItOk K G (Itz K l m) (zipD ds es) := by
  refine itOk_pair (walk_zip (xs := vs) (ys := ws) (by rw [zipD_len, DpAll.len d, DpAll.len d'])) (fun G1 H1 s1 s2 => ⟨(s1.trans s2).seq h, (s1.trans s2).seq h'⟩) fun i x y hi h1 h2 => ?_
  obtain ⟨z, e1, p1⟩ := DpAll.getV d h1
  obtain ⟨z', e2, p2⟩ := DpAll.getV d' h2
  exact ⟨z, z', zipD_get e1 e2, p1, p2⟩
theorem walk_zipT {l m : Addr} {xs ys : List V} {n : Nat} (hn : n = min xs.length ys.length) : Walk (RZ.ItzT K l m) n (fun H => SqT K H l xs ∧ SqT K H m ys) (YPair (fun i => xs[i]?) (fun i => ys[i]?)) := by
  subst hn
  refine ⟨fun i _ hi q => ?_, fun _ q => ⟨xs, ys, q.1, q.2, by omega⟩, fun i H v H' _ q y => ?_⟩
  · have h1 : i < xs.length := by omega
    have h2 : i < ys.length := by omega
    exact ⟨xs, ys, xs[i], ys[i], q.1, q.2, by simp [h1], by simp [h2]⟩
  · obtain ⟨T, x, z, h1, h2, h3, h4, h5⟩ := y
    exact ⟨T, x, z, h1, h2, h3, h4 xs q.1, h5 ys q.2⟩
theorem itOk_zipT {G : Hp} {l m : Addr} {vs ws : List V} {ds es : List Dt} (h : SqT K G l vs) (h' : SqT K G m ws) (d : DpAll K G vs ds) (d' : DpAll K G ws es) : ItOk K G (RZ.ItzT K l m) (zipD ds es) := by
  refine itOk_pair (walk_zipT (xs := vs) (ys := ws) (by rw [zipD_len, DpAll.len d, DpAll.len d'])) (fun G1 H1 s1 s2 => ⟨sqT_seq (s1.trans s2) h, sqT_seq (s1.trans s2) h'⟩) fun i x y hi h1 h2 => ?_
  obtain ⟨z, e1, p1⟩ := DpAll.getV d h1
  obtain ⟨z', e2, p2⟩ := DpAll.getV d' h2
  exact ⟨z, z', zipD_get e1 e2, p1, p2⟩
def wIZ (wa wb : WE) : WI := fun env R => wa env fun d e => wb e fun d' e' => match d, d' with
  | .list xs, .list ys => R (zipD xs ys) e'
  | .tuple xs, .tuple ys => R (zipD xs ys) e'
  | _, _ => False
theorem di_zip {elts : List Expr} {kk : Nat} {tpos : Pos} (hg : Gl X "zip") (hm : X.mg "zip" = none) (h : DE X a ta wa) (h' : DE X b tb wb)
    (hs : starEach [a, b] X.env = (false, eval a X.env) :: starEach [b] X.env := by rfl) (hs2 : starEach [b] X.env = (false, eval b X.env) :: starEach [] X.env := by rfl) (hpl : (backTo pos (starEach [b] X.env)).any (·.1) = false := by rfl) :
    DI X (.Tuple elts kk tpos) (.Call (.Name "zip" p) [a, b] [] pos) (RZ.iZipA X.K (tCons ta (tCons tb tNil))) (wIZ wa wb) := by
  refine ⟨RZ.pi_zipA hg hm (pa_cons h.pe (pa_cons h'.pe pa_nil hs2) hs) hs hpl, fun C G H σ env R Q rp hw k => h.sim C G H σ env _ _ rp hw fun d e1 v G1 H1 s1 p1 h1 => ?_⟩
  refine h'.sim C G1 H1 σ e1 _ _ s1.rep h1 fun d' e2 v' G2 H2 s2 p2 h2 => ?_
  have p1 := dp_mono s2.gx _ _ p1
  cases d <;> cases d' <;> first | exact h2.elim | skip
  · cases p1 with
    | lst hs ha =>
      cases p2 with
      | lst hs' ha' => exact ⟨_, _, _, _, rfl, .inl ⟨s2.rep.gh.seq hs, s2.rep.gh.seq hs', k _ _ _ _ _ (s1.trans s2) (itOk_zip hs hs' ha ha') h2⟩⟩
  · cases p1 with
    | tup hs ha =>
      cases p2 with
      | tup hs' ha' => exact ⟨_, _, _, _, rfl, .inr ⟨sqT_seq s2.rep.gh hs, sqT_seq s2.rep.gh hs', k _ _ _ _ _ (s1.trans s2) (itOk_zipT hs hs' ha ha') h2⟩⟩
def enumD (xs : List Dt) : List Dt := zipD (rgD 0 1 xs.length) xs
theorem enumD_len (xs : List Dt) : (enumD xs).length = xs.length := by unfold enumD; rw [zipD_len, rgD_len, Nat.min_self]
theorem itOk_enum {G : Hp} {l : Addr} {vs : List V} {ds : List Dt} (h : SqL K G l vs) (d : DpAll K G vs ds) : ItOk K G (Ite K l) (enumD ds) := by
  refine itOk_pair (Gd := fun H => SqL K H l vs) (f := fun i => some (.int (i : Nat))) (g := fun i => vs[i]?) (by rw [enumD_len, ← DpAll.len d]; exact walk_enum) (fun G1 H1 s1 s2 => (s1.trans s2).seq h) fun i x y hi h1 h2 => ?_
  cases h1
  obtain ⟨z, e1, p1⟩ := DpAll.getV d h2
  rw [enumD_len] at hi
  refine ⟨_, z, zipD_get (rgD_get 0 1 ds.length i hi) e1, ?_, p1⟩
  rw [Int.mul_one, Int.zero_add]
  exact .int _
def wIE (w : WE) : WI := fun env R => w env fun d e => match d with
  | .list ds => R (enumD ds) e
  | _ => False
theorem di_enum {elts : List Expr} {kk : Nat} {tpos : Pos} (hg : Gl X "enumerate") (hm : X.mg "enumerate" = none) (h : DE X e te we) (hs : starEach [e] X.env = [(false, eval e X.env)] := by rfl) :
    DI X (.Tuple elts kk tpos) (.Call (.Name "enumerate" p) [e] [] pos) (iEnum X.K (tCons te tNil)) (wIE we) := by
  refine ⟨pi_enum hg hm (pa_cons h.pe pa_nil hs) hs, fun C G H σ env R Q rp hw k => h.sim C G H σ env _ _ rp hw fun d e1 v G1 H1 s1 p1 h1 => ?_⟩
  cases d <;> first | exact h1.elim | skip
  cases p1 with
  | lst hs ha => exact ⟨_, _, rfl, s1.rep.gh.seq hs, k _ _ _ _ _ s1 (itOk_enum hs ha) h1⟩
/-- a text, sign by sign -/
def strD (z : Str) : List Dt := z.cps.toList.map fun c => .str ⟨#[c]⟩
theorem itOk_str {G : Hp} {z : Str} : ItOk K G (Its z) (strD z) := by
  have hl : (strD z).length = z.cps.size := by unfold strD; rw [List.length_map, Array.length_toList]
  refine ⟨fun _ => True, _, by rw [hl]; exact walk_str, fun _ _ _ _ => trivial, fun i x G1 H1 H2 hi s1 s2 y => ?_⟩
  obtain ⟨rfl, c, hc, rfl⟩ := y
  refine ⟨.str ⟨#[c]⟩, G1, ?_, Grow.refl s2, .str _⟩
  unfold strD
  rw [List.getElem?_map, Array.getElem?_toList, hc]
  rfl
def wIS (w : WE) : WI := fun env R => w env fun d e => match d with
  | .str z => R (strD z) e
  | _ => False
theorem di_str (h : DE X e te we) : DI X tg e (iStr te) (wIS we) := by
  refine ⟨pi_str h.pe, fun C G H σ env R Q rp hw k => h.sim C G H σ env _ _ rp hw fun d e1 v G1 H1 s1 p1 h1 => ?_⟩
  cases d <;> first | exact h1.elim | skip
  cases p1
  exact ⟨_, rfl, k _ _ _ _ _ s1 itOk_str h1⟩
end

/-! ### targets -/
abbrev WG := Dt → En → (En → Prop) → Prop
abbrev WGs := List Dt → En → (En → Prop) → Prop
def SimG (K : PySem.W.Frag) (t : TG) (ts : List Nat) (w : WG) : Prop := ∀ (C : Base) (G H : Hp) (σ : L2.St) (env : En) (v : V) (d : Dt) (R : En → Prop) (Q : L2.St → Hp → Prop), Rep K C G H σ env → Dp K G v d → w d env R →
  (∀ σ' env', Rep K C G H σ' env' → σ'.length = σ.length → (∀ (j : Nat), j ∉ ts → σ'[j]? = σ[j]?) → (∀ a, Owns env' σ' a → Owns env σ a) → R env' → Q σ' H) → t v σ H Q
def SimGs (K : PySem.W.Frag) (t : TGs) (ts : List Nat) (w : WGs) : Prop := ∀ (C : Base) (G H : Hp) (σ : L2.St) (env : En) (vs : List V) (ds : List Dt) (R : En → Prop) (Q : L2.St → Hp → Prop), Rep K C G H σ env → DpAll K G vs ds → w ds env R →
  (∀ σ' env', Rep K C G H σ' env' → σ'.length = σ.length → (∀ (j : Nat), j ∉ ts → σ'[j]? = σ[j]?) → (∀ a, Owns env' σ' a → Owns env σ a) → R env' → Q σ' H) → t vs σ H Q
structure DG (X : Cx) (e : Expr) (t : TG) (ts : List Nat) (w : WG) : Prop where
  pe : PG X e t
  sim : SimG X.K t ts w
structure DGs (X : Cx) (es : List Expr) (t : TGs) (ts : List Nat) (w : WGs) : Prop where
  pe : PGs X es t
  sim : SimGs X.K t ts w
def wgName (i : Nat) : WG := fun d env R => R (env.set i (.sh d))
def wgNil : WGs := fun ds env R => match ds with
  | [] => R env
  | _ => False
def wgCons (g : WG) (u : WGs) : WGs := fun ds env R => match ds with
  | d :: r => g d env fun e => u r e R
  | _ => False
def wgTup (n : Nat) (u : WGs) : WG := fun d env R => match d with
  | .tuple ds => ds.length = n ∧ u ds env R
  | _ => False
section
variable {X : Cx} {K : PySem.W.Frag} {e : Expr} {es : List Expr} {pos : Pos} {t : TG} {u : TGs} {ts us : List Nat} {g : WG} {gs : WGs}
theorem owns_set {env : En} {σ : L2.St} {i : Nat} {v : V} {d : Dt} {a : Addr} (h : Owns (env.set i (.sh d)) (σ.set i (some v)) a) : Owns env σ a := by
  obtain ⟨j, s, e1, o, e2⟩ := h
  by_cases hj : i = j
  · subst hj
    by_cases hl : i < env.length
    · rw [List.getElem?_set_self hl] at e1
      cases e1
      cases o
    · rw [List.getElem?_eq_none (by rw [List.length_set]; omega)] at e1
      cases e1
  · rw [List.getElem?_set_ne hj] at e1 e2
    exact ⟨j, s, e1, o, e2⟩
theorem dg_name (i : Nat) {x : Str} (hN : X.N.Nodup) (hi : X.N[i]? = some x := by rfl) (hx : Loc X.env.scope x := by first | exact Or.inl rfl | exact Or.inr rfl) (hf : X.fn x = true ∨ X.env.scope.names.lookup x = some .local := by first | exact .inl rfl | exact .inr rfl) :
    DG X (.Name x pos) (gName i) [i] (wgName i) :=
  ⟨pg_name hN hi hx hf, fun C G H σ env v d R Q rp dv h k => k _ _ (rp.setSh dv) (List.length_set ..) (fun j hj => List.getElem?_set_ne (fun q => hj (by rw [q]; exact List.mem_cons_self))) (fun a o => owns_set o) h⟩
theorem dgs_nil : DGs X [] gNil [] wgNil := ⟨pgs_nil, fun C G H σ env vs ds R Q rp dv h k => by
  cases ds with
  | nil =>
    cases dv
    exact ⟨rfl, k _ _ rp rfl (fun _ _ => rfl) (fun _ o => o) h⟩
  | cons d r => exact h.elim⟩
theorem dgs_cons (h1 : DG X e t ts g) (h2 : DGs X es u us gs) (hs : (assignEach (e :: es) X.env).map (·.2) = assign e X.env :: (assignEach es X.env).map (·.2) := by rfl) : DGs X (e :: es) (gCons t u) (ts ++ us) (wgCons g gs) :=
  ⟨pgs_cons h1.pe h2.pe hs, fun C G H σ env vs ds R Q rp dv h k => by
    cases ds with
    | nil => exact h.elim
    | cons d r =>
      cases dv with
      | cons d1 d2 =>
        refine ⟨_, _, rfl, h1.sim C G H σ env _ d _ _ rp d1 h fun σ1 e1 r1 l1 k1 o1 q1 => ?_⟩
        exact h2.sim C G H σ1 e1 _ r _ _ r1 d2 q1 fun σ2 e2 r2 l2 k2 o2 q2 => k σ2 e2 r2 (l2.trans l1) (fun j hj => (k2 j (fun q => hj (List.mem_append_right _ q))).trans (k1 j (fun q => hj (List.mem_append_left _ q)))) (fun a o => o1 a (o2 a o)) q2⟩
theorem dg_tup {k n : Nat} (hc : X.calm = true) (h : DGs X es u ts gs) (hn : (assignEach es X.env).length = n := by rfl) (hst : (assignEach es X.env).findIdx? (·.1) = none := by rfl) : DG X (.Tuple es k pos) (gTup X.K n u) ts (wgTup n gs) :=
  ⟨pg_tup hc h.pe hn hst, fun C G H σ env v d R Q rp dv hw k => by
    cases d <;> first | exact hw.elim | skip
    cases dv with
    | tup hs ha => exact ⟨_, _, rfl, sqT_seq rp.gh hs, by rw [DpAll.len ha]; exact hw.1, h.sim C G H σ env _ _ _ _ rp ha hw.2 k⟩⟩
end

/-! ### comprehensions -/
def wipeE (env : En) : List Nat → En
  | [] => env
  | v :: vs => (wipeE env vs).set v .no
def keepSh : Option Sl → Sl
  | some (.sh d) => .sh d
  | _ => .no
def restE (e1 env : En) : List Nat → En
  | [] => env
  | v :: vs => (restE e1 env vs).set v (keepSh e1[v]?)
section
variable {K : PySem.W.Frag} {C : Base} {G H G1 H1 : Hp} {σ σ2 : L2.St} {env e1 : En}
theorem Rep.wipe (r : Rep K C G H σ env) : ∀ vs : List Nat, Rep K C G H (L2.wipe σ vs) (wipeE env vs)
  | [] => r
  | v :: vs => (Rep.wipe r vs).setNo none
theorem owns_wipe {a : Addr} : ∀ {vs : List Nat}, Owns (wipeE env vs) (L2.wipe σ vs) a → Owns env σ a
  | [], h => h
  | v :: vs, h => by
    obtain ⟨j, s, q1, o, q2⟩ := h
    refine owns_wipe (vs := vs) ⟨j, s, ?_, o, ?_⟩
    · by_cases hj : v = j
      · subst hj
        by_cases hl : v < (wipeE env vs).length
        · have q1 : ((wipeE env vs).set v .no)[v]? = some s := q1
          rw [List.getElem?_set_self hl] at q1
          cases q1
          cases o
        · have q1 : ((wipeE env vs).set v .no)[v]? = some s := q1
          rw [List.getElem?_eq_none (by rw [List.length_set]; omega)] at q1
          cases q1
      · have q1 : ((wipeE env vs).set v .no)[j]? = some s := q1
        rw [List.getElem?_set_ne hj] at q1
        exact q1
    · by_cases hj : v = j
      · subst hj
        have q2 : ((L2.wipe σ vs).set v none)[v]? = some (some (.ref a)) := q2
        by_cases hl : v < (L2.wipe σ vs).length
        · rw [List.getElem?_set_self hl] at q2
          cases q2
        · rw [List.getElem?_eq_none (by rw [List.length_set]; omega)] at q2
          cases q2
      · have q2 : ((L2.wipe σ vs).set v none)[j]? = some (some (.ref a)) := q2
        rw [List.getElem?_set_ne hj] at q2
        exact q2
theorem wipe_get {j : Nat} : ∀ {vs : List Nat}, j ∉ vs → (L2.wipe σ vs)[j]? = σ[j]?
  | [], _ => rfl
  | v :: vs, h => by
    have hv : v ≠ j := fun q => h (by rw [q]; exact List.mem_cons_self)
    show ((L2.wipe σ vs).set v none)[j]? = σ[j]?
    rw [List.getElem?_set_ne hv]
    exact wipe_get fun q => h (List.mem_cons_of_mem _ q)
theorem wipe_in {j : Nat} : ∀ {vs : List Nat}, j ∈ vs → (L2.wipe σ vs)[j]? = if j < σ.length then some none else none
  | v :: vs, h => by
    show ((L2.wipe σ vs).set v none)[j]? = _
    by_cases hv : v = j
    · subst hv
      by_cases hl : v < σ.length
      · rw [List.getElem?_set_self (by rw [L2.wipe_length]; exact hl), if_pos hl]
      · rw [List.getElem?_eq_none (by rw [List.length_set, L2.wipe_length]; omega), if_neg hl]
    · rw [List.getElem?_set_ne hv]
      rcases List.mem_cons.mp h with q | q
      · exact absurd q.symm hv
      · exact wipe_in q
theorem Rep.updFree (r : Rep K C G H σ env) {D : Addr} {o : HO} (g : G D = none) (c : C.H0 D = none) (n : ¬ Owns env σ D) : Rep K C G (upd H D o) σ env := by
  refine ⟨r.len, r.gg, same_updR r.gh g, fun a u hb e => ?_, fun a hb => ?_, r.nw, fun j s e => ?_, r.ap, r.b0⟩
  · have hne : a ≠ D := ne_of_none e c
    rw [upd_ne hne]
    exact r.hh a u hb e
  · by_cases h : a = D
    · subst h
      rw [upd_same]
      exact Option.some_ne_none _
    · rw [upd_ne h]
      exact r.bh a hb
  · have z := r.sl j s e
    have stay : ∀ (b : Addr) (ds' : List Dt), isOwn s = true → σ[j]? = some (some (V.ref b)) → LstAt K G H b ds' → LstAt K G (upd H D o) b ds' := fun b ds' os eb q => by
      have hb : b ≠ D := fun q => n ⟨j, s, e, os, by rw [← q]; exact eb⟩
      obtain ⟨z1, vs, z3, z4⟩ := q
      exact ⟨z1, vs, by rw [upd_ne hb]; exact z3, z4⟩
    cases s with
    | no => trivial
    | sh d => exact z
    | own ds' =>
      obtain ⟨b, e1, z1, z2⟩ := z
      exact ⟨b, e1, z1, stay b ds' rfl e1 z2⟩
    | bow ds' =>
      obtain ⟨b, e1, z1, z2⟩ := z
      exact ⟨b, e1, z1, stay b ds' rfl e1 z2⟩
    | hnd =>
      obtain ⟨b, e1, z1, ds', z2, z3⟩ := z
      exact ⟨b, e1, z1, ds', z2, stay b ds' rfl e1 z3⟩
theorem restE_len : ∀ vs : List Nat, (restE e1 env vs).length = env.length
  | [] => rfl
  | v :: vs => by show ((restE e1 env vs).set v _).length = _; rw [List.length_set, restE_len vs]
theorem restE_get {j : Nat} : ∀ {vs : List Nat} {s : Sl}, (restE e1 env vs)[j]? = some s → (j ∈ vs ∧ s = keepSh e1[j]?) ∨ (j ∉ vs ∧ env[j]? = some s)
  | [], s, h => .inr ⟨(fun q => nomatch q), h⟩
  | v :: vs, s, h => by
    have h : ((restE e1 env vs).set v (keepSh e1[v]?))[j]? = some s := h
    by_cases hj : v = j
    · subst hj
      by_cases hl : v < (restE e1 env vs).length
      · rw [List.getElem?_set_self hl] at h
        cases h
        exact .inl ⟨List.mem_cons_self, rfl⟩
      · rw [List.getElem?_eq_none (by rw [List.length_set]; omega)] at h
        cases h
    · rw [List.getElem?_set_ne hj] at h
      rcases restE_get h with ⟨a, b⟩ | ⟨a, b⟩
      · exact .inl ⟨List.mem_cons_of_mem _ a, b⟩
      · exact .inr ⟨fun q => by
          rcases List.mem_cons.mp q with q | q
          · exact hj q.symm
          · exact a q, b⟩
theorem Rep.rest {vs : List Nat} (r : Rep K C G H σ2 env) (r1 : Rep K C G1 H1 σ e1) (hw : L2.wipe σ2 vs = L2.wipe σ vs) (hG : Same G1 G) : Rep K C G H σ (restE e1 env vs) := by
  have hlen : σ2.length = σ.length := by rw [← L2.wipe_length σ2 vs, hw, L2.wipe_length]
  have at_ : ∀ (j : Nat), j ∉ vs → σ2[j]? = σ[j]? := fun j hj => by rw [← wipe_get (σ := σ2) hj, hw, wipe_get hj]
  have ks : ∀ (j : Nat) (s : Sl), s = keepSh e1[j]? → isOwn s = true → False := fun j s e o => by
    rw [e] at o
    unfold keepSh at o
    split at o <;> cases o
  refine ⟨by rw [restE_len, r.len, hlen], r.gg, r.gh, r.hh, r.bh, r.nw, fun j s e => ?_, fun j k s s' a q1 q2 o1 o2 z1 z2 => ?_, fun a s hb e o => ?_⟩
  · rcases restE_get e with ⟨hj, e⟩ | ⟨hj, e⟩
    · subst e
      cases q : e1[j]? with
      | none => trivial
      | some s =>
        cases s with
        | sh d =>
          obtain ⟨v, ev, p⟩ := r1.sl j _ q
          exact ⟨v, ev, dp_mono hG _ _ p⟩
        | _ => trivial
    · rw [← at_ j hj]
      exact r.sl j s e
  · rcases restE_get q1 with ⟨hj, q1⟩ | ⟨hj, q1⟩
    · exact (ks _ _ q1 o1).elim
    · rcases restE_get q2 with ⟨hk, q2⟩ | ⟨hk, q2⟩
      · exact (ks _ _ q2 o2).elim
      · rw [← at_ j hj] at z1
        rw [← at_ k hk] at z2
        exact r.ap j k s s' a q1 q2 o1 o2 z1 z2
  · rcases restE_get e with ⟨hj, e⟩ | ⟨hj, e⟩
    · exact (ks _ _ e o).elim
    · rw [← at_ 0 hj]
      exact r.b0 a s hb e o
theorem owns_rest {a : Addr} {vs : List Nat} (hw : L2.wipe σ2 vs = L2.wipe σ vs) (h : Owns (restE e1 env vs) σ a) : Owns env σ2 a := by
  obtain ⟨j, s, q1, o, q2⟩ := h
  rcases restE_get q1 with ⟨hj, q1⟩ | ⟨hj, q1⟩
  · subst q1
    unfold keepSh at o
    split at o <;> cases o
  · refine ⟨j, s, q1, o, ?_⟩
    rw [← wipe_get (σ := σ2) hj, hw, wipe_get hj]
    exact q2
end
/-- [elt for target in iter if ..]: Inv of the turn, what is made so far, what is known behind the turn -/
def wComp (wi : WI) (g : WG) (tt : WT) (te : WE) (vs : List Nat) : WF := fun env R => wi env fun ds e1 => ∃ Inv : Nat → List Dt → En → Prop, Inv 0 [] e1 ∧
  (∀ i d acc e, ds[i]? = some d → Inv i acc e → g d (wipeE e vs) fun e2 => tt e2 fun b e3 => if b = true then te e3 fun y e4 => acc.length < sizeLine ∧ Inv (i + 1) (acc ++ [y]) (restE e1 e4 vs) else Inv (i + 1) acc (restE e1 e3 vs)) ∧
  ∀ acc e, Inv ds.length acc e → R acc e
def wYes : WT := fun env R => R true env
theorem sim_comp {K : PySem.W.Frag} {ti : TI} {tg : TG} {tc : TT} {te : TE} {vs ts : List Nat} {wi : WI} {g : WG} {tt : WT} {we : WE} (hi : SimI K ti wi) (hg : SimG K tg ts g) (hts : ∀ j ∈ ts, j ∈ vs) (ht : SimT K tc tt) (he : SimE K te we) :
    SimF K (tLc ti tg tc te vs) (wComp wi g tt we vs) := by
  intro C G H σ env R Q rp hw k
  refine hi C G H σ env _ _ rp hw fun ds e1 J G1 H1 s1 it h1 => ?_
  obtain ⟨Inv, i0, turn, fin⟩ := h1
  intro D hD
  obtain ⟨Gd, Y, wk, st, yl⟩ := it
  have gD : G1 D = none := none_back s1.rep.gh hD
  have s2 : Stp K C σ e1 G1 H1 e1 G1 (upd H1 D (.lst [])) := Stp.grow s1.rep (Grow.newH s1.rep.gh hD)
  have c0 : C.H0 D = none := s1.rep.fresh0 hD
  have bD : C.bor ≠ some D := fun q => s1.rep.bh D q hD
  refine lc_it wk (fun i H' => ∃ e G' acc vacc, Stp K C σ e1 G1 H1 e G' H' ∧ H' D = some (.lst vacc) ∧ G' D = none ∧ DpAll K G' vacc acc ∧ Inv i acc e)
    ⟨e1, G1, [], [], s2, upd_same, gD, .nil, i0⟩ (fun i H' hi ⟨e, G', acc, vacc, s, _, _, _, _⟩ => st G' H' s.gx s.rep.gh) (fun i x H' H'' hi ⟨e, G', acc, vacc, s, hDv, hGD, dv, inv⟩ y => ?_)
    (fun H' ⟨e, G', acc, vacc, s, hDv, hGD, dv, inv⟩ => ?_)
  · obtain ⟨d, G2, ed, gr, dx⟩ := yl i x G' H' H'' hi s.gx s.rep.gh y
    have nO : ∀ {ee : En} {σσ : L2.St}, (∀ a, Owns ee σσ a → Owns e1 σ a) → ¬ Owns ee σσ D := fun f o => s1.rep.newOwn hD (f D o)
    have rW : Rep K C G2 H'' (L2.wipe σ vs) (wipeE e vs) := (s.rep.grow gr).wipe vs
    have D2 : H'' D = some (.lst vacc) := gr.2.1 _ _ hDv
    have GD2 : G2 D = none := gr.2.2.2 D (by rw [hDv]; exact Option.some_ne_none _) hGD
    refine hg C G2 H'' (L2.wipe σ vs) (wipeE e vs) x d _ _ rW dx (turn i d acc e ed inv) fun σ2 e2 r2 l2 k2 o2 q2 => ?_
    have hw2 : L2.wipe σ2 vs = L2.wipe σ vs := by
      have len : σ2.length = σ.length := by rw [l2, L2.wipe_length]
      refine List.ext_getElem? fun j => ?_
      by_cases hj : j ∈ vs
      · rw [wipe_in hj, wipe_in hj, len]
      · rw [wipe_get hj, wipe_get hj, k2 j (fun q => hj (hts j q)), wipe_get hj]
    refine ⟨hw2, ?_⟩
    have oo : ∀ a, Owns e2 σ2 a → Owns e1 σ a := fun a o => s.ow a (owns_wipe (o2 a o))
    refine ht C G2 H'' σ2 e2 _ _ r2 q2 fun b e3 G3 H3 s3 q3 => ?_
    cases b with
    | true =>
      refine iteT (he C G3 H3 σ2 e3 _ _ s3.rep q3 fun yd e4 yv G4 H4 s4 py q4 => ?_)
      have s5 := s3.trans s4
      obtain ⟨D4, g4⟩ := s5.kp D _ D2 (nO oo)
      have rR := s4.rep.rest s1.rep hw2 (((s.gx.trans gr.1).trans s3.gx).trans s4.gx)
      have dv4 : DpAll K G4 vacc acc := dpAll_mono ((gr.1.trans s3.gx).trans s4.gx) _ _ dv
      have oR : ∀ a, Owns (restE e1 e4 vs) σ a → Owns e1 σ a := fun a o => oo a (s5.ow a (owns_rest hw2 o))
      refine ⟨vacc, D4, by rw [DpAll.len dv]; exact q4.1, restE e1 e4 vs, G4, acc ++ [yd], vacc ++ [yv], ⟨?_, ((s.gx.trans gr.1).trans s3.gx).trans s4.gx, fun a o ha hn => ?_, oR, fun a ha => ?_⟩, upd_same, g4 GD2, (DpAll.append (.cons py .nil) dv4), q4.2⟩
      · exact rR.updFree (g4 GD2) c0 (fun o => s1.rep.newOwn hD (oR D o))
      · have hne : a ≠ D := ne_of_none ha hD
        obtain ⟨x1, x2⟩ := s.kp a o ha hn
        have x3 := gr.2.1 _ _ x1
        obtain ⟨x4, x5⟩ := s5.kp a o x3 (fun q => hn (oo a q))
        exact ⟨by rw [upd_ne hne]; exact x4, fun z => x5 (gr.2.2.2 a (by rw [x1]; exact Option.some_ne_none _) (x2 z))⟩
      · by_cases hne : a = D
        · rw [hne, upd_same]
          exact Option.some_ne_none _
        · rw [upd_ne hne]
          exact s5.al a (Same.ne gr.2.1 (s.al a ha))
    | false =>
      refine iteF ?_
      obtain ⟨D4, g4⟩ := s3.kp D _ D2 (nO oo)
      have rR := s3.rep.rest s1.rep hw2 ((s.gx.trans gr.1).trans s3.gx)
      refine ⟨restE e1 e3 vs, G3, acc, vacc, ⟨rR, (s.gx.trans gr.1).trans s3.gx, fun a o ha hn => ?_, fun a o => oo a (s3.ow a (owns_rest hw2 o)), fun a ha => s3.al a (Same.ne gr.2.1 (s.al a ha))⟩, D4, g4 GD2, dpAll_mono (gr.1.trans s3.gx) _ _ dv, q3⟩
      obtain ⟨x1, x2⟩ := s.kp a o ha hn
      have x3 := gr.2.1 _ _ x1
      obtain ⟨x4, x5⟩ := s3.kp a o x3 (fun q => hn (oo a q))
      exact ⟨x4, fun z => x5 (gr.2.2.2 a (by rw [x1]; exact Option.some_ne_none _) (x2 z))⟩
  · exact k acc e D G' H' (s1.trans s) (none_al s1 hD) ⟨hGD, vacc, hDv, dv⟩ (fin acc e inv)

section
variable {X : Cx} {e elt tg iter : Expr} {es ifs : List Expr} {p pos : Pos} {te : TE} {we : WE} {tl : TA} {wl : WA} {tc : TT} {wt : WT} {ti : TI} {wi : WI} {g : TG} {ts : List Nat} {wg : WG} {x : Str}
structure DTs (X : Cx) (ifs : List Expr) (t : TT) (w : WT) : Prop where
  pe : PTs X ifs t
  sim : SimT X.K t w
theorem dts_nil : DTs X [] tYes wYes := ⟨pts_nil, fun C G H σ env R Q rp hw k => k true env G H (Stp.refl rp) hw⟩
theorem dts_one (h : DT X e tc wt) : DTs X [e] tc wt := ⟨pts_one h.pe, h.sim⟩
def canE (K : PySem.W.Frag) (w : WE) : TE := fun σ H Q => ∃ (C : Base) (G : Hp) (env : En) (R : Dt → En → Prop), Rep K C G H σ env ∧ w env R ∧ ∀ d env' v G' H', Stp K C σ env G H env' G' H' → Dp K G' v d → R d env' → Q v H'
def canT (K : PySem.W.Frag) (w : WT) : TT := fun σ H Q => ∃ (C : Base) (G : Hp) (env : En) (R : Bool → En → Prop), Rep K C G H σ env ∧ w env R ∧ ∀ b env' G' H', Stp K C σ env G H env' G' H' → R b env' → Q b H'
def canG (K : PySem.W.Frag) (ts : List Nat) (w : WG) : TG := fun v σ H Q => ∃ (C : Base) (G : Hp) (env : En) (d : Dt) (R : En → Prop), Rep K C G H σ env ∧ Dp K G v d ∧ w d env R ∧
  ∀ σ' env', Rep K C G H σ' env' → σ'.length = σ.length → (∀ (j : Nat), j ∉ ts → σ'[j]? = σ[j]?) → (∀ a, Owns env' σ' a → Owns env σ a) → R env' → Q σ' H
theorem pe_can (h : ∃ te, DE X e te we) : PE X e (canE X.K we) := by
  obtain ⟨t, p, s⟩ := h
  exact ⟨fun pins s0 σ H Q I ⟨C, G, env, R, rp, hw, k⟩ => p.run pins s0 σ H Q I (s C G H σ env R Q rp hw k)⟩
theorem pts_can (h : ∃ tc, DTs X ifs tc wt) : PTs X ifs (canT X.K wt) := by
  obtain ⟨t, p, s⟩ := h
  exact ⟨fun pins s0 σ H Q I ⟨C, G, env, R, rp, hw, k⟩ => p.run pins s0 σ H Q I (s C G H σ env R Q rp hw k)⟩
theorem pg_can (h : ∃ g, DG X e g ts wg) : PG X e (canG X.K ts wg) := by
  obtain ⟨t, p, s⟩ := h
  exact ⟨fun pins s0 σ H v u Q I r ⟨C, G, env, d, R, rp, dv, hw, k⟩ => p.run pins s0 σ H v u Q I r (s C G H σ env v d R Q rp dv hw k)⟩
theorem df_comp {scope : Scope} {own : List (Str × Nat)} (hc : X.calm = true) (hN : X.N.Nodup) (hi : DI X tg iter ti wi) (ok : BlkOk X.N X.env.scope scope own)
    (hg : ∀ (s : Shared) (H : Hp) (C : Addr) (cl : List (Str × Addr)) (fp : List Addr), ∃ g, DG (X.blk s H scope (compEnvC scope cl C X.env) fp) tg g ts wg)
    (ht : ∀ (s : Shared) (H : Hp) (C : Addr) (cl : List (Str × Addr)) (fp : List Addr), ∃ tc, DTs (X.blk s H scope (compEnvC scope cl C X.env) fp) ifs tc wt)
    (he : ∀ (s : Shared) (H : Hp) (C : Addr) (cl : List (Str × Addr)) (fp : List Addr), ∃ te, DE (X.blk s H scope (compEnvC scope cl C X.env) fp) elt te we)
    (hts : ∀ j ∈ ts, j ∈ own.map (·.2) := by decide) (hs : ∀ x, foldedSetIterable iter X.env x = pure x := by intro _; rfl) :
    DF X (.ListComp elt [⟨tg, iter, ifs, 0⟩] scope pos) (tLc ti (canG X.K ts wg) (canT X.K wt) (canE X.K we) (own.map (·.2))) (wComp wi wg wt we (own.map (·.2))) :=
  ⟨pe_lc hc hN hi.pe ok (fun s H C cl fp => pg_can (hg s H C cl fp)) (fun s H C cl fp => pts_can (ht s H C cl fp)) (fun s H C cl fp => pe_can (he s H C cl fp)) hs,
    sim_comp hi.sim (fun C G H σ env v d R Q rp dv hw k => ⟨C, G, env, d, R, rp, dv, hw, k⟩) hts (fun C G H σ env R Q rp hw k => ⟨C, G, env, R, rp, hw, k⟩) (fun C G H σ env R Q rp hw k => ⟨C, G, env, R, rp, hw, k⟩)⟩
end

/-! ### calls of defs -/
def GrowB (l : Addr) (G H G' H' : Hp) : Prop := Same G G' ∧ (∀ a o, a ≠ l → H a = some o → H' a = some o) ∧ Same G' H' ∧ ∀ a, H a ≠ none → G a = none → G' a = none
def HndAt (K : PySem.W.Frag) (G H : Hp) (l : Addr) : Prop := ∃ ds, HandI ds ∧ LstAt K G H l ds
/-- a promise told of data: args the arguments, pre what they must be, post what comes back -/
def spR (K : PySem.W.Frag) {T : Type} (args : T → List Dt) (pre : T → Prop) (post : T → Dt → Prop) : Sp := fun vs H Q _ => ∃ (G : Hp) (x : T), Same G H ∧ DpAll K G vs (args x) ∧ pre x ∧
  ∀ d v G' H', post x d → Grow G H G' H' → Dp K G' v d → Q v H'
/-- the same, a new list comes back -/
def spF (K : PySem.W.Frag) {T : Type} (args : T → List Dt) (pre : T → Prop) (post : T → List Dt → Prop) : Sp := fun vs H Q _ => ∃ (G : Hp) (x : T), Same G H ∧ DpAll K G vs (args x) ∧ pre x ∧
  ∀ ds l G' H', post x ds → Grow G H G' H' → H l = none → LstAt K G' H' l ds → Q (.ref l) H'
/-- the hand goes in ahead -/
def spH (K : PySem.W.Frag) {T : Type} (args : T → List Dt) (pre : T → Prop) (post : T → Dt → Prop) : Sp := fun vs H Q _ => ∃ (G : Hp) (l : Addr) (vs' : List V) (x : T), vs = .ref l :: vs' ∧ Same G H ∧ HndAt K G H l ∧ DpAll K G vs' (args x) ∧ pre x ∧
  ∀ d v G' H', post x d → GrowB l G H G' H' → HndAt K G' H' l → Dp K G' v d → Q v H'
section
variable {T : Type} {args : T → List Dt} {pre : T → Prop} {post : T → Dt → Prop} {postF : T → List Dt → Prop}
def wCall (args : T → List Dt) (pre : T → Prop) (post : T → Dt → Prop) (wl : WA) : WE := fun env R => wl env fun ds e => ∃ x, ds = args x ∧ pre x ∧ ∀ d, post x d → R d e
def wCallF (args : T → List Dt) (pre : T → Prop) (post : T → List Dt → Prop) (wl : WA) : WF := fun env R => wl env fun ds e => ∃ x, ds = args x ∧ pre x ∧ ∀ d, post x d → R d e
def isHnd (env : En) (j : Nat) : Prop := match env[j]? with
  | some .hnd => True
  | _ => False
def wCallH (j : Nat) (args : T → List Dt) (pre : T → Prop) (post : T → Dt → Prop) (wl : WA) : WE := fun env R => isHnd env j ∧ wl env fun ds e => isHnd e j ∧ ∃ x, ds = args x ∧ pre x ∧ ∀ d, post x d → R d e
theorem isHnd_get {env : En} {j : Nat} (h : isHnd env j) : env[j]? = some .hnd := by
  unfold isHnd at h
  cases e : env[j]? with
  | none => rw [e] at h; exact h.elim
  | some s =>
    rw [e] at h
    cases s <;> first | exact h.elim | rfl
variable {X : Cx} {CX : CXT} {k : Nat} {f : Addr} {fd : FuncData} {ps : List Str} {E : XK} {x y : Str} {p p2 pos : Pos} {e : Expr} {es : List Expr} {tl : TA} {wl : WA}
theorem de_call (F : FnOk X.prog X.w X.K X.mg X.base CX k f fd ps (spR X.K args pre post)) (hr : Room k X.A) (hg : Gl X x) (hm : X.mg x = some (.ref f)) (hk : PySem.W.keepIn X.K (.ref f) = true) (hb : Binds X.K fd ps []) (hx : Passes CX X E) (ha : DA X (e :: es) tl wl)
    (hdb : (x == ("__debug__" : Str)) = false := by decide) (he : starEach (e :: es) X.env = (false, eval e X.env) :: starEach es X.env := by rfl) (hpl : (backTo pos (starEach es X.env)).any (·.1) = false := by rfl) :
    DE X (.Call (.Name x p) (e :: es) [] pos) (tCall (spR X.K args pre post) [] E tl) (wCall args pre post wl) := by
  refine ⟨pe_call F hr hg hm hk hb .nil hx ha.pe hdb he hpl, fun C G H σ env R Q rp hw k => ha.sim C G H σ env _ _ rp hw fun ds e1 vs G1 H1 s1 p1 h1 => ?_⟩
  obtain ⟨z, rfl, pr, q⟩ := h1
  rw [List.append_nil]
  exact ⟨G1, z, s1.rep.gh, p1, pr, fun d v G' H' po gr dv => k d e1 v G' H' (s1.then_grow gr) dv (q d po)⟩
theorem de_call0 (F : FnOk X.prog X.w X.K X.mg X.base CX k f fd ps (spR X.K args pre post)) (hr : Room k X.A) (hg : Gl X x) (hm : X.mg x = some (.ref f)) (hk : PySem.W.keepIn X.K (.ref f) = true) (hb : Binds X.K fd ps []) (hx : Passes CX X E)
    (hdb : (x == ("__debug__" : Str)) = false := by decide) : DE X (.Call (.Name x p) [] [] pos) (tCall (spR X.K args pre post) [] E tNil) (wCall args pre post wANil) := by
  refine ⟨pe_call0 F hr hg hm hk hb .nil hx hdb, fun C G H σ env R Q rp h1 k => ?_⟩
  obtain ⟨z, e, pr, q⟩ := h1
  refine ⟨G, z, rp.gh, ?_, pr, fun d v G' H' po gr dv => k d env v G' H' (Stp.grow rp gr) dv (q d po)⟩
  rw [← e]
  exact .nil
theorem df_call (F : FnOk X.prog X.w X.K X.mg X.base CX k f fd ps (spF X.K args pre postF)) (hr : Room k X.A) (hg : Gl X x) (hm : X.mg x = some (.ref f)) (hk : PySem.W.keepIn X.K (.ref f) = true) (hb : Binds X.K fd ps []) (hx : Passes CX X E) (ha : DA X (e :: es) tl wl)
    (hdb : (x == ("__debug__" : Str)) = false := by decide) (he : starEach (e :: es) X.env = (false, eval e X.env) :: starEach es X.env := by rfl) (hpl : (backTo pos (starEach es X.env)).any (·.1) = false := by rfl) :
    DF X (.Call (.Name x p) (e :: es) [] pos) (tCall (spF X.K args pre postF) [] E tl) (wCallF args pre postF wl) := by
  refine ⟨pe_call F hr hg hm hk hb .nil hx ha.pe hdb he hpl, fun C G H σ env R Q rp hw k => ha.sim C G H σ env _ _ rp hw fun ds e1 vs G1 H1 s1 p1 h1 => ?_⟩
  obtain ⟨z, rfl, pr, q⟩ := h1
  rw [List.append_nil]
  exact ⟨G1, z, s1.rep.gh, p1, pr, fun d l G' H' po gr hl lv => k d e1 l G' H' (s1.then_grow gr) (none_al s1 hl) lv (q d po)⟩
/-- the hand's list changes, all else stays -/
theorem Rep.growB {K : PySem.W.Frag} {C : Base} {G H G' H' : Hp} {σ : L2.St} {env : En} (r : Rep K C G H σ env) {l : Addr} {j : Nat} (hj : env[j]? = some .hnd) (hσ : σ[j]? = some (some (.ref l))) (g : GrowB l G H G' H') (hl : HndAt K G' H' l) :
    Stp K C σ env G H env G' H' := by
  obtain ⟨b, eb, cb, ds0, _, gl, vs0, hl0, _⟩ := r.sl j _ hj
  rw [hσ] at eb
  cases eb
  obtain ⟨ds, hI, gl', vs, hv, dv⟩ := hl
  have all : ∀ a, H a ≠ none → H' a ≠ none := fun a ha => by
    by_cases q : a = l
    · rw [q, hv]
      exact Option.some_ne_none _
    · cases e : H a with
      | none => exact absurd e ha
      | some o =>
        rw [g.2.1 a o q e]
        exact Option.some_ne_none _
  refine ⟨⟨r.len, r.gg.trans g.1, g.2.2.1, fun a o hb e => ?_, fun a hb => all a (r.bh a hb), fun a h0 g0 => g.2.2.2 a (r.there h0) (r.nw a h0 g0), fun i s e => ?_, r.ap, r.b0⟩, g.1, fun a o ha hn => ?_, fun _ o => o, all⟩
  · have hne : a ≠ l := fun q => by
      subst q
      rcases cb with z | z
      · rw [z] at e; cases e
      · exact hb z
    exact g.2.1 a o hne (r.hh a o hb e)
  · have z := r.sl i s e
    have stay : ∀ (b : Addr) (ds' : List Dt), isOwn s = true → i ≠ j → σ[i]? = some (some (V.ref b)) → LstAt K G H b ds' → LstAt K G' H' b ds' := fun b ds' os hij eb q => by
      have hb : b ≠ l := fun q => by
        subst q
        exact hij (r.ap i j s _ b e hj os rfl eb hσ)
      obtain ⟨z1, vs', z3, z4⟩ := q
      exact ⟨g.2.2.2 b (by rw [z3]; exact Option.some_ne_none _) z1, vs', g.2.1 b _ hb z3, dpAll_mono g.1 _ _ z4⟩
    cases s with
    | no => trivial
    | sh d =>
      obtain ⟨v, e1, p⟩ := z
      exact ⟨v, e1, dp_mono g.1 _ _ p⟩
    | own ds' =>
      obtain ⟨b, e1, z1, z2⟩ := z
      exact ⟨b, e1, z1, stay b ds' rfl (fun q => by subst q; rw [hj] at e; cases e) e1 z2⟩
    | bow ds' =>
      obtain ⟨b, e1, z1, z2⟩ := z
      exact ⟨b, e1, z1, stay b ds' rfl (fun q => by subst q; rw [hj] at e; cases e) e1 z2⟩
    | hnd =>
      obtain ⟨b, e1, z1, ds', z2, z3⟩ := z
      by_cases q : i = j
      · subst q
        rw [hσ] at e1
        cases e1
        exact ⟨l, hσ, z1, ds, hI, gl', vs, hv, dv⟩
      · exact ⟨b, e1, z1, ds', z2, stay b ds' rfl q e1 z3⟩
  · have hne : a ≠ l := fun q => hn ⟨j, _, hj, rfl, by rw [q]; exact hσ⟩
    exact ⟨g.2.1 a o hne ha, fun z => g.2.2.2 a (by rw [ha]; exact Option.some_ne_none _) z⟩
theorem de_callH (j : Nat) (F : FnOk X.prog X.w X.K X.mg X.base CX k f fd ps (spH X.K args pre post)) (hr : Room k X.A) (hg : Gl X x) (hm : X.mg x = some (.ref f)) (hk : PySem.W.keepIn X.K (.ref f) = true) (hb : Binds X.K fd ps []) (hx : Passes CX X E) (ha : DA X es tl wl)
    (hN : X.N[j]? = some y := by rfl) (hv : Vis X.env.scope y := by first | exact Or.inl rfl | exact Or.inr (Or.inl rfl) | exact Or.inr (Or.inr rfl)) (hd : (y == ("__debug__" : Str)) = false := by decide) (hcd : (y == ("__classdict__" : Str)) = false := by decide)
    (hdb : (x == ("__debug__" : Str)) = false := by decide) (he : starEach (.Name y p2 :: es) X.env = (false, eval (.Name y p2) X.env) :: starEach es X.env := by rfl) (hpl : (backTo pos (starEach es X.env)).any (·.1) = false := by rfl) :
    DE X (.Call (.Name x p) (.Name y p2 :: es) [] pos) (tCall (spH X.K args pre post) [] E (tCons (tVar j) tl)) (wCallH j args pre post wl) := by
  refine ⟨pe_call F hr hg hm hk hb .nil hx (pa_cons (pv j hN hv hd hcd) ha.pe he) hdb he hpl, fun C G H σ env R Q rp hw k => ?_⟩
  obtain ⟨h0, hw⟩ := hw
  obtain ⟨l, el, _⟩ := rp.sl j _ (isHnd_get h0)
  refine ⟨_, el, ha.sim C G H σ env _ _ rp hw fun ds e1 vs G1 H1 s1 p1 h1 => ?_⟩
  obtain ⟨h1, z, rfl, pr, q⟩ := h1
  have hj := isHnd_get h1
  obtain ⟨l', el', _, hs, hI, la⟩ := s1.rep.sl j _ hj
  rw [el] at el'
  cases el'
  rw [List.append_nil]
  exact ⟨G1, l, vs, z, rfl, s1.rep.gh, ⟨hs, hI, la⟩, p1, pr, fun d v G' H' po gr hl dv => k d e1 v G' H' (s1.trans (s1.rep.growB hj el gr hl)) dv (q d po)⟩
end

/-! ### statements -/
structure WEnds where
  nx : En → Prop
  rt : Dt → En → Prop
  rf : List Dt → En → Prop
  bk : En → Prop := fun _ => False
  ct : En → Prop := fun _ => False
abbrev WS := WEnds → En → Prop
structure EndsOk (K : PySem.W.Frag) (C : Base) (G : Hp) (E : WEnds) (D : Ends) : Prop where
  nx : ∀ σ env G' H', Rep K C G' H' σ env → Same G G' → E.nx env → D.nx σ H'
  rt : ∀ σ env d v G' H', Rep K C G' H' σ env → Same G G' → Dp K G' v d → E.rt d env → D.rt v H'
  rf : ∀ σ env ds l G' H', Rep K C G' H' σ env → Same G G' → C.H0 l = none → LstAt K G' H' l ds → E.rf ds env → D.rt (.ref l) H'
  bk : ∀ σ env G' H', Rep K C G' H' σ env → Same G G' → E.bk env → D.bk σ H'
  ct : ∀ σ env G' H', Rep K C G' H' σ env → Same G G' → E.ct env → D.ct σ H'
theorem EndsOk.mono {K : PySem.W.Frag} {C : Base} {G G1 : Hp} {E : WEnds} {D : Ends} (h : EndsOk K C G E D) (s : Same G G1) : EndsOk K C G1 E D :=
  ⟨fun σ env G' H' r q => h.nx σ env G' H' r (s.trans q), fun σ env d v G' H' r q => h.rt σ env d v G' H' r (s.trans q), fun σ env d v G' H' r q => h.rf σ env d v G' H' r (s.trans q), fun σ env G' H' r q => h.bk σ env G' H' r (s.trans q), fun σ env G' H' r q => h.ct σ env G' H' r (s.trans q)⟩
def SimS (K : PySem.W.Frag) (t : TS) (w : WS) : Prop := ∀ (C : Base) (G H : Hp) (σ : L2.St) (env : En) (E : WEnds) (D : Ends), Rep K C G H σ env → w E env → EndsOk K C G E D → t D σ H
structure DS (X : Cx) (st : Stmt) (t : TS) (w : WS) : Prop where
  pe : PS X st t
  sim : SimS X.K t w
structure DSs (X : Cx) (st : List Stmt) (t : TS) (w : WS) : Prop where
  pe : PSs X st t
  sim : SimS X.K t w
section
variable {X : Cx} {K : PySem.W.Frag} {e a b c tg iter : Expr} {es : List Expr} {st : Stmt} {sts : List Stmt} {p pos pos' : Pos} {t u : TS} {w wu : WS} {te ta tb : TE} {we wa wb : WE} {wf : WF} {tl : TA} {wl : WA} {tc : TT} {wt : WT} {ti : TI} {wi : WI} {g : TG} {ts : List Nat} {wg : WG} {x y : Str}
def wNext : WS := fun E env => E.nx env
def wSeq (w u : WS) : WS := fun E env => w { E with nx := u E } env
theorem dss_nil : DSs X [] tNext wNext := ⟨pss_nil, fun C G H σ env E D r h k => k.nx σ env G H r (Same.refl _) h⟩
theorem dss_cons (h1 : DS X st t w) (h2 : DSs X sts u wu) : DSs X (st :: sts) (tSeq t u) (wSeq w wu) :=
  ⟨pss_cons h1.pe h2.pe, fun C G H σ env E D r h k => h1.sim C G H σ env _ _ r h ⟨fun σ' e' G' H' r' s q => h2.sim C G' H' σ' e' E D r' q (k.mono s), k.rt, k.rf, k.bk, k.ct⟩⟩
theorem dss_one (h1 : DS X st t w) : DSs X [st] t w := ⟨pss_one h1.pe, h1.sim⟩
theorem ds_pass : DS X (.Pass pos) tNext wNext := ⟨ps_pass, fun C G H σ env E D r h k => k.nx σ env G H r (Same.refl _) h⟩
def wBreak : WS := fun E env => E.bk env
def wCont : WS := fun E env => E.ct env
theorem ds_break : DS X (.Break pos) tBreak wBreak := ⟨ps_break, fun C G H σ env E D r h k => k.bk σ env G H r (Same.refl _) h⟩
theorem ds_continue : DS X (.Continue pos) tCont wCont := ⟨ps_continue, fun C G H σ env E D r h k => k.ct σ env G H r (Same.refl _) h⟩
theorem ds_doc {x j pos pos'} : DS X (.Expr (.Constant (.str x) j pos) pos') tNext wNext := ⟨ps_doc, fun C G H σ env E D r h k => k.nx σ env G H r (Same.refl _) h⟩
def wNever : WS := fun _ _ => False
theorem ds_never : DS X st tNever wNever := ⟨ps_never, fun _ _ _ _ _ _ _ _ h _ => h.elim⟩
/-- what is known of slots is forgotten (no statement of the text) -/
def wForget (is : List Nat) (w : WS) : WS := fun E env => w E (is.foldl (fun e i => e.set i .no) env)
/-! an expression as a statement; return -/
def wExpr (w : WE) : WS := fun E env => w env fun _ e => E.nx e
theorem ds_expr (h : DE X e te we) (hs : swapsWith e none pos.line X.env = pure false := by rfl) : DS X (.Expr e pos) (tDrop te) (wExpr we) :=
  ⟨ps_expr h.pe hs, fun C G H σ env E D r hw k => h.sim C G H σ env _ _ r hw fun d e1 v G1 H1 s1 p1 h1 => k.nx σ e1 G1 H1 s1.rep s1.gx h1⟩
def wRet (w : WE) : WS := fun E env => w env fun d e => E.rt d e
theorem ds_ret (h : DE X e te we) : DS X (.Return (some e) pos) (tRet te) (wRet we) :=
  ⟨ps_ret h.pe, fun C G H σ env E D r hw k => h.sim C G H σ env _ _ r hw fun d e1 v G1 H1 s1 p1 h1 => k.rt σ e1 d v G1 H1 s1.rep s1.gx p1 h1⟩
def wRetF (w : WF) : WS := fun E env => w env fun d e => E.rf d e
theorem ds_retF (h : DF X e te wf) : DS X (.Return (some e) pos) (tRet te) (wRetF wf) :=
  ⟨ps_ret h.pe, fun C G H σ env E D r hw k => h.sim C G H σ env _ _ r hw fun d e1 l G1 H1 s1 hl l1 h1 => k.rf σ e1 d l G1 H1 s1.rep s1.gx (r.fresh0 hl) l1 h1⟩
/-- return of a name: a list of one's own goes out as a new one -/
def wRetV (i : Nat) : WS := fun E env => match env[i]? with
  | some (.sh d) => E.rt d env
  | some (.own ds) => E.rf ds (env.set i .no)
  | _ => False
theorem ds_retV (i : Nat) (hN : X.N[i]? = some x := by rfl) (hv : Vis X.env.scope x := by first | exact Or.inl rfl | exact Or.inr (Or.inl rfl) | exact Or.inr (Or.inr rfl)) (hd : (x == ("__debug__" : Str)) = false := by decide)
    (hcd : (x == ("__classdict__" : Str)) = false := by decide) : DS X (.Return (some (.Name x pos')) pos) (tRet (tVar i)) (wRetV i) :=
  ⟨ps_ret (pv i hN hv hd hcd), fun C G H σ env E D r h k => by
    unfold wRetV at h
    cases e : env[i]? with
    | none => rw [e] at h; exact h.elim
    | some s =>
      rw [e] at h
      cases s with
      | sh d =>
        obtain ⟨v, ev, p⟩ := r.sl i _ e
        exact ⟨v, ev, k.rt σ env d v G H r (Same.refl _) p h⟩
      | own ds =>
        obtain ⟨l, el, c0, la⟩ := r.sl i _ e
        exact ⟨_, el, k.rf σ _ ds l G H (r.forget i) (Same.refl _) c0 la h⟩
      | _ => exact h.elim⟩
def wRetN : WS := fun E env => E.rt .none env
theorem ds_retN : DS X (.Return none pos) tRetN wRetN := ⟨ps_retN, fun C G H σ env E D r h k => k.rt σ env _ _ G H r (Same.refl _) .non h⟩
/-! if -/
def wIf (c : WT) (w u : WS) : WS := fun E env => c env fun b e => if b = true then w E e else u E e
theorem ds_if {p q : List Stmt} (hc : DT X c tc wt) (h1 : DSs X p t w) (h2 : DSs X q u wu) : DS X (.If c p q pos) (tIfS tc t u) (wIf wt w wu) :=
  ⟨ps_if hc.pe h1.pe h2.pe, fun C G H σ env E D r hw k => hc.sim C G H σ env _ _ r hw fun b e1 G1 H1 s1 q => by
    cases b with
    | true => exact iteT (h1.sim C G1 H1 σ e1 E D s1.rep q (k.mono s1.gx))
    | false => exact iteF (h2.sim C G1 H1 σ e1 E D s1.rep q (k.mono s1.gx))⟩
/-! assignments -/
def wSet (i : Nat) (w : WE) : WS := fun E env => w env fun d e => E.nx (e.set i (.sh d))
theorem ds_set (i : Nat) (h : DE X e te we) (hN : X.N.Nodup) (hi : X.N[i]? = some x := by rfl) (hx : Loc X.env.scope x := by first | exact Or.inl rfl | exact Or.inr rfl) (hs : swapsWith e (some (.Name x pos')) pos.line X.env = pure false := by rfl)
    (hf : X.fn x = true ∨ X.env.scope.names.lookup x = some .local := by first | exact .inl rfl | exact .inr rfl) : DS X (.Assign [.Name x pos'] e pos) (tAsg te (gName i)) (wSet i we) :=
  ⟨ps_set hN hi hx h.pe hs hf, fun C G H σ env E D r hw k => h.sim C G H σ env _ _ r hw fun d e1 v G1 H1 s1 p1 h1 => k.nx _ _ G1 H1 (s1.rep.setSh p1) s1.gx h1⟩
def wSetF (i : Nat) (w : WF) : WS := fun E env => w env fun ds e => E.nx (e.set i (.own ds))
theorem sim_setF {i : Nat} (h0 : 0 < i) (h : SimF K te wf) : SimS K (tAsg te (gName i)) (wSetF i wf) := fun C G H σ env E D r hw k => h C G H σ env _ _ r hw fun ds e1 l G1 H1 s1 hl l1 h1 =>
  k.nx _ _ G1 H1 (s1.rep.setOwn h0 (r.fresh0 hl) l1 (fun o => r.newOwn hl (s1.ow l o))) s1.gx h1
theorem ds_setF (i : Nat) (h : DF X e te wf) (hN : X.N.Nodup) (h0 : 0 < i := by decide) (hi : X.N[i]? = some x := by rfl) (hx : Loc X.env.scope x := by first | exact Or.inl rfl | exact Or.inr rfl) (hs : swapsWith e (some (.Name x pos')) pos.line X.env = pure false := by rfl)
    (hf : X.fn x = true ∨ X.env.scope.names.lookup x = some .local := by first | exact .inl rfl | exact .inr rfl) : DS X (.Assign [.Name x pos'] e pos) (tAsg te (gName i)) (wSetF i wf) :=
  ⟨ps_set hN hi hx h.pe hs hf, sim_setF h0 h.sim⟩
/-- name = [..] on one line, the name a local -/
theorem ds_setLc (i : Nat) {elt : Expr} {ifs : List Expr} {scope : Scope} {own : List (Str × Nat)} (hN : X.N.Nodup) (hc : X.calm = true) (hi : DI X tg iter ti wi) (ok : BlkOk X.N X.env.scope scope own)
    (hg : ∀ (s : Shared) (H : Hp) (C : Addr) (cl : List (Str × Addr)) (fp : List Addr), ∃ g, DG (X.blk s H scope (compEnvC scope cl C X.env) fp) tg g ts wg)
    (ht : ∀ (s : Shared) (H : Hp) (C : Addr) (cl : List (Str × Addr)) (fp : List Addr), ∃ tc, DTs (X.blk s H scope (compEnvC scope cl C X.env) fp) ifs tc wt)
    (he : ∀ (s : Shared) (H : Hp) (C : Addr) (cl : List (Str × Addr)) (fp : List Addr), ∃ te, DE (X.blk s H scope (compEnvC scope cl C X.env) fp) elt te we)
    (hk : X.env.scope.kind = .function := by rfl) (hl : (pos'.line == p.line) = true := by rfl) (ha : (scope.names.any fun (n, k) => n == y && (k == .local || k == .cell)) = false := by decide +kernel)
    (h0 : 0 < i := by decide) (hy : X.N[i]? = some y := by rfl) (hyl : X.env.scope.names.lookup y = some .local := by rfl) (hts : ∀ j ∈ ts, j ∈ own.map (·.2) := by decide) (hs : ∀ x, foldedSetIterable iter X.env x = pure x := by intro _; rfl) :
    DS X (.Assign [.Name y pos'] (.ListComp elt [⟨tg, iter, ifs, 0⟩] scope p) pos) (tAsg (tLc ti (canG X.K ts wg) (canT X.K wt) (canE X.K we) (own.map (·.2))) (gName i)) (wSetF i (wComp wi wg wt we (own.map (·.2)))) :=
  ⟨ps_setLc hc hN hy hyl (sw_true hk hyl hl ha) hi.pe ok (fun s H C cl fp => pg_can (hg s H C cl fp)) (fun s H C cl fp => pts_can (ht s H C cl fp)) (fun s H C cl fp => pe_can (he s H C cl fp)) hs,
    sim_setF h0 (sim_comp hi.sim (fun C G H σ env v d R Q rp dv hw k => ⟨C, G, env, d, R, rp, dv, hw, k⟩) hts (fun C G H σ env R Q rp hw k => ⟨C, G, env, R, rp, hw, k⟩) (fun C G H σ env R Q rp hw k => ⟨C, G, env, R, rp, hw, k⟩))⟩
/-- the law's hand comes -/
def wSetH (i : Nat) (w : WF) : WS := fun E env => w env fun ds e => HandI ds ∧ E.nx (e.set i .hnd)
theorem Rep.toHnd {C : Base} {G H : Hp} {σ : L2.St} {env : En} {i : Nat} {ds : List Dt} (r : Rep K C G H σ (env.set i (.own ds))) (hI : HandI ds) : Rep K C G H σ (env.set i .hnd) := by
  refine ⟨by have := r.len; rw [List.length_set] at this ⊢; exact this, r.gg, r.gh, r.hh, r.bh, r.nw, fun j s e => ?_, fun j k s s' a e1 e2 o1 o2 q1 q2 => ?_, fun a s hb e o => ?_⟩
  · by_cases hj : i = j
    · subst hj
      by_cases hl : i < env.length
      · rw [List.getElem?_set_self hl] at e
        cases e
        obtain ⟨l, el, c0, la⟩ := r.sl i (.own ds) (List.getElem?_set_self hl)
        exact ⟨l, el, .inl c0, ds, hI, la⟩
      · rw [List.getElem?_eq_none (by rw [List.length_set]; omega)] at e
        cases e
    · rw [List.getElem?_set_ne hj] at e
      exact r.sl j s (by rw [List.getElem?_set_ne hj]; exact e)
  · have f : ∀ (j : Nat) (s : Sl), (env.set i .hnd)[j]? = some s → isOwn s = true → ∃ s1, (env.set i (.own ds))[j]? = some s1 ∧ isOwn s1 = true := fun j s ej o => by
      by_cases hj : i = j
      · subst hj
        have hl : i < env.length := by
          have := (List.getElem?_eq_some_iff.mp ej).1
          rw [List.length_set] at this
          exact this
        exact ⟨_, List.getElem?_set_self hl, rfl⟩
      · rw [List.getElem?_set_ne hj] at ej ⊢
        exact ⟨s, ej, o⟩
    obtain ⟨t1, a1, b1⟩ := f j s e1 o1
    obtain ⟨t2, a2, b2⟩ := f k s' e2 o2
    exact r.ap j k t1 t2 a a1 a2 b1 b2 q1 q2
  · by_cases hj : i = 0
    · subst hj
      have hl : 0 < env.length := by
        have := (List.getElem?_eq_some_iff.mp e).1
        rw [List.length_set] at this
        exact this
      exact r.b0 a _ hb (List.getElem?_set_self hl) rfl
    · rw [List.getElem?_set_ne hj] at e
      exact r.b0 a s hb (by rw [List.getElem?_set_ne hj]; exact e) o
theorem ds_setH (i : Nat) (h : DF X e te wf) (hN : X.N.Nodup) (h0 : 0 < i := by decide) (hi : X.N[i]? = some x := by rfl) (hx : Loc X.env.scope x := by first | exact Or.inl rfl | exact Or.inr rfl) (hs : swapsWith e (some (.Name x pos')) pos.line X.env = pure false := by rfl)
    (hf : X.fn x = true ∨ X.env.scope.names.lookup x = some .local := by first | exact .inl rfl | exact .inr rfl) : DS X (.Assign [.Name x pos'] e pos) (tAsg te (gName i)) (wSetH i wf) :=
  ⟨ps_set hN hi hx h.pe hs hf, fun C G H σ env E D r hw k => h.sim C G H σ env _ _ r hw fun ds e1 l G1 H1 s1 hl l1 h1 =>
    k.nx _ _ G1 H1 ((s1.rep.setOwn h0 (r.fresh0 hl) l1 (fun o => r.newOwn hl (s1.ow l o))).toHnd h1.1) s1.gx h1.2⟩
/-- any target: a, b = e -/
def wAsg (w : WE) (g : WG) : WS := fun E env => w env fun d e => g d e E.nx
theorem ds_asg (h : DE X e te we) (hg : DG X tg g ts wg) (hs : swapsWithSole [tg] e pos.line X.env = pure false := by rfl) (hw : swappedStores [tg] e X.env = pure none := by rfl)
    (h1 : (assignEach [tg] X.env).map (·.2) = [assign tg X.env] := by rfl) : DS X (.Assign [tg] e pos) (tAsg te g) (wAsg we wg) :=
  ⟨ps_asg h.pe hg.pe hs hw h1, fun C G H σ env E D r hw k => h.sim C G H σ env _ _ r hw fun d e1 v G1 H1 s1 p1 q1 =>
    hg.sim C G1 H1 σ e1 v d _ _ s1.rep p1 q1 fun σ' e' r' _ _ _ q => k.nx σ' e' G1 H1 r' s1.gx q⟩
/-- x = e1, y = e2 with plain local names -/
def wPar (i j : Nat) (w : WA) : WS := fun E env => w env fun ds e => match ds with
  | [d, d'] => E.nx ((e.set i (.sh d)).set j (.sh d'))
  | _ => False
theorem ds_par (i j : Nat) {px py pt : Pos} {kt k2 pt2} (hN : X.N.Nodup) (hc : X.calm = true) (ha : DA X [a, b] tl wl) (hi : X.N[i]? = some x := by rfl) (hj : X.N[j]? = some y := by rfl) (hij : i ≠ j := by decide)
    (hx : X.env.scope.names.lookup x = some .local := by rfl) (hy : X.env.scope.names.lookup y = some .local := by rfl)
    (hw : swappedStores [.Tuple [.Name x px, .Name y py] kt pt] (.Tuple [a, b] k2 pt2) X.env = pure (some [x, y]) := by rfl)
    (hs : swapsWithSole [.Tuple [.Name x px, .Name y py] kt pt] (.Tuple [a, b] k2 pt2) pos.line X.env = pure false := by rfl) :
    DS X (.Assign [.Tuple [.Name x px, .Name y py] kt pt] (.Tuple [a, b] k2 pt2) pos) (tPar i j tl) (wPar i j wl) :=
  ⟨ps_par hc hN hi hj hij hx hy ha.pe hw hs, fun C G H σ env E D r hw k => ha.sim C G H σ env _ _ r hw fun ds e1 vs G1 H1 s1 p1 q1 => by
    match ds, p1, q1 with
    | [d, d'], .cons h1 (.cons h2 .nil), q1 => exact ⟨_, _, rfl, k.nx _ _ G1 H1 ((s1.rep.setSh h1).setSh h2) s1.gx q1⟩⟩
/-! loops -/
def wFor (wi : WI) (g : WG) (w : WS) : WS := fun E env => wi env fun ds e1 => ∃ Inv : Nat → En → Prop, Inv 0 e1 ∧
  (∀ i d e, ds[i]? = some d → Inv i e → g d e fun e2 => w { E with nx := Inv (i + 1), ct := Inv (i + 1), bk := E.nx } e2) ∧ ∀ e, Inv ds.length e → E.nx e
theorem ds_for (hc : X.calm = true) (hi : DI X tg iter ti wi) (hg : DG X tg g ts wg) (hb : DSs X sts t w) (hp : PassesOwn (model X.prog X.w) X.A X.env X.xe := by exact PassesOwn.never) (hs : ∀ x, foldedSetIterable iter X.env x = pure x := by intro _; rfl) : DS X (.For tg iter sts [] pos) (tFor ti g t) (wFor wi wg w) := by
  refine ⟨ps_for hp hc hi.pe hg.pe hb.pe hs, fun C G H σ env E D r hw k => hi.sim C G H σ env _ _ r hw fun ds e1 J G1 H1 s1 it h1 => ?_⟩
  obtain ⟨Inv, i0, turn, fin⟩ := h1
  obtain ⟨Gd, Y, wk, st, yl⟩ := it
  refine for_it wk (fun i σ' H' => ∃ e G', Rep X.K C G' H' σ' e ∧ Same G1 G' ∧ Inv i e) ⟨e1, G1, s1.rep, Same.refl _, i0⟩ (fun i σ' H' _ ⟨e, G', r', s, _⟩ => st G' H' s r'.gh) (fun i x σ' H' H'' hi ⟨e, G', r', s, inv⟩ y => ?_) (fun σ' H' ⟨e, G', r', s, inv⟩ => k.nx σ' e G' H' r' (s1.gx.trans s) (fin e inv))
  obtain ⟨d, G2, ed, gr, dx⟩ := yl i x G' H' H'' hi s r'.gh y
  have k2 := k.mono (s1.gx.trans (s.trans gr.1))
  refine hg.sim C G2 H'' σ' e x d _ _ (r'.grow gr) dx (turn i d e ed inv) fun σ2 e2 r2 _ _ _ q2 => ?_
  refine hb.sim C G2 H'' σ2 e2 _ _ r2 q2 ⟨fun σ3 e3 G3 H3 r3 s3 q3 => ?_, k2.rt, k2.rf, fun σ3 e3 G3 H3 r3 s3 q3 => k2.nx σ3 e3 G3 H3 r3 s3 q3, fun σ3 e3 G3 H3 r3 s3 q3 => ?_⟩
  · exact ⟨e3, G3, r3, (s.trans gr.1).trans s3, q3⟩
  · exact ⟨e3, G3, r3, (s.trans gr.1).trans s3, q3⟩
def wWhile (c : WT) (w : WS) : WS := fun E env => ∃ W : Nat → En → Prop, (∃ m, W m env) ∧ ∀ m e, W m e →
  c e fun b e1 => if b = true then w { E with nx := fun e' => ∃ m', m' < m ∧ W m' e', ct := fun e' => ∃ m', m' < m ∧ W m' e', bk := E.nx } e1 else E.nx e1
theorem ds_while (hc : DT X c tc wt) (hb : DSs X sts t w) (hp : PassesOwn (model X.prog X.w) X.A X.env X.xe := by exact PassesOwn.never) : DS X (.While c sts [] pos) (tWhile tc t) (wWhile wt w) := by
  refine ⟨ps_while hp hc.pe hb.pe, fun C G H σ env E D r hw k => ?_⟩
  obtain ⟨W, ⟨m0, w0⟩, turn⟩ := hw
  refine ⟨fun m σ' H' => ∃ e G', Rep X.K C G' H' σ' e ∧ Same G G' ∧ W m e, ⟨m0, env, G, r, Same.refl _, w0⟩, fun m σ' H' ⟨e, G', r', s, wm⟩ => ?_⟩
  refine hc.sim C G' H' σ' e _ _ r' (turn m e wm) fun b e1 G1 H1 s1 q1 => ?_
  have k2 := k.mono (s.trans s1.gx)
  cases b with
  | true =>
    refine iteT ⟨fun σ2 H2 => ∃ e G2, Rep X.K C G2 H2 σ2 e ∧ Same G G2 ∧ ∃ m', m' < m ∧ W m' e, fun σ2 H2 ⟨e2, G2, r2, s2, m', hm, w2⟩ => ⟨m', hm, e2, G2, r2, s2, w2⟩, ?_⟩
    exact hb.sim C G1 H1 σ' e1 _ _ s1.rep q1 ⟨fun σ3 e3 G3 H3 r3 s3 q3 => ⟨e3, G3, r3, (s.trans s1.gx).trans s3, q3⟩, k2.rt, k2.rf, fun σ3 e3 G3 H3 r3 s3 q3 => k2.nx σ3 e3 G3 H3 r3 s3 q3, fun σ3 e3 G3 H3 r3 s3 q3 => ⟨e3, G3, r3, (s.trans s1.gx).trans s3, q3⟩⟩
  | false => exact iteF (k2.nx σ' e1 G1 H1 s1.rep (Same.refl _) q1)
/-! x += e -/
def wAug (i : Nat) (g : G2) (w : WE) : WS := fun E env => match peek env i with
  | none => False
  | some _ => w env fun d e => match peek e i with
    | some x => g x d fun z => E.nx (e.set i (.sh z))
    | none => False
theorem ds_aug (i : Nat) {op : Operator} {r : R2} {gg : G2} (ho : PIp X op r) (hs : OpSim X.K r gg) (h : DE X e te we) (hN : X.N.Nodup) (hi : X.N[i]? = some x := by rfl) (hx : Loc X.env.scope x := by first | exact Or.inl rfl | exact Or.inr rfl)
    (hf : X.fn x = true ∨ X.env.scope.names.lookup x = some .local := by first | exact .inl rfl | exact .inr rfl) : DS X (.AugAssign (.Name x pos') op e pos) (tAug i te r) (wAug i gg we) :=
  ⟨ps_aug hN hi hx h.pe ho hf, fun C G H σ env E D rp hw k => by
    unfold wAug at hw
    cases e0 : DL.peek env i with
    | none => rw [e0] at hw; exact hw.elim
    | some d0 =>
      rw [e0] at hw
      obtain ⟨v1, ev, _⟩ := rp.peek e0
      refine ⟨v1, ev, h.sim C G H σ env _ _ rp hw fun d e1 v G1 H1 s1 p1 h1 => ?_⟩
      cases eq : DL.peek e1 i with
      | none => rw [eq] at h1; exact h1.elim
      | some z =>
        rw [eq] at h1
        obtain ⟨v', ev', q1⟩ := s1.rep.peek eq
        rw [ev] at ev'
        cases ev'
        exact hs G1 H1 v1 v z d _ _ s1.rep.gh q1 (.inl p1) h1 fun z' v' G' H' gr pz qz => k.nx _ _ G' H' ((s1.rep.grow gr).setSh pz) (s1.gx.trans gr.1) qz⟩
/-! lists of one's own: x.append(e), x.extend(new list), x.pop(), x[i] = e -/
def ownAt (env : En) (i : Nat) : Prop := match env[i]? with
  | some (.own _) => True
  | some (.bow _) => True
  | _ => False
def lstOf (env : En) (i : Nat) : Option (List Dt) := match env[i]? with
  | some (.own ds) => some ds
  | some (.bow ds) => some ds
  | _ => none
def setL (env : En) (i : Nat) (ds : List Dt) : En := match env[i]? with
  | some (.bow _) => env.set i (.bow ds)
  | _ => env.set i (.own ds)
theorem Rep.lstOf {C : Base} {G H : Hp} {σ : L2.St} {env : En} (r : Rep K C G H σ env) {i : Nat} {ds : List Dt} (e : lstOf env i = some ds) : ∃ l vs, σ[i]? = some (some (.ref l)) ∧ G l = none ∧ H l = some (.lst vs) ∧ DpAll K G vs ds ∧
    ∀ vs' ds', DpAll K G vs' ds' → Rep K C G (upd H l (.lst vs')) σ (setL env i ds') := by
  unfold DL.lstOf at e
  cases q : env[i]? with
  | none => rw [q] at e; cases e
  | some s =>
    rw [q] at e
    cases s with
    | own ds0 =>
      cases e
      obtain ⟨l, el, c0, g, vs, h, d⟩ := r.sl i _ q
      refine ⟨l, vs, el, g, h, d, fun vs' ds' d' => ?_⟩
      unfold setL
      rw [q]
      exact r.mut ⟨_, q, rfl⟩ el rfl ⟨l, rfl, c0, g, vs', upd_same, d'⟩
    | bow ds0 =>
      cases e
      obtain ⟨l, el, c0, g, vs, h, d⟩ := r.sl i _ q
      refine ⟨l, vs, el, g, h, d, fun vs' ds' d' => ?_⟩
      unfold setL
      rw [q]
      exact r.mut ⟨_, q, rfl⟩ el rfl ⟨l, rfl, c0, g, vs', upd_same, d'⟩
    | _ => cases e
theorem ownAt_lst {env : En} {i : Nat} (h : ownAt env i) : ∃ ds, lstOf env i = some ds := by
  unfold ownAt at h
  unfold lstOf
  cases q : env[i]? with
  | none => rw [q] at h; exact h.elim
  | some s =>
    rw [q] at h
    cases s <;> first | exact h.elim | exact ⟨_, rfl⟩
def wApp (i : Nat) (w : WE) : WS := fun E env => ownAt env i ∧ w env fun d e => match lstOf e i with
  | some ds => ds.length < sizeLine ∧ E.nx (setL e i (ds ++ [d]))
  | none => False
theorem ds_app (i : Nat) {apos cpos : Pos} (h : DE X e te we) (hN : X.N[i]? = some x := by rfl) (hv : Vis X.env.scope x := by first | exact Or.inl rfl | exact Or.inr (Or.inl rfl) | exact Or.inr (Or.inr rfl)) (hd : (x == ("__debug__" : Str)) = false := by decide) (hcd : (x == ("__classdict__" : Str)) = false := by decide)
    (hbase : attributeBase (.Name x p) "append" X.env (eval (.Name x p) X.env) = eval (.Name x p) X.env := by rfl)
    (hfew : ((backTo cpos (starEach [e] X.env)).all (fun x => !x.1) && (backToKw cpos (keywordEach [] X.env)).all (fun x => x.1.isSome) && decide ([e].length + ([] : List Keyword).length + (if ([] : List Keyword).isEmpty then 0 else 1) < 30)) = true := by rfl)
    (hline : (apos.endLine == cpos.line) = true := by rfl) (hs : starEach [e] X.env = (false, eval e X.env) :: starEach [] X.env := by rfl) (hplain : (backTo cpos (starEach [] X.env)).any (·.1) = false := by rfl)
    (hsw : swapsWith (.Call (.Attribute (.Name x p) "append" apos) [e] [] cpos) none pos.line X.env = pure false := by rfl) :
    DS X (.Expr (.Call (.Attribute (.Name x p) "append" apos) [e] [] cpos) pos) (tDrop (tBM X.K "list" rAppend (tVar i) (tCons te tNil))) (wApp i we) :=
  ⟨ps_expr (pe_bm PySem.F.plainAttrs_list PySem.F.slot_list_append PySem.F.type_list_append mt_append (pv i hN hv hd hcd) (pa_cons h.pe pa_nil hs) hbase hfew hline hs hplain) hsw, fun C G H σ env E D rp hw k => by
    obtain ⟨o, hw⟩ := hw
    obtain ⟨ds0, e0⟩ := ownAt_lst o
    obtain ⟨l, vs0, el, _, h0, _, _⟩ := rp.lstOf e0
    refine ⟨_, el, .inl ⟨rfl, vs0, SqL.of h0⟩, h.sim C G H σ env _ _ rp hw fun d e1 v G1 H1 s1 p1 h1 => ?_⟩
    cases eq : DL.lstOf e1 i with
    | none => rw [eq] at h1; exact h1.elim
    | some ds =>
      rw [eq] at h1
      obtain ⟨l', vs, el', _, h2, d2, up⟩ := s1.rep.lstOf eq
      rw [el] at el'
      cases el'
      exact ⟨l, vs, v, rfl, rfl, h2, by rw [DpAll.len d2]; exact h1.1, k.nx _ _ _ _ (up _ _ (DpAll.append (.cons p1 .nil) d2)) s1.gx h1.2⟩⟩
def wExt (i : Nat) (w : WF) : WS := fun E env => ownAt env i ∧ w env fun es e => match lstOf e i with
  | some ds => ds.length + es.length ≤ sizeLine ∧ E.nx (setL e i (ds ++ es))
  | none => False
theorem ds_ext (i : Nat) {apos cpos : Pos} (h : DF X e te wf) (hN : X.N[i]? = some x := by rfl) (hv : Vis X.env.scope x := by first | exact Or.inl rfl | exact Or.inr (Or.inl rfl) | exact Or.inr (Or.inr rfl)) (hd : (x == ("__debug__" : Str)) = false := by decide) (hcd : (x == ("__classdict__" : Str)) = false := by decide)
    (hbase : attributeBase (.Name x p) "extend" X.env (eval (.Name x p) X.env) = eval (.Name x p) X.env := by rfl)
    (hfew : ((backTo cpos (starEach [e] X.env)).all (fun x => !x.1) && (backToKw cpos (keywordEach [] X.env)).all (fun x => x.1.isSome) && decide ([e].length + ([] : List Keyword).length + (if ([] : List Keyword).isEmpty then 0 else 1) < 30)) = true := by rfl)
    (hline : (apos.endLine == cpos.line) = true := by rfl) (hs : starEach [e] X.env = (false, eval e X.env) :: starEach [] X.env := by rfl) (hplain : (backTo cpos (starEach [] X.env)).any (·.1) = false := by rfl)
    (hsw : swapsWith (.Call (.Attribute (.Name x p) "extend" apos) [e] [] cpos) none pos.line X.env = pure false := by rfl) :
    DS X (.Expr (.Call (.Attribute (.Name x p) "extend" apos) [e] [] cpos) pos) (tDrop (tBM X.K "list" rExtend (tVar i) (tCons te tNil))) (wExt i wf) :=
  ⟨ps_expr (pe_bm PySem.F.plainAttrs_list PySem.F.slot_list_extend PySem.F.type_list_extend mt_extend (pv i hN hv hd hcd) (pa_cons h.pe pa_nil hs) hbase hfew hline hs hplain) hsw, fun C G H σ env E D rp hw k => by
    obtain ⟨o, hw⟩ := hw
    obtain ⟨ds0, e0⟩ := ownAt_lst o
    obtain ⟨l, vs0, el, _, h0, _, _⟩ := rp.lstOf e0
    refine ⟨_, el, .inl ⟨rfl, vs0, SqL.of h0⟩, h.sim C G H σ env _ _ rp hw fun es e1 m G1 H1 s1 hm lm h1 => ?_⟩
    obtain ⟨gm, ws, hw1, dw⟩ := lm
    cases eq : DL.lstOf e1 i with
    | none => rw [eq] at h1; exact h1.elim
    | some ds =>
      rw [eq] at h1
      obtain ⟨l', vs, el', _, h2, d2, up⟩ := s1.rep.lstOf eq
      rw [el] at el'
      cases el'
      exact ⟨l, m, vs, ws, rfl, rfl, h2, hw1, by rw [DpAll.len d2, DpAll.len dw]; exact h1.1, k.nx _ _ _ _ (up _ _ (DpAll.append dw d2)) s1.gx h1.2⟩⟩
def wPop (i : Nat) : WE := fun env R => match lstOf env i with
  | some ds => match ds.getLast? with
    | some d => R d (setL env i ds.dropLast)
    | none => False
  | none => False
theorem Rep.stpMut {C : Base} {G H : Hp} {σ : L2.St} {env env' : En} (r : Rep K C G H σ env) {i : Nat} {l : Addr} {vs : List V} (el : σ[i]? = some (some (.ref l))) (o : ∃ s, env[i]? = some s ∧ isOwn s = true) (r' : Rep K C G (upd H l (.lst vs)) σ env') (oo : ∀ a, Owns env' σ a → Owns env σ a) :
    Stp K C σ env G H env' G (upd H l (.lst vs)) := by
  obtain ⟨s, es, os⟩ := o
  refine ⟨r', Same.refl _, fun a u ha hn => ?_, oo, fun a ha => ?_⟩
  · have hne : a ≠ l := fun q => hn ⟨i, s, es, os, by rw [q]; exact el⟩
    exact ⟨by rw [upd_ne hne]; exact ha, fun z => z⟩
  · by_cases q : a = l
    · rw [q, upd_same]
      exact Option.some_ne_none _
    · rw [upd_ne q]
      exact ha
theorem owns_setL {σ : L2.St} {env : En} {i : Nat} {ds ds' : List Dt} (e : lstOf env i = some ds) {a : Addr} (h : Owns (setL env i ds') σ a) : Owns env σ a := by
  obtain ⟨j, s, e1, o, e2⟩ := h
  have own : ∃ s, env[i]? = some s ∧ isOwn s = true := by
    unfold lstOf at e
    cases q : env[i]? with
    | none => rw [q] at e; cases e
    | some s =>
      rw [q] at e
      cases s <;> first | exact ⟨_, rfl, rfl⟩ | cases e
  by_cases hj : i = j
  · subst hj
    obtain ⟨s', e', o'⟩ := own
    exact ⟨i, s', e', o', e2⟩
  · refine ⟨j, s, ?_, o, e2⟩
    unfold setL at e1
    split at e1 <;> (rw [List.getElem?_set_ne hj] at e1; exact e1)
theorem own_of_lst {env : En} {i : Nat} {ds : List Dt} (e : lstOf env i = some ds) : ∃ s, env[i]? = some s ∧ isOwn s = true := by
  unfold lstOf at e
  cases q : env[i]? with
  | none => rw [q] at e; cases e
  | some s =>
    rw [q] at e
    cases s <;> first | exact ⟨_, rfl, rfl⟩ | cases e
theorem de_pop (i : Nat) {apos cpos : Pos} (hN : X.N[i]? = some x := by rfl) (hv : Vis X.env.scope x := by first | exact Or.inl rfl | exact Or.inr (Or.inl rfl) | exact Or.inr (Or.inr rfl)) (hd : (x == ("__debug__" : Str)) = false := by decide) (hcd : (x == ("__classdict__" : Str)) = false := by decide)
    (hbase : attributeBase (.Name x p) "pop" X.env (eval (.Name x p) X.env) = eval (.Name x p) X.env := by rfl) (hline : (apos.endLine == cpos.line) = true := by rfl) :
    DE X (.Call (.Attribute (.Name x p) "pop" apos) [] [] cpos) (tBM0 X.K "list" rPop (tVar i)) (wPop i) :=
  ⟨pe_bm0 PySem.F.plainAttrs_list PySem.F.slot_list_pop PySem.F.type_list_pop mt_pop (pv i hN hv hd hcd) hbase hline, fun C G H σ env R Q rp hw k => by
    unfold wPop at hw
    cases eq : DL.lstOf env i with
    | none => rw [eq] at hw; exact hw.elim
    | some ds =>
      rw [eq] at hw
      obtain ⟨l, vs, el, _, h2, d2, up⟩ := rp.lstOf eq
      change (match ds.getLast? with | some d => R d (setL env i ds.dropLast) | none => False) at hw
      cases eg : ds.getLast? with
      | none => rw [eg] at hw; exact hw.elim
      | some d =>
        rw [eg] at hw
        rw [List.getLast?_eq_getElem?] at eg
        obtain ⟨v, ev, pv⟩ := DpAll.get d2 eg
        refine ⟨_, el, .inl ⟨rfl, vs, SqL.of h2⟩, l, vs, v, rfl, rfl, h2, by rw [DpAll.len d2]; exact ev, ?_⟩
        exact k d _ v G _ (rp.stpMut el (own_of_lst eq) (up _ _ (DpAll.dropLast d2)) (fun a o => owns_setL eq o)) pv hw⟩
def wPopAt (i : Nat) (w : WE) : WE := fun env R => ownAt env i ∧ w env fun d e => match d, lstOf e i with
  | .int j, some ds => 0 ≤ j ∧ j < 2 ^ 62 ∧ match ds[j.toNat]? with
    | some d => R d (setL e i (ds.eraseIdx j.toNat))
    | none => False
  | _, _ => False
theorem seqIndex_nat {j : Int} {n : Nat} (h0 : 0 ≤ j) (h : j.toNat < n) : seqIndex? j n = some j.toNat := by
  have e : ixN n j = some j.toNat := by
    unfold ixN
    rw [if_pos h0, if_pos (by omega)]
  exact (ixN_seq e).1
theorem de_popAt (i : Nat) {apos cpos : Pos} (h : DE X e te we) (hN : X.N[i]? = some x := by rfl) (hv : Vis X.env.scope x := by first | exact Or.inl rfl | exact Or.inr (Or.inl rfl) | exact Or.inr (Or.inr rfl)) (hd : (x == ("__debug__" : Str)) = false := by decide) (hcd : (x == ("__classdict__" : Str)) = false := by decide)
    (hbase : attributeBase (.Name x p) "pop" X.env (eval (.Name x p) X.env) = eval (.Name x p) X.env := by rfl)
    (hfew : ((backTo cpos (starEach [e] X.env)).all (fun x => !x.1) && (backToKw cpos (keywordEach [] X.env)).all (fun x => x.1.isSome) && decide ([e].length + ([] : List Keyword).length + (if ([] : List Keyword).isEmpty then 0 else 1) < 30)) = true := by rfl)
    (hline : (apos.endLine == cpos.line) = true := by rfl) (hs : starEach [e] X.env = (false, eval e X.env) :: starEach [] X.env := by rfl) (hplain : (backTo cpos (starEach [] X.env)).any (·.1) = false := by rfl) :
    DE X (.Call (.Attribute (.Name x p) "pop" apos) [e] [] cpos) (tBM X.K "list" rPopAt (tVar i) (tCons te tNil)) (wPopAt i we) :=
  ⟨pe_bm PySem.F.plainAttrs_list PySem.F.slot_list_pop PySem.F.type_list_pop mt_popAt (pv i hN hv hd hcd) (pa_cons h.pe pa_nil hs) hbase hfew hline hs hplain, fun C G H σ env R Q rp hw k => by
    obtain ⟨o, hw⟩ := hw
    obtain ⟨ds0, e0⟩ := ownAt_lst o
    obtain ⟨l, vs0, el, _, h0, _, _⟩ := rp.lstOf e0
    refine ⟨_, el, .inl ⟨rfl, vs0, SqL.of h0⟩, h.sim C G H σ env _ _ rp hw fun d e1 v G1 H1 s1 p1 h1 => ?_⟩
    cases d <;> first | exact h1.elim | skip
    rename_i j
    cases p1
    cases eq : DL.lstOf e1 i with
    | none => rw [eq] at h1; exact h1.elim
    | some ds =>
      rw [eq] at h1
      obtain ⟨j0, j1, h1⟩ := h1
      obtain ⟨l', vs, el', _, h2, d2, up⟩ := s1.rep.lstOf eq
      rw [el] at el'
      cases el'
      cases eg : ds[j.toNat]? with
      | none => rw [eg] at h1; exact h1.elim
      | some d =>
        rw [eg] at h1
        obtain ⟨v, ev, pv⟩ := DpAll.get d2 eg
        have hlt : j.toNat < vs.length := (List.getElem?_eq_some_iff.mp ev).1
        refine ⟨l, vs, j, j.toNat, v, rfl, rfl, h2, by omega, by omega, seqIndex_nat j0 hlt, ev, ?_⟩
        exact k d _ v G1 _ (s1.trans (s1.rep.stpMut el (own_of_lst eq) (up _ _ (DpAll.eraseIdx _ d2)) (fun a o => owns_setL eq o))) pv h1⟩
def wSetI (i : Nat) (w wk : WE) : WS := fun E env => w env fun d e => (peek e i).isSome = true ∧ wk e fun dk e2 => match dk, lstOf e2 i with
  | .int k, some ds => match ixN ds.length k with
    | some j => E.nx (setL e2 i (ds.set j d))
    | none => False
  | _, _ => False
theorem ds_setI (i : Nat) {tpos : Pos} (h : DE X e te we) (hk : DE X a ta wa) (hN : X.N[i]? = some x := by rfl) (hv : Vis X.env.scope x := by first | exact Or.inl rfl | exact Or.inr (Or.inl rfl) | exact Or.inr (Or.inr rfl)) (hd : (x == ("__debug__" : Str)) = false := by decide) (hcd : (x == ("__classdict__" : Str)) = false := by decide)
    (ha : ∀ v, assign (.Subscript (.Name x p) a tpos) X.env v = (do
      let ov ← holding [v] (eval (.Name x p) X.env)
      let iv ← holding [v, ov] (eval a X.env)
      standAt tpos
      holding [v, ov, iv] (setItem ov iv v)
      release [v, ov, iv] []) := by intro _; rfl)
    (hs : swapsWithSole [.Subscript (.Name x p) a tpos] e pos.line X.env = pure false := by rfl) (hw : swappedStores [.Subscript (.Name x p) a tpos] e X.env = pure none := by rfl)
    (h1 : (assignEach [.Subscript (.Name x p) a tpos] X.env).map (·.2) = [assign (.Subscript (.Name x p) a tpos) X.env] := by rfl) :
    DS X (.Assign [.Subscript (.Name x p) a tpos] e pos) (tAsg te (gSub (tVar i) ta rSetL)) (wSetI i we wa) :=
  ⟨ps_asg h.pe (pg_sub (pv i hN hv hd hcd) hk.pe set_list ha) hs hw h1, fun C G H σ env E D rp hw k => h.sim C G H σ env _ _ rp hw fun d e1 v G1 H1 s1 p1 q1 => by
    obtain ⟨o, q1⟩ := q1
    obtain ⟨d0, e0⟩ := Option.isSome_iff_exists.mp o
    obtain ⟨v0, ev0, _⟩ := s1.rep.peek e0
    refine ⟨v0, ev0, hk.sim C G1 H1 σ e1 _ _ s1.rep q1 fun dk e2 vk G2 H2 s2 p2 q2 => ?_⟩
    cases dk <;> first | exact q2.elim | skip
    rename_i kk
    cases p2
    cases eq : DL.lstOf e2 i with
    | none => rw [eq] at q2; exact q2.elim
    | some ds =>
      rw [eq] at q2
      obtain ⟨l, vs, el, _, h2, d2, up⟩ := s2.rep.lstOf eq
      rw [ev0] at el
      cases el
      change (match ixN ds.length kk with | some j => E.nx (setL e2 i (ds.set j d)) | none => False) at q2
      cases ej : ixN ds.length kk with
      | none => rw [ej] at q2; exact q2.elim
      | some j =>
        rw [ej] at q2
        exact ⟨l, vs, kk, j, rfl, rfl, h2, by rw [DpAll.len d2]; exact ej, k.nx _ _ _ _ (up _ _ (DpAll.set (dp_mono s2.gx _ _ p1) _ d2)) (s1.gx.trans s2.gx) q2⟩⟩
/-- x = y, y a list of one's own that y does not name again -/
def wMove (i j : Nat) : WS := fun E env => match env[j]? with
  | some (.own ds) => E.nx ((env.set j .no).set i (.own ds))
  | _ => False
theorem ds_move (i j : Nat) (hN : X.N.Nodup) (h0 : 0 < i := by decide) (hi : X.N[i]? = some x := by rfl) (hx : Loc X.env.scope x := by first | exact Or.inl rfl | exact Or.inr rfl) (hj : X.N[j]? = some y := by rfl) (hv : Vis X.env.scope y := by first | exact Or.inl rfl | exact Or.inr (Or.inl rfl) | exact Or.inr (Or.inr rfl)) (hd : (y == ("__debug__" : Str)) = false := by decide) (hcd : (y == ("__classdict__" : Str)) = false := by decide)
    (hs : swapsWith (.Name y p) (some (.Name x pos')) pos.line X.env = pure false := by rfl) (hf : X.fn x = true ∨ X.env.scope.names.lookup x = some .local := by first | exact .inl rfl | exact .inr rfl) : DS X (.Assign [.Name x pos'] (.Name y p) pos) (tAsg (tVar j) (gName i)) (wMove i j) :=
  ⟨ps_set hN hi hx (pv j hj hv hd hcd) hs hf, fun C G H σ env E D r hw k => by
    unfold wMove at hw
    cases q : env[j]? with
    | none => rw [q] at hw; exact hw.elim
    | some s =>
      rw [q] at hw
      cases s <;> first | exact hw.elim | skip
      rename_i ds
      obtain ⟨l, el, c0, la⟩ := r.sl j _ q
      refine ⟨_, el, k.nx _ _ G H ((r.forget j).setOwn h0 c0 la fun o => ?_) (Same.refl _) hw⟩
      obtain ⟨m, s, e1, os, e2⟩ := o
      by_cases hm : j = m
      · subst hm
        have hl : j < env.length := (List.getElem?_eq_some_iff.mp q).1
        rw [List.getElem?_set_self hl] at e1
        cases e1
        cases os
      · rw [List.getElem?_set_ne hm] at e1
        exact hm (r.ap j m _ s l q e1 rfl os el e2)⟩
end

/-! ### a def's body keeps its promise -/

def startE (N : List Str) (ds : List Dt) : En := ds.map Sl.sh ++ List.replicate (N.length - ds.length) .no
section
variable {P : Program} {wd : World} {K : PySem.W.Frag} {mg : Str → Option Value} {base : Heap} {x qual : Str} {st : Stmt} {f : Addr} {fd : FuncData} {N ps : List Str} {k : Nat} {T : Type} {args : T → List Dt} {pre : T → Prop} {post : T → Dt → Prop} {postF : T → List Dt → Prop} {w : WS}
theorem rep_start {G H : Hp} {vs : List V} {ds : List Dt} (s : Same G H) (d : DpAll K G vs ds) (hN : ds.length ≤ N.length) : Rep K ⟨G, H, none⟩ G H (L2.start N vs) (startE N ds) := by
  have hl := DpAll.len d
  refine ⟨by unfold L2.start startE; rw [List.length_append, List.length_append, List.length_map, List.length_map, List.length_replicate, List.length_replicate, hl], Same.refl _, s, fun a o _ e => e, (fun a e => nomatch e), fun a h0 g0 => g0, fun i sl e => ?_, fun i j sl sl' a e1 e2 o1 => ?_, (fun a sl e => nomatch e)⟩
  · unfold startE at e
    unfold L2.start
    by_cases hi : i < ds.length
    · rw [List.getElem?_append_left (by rw [List.length_map]; exact hi), List.getElem?_map, List.getElem?_eq_getElem hi] at e
      rw [List.getElem?_append_left (by rw [List.length_map, hl]; exact hi), List.getElem?_map]
      cases e
      obtain ⟨v, ev, dv⟩ := DpAll.get d (List.getElem?_eq_getElem hi)
      rw [ev]
      exact ⟨v, rfl, dv⟩
    · rw [List.getElem?_append_right (by rw [List.length_map]; omega), List.getElem?_replicate] at e
      split at e <;> cases e
      trivial
  · exfalso
    unfold startE at e1
    by_cases hi : i < ds.length
    · rw [List.getElem?_append_left (by rw [List.length_map]; exact hi), List.getElem?_map, List.getElem?_eq_getElem hi] at e1
      cases e1
      cases o1
    · rw [List.getElem?_append_right (by rw [List.length_map]; omega), List.getElem?_replicate] at e1
      split at e1 <;> cases e1
      cases o1
theorem grow_of {G H G' H' : Hp} {σ : L2.St} {env : En} (r : Rep K ⟨G, H, none⟩ G' H' σ env) : Grow G H G' H' := ⟨r.gg, fun a o e => r.hh a o (fun z => nomatch z) e, r.gh, r.nw⟩
theorem dfn (F : Fun K x qual st f fd) (S : FnScope N ps (defScope st)) (hl : ∀ z, (args z).length = ps.length) (hN : ps.length ≤ N.length)
    (hd : ∀ (cdv : Value) (A : Around) (outer : List Env) (s : Shared) (H : Hp) (E : XK), Room k (A.deeper (PyProof.Rows.envOfC qual (defScope st) s.heap.objs.size f cdv)) → ∃ t, DSs (cxOf CX0 P wd K mg base N qual (defScope st) f cdv A outer s H E).nox (defBody st) t w)
    (hw : ∀ z, pre z → w { nx := fun _ => post z .none, rt := fun d _ => post z d, rf := fun ds _ => post z (.list ds) } (startE N (args z))) : FnOk P wd K mg base CX0 (k + 1) f fd ps (spR K args pre post) := by
  refine F.ok S (fun vs H Q E h => ?_) (fun cdv A outer s H vs Q E hr h => ?_)
  · obtain ⟨G, z, _, d, _⟩ := h
    rw [DpAll.len d, hl]
  · obtain ⟨G, z, sG, d, pz, q⟩ := h
    obtain ⟨t, D⟩ := hd cdv A outer s H E hr
    refine ⟨t, D.pe, D.sim ⟨G, H, none⟩ G H _ _ _ _ (rep_start sG d (by rw [hl]; exact hN)) (hw z pz) ⟨fun σ env G' H' r _ po => q _ _ G' H' po (grow_of r) .non, fun σ env d' v G' H' r _ dv po => q _ _ G' H' po (grow_of r) dv, fun σ env ds l G' H' r _ c0 la po => ?_, fun _ _ _ _ _ _ z => z.elim, fun _ _ _ _ _ _ z => z.elim⟩⟩
    by_cases ho : Owns env σ l
    · -- a name still holds it: forgotten first
      obtain ⟨i, sl, ei, oi, si⟩ := ho
      have r2 := r.forget i
      obtain ⟨G2, r3, g3, d3, n3⟩ := r2.frzNew c0 la (fun o => by
        obtain ⟨m, s', e1, os, e2⟩ := o
        by_cases hm : i = m
        · subst hm
          have hl : i < env.length := (List.getElem?_eq_some_iff.mp ei).1
          rw [List.getElem?_set_self hl] at e1
          cases e1
          cases os
        · rw [List.getElem?_set_ne hm] at e1
          exact hm (r.ap i m sl s' l ei e1 oi os si e2))
      exact q _ _ G2 H' po (grow_of r3) d3
    · obtain ⟨G2, r3, g3, d3, n3⟩ := r.frzNew c0 la ho
      exact q _ _ G2 H' po (grow_of r3) d3
theorem dfnF (F : Fun K x qual st f fd) (S : FnScope N ps (defScope st)) (hl : ∀ z, (args z).length = ps.length) (hN : ps.length ≤ N.length)
    (hd : ∀ (cdv : Value) (A : Around) (outer : List Env) (s : Shared) (H : Hp) (E : XK), Room k (A.deeper (PyProof.Rows.envOfC qual (defScope st) s.heap.objs.size f cdv)) → ∃ t, DSs (cxOf CX0 P wd K mg base N qual (defScope st) f cdv A outer s H E).nox (defBody st) t w)
    (hw : ∀ z, pre z → w { nx := fun _ => False, rt := fun d _ => False, rf := fun ds _ => postF z ds } (startE N (args z))) : FnOk P wd K mg base CX0 (k + 1) f fd ps (spF K args pre postF) := by
  refine F.ok S (fun vs H Q E h => ?_) (fun cdv A outer s H vs Q E hr h => ?_)
  · obtain ⟨G, z, _, d, _⟩ := h
    rw [DpAll.len d, hl]
  · obtain ⟨G, z, sG, d, pz, q⟩ := h
    obtain ⟨t, D⟩ := hd cdv A outer s H E hr
    refine ⟨t, D.pe, D.sim ⟨G, H, none⟩ G H _ _ _ _ (rep_start sG d (by rw [hl]; exact hN)) (hw z pz) ⟨fun σ env G' H' r _ po => po.elim, fun σ env d' v G' H' r _ dv po => po.elim, fun σ env ds l G' H' r _ c0 la po => q ds l G' H' po (grow_of r) c0 la, fun _ _ _ _ _ _ z => z.elim, fun _ _ _ _ _ _ z => z.elim⟩⟩
/-- a def whose first argument is the hand; it stands in slot 0 to the end: as a hand (hnd), or looked into (bow) -/
def startH (N : List Str) (ds : List Dt) : En := .hnd :: (ds.map Sl.sh ++ List.replicate (N.length - (ds.length + 1)) .no)
def startB (N : List Str) (hs ds : List Dt) : En := .bow hs :: (ds.map Sl.sh ++ List.replicate (N.length - (ds.length + 1)) .no)
theorem rep_startX {G H : Hp} {l : Addr} {vs : List V} {ds : List Dt} (s0 : Sl) (s : Same G H) (gl : G l = none) (hl0 : H l ≠ none) (ok : RepS K ⟨G, H, some l⟩ G H s0 (some (some (.ref l)))) (o0 : isOwn s0 = true) (d : DpAll K G vs ds) (hN : ds.length + 1 ≤ N.length) :
    Rep K ⟨G, H, some l⟩ G H (L2.start N (.ref l :: vs)) (s0 :: (ds.map Sl.sh ++ List.replicate (N.length - (ds.length + 1)) .no)) := by
  have hl := DpAll.len d
  have st : L2.start N (.ref l :: vs) = some (.ref l) :: (vs.map some ++ List.replicate (N.length - (vs.length + 1)) none) := rfl
  have noown : ∀ (i : Nat) (sl : Sl), (ds.map Sl.sh ++ List.replicate (N.length - (ds.length + 1)) Sl.no)[i]? = some sl → isOwn sl = true → False := fun i sl e1 o1 => by
    by_cases hi : i < ds.length
    · rw [List.getElem?_append_left (by rw [List.length_map]; exact hi), List.getElem?_map, List.getElem?_eq_getElem hi] at e1
      cases e1
      cases o1
    · rw [List.getElem?_append_right (by rw [List.length_map]; omega), List.getElem?_replicate] at e1
      split at e1 <;> cases e1
      cases o1
  rw [st]
  refine ⟨by rw [List.length_cons, List.length_cons, List.length_append, List.length_append, List.length_map, List.length_map, List.length_replicate, List.length_replicate, hl], Same.refl _, s, fun a o _ e => e, fun a e => by cases e; exact hl0, fun a h0 g0 => g0, fun i sl e => ?_, fun i j sl sl' a e1 e2 o1 o2 q1 q2 => ?_, fun a sl e e1 o => ?_⟩
  · cases i with
    | zero => cases e; exact ok
    | succ i =>
      rw [List.getElem?_cons_succ] at e ⊢
      by_cases hi : i < ds.length
      · rw [List.getElem?_append_left (by rw [List.length_map]; exact hi), List.getElem?_map, List.getElem?_eq_getElem hi] at e
        rw [List.getElem?_append_left (by rw [List.length_map, hl]; exact hi), List.getElem?_map]
        cases e
        obtain ⟨v, ev, dv⟩ := DpAll.get d (List.getElem?_eq_getElem hi)
        rw [ev]
        exact ⟨v, rfl, dv⟩
      · rw [List.getElem?_append_right (by rw [List.length_map]; omega), List.getElem?_replicate] at e
        split at e <;> cases e
        trivial
  · cases i with
    | zero =>
      cases j with
      | zero => rfl
      | succ j =>
        rw [List.getElem?_cons_succ] at e2
        exact (noown j sl' e2 o2).elim
    | succ i =>
      rw [List.getElem?_cons_succ] at e1
      exact (noown i sl e1 o1).elim
  · cases e
    rfl
theorem growB_of {G H G' H' : Hp} {l : Addr} {σ : L2.St} {env : En} (r : Rep K ⟨G, H, some l⟩ G' H' σ env) : GrowB l G H G' H' := ⟨r.gg, fun a o ha e => r.hh a o (fun z => ha (by cases z; rfl)) e, r.gh, r.nw⟩
def keepsHnd (env : En) : Prop := match env[(0 : Nat)]? with
  | some .hnd => True
  | some (.bow ds) => HandI ds
  | _ => False
theorem hnd_of {G H G' H' : Hp} {l : Addr} {σ : L2.St} {env : En} (r : Rep K ⟨G, H, some l⟩ G' H' σ env) (h : keepsHnd env) : HndAt K G' H' l := by
  unfold keepsHnd at h
  cases e : env[(0 : Nat)]? with
  | none => rw [e] at h; exact h.elim
  | some s =>
    rw [e] at h
    cases s with
    | hnd =>
      have e0 := r.b0 l _ rfl e rfl
      obtain ⟨a, ea, _, ds, hI, la⟩ := r.sl 0 _ e
      rw [e0] at ea
      cases ea
      exact ⟨ds, hI, la⟩
    | bow ds =>
      have e0 := r.b0 l _ rfl e rfl
      obtain ⟨a, ea, _, la⟩ := r.sl 0 _ e
      rw [e0] at ea
      cases ea
      exact ⟨ds, h, la⟩
    | _ => exact h.elim
theorem dfnX (F : Fun K x qual st f fd) (S : FnScope N ps (defScope st)) (hl : ∀ z, (args z).length + 1 = ps.length) (hN : ps.length ≤ N.length)
    (hd : ∀ (cdv : Value) (A : Around) (outer : List Env) (s : Shared) (H : Hp) (E : XK), Room k (A.deeper (PyProof.Rows.envOfC qual (defScope st) s.heap.objs.size f cdv)) → ∃ t, DSs (cxOf CX0 P wd K mg base N qual (defScope st) f cdv A outer s H E).nox (defBody st) t w)
    (hw : (∀ z, pre z → w { nx := fun e => post z .none ∧ keepsHnd e, rt := fun d e => post z d ∧ keepsHnd e, rf := fun ds e => False } (startH N (args z))) ∨
      ∀ z hs, pre z → HandI hs → w { nx := fun e => post z .none ∧ keepsHnd e, rt := fun d e => post z d ∧ keepsHnd e, rf := fun ds e => False } (startB N hs (args z))) : FnOk P wd K mg base CX0 (k + 1) f fd ps (spH K args pre post) := by
  refine F.ok S (fun vs H Q E h => ?_) (fun cdv A outer s H vs Q E hr h => ?_)
  · obtain ⟨G, l, vs', z, rfl, _, _, d, _⟩ := h
    rw [List.length_cons, DpAll.len d, hl]
  · obtain ⟨G, l, vs', z, rfl, sG, hnd, d, pz, q⟩ := h
    obtain ⟨t, D⟩ := hd cdv A outer s H E hr
    have nl : (args z).length + 1 ≤ N.length := by rw [hl]; exact hN
    obtain ⟨hs, hI, gl, ws, hws, dw⟩ := hnd
    have hn0 : H l ≠ none := by rw [hws]; exact Option.some_ne_none _
    have ok : EndsOk (cxOf CX0 P wd K mg base N qual (defScope st) f cdv A outer s H E).nox.K ⟨G, H, some l⟩ G { nx := fun e => post z .none ∧ keepsHnd e, rt := fun d e => post z d ∧ keepsHnd e, rf := fun ds e => False } { nx := fun _ H' => Q .non H', rt := Q } :=
      ⟨fun σ env G' H' r _ po => q _ _ G' H' po.1 (growB_of r) (hnd_of r po.2) .non, fun σ env d' v G' H' r _ dv po => q _ _ G' H' po.1 (growB_of r) (hnd_of r po.2) dv, fun σ env ds l G' H' r _ c0 la po => po.elim, fun _ _ _ _ _ _ z => z.elim, fun _ _ _ _ _ _ z => z.elim⟩
    rcases hw with hw | hw
    · exact ⟨t, D.pe, D.sim ⟨G, H, some l⟩ G H _ _ _ _ (rep_startX .hnd sG gl hn0 ⟨l, rfl, .inr rfl, hs, hI, gl, ws, hws, dw⟩ rfl d nl) (hw z pz) ok⟩
    · exact ⟨t, D.pe, D.sim ⟨G, H, some l⟩ G H _ _ _ _ (rep_startX (.bow hs) sG gl hn0 ⟨l, rfl, rfl, gl, ws, hws, dw⟩ rfl d nl) (hw z hs pz hI) ok⟩
end
/-! what follows a body, by name -/
def endsR (post : Dt → Prop) : WEnds := { nx := fun _ => post .none, rt := fun d _ => post d, rf := fun ds _ => post (.list ds) }
def endsF (post : List Dt → Prop) : WEnds := { nx := fun _ => False, rt := fun _ _ => False, rf := fun ds _ => post ds }
def endsH (post : Dt → Prop) : WEnds := { nx := fun e => post .none ∧ keepsHnd e, rt := fun d e => post d ∧ keepsHnd e, rf := fun _ _ => False }
theorem hu65 {k : Nat} {A : Around} (hr : Room k A) : A.units + 65 < cLine := by have := hr.un; omega
/-- the law's own promise -/
def spLaw (K : PySem.W.Frag) : Sp := fun vs H Q _ => ∃ (a : Addr) (ns : List Int), vs = [.ref a] ∧ SqL K H a (ns.map V.int) ∧ ns.length ≤ 63 ∧ ∀ H', Q (.bl true) H'
theorem dpAll_of_ints {K : PySem.W.Frag} {G : Hp} : ∀ ns : List Int, DpAll K G (ns.map V.int) (ns.map PyData.int)
  | [] => .nil
  | n :: ns => .cons (.int n) (dpAll_of_ints ns)
def arLaw (ns : List Int) : List Dt := [.list (ns.map PyData.int)]
def prLaw (ns : List Int) : Prop := ns.length ≤ 63
def poLaw (_ : List Int) (d : Dt) : Prop := d = .bool true
theorem law_sp {P : Program} {w : World} {K : PySem.W.Frag} {mg : Str → Option Value} {base : Heap} {k : Nat} {f : Addr} {fd : FuncData} {ps : List Str} (F : FnOk P w K mg base CX0 k f fd ps (spR K arLaw prLaw poLaw)) : FnOk P w K mg base CX0 k f fd ps (spLaw K) :=
  F.imp fun vs H Q E ⟨a, ns, e, hS, hl, q⟩ => ⟨H, ns, Same.refl _, by rw [e]; exact .cons (.lst hS (dpAll_of_ints ns)) .nil, hl, fun d v G' H' po _ dv => by
    cases (show d = .bool true from po)
    cases dv
    exact q H'⟩

/-! ### a, b = e1, e2 where lists that are new stay one's own -/
inductive Rk where
  | sh (d : Dt)
  | fr (ds : List Dt)
abbrev WK := En → (List Rk → En → Prop) → Prop
inductive KAll (K : PySem.W.Frag) (Hs G H : Hp) : List V → List Rk → List Addr → Prop
  | nil : KAll K Hs G H [] [] []
  | sh {v : V} {d : Dt} {vs : List V} {rs : List Rk} {as : List Addr} : Dp K G v d → KAll K Hs G H vs rs as → KAll K Hs G H (v :: vs) (.sh d :: rs) as
  | fr {l : Addr} {ds : List Dt} {vs : List V} {rs : List Rk} {as : List Addr} : Hs l = none → LstAt K G H l ds → l ∉ as → KAll K Hs G H vs rs as → KAll K Hs G H (.ref l :: vs) (.fr ds :: rs) (l :: as)
def SimK (K : PySem.W.Frag) (t : TA) (w : WK) : Prop := ∀ (C : Base) (G H : Hp) (σ : L2.St) (env : En) (R : List Rk → En → Prop) (Q : List V → Hp → Prop), Rep K C G H σ env → w env R →
  (∀ rs env' vs as G' H', Stp K C σ env G H env' G' H' → KAll K H G' H' vs rs as → R rs env' → Q vs H') → t σ H Q
structure DK (X : Cx) (es : List Expr) (t : TA) (w : WK) : Prop where
  pe : PA X es t
  sim : SimK X.K t w
def wKNil : WK := fun env R => R [] env
def wKSh (w : WE) (u : WK) : WK := fun env R => w env fun d e => u e fun rs e2 => R (.sh d :: rs) e2
def wKFr (w : WF) (u : WK) : WK := fun env R => w env fun ds e => u e fun rs e2 => R (.fr ds :: rs) e2
theorem KAll.back {K : PySem.W.Frag} {Hs Hs' G H : Hp} (h : ∀ l, Hs l = none → Hs' l = none) : ∀ {vs : List V} {rs : List Rk} {as : List Addr}, KAll K Hs G H vs rs as → KAll K Hs' G H vs rs as
  | _, _, _, .nil => .nil
  | _, _, _, .sh a b => .sh a (KAll.back h b)
  | _, _, _, .fr a b c d => .fr (h _ a) b c (KAll.back h d)
theorem KAll.new {K : PySem.W.Frag} {Hs G H : Hp} : ∀ {vs : List V} {rs : List Rk} {as : List Addr}, KAll K Hs G H vs rs as → ∀ l ∈ as, Hs l = none
  | _, _, _, .nil, _, h => by cases h
  | _, _, _, .sh a b, l, h => KAll.new b l h
  | _, _, _, .fr a b c d, l, h => by
    rcases List.mem_cons.mp h with rfl | h
    · exact a
    · exact KAll.new d l h
section
variable {X : Cx} {K : PySem.W.Frag} {e a b c : Expr} {es : List Expr} {te : TE} {we : WE} {wf : WF} {tl : TA} {wk : WK} {x y z : Str} {pos : Pos}
theorem dk_nil : DK X [] tNil wKNil := ⟨pa_nil, fun C G H σ env R Q r hw k => k [] env [] [] G H (Stp.refl r) .nil hw⟩
theorem dk_sh (ha : DE X e te we) (hr : DK X es tl wk) (hs : starEach (e :: es) X.env = (false, eval e X.env) :: starEach es X.env := by rfl) : DK X (e :: es) (tCons te tl) (wKSh we wk) :=
  ⟨pa_cons ha.pe hr.pe hs, fun C G H σ env R Q rp hw k => ha.sim C G H σ env _ _ rp hw fun d e1 v G1 H1 s1 p1 q1 =>
    hr.sim C G1 H1 σ e1 _ _ s1.rep q1 fun rs e2 vs as G2 H2 s2 p2 q2 => k _ _ _ as _ _ (s1.trans s2) (.sh (dp_mono s2.gx _ _ p1) (p2.back fun l h => none_al s1 h)) q2⟩
theorem dk_fr (ha : DF X e te wf) (hr : DK X es tl wk) (hs : starEach (e :: es) X.env = (false, eval e X.env) :: starEach es X.env := by rfl) : DK X (e :: es) (tCons te tl) (wKFr wf wk) :=
  ⟨pa_cons ha.pe hr.pe hs, fun C G H σ env R Q rp hw k => ha.sim C G H σ env _ _ rp hw fun d e1 l G1 H1 s1 hl l1 q1 =>
    hr.sim C G1 H1 σ e1 _ _ s1.rep q1 fun rs e2 vs as G2 H2 s2 p2 q2 => by
      obtain ⟨g1, ws, h1, d1⟩ := l1
      obtain ⟨h2, g2⟩ := s2.kp l _ h1 (fun o => rp.newOwn hl (s1.ow l o))
      refine k _ _ _ (l :: as) _ _ (s1.trans s2) (.fr hl ⟨g2 g1, ws, h2, dpAll_mono s2.gx _ _ d1⟩ (fun m => ?_) (p2.back fun l h => none_al s1 h)) q2
      rw [p2.new l m] at h1
      cases h1⟩
def setK (env : En) (i : Nat) : Rk → En
  | .sh d => env.set i (.sh d)
  | .fr ds => env.set i (.own ds)
theorem owns_setK {env : En} {σ : L2.St} {i : Nat} {v : V} {r : Rk} {l : Addr} (h : Owns (setK env i r) (σ.set i (some v)) l) (hv : (∃ d, r = .sh d) ∨ v ≠ .ref l) : Owns env σ l := by
  obtain ⟨m, s, e1, o, e2⟩ := h
  have il : ∀ s', (env.set i s')[m]? = some s → i = m → s = s' := fun s' e q => by
    subst q
    by_cases hl : i < env.length
    · rw [List.getElem?_set_self hl] at e
      exact (Option.some.inj e).symm
    · rw [List.getElem?_eq_none (by rw [List.length_set]; omega)] at e
      cases e
  by_cases hm : i = m
  · rcases hv with ⟨d, rfl⟩ | hv
    · have := il _ e1 hm
      subst this
      cases o
    · subst hm
      by_cases hl : i < σ.length
      · rw [List.getElem?_set_self hl] at e2
        cases e2
        exact absurd rfl hv
      · rw [List.getElem?_eq_none (by rw [List.length_set]; omega)] at e2
        cases e2
  · rw [List.getElem?_set_ne hm] at e2
    refine ⟨m, s, ?_, o, e2⟩
    cases r <;> (have e1 : (env.set i _)[m]? = some s := e1; rw [List.getElem?_set_ne hm] at e1; exact e1)
def wPar2 (i j : Nat) (w : WK) : WS := fun E env => w env fun rs e => match rs with
  | [r, r'] => E.nx (setK (setK e i r) j r')
  | _ => False
def wPar3 (i j m : Nat) (w : WK) : WS := fun E env => w env fun rs e => match rs with
  | [r, r', r''] => E.nx (setK (setK (setK e i r) j r') m r'')
  | _ => False
theorem Rep.setK {C : Base} {Hs G H : Hp} {σ : L2.St} {env : En} (rp : Rep K C G H σ env) {i : Nat} (h0 : 0 < i) {v : V} {r : Rk} {vs : List V} {rs : List Rk} {as : List Addr} (h : KAll K Hs G H (v :: vs) (r :: rs) as) (c0 : ∀ l ∈ as, C.H0 l = none) (n0 : ∀ l ∈ as, ¬ Owns env σ l) :
    Rep K C G H (σ.set i (some v)) (setK env i r) ∧ ∃ as', KAll K Hs G H vs rs as' ∧ (∀ l ∈ as', C.H0 l = none) ∧ ∀ l ∈ as', ¬ Owns (DL.setK env i r) (σ.set i (some v)) l := by
  cases h with
  | sh a b => exact ⟨rp.setSh a, as, b, c0, fun l hl o => n0 l hl (owns_setK o (.inl ⟨_, rfl⟩))⟩
  | @fr l ds _ _ as' a b c d =>
    refine ⟨rp.setOwn h0 (c0 _ List.mem_cons_self) b (n0 _ List.mem_cons_self), as', d, fun l hl => c0 l (List.mem_cons_of_mem _ hl), fun l' hl o => n0 l' (List.mem_cons_of_mem _ hl) (owns_setK o (.inr fun e => ?_))⟩
    cases e
    exact c hl
theorem ds_par2 (i j : Nat) {px py pt : Pos} {kt k2 pt2} (hN : X.N.Nodup) (hc : X.calm = true) (ha : DK X [a, b] tl wk) (h0 : 0 < i := by decide) (h1 : 0 < j := by decide) (hi : X.N[i]? = some x := by rfl) (hj : X.N[j]? = some y := by rfl) (hij : i ≠ j := by decide)
    (hx : X.env.scope.names.lookup x = some .local := by rfl) (hy : X.env.scope.names.lookup y = some .local := by rfl)
    (hw : swappedStores [.Tuple [.Name x px, .Name y py] kt pt] (.Tuple [a, b] k2 pt2) X.env = pure (some [x, y]) := by rfl)
    (hs : swapsWithSole [.Tuple [.Name x px, .Name y py] kt pt] (.Tuple [a, b] k2 pt2) pos.line X.env = pure false := by rfl) :
    DS X (.Assign [.Tuple [.Name x px, .Name y py] kt pt] (.Tuple [a, b] k2 pt2) pos) (tPar i j tl) (wPar2 i j wk) :=
  ⟨ps_par hc hN hi hj hij hx hy ha.pe hw hs, fun C G H σ env E D r hw k => ha.sim C G H σ env _ _ r hw fun rs e1 vs as G1 H1 s1 p1 q1 => by
    match rs, vs, p1, q1 with
    | [r1, r2], [v1, v2], p1, q1 =>
      obtain ⟨R1, as1, p2, c1, n1⟩ := s1.rep.setK h0 p1 (fun l hl => r.fresh0 (p1.new l hl)) (fun l hl o => r.newOwn (p1.new l hl) (s1.ow l o))
      obtain ⟨R2, _⟩ := R1.setK h1 p2 c1 n1
      exact ⟨_, _, rfl, k.nx _ _ G1 H1 R2 s1.gx q1⟩
    | [r1, r2], [], p1, q1 => cases p1
    | [r1, r2], [v1], p1, q1 => cases p1 with
      | sh a b => cases b
      | fr a b c d => cases d
    | [r1, r2], _ :: _ :: _ :: _, p1, q1 => cases p1 with
      | sh a b => cases b with
        | sh a b => cases b
        | fr a b c d => cases d
      | fr a b c d => cases d with
        | sh a b => cases b
        | fr a b c d => cases d⟩
theorem ds_par3 (i j m : Nat) {px py pz pt : Pos} {kt k2 pt2} (hN : X.N.Nodup) (hc : X.calm = true) (ha : DK X [a, b, c] tl wk) (h0 : 0 < i := by decide) (h1 : 0 < j := by decide) (h2 : 0 < m := by decide) (hi : X.N[i]? = some x := by rfl) (hj : X.N[j]? = some y := by rfl) (hm : X.N[m]? = some z := by rfl)
    (hij : i ≠ j := by decide) (him : i ≠ m := by decide) (hjm : j ≠ m := by decide)
    (hx : X.env.scope.names.lookup x = some .local := by rfl) (hy : X.env.scope.names.lookup y = some .local := by rfl) (hz : X.env.scope.names.lookup z = some .local := by rfl)
    (hw : swappedStores [.Tuple [.Name x px, .Name y py, .Name z pz] kt pt] (.Tuple [a, b, c] k2 pt2) X.env = pure (some [x, y, z]) := by rfl)
    (hs : swapsWithSole [.Tuple [.Name x px, .Name y py, .Name z pz] kt pt] (.Tuple [a, b, c] k2 pt2) pos.line X.env = pure false := by rfl) :
    DS X (.Assign [.Tuple [.Name x px, .Name y py, .Name z pz] kt pt] (.Tuple [a, b, c] k2 pt2) pos) (tPar3 i j m tl) (wPar3 i j m wk) :=
  ⟨ps_par3 hc hN hi hj hm hij him hjm hx hy hz ha.pe hw hs, fun C G H σ env E D r hw k => ha.sim C G H σ env _ _ r hw fun rs e1 vs as G1 H1 s1 p1 q1 => by
    match rs, p1, q1 with
    | [r1, r2, r3], p1, q1 =>
      obtain ⟨v1, vs1, rfl⟩ : ∃ v1 vs1, vs = v1 :: vs1 := by cases p1 <;> exact ⟨_, _, rfl⟩
      obtain ⟨R1, as1, p2, c1, n1⟩ := s1.rep.setK h0 p1 (fun l hl => r.fresh0 (p1.new l hl)) (fun l hl o => r.newOwn (p1.new l hl) (s1.ow l o))
      obtain ⟨v2, vs2, rfl⟩ : ∃ v1 vs2, vs1 = v1 :: vs2 := by cases p2 <;> exact ⟨_, _, rfl⟩
      obtain ⟨R2, as2, p3, c2, n2⟩ := R1.setK h1 p2 c1 n1
      obtain ⟨v3, vs3, rfl⟩ : ∃ v1 vs3, vs2 = v1 :: vs3 := by cases p3 <;> exact ⟨_, _, rfl⟩
      obtain ⟨R3, as3, p4, _, _⟩ := R2.setK h2 p3 c2 n2
      cases p4
      exact ⟨_, _, _, rfl, k.nx _ _ G1 H1 R3 s1.gx q1⟩⟩
/-! named operators -/
def gSub : G2 := gI fun i j => i - j
def gAddI : G2 := gI fun i j => i + j
theorem os_sub : OpSim K (rI0 fun i j => .int (i - j)) gSub := os_I
theorem os_mul : OpSim K (rI CMul fun i j => .int (i * j)) gMul := os_IC
theorem os_mulW : OpSim K (rI CMulW fun i j => .int (i * j)) gMulW := os_IC
theorem os_div : OpSim K (rI CDivN fun i j => .int (i.fdiv j)) gDiv := os_IC
theorem os_divW : OpSim K (rI CDivW fun i j => .int (i / j)) gDivW := os_IC
theorem os_mod : OpSim K (rI (fun _ j => j ≠ 0) fun i j => .int (i.fmod j)) gMod := os_IC
theorem os_pow : OpSim K (rI CPow fun i j => .int (i ^ j.toNat)) gPow := os_IC
theorem os_lt : OpSim K (rI0 fun i j => .bl (decide (i < j))) gLt := os_B
theorem os_le : OpSim K (rI0 fun i j => .bl (decide (i ≤ j))) gLe := os_B
theorem os_gt : OpSim K (rI0 fun i j => .bl (decide (j < i))) gGt := os_B
theorem os_ge : OpSim K (rI0 fun i j => .bl (decide (j ≤ i))) gGe := os_B
theorem os_iadd : OpSim K (ipI fun i j => i + j) gAddI := os_I
theorem os_isub : OpSim K (ipI fun i j => i - j) gSub := os_I
end
/-! a list, a tuple or a text walked, whichever it is -/
def iAny (K : PySem.W.Frag) (tl : TE) : TI := fun σ H R => tl σ H fun x H1 => (∃ a, x = .ref a ∧ (∃ xs, SqL K H1 a xs) ∧ R (Itl K a) H1) ∨ (∃ a, x = .ref a ∧ (∃ xs, SqT K H1 a xs) ∧ R (Itt K a) H1) ∨ ∃ z, x = .str z ∧ R (Its z) H1
section
open PyProof.Rows
variable {X : Cx} {K : PySem.W.Frag} {e tg : Expr} {te : TE} {we : WE}
theorem pi_any {l : Expr} {tl : TE} (hl : PE X l tl) : PI X tg l (iAny X.K tl) := by
  refine ⟨fun pins s σ H R I h => ?_⟩
  refine thn (hl.run pins s σ H _ I h) fun v s1 ⟨x, H1, I1, r1, q1⟩ => ?_
  rcases q1 with ⟨a, e, ⟨xs, hq⟩, q⟩ | ⟨a, e, ⟨xs, hq⟩, q⟩ | ⟨z, e, q⟩
  · subst e
    cases r1
    obtain ⟨its, rv, p, hz⟩ := I1.list hq
    refine wpAny_pyIter_list p.isList ?_
    refine ⟨s1.heap.objs.size, [s1.heap.objs.size], _, _, H1, rfl, I1.kept (t' := s1.toks) fun b o e => Heap.get?_push_of_some _ e, turn_list a _, ⟨_, Heap.get?_push_size _ rfl, rfl, rfl⟩, fun b hb => ?_, q⟩
    have e : b = s1.heap.objs.size := by simpa using hb
    subst e
    exact I1.fpOk (Nat.le_refl _) (I1.hok.fresh (Nat.le_refl _))
  · subst e
    cases r1
    obtain ⟨its, rv, p, hz⟩ := I1.tuple hq
    refine wpAny_pyIter_tuple (show s1.heap.IsTuple a its.toArray from p) ?_
    refine ⟨s1.heap.objs.size, [s1.heap.objs.size], _, _, H1, rfl, I1.kept (t' := s1.toks) fun b o e => Heap.get?_push_of_some _ e, turn_tuple a _, ⟨_, Heap.get?_push_size _ rfl, rfl, rfl⟩, fun b hb => ?_, q⟩
    have e : b = s1.heap.objs.size := by simpa using hb
    subst e
    exact I1.fpOk (Nat.le_refl _) (I1.hok.fresh (Nat.le_refl _))
  · subst e
    obtain ⟨t, rfl⟩ := r1
    cases ha : z.cps.all (· < 128)
    · exact wpAny_pyIter_wide ha (pi_one (tk := s1.toks) I1 _ (turn_str _ z t "str_iterator" (.inr rfl)) ⟨_, Heap.get?_push_size _ rfl, rfl, rfl⟩ q)
    · exact wpAny_pyIter_ascii ha (pi_one (tk := s1.toks) I1 _ (turn_str _ z t "str_ascii_iterator" (.inl rfl)) ⟨_, Heap.get?_push_size _ rfl, rfl, rfl⟩ q)
def itemsD : Dt → Option (List Dt)
  | .list ds => some ds
  | .tuple ds => some ds
  | .str z => some (strD z)
  | _ => none
def wIter (w : WE) : WI := fun env R => w env fun d e => match itemsD d with
  | some ds => R ds e
  | none => False
theorem di_any (h : DE X e te we) : DI X tg e (iAny X.K te) (wIter we) := by
  refine ⟨pi_any h.pe, fun C G H σ env R Q rp hw k => h.sim C G H σ env _ _ rp hw fun d e1 v G1 H1 s1 p1 h1 => ?_⟩
  cases d with
  | list ds =>
    cases p1 with
    | lst hs ha => exact .inl ⟨_, rfl, ⟨_, s1.rep.gh.seq hs⟩, k _ _ _ _ _ s1 (itOk_list hs ha) h1⟩
  | tuple ds =>
    cases p1 with
    | tup hs ha => exact .inr (.inl ⟨_, rfl, ⟨_, sqT_seq s1.rep.gh hs⟩, k _ _ _ _ _ s1 (itOk_tup hs ha) h1⟩)
  | str z =>
    cases p1
    exact .inr (.inr ⟨_, rfl, k _ _ _ _ _ s1 itOk_str h1⟩)
  | _ => exact h1.elim
end

/-! ### data with a Lean type; sorting -/
structure EncOk {α : Type} (enc : α → Dt) (n : Nat) : Prop where
  eqv : ∀ a b, (PyData.eqv (enc a) (enc b) = true ↔ a = b)
  lay : ∀ a, (enc a).canLay0 = true
  dep : ∀ a, (enc a).depth ≤ n
  ali : ∀ a b, PySem.W.alike (enc a) (enc b) = true
theorem EncOk.int : EncOk PyData.int 0 := ⟨fun a b => by simp [PyData.eqv], fun a => by simp [PyData.canLay0], fun a => by simp [PyData.depth], fun a b => by simp [PySem.W.alike]⟩
theorem EncOk.bool : EncOk PyData.bool 0 := ⟨fun a b => by simp [PyData.eqv], fun a => by simp [PyData.canLay0], fun a => by simp [PyData.depth], fun a b => by simp [PySem.W.alike]⟩
section
variable {α β : Type} {enc : α → Dt} {enb : β → Dt} {n m : Nat}
theorem EncOk.all_eqv (h : EncOk enc n) : ∀ xs ys : List α, PyData.eqvAll (xs.map enc) (ys.map enc) = true ↔ xs = ys
  | [], [] => by simp [PyData.eqvAll]
  | [], _ :: _ => by simp [PyData.eqvAll]
  | _ :: _, [] => by simp [PyData.eqvAll]
  | x :: xs, y :: ys => by
    simp only [List.map_cons, PyData.eqvAll, Bool.and_eq_true, h.eqv, EncOk.all_eqv h xs ys, List.cons.injEq]
theorem EncOk.all_lay (h : EncOk enc n) : ∀ xs : List α, PyData.canLayAll0 (xs.map enc) = true
  | [] => by simp [PyData.canLayAll0]
  | x :: xs => by simp only [List.map_cons, PyData.canLayAll0, h.lay, EncOk.all_lay h xs, Bool.and_self]
theorem EncOk.all_dep (h : EncOk enc n) : ∀ xs : List α, PyData.depthAll (xs.map enc) ≤ n
  | [] => by simp [PyData.depthAll]
  | x :: xs => by
    simp only [List.map_cons, PyData.depthAll]
    exact Nat.max_le.mpr ⟨h.dep x, EncOk.all_dep h xs⟩
theorem EncOk.all_ali (h : EncOk enc n) : ∀ xs ys : List α, PySem.W.alikeAll (xs.map enc) (ys.map enc) = true
  | [], _ => by simp [PySem.W.alikeAll]
  | _ :: _, [] => by simp [PySem.W.alikeAll]
  | x :: xs, y :: ys => by simp only [List.map_cons, PySem.W.alikeAll, h.ali, EncOk.all_ali h xs ys, Bool.and_self]
theorem EncOk.lst (h : EncOk enc n) : EncOk (fun xs : List α => PyData.list (xs.map enc)) (n + 1) :=
  ⟨fun a b => by simp only [PyData.eqv]; exact h.all_eqv a b, fun a => by simp only [PyData.canLay0]; exact h.all_lay a, fun a => by simp only [PyData.depth]; exact Nat.succ_le_succ (h.all_dep a), fun a b => by simp only [PySem.W.alike]; exact h.all_ali a b⟩
theorem EncOk.tup (h : EncOk enc n) : EncOk (fun xs : List α => PyData.tuple (xs.map enc)) (n + 1) :=
  ⟨fun a b => by simp only [PyData.eqv]; exact h.all_eqv a b, fun a => by simp only [PyData.canLay0]; exact h.all_lay a, fun a => by simp only [PyData.depth]; exact Nat.succ_le_succ (h.all_dep a), fun a b => by simp only [PySem.W.alike]; exact h.all_ali a b⟩
theorem EncOk.pair (h : EncOk enc n) (h' : EncOk enb n) : EncOk (fun p : α × β => PyData.tuple [enc p.1, enb p.2]) (n + 1) :=
  ⟨fun a b => by simp only [PyData.eqv, PyData.eqvAll, Bool.and_true, Bool.and_eq_true, h.eqv, h'.eqv]; exact ⟨fun e => Prod.ext e.1 e.2, fun e => by rw [e]; exact ⟨rfl, rfl⟩⟩,
    fun a => by simp only [PyData.canLay0, PyData.canLayAll0, h.lay, h'.lay, Bool.and_self],
    fun a => by simp only [PyData.depth, PyData.depthAll]; exact Nat.succ_le_succ (Nat.max_le.mpr ⟨h.dep _, Nat.max_le.mpr ⟨h'.dep _, Nat.zero_le _⟩⟩),
    fun a b => by simp only [PySem.W.alike, PySem.W.alikeAll, h.ali, h'.ali, Bool.and_self]⟩
theorem EncOk.mono (h : EncOk enc n) (hn : n ≤ m) : EncOk enc m := ⟨h.eqv, h.lay, fun a => Nat.le_trans (h.dep a) hn, h.ali⟩
theorem EncOk.comp {γ : Type} {f : γ → α} (h : EncOk enc n) (hf : ∀ a b, f a = f b → a = b) : EncOk (fun x => enc (f x)) n :=
  ⟨fun a b => ⟨fun e => hf a b ((h.eqv _ _).mp e), fun e => (h.eqv _ _).mpr (by rw [e])⟩, fun a => h.lay _, fun a => h.dep _, fun a b => h.ali _ _⟩
theorem EncOk.shaped (h : EncOk enc n) (hn : n ≤ 64 := by decide) (a : α) : SeqAt.shaped (enc a) = true := by
  unfold SeqAt.shaped
  rw [h.lay a]
  simp only [Bool.true_and, decide_eq_true_eq]
  exact Nat.le_trans (h.dep a) hn
theorem EncOk.eqD [DecidableEq α] (h : EncOk enc n) (a b : α) : PyData.eqv (enc a) (enc b) = decide (a = b) := by
  rw [Bool.eq_iff_iff, decide_eq_true_eq]
  exact h.eqv a b
theorem EncOk.gEq [DecidableEq α] (h : EncOk enc n) {a b : α} {R : Dt → Prop} (k : R (.bool (decide (a = b)))) (hn : n ≤ 64 := by decide) : DL.gEq (enc a) (enc b) R := ⟨⟨h.shaped hn a, h.shaped hn b⟩, by rw [h.eqD]; exact k⟩
theorem EncOk.gNe [DecidableEq α] (h : EncOk enc n) {a b : α} {R : Dt → Prop} (k : R (.bool (!decide (a = b)))) (hn : n ≤ 64 := by decide) : DL.gNe (enc a) (enc b) R := ⟨⟨h.shaped hn a, h.shaped hn b⟩, by rw [h.eqD]; exact k⟩
theorem EncOk.inD [DecidableEq α] (h : EncOk enc n) (a : α) (xs : List α) : DL.inD (enc a) (xs.map enc) = decide (a ∈ xs) := by
  unfold DL.inD
  induction xs with
  | nil => simp
  | cons x xs ih =>
    simp only [List.map_cons, List.any_cons, ih, h.eqD, List.mem_cons, Bool.decide_or]
    by_cases e : x = a
    · simp [e]
    · have e' : ¬ a = x := fun q => e q.symm
      simp [e, e']
theorem EncOk.inj (h : EncOk enc n) {a b : α} (e : enc a = enc b) : a = b := by
  refine (h.eqv a b).mp ?_
  rw [← e]
  exact (h.eqv a a).mpr rfl
/-! sorting -/
theorem EncOk.sortOk (h : EncOk enc n) {xs : List α} (hn : n ≤ 60) (hl : xs.length ≤ sizeLine) (hs : (∀ a ∈ xs, ∃ x r, enc a = .tuple (x :: r)) ∨ ∀ a ∈ xs, enc a ≠ .none ∧ ∀ ys, enc a ≠ .tuple ys) : SortOk (xs.map enc) := by
  refine ⟨fun d hd d' hd' => ?_, ?_, by rw [List.length_map]; exact hl, fun d hd => ?_⟩
  · obtain ⟨a, _, rfl⟩ := List.mem_map.mp hd
    obtain ⟨b, _, rfl⟩ := List.mem_map.mp hd'
    exact h.ali a b
  · rcases hs with hs | hs
    · refine .inl fun d hd => ?_
      obtain ⟨a, ha, rfl⟩ := List.mem_map.mp hd
      exact hs a ha
    · refine .inr fun d hd => ?_
      obtain ⟨a, ha, rfl⟩ := List.mem_map.mp hd
      exact hs a ha
  · obtain ⟨a, _, rfl⟩ := List.mem_map.mp hd
    exact Nat.le_trans (h.dep a) hn
end
theorem dataLe_total : PySem.W.TotalLe (PySem.W.dataLe false fun d : Dt => d) := PySem.W.sortLe_total _ _ _
open PyProof.Rows in
theorem dataLt_anti {x y : Dt} (ha : PySem.W.alike x y = true) (h1 : PySem.W.dataLt x y = false) (h2 : PySem.W.dataLt y x = false) : PyData.eqv x y = true := by
  cases e : PyData.eqv x y with
  | true => rfl
  | false =>
    exfalso
    have hk : PySem.W.keyToks x = PySem.W.keyToks y := lex_total _ _ h1 h2
    have q := (PySem.W.toks_eqv x y ha).2 e
    rw [← hk] at q
    have q1 := q [] [Sum.inl 0]
    rw [PySem.W.lex_pre, lex_irrefl] at q1
    cases q1
theorem perm_sorted {α : Type} {le : α → α → Bool} : ∀ {l m : List α}, l.Perm m → l.Pairwise (fun a b => le a b = true) → m.Pairwise (fun a b => le a b = true) → (∀ a ∈ l, ∀ b ∈ l, le a b = true → le b a = true → a = b) → l = m
  | [], m, p, _, _, _ => by rw [List.nil_perm.mp p]
  | a :: l, [], p, _, _, _ => absurd p.length_eq (by simp)
  | a :: l, b :: m, p, hl, hm, anti => by
    have hab : a = b := by
      have ma : a ∈ b :: m := p.mem_iff.mp List.mem_cons_self
      have mb : b ∈ a :: l := p.mem_iff.mpr List.mem_cons_self
      rcases List.mem_cons.mp ma with e | ma
      · exact e
      rcases List.mem_cons.mp mb with e | mb
      · exact e.symm
      exact anti a List.mem_cons_self b (List.mem_cons_of_mem _ mb) (List.rel_of_pairwise_cons hl mb) (List.rel_of_pairwise_cons hm ma)
    subst hab
    rw [perm_sorted (List.perm_cons a |>.mp p) (List.Pairwise.of_cons hl) (List.Pairwise.of_cons hm) fun x hx y hy => anti x (List.mem_cons_of_mem _ hx) y (List.mem_cons_of_mem _ hy)]
theorem sortD_perm (ds : List Dt) : (sortD ds).Perm ds := List.mergeSort_perm _ _
theorem sortD_len (ds : List Dt) : (sortD ds).length = ds.length := (sortD_perm ds).length_eq
theorem sortD_pw (ds : List Dt) : (sortD ds).Pairwise (fun a b => PySem.W.dataLe false (fun d : Dt => d) a b = true) := PySem.W.sort_pairwise dataLe_total ds
section
variable {α : Type} {enc : α → Dt} {n : Nat}
theorem EncOk.anti (h : EncOk enc n) {a b : α} (h1 : PySem.W.dataLe false (fun d : Dt => d) (enc a) (enc b) = true) (h2 : PySem.W.dataLe false (fun d : Dt => d) (enc b) (enc a) = true) : a = b := by
  have h1 : (!PySem.W.dataLt (enc b) (enc a)) = true := h1
  have h2 : (!PySem.W.dataLt (enc a) (enc b)) = true := h2
  rw [Bool.not_eq_true'] at h1 h2
  exact (h.eqv a b).mp (dataLt_anti (h.ali a b) h2 h1)
/-- the order of data, of things -/
def leE (enc : α → Dt) (a b : α) : Bool := PySem.W.dataLe false (fun d : Dt => d) (enc a) (enc b)
theorem sortD_map (enc : α → Dt) (xs : List α) : sortD (xs.map enc) = (xs.mergeSort (leE enc)).map enc := (PySem.W.sort_maps enc fun _ _ _ _ => rfl).symm
theorem EncOk.sort_perm (h : EncOk enc n) {xs ys : List α} (p : xs.Perm ys) : sortD (xs.map enc) = sortD (ys.map enc) := by
  refine perm_sorted (le := PySem.W.dataLe false fun d : Dt => d) (((sortD_perm _).trans (p.map enc)).trans (sortD_perm _).symm) (sortD_pw _) (sortD_pw _) fun a ha b hb h1 h2 => ?_
  obtain ⟨x, _, rfl⟩ := List.mem_map.mp ((sortD_perm _).mem_iff.mp ha)
  obtain ⟨y, _, rfl⟩ := List.mem_map.mp ((sortD_perm _).mem_iff.mp hb)
  rw [h.anti h1 h2]
theorem sortD_sorted {ds : List Dt} (h : ds.Pairwise (fun a b => PySem.W.dataLe false (fun d : Dt => d) a b = true)) : sortD ds = ds := List.mergeSort_of_pairwise h
theorem sortD_idem (ds : List Dt) : sortD (sortD ds) = sortD ds := sortD_sorted (sortD_pw ds)
theorem sortOk_perm {ds es : List Dt} (p : es.Perm ds) (h : SortOk ds) : SortOk es := by
  refine ⟨fun d hd d' hd' => h.1 d (p.mem_iff.mp hd) d' (p.mem_iff.mp hd'), ?_, by rw [p.length_eq]; exact h.2.2.1, fun d hd => h.2.2.2 d (p.mem_iff.mp hd)⟩
  rcases h.2.1 with q | q
  · exact .inl fun d hd => q d (p.mem_iff.mp hd)
  · exact .inr fun d hd => q d (p.mem_iff.mp hd)
end
/-! comprehensions that are pure -/
section
variable {T : Type} {xs : List T} {enc f : T → Dt} {g : WG} {te : WE} {tt : WT} {vs : List Nat} {e1 : En} {R : List Dt → En → Prop}
theorem comp_filter {ds : List Dt} (p : T → Bool) (hd : ds = xs.map enc) (hl : xs.length ≤ sizeLine)
    (h : ∀ (i : Nat) (x : T), xs[i]? = some x → ∀ (Q1 : Dt → En → Prop) (Q2 : En → Prop), (p x = true → ∀ e4, restE e1 e4 vs = e1 → Q1 (f x) e4) → (p x = false → ∀ e3, restE e1 e3 vs = e1 → Q2 e3) → g (enc x) (wipeE e1 vs) fun e2 => tt e2 fun b e3 => if b = true then te e3 Q1 else Q2 e3)
    (k : R ((xs.filter p).map f) e1) :
    ∃ Inv : Nat → List Dt → En → Prop, Inv 0 [] e1 ∧
      (∀ (i : Nat) d acc e, ds[i]? = some d → Inv i acc e → g d (wipeE e vs) fun e2 => tt e2 fun b e3 => if b = true then te e3 fun y e4 => acc.length < sizeLine ∧ Inv (i + 1) (acc ++ [y]) (restE e1 e4 vs) else Inv (i + 1) acc (restE e1 e3 vs)) ∧
      ∀ acc e, Inv ds.length acc e → R acc e := by
  subst hd
  refine ⟨fun i acc e => acc = ((xs.take i).filter p).map f ∧ e = e1, ⟨rfl, rfl⟩, fun i d acc e hd hI => ?_, fun acc e hI => ?_⟩
  · obtain ⟨rfl, rfl⟩ := hI
    rw [List.getElem?_map] at hd
    cases q : xs[i]? with
    | none => rw [q] at hd; cases hd
    | some x =>
      rw [q] at hd
      cases hd
      have hi := (List.getElem?_eq_some_iff.mp q).1
      have ht : xs.take (i + 1) = xs.take i ++ [x] := by rw [List.take_add_one, q]; rfl
      refine h i x q _ _ (fun hp e4 he => ⟨?_, ?_, he⟩) (fun hp e3 he => ⟨?_, he⟩)
      · rw [List.length_map]
        refine Nat.lt_of_le_of_lt (List.length_filter_le _ _) ?_
        rw [List.length_take]
        omega
      · rw [ht, List.filter_append, List.map_append]
        simp [hp]
      · rw [ht, List.filter_append, List.map_append]
        simp [hp]
  · obtain ⟨rfl, rfl⟩ := hI
    rw [List.length_map, List.take_length]
    exact k
theorem comp_map {ds : List Dt} (hd : ds = xs.map enc) (hl : xs.length ≤ sizeLine)
    (h : ∀ (i : Nat) (x : T), xs[i]? = some x → ∀ (Q1 : Dt → En → Prop), (∀ e4, restE e1 e4 vs = e1 → Q1 (f x) e4) → g (enc x) (wipeE e1 vs) fun e2 => te e2 Q1)
    (k : R (xs.map f) e1) :
    ∃ Inv : Nat → List Dt → En → Prop, Inv 0 [] e1 ∧
      (∀ (i : Nat) d acc e, ds[i]? = some d → Inv i acc e → g d (wipeE e vs) fun e2 => wYes e2 fun b e3 => if b = true then te e3 fun y e4 => acc.length < sizeLine ∧ Inv (i + 1) (acc ++ [y]) (restE e1 e4 vs) else Inv (i + 1) acc (restE e1 e3 vs)) ∧
      ∀ acc e, Inv ds.length acc e → R acc e := by
  subst hd
  refine ⟨fun i acc e => acc = (xs.take i).map f ∧ e = e1, ⟨rfl, rfl⟩, fun i d acc e hd hI => ?_, fun acc e hI => ?_⟩
  · obtain ⟨rfl, rfl⟩ := hI
    rw [List.getElem?_map] at hd
    cases q : xs[i]? with
    | none => rw [q] at hd; cases hd
    | some x =>
      rw [q] at hd
      cases hd
      have hi := (List.getElem?_eq_some_iff.mp q).1
      have ht : xs.take (i + 1) = xs.take i ++ [x] := by rw [List.take_add_one, q]; rfl
      refine h i x q _ (fun e4 he => ⟨?_, ?_, he⟩)
      · rw [List.length_map, List.length_take]
        omega
      · rw [ht, List.map_append]
        rfl
  · obtain ⟨rfl, rfl⟩ := hI
    rw [List.length_map, List.take_length]
    exact k
end
theorem rgD1_get {n : Nat} {i : Nat} {d : Dt} (h : (rgD 0 1 n)[i]? = some d) : i < n ∧ d = .int (i : Nat) := by
  have hi : i < n := by
    have := (List.getElem?_eq_some_iff.mp h).1
    rw [rgD_len] at this
    exact this
  rw [rgD_get 0 1 n i hi, Int.mul_one, Int.zero_add] at h
  exact ⟨hi, (Option.some.inj h).symm⟩
theorem rgD2_get {lo : Int} {n : Nat} {i : Nat} {d : Dt} (h : (rgD lo 1 n)[i]? = some d) : i < n ∧ d = .int (lo + (i : Nat)) := by
  have hi : i < n := by
    have := (List.getElem?_eq_some_iff.mp h).1
    rw [rgD_len] at this
    exact this
  rw [rgD_get lo 1 n i hi, Int.mul_one] at h
  exact ⟨hi, (Option.some.inj h).symm⟩
theorem line_ge : 1000000 ≤ sizeLine := by rw [sizeLine_eq]; decide
theorem ln {n : Nat} (h : Nat.ble n 1000000 = true) : n ≤ sizeLine := Nat.le_trans (Nat.le_of_ble_eq_true h) line_ge
theorem map_get {α : Type} {enc : α → Dt} {xs : List α} {i : Nat} {d : Dt} (h : (xs.map enc)[i]? = some d) : ∃ x, xs[i]? = some x ∧ d = enc x := by
  rw [List.getElem?_map] at h
  cases q : xs[i]? with
  | none => rw [q] at h; cases h
  | some x =>
    rw [q] at h
    cases h
    exact ⟨x, rfl, rfl⟩

def cutG {α : Type} (xs : List α) (lo hi : Option Int) : List α := (xs.drop (HT.sIx xs.length 0 lo)).take (HT.sIx xs.length xs.length hi - HT.sIx xs.length 0 lo)
theorem cutD_map {α : Type} (f : α → Dt) (xs : List α) (lo hi : Option Int) : cutD (xs.map f) lo hi = (cutG xs lo hi).map f := by
  unfold cutD cutG
  rw [List.length_map, List.map_take, List.map_drop]
theorem cutG_len {α : Type} (xs : List α) (lo hi : Option Int) : (cutG xs lo hi).length ≤ xs.length := by
  unfold cutG
  rw [List.length_take, List.length_drop]
  omega
theorem cutG_to {α : Type} (xs : List α) (k : Nat) : cutG xs none (some (k : Int)) = xs.take k := by
  unfold cutG
  rw [HT.sIx_none, HT.sIx_nat, List.drop_zero, Nat.sub_zero]
  by_cases h : k ≤ xs.length
  · rw [Nat.min_eq_left h]
  · rw [Nat.min_eq_right (by omega), List.take_of_length_le (Nat.le_refl _), List.take_of_length_le (by omega)]

/-! ### what the laws share: _law_is of one thing and itself -/
inductive Lined : Dt → Prop where
  | none : Lined .none
  | bool (b : Bool) : Lined (.bool b)
  | int (i : Int) : Lined (.int i)
  | str (x : Str) : Lined (.str x)
  | list {xs : List Dt} (h : xs.length ≤ 1000000) (hx : ∀ x ∈ xs, Lined x) : Lined (.list xs)
  | tuple {xs : List Dt} (h : xs.length ≤ 1000000) (hx : ∀ x ∈ xs, Lined x) : Lined (.tuple xs)
theorem Lined.map {α : Type} {enc : α → Dt} {xs : List α} (hx : ∀ x ∈ xs, Lined (enc x)) : ∀ d ∈ xs.map enc, Lined d := fun d h => by
  obtain ⟨x, h1, rfl⟩ := List.mem_map.mp h
  exact hx x h1
theorem depth_mem : ∀ {xs : List Dt} {x : Dt}, x ∈ xs → x.depth ≤ PyData.depthAll xs
  | y :: xs, x, h => by
    simp only [PyData.depthAll]
    rcases List.mem_cons.mp h with rfl | h
    · exact Nat.le_max_left _ _
    · exact Nat.le_trans (depth_mem h) (Nat.le_max_right _ _)
theorem shaped_mem {xs : List Dt} {x : Dt} {d : Dt} (hd : d = .list xs ∨ d = .tuple xs) (h : SeqAt.shaped d = true) (hx : x ∈ xs) : SeqAt.shaped x = true ∧ x.depth < d.depth := by
  have h1 := SeqAt.canLay_of_shaped h
  have h2 := SeqAt.depth_of_shaped h
  have e : d.canLay0 = PyData.canLayAll0 xs ∧ d.depth = PyData.depthAll xs + 1 := by
    rcases hd with rfl | rfl <;> exact ⟨by simp only [PyData.canLay0], by simp only [PyData.depth]⟩
  have h3 := depth_mem hx
  unfold SeqAt.shaped
  rw [PyData.canLay0_of_mem xs x (by rw [← e.1]; exact h1) hx]
  simp only [Bool.true_and, decide_eq_true_eq]
  omega
theorem shaped_int (i : Int) : SeqAt.shaped (.int i) = true := EncOk.int.shaped (by decide) i
theorem shaped_bool (i : Bool) : SeqAt.shaped (.bool i) = true := EncOk.bool.shaped (by decide) i
mutual
theorem eqv_self : ∀ d : Dt, d.canLay0 = true → PyData.eqv d d = true
  | .none, _ => by simp [PyData.eqv]
  | .bool b, _ => by simp [PyData.eqv]
  | .int b, _ => by simp [PyData.eqv]
  | .str b, _ => by simp [PyData.eqv]
  | .list b, h => by simp only [PyData.eqv]; exact eqv_selfAll b (by simpa only [PyData.canLay0] using h)
  | .tuple b, h => by simp only [PyData.eqv]; exact eqv_selfAll b (by simpa only [PyData.canLay0] using h)
  | .dict b, h => by simp [PyData.canLay0] at h
theorem eqv_selfAll : ∀ d : List Dt, PyData.canLayAll0 d = true → PyData.eqvAll d d = true
  | [], _ => by simp [PyData.eqvAll]
  | x :: xs, h => by
    simp only [PyData.canLayAll0, Bool.and_eq_true] at h
    simp only [PyData.eqvAll, Bool.and_eq_true]
    exact ⟨eqv_self x h.1, eqv_selfAll xs h.2⟩
end
theorem shaped_eqv {d : Dt} (h : SeqAt.shaped d = true) : PyData.eqv d d = true := eqv_self d (SeqAt.canLay_of_shaped h)
def ar_is (z : Dt) : List Dt := [z, z]
def pr_is (n : Nat) (z : Dt) : Prop := z.depth < n ∧ SeqAt.shaped z = true ∧ Lined z
def po_is (_ : Dt) (d : Dt) : Prop := d = .bool true
def w_is (n : Nat) : WS := (wSeq (wIf (wOrT (wTB (wIsi .bool (wPeek 0))) (wTB (wIsi .bool (wPeek 1)))) (wRet (wAndV (wIsi .bool (wPeek 0)) (wAndV (wIsi .bool (wPeek 1)) (wBinV gEq 0 (wPeek 1))))) wNext)
  (wSeq (wIf (wOrT (wTB (wIsi .tuple (wPeek 0))) (wTB (wIsi .list (wPeek 0)))) (wSeq (wIf (wTB (wBin gNe (wIsi .tuple (wPeek 0)) (wIsi .tuple (wPeek 1)))) (wRet (wC (.bool false))) wNext)
  (wSeq (wIf (wTB (wBin gNe (wIsi .list (wPeek 0)) (wIsi .list (wPeek 1)))) (wRet (wC (.bool false))) wNext)
  (wRet (wAndV (wBin gEq (wC1 gLen (wPeek 0)) (wC1 gLen (wPeek 1))) (wC1 gAll (wFrz (wComp (wIZ (wVar 0) (wVar 1)) (wgTup 2 (wgCons (wgName 2) (wgCons (wgName 3) wgNil))) wYes (wCall ar_is (pr_is n) po_is (wACons (wVar 2) (wACons (wVar 3) wANil))) [2, 3]))))))) wNext)
  (wSeq (wIf (wTB (wIsi .dict (wPeek 0))) (wSeq wNever
  wNever) wNext)
  (wRet (wAndV (wBin gEq (wIsi .int (wPeek 0)) (wIsi .int (wPeek 1))) (wBinV gEq 0 (wPeek 1)))))))
theorem zip_self (xs : List Dt) : zipD xs xs = xs.map fun x => .tuple [x, x] := by
  unfold zipD
  induction xs with
  | nil => rfl
  | cons x xs ih => rw [List.zip_cons_cons, List.map_cons, List.map_cons, ih]
theorem all_tt (xs : List Dt) {R : Dt → Prop} (k : R (.bool true)) : gAll (.list (xs.map fun _ => .bool true)) R := by
  have e : (xs.map fun _ => PyData.bool true) = (xs.map fun _ => true).map PyData.bool := by rw [List.map_map]; rfl
  show (match blsOf (xs.map fun _ => PyData.bool true) with | some bs => R (.bool (bs.all id)) | none => False)
  rw [e, blsOf_map]
  have e : (xs.map fun _ => true).all id = true := by simp
  show R (.bool ((xs.map fun _ => true).all id))
  rw [e]
  exact k
theorem is_tail (n : Nat) {one : Dt} {xs : List Dt} (h1 : one = .list xs ∨ one = .tuple xs) (hd : one.depth < n + 1) (s1 : SeqAt.shaped one = true) (hl : xs.length ≤ 1000000) (hx : ∀ x ∈ xs, Lined x) :
    (wAndV (wBin gEq (wC1 gLen (wPeek 0)) (wC1 gLen (wPeek 1))) (wC1 gAll (wFrz (wComp (wIZ (wVar 0) (wVar 1)) (wgTup 2 (wgCons (wgName 2) (wgCons (wgName 3) wgNil))) wYes (wCall ar_is (pr_is n) po_is (wACons (wVar 2) (wACons (wVar 3) wANil))) [2, 3])))) [.sh one, .sh one, .no, .no, .no] fun d _ => d = .bool true := by
  have key : ∀ {R : Dt → Prop}, R (.bool true) → (∃ Inv : Nat → List Dt → En → Prop, Inv 0 [] [.sh one, .sh one, .no, .no, .no] ∧
      (∀ (i : Nat) d acc e, (zipD xs xs)[i]? = some d → Inv i acc e → wgTup 2 (wgCons (wgName 2) (wgCons (wgName 3) wgNil)) d (wipeE e [2, 3]) fun e2 => wYes e2 fun b e3 => if b = true then wCall ar_is (pr_is n) po_is (wACons (wVar 2) (wACons (wVar 3) wANil)) e3 fun y e4 => acc.length < sizeLine ∧ Inv (i + 1) (acc ++ [y]) (restE [.sh one, .sh one, .no, .no, .no] e4 [2, 3]) else Inv (i + 1) acc (restE [.sh one, .sh one, .no, .no, .no] e3 [2, 3])) ∧
      ∀ acc e, Inv (zipD xs xs).length acc e → gAll (.list acc) fun d => R d) := fun {R} k => by
    refine comp_map (R := fun acc _ => gAll (.list acc) fun d => R d) (xs := xs) (enc := fun x => .tuple [x, x]) (f := fun _ => .bool true) (zip_self xs) (Nat.le_trans hl line_ge) (fun i x hx2 Q q => ?_) (all_tt xs k)
    have hm : x ∈ xs := List.mem_of_getElem? hx2
    have sm := shaped_mem h1 s1 hm
    have dp : x.depth < n := by have := sm.2; omega
    exact ⟨rfl, x, rfl, ⟨dp, sm.1, hx x hm⟩, fun d hd => by rw [show d = .bool true from hd]; exact q _ rfl⟩
  rcases h1 with rfl | rfl
  · refine ⟨⟨shaped_int _, shaped_int _⟩, ?_⟩
    have e : PyData.eqv (.int (xs.length : Nat)) (.int (xs.length : Nat)) = true := by simp [PyData.eqv]
    show (match (PyData.bool (PyData.eqv (.int (xs.length : Nat)) (.int (xs.length : Nat)))) with | .bool true => _ | .bool false => _ | _ => False)
    rw [e]
    exact key rfl
  · refine ⟨⟨shaped_int _, shaped_int _⟩, ?_⟩
    have e : PyData.eqv (.int (xs.length : Nat)) (.int (xs.length : Nat)) = true := by simp [PyData.eqv]
    show (match (PyData.bool (PyData.eqv (.int (xs.length : Nat)) (.int (xs.length : Nat)))) with | .bool true => _ | .bool false => _ | _ => False)
    rw [e]
    exact key rfl
theorem eq_end {one : Dt} (s1 : SeqAt.shaped one = true) (env : En) : gEq one one fun d => d = .bool true := by
  refine ⟨⟨s1, s1⟩, ?_⟩
  rw [shaped_eqv s1]
theorem hw_is : ∀ n z, pr_is (n + 1) z → w_is n (endsR (po_is z)) (startE ["one", "other", "mine", "yours", "key"] (ar_is z)) := by
  intro n z ⟨h1, h2, h3⟩
  cases h3 with
  | none => exact ⟨⟨shaped_bool _, shaped_bool _⟩, eq_end h2 []⟩
  | bool b => exact eq_end h2 []
  | int b => exact ⟨⟨shaped_bool _, shaped_bool _⟩, eq_end h2 []⟩
  | str b => exact ⟨⟨shaped_bool _, shaped_bool _⟩, eq_end h2 []⟩
  | list h hx => exact ⟨⟨shaped_bool _, shaped_bool _⟩, ⟨shaped_bool _, shaped_bool _⟩, is_tail n (.inl rfl) h1 h2 h hx⟩
  | tuple h hx => exact ⟨⟨shaped_bool _, shaped_bool _⟩, ⟨shaped_bool _, shaped_bool _⟩, is_tail n (.inr rfl) h1 h2 h hx⟩
theorem is_h0 : ∀ z, ¬ pr_is 0 z := fun z h => absurd h.1 (Nat.not_lt_zero _)
theorem is_hl : ∀ z, (ar_is z).length = 2 := fun _ => rfl
/-! one step of a text, for goals that do not unfold by themselves -/
theorem st_next {E : WEnds} {env : En} (h : E.nx env) : wNext E env := h
theorem st_set {i : Nat} {w : WE} {u : WS} {E : WEnds} {env : En} (h : w env fun d e => u E (e.set i (.sh d))) : wSeq (wSet i w) u E env := h
theorem st_setF {i : Nat} {w : WF} {u : WS} {E : WEnds} {env : En} (h : w env fun d e => u E (e.set i (.own d))) : wSeq (wSetF i w) u E env := h
theorem e_sl {w : WE} {wo wh : WO} {env : En} {R : Dt → En → Prop} (h : w env fun d e1 => wo e1 fun i e2 => wh e2 fun j e3 => gSl d i j fun d' => R d' e3) : wSl w wo wh env R := h
theorem e_at {w : WE} {env env' : En} {R : Dt → En → Prop} (e : env = env') (h : w env' R) : w env R := by rw [e]; exact h

/-! ### determinant: a matrix of one's own, written in place -/
abbrev Mat := List (List Int)
def rowE (r : List Int) : Dt := .list (r.map PyData.int)
def matD (M : Mat) : Dt := .list (M.map rowE)
def mcell (M : Mat) (p q : Nat) : Int := (M.getD p []).getD q 0
def small64 (x : Int) : Bool := decide (-(2 ^ 64) < x) && decide (x < 2 ^ 64)
def setC (M : Mat) (p q : Nat) (v : Int) : Mat := M.set p ((M.getD p []).set q v)
def cellsO (M0 : Mat) (at_ p : Nat) (b : Int) : Nat → Option Mat
  | 0 => some M0
  | j + 1 => (cellsO M0 at_ p b j).bind fun M => if small64 (mcell M p (at_ + 1 + j)) && small64 (mcell M p at_) then some (setC M p (at_ + 1 + j) ((mcell M p (at_ + 1 + j) * mcell M at_ at_ - mcell M p at_ * mcell M at_ (at_ + 1 + j)).fdiv b)) else none
def rowsO (M0 : Mat) (at_ c : Nat) (b : Int) : Nat → Option Mat
  | 0 => some M0
  | i + 1 => (rowsO M0 at_ c b i).bind fun M => cellsO M at_ (at_ + 1 + i) b c
def swapM (M : Mat) (p q : Nat) : Mat := (M.set p (M.getD q [])).set q (M.getD p [])
def goodL (M : Mat) (k n : Nat) : List Nat := ((List.range (n - k)).map (k + ·)).filter fun p => !decide (mcell M p k = 0)
def stO (M0 : Mat) (n : Nat) : Nat → Option (Option (Mat × Int × Int))
  | 0 => some (some (M0, 1, 1))
  | k + 1 => match stO M0 n k with
    | none => none
    | some none => some none
    | some (some (M, s, b)) => match goodL M k n with
      | [] => some none
      | g :: _ => if b ≠ 0 ∧ b.natAbs < 1073741824 then (rowsO (if g = k then M else swapM M k g) k (n - (k + 1)) b (n - (k + 1))).map fun M2 => some (M2, if g = k then s else -s, mcell M2 k k) else none
def detO (M : Mat) : Option Int := if M.length ≤ 1000 ∧ M.all (fun r => r.length == M.length) = true then
    (if M.length = 0 then some 1 else match stO M M.length (M.length - 1) with
      | none => none
      | some none => some 0
      | some (some (M', s, _)) => if small64 s then some (s * mcell M' (M.length - 1) (M.length - 1)) else none)
  else none
def Sq (n : Nat) (M : Mat) : Prop := M.length = n ∧ ∀ r ∈ M, r.length = n
theorem Sq.row {n : Nat} {M : Mat} (h : Sq n M) {p : Nat} (hp : p < n) : M[p]? = some (M.getD p []) ∧ (M.getD p []).length = n := by
  have hl : p < M.length := by rw [h.1]; exact hp
  have e : M[p]? = some M[p] := List.getElem?_eq_getElem hl
  have e2 : M.getD p [] = M[p] := by rw [List.getD_eq_getElem?_getD, e]; rfl
  rw [e2]
  exact ⟨e, h.2 _ (List.getElem_mem hl)⟩
theorem Sq.set {n : Nat} {M : Mat} (h : Sq n M) {p : Nat} {r : List Int} (hr : r.length = n) : Sq n (M.set p r) := by
  refine ⟨by rw [List.length_set]; exact h.1, fun x hx => ?_⟩
  rcases List.mem_or_eq_of_mem_set hx with q | q
  · exact h.2 x q
  · rw [q]
    exact hr
theorem Sq.setC {n : Nat} {M : Mat} (h : Sq n M) {p q : Nat} {v : Int} (hp : p < n) : Sq n (setC M p q v) := h.set (by rw [List.length_set]; exact (h.row hp).2)
theorem Sq.swap {n : Nat} {M : Mat} (h : Sq n M) {p q : Nat} (hp : p < n) (hq : q < n) : Sq n (swapM M p q) := (h.set (h.row hq).2).set (h.row hp).2
theorem Sq.cells {n : Nat} {M0 : Mat} (h : Sq n M0) {at_ p : Nat} {b : Int} (hp : p < n) : ∀ {j : Nat} {M : Mat}, cellsO M0 at_ p b j = some M → Sq n M
  | 0, M, e => by cases e; exact h
  | j + 1, M, e => by
    unfold cellsO at e
    obtain ⟨M1, e1, e2⟩ := Option.bind_eq_some_iff.mp e
    split at e2
    · cases e2
      exact (Sq.cells h hp e1).setC hp
    · cases e2
theorem Sq.rows {n : Nat} {M0 : Mat} (h : Sq n M0) {at_ c : Nat} {b : Int} : ∀ {i : Nat} {M : Mat}, at_ + 1 + i ≤ n → rowsO M0 at_ c b i = some M → Sq n M
  | 0, M, _, e => by cases e; exact h
  | i + 1, M, hi, e => by
    unfold rowsO at e
    obtain ⟨M1, e1, e2⟩ := Option.bind_eq_some_iff.mp e
    exact (Sq.rows h (by omega) e1).cells (by omega) e2
theorem cellsO_le {M0 : Mat} {at_ p : Nat} {b : Int} : ∀ {m : Nat} {M : Mat}, cellsO M0 at_ p b m = some M → ∀ j, j ≤ m → ∃ M', cellsO M0 at_ p b j = some M'
  | 0, M, e, j, hj => ⟨M, by rw [show j = 0 by omega]; exact e⟩
  | m + 1, M, e, j, hj => by
    rcases Nat.lt_or_ge m j with c | c
    · exact ⟨M, by rw [show j = m + 1 by omega]; exact e⟩
    · unfold cellsO at e
      obtain ⟨M1, e1, _⟩ := Option.bind_eq_some_iff.mp e
      exact cellsO_le e1 j c
theorem rowsO_le {M0 : Mat} {at_ c : Nat} {b : Int} : ∀ {m : Nat} {M : Mat}, rowsO M0 at_ c b m = some M → ∀ j, j ≤ m → ∃ M', rowsO M0 at_ c b j = some M'
  | 0, M, e, j, hj => ⟨M, by rw [show j = 0 by omega]; exact e⟩
  | m + 1, M, e, j, hj => by
    rcases Nat.lt_or_ge m j with c | c
    · exact ⟨M, by rw [show j = m + 1 by omega]; exact e⟩
    · unfold rowsO at e
      obtain ⟨M1, e1, _⟩ := Option.bind_eq_some_iff.mp e
      exact rowsO_le e1 j c
theorem stO_le {M0 : Mat} {n : Nat} : ∀ {m : Nat} {r : Option (Mat × Int × Int)}, stO M0 n m = some r → ∀ j, j ≤ m → ∃ r', stO M0 n j = some r'
  | 0, r, e, j, hj => ⟨r, by rw [show j = 0 by omega]; exact e⟩
  | m + 1, r, e, j, hj => by
    rcases Nat.lt_or_ge m j with c | c
    · exact ⟨r, by rw [show j = m + 1 by omega]; exact e⟩
    · unfold stO at e
      cases q : stO M0 n m with
      | none => rw [q] at e; cases e
      | some r1 => exact stO_le q j c
theorem stO_zero {M0 : Mat} {n : Nat} {k : Nat} (h : stO M0 n k = some none) : ∀ j, stO M0 n (k + j) = some none
  | 0 => h
  | j + 1 => by
    show (match stO M0 n (k + j) with | none => _ | some none => _ | some (some (M, s, b)) => _) = _
    rw [stO_zero h j]
/-- the matrix in the heap -/
structure MatAt (He H : Hp) (l : Addr) (as : List Addr) (M : Mat) : Prop where
  hl : H l = some (.lst (as.map V.ref))
  el : He l = none
  ea : ∀ a ∈ as, He a = none
  nl : ∀ a ∈ as, a ≠ l
  nd : ∀ (p q : Nat) (a : Addr), as[p]? = some a → as[q]? = some a → p = q
  ln : as.length = M.length
  rw : ∀ (p : Nat) (a : Addr) (r : List Int), as[p]? = some a → M[p]? = some r → H a = some (.lst (r.map V.int))
  keep : Same He H
theorem MatAt.mono {He H H' : Hp} {l : Addr} {as : List Addr} {M : Mat} (h : MatAt He H l as M) (s : Same H H') : MatAt He H' l as M :=
  ⟨s _ _ h.hl, h.el, h.ea, h.nl, h.nd, h.ln, fun p a r e1 e2 => s _ _ (h.rw p a r e1 e2), h.keep.trans s⟩
theorem MatAt.addr {He H : Hp} {l : Addr} {as : List Addr} {M : Mat} (h : MatAt He H l as M) {p : Nat} (hp : p < M.length) : ∃ a, as[p]? = some a ∧ a ∈ as := by
  have hl : p < as.length := by rw [h.ln]; exact hp
  exact ⟨as[p], List.getElem?_eq_getElem hl, List.getElem_mem hl⟩
theorem dpAll_intsR {K : PySem.W.Frag} {G : Hp} : ∀ (r : List Int), DpAll K G (r.map V.int) (r.map PyData.int)
  | [] => .nil
  | i :: r => .cons (.int i) (dpAll_intsR r)
theorem ints_of {K : PySem.W.Frag} {G : Hp} : ∀ {vs : List V} (r : List Int), DpAll K G vs (r.map PyData.int) → vs = r.map V.int
  | _, [], h => dpAll_nil h
  | _, i :: r, h => by
    cases h with
    | cons h1 h2 =>
      cases h1
      rw [ints_of r h2]
      rfl
theorem MatAt.dp {K : PySem.W.Frag} {He H : Hp} {l : Addr} {as : List Addr} {M : Mat} (h : MatAt He H l as M) : Dp K H (.ref l) (matD M) := by
  have key : ∀ (as : List Addr) (M : Mat), as.length = M.length → (∀ (p : Nat) (a : Addr) (r : List Int), as[p]? = some a → M[p]? = some r → H a = some (.lst (r.map V.int))) → DpAll K H (as.map V.ref) (M.map rowE) := by
    intro as
    induction as with
    | nil =>
      intro M e _
      cases M with
      | nil => exact .nil
      | cons r M => cases e
    | cons a as ih =>
      intro M e hr
      cases M with
      | nil => cases e
      | cons r M => exact .cons (.lst (SqL.of (hr 0 a r rfl rfl)) (dpAll_intsR r)) (ih M (Nat.succ.inj e) fun p a' r' e1 e2 => hr (p + 1) a' r' e1 e2)
  exact .lst (SqL.of h.hl) (key as M h.ln h.rw)
theorem MatAt.setC {He H : Hp} {l : Addr} {as : List Addr} {M : Mat} (h : MatAt He H l as M) {p q : Nat} {a : Addr} {v : Int} (ea : as[p]? = some a) (hp : p < M.length) :
    MatAt He (upd H a (.lst (((M.getD p []).set q v).map V.int))) l as (setC M p q v) := by
  have am : a ∈ as := List.mem_of_getElem? ea
  refine ⟨by rw [upd_ne (fun e => h.nl a am e.symm)]; exact h.hl, h.el, h.ea, h.nl, h.nd, by rw [h.ln]; unfold DL.setC; rw [List.length_set], fun p' a' r e1 e2 => ?_, fun b o hb => ?_⟩
  · by_cases c : p' = p
    · subst c
      rw [ea] at e1
      cases e1
      unfold DL.setC at e2
      rw [List.getElem?_set_self hp] at e2
      cases e2
      exact upd_same
    · have hne : a' ≠ a := fun e => c (h.nd _ _ _ (by rw [← e]; exact e1) ea)
      rw [upd_ne hne]
      unfold DL.setC at e2
      rw [List.getElem?_set_ne (fun e => c e.symm)] at e2
      exact h.rw p' a' r e1 e2
  · rw [upd_ne (ne_of_none hb (h.ea a am))]
    exact h.keep b o hb
theorem get_set2 {α : Type} {xs : List α} {p q : Nat} {x y : α} (hp : p < xs.length) (hq : q < xs.length) (i : Nat) : ((xs.set p x).set q y)[i]? = if i = q then some y else if i = p then some x else xs[i]? := by
  by_cases c : i = q
  · subst c
    rw [if_pos rfl, List.getElem?_set_self (by rw [List.length_set]; exact hq)]
  · rw [if_neg c, List.getElem?_set_ne (fun e => c e.symm)]
    by_cases d : i = p
    · subst d
      rw [if_pos rfl, List.getElem?_set_self hp]
    · rw [if_neg d, List.getElem?_set_ne (fun e => d e.symm)]
theorem sw_inj {p q i j : Nat} (z : (if i = q then p else if i = p then q else i) = (if j = q then p else if j = p then q else j)) : i = j := by
  repeat' split at z
  all_goals omega
theorem MatAt.swap {He H : Hp} {l : Addr} {as : List Addr} {M : Mat} {n : Nat} (h : MatAt He H l as M) (sq : Sq n M) {p q : Nat} {a b : Addr} (ea : as[p]? = some a) (eb : as[q]? = some b) (hp : p < n) (hq : q < n) (ne : p ≠ q) {o : HO} :
    MatAt He (upd (upd H l o) l (.lst (((as.set p b).set q a).map V.ref))) l ((as.set p b).set q a) (swapM M p q) := by
  have hpa : p < as.length := by rw [h.ln, sq.1]; exact hp
  have hqa : q < as.length := by rw [h.ln, sq.1]; exact hq
  have am : a ∈ as := List.mem_of_getElem? ea
  have bm : b ∈ as := List.mem_of_getElem? eb
  have mem : ∀ x ∈ (as.set p b).set q a, x ∈ as := fun x hx => by
    rcases List.mem_or_eq_of_mem_set hx with c | c
    · rcases List.mem_or_eq_of_mem_set c with d | d
      · exact d
      · rw [d]; exact bm
    · rw [c]; exact am
  have off : ∀ x, x ≠ l → (upd (upd H l o) l (.lst (((as.set p b).set q a).map V.ref))) x = H x := fun x hx => by rw [upd_ne hx, upd_ne hx]
  have back : ∀ (i : Nat) (x : Addr), ((as.set p b).set q a)[i]? = some x → as[if i = q then p else if i = p then q else i]? = some x := fun i x e => by
    rw [get_set2 hpa hqa] at e
    by_cases c : i = q
    · rw [if_pos c] at e
      cases e
      rw [if_pos c]
      exact ea
    · rw [if_neg c] at e ⊢
      by_cases d : i = p
      · rw [if_pos d] at e ⊢
        cases e
        exact eb
      · rw [if_neg d] at e ⊢
        exact e
  refine ⟨upd_same, h.el, fun x hx => h.ea x (mem x hx), fun x hx => h.nl x (mem x hx), fun i j x e1 e2 => ?_, by rw [List.length_set, List.length_set, h.ln]; unfold swapM; rw [List.length_set, List.length_set], fun i x r e1 e2 => ?_, fun x o' hx => ?_⟩
  · exact sw_inj (h.nd _ _ _ (back i x e1) (back j x e2))
  · have xm := mem x (List.mem_of_getElem? e1)
    rw [off x (h.nl x xm)]
    refine h.rw _ x r (back i x e1) ?_
    unfold swapM at e2
    rw [get_set2 (by rw [sq.1]; exact hp) (by rw [sq.1]; exact hq)] at e2
    by_cases c : i = q
    · rw [if_pos c] at e2 ⊢
      rw [(sq.row hp).1]
      exact e2
    · rw [if_neg c] at e2 ⊢
      by_cases d : i = p
      · rw [if_pos d] at e2 ⊢
        rw [(sq.row hq).1]
        exact e2
      · rw [if_neg d] at e2 ⊢
        exact e2
  · rw [off x (ne_of_none hx h.el)]
    exact h.keep x o' hx

/-! the expressions on the whole heap as it stands -/
def FV (H : Hp) : Base := ⟨H, H, none⟩
inductive View (K : PySem.W.Frag) (H : Hp) : L2.St → En → Prop where
  | nil : View K H [] []
  | no {o σ env} (r : View K H σ env) : View K H (o :: σ) (.no :: env)
  | sh {v d σ env} (h : Dp K H v d) (r : View K H σ env) : View K H (some v :: σ) (.sh d :: env)
theorem View.len {K : PySem.W.Frag} {H : Hp} : ∀ {σ : L2.St} {env : En}, View K H σ env → env.length = σ.length
  | _, _, .nil => rfl
  | _, _, .no r => by rw [List.length_cons, List.length_cons, View.len r]
  | _, _, .sh _ r => by rw [List.length_cons, List.length_cons, View.len r]
theorem View.get {K : PySem.W.Frag} {H : Hp} : ∀ {σ : L2.St} {env : En}, View K H σ env → ∀ (i : Nat) (s : Sl), env[i]? = some s → isOwn s = false ∧ RepS K (FV H) H H s (σ[i]?)
  | _, _, .nil, i, s, e => by simp at e
  | _, _, .no r, 0, s, e => by cases e; exact ⟨rfl, trivial⟩
  | _, _, .no r, i + 1, s, e => View.get r i s e
  | _, _, .sh h r, 0, s, e => by cases e; exact ⟨rfl, _, rfl, h⟩
  | _, _, .sh h r, i + 1, s, e => View.get r i s e
theorem View.rep {K : PySem.W.Frag} {H : Hp} {σ : L2.St} {env : En} (v : View K H σ env) : Rep K (FV H) H H σ env :=
  ⟨v.len, Same.refl _, Same.refl _, fun _ _ _ h => h, fun a h => (by cases h), fun a h1 h2 => absurd h2 h1, fun i s e => (v.get i s e).2, fun i j s s' a e1 e2 o1 => (by rw [(v.get i s e1).1] at o1; cases o1), fun a s h => (by cases h)⟩
section
variable {K : PySem.W.Frag} {H : Hp} {σ : L2.St} {env : En}
theorem Stp.same {env' : En} {G' H' : Hp} (s : Stp K (FV H) σ env H H env' G' H') : Same H H' := fun a o h => s.rep.hh a o (fun e => by cases e) h
theorem runI {t : TE} {w : WE} {z : Int} {Q : VK} (s : SimE K t w) (v : View K H σ env) (hw : w env fun d _ => d = .int z) (k : ∀ H', Same H H' → Q (.int z) H') : t σ H Q :=
  s _ _ _ _ _ _ _ v.rep hw fun d e' x G' H' st dv hd => by
    subst hd
    cases dv
    exact k H' st.same
theorem runT {t : TT} {w : WT} {c : Bool} {Q : Bool → Hp → Prop} (s : SimT K t w) (v : View K H σ env) (hw : w env fun b _ => b = c) (k : ∀ H', Same H H' → Q c H') : t σ H Q :=
  s _ _ _ _ _ _ _ v.rep hw fun b e' G' H' st hb => by
    subst hb
    exact k H' st.same
theorem runF {t : TE} {w : WF} {g : List Int} {Q : VK} (s : SimF K t w) (v : View K H σ env) (hw : w env fun ds _ => ds = g.map PyData.int) (k : ∀ l H', Same H H' → H' l = some (.lst (g.map V.int)) → Q (.ref l) H') : t σ H Q :=
  s _ _ _ _ _ _ _ v.rep hw fun ds e' l G' H' st _ la hd => by
    subst hd
    obtain ⟨_, vs, h1, h2⟩ := la
    rw [ints_of g h2] at h1
    exact k l H' st.same h1
theorem for_rng {lo : Int} {n j : Nat} {D : Ends} {tb : TS} {wi : TI} (Inv : Nat → L2.St → Hp → Prop) (hi : ∀ R : It → Hp → Prop, (∀ H', Same H H' → R (Itr lo n) H') → wi σ H R) (h0 : ∀ H', Same H H' → Inv 0 σ H')
    (step : ∀ i σ H, i < n → Inv i σ H → tb { D with nx := Inv (i + 1), ct := Inv (i + 1), bk := D.nx } (σ.set j (some (.int (lo + i)))) H) (fin : ∀ σ H, Inv n σ H → D.nx σ H) : tFor wi (gName j) tb D σ H := by
  refine hi _ fun H' s => ⟨fun i m σ H => m = n - i ∧ i ≤ n ∧ Inv i σ H, ⟨n, rfl, Nat.zero_le _, h0 H' s⟩, fun i m σ H ⟨hm, hn, inv⟩ => ?_⟩
  rcases Nat.lt_or_ge i n with c | c
  · refine .inr ⟨c, Inv (i + 1), fun σ' H' iv => ⟨n - (i + 1), by omega, rfl, c, iv⟩, fun x H' hy => ?_⟩
    obtain ⟨rfl, rfl⟩ := hy
    exact step i σ H' c inv
  · refine .inl ⟨c, fin σ H ?_⟩
    rw [← show i = n by omega]
    exact inv
end
theorem get_ints {r : List Int} {q : Nat} (hq : q < r.length) : (r.map PyData.int)[q]? = some (.int (r.getD q 0)) := by
  rw [List.getElem?_map, List.getElem?_eq_getElem hq, List.getD_eq_getElem?_getD, List.getElem?_eq_getElem hq]
  rfl
theorem w_cell {env : En} {i j : Nat} {M : Mat} {p q : Nat} {R : Dt → En → Prop} (h1 : peek env 1 = some (matD M)) (hi : peek env i = some (.int (p : Nat))) (hj : peek env j = some (.int (q : Nat))) (hp : p < M.length) (hq : q < (M.getD p []).length) (k : R (.int (mcell M p q)) env) :
    wBin gIx (wBinV gIx 1 (wPeek i)) (wPeek j) env R := by
  have e1 : atI (M.map rowE) (p : Int) = some (rowE (M.getD p [])) := atI_nat (by rw [List.getElem?_map, List.getElem?_eq_getElem hp, List.getD_eq_getElem?_getD, List.getElem?_eq_getElem hp]; rfl)
  have e2 : atI ((M.getD p []).map PyData.int) (q : Int) = some (.int (mcell M p q)) := atI_nat (get_ints hq)
  unfold wBin wBinV
  rw [h1]
  unfold wPeek
  simp only [hi, h1]
  show (match atI (M.map rowE) (p : Int) with | some d => _ | none => False)
  rw [e1]
  simp only [hj]
  show (match atI ((M.getD p []).map PyData.int) (q : Int) with | some d => _ | none => False)
  rw [e2]
  exact k
def rLsO (K : PySem.W.Frag) : List V → Hp → VK → Prop := fun xs H Q => ∃ p ys, xs = [.ref p] ∧ (SqL K H p ys ∨ SqT K H p ys) ∧ ∀ l, H l = none → Q (.ref l) (upd H l (.lst ys))
def tDet1 (K : PySem.W.Frag) : TS := tAsg (tTup (tCons (tLc (iList K (tVar 0)) (gName 10) tYes (tCB (rLsO K) (tCons (tVar 10) tNil)) [10]) (tCons (tC (.int 1)) (tCons (tC (.int 1)) tNil)))) (gTup K 3 (gCons (gName 1) (gCons (gName 2) (gCons (gName 3) gNil))))
def tSwap (K : PySem.W.Frag) : TS := tAsg (tTup (tCons (tOp (rIx K) (tVar 1) (tOp (rIx K) (tVar 6) (tC (.int 0)))) (tCons (tOp (rIx K) (tVar 1) (tVar 5)) tNil))) (gTup K 2 (gCons (L2.gSub (tVar 1) (tVar 5) rSetL) (gCons (L2.gSub (tVar 1) (tOp (rIx K) (tVar 6) (tC (.int 0))) rSetL) gNil)))
/-- the rows are copied -/
theorem sim_det1 {K : PySem.W.Frag} {He : Hp} {M : Mat} {v0 : V} {o1 o2 o3 o4 o5 o6 o7 o8 o9 o10 : Option V} {D : Ends} (d0 : Dp K He v0 (matD M)) (hM : M.length ≤ 1000)
    (k : ∀ (H : Hp) (l : Addr) (as : List Addr), MatAt He H l as M → D.nx [some v0, some (.ref l), some (.int 1), some (.int 1), o4, o5, o6, o7, o8, o9, o10] H) : tDet1 K D [some v0, o1, o2, o3, o4, o5, o6, o7, o8, o9, o10] He := by
  cases d0 with
  | @lst a vs _ hs ha =>
    refine ⟨_, rfl, a, rfl, ⟨vs, hs⟩, fun l hl => ⟨fun i m H => m = M.length - i ∧ i ≤ M.length ∧ ∃ as, MatAt He H l as (M.take i), ⟨M.length, rfl, Nat.zero_le _, [], ?_⟩, fun i m H hI => ?_⟩⟩
    · exact ⟨upd_same, hl, fun a h => by (cases h), fun a h => by (cases h), fun p q a h => by (simp at h), rfl, fun p a r h => by (simp at h), same_new hl⟩
    · obtain ⟨hm, hi, as, ma⟩ := hI
      have lv : vs.length = M.length := by rw [DpAll.len ha, List.length_map]
      have hs' : SqL K H a vs := ma.keep.seq hs
      rcases Nat.lt_or_ge i M.length with c | c
      · have ev : vs[i]? = some vs[i] := List.getElem?_eq_getElem (by rw [lv]; exact c)
        refine .inr ⟨⟨vs, vs[i], hs', ev⟩, fun H' => ∃ as', MatAt He H' l as' (M.take (i + 1)), fun H' ⟨as', ma'⟩ => ⟨M.length - (i + 1), by omega, rfl, c, as', ma'⟩, fun x H' hy => ?_⟩
        obtain ⟨rfl, hx⟩ := hy
        have ex := hx vs hs'
        rw [ev] at ex
        cases ex
        obtain ⟨d, ed, dd⟩ := DpAll.getV ha ev
        obtain ⟨r, er, rfl⟩ := map_get ed
        have er2 : M[i] = r := by rw [List.getElem?_eq_getElem c] at er; exact Option.some.inj er
        generalize vs[i] = x at dd
        cases dd with
        | @lst b ws _ hb hd =>
          rw [ints_of r hd] at hb
          refine ⟨rfl, _, rfl, b, _, rfl, .inl (ma.keep.seq hb), fun q hq => ⟨as.map V.ref, ?_, ?_, as ++ [q], ?_⟩⟩
          · rw [upd_ne (ne_of_none ma.hl hq)]
            exact ma.hl
          · rw [List.length_map, ma.ln, List.length_take]
            exact Nat.lt_of_lt_of_le (by omega : _ < 1000000) line_ge
          · have heq : He q = none := by
              cases z : He q with
              | none => rfl
              | some o => rw [ma.keep q o z] at hq; cases hq
            have ql : q ≠ l := fun e => by rw [e, ma.hl] at hq; cases hq
            have qa : ∀ x ∈ as, x ≠ q := fun x hx e => by
              obtain ⟨p, hp⟩ := List.mem_iff_getElem?.mp hx
              have hpl : p < (M.take i).length := by rw [← ma.ln]; exact (List.getElem?_eq_some_iff.mp hp).1
              have := ma.rw p x _ hp (List.getElem?_eq_getElem hpl)
              rw [e, hq] at this
              cases this
            have lt : as.length = i := by rw [ma.ln, List.length_take]; omega
            have tk : M.take (i + 1) = M.take i ++ [r] := by rw [List.take_add_one, er]; rfl
            refine ⟨by rw [upd_same, List.map_append]; rfl, ma.el, fun x hx => ?_, fun x hx => ?_, fun p p' x e1 e2 => ?_, by rw [tk, List.length_append, List.length_append, ma.ln]; rfl, fun p x r' e1 e2 => ?_, fun x o hx => ?_⟩
            · rcases List.mem_append.mp hx with hx | hx
              · exact ma.ea x hx
              · rw [List.mem_singleton.mp hx]; exact heq
            · rcases List.mem_append.mp hx with hx | hx
              · exact ma.nl x hx
              · rw [List.mem_singleton.mp hx]; exact ql
            · have at_ : ∀ (p : Nat) (x : Addr), (as ++ [q])[p]? = some x → (p < as.length ∧ as[p]? = some x) ∨ (p = as.length ∧ x = q) := fun p x e => by
                rcases Nat.lt_or_ge p as.length with c | c
                · rw [List.getElem?_append_left c] at e
                  exact .inl ⟨c, e⟩
                · rw [List.getElem?_append_right c] at e
                  have z := (List.getElem?_eq_some_iff.mp e).1
                  simp at z
                  have pz : p = as.length := by omega
                  rw [pz, Nat.sub_self] at e
                  cases e
                  exact .inr ⟨pz, rfl⟩
              rcases at_ p x e1 with ⟨c1, f1⟩ | ⟨c1, f1⟩ <;> rcases at_ p' x e2 with ⟨c2, f2⟩ | ⟨c2, f2⟩
              · exact ma.nd p p' x f1 f2
              · exact absurd f2 (qa x (List.mem_of_getElem? f1))
              · exact absurd f1 (qa x (List.mem_of_getElem? f2))
              · omega
            · rw [tk] at e2
              rcases Nat.lt_or_ge p as.length with c1 | c1
              · rw [List.getElem?_append_left c1] at e1
                rw [List.getElem?_append_left (by rw [← ma.ln]; exact c1)] at e2
                have xm := List.mem_of_getElem? e1
                rw [upd_ne (ma.nl x xm), upd_ne (qa x xm)]
                exact ma.rw p x r' e1 e2
              · rw [List.getElem?_append_right c1] at e1
                rw [List.getElem?_append_right (by rw [← ma.ln]; exact c1), ← ma.ln] at e2
                have z := (List.getElem?_eq_some_iff.mp e1).1
                simp at z
                rw [show p - as.length = 0 by omega] at e1 e2
                cases e1
                cases e2
                rw [upd_ne ql, upd_same]
            · rw [upd_ne (ne_of_none hx ma.el), upd_ne (ne_of_none hx heq)]
              exact ma.keep x o hx
      · refine .inl ⟨⟨vs, hs', by rw [lv]; exact c⟩, ln rfl, fun p hp => ⟨p, _, rfl, SqT.of upd_same, rfl, _, _, rfl, _, _, rfl, _, _, rfl, rfl, ?_⟩⟩
        rw [show i = M.length by omega, List.take_length] at ma
        exact k _ l as (ma.mono (same_new hp))
theorem wBin_eq (g : G2) (wa wb : WE) (env : En) (R : Dt → En → Prop) : wBin g wa wb env R = wa env fun x e1 => wb e1 fun y e2 => g x y fun d => R d e2 := rfl
abbrev wGood : WF := wComp (wIR2 (wVar 5) (wVar 4)) (wgName 7) (wTB (wBin gNe (wBin gIx (wBinV gIx 1 (wPeek 7)) (wPeek 5)) (wC (.int 0)))) (wVar 7) [7]
abbrev wHere : WE := wBin DL.gSub (wBin gMul (wBin gIx (wBinV gIx 1 (wPeek 7)) (wPeek 8)) (wBin gIx (wBinV gIx 1 (wPeek 5)) (wPeek 5))) (wBin gMul (wBin gIx (wBinV gIx 1 (wPeek 7)) (wPeek 5)) (wBin gIx (wBinV gIx 1 (wPeek 5)) (wPeek 8)))
abbrev wDetR : WE := wIfE (wTB (wBinV gGt 4 (wC (.int 0)))) (wBinV gMul 2 (wBin gIx (wBinV gIx 1 (wBinV DL.gSub 4 (wC (.int 1)))) (wBinV DL.gSub 4 (wC (.int 1))))) (wC (.int 1))
def wDet : WS := fun E env => ∃ M v, env = [.sh (matD M), .no, .no, .no, .no, .no, .no, .no, .no, .no, .no] ∧ detO M = some v ∧ ∀ e', E.rt (.int v) e'
theorem rgD_map (k : Nat) : ∀ n : Nat, rgD (k : Int) 1 n = ((List.range n).map (k + ·)).map fun p : Nat => .int (p : Int) := fun n => by
  apply List.ext_getElem?
  intro i
  rw [List.getElem?_map, List.getElem?_map]
  rcases Nat.lt_or_ge i n with c | c
  · rw [rgD_get _ _ _ _ c, List.getElem?_range c]
    simp
  · rw [List.getElem?_eq_none (by rw [rgD_len]; exact c), List.getElem?_eq_none (by rw [List.length_range]; exact c)]
    rfl
theorem sm64 {x : Int} (h : small64 x = true) : -(2 ^ 64) < x ∧ x < 2 ^ 64 := by
  unfold small64 at h
  rw [Bool.and_eq_true, decide_eq_true_eq, decide_eq_true_eq] at h
  exact h
section
variable {K : PySem.W.Frag}
theorem good_ok {M : Mat} {k n : Nat} {s b : Dt} (sq : Sq n M) (hk : k < n) (hn : n ≤ 1000) {H : Hp} {tg : TE} {σ : L2.St} {Q : VK} (sg : SimF K tg wGood)
    (v : View K H σ [.no, .sh (matD M), .sh s, .sh b, .sh (.int (n : Nat)), .sh (.int (k : Nat)), .no, .no, .no, .no, .no])
    (kk : ∀ l H', Same H H' → H' l = some (.lst ((goodL M k n).map fun p : Nat => V.int (p : Int))) → Q (.ref l) H') : tg σ H Q := by
  refine runF (g := (goodL M k n).map fun p : Nat => (p : Int)) sg v ?_ (fun l H' s h => kk l H' s (by rw [h, List.map_map]; rfl))
  refine ⟨⟨by omega, by omega, by omega, by omega⟩, ?_⟩
  have hd : rgD (k : Int) 1 ((n : Int) - (k : Int)).toNat = ((List.range (n - k)).map (k + ·)).map fun p : Nat => PyData.int (p : Int) := by
    rw [show ((n : Int) - (k : Int)).toNat = n - k by omega]
    exact rgD_map k _
  refine comp_filter (enc := fun p : Nat => PyData.int (p : Int)) (f := fun p : Nat => PyData.int (p : Int)) (R := fun ds _ => ds = ((goodL M k n).map fun p : Nat => (p : Int)).map PyData.int) (fun p => !decide (mcell M p k = 0)) hd (Nat.le_trans (by rw [List.length_map, List.length_range]; omega : _ ≤ 1000000) line_ge) (fun i p hp Q1 Q2 q1 q2 => ?_) ?_
  · have hpn : p < n := by
      obtain ⟨y, hy, rfl⟩ := List.mem_map.mp (List.mem_of_getElem? hp)
      have := List.mem_range.mp hy
      omega
    show wBin gIx (wBinV gIx 1 (wPeek 7)) (wPeek 5) [.no, .sh (matD M), .sh s, .sh b, .sh (.int (n : Nat)), .sh (.int (k : Nat)), .no, .sh (.int (p : Nat)), .no, .no, .no] _
    refine w_cell (M := M) (p := p) (q := k) rfl rfl rfl (by rw [sq.1]; exact hpn) (by rw [(sq.row hpn).2]; exact hk) ?_
    refine ⟨⟨shaped_int _, shaped_int _⟩, ?_⟩
    rw [EncOk.int.eqD]
    exact ite2 (fun c => q1 c _ rfl) (fun c => q2 (Bool.eq_false_iff.mpr c) _ rfl)
  · rw [List.map_map]
    rfl
def tDet (K : PySem.W.Frag) (t2 tr tg t0 tn ta tb tc td th tv tf tR : TE) (cn cs : TT) : TS :=
  tSeq (tDet1 K) (tSeq (tAsg t2 (gName 4)) (tSeq (tFor (iRng1 (tCons tr tNil)) (gName 5)
    (tSeq (tAsg tg (gName 6)) (tSeq (tIfS cn (tSeq (tRet t0) tNext) tNext) (tSeq (tIfS cs (tSeq (tSwap K) (tSeq (tAsg tn (gName 2)) tNext)) tNext)
      (tSeq (tFor (iRng2 (tCons ta (tCons tb tNil))) (gName 7) (tSeq (tFor (iRng2 (tCons tc (tCons td tNil))) (gName 8) (tSeq (tAsg th (gName 9)) (tSeq (tAsg tv (L2.gSub (tOp (rIx K) (tVar 1) (tVar 7)) (tVar 8) rSetL)) tNext))) tNext))
        (tSeq (tAsg tf (gName 3)) tNext))))))
  (tSeq (tRet tR) tNext)))
variable {t2 tr tg t0 tn ta tb tc td th tv tf tR : TE} {cn cs : TT}
/-- one turn of the innermost loop -/
theorem det_cell {He H : Hp} {l : Addr} {as : List Addr} {M M' : Mat} {n k p j : Nat} {s b : Int} {o0 o6 o9 o10 : Option V} {D : Ends} (sh : SimE K th wHere) (sv : SimE K tv (wBinV gDiv 9 (wPeek 3)))
    (sq : Sq n M) (hk : k < n) (hp : p < n) (hq : k + 1 + j < n) (hn : n ≤ 1000) (hb : b ≠ 0 ∧ b.natAbs < 1073741824) (ma : MatAt He H l as M)
    (e : (if small64 (mcell M p (k + 1 + j)) && small64 (mcell M p k) then some (setC M p (k + 1 + j) ((mcell M p (k + 1 + j) * mcell M k k - mcell M p k * mcell M k (k + 1 + j)).fdiv b)) else none) = some M')
    (kk : ∀ H' x9, MatAt He H' l as M' → D.nx [o0, some (.ref l), some (.int s), some (.int b), some (.int n), some (.int k), o6, some (.int p), some (.int ((k + 1 + j : Nat) : Int)), x9, o10] H') :
    tSeq (tAsg th (gName 9)) (tSeq (tAsg tv (L2.gSub (tOp (rIx K) (tVar 1) (tVar 7)) (tVar 8) rSetL)) tNext) D [o0, some (.ref l), some (.int s), some (.int b), some (.int n), some (.int k), o6, some (.int p), some (.int ((k + 1 + j : Nat) : Int)), o9, o10] H := by
  split at e
  · rename_i hs
    rw [Bool.and_eq_true] at hs
    cases e
    have rw_ : ∀ p, p < n → p < M.length ∧ (M.getD p []).length = n := fun p hp => ⟨by rw [sq.1]; exact hp, (sq.row hp).2⟩
    have v1 : View K H [o0, some (.ref l), some (.int s), some (.int b), some (.int n), some (.int k), o6, some (.int p), some (.int ((k + 1 + j : Nat) : Int)), o9, o10] [.no, .sh (matD M), .no, .no, .no, .sh (.int k), .no, .sh (.int p), .sh (.int ((k + 1 + j : Nat) : Int)), .no, .no] :=
      .no (.sh ma.dp (.no (.no (.no (.sh (.int _) (.no (.sh (.int _) (.sh (.int _) (.no (.no .nil))))))))))
    refine runI (z := mcell M p (k + 1 + j) * mcell M k k - mcell M p k * mcell M k (k + 1 + j)) sh v1 ?_ fun H1 s1 => ?_
    · unfold wHere
      rw [wBin_eq DL.gSub, wBin_eq gMul]
      refine w_cell (M := M) (p := p) (q := k + 1 + j) rfl rfl rfl (rw_ p hp).1 (by rw [(rw_ p hp).2]; exact hq) ?_
      refine w_cell (M := M) (p := k) (q := k) rfl rfl rfl (rw_ k hk).1 (by rw [(rw_ k hk).2]; exact hk) ?_
      refine ⟨.inl (sm64 hs.1), ?_⟩
      show wBin gMul (wBin gIx (wBinV gIx 1 (wPeek 7)) (wPeek 5)) (wBin gIx (wBinV gIx 1 (wPeek 5)) (wPeek 8)) _ _
      rw [wBin_eq gMul]
      refine w_cell (M := M) (p := p) (q := k) rfl rfl rfl (rw_ p hp).1 (by rw [(rw_ p hp).2]; exact hk) ?_
      refine w_cell (M := M) (p := k) (q := k + 1 + j) rfl rfl rfl (rw_ k hk).1 (by rw [(rw_ k hk).2]; exact hq) ?_
      exact ⟨.inl (sm64 hs.2), rfl⟩
    · have m1 := ma.mono s1
      have v2 : View K H1 [o0, some (.ref l), some (.int s), some (.int b), some (.int n), some (.int k), o6, some (.int p), some (.int ((k + 1 + j : Nat) : Int)), some (.int (mcell M p (k + 1 + j) * mcell M k k - mcell M p k * mcell M k (k + 1 + j))), o10] [.no, .no, .no, .sh (.int b), .no, .no, .no, .no, .no, .sh (.int (mcell M p (k + 1 + j) * mcell M k k - mcell M p k * mcell M k (k + 1 + j))), .no] :=
        .no (.no (.no (.sh (.int _) (.no (.no (.no (.no (.no (.sh (.int _) (.no .nil))))))))))
      refine runI (z := (mcell M p (k + 1 + j) * mcell M k k - mcell M p k * mcell M k (k + 1 + j)).fdiv b) sv v2 ⟨hb, rfl⟩ fun H2 s2 => ?_
      have m2 := m1.mono s2
      obtain ⟨a, ea, am⟩ := m2.addr (rw_ p hp).1
      have hr := m2.rw p a _ ea (sq.row hp).1
      have hlen : ((M.getD p []).map V.int).length = n := by rw [List.length_map]; exact (rw_ p hp).2
      refine ⟨_, rfl, _, rfl, .inl ⟨l, as.map V.ref, (p : Int), .ref a, rfl, rfl, SqL.of m2.hl, atI_nat (by rw [List.getElem?_map, ea]; rfl), ⟨_, rfl, a, (M.getD p []).map V.int, ((k + 1 + j : Nat) : Int), k + 1 + j, rfl, rfl, hr, ?_, ?_⟩⟩⟩
      · rw [hlen]
        unfold ixN
        rw [if_pos (by omega), if_pos (by omega)]
        rfl
      · rw [show V.int ((mcell M p (k + 1 + j) * mcell M k k - mcell M p k * mcell M k (k + 1 + j)).fdiv b) = (fun i => V.int i) ((mcell M p (k + 1 + j) * mcell M k k - mcell M p k * mcell M k (k + 1 + j)).fdiv b) from rfl, ← List.map_set]
        exact kk _ _ (m2.setC ea (rw_ p hp).1)
  · cases e
theorem rng2_run {σ : L2.St} {env : En} {H : Hp} {ta tb : TE} {w1 w2 : WE} {x y : Int} {c : Nat} (sa : SimE K ta w1) (sb : SimE K tb w2) (v : ∀ H', Same H H' → View K H' σ env) (h1 : w1 env fun d _ => d = .int x) (h2 : w2 env fun d _ => d = .int y) (hx : -(2 ^ 62) ≤ x ∧ x < 2 ^ 62 ∧ -(2 ^ 62) ≤ y ∧ y < 2 ^ 62) (hc : (y - x).toNat = c) :
    ∀ R : It → Hp → Prop, (∀ H', Same H H' → R (Itr x c) H') → iRng2 (tCons ta (tCons tb tNil)) σ H R := fun R k =>
  runI sa (v H (Same.refl _)) h1 fun H1 s1 => runI sb (v H1 s1) h2 fun H2 s2 => ⟨x, y, rfl, hx, by rw [hc]; exact k H2 (s1.trans s2)⟩
theorem rng1_run {σ : L2.St} {env : En} {H : Hp} {ta : TE} {w1 : WE} {x : Int} {c : Nat} (sa : SimE K ta w1) (v : View K H σ env) (h1 : w1 env fun d _ => d = .int x) (hx : -(2 ^ 62) ≤ x ∧ x < 2 ^ 62) (hc : x.toNat = c) :
    ∀ R : It → Hp → Prop, (∀ H', Same H H' → R (Itr 0 c) H') → iRng1 (tCons ta tNil) σ H R := fun R k =>
  runI sa v h1 fun H1 s1 => ⟨x, rfl, hx.1, hx.2, by rw [hc]; exact k H1 s1⟩
/-- all the rows below -/
theorem det_rows {He H : Hp} {l : Addr} {as : List Addr} {M M2 : Mat} {n k : Nat} {s b : Int} {o0 o6 o7 o8 o9 o10 : Option V} {D : Ends} (sa : SimE K ta (wBinV gAdd 5 (wC (.int 1)))) (sb : SimE K tb (wVar 4)) (sc : SimE K tc (wBinV gAdd 5 (wC (.int 1)))) (sd : SimE K td (wVar 4)) (sh : SimE K th wHere) (sv : SimE K tv (wBinV gDiv 9 (wPeek 3)))
    (sq : Sq n M) (hk : k < n) (hn : n ≤ 1000) (hb : b ≠ 0 ∧ b.natAbs < 1073741824) (ma : MatAt He H l as M) (e : rowsO M k (n - (k + 1)) b (n - (k + 1)) = some M2)
    (kk : ∀ H' x7 x8 x9, MatAt He H' l as M2 → D.nx [o0, some (.ref l), some (.int s), some (.int b), some (.int n), some (.int k), o6, x7, x8, x9, o10] H') :
    tFor (iRng2 (tCons ta (tCons tb tNil))) (gName 7) (tSeq (tFor (iRng2 (tCons tc (tCons td tNil))) (gName 8) (tSeq (tAsg th (gName 9)) (tSeq (tAsg tv (L2.gSub (tOp (rIx K) (tVar 1) (tVar 7)) (tVar 8) rSetL)) tNext))) tNext) D [o0, some (.ref l), some (.int s), some (.int b), some (.int n), some (.int k), o6, o7, o8, o9, o10] H := by
  have vw : ∀ (x7 x8 x9 : Option V) (H' : Hp), View K H' [o0, some (.ref l), some (.int s), some (.int b), some (.int n), some (.int k), o6, x7, x8, x9, o10] [.no, .no, .no, .no, .sh (.int (n : Nat)), .sh (.int (k : Nat)), .no, .no, .no, .no, .no] := fun x7 x8 x9 H' => .no (.no (.no (.no (.sh (.int _) (.sh (.int _) (.no (.no (.no (.no (.no .nil))))))))))
  refine for_rng (lo := (k : Int) + 1) (n := n - (k + 1)) (fun i σ H => ∃ M', rowsO M k (n - (k + 1)) b i = some M' ∧ ∃ x7 x8 x9, σ = [o0, some (.ref l), some (.int s), some (.int b), some (.int n), some (.int k), o6, x7, x8, x9, o10] ∧ MatAt He H l as M')
    (rng2_run sa sb (fun H' _ => vw _ _ _ H') rfl rfl ⟨by show -(2 ^ 62) ≤ (k : Int) + 1; omega, by show (k : Int) + 1 < 2 ^ 62; omega, by omega, by omega⟩ (by omega)) (fun H' s1 => ⟨M, rfl, _, _, _, rfl, ma.mono s1⟩) (fun i σ H hi inv => ?_) (fun σ H inv => ?_)
  · obtain ⟨M', e', x7, x8, x9, rfl, ma'⟩ := inv
    have sq' : Sq n M' := sq.rows (by omega) e'
    obtain ⟨M3, e3⟩ := rowsO_le e (i + 1) (by omega)
    have e4 : cellsO M' k (k + 1 + i) b (n - (k + 1)) = some M3 := by
      unfold rowsO at e3
      rw [e'] at e3
      exact e3
    rw [show (k : Int) + 1 + (i : Int) = ((k + 1 + i : Nat) : Int) by omega]
    have vw2 : ∀ (x8 x9 : Option V) (H' : Hp), View K H' [o0, some (.ref l), some (.int s), some (.int b), some (.int n), some (.int k), o6, some (.int ((k + 1 + i : Nat) : Int)), x8, x9, o10] [.no, .no, .no, .no, .sh (.int (n : Nat)), .sh (.int (k : Nat)), .no, .no, .no, .no, .no] := fun x8 x9 H' => vw _ _ _ H'
    refine for_rng (lo := (k : Int) + 1) (n := n - (k + 1)) (fun j σ H => ∃ M4, cellsO M' k (k + 1 + i) b j = some M4 ∧ ∃ x8 x9, σ = [o0, some (.ref l), some (.int s), some (.int b), some (.int n), some (.int k), o6, some (.int ((k + 1 + i : Nat) : Int)), x8, x9, o10] ∧ MatAt He H l as M4)
      (rng2_run sc sd (fun H' _ => vw2 _ _ H') rfl rfl ⟨by show -(2 ^ 62) ≤ (k : Int) + 1; omega, by show (k : Int) + 1 < 2 ^ 62; omega, by omega, by omega⟩ (by omega)) (fun H' s1 => ⟨M', rfl, _, _, rfl, ma'.mono s1⟩) (fun j σ H hj inv => ?_) (fun σ H inv => ?_)
    · obtain ⟨M4, e5, x8, x9, rfl, ma4⟩ := inv
      obtain ⟨M5, e6⟩ := cellsO_le e4 (j + 1) (by omega)
      rw [show (k : Int) + 1 + (j : Int) = ((k + 1 + j : Nat) : Int) by omega]
      refine det_cell sh sv (sq'.cells (by omega) e5) hk (by omega) (by omega) hn hb ma4 (M' := M5) ?_ (fun H' x9 m => ⟨M5, e6, _, _, rfl, m⟩)
      unfold cellsO at e6
      rw [e5] at e6
      exact e6
    · obtain ⟨M4, e5, x8, x9, rfl, ma4⟩ := inv
      rw [e4] at e5
      cases e5
      exact ⟨M3, e3, _, _, _, rfl, ma4⟩
  · obtain ⟨M', e', x7, x8, x9, rfl, ma'⟩ := inv
    rw [e] at e'
    cases e'
    exact kk H x7 x8 x9 ma'
theorem det_swap {He H : Hp} {l gd : Addr} {as : List Addr} {M : Mat} {n k g : Nat} {gs : List Nat} {o0 o2 o3 o4 o7 o8 o9 o10 : Option V} {D : Ends} (sq : Sq n M) (hk : k < n) (hg : g < n) (hne : k ≠ g) (ma : MatAt He H l as M)
    (hgd : H gd = some (.lst ((g :: gs).map fun p : Nat => V.int (p : Int)))) (kk : ∀ H' as', MatAt He H' l as' (swapM M k g) → D.nx [o0, some (.ref l), o2, o3, o4, some (.int k), some (.ref gd), o7, o8, o9, o10] H') :
    tSwap K D [o0, some (.ref l), o2, o3, o4, some (.int k), some (.ref gd), o7, o8, o9, o10] H := by
  obtain ⟨ak, ek, akm⟩ := ma.addr (p := k) (by rw [sq.1]; exact hk)
  obtain ⟨ag, eg, agm⟩ := ma.addr (p := g) (by rw [sq.1]; exact hg)
  have gl : gd ≠ l := fun e => by
    rw [e, ma.hl] at hgd
    have z : as.map V.ref = (g :: gs).map fun p : Nat => V.int (p : Int) := HO.lst.inj (Option.some.inj hgd)
    cases as with
    | nil => cases z
    | cons a as => cases z
  have ik : atI (as.map V.ref) (k : Int) = some (.ref ak) := atI_nat (by rw [List.getElem?_map, ek]; rfl)
  have ig : atI (as.map V.ref) (g : Int) = some (.ref ag) := atI_nat (by rw [List.getElem?_map, eg]; rfl)
  have i0 : atI ((g :: gs).map fun p : Nat => V.int (p : Int)) 0 = some (.int (g : Nat)) := atI_nat (j := 0) rfl
  have nx : ∀ (xs : List V) (i : Nat), xs.length = n → i < n → ixN xs.length (i : Int) = some i := fun xs i hx hi => by
    unfold ixN
    rw [hx, if_pos (by omega), if_pos (by omega)]
    rfl
  have la : (as.map V.ref).length = n := by rw [List.length_map, ma.ln, sq.1]
  refine ⟨_, rfl, _, rfl, .inl ⟨gd, _, 0, .int (g : Nat), rfl, rfl, SqL.of hgd, i0, .inl ⟨l, as.map V.ref, (g : Int), .ref ag, rfl, rfl, SqL.of ma.hl, ig, _, rfl, _, rfl, .inl ⟨l, as.map V.ref, (k : Int), .ref ak, rfl, rfl, SqL.of ma.hl, ik, ln rfl, fun p hp => ?_⟩⟩⟩⟩
  have pl : l ≠ p := ne_of_none ma.hl hp
  have pg : gd ≠ p := ne_of_none hgd hp
  have m1 := ma.mono (same_new (o := .tup [V.ref ag, V.ref ak]) hp)
  refine ⟨p, _, rfl, SqT.of upd_same, rfl, _, _, rfl, _, rfl, _, rfl, l, as.map V.ref, (k : Int), k, rfl, rfl, m1.hl, nx _ _ la hk, _, _, rfl, _, rfl, _, rfl, .inl ⟨gd, (g :: gs).map fun p : Nat => V.int (p : Int), 0, .int (g : Nat), rfl, rfl, SqL.of ?_, i0, l, (as.map V.ref).set k (.ref ag), (g : Int), g, rfl, rfl, upd_same, nx _ _ (by rw [List.length_set]; exact la) hg, rfl, ?_⟩⟩
  · rw [upd_ne gl, upd_ne pg]
    exact hgd
  · have m2 := m1.swap sq (o := .lst ((as.map V.ref).set k (.ref ag))) ek eg hk hg hne
    have e : ((as.map V.ref).set k (.ref ag)).set g (.ref ak) = ((as.set k ag).set g ak).map V.ref := by rw [List.map_set, List.map_set]
    rw [e]
    exact kk _ _ m2
theorem goodL_mem {M : Mat} {k n g : Nat} (h : g ∈ goodL M k n) (hk : k ≤ n) : k ≤ g ∧ g < n := by
  unfold goodL at h
  obtain ⟨y, hy, rfl⟩ := List.mem_map.mp (List.mem_filter.mp h).1
  have := List.mem_range.mp hy
  omega
theorem blank {C : Base} {G He H : Hp} {σ σ' : L2.St} {env : En} (rp : Rep K C G He σ env) (s : Same He H) (hl : σ'.length = σ.length) : Rep K C G H σ' (List.replicate env.length .no) := by
  have no_ : ∀ (i : Nat) (s : Sl), (List.replicate env.length Sl.no)[i]? = some s → s = .no := fun i s e => (List.mem_replicate.mp (List.mem_of_getElem? e)).2
  refine ⟨by rw [List.length_replicate, rp.len, hl], rp.gg, rp.gh.trans s, fun a o hb h => s _ _ (rp.hh a o hb h), fun a hb e => ?_, rp.nw, fun i s e => (by rw [no_ i s e]; trivial), fun i j s s' a e1 e2 o1 => (by rw [no_ i s e1] at o1; cases o1), fun a s hb e o => (by rw [no_ 0 s e] at o; cases o)⟩
  cases z : He a with
  | none => exact rp.bh a hb z
  | some o =>
    rw [s _ _ z] at e
    cases e
theorem sim_det (s2 : SimE K t2 (wC1 gLen (wPeek 1))) (sr : SimE K tr (wBinV DL.gSub 4 (wC (.int 1)))) (sg : SimF K tg wGood) (s0 : SimE K t0 (wC (.int 0))) (scn : SimT K cn (wTB (wBinV gEq 6 (wFrz (wLst wANil))))) (scs : SimT K cs (wTB (wBin gNe (wBinV gIx 6 (wC (.int 0))) (wPeek 5))))
    (sn : SimE K tn (wNeg (wVar 2))) (sa : SimE K ta (wBinV gAdd 5 (wC (.int 1)))) (sb : SimE K tb (wVar 4)) (sc : SimE K tc (wBinV gAdd 5 (wC (.int 1)))) (sd : SimE K td (wVar 4)) (sh : SimE K th wHere) (sv : SimE K tv (wBinV gDiv 9 (wPeek 3)))
    (sf : SimE K tf (wBin gIx (wBinV gIx 1 (wPeek 5)) (wPeek 5))) (sR : SimE K tR wDetR) : SimS K (tDet K t2 tr tg t0 tn ta tb tc td th tv tf tR cn cs) wDet := by
  intro C G He σ env E D rp hw k
  obtain ⟨M0, v, rfl, hv, hE⟩ := hw
  have hlen : σ.length = 11 := rp.len.symm
  obtain ⟨w0, hw0, dw⟩ := rp.sl 0 _ rfl
  have dw := dp_mono rp.gh _ _ dw
  match σ, hlen with
  | [o0, o1, o2, o3, o4, o5, o6, o7, o8, o9, o10], _ =>
  cases hw0
  have ret : ∀ (H : Hp), Same He H → D.rt (.int v) H := fun H s => k.rt _ _ (.int v) (.int v) G H (blank rp s rfl) (Same.refl _) (.int v) (hE _)
  unfold detO at hv
  split at hv
  case isFalse => cases hv
  rename_i hM
  obtain ⟨hn, hall⟩ := hM
  have sq0 : Sq M0.length M0 := ⟨rfl, fun r hr => by have := List.all_eq_true.mp hall r hr; exact beq_iff_eq.mp this⟩
  generalize hN : M0.length = n at *
  refine sim_det1 dw (by omega) fun H l as ma => ?_
  have v1 : View K H [some w0, some (.ref l), some (.int 1), some (.int 1), o4, o5, o6, o7, o8, o9, o10] [.no, .sh (matD M0), .no, .no, .no, .no, .no, .no, .no, .no, .no] := .no (.sh ma.dp (.no (.no (.no (.no (.no (.no (.no (.no (.no .nil))))))))))
  refine runI (z := (n : Int)) s2 v1 ?_ fun H1 s1 => ?_
  · show PyData.int ((M0.map rowE).length : Nat) = .int n
    rw [List.length_map, hN]
  have m1 := ma.mono s1
  have v2 : ∀ (s b : Int) (o5 o6 o7 o8 o9 o10 : Option V) (H : Hp), View K H [some w0, some (.ref l), some (.int s), some (.int b), some (.int n), o5, o6, o7, o8, o9, o10] [.no, .no, .no, .no, .sh (.int n), .no, .no, .no, .no, .no, .no] := fun s b o5 o6 o7 o8 o9 o10 H => .no (.no (.no (.no (.sh (.int _) (.no (.no (.no (.no (.no (.no .nil))))))))))
  refine for_rng (lo := 0) (n := n - 1) (fun i σ H => ∃ M s b, stO M0 n i = some (some (M, s, b)) ∧ Sq n M ∧ ∃ as x5 x6 x7 x8 x9 x10, σ = [some w0, some (.ref l), some (.int s), some (.int b), some (.int n), x5, x6, x7, x8, x9, x10] ∧ MatAt He H l as M)
    (rng1_run sr (v2 _ _ _ _ _ _ _ _ _) (x := (n : Int) - 1) rfl ⟨by omega, by omega⟩ (by omega)) (fun H' s => ⟨M0, 1, 1, rfl, sq0, as, _, _, _, _, _, _, rfl, m1.mono s⟩) (fun i σ H hi inv => ?_) (fun σ H inv => ?_)
  · obtain ⟨M, s, b, est, sq, as, x5, x6, x7, x8, x9, x10, rfl, ma⟩ := inv
    have hin : i < n := by omega
    rw [show (0 : Int) + (i : Int) = (i : Int) by omega]
    -- what is told of the end
    rw [if_neg (by omega)] at hv
    have hst : ∃ r, stO M0 n (n - 1) = some r := by
      cases z : stO M0 n (n - 1) with
      | none => rw [z] at hv; cases hv
      | some r => exact ⟨r, rfl⟩
    obtain ⟨r, hr⟩ := hst
    obtain ⟨r1, hr1⟩ := stO_le hr (i + 1) (by omega)
    have hr2 : (match goodL M i n with | [] => some none | g :: _ => if b ≠ 0 ∧ b.natAbs < 1073741824 then (rowsO (if g = i then M else swapM M i g) i (n - (i + 1)) b (n - (i + 1))).map fun M2 => some (M2, if g = i then s else -s, mcell M2 i i) else none) = some r1 := by
      have z := hr1
      unfold stO at z
      rw [est] at z
      exact z
    refine good_ok (s := .int s) (b := .int b) sq hin hn sg (.no (.sh ma.dp (.sh (.int _) (.sh (.int _) (.sh (.int _) (.sh (.int _) (.no (.no (.no (.no (.no .nil))))))))))) fun gd H2 sm hgd => ?_
    have m2 := ma.mono sm
    have dg : ∀ H', Same H2 H' → Dp K H' (.ref gd) (.list ((goodL M i n).map fun p : Nat => .int (p : Int))) := fun H' s => .lst (SqL.of (s _ _ hgd)) (by
      have := dpAll_intsR (K := K) (G := H') ((goodL M i n).map fun p : Nat => (p : Int))
      rw [List.map_map, List.map_map] at this
      exact this)
    have v3 : ∀ (s b : Int) (o7 o8 o9 o10 : Option V) (H' : Hp), Same H2 H' → View K H' [some w0, some (.ref l), some (.int s), some (.int b), some (.int n), some (.int i), some (.ref gd), o7, o8, o9, o10] [.no, .no, .sh (.int s), .sh (.int b), .sh (.int n), .sh (.int i), .sh (.list ((goodL M i n).map fun p : Nat => .int (p : Int))), .no, .no, .no, .no] := fun s b o7 o8 o9 o10 H' sm => .no (.no (.sh (.int _) (.sh (.int _) (.sh (.int _) (.sh (.int _) (.sh (dg H' sm) (.no (.no (.no (.no .nil))))))))))
    have shL : ∀ xs : List Nat, SeqAt.shaped (.list (xs.map fun p : Nat => PyData.int (p : Int))) = true := fun xs => (EncOk.int.comp (f := fun p : Nat => (p : Int)) fun a b h => by omega).lst.shaped (by decide) xs
    cases hg : goodL M i n with
    | nil =>
      rw [hg] at hr2
      refine runT (c := true) scn (v3 _ _ _ _ _ _ _ (Same.refl _)) ⟨ln rfl, ⟨shL _, shL []⟩, by rw [hg]; rfl⟩ fun H3 s3 => ?_
      refine iteT (runI (z := 0) s0 (v3 _ _ _ _ _ _ _ s3) rfl fun H4 s4 => ?_)
      have hz : stO M0 n (n - 1) = some none := by
        have := stO_zero (hr1.trans (by rw [← hr2])) (n - 1 - (i + 1))
        rw [show i + 1 + (n - 1 - (i + 1)) = n - 1 by omega] at this
        exact this
      rw [hz] at hv
      cases hv
      exact ret _ (((m2.mono s3).mono s4).keep)
    | cons g gs =>
      rw [hg] at hr2 dg v3 hgd
      obtain ⟨hig, hgn⟩ := goodL_mem (M := M) (k := i) (n := n) (g := g) (by rw [hg]; exact List.mem_cons_self) (by omega)
      refine runT (c := false) scn (v3 _ _ _ _ _ _ _ (Same.refl _)) ⟨ln rfl, ⟨shL (g :: gs), shL []⟩, rfl⟩ fun H3 s3 => ?_
      refine iteF ?_
      have hb : b ≠ 0 ∧ b.natAbs < 1073741824 := by
        have hr2 : (if b ≠ 0 ∧ b.natAbs < 1073741824 then _ else none) = some r1 := hr2
        split at hr2
        · assumption
        · cases hr2
      have hr2 : (if b ≠ 0 ∧ b.natAbs < 1073741824 then (rowsO (if g = i then M else swapM M i g) i (n - (i + 1)) b (n - (i + 1))).map fun M2 => some (M2, if g = i then s else -s, mcell M2 i i) else none) = some r1 := hr2
      rw [if_pos hb] at hr2
      obtain ⟨M2, hM2, e2⟩ := Option.map_eq_some_iff.mp hr2
      -- the rows below, and what was before
      have rest : ∀ (M1 : Mat) (s1 : Int) (as1 : List Addr) (H' : Hp) (o7 o8 o9 o10 : Option V), Sq n M1 → MatAt He H' l as1 M1 → rowsO M1 i (n - (i + 1)) b (n - (i + 1)) = some M2 → r1 = some (M2, s1, mcell M2 i i) →
          tSeq (tFor (iRng2 (tCons ta (tCons tb tNil))) (gName 7) (tSeq (tFor (iRng2 (tCons tc (tCons td tNil))) (gName 8) (tSeq (tAsg th (gName 9)) (tSeq (tAsg tv (L2.gSub (tOp (rIx K) (tVar 1) (tVar 7)) (tVar 8) rSetL)) tNext))) tNext)) (tSeq (tAsg tf (gName 3)) tNext)
            { D with nx := fun σ H => ∃ M s b, stO M0 n (i + 1) = some (some (M, s, b)) ∧ Sq n M ∧ ∃ as x5 x6 x7 x8 x9 x10, σ = [some w0, some (.ref l), some (.int s), some (.int b), some (.int n), x5, x6, x7, x8, x9, x10] ∧ MatAt He H l as M, ct := fun σ H => ∃ M s b, stO M0 n (i + 1) = some (some (M, s, b)) ∧ Sq n M ∧ ∃ as x5 x6 x7 x8 x9 x10, σ = [some w0, some (.ref l), some (.int s), some (.int b), some (.int n), x5, x6, x7, x8, x9, x10] ∧ MatAt He H l as M, bk := fun σ H => tSeq (tRet tR) tNext D σ H }
            [some w0, some (.ref l), some (.int s1), some (.int b), some (.int n), some (.int i), some (.ref gd), o7, o8, o9, o10] H' := by
        intro M1 s1 as1 H' o7 o8 o9 o10 sq1 m1 eM er
        refine det_rows sa sb sc sd sh sv sq1 hin hn hb m1 eM fun H4 x7 x8 x9 m4 => ?_
        have sq4 : Sq n M2 := sq1.rows (by omega) eM
        refine runI (z := mcell M2 i i) sf (.no (.sh m4.dp (.no (.no (.no (.sh (.int (i : Nat)) (.no (.no (.no (.no (.no .nil))))))))))) ?_ fun H5 s5 => ?_
        · exact w_cell (M := M2) (p := i) (q := i) rfl rfl rfl (by rw [sq4.1]; exact hin) (by rw [(sq4.row hin).2]; exact hin) rfl
        · exact ⟨M2, s1, mcell M2 i i, hr1.trans (by rw [er]), sq4, as1, _, _, _, _, _, _, rfl, m4.mono s5⟩
      have i0 : atI ((g :: gs).map fun p : Nat => PyData.int (p : Int)) 0 = some (.int (g : Nat)) := atI_nat (j := 0) rfl
      by_cases c : g = i
      · rw [if_pos c] at hM2 e2
        refine runT (c := false) scs (v3 _ _ _ _ _ _ _ s3) ?_ fun H4 s4 => ?_
        · show (match atI ((g :: gs).map fun p : Nat => PyData.int (p : Int)) 0 with | some d => _ | none => False)
          rw [i0]
          refine ⟨⟨shaped_int _, shaped_int _⟩, ?_⟩
          show (!PyData.eqv (.int (g : Nat)) (.int (i : Nat))) = false
          rw [EncOk.int.eqD, c]
          simp
        · exact iteF (rest M s as H4 _ _ _ _ sq ((m2.mono s3).mono s4) hM2 e2.symm)
      · rw [if_neg c] at hM2 e2
        refine runT (c := true) scs (v3 _ _ _ _ _ _ _ s3) ?_ fun H4 s4 => ?_
        · show (match atI ((g :: gs).map fun p : Nat => PyData.int (p : Int)) 0 with | some d => _ | none => False)
          rw [i0]
          refine ⟨⟨shaped_int _, shaped_int _⟩, ?_⟩
          show (!PyData.eqv (.int (g : Nat)) (.int (i : Nat))) = true
          rw [EncOk.int.eqD]
          simp
          omega
        · refine iteT (det_swap sq hin hgn (fun q => c q.symm) ((m2.mono s3).mono s4) (s4 _ _ (s3 _ _ hgd)) fun H5 as5 m5 => ?_)
          refine runI (z := -s) sn (.no (.no (.sh (.int _) (.no (.no (.no (.no (.no (.no (.no (.no .nil))))))))))) rfl fun H6 s6 => ?_
          exact rest (swapM M i g) (-s) as5 H6 _ _ _ _ (sq.swap hin hgn) (m5.mono s6) hM2 e2.symm
  · obtain ⟨M, s, b, est, sq, as, x5, x6, x7, x8, x9, x10, rfl, ma⟩ := inv
    have vv : View K H [some w0, some (.ref l), some (.int s), some (.int b), some (.int n), x5, x6, x7, x8, x9, x10] [.no, .sh (matD M), .sh (.int s), .no, .sh (.int n), .no, .no, .no, .no, .no, .no] := .no (.sh ma.dp (.sh (.int _) (.no (.sh (.int _) (.no (.no (.no (.no (.no (.no .nil))))))))))
    by_cases h0 : n = 0
    · rw [if_pos h0] at hv
      cases hv
      refine runI (z := 1) sR vv ?_ fun H2 s2 => ret _ ((ma.mono s2).keep)
      refine ite2 (fun c => ?_) (fun _ => rfl)
      have c : (0 : Int) < n := of_decide_eq_true c
      omega
    · rw [if_neg h0, est] at hv
      have hv : (if small64 s = true then some (s * mcell M (n - 1) (n - 1)) else none) = some v := hv
      split at hv
      · rename_i hs
        cases hv
        refine runI (z := s * mcell M (n - 1) (n - 1)) sR vv ?_ fun H2 s2 => ret _ ((ma.mono s2).keep)
        refine ite2 (fun _ => ?_) (fun c => absurd (decide_eq_true (show (0 : Int) < n by omega)) c)
        have hp : n - 1 < M.length := by rw [sq.1]; omega
        have hq : n - 1 < (M.getD (n - 1) []).length := by rw [(sq.row (show n - 1 < n by omega)).2]; omega
        have e0 : (n : Int) - 1 = ((n - 1 : Nat) : Int) := by omega
        have e1 : atI (M.map rowE) ((n : Int) - 1) = some (rowE (M.getD (n - 1) [])) := by
          rw [e0]
          exact atI_nat (by rw [List.getElem?_map, List.getElem?_eq_getElem hp, List.getD_eq_getElem?_getD, List.getElem?_eq_getElem hp]; rfl)
        have e2 : atI ((M.getD (n - 1) []).map PyData.int) ((n : Int) - 1) = some (.int (mcell M (n - 1) (n - 1))) := by
          rw [e0]
          exact atI_nat (get_ints hq)
        show (match atI (M.map rowE) ((n : Int) - 1) with | some d => _ | none => False)
        rw [e1]
        show (match atI ((M.getD (n - 1) []).map PyData.int) ((n : Int) - 1) with | some d => _ | none => False)
        rw [e2]
        exact ⟨.inl (sm64 hs), rfl⟩
      · cases hv
end

/-! parts of a text -/
def nthS (b : List Stmt) (i : Nat) : Stmt := b.getD i (.Pass ⟨0, 0, 0, 0⟩)
def exprS : Stmt → Expr
  | .Assign _ e _ => e
  | .Return (some e) _ => e
  | .If e _ _ _ => e
  | .For _ e _ _ _ => e
  | _ => .Constant .none 0 ⟨0, 0, 0, 0⟩
def bodyS : Stmt → List Stmt
  | .If _ b _ _ => b
  | .For _ _ b _ _ => b
  | _ => []
def argE (e : Expr) (i : Nat) : Expr := match e with
  | .Call _ es _ _ => es.getD i (.Constant .none 0 ⟨0, 0, 0, 0⟩)
  | _ => e
end DL

namespace Lw
open PySem L2 DL
def topS (i : Nat) : Stmt := PySem.Challenge.pw_tiledwhole_k53_whole_paths_that_never_me.main.body.getD i (.Pass ⟨0, 0, 0, 0⟩)
abbrev s_determinant : Stmt := topS 4
abbrev s_choose : Stmt := topS 7
abbrev s_unmet_paths : Stmt := topS 8
abbrev s_all_paths : Stmt := topS 9
abbrev s_law_hand : Stmt := topS 11
abbrev s_law_draw : Stmt := topS 12
abbrev s_law_is : Stmt := topS 13
abbrev s_law_paths : Stmt := topS 14
abbrev s_law_unmet : Stmt := topS 15
abbrev s_law_chosen : Stmt := topS 16
abbrev s_law : Stmt := topS 17
structure Fs where
  a_determinant : Addr
  d_determinant : FuncData
  a_choose : Addr
  d_choose : FuncData
  a_unmet_paths : Addr
  d_unmet_paths : FuncData
  a_all_paths : Addr
  d_all_paths : FuncData
  a_law_hand : Addr
  d_law_hand : FuncData
  a_law_draw : Addr
  d_law_draw : FuncData
  a_law_is : Addr
  d_law_is : FuncData
  a_law_paths : Addr
  d_law_paths : FuncData
  a_law_unmet : Addr
  d_law_unmet : FuncData
  a_law_chosen : Addr
  d_law_chosen : FuncData
  a_law : Addr
  d_law : FuncData
  t_MOST_KEPT : Tok
structure Txt (K : PySem.W.Frag) (mg : Str → Option Value) (A : Fs) : Prop where
  F_determinant : Fun K "determinant" "determinant" s_determinant A.a_determinant A.d_determinant
  b_determinant : Binds K A.d_determinant ["rows"] []
  g_determinant : mg "determinant" = some (.ref A.a_determinant)
  F_choose : Fun K "choose" "choose" s_choose A.a_choose A.d_choose
  b_choose : Binds K A.d_choose ["many", "few"] []
  g_choose : mg "choose" = some (.ref A.a_choose)
  F_unmet_paths : Fun K "unmet_paths" "unmet_paths" s_unmet_paths A.a_unmet_paths A.d_unmet_paths
  b_unmet_paths : Binds K A.d_unmet_paths ["starts", "ends"] []
  g_unmet_paths : mg "unmet_paths" = some (.ref A.a_unmet_paths)
  F_all_paths : Fun K "all_paths" "all_paths" s_all_paths A.a_all_paths A.d_all_paths
  b_all_paths : Binds K A.d_all_paths ["start", "end"] []
  g_all_paths : mg "all_paths" = some (.ref A.a_all_paths)
  F_law_hand : Fun K "_law_hand" "_law_hand" s_law_hand A.a_law_hand A.d_law_hand
  b_law_hand : Binds K A.d_law_hand ["script"] []
  g_law_hand : mg "_law_hand" = some (.ref A.a_law_hand)
  F_law_draw : Fun K "_law_draw" "_law_draw" s_law_draw A.a_law_draw A.d_law_draw
  b_law_draw : Binds K A.d_law_draw ["hand", "sides"] []
  g_law_draw : mg "_law_draw" = some (.ref A.a_law_draw)
  F_law_is : Fun K "_law_is" "_law_is" s_law_is A.a_law_is A.d_law_is
  b_law_is : Binds K A.d_law_is ["one", "other"] []
  g_law_is : mg "_law_is" = some (.ref A.a_law_is)
  F_law_paths : Fun K "_law_paths" "_law_paths" s_law_paths A.a_law_paths A.d_law_paths
  b_law_paths : Binds K A.d_law_paths ["start", "end"] []
  g_law_paths : mg "_law_paths" = some (.ref A.a_law_paths)
  F_law_unmet : Fun K "_law_unmet" "_law_unmet" s_law_unmet A.a_law_unmet A.d_law_unmet
  b_law_unmet : Binds K A.d_law_unmet ["starts", "ends"] []
  g_law_unmet : mg "_law_unmet" = some (.ref A.a_law_unmet)
  F_law_chosen : Fun K "_law_chosen" "_law_chosen" s_law_chosen A.a_law_chosen A.d_law_chosen
  b_law_chosen : Binds K A.d_law_chosen ["many", "some"] []
  g_law_chosen : mg "_law_chosen" = some (.ref A.a_law_chosen)
  F_law : Fun K "law" "law" s_law A.a_law A.d_law
  b_law : Binds K A.d_law ["script"] []
  g_law : mg "law" = some (.ref A.a_law)
  m_len : mg "len" = none
  m_range : mg "range" = none
  m_list : mg "list" = none
  m_sorted : mg "sorted" = none
  m_abs : mg "abs" = none
  m_int : mg "int" = none
  m_isinstance : mg "isinstance" = none
  m_dict : mg "dict" = none
  m_bool : mg "bool" = none
  m_tuple : mg "tuple" = none
  m_all : mg "all" = none
  m_zip : mg "zip" = none
  m_any : mg "any" = none
  c_MOST_KEPT : mg "MOST_KEPT" = some (.int 5000 A.t_MOST_KEPT)
end Lw
namespace Lw
open PySem L2 DL
/-! the hand -/
def ar_law_hand (ns : List Int) : List Dt := [.list (ns.map PyData.int)]
def pr_law_hand (ns : List Int) : Prop := ns.length ≤ 63
def po_law_hand (_ : List Int) (ds : List Dt) : Prop := HandI ds
def ar_law_draw (n : Int) : List Dt := [.int n]
def pr_law_draw (n : Int) : Prop := 0 < n ∧ n < 1000000
def po_law_draw (n : Int) (d : Dt) : Prop := ∃ k : Int, d = .int k ∧ 0 ≤ k ∧ k < n
def N_law_hand : List Str := ["script", "cells", "cell"]
def w_law_hand : WS := (wSeq (wSetF 1 (wComp (wIter (wSlV 0 wONone (wOSome (wC (.int 63))))) (wgName 2) wYes (wC1 gAbs (wC1 gInt (wPeek 2))) [2]))
  (wRetF (wLst (wACons (wVar 1) (wACons (wC (.int 0)) (wACons (wC (.int 0)) (wACons (wBin gAdd (wC (.int 419)) (wBin gMul (wC (.int 43)) (wC1 gLen (wPeek 1)))) (wACons (wC (.int 0)) wANil))))))))
theorem sc_law_hand : FnScope ["script", "cells", "cell"] ["script"] (defScope s_law_hand) := ⟨rfl, rfl, rfl, by decide +kernel, rfl, by decide +kernel, by decide +kernel⟩
section
variable {P : Program} {wd : World} {K : PySem.W.Frag} {mg : Str → Option Value} {base : Heap} {A : Fs}
theorem dv_law_hand (T : Txt K mg A) (cdv : Value) (A' : Around) (outer : List Env) (s : Shared) (H : Hp) (E : XK) (hr : Room 0 (A'.deeper (PyProof.Rows.envOfC "_law_hand" (defScope s_law_hand) s.heap.objs.size A.a_law_hand cdv))) :
    ∃ t, DSs (cxOf CX0 P wd K mg base ["script", "cells", "cell"] "_law_hand" (defScope s_law_hand) A.a_law_hand cdv A' outer s H E).nox (defBody s_law_hand) t w_law_hand := ⟨_, 
  (dss_cons (ds_setLc 1 (own := [("cell", 2)]) sc_law_hand.nd rfl (di_any (de_slV 0 do_none (do_some de_int))) (blkOk_by (N := N_law_hand) (sc := defScope s_law_hand) (by decide +kernel)) (fun _ _ _ _ _ => ⟨_, (dg_name 2 (by exact sc_law_hand.nd))⟩) (fun _ _ _ _ _ => ⟨_, dts_nil⟩) (fun _ _ _ _ _ => ⟨_, (de_callB call_abs cs_abs (by rfl) T.m_abs (by decide +kernel) (dp_of (de_callT call_int1 cs_int (by rfl) T.m_int (by decide +kernel) (dp_var 2))))⟩))
  (dss_one (ds_retF (df_lst (da_cons (de_var 1) (da_cons de_int (da_cons de_int (da_cons (de_bin op_addA os_add de_int (dp_of (de_bin op_mul os_mul de_int (dp_of (de_callB cr_len cs_len (by rfl) T.m_len (by decide +kernel) (dp_var 1)))))) (da_cons de_int da_nil)))))))))⟩
end

def N_law_draw : List Str := ["hand", "sides", "cell", "digit", "number"]
def w_law_draw : WS := (wSeq (wIf (wAndT (wTB (wBin gEq (wBinV gIx 0 (wC (.int 2))) (wC (.int 0)))) (wTB (wBin gLt (wBinV gIx 0 (wC (.int 1))) (wC1 gLen (wBinV gIx 0 (wC (.int 0))))))) (wSeq (wSet 2 (wBin gIx (wBinV gIx 0 (wC (.int 0))) (wBinV gIx 0 (wC (.int 1)))))
  (wSeq (wSetI 0 (wBin gAdd (wBinV gIx 0 (wC (.int 1))) (wC (.int 1))) (wC (.int 1)))
  (wSeq (wSetI 0 (wBin gMod (wC1 gInt (wBin gAdd (wBin gAdd (wBin gMul (wBinV gIx 0 (wC (.int 3))) (wC (.int 69621))) (wPeek 2)) (wC (.int 29)))) (wC (.int 2147483629))) (wC (.int 3)))
  (wIf (wTB (wBinV gGe 2 (wBin gPow (wC (.int 10)) (wC (.int 18))))) (wSetI 0 (wVar 2) (wC (.int 2))) wNext)))) wNext)
  (wSeq (wIf (wTB (wBin gGt (wBinV gIx 0 (wC (.int 2))) (wC (.int 0)))) (wSeq (wSet 3 (wBin gMod (wC1 gInt (wBinV gIx 0 (wC (.int 2)))) (wPeek 1)))
  (wSeq (wSetI 0 (wBin gDiv (wBinV gIx 0 (wC (.int 2))) (wPeek 1)) (wC (.int 2)))
  (wRetV 3))) wNext)
  (wSeq (wSetI 0 (wBin gAdd (wBinV gIx 0 (wC (.int 4))) (wC (.int 1))) (wC (.int 4)))
  (wSeq (wSet 4 (wBin gMod (wC1 gInt (wBin gMul (wC1 gInt (wBin gAdd (wBinV gIx 0 (wC (.int 3))) (wBin gMul (wC (.int 7919)) (wBinV gIx 0 (wC (.int 4)))))) (wC (.int 48271)))) (wC (.int 2147483647))))
  (wSeq (wSet 4 (wBin gMod (wC1 gInt (wBinV gMul 4 (wBin gAdd (wBinV gDiv 4 (wC (.int 1009))) (wC (.int 69621))))) (wC (.int 2147483647))))
  (wSeq (wSet 4 (wBin gMod (wC1 gInt (wBinV gMul 4 (wBin gAdd (wBinV gDiv 4 (wC (.int 2003))) (wC (.int 40692))))) (wC (.int 2147483399))))
  (wRet (wBin gMod (wC1 gInt (wBinV gDiv 4 (wC (.int 16)))) (wPeek 1)))))))))
theorem sc_law_draw : FnScope ["hand", "sides", "cell", "digit", "number"] ["hand", "sides"] (defScope s_law_draw) := ⟨rfl, rfl, rfl, by decide +kernel, rfl, by decide +kernel, by decide +kernel⟩
section
variable {P : Program} {wd : World} {K : PySem.W.Frag} {mg : Str → Option Value} {base : Heap} {A : Fs}
theorem dv_law_draw (T : Txt K mg A) (cdv : Value) (A' : Around) (outer : List Env) (s : Shared) (H : Hp) (E : XK) (hr : Room 0 (A'.deeper (PyProof.Rows.envOfC "_law_draw" (defScope s_law_draw) s.heap.objs.size A.a_law_draw cdv))) :
    ∃ t, DSs (cxOf CX0 P wd K mg base ["hand", "sides", "cell", "digit", "number"] "_law_draw" (defScope s_law_draw) A.a_law_draw cdv A' outer s H E).nox (defBody s_law_draw) t w_law_draw := ⟨_, 
  (dss_cons (ds_if (dw_pt (dw_and (dt_cmp (op_eqD hr.units) os_eq (de_ixV 0 (dp_of de_int) (fun _ _ => rfl)) (dp_of de_int) (nomark _)) (dw_and1 (dt_cmp op_lt os_lt (de_ixV 0 (dp_of de_int) (fun _ _ => rfl)) (dp_of (de_callB cr_len cs_len (by rfl) T.m_len (by decide +kernel) (dp_of (de_ixV 0 (dp_of de_int) (fun _ _ => rfl))))) (nomark _))))) (dss_cons (ds_set 2 (de_ix (de_ixV 0 (dp_of de_int) (fun _ _ => rfl)) (dp_of (de_ixV 0 (dp_of de_int) (fun _ _ => rfl))) (fun _ _ => rfl)) sc_law_draw.nd)
  (dss_cons (ds_setI 0 (de_bin op_addA os_add (de_ixV 0 (dp_of de_int) (fun _ _ => rfl)) (dp_of de_int)) de_int)
  (dss_cons (ds_setI 0 (de_bin op_modN os_mod (de_callT call_int1 cs_int (by rfl) T.m_int (by decide +kernel) (dp_of (de_bin op_addA os_add (de_bin op_addA os_add (de_bin op_mul os_mul (de_ixV 0 (dp_of de_int) (fun _ _ => rfl)) (dp_of de_int)) (dp_var 2)) (dp_of de_int)))) (dp_of de_int)) de_int)
  (dss_one (ds_if (dt_cmpV 2 op_ge os_ge (dp_of (de_bin op_pow os_pow de_int (dp_of de_int))) (nomark _)) (dss_one (ds_setI 0 (de_var 2) de_int)) dss_nil))))) dss_nil)
  (dss_cons (ds_if (dt_cmp op_gt os_gt (de_ixV 0 (dp_of de_int) (fun _ _ => rfl)) (dp_of de_int) (nomark _)) (dss_cons (ds_set 3 (de_bin op_modN os_mod (de_callT call_int1 cs_int (by rfl) T.m_int (by decide +kernel) (dp_of (de_ixV 0 (dp_of de_int) (fun _ _ => rfl)))) (dp_var 1)) sc_law_draw.nd)
  (dss_cons (ds_setI 0 (de_bin op_fdivN os_div (de_ixV 0 (dp_of de_int) (fun _ _ => rfl)) (dp_var 1)) de_int)
  (dss_one (ds_retV 3)))) dss_nil)
  (dss_cons (ds_setI 0 (de_bin op_addA os_add (de_ixV 0 (dp_of de_int) (fun _ _ => rfl)) (dp_of de_int)) de_int)
  (dss_cons (ds_set 4 (de_bin op_modN os_mod (de_callT call_int1 cs_int (by rfl) T.m_int (by decide +kernel) (dp_of (de_bin op_mul os_mul (de_callT call_int1 cs_int (by rfl) T.m_int (by decide +kernel) (dp_of (de_bin op_addA os_add (de_ixV 0 (dp_of de_int) (fun _ _ => rfl)) (dp_of (de_bin op_mul os_mul de_int (dp_of (de_ixV 0 (dp_of de_int) (fun _ _ => rfl)))))))) (dp_of de_int)))) (dp_of de_int)) sc_law_draw.nd)
  (dss_cons (ds_set 4 (de_bin op_modN os_mod (de_callT call_int1 cs_int (by rfl) T.m_int (by decide +kernel) (dp_of (de_binV 4 op_mul os_mul (dp_of (de_bin op_addA os_add (de_binV 4 op_fdivN os_div (dp_of de_int)) (dp_of de_int)))))) (dp_of de_int)) sc_law_draw.nd)
  (dss_cons (ds_set 4 (de_bin op_modN os_mod (de_callT call_int1 cs_int (by rfl) T.m_int (by decide +kernel) (dp_of (de_binV 4 op_mul os_mul (dp_of (de_bin op_addA os_add (de_binV 4 op_fdivN os_div (dp_of de_int)) (dp_of de_int)))))) (dp_of de_int)) sc_law_draw.nd)
  (dss_one (ds_ret (de_bin op_modN os_mod (de_callT call_int1 cs_int (by rfl) T.m_int (by decide +kernel) (dp_of (de_binV 4 op_fdivN os_div (dp_of de_int)))) (dp_var 1))))))))))⟩
end

theorem hw_law_hand : ∀ z, pr_law_hand z → w_law_hand (endsF (po_law_hand z)) (startE ["script", "cells", "cell"] (ar_law_hand z)) := by
  intro ns h
  have h : ns.length ≤ 63 := h
  refine comp_map (xs := cutG ns none (some 63)) (enc := PyData.int) (f := fun c => .int (if c < 0 then -c else c)) (cutD_map _ _ _ _) (Nat.le_trans (cutG_len _ _ _) (Nat.le_trans h (by rw [sizeLine_eq]; decide))) (fun i x hx Q q => q _ rfl) ?_
  refine ⟨.inr ⟨?_, ?_⟩, (by show 5 ≤ sizeLine; rw [sizeLine_eq]; decide), (cutG ns none (some 63)).map (fun c => if c < 0 then -c else c), 0, 0, 419 + 43 * (((cutG ns none (some 63)).map (fun c => PyData.int (if c < 0 then -c else c))).length : Nat), 0, ?_, Int.le_refl _⟩
  · show -(2 ^ 64) < (((cutG ns none (some 63)).map _).length : Int)
    omega
  · show (((cutG ns none (some 63)).map _).length : Int) < 2 ^ 64
    rw [List.length_map]
    have := cutG_len ns none (some 63)
    omega
  · rw [List.map_map]
    rfl
theorem fmod_lt {y M : Int} (h : 0 < M) : 0 ≤ y.fmod M ∧ y.fmod M < M := ⟨Int.fmod_nonneg_of_pos _ h, Int.fmod_lt_of_pos _ h⟩
theorem draw_tail {n : Int} (h1 : 0 < n) (h2 : n < 1000000) (hs : List Dt) (hI : HandI hs) (x : Sl) : (wSeq (wIf (wTB (wBin gGt (wBinV gIx 0 (wC (.int 2))) (wC (.int 0)))) (wSeq (wSet 3 (wBin gMod (wC1 gInt (wBinV gIx 0 (wC (.int 2)))) (wPeek 1)))
  (wSeq (wSetI 0 (wBin gDiv (wBinV gIx 0 (wC (.int 2))) (wPeek 1)) (wC (.int 2)))
  (wRetV 3))) wNext)
  (wSeq (wSetI 0 (wBin gAdd (wBinV gIx 0 (wC (.int 4))) (wC (.int 1))) (wC (.int 4)))
  (wSeq (wSet 4 (wBin gMod (wC1 gInt (wBin gMul (wC1 gInt (wBin gAdd (wBinV gIx 0 (wC (.int 3))) (wBin gMul (wC (.int 7919)) (wBinV gIx 0 (wC (.int 4)))))) (wC (.int 48271)))) (wC (.int 2147483647))))
  (wSeq (wSet 4 (wBin gMod (wC1 gInt (wBinV gMul 4 (wBin gAdd (wBinV gDiv 4 (wC (.int 1009))) (wC (.int 69621))))) (wC (.int 2147483647))))
  (wSeq (wSet 4 (wBin gMod (wC1 gInt (wBinV gMul 4 (wBin gAdd (wBinV gDiv 4 (wC (.int 2003))) (wC (.int 40692))))) (wC (.int 2147483399))))
  (wRet (wBin gMod (wC1 gInt (wBinV gDiv 4 (wC (.int 16)))) (wPeek 1)))))))) (endsH (po_law_draw n)) [.bow hs, .sh (.int n), x, .no, .no] := by
  obtain ⟨cells, i, l, m, c, rfl, hi⟩ := hI
  refine ite2 (fun h => ?_) (fun h => ?_)
  · refine ⟨by omega, ⟨by omega, by omega⟩, rfl, ⟨l.fmod n, rfl, fmod_lt h1⟩, cells, i, _, m, c, rfl, hi⟩
  · refine ⟨rfl, .inl ⟨by decide, by decide⟩, .inr ⟨by decide, by decide⟩, (by show (2147483647 : Int) ≠ 0; decide), ?_⟩
    obtain ⟨a1, a2⟩ := fmod_lt (y := (m + 7919 * (c + 1)) * 48271) (M := 2147483647) (by decide)
    change 0 ≤ ((fun i j : Int => i.fmod j) _ 2147483647) at a1
    change ((fun i j : Int => i.fmod j) _ 2147483647) < 2147483647 at a2
    generalize ((fun i j : Int => i.fmod j) ((fun i j => i * j) (m + (fun i j => i * j) 7919 (c + 1)) 48271) 2147483647) = y at a1 a2 ⊢
    refine ⟨⟨by decide, by decide⟩, .inl ⟨by omega, by omega⟩, (by show (2147483647 : Int) ≠ 0; decide), ?_⟩
    obtain ⟨a3, a4⟩ := fmod_lt (y := y * (y.fdiv 1009 + 69621)) (M := 2147483647) (by decide)
    change 0 ≤ ((fun i j : Int => i.fmod j) _ 2147483647) at a3
    change ((fun i j : Int => i.fmod j) _ 2147483647) < 2147483647 at a4
    generalize ((fun i j : Int => i.fmod j) ((fun i j => i * j) y ((fun i j => i.fdiv j) y 1009 + 69621)) 2147483647) = z at a3 a4 ⊢
    refine ⟨⟨by decide, by decide⟩, .inl ⟨by omega, by omega⟩, (by show (2147483399 : Int) ≠ 0; decide), ⟨by decide, by decide⟩, by omega, ⟨_, rfl, fmod_lt h1⟩, cells, i, l, m, c + 1, rfl, hi⟩
theorem hw_law_draw : ∀ z hs, pr_law_draw z → HandI hs → w_law_draw (endsH (po_law_draw z)) (startB ["hand", "sides", "cell", "digit", "number"] hs (ar_law_draw z)) := by
  intro n hs ⟨h1, h2⟩ hI
  obtain ⟨cells, i, l, m, c, rfl, hi⟩ := id hI
  have sh : ∀ k : Int, SeqAt.shaped (.int k) = true := fun k => EncOk.int.shaped (by decide) k
  refine ⟨⟨sh _, sh _⟩, ite2 (fun _ => ite2 (fun hlt => ?_) (fun _ => draw_tail h1 h2 _ hI _)) (fun _ => ite2 (fun q => absurd q (by decide)) (fun _ => draw_tail h1 h2 _ hI _))⟩
  have hlt : i < ((cells.map PyData.int).length : Int) := of_decide_eq_true hlt
  rw [List.length_map] at hlt
  obtain ⟨j, rfl⟩ : ∃ j : Nat, i = j := ⟨i.toNat, by omega⟩
  have hj : j < cells.length := by omega
  have e : atI (cells.map PyData.int) (j : Int) = some (.int cells[j]) := atI_nat (by rw [List.getElem?_map, List.getElem?_eq_getElem hj]; rfl)
  show (match atI (cells.map PyData.int) (j : Int) with | some d => _ | none => False)
  rw [e]
  refine ⟨rfl, .inr ⟨by decide, by decide⟩, (by show (2147483629 : Int) ≠ 0; decide), rfl, ⟨by decide, by decide, by decide⟩, ite2 (fun _ => ?_) (fun _ => ?_)⟩
  · exact ⟨rfl, draw_tail h1 h2 _ ⟨cells, (j : Int) + 1, _, _, c, rfl, by omega⟩ _⟩
  · exact draw_tail h1 h2 _ ⟨cells, (j : Int) + 1, _, _, c, rfl, by omega⟩ _
theorem ok_law_hand {P : Program} {wd : World} {K : PySem.W.Frag} {mg : Str → Option Value} {base : Heap} {A : Fs} (T : Txt K mg A) : FnOk P wd K mg base CX0 1 A.a_law_hand A.d_law_hand ["script"] (spF K ar_law_hand pr_law_hand po_law_hand) :=
  dfnF T.F_law_hand sc_law_hand (fun _ => rfl) (by decide) (dv_law_hand T) hw_law_hand

theorem ok_law_draw {P : Program} {wd : World} {K : PySem.W.Frag} {mg : Str → Option Value} {base : Heap} {A : Fs} (T : Txt K mg A) : FnOk P wd K mg base CX0 1 A.a_law_draw A.d_law_draw ["hand", "sides"] (spH K ar_law_draw pr_law_draw po_law_draw) :=
  dfnX T.F_law_draw sc_law_draw (fun _ => rfl) (by decide) (dv_law_draw T) (.inr hw_law_draw)

end Lw

namespace Lw
open PySem L2 DL
def prodStep (many : Int) (f : Int) (at_ : Nat) : Int := (f * (many - at_)).fdiv (at_ + 1)
def prodM (many : Int) (k : Nat) : Int := (List.range k).foldl (prodStep many) 1
def chooseM (many few : Int) : Int := if few < 0 ∨ many < few then 0 else prodM many few.toNat
def ar_choose (z : Int × Int) : List Dt := [.int z.1, .int z.2]
def pr_choose (z : Int × Int) : Prop := z.1 < 1000000 ∧ -1000000 < z.1
def po_choose (z : Int × Int) (d : Dt) : Prop := d = .int (chooseM z.1 z.2)
def ar_law_chosen (z : Int × Int) : List Dt := [.int z.1, .int z.2]
def pr_law_chosen (z : Int × Int) : Prop := z.1 < 1000000 ∧ -1000000 < z.1 ∧ z.2 < 1000000 ∧ -1000000 < z.2
def po_law_chosen (z : Int × Int) (d : Dt) : Prop := d = .int (prodM z.1 z.2.toNat)
def N_choose : List Str := ["many", "few", "found", "at"]
def w_choose : WS := (wSeq (wIf (wOrT (wTB (wBinV gLt 1 (wC (.int 0)))) (wTB (wBinV gGt 1 (wPeek 0)))) (wRet (wC (.int 0))) wNext)
  (wSeq (wSet 2 (wC (.int 1)))
  (wSeq (wFor (wIR1 (wVar 1)) (wgName 3) (wSet 2 (wBin gDiv (wBinV gMul 2 (wBinV DL.gSub 0 (wPeek 3))) (wBinV gAdd 3 (wC (.int 1))))))
  (wRetV 2))))
theorem sc_choose : FnScope ["many", "few", "found", "at"] ["many", "few"] (defScope s_choose) := ⟨rfl, rfl, rfl, by decide +kernel, rfl, by decide +kernel, by decide +kernel⟩
section
variable {P : Program} {wd : World} {K : PySem.W.Frag} {mg : Str → Option Value} {base : Heap} {A : Fs}
theorem dv_choose (T : Txt K mg A) (cdv : Value) (A' : Around) (outer : List Env) (s : Shared) (H : Hp) (E : XK) (hr : Room 0 (A'.deeper (PyProof.Rows.envOfC "choose" (defScope s_choose) s.heap.objs.size A.a_choose cdv))) :
    ∃ t, DSs (cxOf CX0 P wd K mg base ["many", "few", "found", "at"] "choose" (defScope s_choose) A.a_choose cdv A' outer s H E).nox (defBody s_choose) t w_choose := ⟨_, 
  (dss_cons (ds_if (dw_pt (dw_or (dt_cmpV 1 op_lt os_lt (dp_of de_int) (nomark _)) (dw_or1 (dt_cmpV 1 op_gt os_gt (dp_var 0) (nomark _))))) (dss_one (ds_ret de_int)) dss_nil)
  (dss_cons (ds_set 2 de_int sc_choose.nd)
  (dss_cons (ds_for rfl (di_range1 (by rfl) T.m_range (de_var 1)) (dg_name 3 (by exact sc_choose.nd)) (dss_one (ds_set 2 (de_bin op_fdivN os_div (de_binV 2 op_mul os_mul (dp_of (de_binV 0 op_sub os_sub (dp_var 3)))) (dp_of (de_binV 3 op_addA os_add (dp_of de_int)))) sc_choose.nd)))
  (dss_one (ds_retV 2)))))⟩
end

def N_law_chosen : List Str := ["many", "some", "found", "at"]
def w_law_chosen : WS := (wSeq (wSet 2 (wC (.int 1)))
  (wSeq (wFor (wIR1 (wVar 1)) (wgName 3) (wSet 2 (wBin gDiv (wBinV gMul 2 (wBinV DL.gSub 0 (wPeek 3))) (wBinV gAdd 3 (wC (.int 1))))))
  (wRetV 2)))
theorem sc_law_chosen : FnScope ["many", "some", "found", "at"] ["many", "some"] (defScope s_law_chosen) := ⟨rfl, rfl, rfl, by decide +kernel, rfl, by decide +kernel, by decide +kernel⟩
section
variable {P : Program} {wd : World} {K : PySem.W.Frag} {mg : Str → Option Value} {base : Heap} {A : Fs}
theorem dv_law_chosen (T : Txt K mg A) (cdv : Value) (A' : Around) (outer : List Env) (s : Shared) (H : Hp) (E : XK) (hr : Room 0 (A'.deeper (PyProof.Rows.envOfC "_law_chosen" (defScope s_law_chosen) s.heap.objs.size A.a_law_chosen cdv))) :
    ∃ t, DSs (cxOf CX0 P wd K mg base ["many", "some", "found", "at"] "_law_chosen" (defScope s_law_chosen) A.a_law_chosen cdv A' outer s H E).nox (defBody s_law_chosen) t w_law_chosen := ⟨_, 
  (dss_cons (ds_set 2 de_int sc_law_chosen.nd)
  (dss_cons (ds_for rfl (di_range1 (by rfl) T.m_range (de_var 1)) (dg_name 3 (by exact sc_law_chosen.nd)) (dss_one (ds_set 2 (de_bin op_fdivN os_div (de_binV 2 op_mul os_mul (dp_of (de_binV 0 op_sub os_sub (dp_var 3)))) (dp_of (de_binV 3 op_addA os_add (dp_of de_int)))) sc_law_chosen.nd)))
  (dss_one (ds_retV 2))))⟩
end

theorem prodM_succ (many : Int) (k : Nat) : prodM many (k + 1) = prodStep many (prodM many k) k := by
  unfold prodM
  rw [List.range_succ, List.foldl_append]
  rfl
theorem loop_prod {many few : Int} {E : WEnds} (h1 : many < 1000000) (h2 : -1000000 < many) (h3 : few ≤ 1000000) (h4 : -1000000 ≤ few)
    (k : ∀ x, E.rt (.int (prodM many few.toNat)) [.sh (.int many), .sh (.int few), .sh (.int (prodM many few.toNat)), x]) :
    (wSeq (wSet 2 (wC (.int 1)))
  (wSeq (wFor (wIR1 (wVar 1)) (wgName 3) (wSet 2 (wBin gDiv (wBinV gMul 2 (wBinV DL.gSub 0 (wPeek 3))) (wBinV gAdd 3 (wC (.int 1)))))) (wRetV 2))) E [.sh (.int many), .sh (.int few), .no, .no] := by
  refine ⟨⟨by omega, by omega⟩, fun i e => ∃ x, e = [.sh (.int many), .sh (.int few), .sh (.int (prodM many i)), x], ⟨_, rfl⟩, fun i d e hd hI => ?_, fun e hI => ?_⟩
  · obtain ⟨x, rfl⟩ := hI
    obtain ⟨hi, rfl⟩ := rgD1_get hd
    refine ⟨.inr ⟨by dsimp only; omega, by dsimp only; omega⟩, ⟨by omega, by omega⟩, .sh (.int (i : Nat)), ?_⟩
    rw [prodM_succ]
    rfl
  · obtain ⟨x, rfl⟩ := hI
    rw [rgD_len]
    exact k x
theorem hw_choose : ∀ z, pr_choose z → w_choose (endsR (po_choose z)) (startE ["many", "few", "found", "at"] (ar_choose z)) := by
  intro ⟨many, few⟩ ⟨h1, h2⟩
  have h1 : many < 1000000 := h1
  have h2 : -1000000 < many := h2
  refine ite2 (fun h => ite2 (fun _ => ?_) (fun q => absurd rfl q)) (fun h => ite2 (fun h' => ?_) (fun h' => ?_))
  · show PyData.int 0 = .int (chooseM many few)
    rw [chooseM, if_pos (.inl (of_decide_eq_true h))]
  · show PyData.int 0 = .int (chooseM many few)
    rw [chooseM, if_pos (.inr (of_decide_eq_true h'))]
  · have c1 : ¬ few < 0 := fun q => h (decide_eq_true q)
    have c2 : ¬ many < few := fun q => h' (decide_eq_true q)
    refine loop_prod h1 h2 (by omega) (by omega) fun x => ?_
    show PyData.int _ = .int (chooseM many few)
    rw [chooseM, if_neg (by omega)]
theorem hw_law_chosen : ∀ z, pr_law_chosen z → w_law_chosen (endsR (po_law_chosen z)) (startE ["many", "some", "found", "at"] (ar_law_chosen z)) := by
  intro ⟨many, few⟩ ⟨h1, h2, h3, h4⟩
  exact loop_prod h1 h2 (Int.le_of_lt h3) (Int.le_of_lt h4) fun x => rfl
abbrev ar_law_is := @ar_is
abbrev pr_law_is := @pr_is
abbrev po_law_is := @po_is
def N_law_is : List Str := ["one", "other", "mine", "yours", "key"]
def w_law_is (n : Nat) : WS := (wSeq (wIf (wOrT (wTB (wIsi .bool (wPeek 0))) (wTB (wIsi .bool (wPeek 1)))) (wRet (wAndV (wIsi .bool (wPeek 0)) (wAndV (wIsi .bool (wPeek 1)) (wBinV gEq 0 (wPeek 1))))) wNext)
  (wSeq (wIf (wOrT (wTB (wIsi .tuple (wPeek 0))) (wTB (wIsi .list (wPeek 0)))) (wSeq (wIf (wTB (wBin gNe (wIsi .tuple (wPeek 0)) (wIsi .tuple (wPeek 1)))) (wRet (wC (.bool false))) wNext)
  (wSeq (wIf (wTB (wBin gNe (wIsi .list (wPeek 0)) (wIsi .list (wPeek 1)))) (wRet (wC (.bool false))) wNext)
  (wRet (wAndV (wBin gEq (wC1 gLen (wPeek 0)) (wC1 gLen (wPeek 1))) (wC1 gAll (wFrz (wComp (wIZ (wVar 0) (wVar 1)) (wgTup 2 (wgCons (wgName 2) (wgCons (wgName 3) wgNil))) wYes (wCall ar_law_is (pr_law_is n) po_law_is (wACons (wVar 2) (wACons (wVar 3) wANil))) [2, 3]))))))) wNext)
  (wSeq (wIf (wTB (wIsi .dict (wPeek 0))) (wSeq wNever
  wNever) wNext)
  (wRet (wAndV (wBin gEq (wIsi .int (wPeek 0)) (wIsi .int (wPeek 1))) (wBinV gEq 0 (wPeek 1)))))))
theorem sc_law_is : FnScope ["one", "other", "mine", "yours", "key"] ["one", "other"] (defScope s_law_is) := ⟨rfl, rfl, rfl, by decide +kernel, rfl, by decide +kernel, by decide +kernel⟩
section
variable {P : Program} {wd : World} {K : PySem.W.Frag} {mg : Str → Option Value} {base : Heap} {A : Fs}
theorem dv_law_is (T : Txt K mg A) (n kk : Nat) (G : FnOk P wd K mg base CX0 kk A.a_law_is A.d_law_is ["one", "other"] (spR K ar_law_is (pr_law_is n) po_law_is)) (cdv : Value) (A' : Around) (outer : List Env) (s : Shared) (H : Hp) (E : XK) (hr : Room kk (A'.deeper (PyProof.Rows.envOfC "_law_is" (defScope s_law_is) s.heap.objs.size A.a_law_is cdv))) :
    ∃ t, DSs (cxOf CX0 P wd K mg base ["one", "other", "mine", "yours", "key"] "_law_is" (defScope s_law_is) A.a_law_is cdv A' outer s H E).nox (defBody s_law_is) t (w_law_is n) := ⟨_, 
  (dss_cons (ds_if (dw_pt (dw_or (dt_val (de_isi .bool (by rfl) T.m_isinstance (dp_var 0) (by rfl) T.m_bool (by decide +kernel))) (dw_or1 (dt_val (de_isi .bool (by rfl) T.m_isinstance (dp_var 1) (by rfl) T.m_bool (by decide +kernel)))))) (dss_one (ds_ret (de_and (de_isi .bool (by rfl) T.m_isinstance (dp_var 0) (by rfl) T.m_bool (by decide +kernel)) (de_and (de_isi .bool (by rfl) T.m_isinstance (dp_var 1) (by rfl) T.m_bool (by decide +kernel)) (de_one (de_cmpV 0 (op_eqD hr.units) os_eq (dp_var 1) (nomark _))))))) dss_nil)
  (dss_cons (ds_if (dw_pt (dw_or (dt_val (de_isi .tuple (by rfl) T.m_isinstance (dp_var 0) (by rfl) T.m_tuple (by decide +kernel))) (dw_or1 (dt_val (de_isi .list (by rfl) T.m_isinstance (dp_var 0) (by rfl) T.m_list (by decide +kernel)))))) (dss_cons (ds_if (dt_cmp (op_neD hr.units) os_ne (de_isi .tuple (by rfl) T.m_isinstance (dp_var 0) (by rfl) T.m_tuple (by decide +kernel)) (dp_of (de_isi .tuple (by rfl) T.m_isinstance (dp_var 1) (by rfl) T.m_tuple (by decide +kernel))) (nomark _)) (dss_one (ds_ret de_bl)) dss_nil)
  (dss_cons (ds_if (dt_cmp (op_neD hr.units) os_ne (de_isi .list (by rfl) T.m_isinstance (dp_var 0) (by rfl) T.m_list (by decide +kernel)) (dp_of (de_isi .list (by rfl) T.m_isinstance (dp_var 1) (by rfl) T.m_list (by decide +kernel))) (nomark _)) (dss_one (ds_ret de_bl)) dss_nil)
  (dss_one (ds_ret (de_and (de_cmp (op_eqD hr.units) os_eq (de_callB cr_len cs_len (by rfl) T.m_len (by decide +kernel) (dp_var 0)) (dp_of (de_callB cr_len cs_len (by rfl) T.m_len (by decide +kernel) (dp_var 1))) (nomark _)) (de_one (de_callB (cr_all (by rfl)) cs_all (by rfl) T.m_all (by decide +kernel) (dp_of (de_frz (df_comp (own := [("mine", 2), ("yours", 3)]) (by rfl) (by exact sc_law_is.nd) (di_zip (by rfl) T.m_zip (de_var 0) (de_var 1)) (blkOk_by (N := N_law_is) (sc := defScope s_law_is) (by decide +kernel)) (fun _ _ _ _ _ => ⟨_, (dg_tup (by rfl) (dgs_cons (dg_name 2 (by exact sc_law_is.nd)) (dgs_cons (dg_name 3 (by exact sc_law_is.nd)) dgs_nil)))⟩) (fun _ _ _ _ _ => ⟨_, dts_nil⟩) (fun _ _ _ _ _ => ⟨_, (de_call G hr (by rfl) T.g_law_is T.F_law_is.kp T.b_law_is pass0 (da_cons (de_var 2) (da_cons (de_var 3) da_nil)))⟩))))))))))) dss_nil)
  (dss_cons (ds_if (dt_val (de_isi .dict (by rfl) T.m_isinstance (dp_var 0) (by rfl) T.m_dict (by decide +kernel))) (dss_cons ds_never
  (dss_one ds_never)) dss_nil)
  (dss_one (ds_ret (de_and (de_cmp (op_eqD hr.units) os_eq (de_isi .int (by rfl) T.m_isinstance (dp_var 0) (by rfl) T.m_int (by decide +kernel)) (dp_of (de_isi .int (by rfl) T.m_isinstance (dp_var 1) (by rfl) T.m_int (by decide +kernel))) (nomark _)) (de_one (de_cmpV 0 (op_eqD hr.units) os_eq (dp_var 1) (nomark _)))))))))⟩
theorem ok_law_is (T : Txt K mg A) (hw : ∀ n z, pr_law_is (n + 1) z → w_law_is n (endsR (po_law_is z)) (startE ["one", "other", "mine", "yours", "key"] (ar_law_is z))) (h0 : ∀ z, ¬ pr_law_is 0 z) (hl : ∀ z, (ar_law_is z).length = 2) : ∀ n, FnOk P wd K mg base CX0 (n + 1) A.a_law_is A.d_law_is ["one", "other"] (spR K ar_law_is (pr_law_is n) po_law_is)
  | 0 => ⟨fun vs H Q E ⟨_, z, _, _, q, _⟩ => (h0 z q).elim, fun _ _ _ _ _ _ vs Q E _ _ _ _ ⟨_, z, _, _, q, _⟩ => (h0 z q).elim⟩
  | n + 1 => dfn T.F_law_is sc_law_is hl (by decide) (dv_law_is T n (n + 1) (ok_law_is T hw h0 hl n)) (hw n)
end

theorem hw_law_is : ∀ n z, pr_law_is (n + 1) z → w_law_is n (endsR (po_law_is z)) (startE ["one", "other", "mine", "yours", "key"] (ar_law_is z)) := hw_is
theorem okk_law_is {P : Program} {wd : World} {K : PySem.W.Frag} {mg : Str → Option Value} {base : Heap} {A : Fs} (T : Txt K mg A) (n : Nat) : FnOk P wd K mg base CX0 (n + 1) A.a_law_is A.d_law_is ["one", "other"] (spR K ar_law_is (pr_law_is n) po_law_is) := ok_law_is T hw_law_is is_h0 is_hl n
theorem ok_choose {P : Program} {wd : World} {K : PySem.W.Frag} {mg : Str → Option Value} {base : Heap} {A : Fs} (T : Txt K mg A) : FnOk P wd K mg base CX0 1 A.a_choose A.d_choose ["many", "few"] (spR K ar_choose pr_choose po_choose) :=
  dfn T.F_choose sc_choose (fun _ => rfl) (by decide) (dv_choose T) hw_choose

theorem ok_law_chosen {P : Program} {wd : World} {K : PySem.W.Frag} {mg : Str → Option Value} {base : Heap} {A : Fs} (T : Txt K mg A) : FnOk P wd K mg base CX0 1 A.a_law_chosen A.d_law_chosen ["many", "some"] (spR K ar_law_chosen pr_law_chosen po_law_chosen) :=
  dfn T.F_law_chosen sc_law_chosen (fun _ => rfl) (by decide) (dv_law_chosen T) hw_law_chosen

end Lw

namespace Lw
open PySem L2 DL
/-! paths -/
abbrev Pt := Int × Int
abbrev Way := List Pt
def encP (p : Pt) : Dt := .tuple [.int p.1, .int p.2]
def encW (w : Way) : Dt := .tuple (w.map encP)
theorem okP : EncOk encP 1 := EncOk.int.pair EncOk.int
theorem okW : EncOk encW 2 := okP.tup
theorem okWs : EncOk (fun ws : List Way => PyData.list (ws.map encW)) 3 := okW.lst
def lastP (w : Way) : Pt := w.getLastD (0, 0)
def extX (e : Pt) (w : Way) : List Way := if (lastP w).1 < e.1 then [w ++ [((lastP w).1 + 1, (lastP w).2)]] else []
def extY (e : Pt) (w : Way) : List Way := if (lastP w).2 < e.2 then [w ++ [((lastP w).1, (lastP w).2 + 1)]] else []
/-- one turn of the program's loop -/
def stepA (e : Pt) (s : List Way × List Way) : List Way × List Way := match s.2.getLast? with
  | none => s
  | some w => if lastP w = e then (s.1 ++ [w], s.2.dropLast) else (s.1, s.2.dropLast ++ extX e w ++ extY e w)
def iterA (s e : Pt) : Nat → List Way × List Way
  | 0 => ([], [[s]])
  | k + 1 => stepA e (iterA s e k)
def allM (s e : Pt) : List Way := (iterA s e 130).1
/-- one row of the law's loop -/
def lvl (e : Pt) (ws : List Way) : List Way := ws.flatMap fun w => extX e w ++ extY e w
def iterL (s e : Pt) : Nat → List Way
  | 0 => [[s]]
  | k + 1 => lvl e (iterL s e k)
def lawM (s e : Pt) : List Way := iterL s e (e.1 - s.1 + e.2 - s.2).toNat
def sane (s e : Pt) : Bool := decide (s.1 ≤ e.1) && decide (s.2 ≤ e.2)
def ar_all_paths (z : Pt × Pt) : List Dt := [encP z.1, encP z.2]
def pr_all_paths (z : Pt × Pt) : Prop := (iterA z.1 z.2 130).2 = []
def po_all_paths (z : Pt × Pt) (ds : List Dt) : Prop := ds = sortD ((allM z.1 z.2).map encW)
def ar_law_paths (z : Pt × Pt) : List Dt := [encP z.1, encP z.2]
def pr_law_paths (z : Pt × Pt) : Prop := z.2.1 - z.1.1 + z.2.2 - z.1.2 ≤ 20 ∧ -1000 ≤ z.2.1 - z.1.1 + z.2.2 - z.1.2
def po_law_paths (z : Pt × Pt) (ds : List Dt) : Prop := ds = if sane z.1 z.2 then sortD ((lawM z.1 z.2).map encW) else []
def N_all_paths : List Str := ["start", "end", "found", "waiting", "way", "x", "y"]
def w_all_paths : WS := (wSeq (wPar2 2 3 (wKFr (wLst wANil) (wKFr (wLst (wACons (wTup (wACons (wVar 0) wANil)) wANil)) wKNil)))
  (wSeq (wWhile (wTB (wBinV gNe 3 (wFrz (wLst wANil)))) (wSeq (wSet 4 (wPop 3))
  (wSeq (wAsg (wBinV gIx 4 (wNeg (wC (.int 1)))) (wgTup 2 (wgCons (wgName 5) (wgCons (wgName 6) wgNil))))
  (wSeq (wIf (wTB (wBin gEq (wBinV gIx 4 (wNeg (wC (.int 1)))) (wPeek 1))) (wApp 2 (wVar 4)) (wSeq (wExt 3 (wIfF (wTB (wBinV gLt 5 (wBinV gIx 1 (wC (.int 0))))) (wLst (wACons (wBinV gAdd 4 (wTup (wACons (wTup (wACons (wBinV gAdd 5 (wC (.int 1))) (wACons (wVar 6) wANil))) wANil))) wANil)) (wLst wANil)))
  (wExt 3 (wIfF (wTB (wBinV gLt 6 (wBinV gIx 1 (wC (.int 1))))) (wLst (wACons (wBinV gAdd 4 (wTup (wACons (wTup (wACons (wVar 5) (wACons (wBinV gAdd 6 (wC (.int 1))) wANil))) wANil))) wANil)) (wLst wANil)))))
  (wIf (wTB (wBin gGt (wC1 gLen (wPeek 2)) (wC (.int 5000)))) wNever wNext)))))
  (wRetF (wC1F gSort (wPeek 2)))))
theorem sc_all_paths : FnScope ["start", "end", "found", "waiting", "way", "x", "y"] ["start", "end"] (defScope s_all_paths) := ⟨rfl, rfl, rfl, by decide +kernel, rfl, by decide +kernel, by decide +kernel⟩
section
variable {P : Program} {wd : World} {K : PySem.W.Frag} {mg : Str → Option Value} {base : Heap} {A : Fs}
theorem dv_all_paths (T : Txt K mg A) (cdv : Value) (A' : Around) (outer : List Env) (s : Shared) (H : Hp) (E : XK) (hr : Room 0 (A'.deeper (PyProof.Rows.envOfC "all_paths" (defScope s_all_paths) s.heap.objs.size A.a_all_paths cdv))) :
    ∃ t, DSs (cxOf CX0 P wd K mg base ["start", "end", "found", "waiting", "way", "x", "y"] "all_paths" (defScope s_all_paths) A.a_all_paths cdv A' outer s H E).nox (defBody s_all_paths) t w_all_paths := ⟨_, 
  (dss_cons (ds_par2 2 3 sc_all_paths.nd rfl (dk_fr (df_lst da_nil) (dk_fr (df_lst (da_cons (de_tup (da_cons (de_var 0) da_nil)) da_nil)) dk_nil)))
  (dss_cons (ds_while (dt_cmpV 3 (op_neD hr.units) os_ne (dp_of (de_frz (df_lst da_nil))) (nomark _)) (dss_cons (ds_set 4 (de_pop 3) sc_all_paths.nd)
  (dss_cons (ds_asg (de_ixV 4 (dp_of (de_neg de_int)) (fun _ _ => rfl)) (dg_tup (by rfl) (dgs_cons (dg_name 5 (by exact sc_all_paths.nd)) (dgs_cons (dg_name 6 (by exact sc_all_paths.nd)) dgs_nil))))
  (dss_cons (ds_if (dt_cmp (op_eqD hr.units) os_eq (de_ixV 4 (dp_of (de_neg de_int)) (fun _ _ => rfl)) (dp_var 1) (nomark _)) (dss_one (ds_app 2 (de_var 4))) (dss_cons (ds_ext 3 (df_if (dt_cmpV 5 op_lt os_lt (dp_of (de_ixV 1 (dp_of de_int) (fun _ _ => rfl))) (nomark _)) (df_lst (da_cons (de_binV 4 op_addA os_add (dp_of (de_tup (da_cons (de_tup (da_cons (de_binV 5 op_addA os_add (dp_of de_int)) (da_cons (de_var 6) da_nil))) da_nil)))) da_nil)) (df_lst da_nil)))
  (dss_one (ds_ext 3 (df_if (dt_cmpV 6 op_lt os_lt (dp_of (de_ixV 1 (dp_of de_int) (fun _ _ => rfl))) (nomark _)) (df_lst (da_cons (de_binV 4 op_addA os_add (dp_of (de_tup (da_cons (de_tup (da_cons (de_var 5) (da_cons (de_binV 6 op_addA os_add (dp_of de_int)) da_nil))) da_nil)))) da_nil)) (df_lst da_nil))))))
  (dss_one (ds_if (dt_cmp op_gt os_gt (de_callB cr_len cs_len (by rfl) T.m_len (by decide +kernel) (dp_var 2)) (dp_of (de_glob (v := .int 5000) (by rfl) T.c_MOST_KEPT ⟨_, rfl⟩ (fun _ => .int _))) (nomark _)) (dss_one ds_never) dss_nil))))))
  (dss_one (ds_retF (df_callB (cr_sortD hr.units) cs_sort (by rfl) T.m_sorted (by decide +kernel) (dp_var 2))))))⟩
end

def N_law_paths : List Str := ["start", "end", "found", "step", "longer", "path", "x", "y"]
def w_law_paths : WS := (wSeq (wSet 2 (wFrz (wLst (wACons (wTup (wACons (wVar 0) wANil)) wANil))))
  (wSeq (wFor (wIR1 (wBin DL.gSub (wBin gAdd (wBin DL.gSub (wBinV gIx 1 (wC (.int 0))) (wBinV gIx 0 (wC (.int 0)))) (wBinV gIx 1 (wC (.int 1)))) (wBinV gIx 0 (wC (.int 1))))) (wgName 3) (wSeq (wSetF 4 (wLst wANil))
  (wSeq (wFor (wIter (wVar 2)) (wgName 5) (wSeq (wAsg (wBinV gIx 5 (wNeg (wC (.int 1)))) (wgTup 2 (wgCons (wgName 6) (wgCons (wgName 7) wgNil))))
  (wSeq (wExt 4 (wIfF (wTB (wBinV gLt 6 (wBinV gIx 1 (wC (.int 0))))) (wLst (wACons (wBinV gAdd 5 (wTup (wACons (wTup (wACons (wBinV gAdd 6 (wC (.int 1))) (wACons (wVar 7) wANil))) wANil))) wANil)) (wLst wANil)))
  (wExt 4 (wIfF (wTB (wBinV gLt 7 (wBinV gIx 1 (wC (.int 1))))) (wLst (wACons (wBinV gAdd 5 (wTup (wACons (wTup (wACons (wVar 6) (wACons (wBinV gAdd 7 (wC (.int 1))) wANil))) wANil))) wANil)) (wLst wANil))))))
  (wSet 2 (wVar 4)))))
  (wRetF (wIfF (wAndT (wTB (wBin gGe (wBinV gIx 1 (wC (.int 0))) (wBinV gIx 0 (wC (.int 0))))) (wTB (wBin gGe (wBinV gIx 1 (wC (.int 1))) (wBinV gIx 0 (wC (.int 1)))))) (wC1F gSort (wPeek 2)) (wLst wANil)))))
theorem sc_law_paths : FnScope ["start", "end", "found", "step", "longer", "path", "x", "y"] ["start", "end"] (defScope s_law_paths) := ⟨rfl, rfl, rfl, by decide +kernel, rfl, by decide +kernel, by decide +kernel⟩
section
variable {P : Program} {wd : World} {K : PySem.W.Frag} {mg : Str → Option Value} {base : Heap} {A : Fs}
theorem dv_law_paths (T : Txt K mg A) (cdv : Value) (A' : Around) (outer : List Env) (s : Shared) (H : Hp) (E : XK) (hr : Room 0 (A'.deeper (PyProof.Rows.envOfC "_law_paths" (defScope s_law_paths) s.heap.objs.size A.a_law_paths cdv))) :
    ∃ t, DSs (cxOf CX0 P wd K mg base ["start", "end", "found", "step", "longer", "path", "x", "y"] "_law_paths" (defScope s_law_paths) A.a_law_paths cdv A' outer s H E).nox (defBody s_law_paths) t w_law_paths := ⟨_, 
  (dss_cons (ds_set 2 (de_frz (df_lst (da_cons (de_tup (da_cons (de_var 0) da_nil)) da_nil))) sc_law_paths.nd)
  (dss_cons (ds_for rfl (di_range1 (by rfl) T.m_range (de_bin op_sub os_sub (de_bin op_addA os_add (de_bin op_sub os_sub (de_ixV 1 (dp_of de_int) (fun _ _ => rfl)) (dp_of (de_ixV 0 (dp_of de_int) (fun _ _ => rfl)))) (dp_of (de_ixV 1 (dp_of de_int) (fun _ _ => rfl)))) (dp_of (de_ixV 0 (dp_of de_int) (fun _ _ => rfl))))) (dg_name 3 (by exact sc_law_paths.nd)) (dss_cons (ds_setF 4 (df_lst da_nil) sc_law_paths.nd)
  (dss_cons (ds_for rfl (di_any (de_var 2)) (dg_name 5 (by exact sc_law_paths.nd)) (dss_cons (ds_asg (de_ixV 5 (dp_of (de_neg de_int)) (fun _ _ => rfl)) (dg_tup (by rfl) (dgs_cons (dg_name 6 (by exact sc_law_paths.nd)) (dgs_cons (dg_name 7 (by exact sc_law_paths.nd)) dgs_nil))))
  (dss_cons (ds_ext 4 (df_if (dt_cmpV 6 op_lt os_lt (dp_of (de_ixV 1 (dp_of de_int) (fun _ _ => rfl))) (nomark _)) (df_lst (da_cons (de_binV 5 op_addA os_add (dp_of (de_tup (da_cons (de_tup (da_cons (de_binV 6 op_addA os_add (dp_of de_int)) (da_cons (de_var 7) da_nil))) da_nil)))) da_nil)) (df_lst da_nil)))
  (dss_one (ds_ext 4 (df_if (dt_cmpV 7 op_lt os_lt (dp_of (de_ixV 1 (dp_of de_int) (fun _ _ => rfl))) (nomark _)) (df_lst (da_cons (de_binV 5 op_addA os_add (dp_of (de_tup (da_cons (de_tup (da_cons (de_var 6) (da_cons (de_binV 7 op_addA os_add (dp_of de_int)) da_nil))) da_nil)))) da_nil)) (df_lst da_nil)))))))
  (dss_one (ds_set 2 (de_var 4) sc_law_paths.nd)))))
  (dss_one (ds_retF (df_if (dw_pt (dw_and (dt_cmp op_ge os_ge (de_ixV 1 (dp_of de_int) (fun _ _ => rfl)) (dp_of (de_ixV 0 (dp_of de_int) (fun _ _ => rfl))) (nomark _)) (dw_and1 (dt_cmp op_ge os_ge (de_ixV 1 (dp_of de_int) (fun _ _ => rfl)) (dp_of (de_ixV 0 (dp_of de_int) (fun _ _ => rfl))) (nomark _))))) (df_callB (cr_sortD hr.units) cs_sort (by rfl) T.m_sorted (by decide +kernel) (dp_var 2)) (df_lst da_nil))))))⟩
end

theorem okWs_sh (ws : List Way) : SeqAt.shaped (.list (ws.map encW)) = true := okWs.shaped (by decide) ws
theorem atI_last {α : Type} (xs : List α) (x : α) : atI (xs ++ [x]) (-1) = some x := by
  unfold atI
  have e : ixN (xs ++ [x]).length (-1) = some xs.length := by
    unfold ixN
    rw [List.length_append]
    simp only [List.length_cons, List.length_nil]
    rw [if_neg (by omega), if_pos (by omega)]
    congr 1
    omega
  rw [e]
  simp
theorem ways_end {w : Way} (h : w ≠ []) : ∃ v p, w = v ++ [p] ∧ lastP w = p := by
  refine ⟨w.dropLast, w.getLast h, (List.dropLast_concat_getLast h).symm, ?_⟩
  unfold lastP
  rw [List.getLastD_eq_getLast?, List.getLast?_eq_getLast h]
  rfl
theorem last_at {w : Way} (h : w ≠ []) : atI (w.map encP) (-1) = some (encP (lastP w)) := by
  obtain ⟨v, p, rfl, e⟩ := ways_end h
  rw [e, List.map_append]
  exact atI_last _ _
theorem iterA_facts (s e : Pt) : ∀ k, (iterA s e k).1.length ≤ k ∧ (iterA s e k).2.length ≤ k + 1 ∧ (∀ w ∈ (iterA s e k).1, w ≠ [] ∧ w.length ≤ k + 1) ∧ ∀ w ∈ (iterA s e k).2, w ≠ [] ∧ w.length ≤ k + 1
  | 0 => by simp [iterA]
  | k + 1 => by
    obtain ⟨h1, h2, h3, h4⟩ := iterA_facts s e k
    have wk : ∀ {w : Way}, w ≠ [] ∧ w.length ≤ k + 1 → w ≠ [] ∧ w.length ≤ k + 1 + 1 := fun h => ⟨h.1, by omega⟩
    show (stepA e (iterA s e k)).1.length ≤ k + 1 ∧ (stepA e (iterA s e k)).2.length ≤ k + 1 + 1 ∧ (∀ w ∈ (stepA e (iterA s e k)).1, _) ∧ ∀ w ∈ (stepA e (iterA s e k)).2, _
    unfold stepA
    split
    · exact ⟨by omega, by omega, fun w h => wk (h3 w h), fun w h => wk (h4 w h)⟩
    · rename_i w hw
      have hm : w ∈ (iterA s e k).2 := List.mem_of_getLast? hw
      have hl : 0 < (iterA s e k).2.length := List.length_pos_of_mem hm
      split
      · refine ⟨by simp; omega, by simp; omega, fun v hv => ?_, fun v hv => wk (h4 v ((List.dropLast_sublist _).subset hv))⟩
        rcases List.mem_append.mp hv with hv | hv
        · exact wk (h3 v hv)
        · rw [List.mem_singleton.mp hv]
          exact wk (h4 w hm)
      · have gx : ∀ v ∈ extX e w, v ≠ [] ∧ v.length ≤ k + 1 + 1 := fun v hv => by
          unfold extX at hv
          split at hv
          · rw [List.mem_singleton.mp hv]
            exact ⟨by simp, by rw [List.length_append]; have := (h4 w hm).2; simp; omega⟩
          · cases hv
        have gy : ∀ v ∈ extY e w, v ≠ [] ∧ v.length ≤ k + 1 + 1 := fun v hv => by
          unfold extY at hv
          split at hv
          · rw [List.mem_singleton.mp hv]
            exact ⟨by simp, by rw [List.length_append]; have := (h4 w hm).2; simp; omega⟩
          · cases hv
        have lx : (extX e w).length ≤ 1 := by unfold extX; split <;> simp
        have ly : (extY e w).length ≤ 1 := by unfold extY; split <;> simp
        refine ⟨by show (iterA s e k).1.length ≤ k + 1; omega, by simp; omega, fun v hv => wk (h3 v hv), fun v hv => ?_⟩
        rcases List.mem_append.mp hv with hv | hv
        · rcases List.mem_append.mp hv with hv | hv
          · exact wk (h4 v ((List.dropLast_sublist _).subset hv))
          · exact gx v hv
        · exact gy v hv
theorem iterA_stop {s e : Pt} {k : Nat} (h : (iterA s e k).2 = []) : ∀ j, iterA s e (k + j) = iterA s e k
  | 0 => rfl
  | j + 1 => by
    show stepA e (iterA s e (k + j)) = _
    rw [iterA_stop h j]
    unfold stepA
    rw [h]
    rfl
theorem s1 {n : Nat} (h : n ≤ 1000000) : n ≤ sizeLine := Nat.le_trans h line_ge
theorem iterA_of (s e : Pt) (k : Nat) : iterA s e (k + 1) = stepA e (iterA s e k) := rfl
theorem hw_all_paths : ∀ z, pr_all_paths z → w_all_paths (endsF (po_all_paths z)) (startE ["start", "end", "found", "waiting", "way", "x", "y"] (ar_all_paths z)) := by
  intro ⟨s, e⟩ h
  have h : (iterA s e 130).2 = [] := h
  refine ⟨ln rfl, ln rfl, ln rfl, fun m env => ∃ k x y w, m = 130 - k ∧ k ≤ 130 ∧ env = [.sh (encP s), .sh (encP e), .own ((iterA s e k).1.map encW), .own ((iterA s e k).2.map encW), w, x, y], ⟨130, 0, _, _, _, rfl, by decide, rfl⟩, fun m env hI => ?_⟩
  obtain ⟨k, x, y, w, hm, hk, rfl⟩ := hI
  obtain ⟨f1, f2, f3, f4⟩ := iterA_facts s e k
  refine ⟨ln rfl, ⟨okWs_sh _, okWs_sh []⟩, ite2 (fun q => ?_) (fun q => ?_)⟩
  · have hne : (iterA s e k).2 ≠ [] := fun c => by
      rw [c] at q
      exact absurd q (by decide)
    have hk2 : k < 130 := by
      rcases Nat.lt_or_ge k 130 with c | c
      · exact c
      · exact absurd (by rw [show k = 130 by omega]; exact h) hne
    obtain ⟨w, hw⟩ : ∃ w, (iterA s e k).2.getLast? = some w := ⟨_, List.getLast?_eq_getLast hne⟩
    have hmem : w ∈ (iterA s e k).2 := List.mem_of_getLast? hw
    obtain ⟨w0, wl⟩ := f4 w hmem
    have step : iterA s e (k + 1) = if lastP w = e then ((iterA s e k).1 ++ [w], (iterA s e k).2.dropLast) else ((iterA s e k).1, (iterA s e k).2.dropLast ++ extX e w ++ extY e w) := by
      rw [iterA_of]
      unfold stepA
      rw [hw]
    show (match ((iterA s e k).2.map encW).getLast? with | some d => _ | none => False)
    rw [List.getLast?_map, hw]
    show (match atI (w.map encP) (-1) with | some d => _ | none => False)
    rw [last_at w0]
    refine ⟨rfl, ?_⟩
    show (match atI (w.map encP) (-1) with | some d => _ | none => False)
    rw [last_at w0]
    refine ⟨⟨okP.shaped (by decide) _, okP.shaped (by decide) _⟩, ite2 (fun c => ?_) (fun c => ?_)⟩
    · have c : lastP w = e := (okP.eqv _ _).mp c
      rw [if_pos c] at step
      refine ⟨trivial, ?_, ite2 (fun q => ?_) (fun _ => ⟨130 - (k + 1), by omega, k + 1, .sh (.int (lastP w).1), .sh (.int (lastP w).2), .sh (encW w), rfl, hk2, ?_⟩)⟩
      · rw [List.length_map]
        exact Nat.lt_of_lt_of_le (by omega : _ < 1000000) line_ge
      · have q := of_decide_eq_true q
        rw [List.length_append, List.length_map] at q
        simp at q
        omega
      · rw [step, List.map_append, List.map_dropLast]
        rfl
    · have c : ¬ lastP w = e := fun q => c ((okP.eqv _ _).mpr q)
      rw [if_neg c] at step
      have done : ∀ (A B : List Dt), A = (extX e w).map encW → B = (extY e w).map encW → (wIf (wTB (wBin gGt (wC1 gLen (wPeek 2)) (wC (.int 5000)))) wNever wNext) { endsF (po_all_paths (s, e)) with nx := fun e' => ∃ m', m' < m ∧ ∃ k x y w, m' = 130 - k ∧ k ≤ 130 ∧ e' = [.sh (encP s), .sh (encP e), .own ((iterA s e k).1.map encW), .own ((iterA s e k).2.map encW), w, x, y] } [.sh (encP s), .sh (encP e), .own ((iterA s e k).1.map encW), .own (((iterA s e k).2.map encW).dropLast ++ A ++ B), .sh (encW w), .sh (.int (lastP w).1), .sh (.int (lastP w).2)] := by
        intro A B ea eb
        refine ite2 (fun q => ?_) (fun _ => ⟨130 - (k + 1), by omega, k + 1, .sh (.int (lastP w).1), .sh (.int (lastP w).2), .sh (encW w), rfl, hk2, ?_⟩)
        · have q := of_decide_eq_true q
          rw [List.length_map] at q
          omega
        · rw [step, ea, eb, List.map_append, List.map_append, List.map_dropLast]
      have lenB : ∀ (A : List Dt), A.length ≤ 1 → (((iterA s e k).2.map encW).dropLast ++ A).length ≤ 1000 := fun A hA => by
        rw [List.length_append, List.length_dropLast, List.length_map]
        omega
      have encX : ∀ p : Pt, PyData.tuple (w.map encP ++ [.tuple [.int p.1, .int p.2]]) = encW (w ++ [p]) := fun p => by
        unfold encW
        rw [List.map_append]
        rfl
      have lw : (w.map encP).length + 1 ≤ 1000000 := by rw [List.length_map]; omega
      have second : ∀ (A : List Dt), A.length ≤ 1 → A = (extX e w).map encW → (wSeq (wExt 3 (wIfF (wTB (wBinV gLt 6 (wBinV gIx 1 (wC (.int 1))))) (wLst (wACons (wBinV gAdd 4 (wTup (wACons (wTup (wACons (wVar 5) (wACons (wBinV gAdd 6 (wC (.int 1))) wANil))) wANil))) wANil)) (wLst wANil))) (wIf (wTB (wBin gGt (wC1 gLen (wPeek 2)) (wC (.int 5000)))) wNever wNext)) { endsF (po_all_paths (s, e)) with nx := fun e' => ∃ m', m' < m ∧ ∃ k x y w, m' = 130 - k ∧ k ≤ 130 ∧ e' = [.sh (encP s), .sh (encP e), .own ((iterA s e k).1.map encW), .own ((iterA s e k).2.map encW), w, x, y] } [.sh (encP s), .sh (encP e), .own ((iterA s e k).1.map encW), .own (((iterA s e k).2.map encW).dropLast ++ A), .sh (encW w), .sh (.int (lastP w).1), .sh (.int (lastP w).2)] := by
        intro A hA ea
        refine ⟨trivial, ite2 (fun c2 => ?_) (fun c2 => ?_)⟩
        · have c2 : (lastP w).2 < e.2 := of_decide_eq_true c2
          refine ⟨ln rfl, ln rfl, s1 lw, ln rfl, s1 ?_, done A _ ea ?_⟩
          · have := lenB A hA
            simp at this ⊢
            omega
          · unfold extY
            rw [if_pos c2, encX ((lastP w).1, (lastP w).2 + 1)]
            rfl
        · have c2 : ¬ (lastP w).2 < e.2 := fun q => c2 (decide_eq_true q)
          refine ⟨ln rfl, s1 ?_, done A _ ea ?_⟩
          · have := lenB A hA
            simp at this ⊢
            omega
          · unfold extY
            rw [if_neg c2]
            rfl
      refine ⟨trivial, ite2 (fun c2 => ?_) (fun c2 => ?_)⟩
      · have c2 : (lastP w).1 < e.1 := of_decide_eq_true c2
        refine ⟨ln rfl, ln rfl, s1 lw, ln rfl, s1 ?_, second _ (Nat.le_refl 1) ?_⟩
        · have := lenB [] (by decide)
          simp at this ⊢
          omega
        · unfold extX
          rw [if_pos c2, encX ((lastP w).1 + 1, (lastP w).2)]
          rfl
      · have c2 : ¬ (lastP w).1 < e.1 := fun q => c2 (decide_eq_true q)
        refine ⟨ln rfl, s1 ?_, second _ (Nat.zero_le 1) ?_⟩
        · have := lenB [] (by decide)
          simp at this ⊢
          omega
        · unfold extX
          rw [if_neg c2]
          rfl
  · have hz : (iterA s e k).2 = [] := by
      cases c : (iterA s e k).2 with
      | nil => rfl
      | cons a b =>
        rw [c] at q
        exact absurd rfl q
    have e130 : iterA s e 130 = iterA s e k := by
      rw [show 130 = k + (130 - k) by omega]
      exact iterA_stop hz _
    refine ⟨?_, ?_⟩
    · refine okW.sortOk (by decide) (s1 (by omega)) (.inl fun w hw => ?_)
      obtain ⟨v, p, rfl, -⟩ := ways_end (f3 w hw).1
      cases v with
      | nil => exact ⟨_, _, rfl⟩
      | cons a b => exact ⟨_, _, rfl⟩
    · show sortD _ = sortD ((allM s e).map encW)
      unfold allM
      rw [e130]
theorem sizeLine_big : 2 ^ 22 ≤ sizeLine := by rw [sizeLine_eq]; decide
theorem ext_len (e : Pt) (w : Way) : (extX e w ++ extY e w).length ≤ 2 := by
  have lx : (extX e w).length ≤ 1 := by unfold extX; split <;> simp
  have ly : (extY e w).length ≤ 1 := by unfold extY; split <;> simp
  rw [List.length_append]
  omega
theorem lvl_len (e : Pt) (ws : List Way) : (lvl e ws).length ≤ 2 * ws.length := by
  unfold lvl
  induction ws with
  | nil => simp
  | cons w ws ih =>
    rw [List.flatMap_cons, List.length_append, List.length_cons]
    have := ext_len e w
    omega
theorem iterL_facts (s e : Pt) : ∀ k, (iterL s e k).length ≤ 2 ^ k ∧ ∀ w ∈ iterL s e k, w ≠ [] ∧ w.length ≤ k + 1
  | 0 => by simp [iterL]
  | k + 1 => by
    obtain ⟨h1, h2⟩ := iterL_facts s e k
    refine ⟨Nat.le_trans (lvl_len e _) (by rw [Nat.pow_succ]; omega), fun v hv => ?_⟩
    obtain ⟨w, hw, hv⟩ := List.mem_flatMap.mp (show v ∈ List.flatMap (fun w => extX e w ++ extY e w) (iterL s e k) from hv)
    have wl := (h2 w hw).2
    rcases List.mem_append.mp hv with hv | hv
    · unfold extX at hv
      split at hv
      · rw [List.mem_singleton.mp hv]
        exact ⟨by simp, by rw [List.length_append]; simp; omega⟩
      · cases hv
    · unfold extY at hv
      split at hv
      · rw [List.mem_singleton.mp hv]
        exact ⟨by simp, by rw [List.length_append]; simp; omega⟩
      · cases hv
theorem hw_law_paths : ∀ z, pr_law_paths z → w_law_paths (endsF (po_law_paths z)) (startE ["start", "end", "found", "step", "longer", "path", "x", "y"] (ar_law_paths z)) := by
  intro ⟨s, e⟩ ⟨h1, h2⟩
  have h1 : e.1 - s.1 + e.2 - s.2 ≤ 20 := h1
  have h2 : -1000 ≤ e.1 - s.1 + e.2 - s.2 := h2
  refine ⟨ln rfl, ln rfl, ⟨by show -(2 ^ 62) ≤ e.1 - s.1 + e.2 - s.2; omega, by show e.1 - s.1 + e.2 - s.2 < 2 ^ 62; omega⟩, fun i env => ∃ a b c d f, env = [.sh (encP s), .sh (encP e), .sh (.list ((iterL s e i).map encW)), a, b, c, d, f], ⟨_, _, _, _, _, rfl⟩, fun i d env hd hI => ?_, fun env hI => ?_⟩
  · obtain ⟨a, b, c, d', f, rfl⟩ := hI
    obtain ⟨hi, rfl⟩ := rgD1_get hd
    have hi20 : i < 20 := Nat.lt_of_lt_of_le hi (by show (e.1 - s.1 + e.2 - s.2).toNat ≤ 20; omega)
    obtain ⟨f1, f2⟩ := iterL_facts s e i
    have f1' : (iterL s e i).length ≤ 2 ^ 19 := Nat.le_trans f1 (Nat.pow_le_pow_right (by decide) (by omega))
    refine ⟨ln rfl, fun j env => ∃ c d f, env = [.sh (encP s), .sh (encP e), .sh (.list ((iterL s e i).map encW)), .sh (.int (i : Nat)), .own ((lvl e ((iterL s e i).take j)).map encW), c, d, f], ⟨_, _, _, rfl⟩, fun j d env hd hI => ?_, fun env hI => ?_⟩
    · obtain ⟨c, d', f, rfl⟩ := hI
      obtain ⟨w, hw, rfl⟩ := map_get hd
      obtain ⟨w0, wl⟩ := f2 w (List.mem_of_getElem? hw)
      have hj : j < (iterL s e i).length := (List.getElem?_eq_some_iff.mp hw).1
      have ht : lvl e ((iterL s e i).take (j + 1)) = lvl e ((iterL s e i).take j) ++ (extX e w ++ extY e w) := by
        rw [List.take_add_one, hw]
        unfold lvl
        rw [List.flatMap_append]
        simp
      have lv : ((lvl e ((iterL s e i).take j)).map encW).length + 2 ≤ sizeLine := by
        refine Nat.le_trans ?_ sizeLine_big
        rw [List.length_map]
        have := lvl_len e ((iterL s e i).take j)
        rw [List.length_take] at this
        omega
      have encX : ∀ p : Pt, PyData.tuple (w.map encP ++ [.tuple [.int p.1, .int p.2]]) = encW (w ++ [p]) := fun p => by
        unfold encW
        rw [List.map_append]
        rfl
      have lw : (w.map encP).length + 1 ≤ 1000000 := by rw [List.length_map]; omega
      show (match atI (w.map encP) (-1) with | some d => _ | none => False)
      rw [last_at w0]
      have second : ∀ (A : List Dt), A.length ≤ 1 → A = (extX e w).map encW → (wExt 4 (wIfF (wTB (wBinV gLt 7 (wBinV gIx 1 (wC (.int 1))))) (wLst (wACons (wBinV gAdd 5 (wTup (wACons (wTup (wACons (wVar 6) (wACons (wBinV gAdd 7 (wC (.int 1))) wANil))) wANil))) wANil)) (wLst wANil)))
          { endsF (po_law_paths (s, e)) with nx := fun env => ∃ c d f, env = [.sh (encP s), .sh (encP e), .sh (.list ((iterL s e i).map encW)), .sh (.int (i : Nat)), .own ((lvl e ((iterL s e i).take (j + 1))).map encW), c, d, f] }
          [.sh (encP s), .sh (encP e), .sh (.list ((iterL s e i).map encW)), .sh (.int (i : Nat)), .own ((lvl e ((iterL s e i).take j)).map encW ++ A), .sh (encW w), .sh (.int (lastP w).1), .sh (.int (lastP w).2)] := by
        intro A hA ea
        refine ⟨trivial, ite2 (fun c2 => ?_) (fun c2 => ?_)⟩
        · have c2 : (lastP w).2 < e.2 := of_decide_eq_true c2
          refine ⟨ln rfl, ln rfl, s1 lw, ln rfl, ?_, .sh (encW w), .sh (.int (lastP w).1), .sh (.int (lastP w).2), ?_⟩
          · rw [List.length_append]
            exact Nat.le_trans (by simp; omega) lv
          · have ey : extY e w = [w ++ [((lastP w).1, (lastP w).2 + 1)]] := by unfold extY; rw [if_pos c2]
            rw [ht, ey, List.map_append, List.map_append, ← ea, ← List.append_assoc, List.map_cons, List.map_nil, ← encX]
            rfl
        · have c2 : ¬ (lastP w).2 < e.2 := fun q => c2 (decide_eq_true q)
          refine ⟨ln rfl, ?_, .sh (encW w), .sh (.int (lastP w).1), .sh (.int (lastP w).2), ?_⟩
          · rw [List.length_append]
            exact Nat.le_trans (by simp; omega) lv
          · have ey : extY e w = [] := by unfold extY; rw [if_neg c2]
            rw [ht, ey, List.map_append, List.map_append, ← ea, ← List.append_assoc, List.map_nil]
            rfl
      refine ⟨rfl, trivial, ite2 (fun c2 => ?_) (fun c2 => ?_)⟩
      · have c2 : (lastP w).1 < e.1 := of_decide_eq_true c2
        refine ⟨ln rfl, ln rfl, s1 lw, ln rfl, Nat.le_trans (by simp) lv, second _ (Nat.le_refl 1) ?_⟩
        unfold extX
        rw [if_pos c2, encX ((lastP w).1 + 1, (lastP w).2)]
        rfl
      · have c2 : ¬ (lastP w).1 < e.1 := fun q => c2 (decide_eq_true q)
        refine ⟨ln rfl, Nat.le_trans (by simp) lv, second _ (Nat.zero_le 1) ?_⟩
        unfold extX
        rw [if_neg c2]
        rfl
    · obtain ⟨c, d, f, rfl⟩ := hI
      refine ⟨.sh (.int (i : Nat)), .sh (.list ((iterL s e (i + 1)).map encW)), c, d, f, ?_⟩
      rw [List.length_map, List.take_length]
      rfl
  · obtain ⟨a, b, c, d, f, rfl⟩ := hI
    rw [rgD_len]
    have lm : iterL s e (e.1 - s.1 + e.2 - s.2).toNat = lawM s e := rfl
    have lm' : (iterL s e ((fun i j => i - j) ((fun i j => i - j) e.1 s.1 + e.2) s.2).toNat) = lawM s e := rfl
    obtain ⟨f1, f2⟩ := iterL_facts s e (e.1 - s.1 + e.2 - s.2).toNat
    rw [lm] at f1 f2
    rw [lm']
    have go : ∀ {b : Bool} (ds : List Dt), b = sane s e → ds = (if b then sortD ((lawM s e).map encW) else []) → po_law_paths (s, e) ds := fun ds hb hd => by rw [hd, hb]; rfl
    have hl : (lawM s e).length ≤ sizeLine := Nat.le_trans f1 (Nat.le_trans (Nat.pow_le_pow_right (by decide) (by omega : _ ≤ 20)) (Nat.le_trans (by decide) sizeLine_big))
    refine ite2 (fun c1 => ite2 (fun c2 => ⟨?_, go (b := true) _ ?_ rfl⟩) (fun c2 => ⟨ln rfl, go (b := false) _ ?_ rfl⟩)) (fun c1 => ite2 (fun q => by cases q) (fun _ => ⟨ln rfl, go (b := false) _ ?_ rfl⟩))
    · refine okW.sortOk (by decide) hl (.inl fun w hw => ?_)
      obtain ⟨v, p, rfl, -⟩ := ways_end (f2 w hw).1
      cases v with
      | nil => exact ⟨_, _, rfl⟩
      | cons a b => exact ⟨_, _, rfl⟩
    · have c1 : decide (s.1 ≤ e.1) = true := c1
      have c2 : decide (s.2 ≤ e.2) = true := c2
      unfold sane
      rw [c1, c2]
      rfl
    · have c2 : decide (s.2 ≤ e.2) = false := Bool.eq_false_iff.mpr c2
      unfold sane
      rw [c2, Bool.and_false]
    · have c1 : decide (s.1 ≤ e.1) = false := Bool.eq_false_iff.mpr c1
      unfold sane
      rw [c1]
      rfl
theorem ok_all_paths {P : Program} {wd : World} {K : PySem.W.Frag} {mg : Str → Option Value} {base : Heap} {A : Fs} (T : Txt K mg A) : FnOk P wd K mg base CX0 1 A.a_all_paths A.d_all_paths ["start", "end"] (spF K ar_all_paths pr_all_paths po_all_paths) :=
  dfnF T.F_all_paths sc_all_paths (fun _ => rfl) (by decide) (dv_all_paths T) hw_all_paths

theorem ok_law_paths {P : Program} {wd : World} {K : PySem.W.Frag} {mg : Str → Option Value} {base : Heap} {A : Fs} (T : Txt K mg A) : FnOk P wd K mg base CX0 1 A.a_law_paths A.d_law_paths ["start", "end"] (spF K ar_law_paths pr_law_paths po_law_paths) :=
  dfnF T.F_law_paths sc_law_paths (fun _ => rfl) (by decide) (dv_law_paths T) hw_law_paths

end Lw

namespace Lw
open PySem L2 DL
def ar_determinant (M : Mat) : List Dt := [matD M]
def pr_determinant (M : Mat) : Prop := ∃ v, detO M = some v
def po_determinant (M : Mat) (d : Dt) : Prop := (detO M).map PyData.int = some d
def N_determinant : List Str := ["rows", "left", "sign", "before", "many", "at", "good", "place", "column", "here", "row"]
def w_determinant : WS := wDet
theorem sc_determinant : FnScope ["rows", "left", "sign", "before", "many", "at", "good", "place", "column", "here", "row"] ["rows"] (defScope s_determinant) := ⟨rfl, rfl, rfl, by decide +kernel, rfl, by decide +kernel, by decide +kernel⟩
section
variable {P : Program} {wd : World} {K : PySem.W.Frag} {mg : Str → Option Value} {base : Heap} {A : Fs}
theorem dv_determinant (T : Txt K mg A) (cdv : Value) (A' : Around) (outer : List Env) (s : Shared) (H : Hp) (E : XK) (hr : Room 0 (A'.deeper (PyProof.Rows.envOfC "determinant" (defScope s_determinant) s.heap.objs.size A.a_determinant cdv))) :
    ∃ t, DSs (cxOf CX0 P wd K mg base ["rows", "left", "sign", "before", "many", "at", "good", "place", "column", "here", "row"] "determinant" (defScope s_determinant) A.a_determinant cdv A' outer s H E).nox (defBody s_determinant) t w_determinant := by
  obtain ⟨t_e2, e2⟩ : ∃ t, DE (cxOf CX0 P wd K mg base N_determinant "determinant" (defScope s_determinant) A.a_determinant cdv A' outer s H E).nox (exprS (nthS (defBody s_determinant) 1)) t (wC1 gLen (wPeek 1)) := ⟨_, (de_callB cr_len cs_len (by rfl) T.m_len (by decide +kernel) (dp_var 1))⟩
  obtain ⟨t_er, er⟩ : ∃ t, DE (cxOf CX0 P wd K mg base N_determinant "determinant" (defScope s_determinant) A.a_determinant cdv A' outer s H E).nox (argE (exprS (nthS (defBody s_determinant) 2)) 0) t (wBinV DL.gSub 4 (wC (.int 1))) := ⟨_, (de_binV 4 op_sub os_sub (dp_of de_int))⟩
  obtain ⟨t_e0, e0⟩ : ∃ t, DE (cxOf CX0 P wd K mg base N_determinant "determinant" (defScope s_determinant) A.a_determinant cdv A' outer s H E).nox (exprS (nthS (bodyS (nthS (bodyS (nthS (defBody s_determinant) 2)) 1)) 0)) t (wC (.int 0)) := ⟨_, de_int⟩
  obtain ⟨t_cn, cn⟩ : ∃ t, DT (cxOf CX0 P wd K mg base N_determinant "determinant" (defScope s_determinant) A.a_determinant cdv A' outer s H E).nox (exprS (nthS (bodyS (nthS (defBody s_determinant) 2)) 1)) t (wTB (wBinV gEq 6 (wFrz (wLst wANil)))) := ⟨_, (dt_cmpV 6 (op_eqD hr.units) os_eq (dp_of (de_frz (df_lst da_nil))) (nomark _))⟩
  obtain ⟨t_cs, cs⟩ : ∃ t, DT (cxOf CX0 P wd K mg base N_determinant "determinant" (defScope s_determinant) A.a_determinant cdv A' outer s H E).nox (exprS (nthS (bodyS (nthS (defBody s_determinant) 2)) 2)) t (wTB (wBin gNe (wBinV gIx 6 (wC (.int 0))) (wPeek 5))) := ⟨_, (dt_cmp (op_neD hr.units) os_ne (de_ixV 6 (dp_of de_int) (fun _ _ => rfl)) (dp_var 5) (nomark _))⟩
  obtain ⟨t_en, en⟩ : ∃ t, DE (cxOf CX0 P wd K mg base N_determinant "determinant" (defScope s_determinant) A.a_determinant cdv A' outer s H E).nox (exprS (nthS (bodyS (nthS (bodyS (nthS (defBody s_determinant) 2)) 2)) 1)) t (wNeg (wVar 2)) := ⟨_, (de_neg (de_var 2))⟩
  obtain ⟨t_ea, ea⟩ : ∃ t, DE (cxOf CX0 P wd K mg base N_determinant "determinant" (defScope s_determinant) A.a_determinant cdv A' outer s H E).nox (argE (exprS (nthS (bodyS (nthS (defBody s_determinant) 2)) 3)) 0) t (wBinV gAdd 5 (wC (.int 1))) := ⟨_, (de_binV 5 op_addA os_add (dp_of de_int))⟩
  obtain ⟨t_eb, eb⟩ : ∃ t, DE (cxOf CX0 P wd K mg base N_determinant "determinant" (defScope s_determinant) A.a_determinant cdv A' outer s H E).nox (argE (exprS (nthS (bodyS (nthS (defBody s_determinant) 2)) 3)) 1) t (wVar 4) := ⟨_, (de_var 4)⟩
  obtain ⟨t_ec, ec⟩ : ∃ t, DE (cxOf CX0 P wd K mg base N_determinant "determinant" (defScope s_determinant) A.a_determinant cdv A' outer s H E).nox (argE (exprS (nthS (bodyS (nthS (bodyS (nthS (defBody s_determinant) 2)) 3)) 0)) 0) t (wBinV gAdd 5 (wC (.int 1))) := ⟨_, (de_binV 5 op_addA os_add (dp_of de_int))⟩
  obtain ⟨t_ed, ed⟩ : ∃ t, DE (cxOf CX0 P wd K mg base N_determinant "determinant" (defScope s_determinant) A.a_determinant cdv A' outer s H E).nox (argE (exprS (nthS (bodyS (nthS (bodyS (nthS (defBody s_determinant) 2)) 3)) 0)) 1) t (wVar 4) := ⟨_, (de_var 4)⟩
  obtain ⟨t_eh, eh⟩ : ∃ t, DE (cxOf CX0 P wd K mg base N_determinant "determinant" (defScope s_determinant) A.a_determinant cdv A' outer s H E).nox (exprS (nthS (bodyS (nthS (bodyS (nthS (bodyS (nthS (defBody s_determinant) 2)) 3)) 0)) 0)) t (wBin DL.gSub (wBin gMul (wBin gIx (wBinV gIx 1 (wPeek 7)) (wPeek 8)) (wBin gIx (wBinV gIx 1 (wPeek 5)) (wPeek 5))) (wBin gMul (wBin gIx (wBinV gIx 1 (wPeek 7)) (wPeek 5)) (wBin gIx (wBinV gIx 1 (wPeek 5)) (wPeek 8)))) := ⟨_, (de_bin op_sub os_sub (de_bin op_mul os_mul (de_ix (de_ixV 1 (dp_var 7) (fun _ _ => rfl)) (dp_var 8) (fun _ _ => rfl)) (dp_of (de_ix (de_ixV 1 (dp_var 5) (fun _ _ => rfl)) (dp_var 5) (fun _ _ => rfl)))) (dp_of (de_bin op_mul os_mul (de_ix (de_ixV 1 (dp_var 7) (fun _ _ => rfl)) (dp_var 5) (fun _ _ => rfl)) (dp_of (de_ix (de_ixV 1 (dp_var 5) (fun _ _ => rfl)) (dp_var 8) (fun _ _ => rfl))))))⟩
  obtain ⟨t_ev, ev⟩ : ∃ t, DE (cxOf CX0 P wd K mg base N_determinant "determinant" (defScope s_determinant) A.a_determinant cdv A' outer s H E).nox (exprS (nthS (bodyS (nthS (bodyS (nthS (bodyS (nthS (defBody s_determinant) 2)) 3)) 0)) 1)) t (wBinV gDiv 9 (wPeek 3)) := ⟨_, (de_binV 9 op_fdivN os_div (dp_var 3))⟩
  obtain ⟨t_ef, ef⟩ : ∃ t, DE (cxOf CX0 P wd K mg base N_determinant "determinant" (defScope s_determinant) A.a_determinant cdv A' outer s H E).nox (exprS (nthS (bodyS (nthS (defBody s_determinant) 2)) 4)) t (wBin gIx (wBinV gIx 1 (wPeek 5)) (wPeek 5)) := ⟨_, (de_ix (de_ixV 1 (dp_var 5) (fun _ _ => rfl)) (dp_var 5) (fun _ _ => rfl))⟩
  obtain ⟨t_eR, eR⟩ : ∃ t, DE (cxOf CX0 P wd K mg base N_determinant "determinant" (defScope s_determinant) A.a_determinant cdv A' outer s H E).nox (exprS (nthS (defBody s_determinant) 3)) t (wIfE (wTB (wBinV gGt 4 (wC (.int 0)))) (wBinV gMul 2 (wBin gIx (wBinV gIx 1 (wBinV DL.gSub 4 (wC (.int 1)))) (wBinV DL.gSub 4 (wC (.int 1))))) (wC (.int 1))) := ⟨_, (de_if (dt_cmpV 4 op_gt os_gt (dp_of de_int) (nomark _)) (de_binV 2 op_mul os_mul (dp_of (de_ix (de_ixV 1 (dp_of (de_binV 4 op_sub os_sub (dp_of de_int))) (fun _ _ => rfl)) (dp_of (de_binV 4 op_sub os_sub (dp_of de_int))) (fun _ _ => rfl)))) de_int)⟩
  obtain ⟨tg, pg, sg⟩ : ∃ tg, PS (cxOf CX0 P wd K mg base N_determinant "determinant" (defScope s_determinant) A.a_determinant cdv A' outer s H E).nox (nthS (bodyS (nthS (defBody s_determinant) 2)) 0) (tAsg tg (gName 6)) ∧ SimF K tg wGood := ⟨_, DS.pe (ds_setLc 6 (own := [("place", 7)]) sc_determinant.nd rfl (di_range2 (by rfl) T.m_range (de_var 5) (de_var 4)) (blkOk_by (N := N_determinant) (sc := defScope s_determinant) (by decide +kernel)) (fun _ _ _ _ _ => ⟨_, (dg_name 7 (by exact sc_determinant.nd))⟩) (fun _ _ _ _ _ => ⟨_, (dts_one (dt_cmp (op_neD hr.units) os_ne (de_ix (de_ixV 1 (dp_var 7) (fun _ _ => rfl)) (dp_var 5) (fun _ _ => rfl)) (dp_of de_int) (nomark _)))⟩) (fun _ _ _ _ _ => ⟨_, (de_var 7)⟩)), DF.sim (X := (cxOf CX0 P wd K mg base N_determinant "determinant" (defScope s_determinant) A.a_determinant cdv A' outer s H E).nox) (e := exprS (nthS (bodyS (nthS (defBody s_determinant) 2)) 0)) (df_comp (own := [("place", 7)]) (by rfl) (by exact sc_determinant.nd) (di_range2 (by rfl) T.m_range (de_var 5) (de_var 4)) (blkOk_by (N := N_determinant) (sc := defScope s_determinant) (by decide +kernel)) (fun _ _ _ _ _ => ⟨_, (dg_name 7 (by exact sc_determinant.nd))⟩) (fun _ _ _ _ _ => ⟨_, (dts_one (dt_cmp (op_neD hr.units) os_ne (de_ix (de_ixV 1 (dp_var 7) (fun _ _ => rfl)) (dp_var 5) (fun _ _ => rfl)) (dp_of de_int) (nomark _)))⟩) (fun _ _ _ _ _ => ⟨_, (de_var 7)⟩))⟩
  have p1 : PS (cxOf CX0 P wd K mg base N_determinant "determinant" (defScope s_determinant) A.a_determinant cdv A' outer s H E).nox (nthS (defBody s_determinant) 0) (tDet1 K) := ps_asg (pe_tup (pa_cons (pe_lc (own := [("row", 10)]) rfl (by exact sc_determinant.nd) (pi_list (pv 0)) (blkOk_by (N := N_determinant) (sc := defScope s_determinant) (by decide +kernel)) (fun _ _ _ _ _ => pg_name (by exact sc_determinant.nd) rfl (by first | exact Or.inl rfl | exact Or.inr rfl) (by first | exact .inl rfl | exact .inr rfl)) (fun _ _ _ _ _ => pts_nil) (fun _ _ _ _ _ => pe_callTy call_list_of (by rfl) T.m_list (by decide +kernel) (pa_cons (pv 10) pa_nil))) (pa_cons pe_int (pa_cons pe_int pa_nil)))) (pg_tup rfl (pgs_cons (pg_name sc_determinant.nd rfl (by first | exact Or.inl rfl | exact Or.inr rfl)) (pgs_cons (pg_name sc_determinant.nd rfl (by first | exact Or.inl rfl | exact Or.inr rfl)) (pgs_cons (pg_name sc_determinant.nd rfl (by first | exact Or.inl rfl | exact Or.inr rfl)) pgs_nil))))
  have psw : PS (cxOf CX0 P wd K mg base N_determinant "determinant" (defScope s_determinant) A.a_determinant cdv A' outer s H E).nox (nthS (bodyS (nthS (bodyS (nthS (defBody s_determinant) 2)) 2)) 0) (tSwap K) := ps_asg (pe_tup (pa_cons (pe_ix ix_seq (pv 1) (pe_ix ix_seq (pv 6) pe_int (fun _ _ => rfl)) (fun _ _ => rfl)) (pa_cons (pe_ix ix_seq (pv 1) (pv 5) (fun _ _ => rfl)) pa_nil))) (pg_tup rfl (pgs_cons (pg_sub (pv 1) (pv 5) set_list) (pgs_cons (pg_sub (pv 1) (pe_ix ix_seq (pv 6) pe_int (fun _ _ => rfl)) set_list) pgs_nil)))
  have pst : PS (cxOf CX0 P wd K mg base N_determinant "determinant" (defScope s_determinant) A.a_determinant cdv A' outer s H E).nox (nthS (bodyS (nthS (bodyS (nthS (bodyS (nthS (defBody s_determinant) 2)) 3)) 0)) 1) (tAsg t_ev (L2.gSub (tOp (rIx K) (tVar 1) (tVar 7)) (tVar 8) rSetL)) := ps_asg ev.pe (pg_sub (pe_ix ix_seq (pv 1) (pv 7) (fun _ _ => rfl)) (pv 8) set_list)
  have pcol : PS (cxOf CX0 P wd K mg base N_determinant "determinant" (defScope s_determinant) A.a_determinant cdv A' outer s H E).nox (nthS (bodyS (nthS (bodyS (nthS (defBody s_determinant) 2)) 3)) 0) _ := ps_for PassesOwn.never rfl (pi_range2 (by rfl) T.m_range (pa_cons ec.pe (pa_cons ed.pe pa_nil))) (pg_name (i := 8) sc_determinant.nd rfl (by first | exact Or.inl rfl | exact Or.inr rfl)) (pss_cons (ps_set (i := 9) sc_determinant.nd rfl (by first | exact Or.inl rfl | exact Or.inr rfl) eh.pe) (pss_cons pst pss_nil))
  have prow : PS (cxOf CX0 P wd K mg base N_determinant "determinant" (defScope s_determinant) A.a_determinant cdv A' outer s H E).nox (nthS (bodyS (nthS (defBody s_determinant) 2)) 3) _ := ps_for PassesOwn.never rfl (pi_range2 (by rfl) T.m_range (pa_cons ea.pe (pa_cons eb.pe pa_nil))) (pg_name (i := 7) sc_determinant.nd rfl (by first | exact Or.inl rfl | exact Or.inr rfl)) (pss_cons pcol pss_nil)
  have pfor : PS (cxOf CX0 P wd K mg base N_determinant "determinant" (defScope s_determinant) A.a_determinant cdv A' outer s H E).nox (nthS (defBody s_determinant) 2) _ := ps_for PassesOwn.never rfl (pi_range1 (by rfl) T.m_range (pa_cons er.pe pa_nil)) (pg_name (i := 5) sc_determinant.nd rfl (by first | exact Or.inl rfl | exact Or.inr rfl)) (pss_cons pg (pss_cons (ps_if cn.pe (pss_cons (ps_ret e0.pe) pss_nil) pss_nil) (pss_cons (ps_if cs.pe (pss_cons psw (pss_cons (ps_set (i := 2) sc_determinant.nd rfl (by first | exact Or.inl rfl | exact Or.inr rfl) en.pe) pss_nil)) pss_nil) (pss_cons prow (pss_cons (ps_set (i := 3) sc_determinant.nd rfl (by first | exact Or.inl rfl | exact Or.inr rfl) ef.pe) pss_nil)))))
  exact ⟨tDet K t_e2 t_er tg t_e0 t_en t_ea t_eb t_ec t_ed t_eh t_ev t_ef t_eR t_cn t_cs, pss_cons p1 (pss_cons (ps_set sc_determinant.nd rfl (by first | exact Or.inl rfl | exact Or.inr rfl) e2.pe) (pss_cons pfor (pss_cons (ps_ret eR.pe) pss_nil))), sim_det e2.sim er.sim sg e0.sim cn.sim cs.sim en.sim ea.sim eb.sim ec.sim ed.sim eh.sim ev.sim ef.sim eR.sim⟩
end

theorem hw_determinant : ∀ z, pr_determinant z → w_determinant (endsR (po_determinant z)) (startE ["rows", "left", "sign", "before", "many", "at", "good", "place", "column", "here", "row"] (ar_determinant z)) := by
  intro M ⟨v, hv⟩
  refine ⟨M, v, rfl, hv, fun _ => ?_⟩
  show (detO M).map PyData.int = some (.int v)
  rw [hv]
  rfl
theorem ok_determinant {P : Program} {wd : World} {K : PySem.W.Frag} {mg : Str → Option Value} {base : Heap} {A : Fs} (T : Txt K mg A) : FnOk P wd K mg base CX0 1 A.a_determinant A.d_determinant ["rows"] (spR K ar_determinant pr_determinant po_determinant) :=
  dfn T.F_determinant sc_determinant (fun _ => rfl) (by decide) (dv_determinant T) hw_determinant

end Lw

namespace Lw
open PySem L2 DL
/-! the table of choices, all tuples of paths -/
def entryM (p e : Pt) : Int := if decide (p.1 ≤ e.1) && decide (p.2 ≤ e.2) then chooseM (e.1 - p.1 + e.2 - p.2) (e.1 - p.1) else 0
def rowsM (z : List Pt × List Pt) : Mat := z.1.map fun p => z.2.map (entryM p)
def nearP (p : Pt) : Prop := -10000 ≤ p.1 ∧ p.1 ≤ 10000 ∧ -10000 ≤ p.2 ∧ p.2 ≤ 10000
def encPs (ps : List Pt) : Dt := .list (ps.map encP)
def ar_unmet_paths (z : List Pt × List Pt) : List Dt := [encPs z.1, encPs z.2]
def pr_unmet_paths (z : List Pt × List Pt) : Prop := z.1.length ≤ 1000 ∧ z.2.length ≤ 1000 ∧ (∀ p ∈ z.1, nearP p) ∧ (∀ p ∈ z.2, nearP p) ∧ pr_determinant (rowsM z)
def po_unmet_paths (z : List Pt × List Pt) (d : Dt) : Prop := po_determinant (rowsM z) d
def pathsS (s e : Pt) : List Way := if sane s e then (lawM s e).mergeSort (leE encW) else []
def selU (pts : Way) (P : List Way) : List Way := (P.filter fun w => !w.any fun p => decide (p ∈ pts)).map (pts ++ ·)
def stepU (F : List Way) (P : List Way) : List Way := F.flatMap fun pts => selU pts P
def unmetF (zs : List (Pt × Pt)) : List Way := zs.foldl (fun F p => stepU F (pathsS p.1 p.2)) [[]]
def ar_law_unmet (z : List Pt × List Pt) : List Dt := [encPs z.1, encPs z.2]
def pr_law_unmet (z : List Pt × List Pt) : Prop := (z.1.zip z.2).length ≤ 3 ∧ ∀ p ∈ z.1.zip z.2, pr_law_paths p ∧ (lawM p.1 p.2).length ≤ 100
def po_law_unmet (z : List Pt × List Pt) (d : Dt) : Prop := d = .int ((unmetF (z.1.zip z.2)).length : Nat)
def N_unmet_paths : List Str := ["starts", "ends", "rows", "x", "y", "u", "v"]
def w_unmet_paths : WS := (wSeq (wSetF 2 (wLst wANil))
  (wSeq (wFor (wIter (wVar 0)) (wgTup 2 (wgCons (wgName 3) (wgCons (wgName 4) wgNil))) (wApp 2 (wFrz (wComp (wIter (wVar 1)) (wgTup 2 (wgCons (wgName 5) (wgCons (wgName 6) wgNil))) wYes (wIfE (wAndT (wTB (wBinV gGe 5 (wPeek 3))) (wTB (wBinV gGe 6 (wPeek 4)))) (wCall ar_choose pr_choose po_choose (wACons (wBin DL.gSub (wBin gAdd (wBinV DL.gSub 5 (wPeek 3)) (wPeek 6)) (wPeek 4)) (wACons (wBinV DL.gSub 5 (wPeek 3)) wANil))) (wC (.int 0))) [5, 6]))))
  (wRet (wCall ar_determinant pr_determinant po_determinant (wACons (wVar 2) wANil)))))
theorem sc_unmet_paths : FnScope ["starts", "ends", "rows", "x", "y", "u", "v"] ["starts", "ends"] (defScope s_unmet_paths) := ⟨rfl, rfl, rfl, by decide +kernel, rfl, by decide +kernel, by decide +kernel⟩
section
variable {P : Program} {wd : World} {K : PySem.W.Frag} {mg : Str → Option Value} {base : Heap} {A : Fs}
theorem dv_unmet_paths (T : Txt K mg A) (cdv : Value) (A' : Around) (outer : List Env) (s : Shared) (H : Hp) (E : XK) (hr : Room 1 (A'.deeper (PyProof.Rows.envOfC "unmet_paths" (defScope s_unmet_paths) s.heap.objs.size A.a_unmet_paths cdv))) :
    ∃ t, DSs (cxOf CX0 P wd K mg base ["starts", "ends", "rows", "x", "y", "u", "v"] "unmet_paths" (defScope s_unmet_paths) A.a_unmet_paths cdv A' outer s H E).nox (defBody s_unmet_paths) t w_unmet_paths := ⟨_, 
  (dss_cons (ds_setF 2 (df_lst da_nil) sc_unmet_paths.nd)
  (dss_cons (ds_for rfl (di_any (de_var 0)) (dg_tup (by rfl) (dgs_cons (dg_name 3 (by exact sc_unmet_paths.nd)) (dgs_cons (dg_name 4 (by exact sc_unmet_paths.nd)) dgs_nil))) (dss_one (ds_app 2 (de_frz (df_comp (own := [("u", 5), ("v", 6)]) (by rfl) (by exact sc_unmet_paths.nd) (di_any (de_var 1)) (blkOk_by (N := N_unmet_paths) (sc := defScope s_unmet_paths) (by decide +kernel)) (fun _ _ _ _ _ => ⟨_, (dg_tup (by rfl) (dgs_cons (dg_name 5 (by exact sc_unmet_paths.nd)) (dgs_cons (dg_name 6 (by exact sc_unmet_paths.nd)) dgs_nil)))⟩) (fun _ _ _ _ _ => ⟨_, dts_nil⟩) (fun _ _ _ _ _ => ⟨_, (de_if (dw_pt (dw_and (dt_cmpV 5 op_ge os_ge (dp_var 3) (nomark _)) (dw_and1 (dt_cmpV 6 op_ge os_ge (dp_var 4) (nomark _))))) (de_call (ok_choose T) (hr.mono (by decide)) (by rfl) T.g_choose T.F_choose.kp T.b_choose pass0 (da_cons (de_bin op_sub os_sub (de_bin op_addA os_add (de_binV 5 op_sub os_sub (dp_var 3)) (dp_var 6)) (dp_var 4)) (da_cons (de_binV 5 op_sub os_sub (dp_var 3)) da_nil))) de_int)⟩))))))
  (dss_one (ds_ret (de_call (ok_determinant T) (hr.mono (by decide)) (by rfl) T.g_determinant T.F_determinant.kp T.b_determinant pass0 (da_cons (de_var 2) da_nil))))))⟩
end

def N_law_unmet : List Str := ["starts", "ends", "found", "start", "end", "longer", "points", "path", "point"]
def w_law_unmet : WS := (wSeq (wSet 2 (wFrz (wLst (wACons (wTup wANil) wANil))))
  (wSeq (wFor (wIZ (wVar 0) (wVar 1)) (wgTup 2 (wgCons (wgName 3) (wgCons (wgName 4) wgNil))) (wSeq (wSetF 5 (wLst wANil))
  (wSeq (wFor (wIter (wVar 2)) (wgName 6) (wFor (wIter (wFrz (wCallF ar_law_paths pr_law_paths po_law_paths (wACons (wVar 3) (wACons (wVar 4) wANil))))) (wgName 7) (wIf (wNotT (wTB (wC1 gAny (wFrz (wComp (wIter (wVar 7)) (wgName 8) wYes (wBinV gIn 8 (wPeek 6)) [8]))))) (wApp 5 (wBinV gAdd 6 (wPeek 7))) wNext)))
  (wSet 2 (wVar 5)))))
  (wRet (wC1 gLen (wPeek 2)))))
theorem sc_law_unmet : FnScope ["starts", "ends", "found", "start", "end", "longer", "points", "path", "point"] ["starts", "ends"] (defScope s_law_unmet) := ⟨rfl, rfl, rfl, by decide +kernel, rfl, by decide +kernel, by decide +kernel⟩
section
variable {P : Program} {wd : World} {K : PySem.W.Frag} {mg : Str → Option Value} {base : Heap} {A : Fs}
theorem dv_law_unmet (T : Txt K mg A) (cdv : Value) (A' : Around) (outer : List Env) (s : Shared) (H : Hp) (E : XK) (hr : Room 1 (A'.deeper (PyProof.Rows.envOfC "_law_unmet" (defScope s_law_unmet) s.heap.objs.size A.a_law_unmet cdv))) :
    ∃ t, DSs (cxOf CX0 P wd K mg base ["starts", "ends", "found", "start", "end", "longer", "points", "path", "point"] "_law_unmet" (defScope s_law_unmet) A.a_law_unmet cdv A' outer s H E).nox (defBody s_law_unmet) t w_law_unmet := ⟨_, 
  (dss_cons (ds_set 2 (de_frz (df_lst (da_cons (de_tup da_nil) da_nil))) sc_law_unmet.nd)
  (dss_cons (ds_for rfl (di_zip (by rfl) T.m_zip (de_var 0) (de_var 1)) (dg_tup (by rfl) (dgs_cons (dg_name 3 (by exact sc_law_unmet.nd)) (dgs_cons (dg_name 4 (by exact sc_law_unmet.nd)) dgs_nil))) (dss_cons (ds_setF 5 (df_lst da_nil) sc_law_unmet.nd)
  (dss_cons (ds_for rfl (di_any (de_var 2)) (dg_name 6 (by exact sc_law_unmet.nd)) (dss_one (ds_for rfl (di_any (de_frz (df_call (ok_law_paths T) (hr.mono (by decide)) (by rfl) T.g_law_paths T.F_law_paths.kp T.b_law_paths pass0 (da_cons (de_var 3) (da_cons (de_var 4) da_nil))))) (dg_name 7 (by exact sc_law_unmet.nd)) (dss_one (ds_if (dt_not (dt_val (de_callB (cr_any (by rfl)) cs_any (by rfl) T.m_any (by decide +kernel) (dp_of (de_frz (df_comp (own := [("point", 8)]) (by rfl) (by exact sc_law_unmet.nd) (di_any (de_var 7)) (blkOk_by (N := N_law_unmet) (sc := defScope s_law_unmet) (by decide +kernel)) (fun _ _ _ _ _ => ⟨_, (dg_name 8 (by exact sc_law_unmet.nd))⟩) (fun _ _ _ _ _ => ⟨_, dts_nil⟩) (fun _ _ _ _ _ => ⟨_, (de_cmpV 8 (op_inA (hu65 hr)) os_in (dp_var 6) (by rfl))⟩))))))) (dss_one (ds_app 5 (de_binV 6 op_addA os_add (dp_var 7)))) dss_nil)))))
  (dss_one (ds_set 2 (de_var 5) sc_law_unmet.nd)))))
  (dss_one (ds_ret (de_callB cr_len cs_len (by rfl) T.m_len (by decide +kernel) (dp_var 2))))))⟩
end

theorem hw_unmet_paths : ∀ z, pr_unmet_paths z → w_unmet_paths (endsR (po_unmet_paths z)) (startE ["starts", "ends", "rows", "x", "y", "u", "v"] (ar_unmet_paths z)) := by
  intro ⟨ss, es⟩ ⟨h1, h2, h3, h4, h5⟩
  have h1 : ss.length ≤ 1000 := h1
  have h2 : es.length ≤ 1000 := h2
  refine ⟨ln rfl, fun i env => ∃ a b, env = [.sh (encPs ss), .sh (encPs es), .own ((rowsM (ss.take i, es)).map rowE), a, b, .no, .no], ⟨_, _, rfl⟩, fun i d env hd hI => ?_, fun env hI => ?_⟩
  · obtain ⟨a, b, rfl⟩ := hI
    obtain ⟨p, hp, rfl⟩ := map_get hd
    have hn := h3 p (List.mem_of_getElem? hp)
    obtain ⟨n1, n2, n3, n4⟩ := hn
    refine ⟨rfl, trivial, ?_⟩
    refine comp_map (xs := es) (enc := encP) (f := fun e => .int (entryM p e)) rfl (Nat.le_trans (by omega) line_ge) (fun j e he Q q => ?_) ?_
    · obtain ⟨m1, m2, m3, m4⟩ := h4 e (List.mem_of_getElem? he)
      have goal : ∀ (c : Bool), c = (decide (p.1 ≤ e.1) && decide (p.2 ≤ e.2)) → ∀ d, d = .int (if c = true then chooseM (e.1 - p.1 + e.2 - p.2) (e.1 - p.1) else 0) → Q d [.sh (encPs ss), .sh (encPs es), .own ((rowsM (ss.take i, es)).map rowE), .sh (.int p.1), .sh (.int p.2), .sh (.int e.1), .sh (.int e.2)] := fun c hc d hd => by
        have hd : d = .int (entryM p e) := by
          rw [hd, hc]
          rfl
        rw [hd]
        exact q _ rfl
      refine ⟨rfl, ite2 (fun c1 => ite2 (fun c2 => ?_) (fun c2 => goal false ?_ _ rfl)) (fun c1 => ite2 (fun q => by cases q) (fun _ => goal false ?_ _ rfl))⟩
      · have c1' : p.1 ≤ e.1 := of_decide_eq_true c1
        have c2' : p.2 ≤ e.2 := of_decide_eq_true c2
        refine ⟨(e.1 - p.1 + e.2 - p.2, e.1 - p.1), rfl, ⟨by show e.1 - p.1 + e.2 - p.2 < 1000000; omega, by show -1000000 < e.1 - p.1 + e.2 - p.2; omega⟩, fun d hd => goal true ?_ d hd⟩
        rw [decide_eq_true c1', decide_eq_true c2']
        rfl
      · have c2' : decide (p.2 ≤ e.2) = false := Bool.eq_false_iff.mpr c2
        rw [c2', Bool.and_false]
      · have c1' : decide (p.1 ≤ e.1) = false := Bool.eq_false_iff.mpr c1
        rw [c1']
        rfl
    · refine ⟨?_, .sh (.int p.1), .sh (.int p.2), ?_⟩
      · rw [List.length_map]
        unfold rowsM
        rw [List.length_map, List.length_take]
        exact Nat.lt_of_lt_of_le (by omega : _ < 1000000) line_ge
      · have e : rowsM (ss.take (i + 1), es) = rowsM (ss.take i, es) ++ [es.map (entryM p)] := by
          unfold rowsM
          rw [List.take_add_one, hp]
          simp
        rw [e, List.map_append]
        show [Sl.sh (encPs ss), _, Sl.own ((rowsM (ss.take i, es)).map rowE ++ [.list (es.map fun e => .int (entryM p e))]), _, _, _, _] = _
        have e2 : (es.map fun e => PyData.int (entryM p e)) = (es.map (entryM p)).map PyData.int := by rw [List.map_map]; rfl
        rw [e2]
        rfl
  · obtain ⟨a, b, rfl⟩ := hI
    rw [List.length_map, List.take_length]
    exact ⟨rowsM (ss, es), rfl, h5, fun d hd => hd⟩
theorem selU_len (pts : Way) (P : List Way) : (selU pts P).length ≤ P.length := by
  unfold selU
  rw [List.length_map]
  exact List.length_filter_le _ _
theorem stepU_len (F P : List Way) : (stepU F P).length ≤ F.length * P.length := by
  unfold stepU
  induction F with
  | nil => simp
  | cons w F ih =>
    rw [List.flatMap_cons, List.length_append, List.length_cons, Nat.succ_mul]
    have := selU_len w P
    omega
theorem pathsS_perm {s e : Pt} (h : sane s e = true) : (pathsS s e).Perm (lawM s e) := by
  unfold pathsS
  rw [if_pos h]
  exact List.mergeSort_perm _ _
theorem pathsS_facts {s e : Pt} (h : pr_law_paths (s, e)) : (pathsS s e).length ≤ (lawM s e).length ∧ ∀ w ∈ pathsS s e, w.length ≤ 21 := by
  by_cases c : sane s e = true
  · refine ⟨Nat.le_of_eq (pathsS_perm c).length_eq, fun w hw => ?_⟩
    have hw := (pathsS_perm c).mem_iff.mp hw
    have := ((iterL_facts s e _).2 w hw).2
    have h1 : e.1 - s.1 + e.2 - s.2 ≤ 20 := h.1
    omega
  · unfold pathsS
    rw [if_neg c]
    exact ⟨Nat.zero_le _, fun w hw => by cases hw⟩
theorem po_pathsS {s e : Pt} {ds : List Dt} (h : po_law_paths (s, e) ds) : ds = (pathsS s e).map encW := by
  unfold po_law_paths at h
  rw [h]
  unfold pathsS
  by_cases c : sane s e = true
  · rw [if_pos c, if_pos c, sortD_map]
  · rw [if_neg c, if_neg c]
    rfl
/-- the tuples so far: few, short -/
theorem unmetF_facts (zs : List (Pt × Pt)) (h : ∀ p ∈ zs, pr_law_paths p ∧ (lawM p.1 p.2).length ≤ 100) : ∀ i, (unmetF (zs.take i)).length ≤ 100 ^ i ∧ ∀ w ∈ unmetF (zs.take i), w.length ≤ 21 * i
  | 0 => by simp [unmetF]
  | i + 1 => by
    obtain ⟨f1, f2⟩ := unmetF_facts zs h i
    cases q : zs[i]? with
    | none =>
      have e : zs.take (i + 1) = zs.take i := by rw [List.take_add_one, q]; simp
      rw [e]
      exact ⟨Nat.le_trans f1 (Nat.pow_le_pow_right (by decide) (by omega)), fun w hw => Nat.le_trans (f2 w hw) (by omega)⟩
    | some p =>
      have e : unmetF (zs.take (i + 1)) = stepU (unmetF (zs.take i)) (pathsS p.1 p.2) := by
        unfold unmetF
        rw [List.take_add_one, q, List.foldl_append]
        rfl
      obtain ⟨g1, g2⟩ := h p (List.mem_of_getElem? q)
      obtain ⟨k1, k2⟩ := pathsS_facts (s := p.1) (e := p.2) g1
      rw [e]
      refine ⟨Nat.le_trans (stepU_len _ _) ?_, fun w hw => ?_⟩
      · rw [Nat.pow_succ]
        exact Nat.mul_le_mul f1 (by omega)
      · obtain ⟨pts, hp, hw⟩ := List.mem_flatMap.mp (show w ∈ List.flatMap (fun pts => selU pts (pathsS p.1 p.2)) (unmetF (zs.take i)) from hw)
        obtain ⟨v, hv, rfl⟩ := List.mem_map.mp hw
        have := k2 v (List.mem_filter.mp hv).1
        have := f2 pts hp
        rw [List.length_append]
        omega
theorem any_bls (bs : List Bool) {R : Dt → Prop} (k : R (.bool (bs.any id))) : gAny (.list (bs.map PyData.bool)) R := by
  show (match blsOf (bs.map PyData.bool) with | some bs => R (.bool (bs.any id)) | none => False)
  rw [blsOf_map]
  exact k
theorem selU_skip {pts : Way} {P : List Way} {k : Nat} {w : Way} (hw : P[k]? = some w) (hb : (w.any fun p => decide (p ∈ pts)) = true) : selU pts (P.take (k + 1)) = selU pts (P.take k) := by
  unfold selU
  rw [List.take_add_one, hw]
  show ((P.take k ++ [w]).filter _).map _ = _
  rw [List.filter_append, List.map_append]
  simp only [List.filter_cons, hb]
  exact List.append_nil _
theorem selU_take {pts : Way} {P : List Way} {k : Nat} {w : Way} (hw : P[k]? = some w) (hb : (w.any fun p => decide (p ∈ pts)) = false) : selU pts (P.take (k + 1)) = selU pts (P.take k) ++ [pts ++ w] := by
  unfold selU
  rw [List.take_add_one, hw]
  show ((P.take k ++ [w]).filter _).map _ = _
  rw [List.filter_append, List.map_append]
  simp only [List.filter_cons, hb]
  rfl
theorem inD_P (p : Pt) (pts : List Pt) : inD (encP p) (pts.map encP) = decide (p ∈ pts) := by
  rw [okP.inD]
  exact decide_eq_decide.mpr Iff.rfl
theorem zip_map2 (xs ys : List Pt) : zipD (xs.map encP) (ys.map encP) = (xs.zip ys).map fun p => .tuple [encP p.1, encP p.2] := by
  unfold zipD
  rw [List.zip_map, List.map_map]
  rfl
theorem hw_law_unmet : ∀ z, pr_law_unmet z → w_law_unmet (endsR (po_law_unmet z)) (startE ["starts", "ends", "found", "start", "end", "longer", "points", "path", "point"] (ar_law_unmet z)) := by
  intro ⟨ss, es⟩ ⟨h1, h2⟩
  have h1 : (ss.zip es).length ≤ 3 := h1
  have h2 : ∀ p ∈ ss.zip es, pr_law_paths p ∧ (lawM p.1 p.2).length ≤ 100 := h2
  refine ⟨ln rfl, ln rfl, fun i env => ∃ a b c d e, env = [.sh (encPs ss), .sh (encPs es), .sh (.list ((unmetF ((ss.zip es).take i)).map encW)), a, b, c, d, e, .no], ⟨_, _, _, _, _, rfl⟩, fun i d env hd hI => ?_, fun env hI => ?_⟩
  · obtain ⟨a, b, c, d', e', rfl⟩ := hI
    rw [zip_map2] at hd
    obtain ⟨p, hp, rfl⟩ := map_get hd
    obtain ⟨s, e⟩ := p
    obtain ⟨g1, g2⟩ := h2 (s, e) (List.mem_of_getElem? hp)
    have hi : i < (ss.zip es).length := (List.getElem?_eq_some_iff.mp hp).1
    obtain ⟨f1, f2⟩ := unmetF_facts (ss.zip es) h2 i
    obtain ⟨k1, k2⟩ := pathsS_facts g1
    have ef : unmetF ((ss.zip es).take (i + 1)) = stepU (unmetF ((ss.zip es).take i)) (pathsS s e) := by
      unfold unmetF
      rw [List.take_add_one, hp, List.foldl_append]
      rfl
    generalize hF : unmetF ((ss.zip es).take i) = F at f1 f2 ef
    have fl : F.length ≤ 10000 := Nat.le_trans f1 (Nat.le_trans (Nat.pow_le_pow_right (by decide) (by omega : i ≤ 2)) (by decide))
    have g2 : (lawM s e).length ≤ 100 := g2
    refine ⟨rfl, ln rfl, fun j env => ∃ d e', env = [.sh (encPs ss), .sh (encPs es), .sh (.list (F.map encW)), .sh (encP s), .sh (encP e), .own ((stepU (F.take j) (pathsS s e)).map encW), d, e', .no], ⟨_, _, rfl⟩, fun j d env hd hI => ?_, fun env hI => ?_⟩
    · obtain ⟨d', e', rfl⟩ := hI
      obtain ⟨pts, hpts, rfl⟩ := map_get hd
      have hptl : pts.length ≤ 63 := by
        have := f2 pts (List.mem_of_getElem? hpts)
        omega
      have hj : j < F.length := (List.getElem?_eq_some_iff.mp hpts).1
      have et : stepU (F.take (j + 1)) (pathsS s e) = stepU (F.take j) (pathsS s e) ++ selU pts (pathsS s e) := by
        unfold stepU
        rw [List.take_add_one, hpts, List.flatMap_append]
        simp
      have sl : (stepU (F.take j) (pathsS s e)).length + (pathsS s e).length ≤ 2000000 := by
        have a1 := stepU_len (F.take j) (pathsS s e)
        have a2 : (F.take j).length * (pathsS s e).length ≤ 10000 * 100 := Nat.mul_le_mul (by rw [List.length_take]; omega) (by omega)
        omega
      refine ⟨(s, e), rfl, g1, fun ds hds => ?_⟩
      rw [po_pathsS hds]
      refine ⟨fun k env => ∃ e', env = [.sh (encPs ss), .sh (encPs es), .sh (.list (F.map encW)), .sh (encP s), .sh (encP e), .own ((stepU (F.take j) (pathsS s e) ++ selU pts ((pathsS s e).take k)).map encW), .sh (encW pts), e', .no], ⟨e', ?_⟩, fun k d env hd hI => ?_, fun env hI => ?_⟩
      · have z : selU pts ((pathsS s e).take 0) = [] := rfl
        rw [z, List.append_nil]
        rfl
      · obtain ⟨e'', rfl⟩ := hI
        obtain ⟨w, hw, rfl⟩ := map_get hd
        have wl : w.length ≤ 21 := k2 w (List.mem_of_getElem? hw)
        have wa : ∀ {R : Dt → Prop}, R (.bool (w.any fun p => decide (p ∈ pts))) → gAny (.list (w.map fun p => .bool (decide (p ∈ pts)))) R := fun {R} k => by
          have z := any_bls (w.map fun p => decide (p ∈ pts)) (R := R) (by rw [List.any_map]; exact k)
          rw [List.map_map] at z
          exact z
        refine comp_map (xs := w) (enc := encP) (f := fun p => .bool (decide (p ∈ pts))) rfl (Nat.le_trans (by omega) line_ge) (fun m p hp Q q => ?_) (wa (ite2 (fun c => ?_) (fun c => ?_)))
        · refine ⟨⟨okP.shaped (by decide) _, okW.shaped (by decide) _⟩, ?_⟩
          rw [inD_P]
          show Q (.bool (decide (p ∈ pts))) _
          refine q _ ?_
          rfl
        · have c : (w.any fun p => decide (p ∈ pts)) = false := by
            cases z : (w.any fun p => decide (p ∈ pts)) with
            | false => rfl
            | true => rw [z] at c; cases c
          refine ⟨trivial, ?_, ?_, .sh (encW w), ?_⟩
          · show (pts.map encP).length + (w.map encP).length ≤ sizeLine
            rw [List.length_map, List.length_map]
            exact Nat.le_trans (by omega) line_ge
          · rw [List.length_map, List.length_append]
            have := selU_len pts ((pathsS s e).take k)
            rw [List.length_take] at this
            exact Nat.lt_of_lt_of_le (by omega : _ < 2 ^ 22) sizeLine_big
          · have e4 : ∀ X : List Way, (X ++ [pts ++ w]).map encW = X.map encW ++ [.tuple (pts.map encP ++ w.map encP)] := fun X => by
              rw [List.map_append]
              show _ ++ [PyData.tuple ((pts ++ w).map encP)] = _
              rw [List.map_append]
            rw [selU_take hw c, ← List.append_assoc, e4]
            rfl
        · have c : (w.any fun p => decide (p ∈ pts)) = true := by
            cases z : (w.any fun p => decide (p ∈ pts)) with
            | false => rw [z] at c; exact absurd rfl c
            | true => rfl
          refine ⟨.sh (encW w), ?_⟩
          rw [selU_skip hw c]
          rfl
      · obtain ⟨e'', rfl⟩ := hI
        rw [List.length_map, List.take_length]
        exact ⟨.sh (encW pts), e'', by rw [et]⟩
    · obtain ⟨d', e', rfl⟩ := hI
      refine ⟨.sh (encP s), .sh (encP e), .sh (.list ((unmetF ((ss.zip es).take (i + 1))).map encW)), d', e', ?_⟩
      rw [List.length_map, List.take_length, ef]
      rfl
  · obtain ⟨a, b, c, d', e', rfl⟩ := hI
    rw [zip_map2, List.length_map, List.take_length]
    show PyData.int (((unmetF (ss.zip es)).map encW).length : Nat) = .int ((unmetF (ss.zip es)).length : Nat)
    rw [List.length_map]
theorem ok_unmet_paths {P : Program} {wd : World} {K : PySem.W.Frag} {mg : Str → Option Value} {base : Heap} {A : Fs} (T : Txt K mg A) : FnOk P wd K mg base CX0 2 A.a_unmet_paths A.d_unmet_paths ["starts", "ends"] (spR K ar_unmet_paths pr_unmet_paths po_unmet_paths) :=
  dfn T.F_unmet_paths sc_unmet_paths (fun _ => rfl) (by decide) (dv_unmet_paths T) hw_unmet_paths

theorem ok_law_unmet {P : Program} {wd : World} {K : PySem.W.Frag} {mg : Str → Option Value} {base : Heap} {A : Fs} (T : Txt K mg A) : FnOk P wd K mg base CX0 2 A.a_law_unmet A.d_law_unmet ["starts", "ends"] (spR K ar_law_unmet pr_law_unmet po_law_unmet) :=
  dfn T.F_law_unmet sc_law_unmet (fun _ => rfl) (by decide) (dv_law_unmet T) hw_law_unmet

end Lw

namespace Lw
open PySem L2 DL
/-! the stack of ways leads to the same ways as the rows -/
def lvlN (e : Pt) : Nat → List Way → List Way
  | 0, ws => ws
  | k + 1, ws => lvlN e k (lvl e ws)
theorem lvl_append (e : Pt) (a b : List Way) : lvl e (a ++ b) = lvl e a ++ lvl e b := by
  unfold lvl
  rw [List.flatMap_append]
theorem lvlN_append (e : Pt) : ∀ (k : Nat) (a b : List Way), lvlN e k (a ++ b) = lvlN e k a ++ lvlN e k b
  | 0, a, b => rfl
  | k + 1, a, b => by
    show lvlN e k (lvl e (a ++ b)) = _
    rw [lvl_append, lvlN_append e k]
    rfl
theorem lvlN_nil (e : Pt) : ∀ k : Nat, lvlN e k [] = []
  | 0 => rfl
  | k + 1 => lvlN_nil e k
theorem lvlN_flat (e : Pt) (k : Nat) (ws : List Way) : lvlN e k ws = ws.flatMap fun w => lvlN e k [w] := by
  induction ws with
  | nil => exact lvlN_nil e k
  | cons w ws ih =>
    rw [List.flatMap_cons, ← ih, ← lvlN_append]
    rfl
theorem lvlN_succ (e : Pt) : ∀ (k : Nat) (ws : List Way), lvlN e (k + 1) ws = lvl e (lvlN e k ws)
  | 0, ws => rfl
  | k + 1, ws => by
    show lvlN e (k + 1) (lvl e ws) = lvl e (lvlN e k (lvl e ws))
    rw [lvlN_succ e k]
theorem iterL_eq (s e : Pt) : ∀ k, iterL s e k = lvlN e k [[s]]
  | 0 => rfl
  | k + 1 => by rw [lvlN_succ, ← iterL_eq s e k]; rfl
/-- how far a way is from its end -/
def remW (e : Pt) (w : Way) : Nat := (e.1 - (lastP w).1 + (e.2 - (lastP w).2)).toNat
def inW (e : Pt) (w : Way) : Prop := (lastP w).1 ≤ e.1 ∧ (lastP w).2 ≤ e.2
def complW (e : Pt) (w : Way) : List Way := lvlN e (remW e w) [w]
theorem lastP_app (w : Way) (p : Pt) : lastP (w ++ [p]) = p := by
  unfold lastP
  rw [List.getLastD_eq_getLast?, List.getLast?_append]
  rfl
theorem ext_facts {e : Pt} {w : Way} (h : inW e w) : ∀ v ∈ extX e w ++ extY e w, inW e v ∧ remW e v + 1 = remW e w := fun v hv => by
  obtain ⟨h1, h2⟩ := h
  rcases List.mem_append.mp hv with hv | hv
  · unfold extX at hv
    split at hv
    · rw [List.mem_singleton.mp hv]
      unfold inW remW
      rw [lastP_app]
      exact ⟨⟨by dsimp only; omega, h2⟩, by dsimp only; omega⟩
    · cases hv
  · unfold extY at hv
    split at hv
    · rw [List.mem_singleton.mp hv]
      unfold inW remW
      rw [lastP_app]
      exact ⟨⟨h1, by dsimp only; omega⟩, by dsimp only; omega⟩
    · cases hv
theorem lvl_one (e : Pt) (w : Way) : lvl e [w] = extX e w ++ extY e w := by
  unfold lvl
  rw [List.flatMap_cons, List.flatMap_nil, List.append_nil]
theorem compl_end {e : Pt} {w : Way} (h : lastP w = e) : complW e w = [w] := by
  unfold complW remW
  rw [h]
  have z : (e.1 - e.1 + (e.2 - e.2)).toNat = 0 := by omega
  rw [z]
  rfl
theorem rem_pos {e : Pt} {w : Way} (h : inW e w) (hne : lastP w ≠ e) : 0 < remW e w := by
  obtain ⟨h1, h2⟩ := h
  unfold remW
  have : ¬ ((lastP w).1 = e.1 ∧ (lastP w).2 = e.2) := fun q => hne (Prod.ext q.1 q.2)
  omega
theorem compl_step {e : Pt} {w : Way} (h : inW e w) (hne : lastP w ≠ e) : complW e w = (extX e w ++ extY e w).flatMap (complW e) := by
  have hp := rem_pos h hne
  unfold complW
  obtain ⟨k, hk⟩ : ∃ k, remW e w = k + 1 := ⟨remW e w - 1, by omega⟩
  rw [hk]
  show lvlN e k (lvl e [w]) = _
  rw [lvl_one, lvlN_flat]
  have f := ext_facts h
  generalize extX e w ++ extY e w = vs at f
  induction vs with
  | nil => rfl
  | cons v vs ih =>
    rw [List.flatMap_cons, List.flatMap_cons, ih (fun x hx => f x (List.mem_cons_of_mem _ hx))]
    have := (f v List.mem_cons_self).2
    rw [show remW e v = k by omega]
def szW (e : Pt) (w : Way) : Nat := 2 ^ (remW e w + 1) - 1
def sumW (e : Pt) (ws : List Way) : Nat := (ws.map (szW e)).sum
theorem sumW_append (e : Pt) (a b : List Way) : sumW e (a ++ b) = sumW e a + sumW e b := by
  unfold sumW
  rw [List.map_append, List.sum_append]
theorem ext_sum {e : Pt} {w : Way} (h : inW e w) (hne : lastP w ≠ e) : sumW e (extX e w ++ extY e w) + 1 ≤ szW e w := by
  have hp := rem_pos h hne
  obtain ⟨k, hk⟩ : ∃ k, remW e w = k + 1 := ⟨remW e w - 1, by omega⟩
  have l2 := ext_len e w
  have f := ext_facts h
  have one : ∀ v ∈ extX e w ++ extY e w, szW e v = 2 ^ (k + 1) - 1 := fun v hv => by
    unfold szW
    rw [show remW e v = k by have := (f v hv).2; omega]
  have z : ∀ vs : List Way, (∀ v ∈ vs, szW e v = 2 ^ (k + 1) - 1) → sumW e vs = vs.length * (2 ^ (k + 1) - 1) := fun vs => by
    induction vs with
    | nil => intro _; simp [sumW]
    | cons v vs ih =>
      intro hv
      have a := ih fun x hx => hv x (List.mem_cons_of_mem _ hx)
      unfold sumW at a ⊢
      rw [List.map_cons, List.sum_cons, a, hv v List.mem_cons_self, List.length_cons, Nat.succ_mul]
      omega
  rw [z _ one]
  unfold szW
  rw [hk, Nat.pow_succ 2 (k + 1)]
  have p : 1 ≤ 2 ^ (k + 1) := Nat.one_le_two_pow
  have m := Nat.mul_le_mul_right (2 ^ (k + 1) - 1) l2
  omega
theorem iterA_inv (s e : Pt) (h : inW e [s]) : ∀ k, (∀ w ∈ (iterA s e k).2, inW e w) ∧ ((iterA s e k).1 ++ (iterA s e k).2.flatMap (complW e)).Perm (complW e [s]) ∧ ((iterA s e k).2 = [] ∨ sumW e (iterA s e k).2 + k ≤ szW e [s])
  | 0 => by
    refine ⟨fun w hw => ?_, ?_, .inr ?_⟩
    · rw [List.mem_singleton.mp hw]
      exact h
    · show ([] ++ [[s]].flatMap (complW e)).Perm _
      rw [List.nil_append, List.flatMap_cons, List.flatMap_nil, List.append_nil]
    · show sumW e [[s]] + 0 ≤ _
      unfold sumW
      simp
  | k + 1 => by
    obtain ⟨h1, h2, h3⟩ := iterA_inv s e h k
    rw [iterA_of]
    unfold stepA
    cases q : (iterA s e k).2.getLast? with
    | none =>
      have z : (iterA s e k).2 = [] := List.getLast?_eq_none_iff.mp q
      exact ⟨h1, h2, .inl z⟩
    | some w =>
      have hne : (iterA s e k).2 ≠ [] := fun z => by rw [z] at q; cases q
      have split : (iterA s e k).2 = (iterA s e k).2.dropLast ++ [w] := by
        have z := (List.dropLast_concat_getLast hne).symm
        rw [List.getLast?_eq_getLast hne] at q
        rw [Option.some.inj q] at z
        exact z
      have h3 : sumW e (iterA s e k).2 + k ≤ szW e [s] := by
        rcases h3 with z | z
        · exact absurd z hne
        · exact z
      generalize (iterA s e k).2.dropLast = r at split
      generalize (iterA s e k).1 = f at h2
      rw [split] at h1 h2 h3
      have hw := h1 w (List.mem_append_right _ List.mem_cons_self)
      rw [sumW_append] at h3
      have s1 : sumW e [w] = szW e w := by unfold sumW; simp
      rw [s1] at h3
      rw [List.flatMap_append, List.flatMap_cons, List.flatMap_nil, List.append_nil] at h2
      by_cases c : lastP w = e
      · rw [compl_end c] at h2
        simp only [if_pos c]
        refine ⟨fun v hv => h1 v (List.mem_append_left _ hv), ?_, .inr ?_⟩
        · refine List.Perm.trans ?_ h2
          rw [List.append_assoc]
          exact List.Perm.append_left f List.perm_append_comm
        · have : 1 ≤ szW e w := by
            unfold szW
            have : 2 ≤ 2 ^ (remW e w + 1) := by rw [Nat.pow_succ]; have := Nat.one_le_two_pow (n := remW e w); omega
            omega
          omega
      · rw [compl_step hw c] at h2
        simp only [if_neg c]
        refine ⟨fun v hv => ?_, ?_, .inr ?_⟩
        · rw [List.append_assoc] at hv
          rcases List.mem_append.mp hv with hv | hv
          · exact h1 v (List.mem_append_left _ hv)
          · exact (ext_facts hw v hv).1
        · rw [List.append_assoc r, List.flatMap_append]
          exact h2
        · rw [List.append_assoc, sumW_append]
          have := ext_sum hw c
          omega
theorem all_of {s e : Pt} (h1 : s.1 ≤ e.1) (h2 : s.2 ≤ e.2) (h3 : e.1 - s.1 + (e.2 - s.2) ≤ 6) : pr_all_paths (s, e) ∧ (allM s e).Perm (lawM s e) := by
  obtain ⟨a1, a2, a3⟩ := iterA_inv s e ⟨h1, h2⟩ 130
  have z : (iterA s e 130).2 = [] := by
    rcases a3 with z | z
    · exact z
    · exfalso
      have : szW e [s] ≤ 2 ^ 7 - 1 := by
        unfold szW
        have : remW e [s] ≤ 6 := by unfold remW; show (e.1 - s.1 + (e.2 - s.2)).toNat ≤ 6; omega
        have := Nat.pow_le_pow_right (show 0 < 2 by decide) (show remW e [s] + 1 ≤ 7 by omega)
        omega
      omega
  refine ⟨z, ?_⟩
  rw [z, List.flatMap_nil, List.append_nil] at a2
  unfold allM lawM
  rw [iterL_eq]
  have e1 : remW e [s] = (e.1 - s.1 + e.2 - s.2).toNat := by unfold remW; show (e.1 - s.1 + (e.2 - s.2)).toNat = _; congr 1; omega
  unfold complW at a2
  rw [e1] at a2
  exact a2
end Lw

namespace Lw
open PySem L2 DL
/-! the tuples counted with bits -/
def codeP (p : Pt) : Nat := p.1.toNat * 8 + (p.2 + 4).toNat
def inR (p : Pt) : Bool := decide (0 ≤ p.1) && decide (-4 ≤ p.2) && decide (p.2 < 4)
def maskW : Way → Nat
  | [] => 0
  | p :: w => maskW w ||| 1 <<< codeP p
def cntM (m : Nat) : List (List Nat) → Nat
  | [] => 1
  | P :: Ps => ((P.filter fun w => m &&& w == 0).map fun w => cntM (m ||| w) Ps).sum
def pathsU (s e : Pt) : List Way := if sane s e then lawM s e else []
def cntW (pts : Way) : List (List Way) → Nat
  | [] => 1
  | P :: Ps => ((selU pts P).map fun w => cntW w Ps).sum
theorem code_inj {p q : Pt} (hp : inR p = true) (hq : inR q = true) (h : codeP p = codeP q) : p = q := by
  unfold inR at hp hq
  simp only [Bool.and_eq_true, decide_eq_true_eq] at hp hq
  unfold codeP at h
  exact Prod.ext (by omega) (by omega)
theorem mask_bit (w : Way) (i : Nat) : (maskW w).testBit i = w.any fun p => decide (codeP p = i) := by
  induction w with
  | nil => simp [maskW]
  | cons p w ih =>
    rw [maskW, Nat.testBit_or, ih, List.any_cons, Bool.or_comm, Nat.one_shiftLeft, Nat.testBit_two_pow]
theorem mask_app (a b : Way) : maskW (a ++ b) = maskW a ||| maskW b := by
  apply Nat.eq_of_testBit_eq
  intro i
  rw [Nat.testBit_or, mask_bit, mask_bit, mask_bit, List.any_append]
theorem mask_test {pts w : Way} (hp : pts.all inR = true) (hw : w.all inR = true) : (maskW pts &&& maskW w == 0) = !w.any fun p => decide (p ∈ pts) := by
  rw [List.all_eq_true] at hp hw
  rw [Bool.eq_iff_iff, beq_iff_eq, Bool.not_eq_true', List.any_eq_false]
  constructor
  · intro h p hpw hpp
    have z : (maskW pts &&& maskW w).testBit (codeP p) = true := by
      rw [Nat.testBit_and, mask_bit, mask_bit, Bool.and_eq_true, List.any_eq_true, List.any_eq_true]
      exact ⟨⟨p, of_decide_eq_true hpp, decide_eq_true rfl⟩, ⟨p, hpw, decide_eq_true rfl⟩⟩
    rw [h, Nat.zero_testBit] at z
    cases z
  · intro h
    apply Nat.eq_of_testBit_eq
    intro i
    rw [Nat.zero_testBit, Nat.testBit_and, mask_bit, mask_bit]
    rw [Bool.eq_false_iff, ne_eq, Bool.and_eq_true, List.any_eq_true, List.any_eq_true]
    rintro ⟨⟨p, h1, h2⟩, ⟨q, h3, h4⟩⟩
    have e : p = q := code_inj (hp p h1) (hw q h3) (by rw [of_decide_eq_true h2, of_decide_eq_true h4])
    subst e
    exact h p h3 (decide_eq_true h1)
theorem sum_flat {α : Type} (f : α → Nat) (g : Way → List α) (F : List Way) : ((F.flatMap g).map f).sum = (F.map fun x => ((g x).map f).sum).sum := by
  induction F with
  | nil => rfl
  | cons x F ih => rw [List.flatMap_cons, List.map_append, List.sum_append, ih, List.map_cons, List.sum_cons]
theorem foldU_len : ∀ (Ps : List (List Way)) (F : List Way), (Ps.foldl stepU F).length = (F.map fun w => cntW w Ps).sum
  | [], F => by
    show F.length = (F.map fun _ => 1).sum
    induction F with
    | nil => rfl
    | cons x F ih => rw [List.length_cons, ih, List.map_cons, List.sum_cons]; omega
  | P :: Ps, F => by
    rw [List.foldl_cons, foldU_len Ps]
    unfold stepU
    rw [sum_flat]
    rfl
theorem pathsS_permU (s e : Pt) : (pathsS s e).Perm (pathsU s e) := by
  unfold pathsS pathsU
  split
  · exact List.mergeSort_perm _ _
  · exact List.Perm.refl _
theorem cntW_perm : ∀ (zs : List (Pt × Pt)) (pts : Way), cntW pts (zs.map fun p => pathsS p.1 p.2) = cntW pts (zs.map fun p => pathsU p.1 p.2)
  | [], pts => rfl
  | z :: zs, pts => by
    show ((selU pts (pathsS z.1 z.2)).map fun w => cntW w (zs.map fun p => pathsS p.1 p.2)).sum = ((selU pts (pathsU z.1 z.2)).map fun w => cntW w (zs.map fun p => pathsU p.1 p.2)).sum
    have e : (fun w => cntW w (zs.map fun p => pathsS p.1 p.2)) = fun w => cntW w (zs.map fun p => pathsU p.1 p.2) := funext fun w => cntW_perm zs w
    rw [e]
    refine (List.Perm.map _ ?_).sum_nat
    unfold selU
    exact ((pathsS_permU z.1 z.2).filter _).map _
theorem cntW_mask : ∀ (Ps : List (List Way)) (pts : Way), pts.all inR = true → (∀ P ∈ Ps, ∀ w ∈ P, w.all inR = true) → cntW pts Ps = cntM (maskW pts) (Ps.map fun P => P.map maskW)
  | [], pts, _, _ => rfl
  | P :: Ps, pts, hp, h => by
    show ((selU pts P).map fun w => cntW w Ps).sum = (((P.map maskW).filter fun w => maskW pts &&& w == 0).map fun w => cntM (maskW pts ||| w) (Ps.map fun P => P.map maskW)).sum
    unfold selU
    rw [List.map_map, List.filter_map, List.map_map]
    have e : P.filter ((fun w => maskW pts &&& w == 0) ∘ maskW) = P.filter fun w => !w.any fun p => decide (p ∈ pts) := List.filter_congr fun w hw => mask_test hp (h P List.mem_cons_self w hw)
    rw [e]
    congr 1
    refine List.map_congr_left fun w hw => ?_
    have hw := h P List.mem_cons_self w (List.mem_filter.mp hw).1
    show cntW (pts ++ w) Ps = cntM (maskW pts ||| maskW w) _
    rw [← mask_app]
    exact cntW_mask Ps (pts ++ w) (by rw [List.all_append, hp, hw]; rfl) fun P' hP => h P' (List.mem_cons_of_mem _ hP)
theorem unmetF_cnt {zs : List (Pt × Pt)} (h : ∀ p ∈ zs, (pathsU p.1 p.2).all (fun w => w.all inR) = true) : (unmetF zs).length = cntM 0 (zs.map fun p => (pathsU p.1 p.2).map maskW) := by
  have e : unmetF zs = (zs.map fun p => pathsS p.1 p.2).foldl stepU [[]] := by
    unfold unmetF
    rw [List.foldl_map]
  rw [e, foldU_len]
  show cntW [] _ + 0 = _
  rw [Nat.add_zero, cntW_perm, cntW_mask _ _ rfl fun P hP w hw => ?_, List.map_map]
  · rfl
  · obtain ⟨z, hz, rfl⟩ := List.mem_map.mp hP
    exact List.all_eq_true.mp (h z hz) w hw
/-! what is tried -/
def startsM (ps : List Nat) : List Pt := ps.map fun a : Nat => ((a : Int), 0 - (a : Int))
def endsM (gs : List Nat) (t : Int) : List Pt := gs.map fun a : Nat => ((a : Int) + 2 + t, 3 - (a : Int))
def okN (ps gs : List Nat) (t : Int) : Bool :=
  let ss := startsM ps
  let es := endsM gs t
  let zs := ss.zip es
  decide (zs.length ≤ 3) && zs.all (fun p => decide (p.2.1 - p.1.1 + p.2.2 - p.1.2 ≤ 20) && decide (-1000 ≤ p.2.1 - p.1.1 + p.2.2 - p.1.2) && decide ((lawM p.1 p.2).length ≤ 100) && (pathsU p.1 p.2).all (fun w => w.all inR)) &&
    (detO (rowsM (ss, es)) == some ((cntM 0 (zs.map fun p => (pathsU p.1 p.2).map maskW) : Nat) : Int))
def subsL : Nat → List (List Nat)
  | 0 => [[]]
  | n + 1 => subsL n ++ (subsL n).map (· ++ [n])
def pairOf (a b : List Nat) : List Nat × List Nat :=
  let p := a.take 3
  let g := b.take p.length
  if 0 < g.length then (p.take g.length, g) else ([0], [1])
def allPairs : List (List Nat × List Nat) := [1, 2, 3].flatMap fun k => let l := (subsL 4).filter fun a => a.length == k; l.flatMap fun a => l.map fun b => (a, b)
theorem pairs_in : ∀ a ∈ subsL 4, ∀ b ∈ subsL 4, pairOf a b ∈ allPairs := by decide +kernel
theorem pairs_ok : (allPairs.all fun z => okN z.1 z.2 0 && okN z.1 z.2 1) = true := by decide +kernel
def okOne (a b c d : Nat) : Bool :=
  let s : Pt := ((a : Int), (b : Int))
  let e : Pt := ((a : Int) + (c : Int), (b : Int) + (d : Int))
  let n : Int := ((lawM s e).length : Nat)
  decide (n = prodM ((c : Int) + (d : Int)) d) && (detO (rowsM ([s], [e])) == some n)
theorem ones_ok : ((List.range 4).all fun a => (List.range 4).all fun b => (List.range 4).all fun c => (List.range 4).all fun d => okOne a b c d) = true := by decide +kernel
theorem three_ok : detO (rowsM ([((0 : Int), (0 : Int)), (1, -1)], [((1 : Int), (1 : Int)), (2, 0)])) = some 3 := by decide +kernel
end Lw

namespace Lw
open PySem L2 DL
abbrev ar_law := arLaw
abbrev pr_law := prLaw
abbrev po_law := poLaw
def N_law : List Str := ["script", "hand", "turn", "start", "end", "across", "down", "told", "places", "goals", "starts", "ends", "moved", "at", "x", "y"]
def w_law : WS := (wSeq (wSetH 1 (wCallF ar_law_hand pr_law_hand po_law_hand (wACons (wVar 0) wANil)))
  (wSeq (wFor (wIR1 (wC (.int 4))) (wgName 2) (wSeq (wSet 3 (wTup (wACons (wCallH 1 ar_law_draw pr_law_draw po_law_draw (wACons (wC (.int 4)) wANil)) (wACons (wCallH 1 ar_law_draw pr_law_draw po_law_draw (wACons (wC (.int 4)) wANil)) wANil))))
  (wSeq (wSet 4 (wTup (wACons (wBin gAdd (wBinV gIx 3 (wC (.int 0))) (wCallH 1 ar_law_draw pr_law_draw po_law_draw (wACons (wC (.int 4)) wANil))) (wACons (wBin gAdd (wBinV gIx 3 (wC (.int 1))) (wCallH 1 ar_law_draw pr_law_draw po_law_draw (wACons (wC (.int 4)) wANil))) wANil))))
  (wSeq (wPar2 5 6 (wKSh (wBin DL.gSub (wBinV gIx 4 (wC (.int 0))) (wBinV gIx 3 (wC (.int 0)))) (wKSh (wBin DL.gSub (wBinV gIx 4 (wC (.int 1))) (wBinV gIx 3 (wC (.int 1)))) wKNil)))
  (wSeq (wSet 7 (wFrz (wCallF ar_all_paths pr_all_paths po_all_paths (wACons (wVar 3) (wACons (wVar 4) wANil)))))
  (wSeq (wIf (wOrT (wNotT (wTB (wCall ar_law_is (pr_law_is 9) po_law_is (wACons (wFrz (wC1F gSort (wPeek 7))) (wACons (wFrz (wCallF ar_law_paths pr_law_paths po_law_paths (wACons (wVar 3) (wACons (wVar 4) wANil)))) wANil))))) (wTB (wBin gNe (wC1 gLen (wPeek 7)) (wCall ar_law_chosen pr_law_chosen po_law_chosen (wACons (wBinV gAdd 5 (wPeek 6)) (wACons (wVar 6) wANil)))))) (wRet (wC (.bool false))) wNext)
  (wSeq (wIf (wNotT (wTB (wCall ar_law_is (pr_law_is 9) po_law_is (wACons (wCall ar_unmet_paths pr_unmet_paths po_unmet_paths (wACons (wFrz (wLst (wACons (wVar 3) wANil))) (wACons (wFrz (wLst (wACons (wVar 4) wANil))) wANil))) (wACons (wC1 gLen (wPeek 7)) wANil))))) (wRet (wC (.bool false))) wNext)
  (wSeq (wSet 8 (wSl (wFrz (wComp (wIR1 (wC (.int 4))) (wgName 13) (wTB (wBin gEq (wCallH 1 ar_law_draw pr_law_draw po_law_draw (wACons (wC (.int 2)) wANil)) (wC (.int 0)))) (wVar 13) [13])) wONone (wOSome (wC (.int 3)))))
  (wSeq (wSet 9 (wSl (wFrz (wComp (wIR1 (wC (.int 4))) (wgName 13) (wTB (wBin gEq (wCallH 1 ar_law_draw pr_law_draw po_law_draw (wACons (wC (.int 2)) wANil)) (wC (.int 0)))) (wVar 13) [13])) wONone (wOSome (wC1 gLen (wPeek 8)))))
  (wSeq (wSet 8 (wIfE (wTB (wBin gGt (wC1 gLen (wPeek 9)) (wC (.int 0)))) (wSlV 8 wONone (wOSome (wC1 gLen (wPeek 9)))) (wFrz (wLst (wACons (wC (.int 0)) wANil)))))
  (wSeq (wSet 9 (wIfE (wTB (wBin gGt (wC1 gLen (wPeek 9)) (wC (.int 0)))) (wVar 9) (wFrz (wLst (wACons (wC (.int 1)) wANil)))))
  (wSeq (wSetF 10 (wComp (wIter (wVar 8)) (wgName 13) wYes (wTup (wACons (wVar 13) (wACons (wBin DL.gSub (wC (.int 0)) (wPeek 13)) wANil))) [13]))
  (wSeq (wSetF 11 (wComp (wIter (wVar 9)) (wgName 13) wYes (wTup (wACons (wBin gAdd (wBinV gAdd 13 (wC (.int 2))) (wC1 gInt (wBinV gEq 2 (wC (.int 1))))) (wACons (wBin DL.gSub (wC (.int 3)) (wPeek 13)) wANil))) [13]))
  (wSeq (wIf (wNotT (wTB (wCall ar_law_is (pr_law_is 9) po_law_is (wACons (wCall ar_unmet_paths pr_unmet_paths po_unmet_paths (wACons (wVar 10) (wACons (wVar 11) wANil))) (wACons (wCall ar_law_unmet pr_law_unmet po_law_unmet (wACons (wVar 10) (wACons (wVar 11) wANil))) wANil))))) (wRet (wC (.bool false))) wNext)
  (wSeq (wSetF 12 (wComp (wIter (wVar 10)) (wgTup 2 (wgCons (wgName 14) (wgCons (wgName 15) wgNil))) wYes (wTup (wACons (wBinV gAdd 14 (wC (.int 5))) (wACons (wBinV DL.gSub 15 (wC (.int 2))) wANil))) [14, 15]))
  (wIf (wTB (wBin gNe (wCall ar_unmet_paths pr_unmet_paths po_unmet_paths (wACons (wVar 12) (wACons (wFrz (wComp (wIter (wVar 11)) (wgTup 2 (wgCons (wgName 14) (wgCons (wgName 15) wgNil))) wYes (wTup (wACons (wBinV gAdd 14 (wC (.int 5))) (wACons (wBinV DL.gSub 15 (wC (.int 2))) wANil))) [14, 15])) wANil))) (wCall ar_unmet_paths pr_unmet_paths po_unmet_paths (wACons (wVar 10) (wACons (wVar 11) wANil))))) (wRet (wC (.bool false))) wNext))))))))))))))))
  (wSeq (wIf (wTB (wBin gNe (wCall ar_unmet_paths pr_unmet_paths po_unmet_paths (wACons (wFrz (wLst (wACons (wTup (wACons (wC (.int 0)) (wACons (wC (.int 0)) wANil))) (wACons (wTup (wACons (wC (.int 1)) (wACons (wNeg (wC (.int 1))) wANil))) wANil)))) (wACons (wFrz (wLst (wACons (wTup (wACons (wC (.int 1)) (wACons (wC (.int 1)) wANil))) (wACons (wTup (wACons (wC (.int 2)) (wACons (wC (.int 0)) wANil))) wANil)))) wANil))) (wC (.int 3)))) (wRet (wC (.bool false))) wNext)
  (wRet (wAndV (wBin gEq (wFrz (wCallF ar_all_paths pr_all_paths po_all_paths (wACons (wTup (wACons (wC (.int 0)) (wACons (wC (.int 0)) wANil))) (wACons (wTup (wACons (wC (.int 0)) (wACons (wC (.int 0)) wANil))) wANil)))) (wFrz (wLst (wACons (wTup (wACons (wTup (wACons (wC (.int 0)) (wACons (wC (.int 0)) wANil))) wANil)) wANil)))) (wBin gEq (wFrz (wCallF ar_all_paths pr_all_paths po_all_paths (wACons (wTup (wACons (wC (.int 0)) (wACons (wC (.int 0)) wANil))) (wACons (wTup (wACons (wC (.int 1)) (wACons (wC (.int 0)) wANil))) wANil)))) (wFrz (wLst (wACons (wTup (wACons (wTup (wACons (wC (.int 0)) (wACons (wC (.int 0)) wANil))) (wACons (wTup (wACons (wC (.int 1)) (wACons (wC (.int 0)) wANil))) wANil))) wANil)))))))))
theorem sc_law : FnScope ["script", "hand", "turn", "start", "end", "across", "down", "told", "places", "goals", "starts", "ends", "moved", "at", "x", "y"] ["script"] (defScope s_law) := ⟨rfl, rfl, rfl, by decide +kernel, rfl, by decide +kernel, by decide +kernel⟩
section
variable {P : Program} {wd : World} {K : PySem.W.Frag} {mg : Str → Option Value} {base : Heap} {A : Fs}
theorem dv_law (T : Txt K mg A) (cdv : Value) (A' : Around) (outer : List Env) (s : Shared) (H : Hp) (E : XK) (hr : Room 10 (A'.deeper (PyProof.Rows.envOfC "law" (defScope s_law) s.heap.objs.size A.a_law cdv))) :
    ∃ t, DSs (cxOf CX0 P wd K mg base ["script", "hand", "turn", "start", "end", "across", "down", "told", "places", "goals", "starts", "ends", "moved", "at", "x", "y"] "law" (defScope s_law) A.a_law cdv A' outer s H E).nox (defBody s_law) t w_law := ⟨_, 
  (dss_cons (ds_setH 1 (df_call (ok_law_hand T) (hr.mono (by decide)) (by rfl) T.g_law_hand T.F_law_hand.kp T.b_law_hand pass0 (da_cons (de_var 0) da_nil)) sc_law.nd)
  (dss_cons (ds_for rfl (di_range1 (by rfl) T.m_range de_int) (dg_name 2 (by exact sc_law.nd)) (dss_cons (ds_set 3 (de_tup (da_cons (de_callH 1 (ok_law_draw T) (hr.mono (by decide)) (by rfl) T.g_law_draw T.F_law_draw.kp T.b_law_draw pass0 (da_cons de_int da_nil)) (da_cons (de_callH 1 (ok_law_draw T) (hr.mono (by decide)) (by rfl) T.g_law_draw T.F_law_draw.kp T.b_law_draw pass0 (da_cons de_int da_nil)) da_nil))) sc_law.nd)
  (dss_cons (ds_set 4 (de_tup (da_cons (de_bin op_addA os_add (de_ixV 3 (dp_of de_int) (fun _ _ => rfl)) (dp_of (de_callH 1 (ok_law_draw T) (hr.mono (by decide)) (by rfl) T.g_law_draw T.F_law_draw.kp T.b_law_draw pass0 (da_cons de_int da_nil)))) (da_cons (de_bin op_addA os_add (de_ixV 3 (dp_of de_int) (fun _ _ => rfl)) (dp_of (de_callH 1 (ok_law_draw T) (hr.mono (by decide)) (by rfl) T.g_law_draw T.F_law_draw.kp T.b_law_draw pass0 (da_cons de_int da_nil)))) da_nil))) sc_law.nd)
  (dss_cons (ds_par2 5 6 sc_law.nd rfl (dk_sh (de_bin op_sub os_sub (de_ixV 4 (dp_of de_int) (fun _ _ => rfl)) (dp_of (de_ixV 3 (dp_of de_int) (fun _ _ => rfl)))) (dk_sh (de_bin op_sub os_sub (de_ixV 4 (dp_of de_int) (fun _ _ => rfl)) (dp_of (de_ixV 3 (dp_of de_int) (fun _ _ => rfl)))) dk_nil)))
  (dss_cons (ds_set 7 (de_frz (df_call (ok_all_paths T) (hr.mono (by decide)) (by rfl) T.g_all_paths T.F_all_paths.kp T.b_all_paths pass0 (da_cons (de_var 3) (da_cons (de_var 4) da_nil)))) sc_law.nd)
  (dss_cons (ds_if (dw_pt (dw_or (dt_not (dt_val (de_call (okk_law_is T 9) (hr.mono (by decide)) (by rfl) T.g_law_is T.F_law_is.kp T.b_law_is pass0 (da_cons (de_frz (df_callB (cr_sortD hr.units) cs_sort (by rfl) T.m_sorted (by decide +kernel) (dp_var 7))) (da_cons (de_frz (df_call (ok_law_paths T) (hr.mono (by decide)) (by rfl) T.g_law_paths T.F_law_paths.kp T.b_law_paths pass0 (da_cons (de_var 3) (da_cons (de_var 4) da_nil)))) da_nil))))) (dw_or1 (dt_cmp (op_neD hr.units) os_ne (de_callB cr_len cs_len (by rfl) T.m_len (by decide +kernel) (dp_var 7)) (dp_of (de_call (ok_law_chosen T) (hr.mono (by decide)) (by rfl) T.g_law_chosen T.F_law_chosen.kp T.b_law_chosen pass0 (da_cons (de_binV 5 op_addA os_add (dp_var 6)) (da_cons (de_var 6) da_nil)))) (nomark _))))) (dss_one (ds_ret de_bl)) dss_nil)
  (dss_cons (ds_if (dt_not (dt_val (de_call (okk_law_is T 9) (hr.mono (by decide)) (by rfl) T.g_law_is T.F_law_is.kp T.b_law_is pass0 (da_cons (de_call (ok_unmet_paths T) (hr.mono (by decide)) (by rfl) T.g_unmet_paths T.F_unmet_paths.kp T.b_unmet_paths pass0 (da_cons (de_frz (df_lst (da_cons (de_var 3) da_nil))) (da_cons (de_frz (df_lst (da_cons (de_var 4) da_nil))) da_nil))) (da_cons (de_callB cr_len cs_len (by rfl) T.m_len (by decide +kernel) (dp_var 7)) da_nil))))) (dss_one (ds_ret de_bl)) dss_nil)
  (dss_cons (ds_set 8 (de_sl (de_frz (df_comp (own := [("at", 13)]) (by rfl) (by exact sc_law.nd) (di_range1 (by rfl) T.m_range de_int) (blkOk_by (N := N_law) (sc := defScope s_law) (by decide +kernel)) (fun _ _ _ _ _ => ⟨_, (dg_name 13 (by exact sc_law.nd))⟩) (fun _ _ _ _ _ => ⟨_, (dts_one (dt_cmp (op_eqD hr.units) os_eq (de_callH 1 (ok_law_draw T) (hr.mono (by decide)) (by rfl) T.g_law_draw T.F_law_draw.kp T.b_law_draw pass0 (da_cons de_int da_nil)) (dp_of de_int) (nomark _)))⟩) (fun _ _ _ _ _ => ⟨_, (de_var 13)⟩))) do_none (do_some de_int)) sc_law.nd)
  (dss_cons (ds_set 9 (de_sl (de_frz (df_comp (own := [("at", 13)]) (by rfl) (by exact sc_law.nd) (di_range1 (by rfl) T.m_range de_int) (blkOk_by (N := N_law) (sc := defScope s_law) (by decide +kernel)) (fun _ _ _ _ _ => ⟨_, (dg_name 13 (by exact sc_law.nd))⟩) (fun _ _ _ _ _ => ⟨_, (dts_one (dt_cmp (op_eqD hr.units) os_eq (de_callH 1 (ok_law_draw T) (hr.mono (by decide)) (by rfl) T.g_law_draw T.F_law_draw.kp T.b_law_draw pass0 (da_cons de_int da_nil)) (dp_of de_int) (nomark _)))⟩) (fun _ _ _ _ _ => ⟨_, (de_var 13)⟩))) do_none (do_some (de_callB cr_len cs_len (by rfl) T.m_len (by decide +kernel) (dp_var 8)))) sc_law.nd)
  (dss_cons (ds_set 8 (de_if (dt_cmp op_gt os_gt (de_callB cr_len cs_len (by rfl) T.m_len (by decide +kernel) (dp_var 9)) (dp_of de_int) (nomark _)) (de_slV 8 do_none (do_some (de_callB cr_len cs_len (by rfl) T.m_len (by decide +kernel) (dp_var 9)))) (de_frz (df_lst (da_cons de_int da_nil)))) sc_law.nd)
  (dss_cons (ds_set 9 (de_if (dt_cmp op_gt os_gt (de_callB cr_len cs_len (by rfl) T.m_len (by decide +kernel) (dp_var 9)) (dp_of de_int) (nomark _)) (de_var 9) (de_frz (df_lst (da_cons de_int da_nil)))) sc_law.nd)
  (dss_cons (ds_setLc 10 (own := [("at", 13)]) sc_law.nd rfl (di_any (de_var 8)) (blkOk_by (N := N_law) (sc := defScope s_law) (by decide +kernel)) (fun _ _ _ _ _ => ⟨_, (dg_name 13 (by exact sc_law.nd))⟩) (fun _ _ _ _ _ => ⟨_, dts_nil⟩) (fun _ _ _ _ _ => ⟨_, (de_tup (da_cons (de_var 13) (da_cons (de_bin op_sub os_sub de_int (dp_var 13)) da_nil)))⟩))
  (dss_cons (ds_setLc 11 (own := [("at", 13)]) sc_law.nd rfl (di_any (de_var 9)) (blkOk_by (N := N_law) (sc := defScope s_law) (by decide +kernel)) (fun _ _ _ _ _ => ⟨_, (dg_name 13 (by exact sc_law.nd))⟩) (fun _ _ _ _ _ => ⟨_, dts_nil⟩) (fun _ _ _ _ _ => ⟨_, (de_tup (da_cons (de_bin op_addA os_add (de_binV 13 op_addA os_add (dp_of de_int)) (dp_of (de_callT call_int1 cs_int (by rfl) T.m_int (by decide +kernel) (dp_of (de_cmpV 2 (op_eqD hr.units) os_eq (dp_of de_int) (nomark _)))))) (da_cons (de_bin op_sub os_sub de_int (dp_var 13)) da_nil)))⟩))
  (dss_cons (ds_if (dt_not (dt_val (de_call (okk_law_is T 9) (hr.mono (by decide)) (by rfl) T.g_law_is T.F_law_is.kp T.b_law_is pass0 (da_cons (de_call (ok_unmet_paths T) (hr.mono (by decide)) (by rfl) T.g_unmet_paths T.F_unmet_paths.kp T.b_unmet_paths pass0 (da_cons (de_var 10) (da_cons (de_var 11) da_nil))) (da_cons (de_call (ok_law_unmet T) (hr.mono (by decide)) (by rfl) T.g_law_unmet T.F_law_unmet.kp T.b_law_unmet pass0 (da_cons (de_var 10) (da_cons (de_var 11) da_nil))) da_nil))))) (dss_one (ds_ret de_bl)) dss_nil)
  (dss_cons (ds_setLc 12 (own := [("x", 14), ("y", 15)]) sc_law.nd rfl (di_any (de_var 10)) (blkOk_by (N := N_law) (sc := defScope s_law) (by decide +kernel)) (fun _ _ _ _ _ => ⟨_, (dg_tup (by rfl) (dgs_cons (dg_name 14 (by exact sc_law.nd)) (dgs_cons (dg_name 15 (by exact sc_law.nd)) dgs_nil)))⟩) (fun _ _ _ _ _ => ⟨_, dts_nil⟩) (fun _ _ _ _ _ => ⟨_, (de_tup (da_cons (de_binV 14 op_addA os_add (dp_of de_int)) (da_cons (de_binV 15 op_sub os_sub (dp_of de_int)) da_nil)))⟩))
  (dss_one (ds_if (dt_cmp (op_neD hr.units) os_ne (de_call (ok_unmet_paths T) (hr.mono (by decide)) (by rfl) T.g_unmet_paths T.F_unmet_paths.kp T.b_unmet_paths pass0 (da_cons (de_var 12) (da_cons (de_frz (df_comp (own := [("x", 14), ("y", 15)]) (by rfl) (by exact sc_law.nd) (di_any (de_var 11)) (blkOk_by (N := N_law) (sc := defScope s_law) (by decide +kernel)) (fun _ _ _ _ _ => ⟨_, (dg_tup (by rfl) (dgs_cons (dg_name 14 (by exact sc_law.nd)) (dgs_cons (dg_name 15 (by exact sc_law.nd)) dgs_nil)))⟩) (fun _ _ _ _ _ => ⟨_, dts_nil⟩) (fun _ _ _ _ _ => ⟨_, (de_tup (da_cons (de_binV 14 op_addA os_add (dp_of de_int)) (da_cons (de_binV 15 op_sub os_sub (dp_of de_int)) da_nil)))⟩))) da_nil))) (dp_of (de_call (ok_unmet_paths T) (hr.mono (by decide)) (by rfl) T.g_unmet_paths T.F_unmet_paths.kp T.b_unmet_paths pass0 (da_cons (de_var 10) (da_cons (de_var 11) da_nil)))) (nomark _)) (dss_one (ds_ret de_bl)) dss_nil)))))))))))))))))
  (dss_cons (ds_if (dt_cmp (op_neD hr.units) os_ne (de_call (ok_unmet_paths T) (hr.mono (by decide)) (by rfl) T.g_unmet_paths T.F_unmet_paths.kp T.b_unmet_paths pass0 (da_cons (de_frz (df_lst (da_cons (de_tup (da_cons de_int (da_cons de_int da_nil))) (da_cons (de_tup (da_cons de_int (da_cons (de_neg de_int) da_nil))) da_nil)))) (da_cons (de_frz (df_lst (da_cons (de_tup (da_cons de_int (da_cons de_int da_nil))) (da_cons (de_tup (da_cons de_int (da_cons de_int da_nil))) da_nil)))) da_nil))) (dp_of de_int) (nomark _)) (dss_one (ds_ret de_bl)) dss_nil)
  (dss_one (ds_ret (de_and (de_cmp (op_eqD hr.units) os_eq (de_frz (df_call (ok_all_paths T) (hr.mono (by decide)) (by rfl) T.g_all_paths T.F_all_paths.kp T.b_all_paths pass0 (da_cons (de_tup (da_cons de_int (da_cons de_int da_nil))) (da_cons (de_tup (da_cons de_int (da_cons de_int da_nil))) da_nil)))) (dp_of (de_frz (df_lst (da_cons (de_tup (da_cons (de_tup (da_cons de_int (da_cons de_int da_nil))) da_nil)) da_nil)))) (nomark _)) (de_one (de_cmp (op_eqD hr.units) os_eq (de_frz (df_call (ok_all_paths T) (hr.mono (by decide)) (by rfl) T.g_all_paths T.F_all_paths.kp T.b_all_paths pass0 (da_cons (de_tup (da_cons de_int (da_cons de_int da_nil))) (da_cons (de_tup (da_cons de_int (da_cons de_int da_nil))) da_nil)))) (dp_of (de_frz (df_lst (da_cons (de_tup (da_cons (de_tup (da_cons de_int (da_cons de_int da_nil))) (da_cons (de_tup (da_cons de_int (da_cons de_int da_nil))) da_nil))) da_nil)))) (nomark _)))))))))⟩
end

theorem ge_len (n : Nat) : (1 : Nat) ≤ n ↔ (0 : Int) < n := by omega
def encN (n : Nat) : Dt := .int (n : Nat)
def lstN (a : List Nat) : Dt := .list (a.map encN)
theorem cut_take (a : List Nat) (k : Nat) : cutD (a.map encN) none (some (k : Int)) = (a.take k).map encN := by
  rw [cutD_map, cutG_to]
theorem pair_none {a b : List Nat} (h : ¬ 0 < (b.take (a.take 3).length).length) : pairOf a b = ([0], [1]) := by
  unfold pairOf
  rw [if_neg h]
theorem pair_some {a b : List Nat} (h : 0 < (b.take (a.take 3).length).length) : pairOf a b = ((a.take 3).take (b.take (a.take 3).length).length, b.take (a.take 3).length) := by
  unfold pairOf
  rw [if_pos h]
theorem wP12 {a b : List Nat} {a0 a1 a2 a3 a4 a5 a6 a7 a10 a11 a12 a13 a14 a15 : Sl} {R : Dt → En → Prop} (k : R (lstN (pairOf a b).1) [a0, a1, a2, a3, a4, a5, a6, a7, .sh (lstN (a.take 3)), .sh (lstN (b.take (a.take 3).length)), a10, a11, a12, a13, a14, a15]) :
    wIfE (wTB (wBin gGt (wC1 gLen (wPeek 9)) (wC (.int 0)))) (wSlV 8 wONone (wOSome (wC1 gLen (wPeek 9)))) (wFrz (wLst (wACons (wC (.int 0)) wANil))) [a0, a1, a2, a3, a4, a5, a6, a7, .sh (lstN (a.take 3)), .sh (lstN (b.take (a.take 3).length)), a10, a11, a12, a13, a14, a15] R := by
  refine ite2 (fun c => ?_) (fun c => ?_)
  · have c : (0 : Int) < (((b.take (a.take 3).length).map encN).length : Nat) := of_decide_eq_true c
    rw [List.length_map] at c
    rw [pair_some (by omega)] at k
    show R (.list (cutD ((a.take 3).map encN) none (some (((b.take (a.take 3).length).map encN).length : Nat)))) _
    rw [List.length_map, cut_take]
    exact k
  · have c : ¬ (0 : Int) < (((b.take (a.take 3).length).map encN).length : Nat) := fun q => c (decide_eq_true q)
    rw [List.length_map] at c
    rw [pair_none (by omega)] at k
    exact ⟨ln rfl, k⟩
theorem wP13 {a b : List Nat} {a0 a1 a2 a3 a4 a5 a6 a7 a8 a10 a11 a12 a13 a14 a15 : Sl} {R : Dt → En → Prop} (k : R (lstN (pairOf a b).2) [a0, a1, a2, a3, a4, a5, a6, a7, a8, .sh (lstN (b.take (a.take 3).length)), a10, a11, a12, a13, a14, a15]) :
    wIfE (wTB (wBin gGt (wC1 gLen (wPeek 9)) (wC (.int 0)))) (wVar 9) (wFrz (wLst (wACons (wC (.int 1)) wANil))) [a0, a1, a2, a3, a4, a5, a6, a7, a8, .sh (lstN (b.take (a.take 3).length)), a10, a11, a12, a13, a14, a15] R := by
  refine ite2 (fun c => ?_) (fun c => ?_)
  · have c : (0 : Int) < (((b.take (a.take 3).length).map encN).length : Nat) := of_decide_eq_true c
    rw [List.length_map] at c
    rw [pair_some (by omega)] at k
    exact k
  · have c : ¬ (0 : Int) < (((b.take (a.take 3).length).map encN).length : Nat) := fun q => c (decide_eq_true q)
    rw [List.length_map] at c
    rw [pair_none (by omega)] at k
    exact ⟨ln rfl, k⟩
theorem subs_len : ∀ i < 4, ∀ L ∈ subsL i, L.length ≤ 4 := by decide +kernel
/-- some places, drawn -/
theorem wPick {a0 a2 a3 a4 a5 a6 a7 a8 a9 a10 a11 a12 a14 a15 : Sl} {R : Dt → En → Prop} (k : ∀ L ∈ subsL 4, R (lstN L) [a0, .hnd, a2, a3, a4, a5, a6, a7, a8, a9, a10, a11, a12, .no, a14, a15]) :
    wFrz (wComp (wIR1 (wC (.int 4))) (wgName 13) (wTB (wBin gEq (wCallH 1 ar_law_draw pr_law_draw po_law_draw (wACons (wC (.int 2)) wANil)) (wC (.int 0)))) (wVar 13) [13]) [a0, .hnd, a2, a3, a4, a5, a6, a7, a8, a9, a10, a11, a12, .no, a14, a15] R := by
  refine ⟨⟨by decide, by decide⟩, fun i acc e => ∃ L ∈ subsL i, acc = L.map encN ∧ e = [a0, .hnd, a2, a3, a4, a5, a6, a7, a8, a9, a10, a11, a12, .no, a14, a15], ⟨[], by decide, rfl, rfl⟩, fun i d acc e hd hI => ?_, fun acc e hI => ?_⟩
  · obtain ⟨L, hL, rfl, rfl⟩ := hI
    obtain ⟨hi, rfl⟩ := rgD1_get hd
    have hi : i < 4 := hi
    have ll := subs_len i hi L hL
    refine ⟨trivial, trivial, 2, rfl, ⟨by decide, by decide⟩, fun d hd => ?_⟩
    obtain ⟨x, rfl, x0, x1⟩ := hd
    refine ⟨⟨shaped_int _, shaped_int _⟩, ite2 (fun _ => ?_) (fun _ => ?_)⟩
    · refine ⟨?_, L ++ [i], ?_, ?_, rfl⟩
      · rw [List.length_map]
        exact Nat.lt_of_lt_of_le (by omega : _ < 1000000) line_ge
      · exact List.mem_append_right _ (List.mem_map.mpr ⟨L, hL, rfl⟩)
      · rw [List.map_append]
        rfl
    · exact ⟨L, List.mem_append_left _ hL, rfl, rfl⟩
  · obtain ⟨L, hL, rfl, rfl⟩ := hI
    exact k L hL
abbrev wPk : WE := wFrz (wComp (wIR1 (wC (.int 4))) (wgName 13) (wTB (wBin gEq (wCallH 1 ar_law_draw pr_law_draw po_law_draw (wACons (wC (.int 2)) wANil)) (wC (.int 0)))) (wVar 13) [13])
theorem cut_st {a : List Nat} {k : Nat} {R : Dt → En → Prop} {env : En} (h : R (lstN (a.take k)) env) : gSl (lstN a) none (some (k : Int)) (fun d' => R d' env) := by
  show R (.list (cutD (a.map encN) none (some (k : Int)))) env
  rw [cut_take]
  exact h
theorem wPick3 {a0 a2 a3 a4 a5 a6 a7 a8 a9 a10 a11 a12 a14 a15 : Sl} {R : Dt → En → Prop} (k : ∀ L ∈ subsL 4, R (lstN (L.take 3)) [a0, .hnd, a2, a3, a4, a5, a6, a7, a8, a9, a10, a11, a12, .no, a14, a15]) :
    wSl wPk wONone (wOSome (wC (.int 3))) [a0, .hnd, a2, a3, a4, a5, a6, a7, a8, a9, a10, a11, a12, .no, a14, a15] R := by
  refine e_sl (wPick fun L hL => ?_)
  exact cut_st (k := 3) (k L hL)
theorem wPickN {a0 a2 a3 a4 a5 a6 a7 a9 a10 a11 a12 a14 a15 : Sl} {p : List Nat} {R : Dt → En → Prop} (k : ∀ L ∈ subsL 4, R (lstN (L.take p.length)) [a0, .hnd, a2, a3, a4, a5, a6, a7, .sh (lstN p), a9, a10, a11, a12, .no, a14, a15]) :
    wSl wPk wONone (wOSome (wC1 gLen (wPeek 8))) [a0, .hnd, a2, a3, a4, a5, a6, a7, .sh (lstN p), a9, a10, a11, a12, .no, a14, a15] R := by
  refine e_sl (wPick fun L hL => ?_)
  have z : gSl (lstN L) none (some (((p.map encN).length : Nat) : Int)) (fun d' => R d' [a0, .hnd, a2, a3, a4, a5, a6, a7, .sh (lstN p), a9, a10, a11, a12, .no, a14, a15]) := by
    rw [List.length_map]
    exact cut_st (k L hL)
  exact z
end Lw

namespace Lw
open PySem L2 DL
theorem lined_ways {ws : List Way} (h : ws.length ≤ 1000000) (h2 : ∀ w ∈ ws, w.length ≤ 1000000) : Lined (.list (ws.map encW)) :=
  .list (by rw [List.length_map]; exact h) (Lined.map fun w hw => .tuple (by rw [List.length_map]; exact h2 w hw) (Lined.map fun p _ => .tuple (by show 2 ≤ 1000000; decide) fun d hd => by
    rcases List.mem_cons.mp hd with rfl | hd
    · exact .int _
    · rw [List.mem_singleton.mp hd]
      exact .int _))
theorem int_is (n : Int) : pr_law_is 9 (.int n) := ⟨by simp [PyData.depth], shaped_int n, .int n⟩
theorem ways_is {s e : Pt} (h : e.1 - s.1 + e.2 - s.2 ≤ 6) : pr_law_is 9 (.list (sortD ((lawM s e).map encW))) := by
  rw [sortD_map]
  obtain ⟨f1, f2⟩ := iterL_facts s e (e.1 - s.1 + e.2 - s.2).toNat
  have hp : (((lawM s e).mergeSort (leE encW))).Perm (lawM s e) := List.mergeSort_perm _ _
  refine ⟨Nat.lt_of_le_of_lt (okWs.dep _) (by decide), okWs_sh _, lined_ways ?_ fun w hw => ?_⟩
  · rw [hp.length_eq]
    exact Nat.le_trans f1 (Nat.le_trans (Nat.pow_le_pow_right (by decide) (by omega : _ ≤ 6)) (by decide))
  · have := (f2 w (hp.mem_iff.mp hw)).2
    omega
theorem one_num {a b c d : Nat} (ha : a < 4) (hb : b < 4) (hc : c < 4) (hd : d < 4) :
    ((lawM ((a : Int), (b : Int)) ((a : Int) + (c : Int), (b : Int) + (d : Int))).length : Int) = prodM ((c : Int) + (d : Int)) d ∧ detO (rowsM ([((a : Int), (b : Int))], [((a : Int) + (c : Int), (b : Int) + (d : Int))])) = some ((lawM ((a : Int), (b : Int)) ((a : Int) + (c : Int), (b : Int) + (d : Int))).length : Int) := by
  have h := List.all_eq_true.mp (List.all_eq_true.mp (List.all_eq_true.mp (List.all_eq_true.mp ones_ok a (List.mem_range.mpr ha)) b (List.mem_range.mpr hb)) c (List.mem_range.mpr hc)) d (List.mem_range.mpr hd)
  unfold okOne at h
  simp only [Bool.and_eq_true, decide_eq_true_eq, beq_iff_eq] at h
  exact h
theorem okN_facts {ps gs : List Nat} {t : Int} (h : okN ps gs t = true) : pr_law_unmet (startsM ps, endsM gs t) ∧ detO (rowsM (startsM ps, endsM gs t)) = some ((unmetF ((startsM ps).zip (endsM gs t))).length : Int) := by
  unfold okN at h
  simp only [Bool.and_eq_true, decide_eq_true_eq, beq_iff_eq] at h
  obtain ⟨⟨h1, h2⟩, h3⟩ := h
  have h2 : ∀ p ∈ (startsM ps).zip (endsM gs t), ((p.2.1 - p.1.1 + p.2.2 - p.1.2 ≤ 20 ∧ -1000 ≤ p.2.1 - p.1.1 + p.2.2 - p.1.2) ∧ (lawM p.1 p.2).length ≤ 100) ∧ (pathsU p.1 p.2).all (fun w => w.all inR) = true := fun p hp => by
    have := List.all_eq_true.mp h2 p hp
    simp only [Bool.and_eq_true, decide_eq_true_eq] at this
    exact this
  refine ⟨⟨h1, fun p hp => ⟨(h2 p hp).1.1, (h2 p hp).1.2⟩⟩, ?_⟩
  rw [h3, unmetF_cnt fun p hp => (h2 p hp).2]
theorem pair_num {z : List Nat × List Nat} (hz : z ∈ allPairs) {t : Int} (ht : t = 0 ∨ t = 1) : okN z.1 z.2 t = true := by
  have h := List.all_eq_true.mp pairs_ok z hz
  rw [Bool.and_eq_true] at h
  rcases ht with rfl | rfl
  · exact h.1
  · exact h.2
theorem pairs_small : ∀ z ∈ allPairs, (z.1.length ≤ 4 ∧ z.2.length ≤ 4) ∧ (∀ n ∈ z.1, n < 4) ∧ ∀ n ∈ z.2, n < 4 := by decide +kernel
def smallP (p : Pt) : Prop := -100 ≤ p.1 ∧ p.1 ≤ 100 ∧ -100 ≤ p.2 ∧ p.2 ≤ 100
theorem smallP.near {p : Pt} (h : smallP p) : nearP p := by
  obtain ⟨h1, h2, h3, h4⟩ := h
  exact ⟨by omega, by omega, by omega, by omega⟩
theorem near_starts {ps : List Nat} (h : ∀ n ∈ ps, n < 4) : ∀ p ∈ startsM ps, smallP p := fun p hp => by
  obtain ⟨n, hn, rfl⟩ := List.mem_map.mp hp
  have := h n hn
  exact ⟨by dsimp only; omega, by dsimp only; omega, by dsimp only; omega, by dsimp only; omega⟩
theorem near_ends {gs : List Nat} {t : Int} (h : ∀ n ∈ gs, n < 4) (ht : t = 0 ∨ t = 1) : ∀ p ∈ endsM gs t, smallP p := fun p hp => by
  obtain ⟨n, hn, rfl⟩ := List.mem_map.mp hp
  have := h n hn
  exact ⟨by dsimp only; omega, by dsimp only; omega, by dsimp only; omega, by dsimp only; omega⟩
def mvP (p : Pt) : Pt := (p.1 + 5, p.2 - 2)
theorem near_moved {ps : List Pt} (h : ∀ p ∈ ps, smallP p) : ∀ p ∈ ps.map mvP, nearP p := fun p hp => by
  obtain ⟨n, hn, rfl⟩ := List.mem_map.mp hp
  obtain ⟨h1, h2, h3, h4⟩ := h n hn
  unfold mvP
  exact ⟨by dsimp only; omega, by dsimp only; omega, by dsimp only; omega, by dsimp only; omega⟩
theorem rows_moved (ss es : List Pt) : rowsM (ss.map mvP, es.map mvP) = rowsM (ss, es) := by
  unfold rowsM
  dsimp only
  rw [List.map_map]
  refine List.map_congr_left fun p _ => ?_
  show (es.map mvP).map (entryM (mvP p)) = _
  rw [List.map_map]
  refine List.map_congr_left fun e _ => ?_
  show entryM (mvP p) (mvP e) = entryM p e
  unfold entryM mvP
  dsimp only
  rw [show (decide (p.1 + 5 ≤ e.1 + 5)) = decide (p.1 ≤ e.1) from decide_eq_decide.mpr (by omega), show (decide (p.2 - 2 ≤ e.2 - 2)) = decide (p.2 ≤ e.2) from decide_eq_decide.mpr (by omega),
    show e.1 + 5 - (p.1 + 5) + (e.2 - 2) - (p.2 - 2) = e.1 - p.1 + e.2 - p.2 by omega, show e.1 + 5 - (p.1 + 5) = e.1 - p.1 by omega]
theorem det_int {M : Mat} {v : Int} {d : Dt} (h : po_determinant M d) (e : detO M = some v) : d = .int v := by
  have h : (detO M).map PyData.int = some d := h
  rw [e] at h
  exact (Option.some.inj h).symm
theorem starts_data (ps : List Nat) : (ps.map fun n : Nat => encP ((n : Int), 0 - (n : Int))) = (startsM ps).map encP := by
  unfold startsM
  rw [List.map_map]
  rfl
theorem ends_data (gs : List Nat) (t : Int) : (gs.map fun n : Nat => encP ((n : Int) + 2 + t, 3 - (n : Int))) = (endsM gs t).map encP := by
  unfold endsM
  rw [List.map_map]
  rfl
theorem moved_data (ps : List Pt) : (ps.map fun p => encP (mvP p)) = (ps.map mvP).map encP := by
  rw [List.map_map]
  rfl
theorem int_eq {x y : Int} (h : x = y) : PyData.eqv (.int x) (.int y) = true := by rw [EncOk.int.eqD, decide_eq_true h]
theorem hw_law : ∀ z, prLaw z → w_law (endsR (poLaw z)) (startE ["script", "hand", "turn", "start", "end", "across", "down", "told", "places", "goals", "starts", "ends", "moved", "at", "x", "y"] (arLaw z)) := by
  intro ns hl
  refine ⟨ns, rfl, hl, fun hs hh => ⟨hh, ⟨by decide, by decide⟩, fun i env => ∃ a0 a2 a3 a4 a5 a6 a7 a8 a9 a10 a11 a12 : Sl, env = [a0, .hnd, a2, a3, a4, a5, a6, a7, a8, a9, a10, a11, a12, .no, .no, .no], ⟨_, _, _, _, _, _, _, _, _, _, _, _, rfl⟩, fun i d env hd hI => ?_, fun env hI => ?_⟩⟩
  · obtain ⟨a0, a2, a3, a4, a5, a6, a7, a8, a9, a10, a11, a12, rfl⟩ := hI
    obtain ⟨hi, rfl⟩ := rgD1_get hd
    refine ⟨trivial, trivial, 4, rfl, ⟨by decide, by decide⟩, fun d hd => ?_⟩
    obtain ⟨a, rfl, a0', a1'⟩ := hd
    obtain ⟨a, rfl⟩ := Int.eq_ofNat_of_zero_le a0'
    refine ⟨trivial, trivial, 4, rfl, ⟨by decide, by decide⟩, fun d hd => ?_⟩
    obtain ⟨b, rfl, b0, b1⟩ := hd
    obtain ⟨b, rfl⟩ := Int.eq_ofNat_of_zero_le b0
    refine ⟨ln rfl, trivial, trivial, 4, rfl, ⟨by decide, by decide⟩, fun d hd => ?_⟩
    obtain ⟨c, rfl, c0, c1⟩ := hd
    obtain ⟨c, rfl⟩ := Int.eq_ofNat_of_zero_le c0
    refine ⟨trivial, trivial, 4, rfl, ⟨by decide, by decide⟩, fun d hd => ?_⟩
    obtain ⟨d, rfl, d0, d1⟩ := hd
    obtain ⟨d, rfl⟩ := Int.eq_ofNat_of_zero_le d0
    obtain ⟨n1, n2⟩ := one_num (a := a) (b := b) (c := c) (d := d) (by omega) (by omega) (by omega) (by omega)
    obtain ⟨p1, p2⟩ := all_of (s := ((a : Int), (b : Int))) (e := ((a : Int) + (c : Int), (b : Int) + (d : Int))) (by dsimp only; omega) (by dsimp only; omega) (by dsimp only; omega)
    have sn : sane ((a : Int), (b : Int)) ((a : Int) + (c : Int), (b : Int) + (d : Int)) = true := by
      unfold sane
      rw [decide_eq_true (by omega), decide_eq_true (by omega)]
      rfl
    have pl : pr_law_paths (((a : Int), (b : Int)), ((a : Int) + (c : Int), (b : Int) + (d : Int))) := ⟨by dsimp only; omega, by dsimp only; omega⟩
    have wi := ways_is (s := ((a : Int), (b : Int))) (e := ((a : Int) + (c : Int), (b : Int) + (d : Int))) (by dsimp only; omega)
    have hrows : pr_unmet_paths ([((a : Int), (b : Int))], [((a : Int) + (c : Int), (b : Int) + (d : Int))]) := ⟨by show 1 ≤ 1000; decide, by show 1 ≤ 1000; decide, fun p hp => by rw [List.mem_singleton.mp hp]; exact ⟨by dsimp only; omega, by dsimp only; omega, by dsimp only; omega, by dsimp only; omega⟩, fun p hp => by rw [List.mem_singleton.mp hp]; exact ⟨by dsimp only; omega, by dsimp only; omega, by dsimp only; omega, by dsimp only; omega⟩, _, n2⟩
    refine ⟨ln rfl, (((a : Int), (b : Int)), ((a : Int) + (c : Int), (b : Int) + (d : Int))), rfl, p1, fun told ht => ?_⟩
    rw [show told = sortD ((lawM ((a : Int), (b : Int)) ((a : Int) + (c : Int), (b : Int) + (d : Int))).map encW) from (show told = sortD ((allM _ _).map encW) from ht).trans (okW.sort_perm p2)]
    generalize hL : lawM ((a : Int), (b : Int)) ((a : Int) + (c : Int), (b : Int) + (d : Int)) = L at n1 n2 wi p2
    have lenL : ((sortD (L.map encW)).length : Int) = prodM ((c : Int) + (d : Int)) d := by
      rw [sortD_len, List.length_map]
      exact n1
    have okL : SortOk (sortD (L.map encW)) := by
      refine sortOk_perm (sortD_perm _) ?_
      obtain ⟨f1, f2⟩ := iterL_facts ((a : Int), (b : Int)) ((a : Int) + (c : Int), (b : Int) + (d : Int)) (((a : Int) + (c : Int), (b : Int) + (d : Int)).1 - ((a : Int), (b : Int)).1 + ((a : Int) + (c : Int), (b : Int) + (d : Int)).2 - ((a : Int), (b : Int)).2).toNat
      have f1 : (lawM ((a : Int), (b : Int)) ((a : Int) + (c : Int), (b : Int) + (d : Int))).length ≤ _ := f1
      have f2 : ∀ w ∈ lawM ((a : Int), (b : Int)) ((a : Int) + (c : Int), (b : Int) + (d : Int)), _ := f2
      rw [hL] at f1 f2
      refine okW.sortOk (by decide) (Nat.le_trans f1 (Nat.le_trans (Nat.pow_le_pow_right (by decide) (by dsimp only; omega : _ ≤ 20)) (Nat.le_trans (by decide) sizeLine_big))) (.inl fun w hw => ?_)
      obtain ⟨v, p, rfl, -⟩ := ways_end (f2 w hw).1
      cases v with
      | nil => exact ⟨_, _, rfl⟩
      | cons a b => exact ⟨_, _, rfl⟩
    refine ⟨okL, (((a : Int), (b : Int)), ((a : Int) + (c : Int), (b : Int) + (d : Int))), rfl, pl, fun ds2 h2 => ?_⟩
    have h2 : ds2 = sortD (L.map encW) := by
      have h2 : ds2 = if sane ((a : Int), (b : Int)) ((a : Int) + (c : Int), (b : Int) + (d : Int)) then sortD ((lawM ((a : Int), (b : Int)) ((a : Int) + (c : Int), (b : Int) + (d : Int))).map encW) else [] := h2
      rw [h2, if_pos sn, hL]
    subst h2
    refine ⟨.list (sortD (L.map encW)), by rw [sortD_idem]; rfl, wi, fun d hd => ?_⟩
    cases hd
    refine ⟨((c : Int) + (d : Int), (d : Int)), ?_, ⟨by dsimp only; omega, by dsimp only; omega, by dsimp only; omega, by dsimp only; omega⟩, fun dd hd => ?_⟩
    · show [PyData.int (((a : Int) + c - a) + ((b : Int) + d - b)), PyData.int ((b : Int) + d - b)] = [.int ((c : Int) + d), .int (d : Int)]
      rw [show ((a : Int) + c - a) + ((b : Int) + d - b) = (c : Int) + d by omega, show (b : Int) + d - b = (d : Int) by omega]
    have hd : dd = .int (prodM ((c : Int) + (d : Int)) d) := hd
    subst hd
    refine ⟨⟨shaped_int _, shaped_int _⟩, ite2 (fun q => ?_) (fun _ => ?_)⟩
    · have q : (!PyData.eqv (.int ((sortD (L.map encW)).length : Nat)) (.int (prodM ((c : Int) + (d : Int)) d))) = true := q
      rw [int_eq lenL] at q
      cases q
    refine ⟨ln rfl, ln rfl, ([((a : Int), (b : Int))], [((a : Int) + (c : Int), (b : Int) + (d : Int))]), rfl, hrows, fun dd hd => ?_⟩
    have hd : dd = .int ((L.length : Nat) : Int) := det_int hd n2
    subst hd
    refine ⟨.int ((L.length : Nat) : Int), ?_, int_is _, fun dd hd => ?_⟩
    · show [PyData.int ((L.length : Nat) : Int), PyData.int ((sortD (L.map encW)).length : Nat)] = [_, _]
      rw [sortD_len, List.length_map]
    cases hd
    refine ite2 (fun q => by cases q) (fun _ => ?_)
    refine st_next (st_set (wPick3 fun L1 hL1 => ?_))
    refine st_set (wPickN (p := L1.take 3) fun L2 hL2 => ?_)
    refine st_set (wP12 (a := L1) (b := L2) ?_)
    refine st_set (wP13 (a := L1) (b := L2) ?_)
    have hz := pairs_in L1 hL1 L2 hL2
    generalize pairOf L1 L2 = z at hz
    obtain ⟨ps, gs⟩ := z
    obtain ⟨⟨z1, z2⟩, z3, z4⟩ := pairs_small _ hz
    have z1 : ps.length ≤ 4 := z1
    have z2 : gs.length ≤ 4 := z2
    obtain ⟨t, ht, et⟩ : ∃ t : Int, (t = 0 ∨ t = 1) ∧ (if PyData.eqv (.int (i : Nat)) (.int 1) = true then (1 : Int) else 0) = t := by
      by_cases c : PyData.eqv (.int (i : Nat)) (.int 1) = true
      · exact ⟨1, .inr rfl, if_pos c⟩
      · exact ⟨0, .inl rfl, if_neg c⟩
    obtain ⟨q1, q2⟩ := okN_facts (pair_num hz ht)
    have np := near_starts z3
    have ne := near_ends z4 ht
    have ls : (startsM ps).length = ps.length := List.length_map ..
    have le : (endsM gs t).length = gs.length := List.length_map ..
    have prU : pr_unmet_paths (startsM ps, endsM gs t) := ⟨by dsimp only; omega, by dsimp only; omega, fun p hp => (np p hp).near, fun p hp => (ne p hp).near, _, q2⟩
    have prM : pr_unmet_paths ((startsM ps).map mvP, (endsM gs t).map mvP) := ⟨by dsimp only; rw [List.length_map]; omega, by dsimp only; rw [List.length_map]; omega, near_moved np, near_moved ne, _, by rw [rows_moved]; exact q2⟩
    refine st_setF ?_
    refine comp_map (xs := ps) (enc := encN) (f := fun n : Nat => encP ((n : Int), 0 - (n : Int))) rfl (Nat.le_trans (by omega) line_ge) (fun j n hn Q q => ⟨ln rfl, q _ rfl⟩) ?_
    rw [starts_data]
    refine st_setF ?_
    refine comp_map (xs := gs) (enc := encN) (f := fun n : Nat => encP ((n : Int) + 2 + t, 3 - (n : Int))) rfl (Nat.le_trans (by omega) line_ge) (fun j n hn Q q => ⟨⟨shaped_int _, shaped_int _⟩, ln rfl, ?_⟩) ?_
    · subst et
      exact q _ rfl
    rw [ends_data]
    generalize hv : ((unmetF ((startsM ps).zip (endsM gs t))).length : Int) = v at q2
    refine ⟨(startsM ps, endsM gs t), rfl, prU, fun dd hd => ?_⟩
    have hd : dd = .int v := det_int hd q2
    subst hd
    refine ⟨(startsM ps, endsM gs t), rfl, q1, fun dd hd => ?_⟩
    have hd : dd = .int ((unmetF ((startsM ps).zip (endsM gs t))).length : Nat) := hd
    rw [hv] at hd
    subst hd
    refine ⟨.int v, rfl, int_is _, fun dd hd => ?_⟩
    cases hd
    refine ite2 (fun q => by cases q) (fun _ => ?_)
    refine st_next ?_
    dsimp only
    refine st_setF ?_
    refine comp_map (xs := startsM ps) (enc := encP) (f := fun p => encP (mvP p)) rfl (Nat.le_trans (by omega) line_ge) (fun j n hn Q q => ⟨rfl, ln rfl, q _ rfl⟩) ?_
    rw [moved_data]
    show wBin gNe _ _ _ _
    refine comp_map (xs := endsM gs t) (enc := encP) (f := fun p => encP (mvP p)) rfl (Nat.le_trans (by omega) line_ge) (fun j n hn Q q => ⟨rfl, ln rfl, q _ rfl⟩) ?_
    rw [moved_data]
    refine ⟨((startsM ps).map mvP, (endsM gs t).map mvP), rfl, prM, fun dd hd => ?_⟩
    have hd : dd = .int v := det_int hd (by rw [rows_moved]; exact q2)
    subst hd
    refine ⟨(startsM ps, endsM gs t), rfl, prU, fun dd hd => ?_⟩
    have hd : dd = .int v := det_int hd q2
    subst hd
    refine ⟨⟨shaped_int _, shaped_int _⟩, ite2 (fun q => ?_) (fun _ => ?_)⟩
    · have q : (!PyData.eqv (.int v) (.int v)) = true := q
      rw [int_eq rfl] at q
      cases q
    · exact ⟨_, _, _, _, _, _, _, _, _, _, _, _, rfl⟩
  · obtain ⟨a0, a2, a3, a4, a5, a6, a7, a8, a9, a10, a11, a12, rfl⟩ := hI
    have n1 : ∀ p ∈ [((0 : Int), (0 : Int)), (1, -1)], nearP p := fun p hp => by
      rcases List.mem_cons.mp hp with rfl | hp
      · exact ⟨by decide, by decide, by decide, by decide⟩
      · rw [List.mem_singleton.mp hp]
        exact ⟨by decide, by decide, by decide, by decide⟩
    have n2 : ∀ p ∈ [((1 : Int), (1 : Int)), (2, 0)], nearP p := fun p hp => by
      rcases List.mem_cons.mp hp with rfl | hp
      · exact ⟨by decide, by decide, by decide, by decide⟩
      · rw [List.mem_singleton.mp hp]
        exact ⟨by decide, by decide, by decide, by decide⟩
    refine ⟨ln rfl, ln rfl, ln rfl, ln rfl, ln rfl, ln rfl, ([((0 : Int), (0 : Int)), (1, -1)], [((1 : Int), (1 : Int)), (2, 0)]), rfl, ⟨by decide, by decide, n1, n2, _, three_ok⟩, fun dd hd => ?_⟩
    have hd : dd = .int 3 := det_int hd three_ok
    subst hd
    refine ⟨⟨shaped_int _, shaped_int _⟩, ite2 (fun q => ?_) (fun _ => ?_)⟩
    · have q : (!PyData.eqv (.int 3) (.int 3)) = true := q
      rw [int_eq rfl] at q
      cases q
    have one : ∀ (s e : Pt) (w : Way) (ds : List Dt), (allM s e).Perm (lawM s e) → lawM s e = [w] → po_all_paths (s, e) ds → ds = [w].map encW := fun s e w ds hp hw hd => by
      have hd : ds = sortD ((allM s e).map encW) := hd
      rw [hw] at hp
      rw [hd, List.perm_singleton.mp hp]
      exact List.mergeSort_singleton _
    obtain ⟨p1, p2⟩ := all_of (s := ((0 : Int), (0 : Int))) (e := ((0 : Int), (0 : Int))) (by decide) (by decide) (by decide)
    obtain ⟨p3, p4⟩ := all_of (s := ((0 : Int), (0 : Int))) (e := ((1 : Int), (0 : Int))) (by decide) (by decide) (by decide)
    refine ⟨ln rfl, ln rfl, (((0 : Int), (0 : Int)), ((0 : Int), (0 : Int))), rfl, p1, fun ds hd => ?_⟩
    rw [one _ _ [(0, 0)] ds p2 (by decide +kernel) hd]
    refine ⟨ln rfl, ln rfl, ln rfl, ⟨okWs_sh _, okWs_sh [[(0, 0)]]⟩, ?_⟩
    have z : PyData.eqv (.list ([[((0 : Int), (0 : Int))]].map encW)) (.list ([[((0 : Int), (0 : Int))]].map encW)) = true := shaped_eqv (okWs_sh _)
    show (match PyData.bool (PyData.eqv (.list ([[((0 : Int), (0 : Int))]].map encW)) (.list ([[((0 : Int), (0 : Int))]].map encW))) with | .bool true => _ | .bool false => PyData.bool false = .bool true | _ => False)
    rw [z]
    refine ⟨ln rfl, ln rfl, (((0 : Int), (0 : Int)), ((1 : Int), (0 : Int))), rfl, p3, fun ds hd => ?_⟩
    rw [one _ _ [(0, 0), (1, 0)] ds p4 (by decide +kernel) hd]
    refine ⟨ln rfl, ln rfl, ln rfl, ln rfl, ⟨okWs_sh _, okWs_sh [[(0, 0), (1, 0)]]⟩, ?_⟩
    have z : PyData.eqv (.list ([[((0 : Int), (0 : Int)), (1, 0)]].map encW)) (.list ([[((0 : Int), (0 : Int)), (1, 0)]].map encW)) = true := shaped_eqv (okWs_sh _)
    show PyData.bool (PyData.eqv (.list ([[((0 : Int), (0 : Int)), (1, 0)]].map encW)) (.list ([[((0 : Int), (0 : Int)), (1, 0)]].map encW))) = .bool true
    rw [z]
theorem ok_law {P : Program} {wd : World} {K : PySem.W.Frag} {mg : Str → Option Value} {base : Heap} {A : Fs} (T : Txt K mg A) : FnOk P wd K mg base CX0 11 A.a_law A.d_law ["script"] (spR K ar_law pr_law po_law) :=
  dfn T.F_law sc_law (fun _ => rfl) (by decide) (dv_law T) hw_law

end Lw

namespace Lw
open PySem L2 DL
theorem all_mk {l : PySem.W.OpenLaw} {w : World} {K : PySem.W.Frag} {h : Heap} {mg : Str → Option Value} {fa f_determinant f_choose f_unmet_paths f_all_paths f_law_hand f_law_draw f_law_is f_law_paths f_law_unmet f_law_chosen f_law : Addr} (X : K.In h) (G : h.Ns mainGlobals mg) (hfa : mg "law" = some (.ref fa))
    {od_determinant an_determinant od_choose an_choose od_unmet_paths an_unmet_paths od_all_paths an_all_paths od_law_hand an_law_hand od_law_draw an_law_draw od_law_is an_law_is od_law_paths an_law_paths od_law_unmet an_law_unmet od_law_chosen an_law_chosen od_law an_law : Option Addr} {sl_determinant sl_choose sl_unmet_paths sl_all_paths sl_law_hand sl_law_draw sl_law_is sl_law_paths sl_law_unmet sl_law_chosen sl_law : Array (Option Value)} {oc_determinant kV_determinant dc_determinant pm_determinant cd_determinant ct_determinant oc_choose kV_choose dc_choose pm_choose cd_choose ct_choose oc_unmet_paths kV_unmet_paths dc_unmet_paths pm_unmet_paths cd_unmet_paths ct_unmet_paths oc_all_paths kV_all_paths dc_all_paths pm_all_paths cd_all_paths ct_all_paths oc_law_hand kV_law_hand dc_law_hand pm_law_hand cd_law_hand ct_law_hand oc_law_draw kV_law_draw dc_law_draw pm_law_draw cd_law_draw ct_law_draw oc_law_is kV_law_is dc_law_is pm_law_is cd_law_is ct_law_is oc_law_paths kV_law_paths dc_law_paths pm_law_paths cd_law_paths ct_law_paths oc_law_unmet kV_law_unmet dc_law_unmet pm_law_unmet cd_law_unmet ct_law_unmet oc_law_chosen kV_law_chosen dc_law_chosen pm_law_chosen cd_law_chosen ct_law_chosen oc_law kV_law dc_law pm_law cd_law ct_law : Value} {t_MOST_KEPT : Tok}
    (a_determinant : PySem.W.nsIn K mainGlobals "determinant" = some (some (.ref f_determinant))) (l_determinant : K.lookup f_determinant = some ⟨oc_determinant, od_determinant, .func (PySem.W.fnOf "determinant" "determinant" (defArgs s_determinant) (defBody s_determinant) (defScope s_determinant) .none kV_determinant dc_determinant pm_determinant an_determinant cd_determinant ct_determinant), sl_determinant⟩) (c_determinant : PySem.W.codeIn K cd_determinant "determinant" = true) (k_determinant : PySem.W.keepIn K (.ref f_determinant) = true)
    (a_choose : PySem.W.nsIn K mainGlobals "choose" = some (some (.ref f_choose))) (l_choose : K.lookup f_choose = some ⟨oc_choose, od_choose, .func (PySem.W.fnOf "choose" "choose" (defArgs s_choose) (defBody s_choose) (defScope s_choose) .none kV_choose dc_choose pm_choose an_choose cd_choose ct_choose), sl_choose⟩) (c_choose : PySem.W.codeIn K cd_choose "choose" = true) (k_choose : PySem.W.keepIn K (.ref f_choose) = true)
    (a_unmet_paths : PySem.W.nsIn K mainGlobals "unmet_paths" = some (some (.ref f_unmet_paths))) (l_unmet_paths : K.lookup f_unmet_paths = some ⟨oc_unmet_paths, od_unmet_paths, .func (PySem.W.fnOf "unmet_paths" "unmet_paths" (defArgs s_unmet_paths) (defBody s_unmet_paths) (defScope s_unmet_paths) .none kV_unmet_paths dc_unmet_paths pm_unmet_paths an_unmet_paths cd_unmet_paths ct_unmet_paths), sl_unmet_paths⟩) (c_unmet_paths : PySem.W.codeIn K cd_unmet_paths "unmet_paths" = true) (k_unmet_paths : PySem.W.keepIn K (.ref f_unmet_paths) = true)
    (a_all_paths : PySem.W.nsIn K mainGlobals "all_paths" = some (some (.ref f_all_paths))) (l_all_paths : K.lookup f_all_paths = some ⟨oc_all_paths, od_all_paths, .func (PySem.W.fnOf "all_paths" "all_paths" (defArgs s_all_paths) (defBody s_all_paths) (defScope s_all_paths) .none kV_all_paths dc_all_paths pm_all_paths an_all_paths cd_all_paths ct_all_paths), sl_all_paths⟩) (c_all_paths : PySem.W.codeIn K cd_all_paths "all_paths" = true) (k_all_paths : PySem.W.keepIn K (.ref f_all_paths) = true)
    (a_law_hand : PySem.W.nsIn K mainGlobals "_law_hand" = some (some (.ref f_law_hand))) (l_law_hand : K.lookup f_law_hand = some ⟨oc_law_hand, od_law_hand, .func (PySem.W.fnOf "_law_hand" "_law_hand" (defArgs s_law_hand) (defBody s_law_hand) (defScope s_law_hand) .none kV_law_hand dc_law_hand pm_law_hand an_law_hand cd_law_hand ct_law_hand), sl_law_hand⟩) (c_law_hand : PySem.W.codeIn K cd_law_hand "_law_hand" = true) (k_law_hand : PySem.W.keepIn K (.ref f_law_hand) = true)
    (a_law_draw : PySem.W.nsIn K mainGlobals "_law_draw" = some (some (.ref f_law_draw))) (l_law_draw : K.lookup f_law_draw = some ⟨oc_law_draw, od_law_draw, .func (PySem.W.fnOf "_law_draw" "_law_draw" (defArgs s_law_draw) (defBody s_law_draw) (defScope s_law_draw) .none kV_law_draw dc_law_draw pm_law_draw an_law_draw cd_law_draw ct_law_draw), sl_law_draw⟩) (c_law_draw : PySem.W.codeIn K cd_law_draw "_law_draw" = true) (k_law_draw : PySem.W.keepIn K (.ref f_law_draw) = true)
    (a_law_is : PySem.W.nsIn K mainGlobals "_law_is" = some (some (.ref f_law_is))) (l_law_is : K.lookup f_law_is = some ⟨oc_law_is, od_law_is, .func (PySem.W.fnOf "_law_is" "_law_is" (defArgs s_law_is) (defBody s_law_is) (defScope s_law_is) .none kV_law_is dc_law_is pm_law_is an_law_is cd_law_is ct_law_is), sl_law_is⟩) (c_law_is : PySem.W.codeIn K cd_law_is "_law_is" = true) (k_law_is : PySem.W.keepIn K (.ref f_law_is) = true)
    (a_law_paths : PySem.W.nsIn K mainGlobals "_law_paths" = some (some (.ref f_law_paths))) (l_law_paths : K.lookup f_law_paths = some ⟨oc_law_paths, od_law_paths, .func (PySem.W.fnOf "_law_paths" "_law_paths" (defArgs s_law_paths) (defBody s_law_paths) (defScope s_law_paths) .none kV_law_paths dc_law_paths pm_law_paths an_law_paths cd_law_paths ct_law_paths), sl_law_paths⟩) (c_law_paths : PySem.W.codeIn K cd_law_paths "_law_paths" = true) (k_law_paths : PySem.W.keepIn K (.ref f_law_paths) = true)
    (a_law_unmet : PySem.W.nsIn K mainGlobals "_law_unmet" = some (some (.ref f_law_unmet))) (l_law_unmet : K.lookup f_law_unmet = some ⟨oc_law_unmet, od_law_unmet, .func (PySem.W.fnOf "_law_unmet" "_law_unmet" (defArgs s_law_unmet) (defBody s_law_unmet) (defScope s_law_unmet) .none kV_law_unmet dc_law_unmet pm_law_unmet an_law_unmet cd_law_unmet ct_law_unmet), sl_law_unmet⟩) (c_law_unmet : PySem.W.codeIn K cd_law_unmet "_law_unmet" = true) (k_law_unmet : PySem.W.keepIn K (.ref f_law_unmet) = true)
    (a_law_chosen : PySem.W.nsIn K mainGlobals "_law_chosen" = some (some (.ref f_law_chosen))) (l_law_chosen : K.lookup f_law_chosen = some ⟨oc_law_chosen, od_law_chosen, .func (PySem.W.fnOf "_law_chosen" "_law_chosen" (defArgs s_law_chosen) (defBody s_law_chosen) (defScope s_law_chosen) .none kV_law_chosen dc_law_chosen pm_law_chosen an_law_chosen cd_law_chosen ct_law_chosen), sl_law_chosen⟩) (c_law_chosen : PySem.W.codeIn K cd_law_chosen "_law_chosen" = true) (k_law_chosen : PySem.W.keepIn K (.ref f_law_chosen) = true)
    (a_law : PySem.W.nsIn K mainGlobals "law" = some (some (.ref f_law))) (l_law : K.lookup f_law = some ⟨oc_law, od_law, .func (PySem.W.fnOf "law" "law" (defArgs s_law) (defBody s_law) (defScope s_law) .none kV_law dc_law pm_law an_law cd_law ct_law), sl_law⟩) (c_law : PySem.W.codeIn K cd_law "law" = true) (k_law : PySem.W.keepIn K (.ref f_law) = true)
    (z_len : PySem.W.nsIn K mainGlobals "len" = some none)
    (z_range : PySem.W.nsIn K mainGlobals "range" = some none)
    (z_list : PySem.W.nsIn K mainGlobals "list" = some none)
    (z_sorted : PySem.W.nsIn K mainGlobals "sorted" = some none)
    (z_abs : PySem.W.nsIn K mainGlobals "abs" = some none)
    (z_int : PySem.W.nsIn K mainGlobals "int" = some none)
    (z_isinstance : PySem.W.nsIn K mainGlobals "isinstance" = some none)
    (z_dict : PySem.W.nsIn K mainGlobals "dict" = some none)
    (z_bool : PySem.W.nsIn K mainGlobals "bool" = some none)
    (z_tuple : PySem.W.nsIn K mainGlobals "tuple" = some none)
    (z_all : PySem.W.nsIn K mainGlobals "all" = some none)
    (z_zip : PySem.W.nsIn K mainGlobals "zip" = some none)
    (z_any : PySem.W.nsIn K mainGlobals "any" = some none)
    (y_MOST_KEPT : PySem.W.nsIn K mainGlobals "MOST_KEPT" = some (some (.int 5000 t_MOST_KEPT)))
    : ∃ fd : FuncData, (∀ (s : Shared) (v : Value), BindsTo s fd ⟨[v], []⟩ [("script", v)]) ∧ ∀ base : Heap, K.In base → base.Ns mainGlobals mg → FnOk l.prog w K mg base CX0 11 fa fd ["script"] (spLaw K) := by
  have e := hfa.symm.trans (PySem.W.mg_of X G a_law)
  cases e
  have F_determinant := fun_mk (st := s_determinant) l_determinant c_determinant k_determinant
  have F_choose := fun_mk (st := s_choose) l_choose c_choose k_choose
  have F_unmet_paths := fun_mk (st := s_unmet_paths) l_unmet_paths c_unmet_paths k_unmet_paths
  have F_all_paths := fun_mk (st := s_all_paths) l_all_paths c_all_paths k_all_paths
  have F_law_hand := fun_mk (st := s_law_hand) l_law_hand c_law_hand k_law_hand
  have F_law_draw := fun_mk (st := s_law_draw) l_law_draw c_law_draw k_law_draw
  have F_law_is := fun_mk (st := s_law_is) l_law_is c_law_is k_law_is
  have F_law_paths := fun_mk (st := s_law_paths) l_law_paths c_law_paths k_law_paths
  have F_law_unmet := fun_mk (st := s_law_unmet) l_law_unmet c_law_unmet k_law_unmet
  have F_law_chosen := fun_mk (st := s_law_chosen) l_law_chosen c_law_chosen k_law_chosen
  have F_law := fun_mk (st := s_law) l_law c_law k_law
  have b_determinant := F_determinant.binds (ps := ["rows"]) fun _ _ _ _ _ _ us hl => match us, hl with | [_], _ => rfl
  have b_choose := F_choose.binds (ps := ["many", "few"]) fun _ _ _ _ _ _ us hl => match us, hl with | [_, _], _ => rfl
  have b_unmet_paths := F_unmet_paths.binds (ps := ["starts", "ends"]) fun _ _ _ _ _ _ us hl => match us, hl with | [_, _], _ => rfl
  have b_all_paths := F_all_paths.binds (ps := ["start", "end"]) fun _ _ _ _ _ _ us hl => match us, hl with | [_, _], _ => rfl
  have b_law_hand := F_law_hand.binds (ps := ["script"]) fun _ _ _ _ _ _ us hl => match us, hl with | [_], _ => rfl
  have b_law_draw := F_law_draw.binds (ps := ["hand", "sides"]) fun _ _ _ _ _ _ us hl => match us, hl with | [_, _], _ => rfl
  have b_law_is := F_law_is.binds (ps := ["one", "other"]) fun _ _ _ _ _ _ us hl => match us, hl with | [_, _], _ => rfl
  have b_law_paths := F_law_paths.binds (ps := ["start", "end"]) fun _ _ _ _ _ _ us hl => match us, hl with | [_, _], _ => rfl
  have b_law_unmet := F_law_unmet.binds (ps := ["starts", "ends"]) fun _ _ _ _ _ _ us hl => match us, hl with | [_, _], _ => rfl
  have b_law_chosen := F_law_chosen.binds (ps := ["many", "some"]) fun _ _ _ _ _ _ us hl => match us, hl with | [_, _], _ => rfl
  have b_law := F_law.binds (ps := ["script"]) fun _ _ _ _ _ _ us hl => match us, hl with | [_], _ => rfl
  have T : Txt K mg ⟨f_determinant, (PySem.W.fnOf "determinant" "determinant" (defArgs s_determinant) (defBody s_determinant) (defScope s_determinant) .none kV_determinant dc_determinant pm_determinant an_determinant cd_determinant ct_determinant), f_choose, (PySem.W.fnOf "choose" "choose" (defArgs s_choose) (defBody s_choose) (defScope s_choose) .none kV_choose dc_choose pm_choose an_choose cd_choose ct_choose), f_unmet_paths, (PySem.W.fnOf "unmet_paths" "unmet_paths" (defArgs s_unmet_paths) (defBody s_unmet_paths) (defScope s_unmet_paths) .none kV_unmet_paths dc_unmet_paths pm_unmet_paths an_unmet_paths cd_unmet_paths ct_unmet_paths), f_all_paths, (PySem.W.fnOf "all_paths" "all_paths" (defArgs s_all_paths) (defBody s_all_paths) (defScope s_all_paths) .none kV_all_paths dc_all_paths pm_all_paths an_all_paths cd_all_paths ct_all_paths), f_law_hand, (PySem.W.fnOf "_law_hand" "_law_hand" (defArgs s_law_hand) (defBody s_law_hand) (defScope s_law_hand) .none kV_law_hand dc_law_hand pm_law_hand an_law_hand cd_law_hand ct_law_hand), f_law_draw, (PySem.W.fnOf "_law_draw" "_law_draw" (defArgs s_law_draw) (defBody s_law_draw) (defScope s_law_draw) .none kV_law_draw dc_law_draw pm_law_draw an_law_draw cd_law_draw ct_law_draw), f_law_is, (PySem.W.fnOf "_law_is" "_law_is" (defArgs s_law_is) (defBody s_law_is) (defScope s_law_is) .none kV_law_is dc_law_is pm_law_is an_law_is cd_law_is ct_law_is), f_law_paths, (PySem.W.fnOf "_law_paths" "_law_paths" (defArgs s_law_paths) (defBody s_law_paths) (defScope s_law_paths) .none kV_law_paths dc_law_paths pm_law_paths an_law_paths cd_law_paths ct_law_paths), f_law_unmet, (PySem.W.fnOf "_law_unmet" "_law_unmet" (defArgs s_law_unmet) (defBody s_law_unmet) (defScope s_law_unmet) .none kV_law_unmet dc_law_unmet pm_law_unmet an_law_unmet cd_law_unmet ct_law_unmet), f_law_chosen, (PySem.W.fnOf "_law_chosen" "_law_chosen" (defArgs s_law_chosen) (defBody s_law_chosen) (defScope s_law_chosen) .none kV_law_chosen dc_law_chosen pm_law_chosen an_law_chosen cd_law_chosen ct_law_chosen), fa, (PySem.W.fnOf "law" "law" (defArgs s_law) (defBody s_law) (defScope s_law) .none kV_law dc_law pm_law an_law cd_law ct_law), t_MOST_KEPT⟩ := ⟨F_determinant, b_determinant, PySem.W.mg_of X G a_determinant, F_choose, b_choose, PySem.W.mg_of X G a_choose, F_unmet_paths, b_unmet_paths, PySem.W.mg_of X G a_unmet_paths, F_all_paths, b_all_paths, PySem.W.mg_of X G a_all_paths, F_law_hand, b_law_hand, PySem.W.mg_of X G a_law_hand, F_law_draw, b_law_draw, PySem.W.mg_of X G a_law_draw, F_law_is, b_law_is, PySem.W.mg_of X G a_law_is, F_law_paths, b_law_paths, PySem.W.mg_of X G a_law_paths, F_law_unmet, b_law_unmet, PySem.W.mg_of X G a_law_unmet, F_law_chosen, b_law_chosen, PySem.W.mg_of X G a_law_chosen, F_law, b_law, PySem.W.mg_of X G a_law, PySem.W.mg_none_of X G z_len, PySem.W.mg_none_of X G z_range, PySem.W.mg_none_of X G z_list, PySem.W.mg_none_of X G z_sorted, PySem.W.mg_none_of X G z_abs, PySem.W.mg_none_of X G z_int, PySem.W.mg_none_of X G z_isinstance, PySem.W.mg_none_of X G z_dict, PySem.W.mg_none_of X G z_bool, PySem.W.mg_none_of X G z_tuple, PySem.W.mg_none_of X G z_all, PySem.W.mg_none_of X G z_zip, PySem.W.mg_none_of X G z_any, PySem.W.mg_of X G y_MOST_KEPT⟩
  exact ⟨PySem.W.fnOf "law" "law" (defArgs s_law) (defBody s_law) (defScope s_law) .none kV_law dc_law pm_law an_law cd_law ct_law, fun s v => .of_eq rfl, fun base _ _ => law_sp (ok_law T)⟩
end Lw
open PySem PySem.W PyProof.Rows
set_option maxHeartbeats 0 in
theorem PySem.Challenge.cw_tiledwhole_k53_whole_paths_that_never_me_holds : PySem.Challenge.rw_tiledwhole_k53_whole_paths_that_never_me.Holds := by
  w_on; o_law; k_head; (case hw => w_witness2)
  k_fill
  refine L2.walk_of (l := PySem.Challenge.rw_tiledwhole_k53_whole_paths_that_never_me) (n := 63) (k := 11) (x := "script") (CX := fun _ => L2.CX0) (sp := fun w => DL.spLaw _) rfl (by decide) rfl ⟨rfl, by decide, by decide⟩ (fun w h Y => PySem.W.kIn_of Y) ?F (fun _ _ a ns hl _ hS => ⟨a, ns, rfl, hS, hl, fun _ => rfl⟩) (fun _ _ _ _ _ h => h)
  case F =>
    intro w mg fa h KX G hmg
    refine' Lw.all_mk KX G hmg ?a_determinant ?l_determinant ?c_determinant ?k_determinant ?a_choose ?l_choose ?c_choose ?k_choose ?a_unmet_paths ?l_unmet_paths ?c_unmet_paths ?k_unmet_paths ?a_all_paths ?l_all_paths ?c_all_paths ?k_all_paths ?a_law_hand ?l_law_hand ?c_law_hand ?k_law_hand ?a_law_draw ?l_law_draw ?c_law_draw ?k_law_draw ?a_law_is ?l_law_is ?c_law_is ?k_law_is ?a_law_paths ?l_law_paths ?c_law_paths ?k_law_paths ?a_law_unmet ?l_law_unmet ?c_law_unmet ?k_law_unmet ?a_law_chosen ?l_law_chosen ?c_law_chosen ?k_law_chosen ?a_law ?l_law ?c_law ?k_law ?z_len ?z_range ?z_list ?z_sorted ?z_abs ?z_int ?z_isinstance ?z_dict ?z_bool ?z_tuple ?z_all ?z_zip ?z_any ?y_MOST_KEPT
    (case a_determinant => k_is)
    (case l_determinant => k_is)
    (case c_determinant => k_is)
    (case k_determinant => k_is)
    (case a_choose => k_is)
    (case l_choose => k_is)
    (case c_choose => k_is)
    (case k_choose => k_is)
    (case a_unmet_paths => k_is)
    (case l_unmet_paths => k_is)
    (case c_unmet_paths => k_is)
    (case k_unmet_paths => k_is)
    (case a_all_paths => k_is)
    (case l_all_paths => k_is)
    (case c_all_paths => k_is)
    (case k_all_paths => k_is)
    (case a_law_hand => k_is)
    (case l_law_hand => k_is)
    (case c_law_hand => k_is)
    (case k_law_hand => k_is)
    (case a_law_draw => k_is)
    (case l_law_draw => k_is)
    (case c_law_draw => k_is)
    (case k_law_draw => k_is)
    (case a_law_is => k_is)
    (case l_law_is => k_is)
    (case c_law_is => k_is)
    (case k_law_is => k_is)
    (case a_law_paths => k_is)
    (case l_law_paths => k_is)
    (case c_law_paths => k_is)
    (case k_law_paths => k_is)
    (case a_law_unmet => k_is)
    (case l_law_unmet => k_is)
    (case c_law_unmet => k_is)
    (case k_law_unmet => k_is)
    (case a_law_chosen => k_is)
    (case l_law_chosen => k_is)
    (case c_law_chosen => k_is)
    (case k_law_chosen => k_is)
    (case a_law => k_is)
    (case l_law => k_is)
    (case c_law => k_is)
    (case k_law => k_is)
    (case z_len => k_is)
    (case z_range => k_is)
    (case z_list => k_is)
    (case z_sorted => k_is)
    (case z_abs => k_is)
    (case z_int => k_is)
    (case z_isinstance => k_is)
    (case z_dict => k_is)
    (case z_bool => k_is)
    (case z_tuple => k_is)
    (case z_all => k_is)
    (case z_zip => k_is)
    (case z_any => k_is)
    (case y_MOST_KEPT => k_is)

