import PyProof.Rows.All
import Wide.All
import OpenK.AllK
import Wide.FinOn
import HandS.ForMost
import HandS.Zip
import HandS.TupAny
import HandS.TupMul
import HandS.IsInst
import HandS.Strs
import HandS.Deep
import HandS.SortRule
import HandS.SetFor
import PySem.Challenge.RW_latticepoints_k54_whole_unimodular_parts
set_option Elab.async false
set_option linter.all false
set_option maxRecDepth 100000
set_option maxHeartbeats 4000000
/-! LpA: data environments over HandS: what an expression gives, as pure data. -/
namespace Lp
open PySem PySem.Spec L2

/-! ### heaps -/
def Ex (H H' : Hp) : Prop := ∀ a o, H a = some o → H' a = some o
theorem Ex.refl (H : Hp) : Ex H H := fun _ _ h => h
theorem Ex.trans {H H1 H2 : Hp} (a : Ex H H1) (b : Ex H1 H2) : Ex H H2 := fun x o h => b x o (a x o h)
theorem Ex.new {H : Hp} {p : Addr} {o : HO} (h : H p = none) : Ex H (upd H p o) := fun a u e => by
  rw [upd_ne (ne_of_none e h)]
  exact e
theorem ex_l {K : PySem.W.Frag} {H H' : Hp} {a : Addr} {xs : List V} (e : Ex H H') (h : SqL K H a xs) : SqL K H' a xs := by
  rcases h with (h | ⟨o, h⟩) | h
  · exact .inl (.inl (e _ _ h))
  · exact .inl (.inr ⟨o, e _ _ h⟩)
  · exact .inr h
theorem ex_t {K : PySem.W.Frag} {H H' : Hp} {a : Addr} {xs : List V} (e : Ex H H') (h : SqT K H a xs) : SqT K H' a xs := by
  rcases h with (h | ⟨o, h⟩) | h
  · exact .inl (.inl (e _ _ h))
  · exact .inl (.inr ⟨o, e _ _ h⟩)
  · exact .inr h

/-! ### a value is this data -/
mutual
inductive Is (K : PySem.W.Frag) (H : Hp) : V → PyData → Prop
  | non : Is K H .non .none
  | bl (b : Bool) : Is K H (.bl b) (.bool b)
  | int (i : Int) : Is K H (.int i) (.int i)
  | lst {a : Addr} {xs : List V} {ds : List PyData} : H a = some (.lst xs) → Iss K H xs ds → Is K H (.ref a) (.list ds)
  | tup {a : Addr} {xs : List V} {ds : List PyData} : SqT K H a xs → Iss K H xs ds → Is K H (.ref a) (.tuple ds)
inductive Iss (K : PySem.W.Frag) (H : Hp) : List V → List PyData → Prop
  | nil : Iss K H [] []
  | cons {v : V} {vs : List V} {d : PyData} {ds : List PyData} : Is K H v d → Iss K H vs ds → Iss K H (v :: vs) (d :: ds)
end
section
variable {K : PySem.W.Frag} {H H' : Hp}
mutual
theorem Is.mono (e : Ex H H') : ∀ (d : PyData) (v : V), Is K H v d → Is K H' v d
  | .none, _, h => by cases h; exact .non
  | .bool b, _, h => by cases h; exact .bl b
  | .int i, _, h => by cases h; exact .int i
  | .str _, _, h => by cases h
  | .list ds, _, h => by
    cases h with
    | lst h1 h2 => exact .lst (e _ _ h1) (Iss.mono e ds _ h2)
  | .tuple ds, _, h => by
    cases h with
    | tup h1 h2 => exact .tup (ex_t e h1) (Iss.mono e ds _ h2)
  | .dict _, _, h => by cases h
theorem Iss.mono (e : Ex H H') : ∀ (ds : List PyData) (vs : List V), Iss K H vs ds → Iss K H' vs ds
  | [], _, h => by cases h; exact .nil
  | d :: ds, _, h => by
    cases h with
    | cons h1 h2 => exact .cons (Is.mono e d _ h1) (Iss.mono e ds _ h2)
end
mutual
theorem Is.dp : ∀ (d : PyData) (v : V), Is K H v d → Dp K H v d
  | .none, _, h => by cases h; exact .non
  | .bool b, _, h => by cases h; exact .bl b
  | .int i, _, h => by cases h; exact .int i
  | .str _, _, h => by cases h
  | .list ds, _, h => by
    cases h with
    | lst h1 h2 => exact .lst (SqL.of h1) (Iss.dp ds _ h2)
  | .tuple ds, _, h => by
    cases h with
    | tup h1 h2 => exact .tup h1 (Iss.dp ds _ h2)
  | .dict _, _, h => by cases h
theorem Iss.dp : ∀ (ds : List PyData) (vs : List V), Iss K H vs ds → DpAll K H vs ds
  | [], _, h => by cases h; exact .nil
  | d :: ds, _, h => by
    cases h with
    | cons h1 h2 => exact .cons (Is.dp d _ h1) (Iss.dp ds _ h2)
end
theorem Iss.length : ∀ {ds : List PyData} {vs : List V}, Iss K H vs ds → vs.length = ds.length
  | [], _, h => by cases h; rfl
  | d :: ds, _, h => by
    cases h with
    | cons h1 h2 => rw [List.length_cons, List.length_cons, Iss.length h2]
theorem Iss.get : ∀ {ds : List PyData} {vs : List V} {i : Nat} {d : PyData}, Iss K H vs ds → ds[i]? = some d → ∃ v, vs[i]? = some v ∧ Is K H v d
  | [], _, _, _, _, e => by simp at e
  | d :: ds, _, 0, d', h, e => by
    cases h with
    | cons h1 h2 =>
      have : d = d' := by simpa using e
      subst this
      exact ⟨_, rfl, h1⟩
  | d :: ds, _, i + 1, d', h, e => by
    cases h with
    | cons h1 h2 =>
      obtain ⟨v, e1, e2⟩ := Iss.get (i := i) h2 (by simpa using e)
      exact ⟨v, by simpa using e1, e2⟩
theorem Iss.append : ∀ {ds es : List PyData} {vs us : List V}, Iss K H vs ds → Iss K H us es → Iss K H (vs ++ us) (ds ++ es)
  | [], _, _, _, h, k => by cases h; exact k
  | d :: ds, _, _, _, h, k => by
    cases h with
    | cons h1 h2 => exact .cons h1 (Iss.append h2 k)
theorem Iss.take (n : Nat) : ∀ {ds : List PyData} {vs : List V}, Iss K H vs ds → Iss K H (vs.take n) (ds.take n) := by
  induction n with
  | zero => intro ds vs _; simp only [List.take_zero]; exact .nil
  | succ n ih =>
    intro ds vs h
    cases h with
    | nil => exact .nil
    | cons h1 h2 => exact .cons h1 (ih h2)
theorem Iss.drop (n : Nat) : ∀ {ds : List PyData} {vs : List V}, Iss K H vs ds → Iss K H (vs.drop n) (ds.drop n) := by
  induction n with
  | zero => intro ds vs h; exact h
  | succ n ih =>
    intro ds vs h
    cases h with
    | nil => exact .nil
    | cons h1 h2 => exact ih h2
theorem Iss.ints : ∀ {ns : List Int} {vs : List V}, Iss K H vs (ns.map PyData.int) → vs = ns.map V.int
  | [], _, h => by cases h; rfl
  | n :: ns, _, h => by
    cases h with
    | cons h1 h2 =>
      cases h1
      rw [Iss.ints h2]
      rfl
theorem Iss.of_ints : ∀ (ns : List Int), Iss K H (ns.map V.int) (ns.map PyData.int)
  | [] => .nil
  | n :: ns => .cons (.int n) (Iss.of_ints ns)
theorem Is.int_of {v : V} {i : Int} (h : Is K H v (.int i)) : v = .int i := by cases h; rfl
theorem Is.bl_of {v : V} {b : Bool} (h : Is K H v (.bool b)) : v = .bl b := by cases h; rfl
theorem Is.lst_of {v : V} {ds : List PyData} (h : Is K H v (.list ds)) : ∃ a xs, v = .ref a ∧ H a = some (.lst xs) ∧ Iss K H xs ds := by
  cases h with
  | lst h1 h2 => exact ⟨_, _, rfl, h1, h2⟩
theorem Is.tup_of {v : V} {ds : List PyData} (h : Is K H v (.tuple ds)) : ∃ a xs, v = .ref a ∧ SqT K H a xs ∧ Iss K H xs ds := by
  cases h with
  | tup h1 h2 => exact ⟨_, _, rfl, h1, h2⟩
end

/-! ### the configuration: names as data -/
inductive En where
  | im (d : PyData) | ow (ds : List PyData) | row
abbrev Dn := List (Option En)
def RowOk (K : PySem.W.Frag) (Hk H : Hp) (r : Addr) : Prop :=
  Hk r = none ∧ ∃ (sc : Addr) (ns : List Int) (i s c : Int), SqL K Hk sc (ns.map V.int) ∧ ns.length ≤ 63 ∧ 0 ≤ i ∧ H r = some (.lst [.ref sc, .int i, .int s, .int c])
structure Cfg (K : PySem.W.Frag) (rw' : Option Addr) (Hk0 H0 Hk H : Hp) (σ : St) (ρ : Dn) : Prop where
  e1 : Ex Hk0 Hk
  e2 : ∀ a o, H0 a = some o → rw' ≠ some a → H a = some o
  e3 : Ex Hk H
  fr : ∀ a o, Hk a = some o → Hk0 a = none → H0 a = none
  rk : ∀ r, rw' = some r → (∃ o, H0 r = some o) ∧ RowOk K Hk H r
  im : ∀ (i : Nat) d, ρ[i]? = some (some (.im d)) → ∃ v, σ[i]? = some (some v) ∧ Is K Hk v d
  ow : ∀ (i : Nat) ds, ρ[i]? = some (some (.ow ds)) → ∃ p vs, σ[i]? = some (some (.ref p)) ∧ H0 p = none ∧ Hk p = none ∧ H p = some (.lst vs) ∧ Iss K Hk vs ds
  row : ∀ (i : Nat), ρ[i]? = some (some .row) → ∃ r, rw' = some r ∧ σ[i]? = some (some (.ref r))
  one : ∀ (i j : Nat) ds ds', ρ[i]? = some (some (.ow ds)) → ρ[j]? = some (some (.ow ds')) → i = j
  len : σ.length = ρ.length
section
variable {K : PySem.W.Frag} {rw' : Option Addr} {Hk0 H0 Hk H Hk' H' : Hp} {σ : St} {ρ : Dn}
/-- more is known, more stands -/
theorem Cfg.step (c : Cfg K rw' Hk0 H0 Hk H σ ρ) (a : Ex Hk Hk') (b : Ex H H') (d : Ex Hk' H') (f : ∀ x o, Hk' x = some o → Hk x = none → H x = none) : Cfg K rw' Hk0 H0 Hk' H' σ ρ := by
  have no : ∀ x o, H x = some o → Hk x = none → Hk' x = none := fun x o h n => by
    cases q : Hk' x with
    | none => rfl
    | some u =>
      have := f x u q n
      rw [this] at h; cases h
  refine ⟨c.e1.trans a, fun x o h n => b x o (c.e2 x o h n), d, fun x o h n => ?_, fun r e => ?_, fun i d' e => ?_, fun i ds e => ?_, c.row, c.one, c.len⟩
  · cases q : Hk x with
    | some u => exact c.fr x u q n
    | none =>
      have h1 := f x o h q
      cases q2 : H0 x with
      | none => rfl
      | some u =>
        by_cases hr : rw' = some x
        · obtain ⟨_, _, _, _, _, _, _, _, _, _, h2⟩ := c.rk x hr
          rw [h1] at h2; cases h2
        · have := c.e2 x u q2 hr
          rw [h1] at this; cases this
  · obtain ⟨h0, h1, sc, ns, i, s, cc, h2, h3, h4, h5⟩ := c.rk r e
    exact ⟨h0, no r _ h5 h1, sc, ns, i, s, cc, ex_l a h2, h3, h4, b r _ h5⟩
  · obtain ⟨v, h1, h2⟩ := c.im i d' e
    exact ⟨v, h1, Is.mono a _ _ h2⟩
  · obtain ⟨p, vs, h1, h2, h3, h4, h5⟩ := c.ow i ds e
    exact ⟨p, vs, h1, h2, no p _ h4 h3, b p _ h4, Iss.mono a _ _ h5⟩
theorem Cfg.unk (c : Cfg K rw' Hk0 H0 Hk H σ ρ) {p : Addr} (h : H p = none) : Hk p = none := by
  cases q : Hk p with
  | none => rfl
  | some u =>
    have := c.e3 p u q
    rw [h] at this; cases this
/-- a new object -/
theorem Cfg.new (c : Cfg K rw' Hk0 H0 Hk H σ ρ) {p : Addr} {o : HO} (h : H p = none) : Cfg K rw' Hk0 H0 (upd Hk p o) (upd H p o) σ ρ := by
  have hk : Hk p = none := c.unk h
  refine c.step (.new hk) (.new h) (fun a u e => ?_) (fun x u e n => ?_)
  · by_cases ha : a = p
    · subst ha; rw [upd_same] at e ⊢; exact e
    · rw [upd_ne ha] at e ⊢; exact c.e3 a u e
  · by_cases ha : x = p
    · subst ha; exact h
    · rw [upd_ne ha] at e; rw [n] at e; cases e
/-- a new object that stays unknown -/
theorem Cfg.new0 (c : Cfg K rw' Hk0 H0 Hk H σ ρ) {p : Addr} {o : HO} (h : H p = none) : Cfg K rw' Hk0 H0 Hk (upd H p o) σ ρ :=
  c.step (.refl _) (.new h) (c.e3.trans (.new h)) (fun x u e n => by rw [n] at e; cases e)
/-- one frame more: all that stands now is kept -/
def noOw (ρ : Dn) : Dn := ρ.map fun e => match e with | some (.ow _) => none | e => e
theorem noOw_im {i : Nat} {d : PyData} : (noOw ρ)[i]? = some (some (.im d)) → ρ[i]? = some (some (.im d)) := by
  intro h
  unfold noOw at h
  rw [List.getElem?_map] at h
  cases q : ρ[i]? with
  | none => rw [q] at h; simp at h
  | some e =>
    rw [q] at h
    match e, h with
    | none, h => simp at h
    | some (.im d'), h => simpa using h
    | some (.ow ds), h => simp at h
    | some .row, h => simp at h
theorem noOw_row {i : Nat} : (noOw ρ)[i]? = some (some .row) → ρ[i]? = some (some .row) := by
  intro h
  unfold noOw at h
  rw [List.getElem?_map] at h
  cases q : ρ[i]? with
  | none => rw [q] at h; simp at h
  | some e =>
    rw [q] at h
    match e, h with
    | none, h => simp at h
    | some (.im d'), h => simp at h
    | some (.ow ds), h => simp at h
    | some .row, h => rfl
theorem noOw_ow {i : Nat} {ds : List PyData} : (noOw ρ)[i]? ≠ some (some (.ow ds)) := by
  intro h
  unfold noOw at h
  rw [List.getElem?_map] at h
  cases q : ρ[i]? with
  | none => rw [q] at h; simp at h
  | some e =>
    rw [q] at h
    match e, h with
    | none, h => simp at h
    | some (.im d'), h => simp at h
    | some (.ow ds), h => simp at h
    | some .row, h => simp at h
theorem Cfg.frame (c : Cfg K rw' Hk0 H0 Hk H σ ρ) : Cfg K rw' Hk H Hk H σ (noOw ρ) :=
  ⟨.refl _, fun _ _ h _ => h, c.e3, fun a o h n => (by rw [n] at h; cases h), fun r e => (by
    obtain ⟨h0, h1, sc, ns, i, s, cc, h2, h3, h4, h5⟩ := c.rk r e
    exact ⟨⟨_, h5⟩, h1, sc, ns, i, s, cc, h2, h3, h4, h5⟩), fun i d e => c.im i d (noOw_im e), fun i ds e => absurd e noOw_ow, fun i e => c.row i (noOw_row e), fun i j ds ds' e => absurd e noOw_ow, by
      unfold noOw; rw [List.length_map]; exact c.len⟩
theorem Cfg.nrow (c : Cfg K rw' Hk0 H0 Hk H σ ρ) {p : Addr} (h : H0 p = none) : rw' ≠ some p := fun e => by
  obtain ⟨⟨o, h0⟩, _⟩ := c.rk p e
  rw [h] at h0; cases h0
/-- back from the frame -/
theorem Cfg.back {σ' : St} {ρ' : Dn} (c : Cfg K rw' Hk0 H0 Hk H σ ρ) (c' : Cfg K rw' Hk H Hk' H' σ' ρ') : Cfg K rw' Hk0 H0 Hk' H' σ ρ := by
  have no : ∀ x o, H x = some o → Hk x = none → Hk' x = none := fun x o h n => by
    cases q : Hk' x with
    | none => rfl
    | some u =>
      have := c'.fr x u q n
      rw [this] at h; cases h
  refine ⟨c.e1.trans c'.e1, fun a o h n => c'.e2 a o (c.e2 a o h n) n, c'.e3, fun a o h n => ?_, fun r e => ⟨(c.rk r e).1, (c'.rk r e).2⟩, fun i d e => ?_, fun i ds e => ?_, c.row, c.one, c.len⟩
  · cases q : Hk a with
    | some u => exact c.fr a u q n
    | none =>
      have h1 := c'.fr a o h q
      cases q2 : H0 a with
      | none => rfl
      | some u =>
        by_cases hr : rw' = some a
        · obtain ⟨_, _, _, _, _, _, _, _, _, _, h2⟩ := c.rk a hr
          rw [h1] at h2; cases h2
        · have := c.e2 a u q2 hr
          rw [h1] at this; cases this
  · obtain ⟨v, h1, h2⟩ := c.im i d e
    exact ⟨v, h1, Is.mono c'.e1 _ _ h2⟩
  · obtain ⟨p, vs, h1, h2, h3, h4, h5⟩ := c.ow i ds e
    exact ⟨p, vs, h1, h2, no p _ h4 h3, c'.e2 p _ h4 (c.nrow h2), Iss.mono c'.e1 _ _ h5⟩
/-- without names -/
theorem Cfg.bare (c : Cfg K rw' Hk0 H0 Hk H σ ρ) : Cfg K rw' Hk0 H0 Hk H [] [] :=
  ⟨c.e1, c.e2, c.e3, c.fr, c.rk, fun i d e => (by simp at e), fun i ds e => (by simp at e), fun i e => (by simp at e), fun i j ds ds' e => (by simp at e), rfl⟩
theorem set_cases {α : Type} {l : List α} {i j : Nat} {x y : α} (h : (l.set i x)[j]? = some y) : (j = i ∧ x = y ∧ i < l.length) ∨ (j ≠ i ∧ l[j]? = some y) := by
  by_cases e : j = i
  · subst e
    by_cases hl : j < l.length
    · rw [List.getElem?_set_self hl] at h
      exact .inl ⟨rfl, by simpa using h, hl⟩
    · rw [List.getElem?_eq_none (by simpa using hl)] at h
      cases h
  · rw [List.getElem?_set_ne (Ne.symm e)] at h
    exact .inr ⟨e, h⟩
/-- a name is stored -/
theorem Cfg.put (c : Cfg K rw' Hk0 H0 Hk H σ ρ) {i : Nat} {v : V} {d : PyData} (h : Is K Hk v d) : Cfg K rw' Hk0 H0 Hk H (σ.set i (some v)) (ρ.set i (some (.im d))) := by
  refine ⟨c.e1, c.e2, c.e3, c.fr, c.rk, fun j d' e => ?_, fun j ds e => ?_, fun j e => ?_, fun j k ds ds' e e' => ?_, by rw [List.length_set, List.length_set]; exact c.len⟩
  · rcases set_cases e with ⟨rfl, e, hl⟩ | ⟨hj, e⟩
    · cases e
      exact ⟨v, List.getElem?_set_self (by rw [c.len]; exact hl), h⟩
    · rw [List.getElem?_set_ne (Ne.symm hj)]
      exact c.im j d' e
  · rcases set_cases e with ⟨rfl, e, hl⟩ | ⟨hj, e⟩
    · cases e
    · rw [List.getElem?_set_ne (Ne.symm hj)]
      exact c.ow j ds e
  · rcases set_cases e with ⟨rfl, e, hl⟩ | ⟨hj, e⟩
    · cases e
    · rw [List.getElem?_set_ne (Ne.symm hj)]
      exact c.row j e
  · rcases set_cases e with ⟨rfl, e, hl⟩ | ⟨hj, e⟩
    · cases e
    · rcases set_cases e' with ⟨rfl, e', hl⟩ | ⟨hk, e'⟩
      · cases e'
      · exact c.one j k ds ds' e e'
def isOw : Option En → Bool
  | some (.ow _) => true
  | _ => false
/-- a new list of one's own, in a name -/
theorem Cfg.own (c : Cfg K rw' Hk0 H0 Hk H σ ρ) {i : Nat} {p : Addr} (h : H p = none) (hno : ρ.any isOw = false) : Cfg K rw' Hk0 H0 Hk (upd H p (.lst [])) (σ.set i (some (.ref p))) (ρ.set i (some (.ow []))) := by
  have c1 := c.new0 (o := .lst []) h
  have no : ∀ (j : Nat) ds, ρ[j]? ≠ some (some (.ow ds)) := fun j ds e => by
    have hm : some (En.ow ds) ∈ ρ := List.mem_of_getElem? e
    have : ρ.any isOw = true := List.any_eq_true.mpr ⟨_, hm, rfl⟩
    rw [hno] at this; cases this
  have h0 : H0 p = none := by
    cases q : H0 p with
    | none => rfl
    | some u =>
      by_cases hr : rw' = some p
      · obtain ⟨_, _, _, _, _, _, _, _, _, _, h2⟩ := c.rk p hr
        rw [h] at h2; cases h2
      · have := c.e2 p u q hr
        rw [h] at this; cases this
  refine ⟨c1.e1, c1.e2, c1.e3, c1.fr, c1.rk, fun j d' e => ?_, fun j ds e => ?_, fun j e => ?_, fun j k ds ds' e e' => ?_, by rw [List.length_set, List.length_set]; exact c.len⟩
  · rcases set_cases e with ⟨rfl, e, hl⟩ | ⟨hj, e⟩
    · cases e
    · rw [List.getElem?_set_ne (Ne.symm hj)]
      exact c1.im j d' e
  · rcases set_cases e with ⟨rfl, e, hl⟩ | ⟨hj, e⟩
    · cases e
      exact ⟨p, [], List.getElem?_set_self (by rw [c.len]; exact hl), h0, c.unk h, upd_same, .nil⟩
    · exact absurd e (no j ds)
  · rcases set_cases e with ⟨rfl, e, hl⟩ | ⟨hj, e⟩
    · cases e
    · rw [List.getElem?_set_ne (Ne.symm hj)]
      exact c1.row j e
  · rcases set_cases e with ⟨rfl, e, hl⟩ | ⟨hj, e⟩
    · rcases set_cases e' with ⟨rfl, e', hl'⟩ | ⟨hk, e'⟩
      · rfl
      · exact absurd e' (no k ds')
    · exact absurd e (no j ds)
/-- an item appended to the list of one's own -/
theorem Cfg.app (c : Cfg K rw' Hk0 H0 Hk H σ ρ) {i : Nat} {p : Addr} {vs : List V} {v : V} {ds : List PyData} {d : PyData} (hi : ρ[i]? = some (some (.ow ds))) (hs : σ[i]? = some (some (.ref p))) (hp : H p = some (.lst vs)) (h : Is K Hk v d) :
    Cfg K rw' Hk0 H0 Hk (upd H p (.lst (vs ++ [v]))) σ (ρ.set i (some (.ow (ds ++ [d])))) := by
  obtain ⟨p', vs', h1, h2, h3, h4, h5⟩ := c.ow i ds hi
  rw [hs] at h1; cases h1
  rw [hp] at h4; cases h4
  have hli : i < ρ.length := (List.getElem?_eq_some_iff.mp hi).1
  have hr := c.nrow h2
  refine ⟨c.e1, fun a o e n => ?_, fun a o e => ?_, c.fr, fun r e => ?_, fun j d' e => ?_, fun j es e => ?_, fun j e => ?_, fun j k es es' e e' => ?_, by rw [List.length_set]; exact c.len⟩
  · rw [upd_ne (ne_of_none e h2)]
    exact c.e2 a o e n
  · rw [upd_ne (ne_of_none e h3)]
    exact c.e3 a o e
  · have hrp : r ≠ p := fun z => hr (by rw [e, z])
    obtain ⟨h0, k1, sc, ns, i', s, cc, k2, k3, k4, k5⟩ := c.rk r e
    exact ⟨h0, k1, sc, ns, i', s, cc, k2, k3, k4, by rw [upd_ne hrp]; exact k5⟩
  · rcases set_cases e with ⟨rfl, e, hl⟩ | ⟨hj, e⟩
    · cases e
    · exact c.im j d' e
  · rcases set_cases e with ⟨rfl, e, hl⟩ | ⟨hj, e⟩
    · cases e
      exact ⟨p, vs ++ [v], hs, h2, h3, upd_same, h5.append (.cons h .nil)⟩
    · exact absurd (c.one j i es ds e hi) hj
  · rcases set_cases e with ⟨rfl, e, hl⟩ | ⟨hj, e⟩
    · cases e
    · exact c.row j e
  · rcases set_cases e with ⟨rfl, e, hl⟩ | ⟨hj, e⟩
    · rcases set_cases e' with ⟨rfl, e', hl'⟩ | ⟨hk, e'⟩
      · rfl
      · exact absurd (c.one k j es' ds e' hi) hk
    · exact absurd (c.one j i es ds e hi) hj
/-- the list of one's own is done: it is data now -/
theorem Cfg.freeze (c : Cfg K rw' Hk0 H0 Hk H σ ρ) {i : Nat} {ds : List PyData} (hi : ρ[i]? = some (some (.ow ds))) :
    ∃ Hk', Ex Hk Hk' ∧ Cfg K rw' Hk0 H0 Hk' H σ (ρ.set i (some (.im (.list ds)))) := by
  obtain ⟨p, vs, h1, h2, h3, h4, h5⟩ := c.ow i ds hi
  have hr := c.nrow h2
  have ex : Ex Hk (upd Hk p (.lst vs)) := .new h3
  refine ⟨upd Hk p (.lst vs), ex, c.e1.trans ex, c.e2, fun a o e => ?_, fun a o e n => ?_, fun r e => ?_, fun j d' e => ?_, fun j es e => ?_, fun j e => ?_, fun j k es es' e e' => ?_, by rw [List.length_set]; exact c.len⟩
  · by_cases ha : a = p
    · subst ha; rw [upd_same] at e; cases e; exact h4
    · rw [upd_ne ha] at e; exact c.e3 a o e
  · by_cases ha : a = p
    · subst ha; exact h2
    · rw [upd_ne ha] at e; exact c.fr a o e n
  · have hrp : r ≠ p := fun z => hr (by rw [e, z])
    obtain ⟨h0, k1, sc, ns, i', s, cc, k2, k3, k4, k5⟩ := c.rk r e
    exact ⟨h0, by rw [upd_ne hrp]; exact k1, sc, ns, i', s, cc, ex_l ex k2, k3, k4, k5⟩
  · rcases set_cases e with ⟨rfl, e, hl⟩ | ⟨hj, e⟩
    · cases e
      exact ⟨_, h1, .lst upd_same (Iss.mono ex _ _ h5)⟩
    · obtain ⟨v, q1, q2⟩ := c.im j d' e
      exact ⟨v, q1, Is.mono ex _ _ q2⟩
  · rcases set_cases e with ⟨rfl, e, hl⟩ | ⟨hj, e⟩
    · cases e
    · exact absurd (c.one j i es ds e hi) hj
  · rcases set_cases e with ⟨rfl, e, hl⟩ | ⟨hj, e⟩
    · cases e
    · exact c.row j e
  · rcases set_cases e with ⟨rfl, e, hl⟩ | ⟨hj, e⟩
    · cases e
    · exact absurd (c.one j i es ds e hi) hj
end
end Lp

/-! LpB: judgements over data environments: expressions, tests, arguments. -/
namespace Lp
open PySem PySem.Spec L2

structure Fx where
  P : Program
  w : World
  K : PySem.W.Frag
  mg : Str → Option Value
  base : Heap
  A : Around
  N : List Str
  sc : Scope
  fn : Str → Bool
structure Vr where
  s0 : Shared
  H0 : Hp
  env : PySem.Env
  outer : List PySem.Env
  stack : List PySem.Env
  ex : List Addr
abbrev Fx.cx (F : Fx) (v : Vr) : Cx where
  prog := F.P
  w := F.w
  K := F.K
  mg := F.mg
  base := F.base
  A := F.A
  N := F.N
  s_0 := v.s0
  H_0 := v.H0
  env := { v.env with scope := F.sc }
  outer := v.outer
  stack := v.stack
  ex := v.ex
  fn := F.fn
  calm := true
  pn := []
  xe := fun _ _ => False

/-! ### the readings by themselves -/
section
variable (F : Fx)
def wE (e : Expr) : TE := fun σ H Q => ∃ t : TE, (∀ v, PE (F.cx v) e t) ∧ t σ H Q
def wT (e : Expr) : TT := fun σ H Q => ∃ t : TT, (∀ v, PT (F.cx v) e t) ∧ t σ H Q
def wPs (e : List Expr) : TT := fun σ H Q => ∃ t : TT, (∀ v, PTs (F.cx v) e t) ∧ t σ H Q
def wA (es : List Expr) : TA := fun σ H Q => ∃ t : TA, (∀ v, PA (F.cx v) es t) ∧ t σ H Q
def wO (e : Option Expr) : TO := fun σ H Q => ∃ t : TO, (∀ v, PO (F.cx v) e t) ∧ t σ H Q
def wG (e : Expr) : TG := fun x σ H Q => ∃ t : TG, (∀ v, PG (F.cx v) e t) ∧ t x σ H Q
def wI (tg e : Expr) : TI := fun σ H Q => ∃ t : TI, (∀ v, PI (F.cx v) tg e t) ∧ t σ H Q
def wS (sts : List Stmt) : TS := fun D σ H => ∃ t : TS, (∀ v, PSs (F.cx v) sts t) ∧ t D σ H
end
section
variable {F : Fx} {v : Vr}
theorem pe_w {e : Expr} : PE (F.cx v) e (wE F e) := ⟨fun pins s σ H Q I h => by obtain ⟨t, ht, h⟩ := h; exact (ht v).run pins s σ H Q I h⟩
theorem pt_w {e : Expr} : PT (F.cx v) e (wT F e) := ⟨fun pins s σ H Q I h => by obtain ⟨t, ht, h⟩ := h; exact (ht v).run pins s σ H Q I h⟩
theorem pts_w {e : List Expr} : PTs (F.cx v) e (wPs F e) := ⟨fun pins s σ H Q I h => by obtain ⟨t, ht, h⟩ := h; exact (ht v).run pins s σ H Q I h⟩
theorem pa_w {es : List Expr} : PA (F.cx v) es (wA F es) := ⟨fun pos pins s σ H Q I h => by obtain ⟨t, ht, h⟩ := h; exact (ht v).run pos pins s σ H Q I h⟩
theorem po_w {e : Option Expr} : PO (F.cx v) e (wO F e) := ⟨fun pins s σ H Q I h => by obtain ⟨t, ht, h⟩ := h; exact (ht v).run pins s σ H Q I h⟩
theorem pg_w {e : Expr} : PG (F.cx v) e (wG F e) := ⟨fun pins s σ H x u Q I r h => by obtain ⟨t, ht, h⟩ := h; exact (ht v).run pins s σ H x u Q I r h⟩
theorem pi_w {tg e : Expr} : PI (F.cx v) tg e (wI F tg e) := ⟨fun pins s σ H Q I h => by obtain ⟨t, ht, h⟩ := h; exact (ht v).run pins s σ H Q I h⟩
theorem pss_w {sts : List Stmt} : PSs (F.cx v) sts (wS F sts) := ⟨fun pins s σ H D I h => by obtain ⟨t, ht, h⟩ := h; exact (ht v).run pins s σ H D I h⟩
end

/-! ### judgements -/
/-- what is to be shown of a value's data, whatever it is -/
def Goal (K : PySem.W.Frag) (rw' : Option Addr) (Hk0 H0 Hk : Hp) (σ : L2.St) (ρ : Dn) (S : PyData → Prop) (Q : VK) : Prop :=
  ∀ v d Hk' H', Ex Hk Hk' → Cfg K rw' Hk0 H0 Hk' H' σ ρ → Is K Hk' v d → S d → Q v H'
def EX (F : Fx) (ρ : Dn) (e : Expr) (S : PyData → Prop) : Prop :=
  ∀ rw' Hk0 H0 Hk H σ (Q : VK), Cfg F.K rw' Hk0 H0 Hk H σ ρ → Goal F.K rw' Hk0 H0 Hk σ ρ S Q → wE F e σ H Q
abbrev EV (F : Fx) (ρ : Dn) (e : Expr) (d : PyData) : Prop := EX F ρ e (fun x => x = d)
def ET (F : Fx) (ρ : Dn) (e : Expr) (S : Bool → Prop) : Prop :=
  ∀ rw' Hk0 H0 Hk H σ (Q : Bool → Hp → Prop), Cfg F.K rw' Hk0 H0 Hk H σ ρ → (∀ b Hk' H', Ex Hk Hk' → Cfg F.K rw' Hk0 H0 Hk' H' σ ρ → S b → Q b H') → wT F e σ H Q
abbrev TV (F : Fx) (ρ : Dn) (e : Expr) (b : Bool) : Prop := ET F ρ e (fun x => x = b)
def EA (F : Fx) (ρ : Dn) (es : List Expr) (S : List PyData → Prop) : Prop :=
  ∀ rw' Hk0 H0 Hk H σ (Q : List V → Hp → Prop), Cfg F.K rw' Hk0 H0 Hk H σ ρ → (∀ vs ds Hk' H', Ex Hk Hk' → Cfg F.K rw' Hk0 H0 Hk' H' σ ρ → Iss F.K Hk' vs ds → S ds → Q vs H') → wA F es σ H Q
abbrev AV (F : Fx) (ρ : Dn) (es : List Expr) (ds : List PyData) : Prop := EA F ρ es (fun x => x = ds)
/-- an operation on values, on data -/
def R2D (K : PySem.W.Frag) (r : R2) (a b : PyData) (S : PyData → Prop) : Prop :=
  ∀ x y rw' Hk0 H0 Hk H σ ρ (Q : VK), Cfg K rw' Hk0 H0 Hk H σ ρ → Is K Hk x a → Is K Hk y b → Goal K rw' Hk0 H0 Hk σ ρ S Q → r x y H Q
def R1D (K : PySem.W.Frag) (r : V → Hp → VK → Prop) (a : PyData) (S : PyData → Prop) : Prop :=
  ∀ x rw' Hk0 H0 Hk H σ ρ (Q : VK), Cfg K rw' Hk0 H0 Hk H σ ρ → Is K Hk x a → Goal K rw' Hk0 H0 Hk σ ρ S Q → r x H Q
def RCD (K : PySem.W.Frag) (r : List V → Hp → VK → Prop) (ds : List PyData) (S : PyData → Prop) : Prop :=
  ∀ xs rw' Hk0 H0 Hk H σ ρ (Q : VK), Cfg K rw' Hk0 H0 Hk H σ ρ → Iss K Hk xs ds → Goal K rw' Hk0 H0 Hk σ ρ S Q → r xs H Q

section
variable {F : Fx} {ρ : Dn} {K : PySem.W.Frag}
theorem EX.weak {e : Expr} {S S' : PyData → Prop} (h : EX F ρ e S) (k : ∀ d, S d → S' d) : EX F ρ e S' := fun rw' Hk0 H0 Hk H σ Q c q =>
  h rw' Hk0 H0 Hk H σ Q c fun v d Hk' H' a b i s => q v d Hk' H' a b i (k d s)
theorem EV.is {e : Expr} {d d' : PyData} (h : EV F ρ e d) (k : d = d') : EV F ρ e d' := by rw [← k]; exact h
theorem ET.weak {e : Expr} {S S' : Bool → Prop} (h : ET F ρ e S) (k : ∀ d, S d → S' d) : ET F ρ e S' := fun rw' Hk0 H0 Hk H σ Q c q =>
  h rw' Hk0 H0 Hk H σ Q c fun b Hk' H' a cc s => q b Hk' H' a cc (k b s)
theorem TV.is {e : Expr} {b b' : Bool} (h : TV F ρ e b) (k : b = b') : TV F ρ e b' := by rw [← k]; exact h
theorem Goal.mono {rw' : Option Addr} {Hk0 H0 Hk Hk' : Hp} {σ : L2.St} {S : PyData → Prop} {Q : VK} (q : Goal K rw' Hk0 H0 Hk σ ρ S Q) (e : Ex Hk Hk') : Goal K rw' Hk0 H0 Hk' σ ρ S Q :=
  fun v d Hk'' H'' a b i s => q v d Hk'' H'' (e.trans a) b i s
theorem Goal.now {rw' : Option Addr} {Hk0 H0 Hk H : Hp} {σ : L2.St} {S : PyData → Prop} {Q : VK} {v : V} {d : PyData} (q : Goal K rw' Hk0 H0 Hk σ ρ S Q) (c : Cfg K rw' Hk0 H0 Hk H σ ρ) (i : Is K Hk v d) (s : S d) : Q v H :=
  q v d Hk H (.refl _) c i s
/-- a new tuple, a new list -/
theorem Goal.tup {rw' : Option Addr} {Hk0 H0 Hk H : Hp} {σ : L2.St} {S : PyData → Prop} {Q : VK} {p : Addr} {vs : List V} {ds : List PyData} (q : Goal K rw' Hk0 H0 Hk σ ρ S Q) (c : Cfg K rw' Hk0 H0 Hk H σ ρ) (h : H p = none) (i : Iss K Hk vs ds) (s : S (.tuple ds)) : Q (.ref p) (upd H p (.tup vs)) :=
  q _ _ _ _ (.new (c.unk h)) (c.new h) (.tup (.of upd_same) (Iss.mono (.new (c.unk h)) _ _ i)) s
theorem Goal.lst {rw' : Option Addr} {Hk0 H0 Hk H : Hp} {σ : L2.St} {S : PyData → Prop} {Q : VK} {p : Addr} {vs : List V} {ds : List PyData} (q : Goal K rw' Hk0 H0 Hk σ ρ S Q) (c : Cfg K rw' Hk0 H0 Hk H σ ρ) (h : H p = none) (i : Iss K Hk vs ds) (s : S (.list ds)) : Q (.ref p) (upd H p (.lst vs)) :=
  q _ _ _ _ (.new (c.unk h)) (c.new h) (.lst upd_same (Iss.mono (.new (c.unk h)) _ _ i)) s

theorem ex_of {e : Expr} {t : TE} {S : PyData → Prop} (hp : ∀ v, PE (F.cx v) e t)
    (h : ∀ rw' Hk0 H0 Hk H σ (Q : VK), Cfg F.K rw' Hk0 H0 Hk H σ ρ → Goal F.K rw' Hk0 H0 Hk σ ρ S Q → t σ H Q) : EX F ρ e S :=
  fun rw' Hk0 H0 Hk H σ Q c q => ⟨t, hp, h rw' Hk0 H0 Hk H σ Q c q⟩
theorem et_of {e : Expr} {t : TT} {S : Bool → Prop} (hp : ∀ v, PT (F.cx v) e t)
    (h : ∀ rw' Hk0 H0 Hk H σ (Q : Bool → Hp → Prop), Cfg F.K rw' Hk0 H0 Hk H σ ρ → (∀ b Hk' H', Ex Hk Hk' → Cfg F.K rw' Hk0 H0 Hk' H' σ ρ → S b → Q b H') → t σ H Q) : ET F ρ e S :=
  fun rw' Hk0 H0 Hk H σ Q c q => ⟨t, hp, h rw' Hk0 H0 Hk H σ Q c q⟩

/-! ### names, constants -/
theorem ex_name {x : Str} {pos : Pos} {d : PyData} (i : Nat) (hr : ρ[i]? = some (some (.im d)) := by rfl) (hN : F.N[i]? = some x := by rfl) (hv : Vis F.sc x := by first | exact Or.inl rfl | exact Or.inr (Or.inl rfl) | exact Or.inr (Or.inr rfl))
    (hd : (x == ("__debug__" : Str)) = false := by decide) (hcd : (x == ("__classdict__" : Str)) = false := by decide) : EV F ρ (.Name x pos) d :=
  ex_of (fun v => pe_var (i := i) hN hv hd hcd) fun rw' Hk0 H0 Hk H σ Q c q => by
    obtain ⟨v, e, h⟩ := c.im i d hr
    exact ⟨v, e, q.now c h rfl⟩
theorem ex_int {i : Int} {j pos} : EV F ρ (.Constant (.int i) j pos) (.int i) := ex_of (fun _ => pe_int) fun _ _ _ _ _ _ _ c q => q.now c (.int i) rfl
theorem ex_bl {b : Bool} {j pos} : EV F ρ (.Constant (.bool b) j pos) (.bool b) := ex_of (fun _ => pe_bl) fun _ _ _ _ _ _ _ c q => q.now c (.bl b) rfl

/-! ### operators -/
section
variable {a b : Expr} {pos : Pos} {Sa Sb S : PyData → Prop} {r : R2}
theorem two {t : TE} {rw' : Option Addr} {Hk0 H0 Hk H : Hp} {σ : L2.St} {Q : VK} (ha : EX F ρ a Sa) (hb : EX F ρ b Sb) (h : ∀ x y, Sa x → Sb y → R2D F.K r x y S) (c : Cfg F.K rw' Hk0 H0 Hk H σ ρ) (q : Goal F.K rw' Hk0 H0 Hk σ ρ S Q) :
    tOp r (wE F a) (wE F b) σ H Q :=
  ha _ _ _ _ _ _ _ c fun x da Hk1 H1 e1 c1 i1 s1 => hb _ _ _ _ _ _ _ c1 fun y db Hk2 H2 e2 c2 i2 s2 => h da db s1 s2 x y _ _ _ _ _ _ _ Q c2 (Is.mono e2 _ _ i1) i2 (q.mono (e1.trans e2))
theorem ex_op {op : Operator} (ho : ∀ v, OpR (F.cx v) (binaryOp op) r) (ha : EX F ρ a Sa) (hb : EX F ρ b Sb) (h : ∀ x y, Sa x → Sb y → R2D F.K r x y S) : EX F ρ (.BinOp a op b pos) S :=
  ex_of (fun v => pe_op (ho v) pe_w pe_w) fun _ _ _ _ _ _ _ c q => two (t := tOp r (wE F a) (wE F b)) ha hb h c q
theorem ex_cmp {op : CmpOp} (ho : ∀ v, OpR (F.cx v) (compareOp op) r) (ha : EX F ρ a Sa) (hb : EX F ρ b Sb) (hm : behindInMarks op b = false) (h : ∀ x y, Sa x → Sb y → R2D F.K r x y S) : EX F ρ (.Compare a [op] [b] pos) S :=
  ex_of (fun v => pe_cmpR (ho v) pe_w pe_w hm) fun _ _ _ _ _ _ _ c q => two (t := tOp r (wE F a) (wE F b)) ha hb h c q
theorem ex_ix (hr : ∀ v, IxR (F.cx v) r) (ha : EX F ρ a Sa) (hb : EX F ρ b Sb) (hs : PlainIx b) (h : ∀ x y, Sa x → Sb y → R2D F.K r x y S) : EX F ρ (.Subscript a b pos) S :=
  ex_of (fun v => pe_ix (hr v) pe_w pe_w hs) fun _ _ _ _ _ _ _ c q => two (t := tOp r (wE F a) (wE F b)) ha hb h c q
theorem ex_un {op : UnaryOp} {r : V → Hp → VK → Prop} (ho : ∀ v, UnR (F.cx v) (unaryOp op) r) (ha : EX F ρ a Sa) (h : ∀ x, Sa x → R1D F.K r x S) : EX F ρ (.UnaryOp op a pos) S :=
  ex_of (fun v => pe_un (ho v) pe_w) fun _ _ _ _ _ _ _ c q => ha _ _ _ _ _ _ _ c fun x da Hk1 H1 e1 c1 i1 s1 => h da s1 x _ _ _ _ _ _ _ _ c1 i1 (q.mono e1)
end

/-! ### arguments -/
theorem ea_nil : AV F ρ [] [] := fun _ _ _ Hk H _ _ c q => ⟨tNil, fun _ => pa_nil, q [] [] Hk H (.refl _) c .nil rfl⟩
theorem ea_cons {e : Expr} {es : List Expr} {S : PyData → Prop} {Ss : List PyData → Prop} (h : EX F ρ e S) (hs : EA F ρ es Ss) (hst : ∀ v, starEach (e :: es) (F.cx v).env = (false, eval e (F.cx v).env) :: starEach es (F.cx v).env := by intro _; rfl) :
    EA F ρ (e :: es) (fun ds => ∃ d r, ds = d :: r ∧ S d ∧ Ss r) := fun _ _ _ Hk H _ Q c q =>
  ⟨tCons (wE F e) (wA F es), fun v => pa_cons pe_w pa_w (hst v), h _ _ _ _ _ _ _ c fun x d Hk1 H1 e1 c1 i1 s1 => hs _ _ _ _ _ _ _ c1 fun xs ds Hk2 H2 e2 c2 i2 s2 =>
    q (x :: xs) (d :: ds) Hk2 H2 (e1.trans e2) c2 (.cons (Is.mono e2 _ _ i1) i2) ⟨d, ds, rfl, s1, s2⟩⟩
theorem av_cons {e : Expr} {es : List Expr} {d : PyData} {ds : List PyData} (h : EV F ρ e d) (hs : AV F ρ es ds) (hst : ∀ v, starEach (e :: es) (F.cx v).env = (false, eval e (F.cx v).env) :: starEach es (F.cx v).env := by intro _; rfl) :
    AV F ρ (e :: es) (d :: ds) := fun _ _ _ Hk H _ Q c q => ea_cons h hs hst _ _ _ _ _ _ _ c fun vs es' Hk' H' a b i s => q vs es' Hk' H' a b i (by obtain ⟨d', r, rfl, rfl, rfl⟩ := s; rfl)
theorem EA.weak {es : List Expr} {S S' : List PyData → Prop} (h : EA F ρ es S) (k : ∀ d, S d → S' d) : EA F ρ es S' := fun rw' Hk0 H0 Hk H σ Q c q =>
  h rw' Hk0 H0 Hk H σ Q c fun v d Hk' H' a b i s => q v d Hk' H' a b i (k d s)

/-! ### displays -/
theorem ex_tup {es : List Expr} {k pos} {Ss : List PyData → Prop} {S : PyData → Prop} (h : EA F ρ es Ss) (hl : ∀ ds, Ss ds → ds.length ≤ 1000 ∧ S (.tuple ds)) : EX F ρ (.Tuple es k pos) S :=
  ex_of (fun _ => pe_tup pa_w) fun _ _ _ _ _ _ _ c q => h _ _ _ _ _ _ _ c fun vs ds Hk1 H1 e1 c1 i1 s1 => ⟨by rw [i1.length]; exact Nat.le_trans (hl ds s1).1 (by decide), fun p hp => (q.mono e1).tup c1 hp i1 (hl ds s1).2⟩
theorem ex_lst {es : List Expr} {pos} {Ss : List PyData → Prop} {S : PyData → Prop} (h : EA F ρ es Ss) (hl : ∀ ds, Ss ds → ds.length ≤ 1000 ∧ S (.list ds)) : EX F ρ (.List es pos) S :=
  ex_of (fun _ => pe_lst pa_w) fun _ _ _ _ _ _ _ c q => h _ _ _ _ _ _ _ c fun vs ds Hk1 H1 e1 c1 i1 s1 => ⟨by rw [i1.length]; exact Nat.le_trans (hl ds s1).1 (by decide), fun p hp => (q.mono e1).lst c1 hp i1 (hl ds s1).2⟩
theorem ev_tup {es : List Expr} {k pos} {ds : List PyData} (h : AV F ρ es ds) (hl : ds.length ≤ 1000 := by exact Nat.le_of_ble_eq_true rfl) : EV F ρ (.Tuple es k pos) (.tuple ds) := ex_tup h fun _ e => by subst e; exact ⟨hl, rfl⟩
theorem ev_lst {es : List Expr} {pos} {ds : List PyData} (h : AV F ρ es ds) (hl : ds.length ≤ 1000 := by exact Nat.le_of_ble_eq_true rfl) : EV F ρ (.List es pos) (.list ds) := ex_lst h fun _ e => by subst e; exact ⟨hl, rfl⟩

/-! ### calls of built-ins -/
section
variable {x : Str} {e : Expr} {es : List Expr} {p pos : Pos} {Ss : List PyData → Prop} {S : PyData → Prop} {r : List V → Hp → VK → Prop} {id : String}
theorem ex_callB (hc : ∀ v, CallR (F.cx v) (.builtin id) r) (hm : F.mg x = none) (hv : bootBuiltins x = some (.builtin id)) (ha : EA F ρ (e :: es) Ss) (h : ∀ ds, Ss ds → RCD F.K r ds S) (hg : F.sc.names.lookup x = some .globalImplicit := by rfl) (hn : x ≠ "__name__" := by decide) (hdb : (x == ("__debug__" : Str)) = false := by decide)
    (he : ∀ v, starEach (e :: es) (F.cx v).env = (false, eval e (F.cx v).env) :: starEach es (F.cx v).env := by intro _; rfl) (hpl : ∀ v, (backTo pos (starEach es (F.cx v).env)).any (·.1) = false := by intro _; rfl) : EX F ρ (.Call (.Name x p) (e :: es) [] pos) S :=
  ex_of (fun v => pe_callB (hc v) hg hm hv pa_w hn hdb (he v) (hpl v)) fun _ _ _ _ _ _ _ c q => ha _ _ _ _ _ _ _ c fun vs ds Hk1 H1 e1 c1 i1 s1 => h ds s1 vs _ _ _ _ _ _ _ _ c1 i1 (q.mono e1)
theorem ex_callTy (hc : ∀ v, CallR (F.cx v) (.type id) r) (hm : F.mg x = none) (hv : bootBuiltins x = some (.type id)) (ha : EA F ρ (e :: es) Ss) (h : ∀ ds, Ss ds → RCD F.K r ds S) (hg : F.sc.names.lookup x = some .globalImplicit := by rfl) (hn : x ≠ "__name__" := by decide) (hdb : (x == ("__debug__" : Str)) = false := by decide)
    (he : ∀ v, starEach (e :: es) (F.cx v).env = (false, eval e (F.cx v).env) :: starEach es (F.cx v).env := by intro _; rfl) (hpl : ∀ v, (backTo pos (starEach es (F.cx v).env)).any (·.1) = false := by intro _; rfl) : EX F ρ (.Call (.Name x p) (e :: es) [] pos) S :=
  ex_of (fun v => pe_callTy (hc v) hg hm hv pa_w hn hdb (he v) (hpl v)) fun _ _ _ _ _ _ _ c q => ha _ _ _ _ _ _ _ c fun vs ds Hk1 H1 e1 c1 i1 s1 => h ds s1 vs _ _ _ _ _ _ _ _ c1 i1 (q.mono e1)
end

/-! ### what a def of data promises -/
def spR (K : PySem.W.Frag) (n : Nat) (Pre : List PyData → Prop) (R : List PyData → PyData → Prop) : Sp := fun vs H Q _ => vs.length = n ∧ ∃ Hk ds, Ex Hk H ∧ Iss K Hk vs ds ∧ Pre ds ∧
  ∀ v d Hk' H', Ex Hk Hk' → Ex H H' → Ex Hk' H' → (∀ a o, Hk' a = some o → Hk a = none → H a = none) → Is K Hk' v d → R ds d → Q v H'
section
variable {x : Str} {e : Expr} {es : List Expr} {p pos : Pos} {Ss : List PyData → Prop} {S : PyData → Prop} {Pre : List PyData → Prop} {R : List PyData → PyData → Prop} {f : Addr} {fd : FuncData} {ps : List Str} {k n : Nat}
theorem ex_call (G : FnOk F.P F.w F.K F.mg F.base CX0 k f fd ps (spR F.K n Pre R)) (hr : Room k F.A) (hm : F.mg x = some (.ref f)) (hk : PySem.W.keepIn F.K (.ref f) = true) (hb : Binds F.K fd ps [])
    (ha : EA F ρ (e :: es) Ss) (hl : (e :: es).length = n) (h : ∀ ds, Ss ds → ds.length = n ∧ Pre ds ∧ ∀ d, R ds d → S d) (hg : F.sc.names.lookup x = some .globalImplicit := by rfl) (hdb : (x == ("__debug__" : Str)) = false := by decide)
    (he : ∀ v, starEach (e :: es) (F.cx v).env = (false, eval e (F.cx v).env) :: starEach es (F.cx v).env := by intro _; rfl) (hpl : ∀ v, (backTo pos (starEach es (F.cx v).env)).any (·.1) = false := by intro _; rfl) : EX F ρ (.Call (.Name x p) (e :: es) [] pos) S :=
  ex_of (fun v => pe_call G hr hg hm hk hb .nil pass0 pa_w hdb (he v) (hpl v)) fun _ _ _ _ _ _ _ c q => ha _ _ _ _ _ _ _ c fun vs ds Hk1 H1 e1 c1 i1 s1 => by
    rw [List.append_nil]
    obtain ⟨h1, h2, h3⟩ := h ds s1
    exact ⟨by rw [i1.length]; exact h1, Hk1, ds, c1.e3, i1, h2, fun v d Hk' H' a b cc f' i r => (q.mono e1) v d Hk' H' a (c1.step a b cc f') i (h3 d r)⟩
end

/-! ### tests -/
section
variable {a b c : Expr} {pos : Pos} {S S' : Bool → Prop} {rest : List Expr}
theorem et_val {e : Expr} (h : EX F ρ e (fun d => ∃ b, d = .bool b ∧ S b)) (he : ∀ v whole, isTrue e (F.cx v).env whole = (do let v ← whole; standAt e.pos; holding [v] (truthy v)) := by intro _ _; rfl) : ET F ρ e S :=
  et_of (fun v => pt_val pe_w (he v)) fun _ _ _ _ _ _ Q cc q => h _ _ _ _ _ _ _ cc fun x d Hk' H' e1 c1 i1 s1 => by
    obtain ⟨b, rfl, s⟩ := s1
    cases i1
    exact ⟨b, rfl, q b Hk' H' e1 c1 s⟩
theorem tv_val {e : Expr} {b : Bool} (h : EV F ρ e (.bool b)) (he : ∀ v whole, isTrue e (F.cx v).env whole = (do let v ← whole; standAt e.pos; holding [v] (truthy v)) := by intro _ _; rfl) : TV F ρ e b := et_val (h.weak fun d e => ⟨b, e, rfl⟩) he
theorem et_cmp {op : CmpOp} {r : R2} {Sa Sb : PyData → Prop} (ho : ∀ v, OpR (F.cx v) (compareOp op) r) (ha : EX F ρ a Sa) (hb : EX F ρ b Sb) (hm : behindInMarks op b = false) (h : ∀ x y, Sa x → Sb y → R2D F.K r x y (fun d => ∃ b, d = .bool b ∧ S b)) : ET F ρ (.Compare a [op] [b] pos) S :=
  et_of (fun v => pt_cmpR (ho v) pe_w pe_w hm) fun _ _ _ _ _ _ Q cc q => by
    show tOp r (wE F a) (wE F b) _ _ _
    refine two (t := tOp r (wE F a) (wE F b)) ha hb h cc fun x d Hk' H' e1 c1 i1 s1 => ?_
    obtain ⟨b, rfl, s⟩ := s1
    cases i1
    exact ⟨b, rfl, q b Hk' H' e1 c1 s⟩
theorem et_not (h : ET F ρ a S) : ET F ρ (.UnaryOp .Not a pos) (fun b => ∃ b', b = !b' ∧ S b') :=
  et_of (fun v => pt_not pt_w) fun _ _ _ _ _ _ Q cc q => h _ _ _ _ _ _ _ cc fun b Hk' H' e1 c1 s => q _ Hk' H' e1 c1 ⟨b, rfl, s⟩
theorem tv_not {k : Bool} (h : TV F ρ a k) : TV F ρ (.UnaryOp .Not a pos) (!k) := (et_not h).weak fun b ⟨b', e, e'⟩ => by rw [e, e']
/-- and, or: whatever its whole is -/
def wW (F : Fx) (e : Expr) : TT := fun σ H Q => ∃ t : TT, (∀ v, PW (F.cx v) e t) ∧ t σ H Q
theorem pw_w {v : Vr} {e : Expr} : PW (F.cx v) e (wW F e) := ⟨fun wh pins s σ H Q I h => by obtain ⟨t, ht, h⟩ := h; exact (ht v).run wh pins s σ H Q I h⟩
def EW (F : Fx) (ρ : Dn) (e : Expr) (S : Bool → Prop) : Prop :=
  ∀ rw' Hk0 H0 Hk H σ (Q : Bool → Hp → Prop), Cfg F.K rw' Hk0 H0 Hk H σ ρ → (∀ b Hk' H', Ex Hk Hk' → Cfg F.K rw' Hk0 H0 Hk' H' σ ρ → S b → Q b H') → wW F e σ H Q
theorem EW.et {e : Expr} (h : EW F ρ e S) : ET F ρ e S := et_of (fun v => PW.pt pw_w) h
theorem EW.weak {e : Expr} (h : EW F ρ e S) (k : ∀ b, S b → S' b) : EW F ρ e S' := fun rw' Hk0 H0 Hk H σ Q c q =>
  h rw' Hk0 H0 Hk H σ Q c fun b Hk' H' a cc s => q b Hk' H' a cc (k b s)
theorem EW.is {e : Expr} {k k' : Bool} (h : EW F ρ e (fun z => z = k)) (q : k = k') : EW F ρ e (fun z => z = k') := by rw [← q]; exact h
theorem ew_and1 (h : ET F ρ a S) : EW F ρ (.BoolOp .And [a] pos) S := fun _ _ _ _ _ _ Q c q => ⟨wT F a, fun v => pw_and1 pt_w, h _ _ _ _ _ _ Q c q⟩
theorem ew_or1 (h : ET F ρ a S) : EW F ρ (.BoolOp .Or [a] pos) S := fun _ _ _ _ _ _ Q c q => ⟨wT F a, fun v => pw_or1 pt_w, h _ _ _ _ _ _ Q c q⟩
theorem ew_and {k k' : Bool} (h : TV F ρ a k) (hb : k = true → EW F ρ (.BoolOp .And (b :: rest) pos) (fun z => z = k')) : EW F ρ (.BoolOp .And (a :: b :: rest) pos) (fun z => z = (k && k')) :=
  fun _ _ _ _ _ _ Q c q => ⟨tAnd (wT F a) (wW F (.BoolOp .And (b :: rest) pos)), fun v => pw_and pt_w pw_w, h _ _ _ _ _ _ _ c fun b Hk' H' e1 c1 s => by
    subst s
    cases b with
    | true =>
      rw [if_pos rfl]
      exact hb rfl _ _ _ _ _ _ _ c1 fun b Hk2 H2 e2 c2 s => q b Hk2 H2 (e1.trans e2) c2 (by rw [s, Bool.true_and])
    | false =>
      rw [if_neg Bool.false_ne_true]
      exact q _ Hk' H' e1 c1 rfl⟩
theorem ew_or {k k' : Bool} (h : TV F ρ a k) (hb : k = false → EW F ρ (.BoolOp .Or (b :: rest) pos) (fun z => z = k')) : EW F ρ (.BoolOp .Or (a :: b :: rest) pos) (fun z => z = (k || k')) :=
  fun _ _ _ _ _ _ Q c q => ⟨tOr (wT F a) (wW F (.BoolOp .Or (b :: rest) pos)), fun v => pw_or pt_w pw_w, h _ _ _ _ _ _ _ c fun b Hk' H' e1 c1 s => by
    subst s
    cases b with
    | false =>
      rw [if_neg Bool.false_ne_true]
      exact hb rfl _ _ _ _ _ _ _ c1 fun b Hk2 H2 e2 c2 s => q b Hk2 H2 (e1.trans e2) c2 (by rw [s, Bool.false_or])
    | true =>
      rw [if_pos rfl]
      exact q _ Hk' H' e1 c1 rfl⟩
end

/-! ### bools as values, if as a value, chains -/
section
variable {a b c : Expr} {pos : Pos} {S : PyData → Prop} {rest : List Expr} {op : BoolOp}
theorem ev_one {k : PyData} (h : EV F ρ a k) : EV F ρ (.BoolOp op [a] pos) k := ex_of (fun v => pe_one pe_w) h
theorem ev_and {k k' : Bool} (h : EV F ρ a (.bool k)) (hb : k = true → EV F ρ (.BoolOp .And (b :: rest) pos) (.bool k')) : EV F ρ (.BoolOp .And (a :: b :: rest) pos) (.bool (k && k')) :=
  ex_of (fun v => pe_and pe_w pe_w) fun _ _ _ _ _ _ Q c q => h _ _ _ _ _ _ _ c fun x d Hk' H' e1 c1 i1 s => by
    subst s
    cases i1
    refine ⟨k, rfl, ?_⟩
    cases k with
    | true =>
      rw [if_pos rfl]
      exact hb rfl _ _ _ _ _ _ _ c1 fun y d2 Hk2 H2 e2 c2 i2 s => q _ _ Hk2 H2 (e1.trans e2) c2 i2 (by rw [s, Bool.true_and])
    | false =>
      rw [if_neg Bool.false_ne_true]
      exact q _ _ Hk' H' e1 c1 (.bl false) rfl
theorem ev_or {k k' : Bool} (h : EV F ρ a (.bool k)) (hb : k = false → EV F ρ (.BoolOp .Or (b :: rest) pos) (.bool k')) : EV F ρ (.BoolOp .Or (a :: b :: rest) pos) (.bool (k || k')) :=
  ex_of (fun v => pe_or pe_w pe_w) fun _ _ _ _ _ _ Q c q => h _ _ _ _ _ _ _ c fun x d Hk' H' e1 c1 i1 s => by
    subst s
    cases i1
    refine ⟨k, rfl, ?_⟩
    cases k with
    | false =>
      rw [if_neg Bool.false_ne_true]
      exact hb rfl _ _ _ _ _ _ _ c1 fun y d2 Hk2 H2 e2 c2 i2 s => q _ _ Hk2 H2 (e1.trans e2) c2 i2 (by rw [s, Bool.false_or])
    | true =>
      rw [if_pos rfl]
      exact q _ _ Hk' H' e1 c1 (.bl true) rfl
theorem ev_not {k : Bool} (h : EV F ρ a (.bool k)) : EV F ρ (.UnaryOp .Not a pos) (.bool (!k)) :=
  ex_of (fun v => pe_not pe_w) fun _ _ _ _ _ _ Q c q => h _ _ _ _ _ _ _ c fun x d Hk' H' e1 c1 i1 s => by
    subst s
    cases i1
    exact ⟨k, rfl, q _ _ Hk' H' e1 c1 (.bl (!k)) rfl⟩
theorem ex_if {T : Bool → Prop} (h : ET F ρ c T) (h1 : T true → EX F ρ a S) (h2 : T false → EX F ρ b S) : EX F ρ (.IfExp c a b pos) S :=
  ex_of (fun v => pe_ifExp pt_w pe_w pe_w) fun _ _ _ _ _ _ Q c q => h _ _ _ _ _ _ _ c fun k Hk' H' e1 c1 s => by
    cases k with
    | true =>
      rw [if_pos rfl]
      exact h1 s _ _ _ _ _ _ _ c1 (q.mono e1)
    | false =>
      rw [if_neg Bool.false_ne_true]
      exact h2 s _ _ _ _ _ _ _ c1 (q.mono e1)
/-- a < b < c -/
theorem ev_chain {op op' : CmpOp} {r r' : R2} {x y z : PyData} {k k' : Bool} (ho : ∀ v, OpR (F.cx v) (compareOp op) r) (ho' : ∀ v, OpR (F.cx v) (compareOp op') r') (ha : EV F ρ a x) (hb : EV F ρ b y) (hc : k = true → EV F ρ c z)
    (h : R2D F.K r x y (fun d => d = .bool k)) (h' : k = true → R2D F.K r' y z (fun d => d = .bool k')) (hm : lastMarks [op, op'] [b, c] = false := by with_unfolding_all rfl) : EV F ρ (.Compare a [op, op'] [b, c] pos) (.bool (k && k')) :=
  ex_of (fun v => pe_chain (ho v) (ho' v) pe_w pe_w pe_w hm) fun _ _ _ _ _ _ Q cc q => ha _ _ _ _ _ _ _ cc fun x' d1 Hk1 H1 e1 c1 i1 s1 => hb _ _ _ _ _ _ _ c1 fun y' d2 Hk2 H2 e2 c2 i2 s2 => by
    subst s1
    subst s2
    refine h x' y' _ _ _ _ _ _ _ _ c2 (Is.mono e2 _ _ i1) i2 fun w' d3 Hk3 H3 e3 c3 i3 s3 => ?_
    subst s3
    cases i3
    refine ⟨k, rfl, ?_⟩
    cases k with
    | true =>
      rw [if_pos rfl]
      exact hc rfl _ _ _ _ _ _ _ c3 fun z' d4 Hk4 H4 e4 c4 i4 s4 => by
        subst s4
        exact h' rfl y' z' _ _ _ _ _ _ _ _ c4 (Is.mono (e3.trans e4) _ _ i2) i4 fun v5 d5 Hk5 H5 e5 c5 i5 s5 => q v5 d5 Hk5 H5 ((e1.trans e2).trans ((e3.trans e4).trans e5)) c5 i5 (by rw [s5, Bool.true_and])
    | false =>
      rw [if_neg Bool.false_ne_true]
      exact q _ _ Hk3 H3 ((e1.trans e2).trans e3) c3 (.bl false) rfl
end
end
end Lp

/-! LpC: what is walked, targets, statements, comprehensions, defs. -/
namespace Lp
open PySem PySem.Spec L2

/-! ### wiping -/
def wipeD (ρ : Dn) : List Nat → Dn
  | [] => ρ
  | v :: vs => (wipeD ρ vs).set v none
theorem wipe_set (σ : L2.St) (j : Nat) (x : Option V) : ∀ vs : List Nat, j ∈ vs → wipe (σ.set j x) vs = wipe σ vs
  | [], h => absurd h (by simp)
  | v :: vs, h => by
    have key : ∀ vs : List Nat, j ∉ vs → wipe (σ.set j x) vs = (wipe σ vs).set j x := by
      intro vs
      induction vs with
      | nil => intro _; rfl
      | cons a r ih =>
        intro hn
        simp only [List.mem_cons, not_or] at hn
        show (wipe (σ.set j x) r).set a none = ((wipe σ r).set a none).set j x
        rw [ih hn.2, List.set_comm _ _ hn.1]
    show (wipe (σ.set j x) vs).set v none = (wipe σ vs).set v none
    by_cases hj : j ∈ vs
    · rw [wipe_set σ j x vs hj]
    · rcases List.mem_cons.mp h with e | e
      · subst e
        rw [key vs hj, List.set_set]
      · exact absurd e hj
def NoOw (ρ : Dn) : Prop := ∀ (i : Nat) ds, ρ[i]? ≠ some (some (.ow ds))
theorem noOw_no {ρ : Dn} : NoOw (noOw ρ) := fun _ _ => noOw_ow
theorem NoOw.wipe {ρ : Dn} (h : NoOw ρ) : ∀ vs, NoOw (wipeD ρ vs)
  | [] => h
  | v :: vs => fun i ds e => by
    rcases set_cases e with ⟨rfl, e, hl⟩ | ⟨hj, e⟩
    · cases e
    · exact NoOw.wipe h vs i ds e
theorem NoOw.put {ρ : Dn} (h : NoOw ρ) (i : Nat) (d : PyData) : NoOw (ρ.set i (some (.im d))) := fun j ds e => by
  rcases set_cases e with ⟨rfl, e, hl⟩ | ⟨hj, e⟩
  · cases e
  · exact h j ds e
section
variable {K : PySem.W.Frag} {rw' : Option Addr} {Hk0 H0 Hk H Hk' H' : Hp} {σ : L2.St} {ρ : Dn}
theorem Cfg.drop (c : Cfg K rw' Hk0 H0 Hk H σ ρ) (i : Nat) : Cfg K rw' Hk0 H0 Hk H (σ.set i none) (ρ.set i none) := by
  refine ⟨c.e1, c.e2, c.e3, c.fr, c.rk, fun j d' e => ?_, fun j ds e => ?_, fun j e => ?_, fun j k ds ds' e e' => ?_, by rw [List.length_set, List.length_set]; exact c.len⟩
  · rcases set_cases e with ⟨rfl, e, hl⟩ | ⟨hj, e⟩
    · cases e
    · rw [List.getElem?_set_ne (Ne.symm hj)]
      exact c.im j d' e
  · rcases set_cases e with ⟨rfl, e, hl⟩ | ⟨hj, e⟩
    · cases e
    · rw [List.getElem?_set_ne (Ne.symm hj)]
      exact c.ow j ds e
  · rcases set_cases e with ⟨rfl, e, hl⟩ | ⟨hj, e⟩
    · cases e
    · rw [List.getElem?_set_ne (Ne.symm hj)]
      exact c.row j e
  · rcases set_cases e with ⟨rfl, e, hl⟩ | ⟨hj, e⟩
    · cases e
    · rcases set_cases e' with ⟨rfl, e', hl⟩ | ⟨hk, e'⟩
      · cases e'
      · exact c.one j k ds ds' e e'
theorem Cfg.wipe (c : Cfg K rw' Hk0 H0 Hk H σ ρ) : ∀ vs : List Nat, Cfg K rw' Hk0 H0 Hk H (wipe σ vs) (wipeD ρ vs)
  | [] => c
  | v :: vs => (c.wipe vs).drop v
theorem Cfg.frame' (c : Cfg K rw' Hk0 H0 Hk H σ ρ) (n : NoOw ρ) : Cfg K rw' Hk H Hk H σ ρ :=
  ⟨.refl _, fun _ _ h _ => h, c.e3, fun a o h n => (by rw [n] at h; cases h), fun r e => (by
    obtain ⟨h0, h1, sc, ns, i, s, cc, h2, h3, h4, h5⟩ := c.rk r e
    exact ⟨⟨_, h5⟩, h1, sc, ns, i, s, cc, h2, h3, h4, h5⟩), c.im, fun i ds e => absurd e (n i ds), c.row, c.one, c.len⟩
/-- an unknown object that is younger than the entry is changed -/
theorem Cfg.mut (c : Cfg K rw' Hk0 H0 Hk H σ ρ) (n : NoOw ρ) {p : Addr} {o : HO} (h0 : H0 p = none) (hk : Hk p = none) : Cfg K rw' Hk0 H0 Hk (upd H p o) σ ρ := by
  have hr := c.nrow h0
  refine ⟨c.e1, fun a u e m => ?_, fun a u e => ?_, c.fr, fun r e => ?_, c.im, fun i ds e => absurd e (n i ds), c.row, c.one, c.len⟩
  · rw [upd_ne (ne_of_none e h0)]
    exact c.e2 a u e m
  · rw [upd_ne (ne_of_none e hk)]
    exact c.e3 a u e
  · have hrp : r ≠ p := fun z => hr (by rw [e, z])
    obtain ⟨q0, k1, sc, ns, i', s, cc, k2, k3, k4, k5⟩ := c.rk r e
    exact ⟨q0, k1, sc, ns, i', s, cc, k2, k3, k4, by rw [upd_ne hrp]; exact k5⟩
/-- it is known from now on -/
theorem Cfg.know (c : Cfg K rw' Hk0 H0 Hk H σ ρ) (n : NoOw ρ) {p : Addr} {o : HO} (h0 : H0 p = none) (hk : Hk p = none) (h : H p = some o) : Cfg K rw' Hk0 H0 (upd Hk p o) H σ ρ := by
  have hr := c.nrow h0
  have ex : Ex Hk (upd Hk p o) := .new hk
  refine ⟨c.e1.trans ex, c.e2, fun a u e => ?_, fun a u e m => ?_, fun r e => ?_, fun i d e => ?_, fun i ds e => absurd e (n i ds), c.row, c.one, c.len⟩
  · by_cases ha : a = p
    · subst ha; rw [upd_same] at e; cases e; exact h
    · rw [upd_ne ha] at e; exact c.e3 a u e
  · by_cases ha : a = p
    · subst ha; exact h0
    · rw [upd_ne ha] at e; exact c.fr a u e m
  · have hrp : r ≠ p := fun z => hr (by rw [e, z])
    obtain ⟨q0, k1, sc, ns, i', s, cc, k2, k3, k4, k5⟩ := c.rk r e
    exact ⟨q0, by rw [upd_ne hrp]; exact k1, sc, ns, i', s, cc, ex_l ex k2, k3, k4, k5⟩
  · obtain ⟨v, q1, q2⟩ := c.im i d e
    exact ⟨v, q1, Is.mono ex _ _ q2⟩

/-! ### what is walked -/
def Nw (Hk H Hk' H' : Hp) : Prop := (Hk' = Hk ∧ H' = H) ∨ ∃ p o, H p = none ∧ Hk' = upd Hk p o ∧ H' = upd H p o
theorem Cfg.nw (c : Cfg K rw' Hk0 H0 Hk H σ ρ) (n : Nw Hk H Hk' H') : Cfg K rw' Hk0 H0 Hk' H' σ ρ := by
  rcases n with ⟨rfl, rfl⟩ | ⟨p, o, h, rfl, rfl⟩
  · exact c
  · exact c.new h
theorem Cfg.nwEx (c : Cfg K rw' Hk0 H0 Hk H σ ρ) (n : Nw Hk H Hk' H') : Ex Hk Hk' := by
  rcases n with ⟨rfl, rfl⟩ | ⟨p, o, h, rfl, rfl⟩
  · exact .refl _
  · exact .new (c.unk h)
end
def Src (K : PySem.W.Frag) (J : It) (Hk : Hp) (ds : List PyData) : Prop := ∀ Hk' H, Ex Hk Hk' → Ex Hk' H →
  J.stop ds.length H ∧ ∀ (i : Nat) d, ds[i]? = some d → J.go i H ∧ ∀ x H', J.yld i H x H' → ∃ Hk'', Nw Hk' H Hk'' H' ∧ Is K Hk'' x d
def EI (F : Fx) (ρ : Dn) (tg iter : Expr) (S : List PyData → Prop) : Prop :=
  ∀ rw' Hk0 H0 Hk H σ (R : It → Hp → Prop), Cfg F.K rw' Hk0 H0 Hk H σ ρ → (∀ J ds Hk' H', Ex Hk Hk' → Cfg F.K rw' Hk0 H0 Hk' H' σ ρ → Src F.K J Hk' ds → S ds → R J H') → wI F tg iter σ H R
def TGT (F : Fx) (ρ : Dn) (tg : Expr) (d : PyData) (ρ2 : Dn) (js : List Nat) : Prop :=
  ∀ rw' Hk0 H0 Hk H σ x (Q : L2.St → Hp → Prop), Cfg F.K rw' Hk0 H0 Hk H σ ρ → Is F.K Hk x d →
    (∀ σ', Cfg F.K rw' Hk0 H0 Hk H σ' ρ2 → (∀ vs : List Nat, (∀ j ∈ js, j ∈ vs) → wipe σ' vs = wipe σ vs) → Q σ' H) → wG F tg x σ H Q
section
variable {F : Fx} {ρ : Dn} {tg iter : Expr}
theorem ei_list {S : List PyData → Prop} (h : EX F ρ iter (fun d => ∃ ds, d = .list ds ∧ S ds)) : EI F ρ tg iter S := fun _ _ _ _ _ _ R c q =>
  ⟨iList F.K (wE F iter), fun v => pi_list pe_w, h _ _ _ _ _ _ _ c fun x d Hk1 H1 e1 c1 i1 s1 => by
    obtain ⟨ds, rfl, s⟩ := s1
    obtain ⟨a, xs, rfl, ha, hs⟩ := i1.lst_of
    refine ⟨a, rfl, ⟨xs, .of (c1.e3 _ _ ha)⟩, q _ ds Hk1 H1 e1 c1 (fun Hk' H' a1 a2 => ?_) s⟩
    have h1 : SqL F.K H' a xs := .of (a2 _ _ (a1 _ _ ha))
    refine ⟨⟨xs, h1, Nat.le_of_eq hs.length⟩, fun i d hd => ?_⟩
    obtain ⟨x, hx, ix⟩ := hs.get hd
    refine ⟨⟨xs, x, h1, hx⟩, fun y H'' hy => ?_⟩
    obtain ⟨rfl, hy⟩ := hy
    have : x = y := Option.some.inj (hx.symm.trans (hy xs h1))
    subst this
    exact ⟨Hk', .inl ⟨rfl, rfl⟩, Is.mono a1 _ _ ix⟩⟩
theorem ei_tup {S : List PyData → Prop} (h : EX F ρ iter (fun d => ∃ ds, d = .tuple ds ∧ S ds)) : EI F ρ tg iter S := fun _ _ _ _ _ _ R c q =>
  ⟨iTup F.K (wE F iter), fun v => pi_tup pe_w, h _ _ _ _ _ _ _ c fun x d Hk1 H1 e1 c1 i1 s1 => by
    obtain ⟨ds, rfl, s⟩ := s1
    obtain ⟨a, xs, rfl, ha, hs⟩ := i1.tup_of
    refine ⟨a, rfl, ⟨xs, ex_t c1.e3 ha⟩, q _ ds Hk1 H1 e1 c1 (fun Hk' H' a1 a2 => ?_) s⟩
    have h1 : SqT F.K H' a xs := ex_t (a1.trans a2) ha
    refine ⟨⟨xs, h1, Nat.le_of_eq hs.length⟩, fun i d hd => ?_⟩
    obtain ⟨x, hx, ix⟩ := hs.get hd
    refine ⟨⟨xs, x, h1, hx⟩, fun y H'' hy => ?_⟩
    obtain ⟨rfl, hy⟩ := hy
    have : x = y := Option.some.inj (hx.symm.trans (hy xs h1))
    subst this
    exact ⟨Hk', .inl ⟨rfl, rfl⟩, Is.mono a1 _ _ ix⟩⟩
def rgD (lo : Int) (n : Nat) : List PyData := (List.range n).map fun (i : Nat) => .int (lo + (i : Int))
theorem rgD_len (lo : Int) (n : Nat) : (rgD lo n).length = n := by unfold rgD; rw [List.length_map, List.length_range]
theorem rgD_get {lo : Int} {n i : Nat} {d : PyData} (h : (rgD lo n)[i]? = some d) : i < n ∧ d = .int (lo + (i : Int)) := by
  unfold rgD at h
  rw [List.getElem?_map] at h
  by_cases hi : i < n
  · rw [List.getElem?_range hi] at h
    exact ⟨hi, (Option.some.inj h).symm⟩
  · rw [List.getElem?_eq_none (by rw [List.length_range]; omega)] at h
    cases h
theorem src_rng {K : PySem.W.Frag} {Hk : Hp} (lo : Int) (n : Nat) : Src K (Itr lo n) Hk (rgD lo n) := fun Hk' H a1 a2 => by
  refine ⟨by rw [rgD_len]; exact Nat.le_refl n, fun i d hd => ?_⟩
  obtain ⟨hi, rfl⟩ := rgD_get hd
  refine ⟨hi, fun x H' hy => ?_⟩
  obtain ⟨rfl, rfl⟩ := hy
  exact ⟨Hk', .inl ⟨rfl, rfl⟩, .int _⟩
theorem ei_range1 {a : Expr} {n : Int} {p pos : Pos} (hm : F.mg "range" = none) (h : EV F ρ a (.int n)) (hn : n ≤ 1000000000) (hn' : -1000000000 ≤ n) (hg : F.sc.names.lookup ("range" : Str) = some .globalImplicit := by rfl) (hs : ∀ v, starEach [a] (F.cx v).env = [(false, eval a (F.cx v).env)] := by intro _; rfl) :
    EI F ρ tg (.Call (.Name "range" p) [a] [] pos) (fun ds => ds = rgD 0 n.toNat) := fun _ _ _ _ _ _ R c q =>
  ⟨iRng1 (wA F [a]), fun v => pi_range1 hg hm pa_w (hs v), av_cons h ea_nil (fun v => hs v) _ _ _ _ _ _ _ c fun vs ds Hk1 H1 e1 c1 i1 s1 => by
    subst s1
    cases i1 with
    | cons i1 i2 =>
      cases i2
      cases i1
      exact ⟨n, rfl, by omega, by omega, q _ _ Hk1 H1 e1 c1 (src_rng 0 n.toNat) rfl⟩⟩
theorem ei_range2 {a b : Expr} {lo n : Int} {p pos : Pos} (hm : F.mg "range" = none) (h : EV F ρ a (.int lo)) (h2 : EV F ρ b (.int n)) (hb : -1000000000 ≤ lo ∧ lo ≤ 1000000000 ∧ -1000000000 ≤ n ∧ n ≤ 1000000000) (hg : F.sc.names.lookup ("range" : Str) = some .globalImplicit := by rfl)
    (hs : ∀ v, starEach [a, b] (F.cx v).env = [(false, eval a (F.cx v).env), (false, eval b (F.cx v).env)] := by intro _; rfl) (hs2 : ∀ v, starEach [b] (F.cx v).env = [(false, eval b (F.cx v).env)] := by intro _; rfl) :
    EI F ρ tg (.Call (.Name "range" p) [a, b] [] pos) (fun ds => ds = rgD lo (n - lo).toNat) := fun _ _ _ _ _ _ R c q =>
  ⟨iRng2 (wA F [a, b]), fun v => pi_range2 hg hm pa_w (hs v) (hs2 v), av_cons h (av_cons h2 ea_nil (fun v => hs2 v)) (fun v => by rw [hs v, hs2 v]) _ _ _ _ _ _ _ c fun vs ds Hk1 H1 e1 c1 i1 s1 => by
    subst s1
    cases i1 with
    | cons i1 i2 =>
      cases i2 with
      | cons i2 i3 =>
        cases i3
        cases i1
        cases i2
        exact ⟨lo, n, rfl, by omega, q _ _ Hk1 H1 e1 c1 (src_rng lo (n - lo).toNat) rfl⟩⟩
def zipD (xs ys : List PyData) : List PyData := List.zipWith (fun a b => .tuple [a, b]) xs ys
theorem zipD_get {xs ys : List PyData} {i : Nat} {d : PyData} (h : (zipD xs ys)[i]? = some d) : ∃ a b, xs[i]? = some a ∧ ys[i]? = some b ∧ d = .tuple [a, b] := by
  unfold zipD at h
  rw [List.getElem?_zipWith] at h
  cases h1 : xs[i]? with
  | none => rw [h1] at h; simp at h
  | some a =>
    cases h2 : ys[i]? with
    | none => rw [h1, h2] at h; simp at h
    | some b =>
      rw [h1, h2] at h
      exact ⟨a, b, rfl, rfl, (Option.some.inj h).symm⟩
section
variable {e e2 : Expr} {p pos tpos : Pos} {elts : List Expr} {kk : Nat} {xs ys : List PyData}
theorem ei_zipT (hm : F.mg "zip" = none) (h1 : EV F ρ e (.tuple xs)) (h2 : EV F ρ e2 (.tuple ys)) (hl : xs.length = ys.length) (hg : F.sc.names.lookup ("zip" : Str) = some .globalImplicit := by rfl)
    (hs : ∀ v, starEach [e, e2] (F.cx v).env = (false, eval e (F.cx v).env) :: starEach [e2] (F.cx v).env := by intro _; rfl) (hs2 : ∀ v, starEach [e2] (F.cx v).env = (false, eval e2 (F.cx v).env) :: starEach [] (F.cx v).env := by intro _; rfl) (hpl : ∀ v, (backTo pos (starEach [e2] (F.cx v).env)).any (·.1) = false := by intro _; rfl) :
    EI F ρ (.Tuple elts kk tpos) (.Call (.Name "zip" p) [e, e2] [] pos) (fun ds => ds = zipD xs ys) := fun _ _ _ _ _ _ R c q =>
  ⟨RZ.iZipA F.K (wA F [e, e2]), fun v => RZ.pi_zipA hg hm pa_w (hs v) (hpl v), av_cons h1 (av_cons h2 ea_nil hs2) hs _ _ _ _ _ _ _ c fun vs ds Hk1 H1 e1 c1 i1 s1 => by
    subst s1
    cases i1 with
    | cons i1 i2 =>
      cases i2 with
      | cons i2 i3 =>
        cases i3
        obtain ⟨a, vx, rfl, ha, ix⟩ := i1.tup_of
        obtain ⟨b, vy, rfl, hb, iy⟩ := i2.tup_of
        refine ⟨a, b, vx, vy, rfl, .inr ⟨ex_t c1.e3 ha, ex_t c1.e3 hb, q _ _ Hk1 H1 e1 c1 (fun Hk' H' a1 a2 => ?_) rfl⟩⟩
        have q1 : SqT F.K H' a vx := ex_t (a1.trans a2) ha
        have q2 : SqT F.K H' b vy := ex_t (a1.trans a2) hb
        refine ⟨⟨vx, vy, q1, q2, .inl ?_⟩, fun i d hd => ?_⟩
        · unfold zipD
          rw [List.length_zipWith, ix.length, ← hl, Nat.min_self]
          exact Nat.le_refl _
        · obtain ⟨dx, dy, g1, g2, rfl⟩ := zipD_get hd
          obtain ⟨x, hx, jx⟩ := ix.get g1
          obtain ⟨y, hy, jy⟩ := iy.get g2
          refine ⟨⟨vx, vy, x, y, q1, q2, hx, hy⟩, fun z H'' hz => ?_⟩
          obtain ⟨T, x', y', rfl, nT, rfl, f1, f2⟩ := hz
          have e1 : x = x' := Option.some.inj (hx.symm.trans (f1 vx q1))
          have e2 : y = y' := Option.some.inj (hy.symm.trans (f2 vy q2))
          subst e1
          subst e2
          refine ⟨upd Hk' T (.tup [x, y]), .inr ⟨T, _, nT, rfl, rfl⟩, .tup (.of upd_same) ?_⟩
          have hk : Hk' T = none := by
            cases w : Hk' T with
            | none => rfl
            | some u => rw [a2 _ _ w] at nT; cases nT
          have ex : Ex Hk1 (upd Hk' T (.tup [x, y])) := a1.trans (.new hk)
          exact .cons (Is.mono ex _ _ jx) (.cons (Is.mono ex _ _ jy) .nil)⟩
theorem ei_zipL (hm : F.mg "zip" = none) (h1 : EV F ρ e (.list xs)) (h2 : EV F ρ e2 (.list ys)) (hl : xs.length = ys.length) (hg : F.sc.names.lookup ("zip" : Str) = some .globalImplicit := by rfl)
    (hs : ∀ v, starEach [e, e2] (F.cx v).env = (false, eval e (F.cx v).env) :: starEach [e2] (F.cx v).env := by intro _; rfl) (hs2 : ∀ v, starEach [e2] (F.cx v).env = (false, eval e2 (F.cx v).env) :: starEach [] (F.cx v).env := by intro _; rfl) (hpl : ∀ v, (backTo pos (starEach [e2] (F.cx v).env)).any (·.1) = false := by intro _; rfl) :
    EI F ρ (.Tuple elts kk tpos) (.Call (.Name "zip" p) [e, e2] [] pos) (fun ds => ds = zipD xs ys) := fun _ _ _ _ _ _ R c q =>
  ⟨RZ.iZipA F.K (wA F [e, e2]), fun v => RZ.pi_zipA hg hm pa_w (hs v) (hpl v), av_cons h1 (av_cons h2 ea_nil hs2) hs _ _ _ _ _ _ _ c fun vs ds Hk1 H1 e1 c1 i1 s1 => by
    subst s1
    cases i1 with
    | cons i1 i2 =>
      cases i2 with
      | cons i2 i3 =>
        cases i3
        obtain ⟨a, vx, rfl, ha, ix⟩ := i1.lst_of
        obtain ⟨b, vy, rfl, hb, iy⟩ := i2.lst_of
        refine ⟨a, b, vx, vy, rfl, .inl ⟨.of (c1.e3 _ _ ha), .of (c1.e3 _ _ hb), q _ _ Hk1 H1 e1 c1 (fun Hk' H' a1 a2 => ?_) rfl⟩⟩
        have q1 : SqL F.K H' a vx := .of (a2 _ _ (a1 _ _ ha))
        have q2 : SqL F.K H' b vy := .of (a2 _ _ (a1 _ _ hb))
        refine ⟨⟨vx, vy, q1, q2, .inl ?_⟩, fun i d hd => ?_⟩
        · unfold zipD
          rw [List.length_zipWith, ix.length, ← hl, Nat.min_self]
          exact Nat.le_refl _
        · obtain ⟨dx, dy, g1, g2, rfl⟩ := zipD_get hd
          obtain ⟨x, hx, jx⟩ := ix.get g1
          obtain ⟨y, hy, jy⟩ := iy.get g2
          refine ⟨⟨vx, vy, x, y, q1, q2, hx, hy⟩, fun z H'' hz => ?_⟩
          obtain ⟨T, x', y', rfl, nT, rfl, f1, f2⟩ := hz
          have e1 : x = x' := Option.some.inj (hx.symm.trans (f1 vx q1))
          have e2 : y = y' := Option.some.inj (hy.symm.trans (f2 vy q2))
          subst e1
          subst e2
          refine ⟨upd Hk' T (.tup [x, y]), .inr ⟨T, _, nT, rfl, rfl⟩, .tup (.of upd_same) ?_⟩
          have hk : Hk' T = none := by
            cases w : Hk' T with
            | none => rfl
            | some u => rw [a2 _ _ w] at nT; cases nT
          have ex : Ex Hk1 (upd Hk' T (.tup [x, y])) := a1.trans (.new hk)
          exact .cons (Is.mono ex _ _ jx) (.cons (Is.mono ex _ _ jy) .nil)⟩
end

/-! ### targets -/
theorem tgt_name {x : Str} {pos : Pos} {d : PyData} (i : Nat) (hN : F.N.Nodup) (hi : F.N[i]? = some x := by rfl) (hx : Loc F.sc x := by first | exact Or.inl rfl | exact Or.inr rfl)
    (hf : F.fn x = true ∨ F.sc.names.lookup x = some .local := by first | exact .inl rfl | exact .inr rfl) : TGT F ρ (.Name x pos) d (ρ.set i (some (.im d))) [i] := fun _ _ _ _ _ _ _ Q c h q =>
  ⟨gName i, fun v => pg_name hN hi hx hf, q _ (c.put h) fun vs hv => wipe_set _ _ _ _ (hv i List.mem_cons_self)⟩
theorem tgt_tup2 {x y : Str} {px py pos : Pos} {kk : Nat} {d1 d2 : PyData} (i j : Nat) (hN : F.N.Nodup) (hi : F.N[i]? = some x := by rfl) (hj : F.N[j]? = some y := by rfl) (hx : Loc F.sc x := by first | exact Or.inl rfl | exact Or.inr rfl) (hy : Loc F.sc y := by first | exact Or.inl rfl | exact Or.inr rfl)
    (hf : F.fn x = true ∨ F.sc.names.lookup x = some .local := by first | exact .inl rfl | exact .inr rfl) (hf2 : F.fn y = true ∨ F.sc.names.lookup y = some .local := by first | exact .inl rfl | exact .inr rfl) :
    TGT F ρ (.Tuple [.Name x px, .Name y py] kk pos) (.tuple [d1, d2]) ((ρ.set i (some (.im d1))).set j (some (.im d2))) [i, j] := fun _ _ _ _ _ _ _ Q c h q =>
  ⟨gTup F.K 2 (gCons (gName i) (gCons (gName j) gNil)), fun v => pg_tup rfl (pgs_cons (pg_name hN hi hx hf) (pgs_cons (pg_name hN hj hy hf2) pgs_nil)), by
    obtain ⟨a, xs, rfl, ha, hs⟩ := h.tup_of
    cases hs with
    | cons h1 hs =>
      cases hs with
      | cons h2 hs =>
        cases hs
        refine ⟨a, _, rfl, ex_t c.e3 ha, rfl, _, _, rfl, _, _, rfl, rfl, ?_⟩
        refine q _ ((c.put h1).put h2) fun vs hv => ?_
        rw [wipe_set _ _ _ _ (hv j (List.mem_cons_of_mem _ List.mem_cons_self)), wipe_set _ _ _ _ (hv i List.mem_cons_self)]⟩
theorem tgt_tup3 {x y z : Str} {px py pz pos : Pos} {kk : Nat} {d1 d2 d3 : PyData} (i j k : Nat) (hN : F.N.Nodup) (hi : F.N[i]? = some x := by rfl) (hj : F.N[j]? = some y := by rfl) (hk : F.N[k]? = some z := by rfl)
    (hx : Loc F.sc x := by first | exact Or.inl rfl | exact Or.inr rfl) (hy : Loc F.sc y := by first | exact Or.inl rfl | exact Or.inr rfl) (hz : Loc F.sc z := by first | exact Or.inl rfl | exact Or.inr rfl)
    (hf : F.fn x = true ∨ F.sc.names.lookup x = some .local := by first | exact .inl rfl | exact .inr rfl) (hf2 : F.fn y = true ∨ F.sc.names.lookup y = some .local := by first | exact .inl rfl | exact .inr rfl) (hf3 : F.fn z = true ∨ F.sc.names.lookup z = some .local := by first | exact .inl rfl | exact .inr rfl) :
    TGT F ρ (.Tuple [.Name x px, .Name y py, .Name z pz] kk pos) (.tuple [d1, d2, d3]) (((ρ.set i (some (.im d1))).set j (some (.im d2))).set k (some (.im d3))) [i, j, k] := fun _ _ _ _ _ _ _ Q c h q =>
  ⟨gTup F.K 3 (gCons (gName i) (gCons (gName j) (gCons (gName k) gNil))), fun v => pg_tup rfl (pgs_cons (pg_name hN hi hx hf) (pgs_cons (pg_name hN hj hy hf2) (pgs_cons (pg_name hN hk hz hf3) pgs_nil))), by
    obtain ⟨a, xs, rfl, ha, hs⟩ := h.tup_of
    cases hs with
    | cons h1 hs =>
      cases hs with
      | cons h2 hs =>
        cases hs with
        | cons h3 hs =>
          cases hs
          refine ⟨a, _, rfl, ex_t c.e3 ha, rfl, _, _, rfl, _, _, rfl, _, _, rfl, rfl, ?_⟩
          refine q _ (((c.put h1).put h2).put h3) fun vs hv => ?_
          rw [wipe_set _ _ _ _ (hv k (by simp)), wipe_set _ _ _ _ (hv j (by simp)), wipe_set _ _ _ _ (hv i List.mem_cons_self)]⟩
end

/-! ### statements -/
def ST (F : Fx) (ρ : Dn) (st : Stmt) (M : Dn → Prop) (R : PyData → Prop) : Prop :=
  ∃ t : TS, (∀ v, PS (F.cx v) st t) ∧ ∀ rw' Hk0 H0 Hk H σ (D : Ends), Cfg F.K rw' Hk0 H0 Hk H σ ρ →
    (∀ ρ' σ' Hk' H', Ex Hk Hk' → Cfg F.K rw' Hk0 H0 Hk' H' σ' ρ' → M ρ' → D.nx σ' H') →
    (∀ v d Hk' H', Ex Hk Hk' → Cfg F.K rw' Hk0 H0 Hk' H' [] [] → Is F.K Hk' v d → R d → D.rt v H') → t D σ H
def SX (F : Fx) (ρ : Dn) (sts : List Stmt) (N : Dn → Prop) (R : PyData → Prop) : Prop :=
  ∀ rw' Hk0 H0 Hk H σ (D : Ends), Cfg F.K rw' Hk0 H0 Hk H σ ρ →
    (∀ ρ' σ' Hk' H', Ex Hk Hk' → Cfg F.K rw' Hk0 H0 Hk' H' σ' ρ' → N ρ' → D.nx σ' H') →
    (∀ v d Hk' H', Ex Hk Hk' → Cfg F.K rw' Hk0 H0 Hk' H' [] [] → Is F.K Hk' v d → R d → D.rt v H') → wS F sts D σ H
section
variable {F : Fx} {ρ : Dn} {st : Stmt} {rest : List Stmt} {M N : Dn → Prop} {R : PyData → Prop} {S : PyData → Prop} {e : Expr} {pos : Pos}
theorem sx_nil (h : N ρ) : SX F ρ [] N R := fun _ _ _ Hk H σ D c nx rt => ⟨tNext, fun _ => pss_nil, nx ρ σ Hk H (.refl _) c h⟩
theorem sx_cons (h : ST F ρ st M R) (k : ∀ ρ', M ρ' → SX F ρ' rest N R) : SX F ρ (st :: rest) N R := by
  obtain ⟨t, hp, h⟩ := h
  exact fun _ _ _ Hk H σ D c nx rt => ⟨tSeq t (wS F rest), fun v => pss_cons (hp v) pss_w, h _ _ _ _ _ _ { D with nx := wS F rest D } c
    (fun ρ' σ' Hk' H' e1 c1 m => k ρ' m _ _ _ _ _ _ D c1 (fun ρ2 σ2 Hk2 H2 e2 c2 n => nx ρ2 σ2 Hk2 H2 (e1.trans e2) c2 n) fun v d Hk2 H2 e2 c2 i r => rt v d Hk2 H2 (e1.trans e2) c2 i r) rt⟩
theorem SX.weak {sts : List Stmt} {N' : Dn → Prop} {R' : PyData → Prop} (h : SX F ρ sts N R) (k : ∀ ρ', N ρ' → N' ρ') (k2 : ∀ d, R d → R' d) : SX F ρ sts N' R' := fun _ _ _ Hk H σ D c nx rt =>
  h _ _ _ _ _ _ D c (fun ρ2 σ2 Hk2 H2 e2 c2 n => nx ρ2 σ2 Hk2 H2 e2 c2 (k ρ2 n)) fun v d Hk2 H2 e2 c2 i r => rt v d Hk2 H2 e2 c2 i (k2 d r)
/-- x = e -/
theorem sx_set {x : Str} {pos' : Pos} (i : Nat) (hN : F.N.Nodup) (he : EX F ρ e S) (k : ∀ d, S d → SX F (ρ.set i (some (.im d))) rest N R) (hi : F.N[i]? = some x := by rfl) (hx : Loc F.sc x := by first | exact Or.inl rfl | exact Or.inr rfl)
    (hs : ∀ v, swapsWith e (some (.Name x pos')) pos.line (F.cx v).env = pure false := by intro _; rfl) (hf : F.fn x = true ∨ F.sc.names.lookup x = some .local := by first | exact .inl rfl | exact .inr rfl) : SX F ρ (.Assign [.Name x pos'] e pos :: rest) N R :=
  sx_cons (M := fun ρ' => ∃ d, S d ∧ ρ' = ρ.set i (some (.im d))) ⟨tAsg (wE F e) (gName i), fun v => ps_set hN hi hx pe_w (hs v) hf, fun _ _ _ Hk H σ D c nx rt => he _ _ _ _ _ _ _ c fun v d Hk' H' e1 c1 i1 s1 => nx _ _ Hk' H' e1 (c1.put i1) ⟨d, s1, rfl⟩⟩
    fun ρ' ⟨d, s, e⟩ => by rw [e]; exact k d s
/-- target = e, a tuple unpacked -/
theorem sx_unp {tg : Expr} {ρ2 : PyData → Dn} {js : List Nat} (he : EX F ρ e S) (ht : ∀ d, S d → TGT F ρ tg d (ρ2 d) js) (k : ∀ d, S d → SX F (ρ2 d) rest N R)
    (hs : ∀ v, swapsWithSole [tg] e pos.line (F.cx v).env = pure false := by intro _; rfl) (hw : ∀ v, swappedStores [tg] e (F.cx v).env = pure none := by intro _; rfl) (h1 : ∀ v, (assignEach [tg] (F.cx v).env).map (·.2) = [assign tg (F.cx v).env] := by intro _; rfl) : SX F ρ (.Assign [tg] e pos :: rest) N R :=
  sx_cons (M := fun ρ' => ∃ d, S d ∧ ρ' = ρ2 d) ⟨tAsg (wE F e) (wG F tg), fun v => ps_asg pe_w pg_w (hs v) (hw v) (h1 v), fun _ _ _ Hk H σ D c nx rt => he _ _ _ _ _ _ _ c fun v d Hk' H' e1 c1 i1 s1 =>
    ht d s1 _ _ _ _ _ _ _ _ c1 i1 fun σ' c2 _ => nx _ _ Hk' H' e1 c2 ⟨d, s1, rfl⟩⟩
    fun ρ' ⟨d, s, e⟩ => by rw [e]; exact k d s
/-- a, b = e1, e2 (local names) -/
theorem sx_par {x y : Str} {a b : Expr} {px py pt : Pos} {kt : Nat} {k2 pt2} {S1 S2 : PyData → Prop} (i j : Nat) (hN : F.N.Nodup) (ha : EX F ρ a S1) (hb : EX F ρ b S2) (k : ∀ d1 d2, S1 d1 → S2 d2 → SX F ((ρ.set i (some (.im d1))).set j (some (.im d2))) rest N R)
    (hi : F.N[i]? = some x := by rfl) (hj : F.N[j]? = some y := by rfl) (hij : i ≠ j := by decide) (hx : F.sc.names.lookup x = some .local := by rfl) (hy : F.sc.names.lookup y = some .local := by rfl)
    (hw : ∀ v, swappedStores [.Tuple [.Name x px, .Name y py] kt pt] (.Tuple [a, b] k2 pt2) (F.cx v).env = pure (some [x, y]) := by intro _; rfl) (hs : ∀ v, swapsWithSole [.Tuple [.Name x px, .Name y py] kt pt] (.Tuple [a, b] k2 pt2) pos.line (F.cx v).env = pure false := by intro _; rfl)
    (hst : ∀ v, starEach [a, b] (F.cx v).env = (false, eval a (F.cx v).env) :: starEach [b] (F.cx v).env := by intro _; rfl) (hst2 : ∀ v, starEach [b] (F.cx v).env = (false, eval b (F.cx v).env) :: starEach [] (F.cx v).env := by intro _; rfl) :
    SX F ρ (.Assign [.Tuple [.Name x px, .Name y py] kt pt] (.Tuple [a, b] k2 pt2) pos :: rest) N R :=
  sx_cons (M := fun ρ' => ∃ d1 d2, S1 d1 ∧ S2 d2 ∧ ρ' = (ρ.set i (some (.im d1))).set j (some (.im d2))) ⟨tPar i j (wA F [a, b]), fun v => ps_par rfl hN hi hj hij hx hy pa_w (hw v) (hs v), fun _ _ _ Hk H σ D c nx rt =>
    ea_cons ha (ea_cons hb ea_nil hst2) hst _ _ _ _ _ _ _ c fun vs ds Hk' H' e1 c1 i1 s1 => by
      obtain ⟨d1, r, rfl, s1, d2, r2, rfl, s2, rfl⟩ := s1
      cases i1 with
      | cons i1 i2 =>
        cases i2 with
        | cons i2 i3 =>
          cases i3
          exact ⟨_, _, rfl, nx _ _ Hk' H' e1 ((c1.put i1).put i2) ⟨d1, d2, s1, s2, rfl⟩⟩⟩
    fun ρ' ⟨d1, d2, s1, s2, e⟩ => by rw [e]; exact k d1 d2 s1 s2
/-- a, found = e1, [] -/
theorem sx_parOwn {x y : Str} {a : Expr} {px py pt pl : Pos} {kt : Nat} {k2 pt2} {S1 : PyData → Prop} (i j : Nat) (hN : F.N.Nodup) (ha : EX F ρ a S1) (hno : ∀ d, (ρ.set i (some (.im d))).any isOw = false) (k : ∀ d1, S1 d1 → SX F ((ρ.set i (some (.im d1))).set j (some (.ow []))) rest N R)
    (hi : F.N[i]? = some x := by rfl) (hj : F.N[j]? = some y := by rfl) (hij : i ≠ j := by decide) (hx : F.sc.names.lookup x = some .local := by rfl) (hy : F.sc.names.lookup y = some .local := by rfl)
    (hw : ∀ v, swappedStores [.Tuple [.Name x px, .Name y py] kt pt] (.Tuple [a, .List [] pl] k2 pt2) (F.cx v).env = pure (some [x, y]) := by intro _; rfl) (hs : ∀ v, swapsWithSole [.Tuple [.Name x px, .Name y py] kt pt] (.Tuple [a, .List [] pl] k2 pt2) pos.line (F.cx v).env = pure false := by intro _; rfl)
    (hst : ∀ v, starEach [a, .List [] pl] (F.cx v).env = (false, eval a (F.cx v).env) :: starEach [.List [] pl] (F.cx v).env := by intro _; rfl) :
    SX F ρ (.Assign [.Tuple [.Name x px, .Name y py] kt pt] (.Tuple [a, .List [] pl] k2 pt2) pos :: rest) N R :=
  sx_cons (M := fun ρ' => ∃ d1, S1 d1 ∧ ρ' = (ρ.set i (some (.im d1))).set j (some (.ow []))) ⟨tPar i j (tCons (wE F a) (tCons (tLst tNil) tNil)), fun v => ps_par rfl hN hi hj hij hx hy (pa_cons pe_w (pa_cons (pe_lst pa_nil) pa_nil) (hst v)) (hw v) (hs v), fun _ _ _ Hk H σ D c nx rt =>
    ha _ _ _ _ _ _ _ c fun v d Hk' H' e1 c1 i1 s1 => ⟨Nat.zero_le _, fun p hp => ⟨_, _, rfl, nx _ _ Hk' _ e1 ((c1.put i1).own hp (hno d)) ⟨d, s1, rfl⟩⟩⟩⟩
    fun ρ' ⟨d1, s1, e⟩ => by rw [e]; exact k d1 s1
/-- found = [] -/
theorem sx_own {x : Str} {px pl : Pos} (i : Nat) (hN : F.N.Nodup) (hno : ρ.any isOw = false) (k : SX F (ρ.set i (some (.ow []))) rest N R) (hi : F.N[i]? = some x := by rfl) (hx : Loc F.sc x := by first | exact Or.inl rfl | exact Or.inr rfl)
    (hf : F.fn x = true ∨ F.sc.names.lookup x = some .local := by first | exact .inl rfl | exact .inr rfl) : SX F ρ (.Assign [.Name x px] (.List [] pl) pos :: rest) N R :=
  sx_cons (M := fun ρ' => ρ' = ρ.set i (some (.ow []))) ⟨tAsg (tLst tNil) (gName i), fun v => ps_set hN hi hx (pe_lst pa_nil) rfl hf, fun _ _ _ Hk H σ D c nx rt => ⟨Nat.zero_le _, fun p hp => nx _ _ Hk _ (.refl _) (c.own hp hno) rfl⟩⟩
    fun ρ' e => by rw [e]; exact k
/-- a, found = e1, [] where a name is a cell: by the pair -/
theorem sx_unpOwn {x y : Str} {a : Expr} {px py pt pl : Pos} {kt : Nat} {k2 pt2} {S1 : PyData → Prop} (i j : Nat) (hN : F.N.Nodup) (ha : EX F ρ a S1) (hno : ∀ d, (ρ.set i (some (.im d))).any isOw = false) (k : ∀ d1, S1 d1 → SX F ((ρ.set i (some (.im d1))).set j (some (.ow []))) rest N R)
    (hi : F.N[i]? = some x := by rfl) (hj : F.N[j]? = some y := by rfl) (hx : Loc F.sc x := by first | exact Or.inl rfl | exact Or.inr rfl) (hy : Loc F.sc y := by first | exact Or.inl rfl | exact Or.inr rfl)
    (hf : F.fn x = true ∨ F.sc.names.lookup x = some .local := by first | exact .inl rfl | exact .inr rfl) (hf2 : F.fn y = true ∨ F.sc.names.lookup y = some .local := by first | exact .inl rfl | exact .inr rfl)
    (hw : ∀ v, swappedStores [.Tuple [.Name x px, .Name y py] kt pt] (.Tuple [a, .List [] pl] k2 pt2) (F.cx v).env = pure none := by intro _; rfl) (hs : ∀ v, swapsWithSole [.Tuple [.Name x px, .Name y py] kt pt] (.Tuple [a, .List [] pl] k2 pt2) pos.line (F.cx v).env = pure false := by intro _; rfl)
    (hst : ∀ v, starEach [a, .List [] pl] (F.cx v).env = (false, eval a (F.cx v).env) :: starEach [.List [] pl] (F.cx v).env := by intro _; rfl) :
    SX F ρ (.Assign [.Tuple [.Name x px, .Name y py] kt pt] (.Tuple [a, .List [] pl] k2 pt2) pos :: rest) N R :=
  sx_cons (M := fun ρ' => ∃ d1, S1 d1 ∧ ρ' = (ρ.set i (some (.im d1))).set j (some (.ow []))) ⟨tAsg (tTup (tCons (wE F a) (tCons (tLst tNil) tNil))) (gTup F.K 2 (gCons (gName i) (gCons (gName j) gNil))),
    fun v => ps_asg (pe_tup (pa_cons pe_w (pa_cons (pe_lst pa_nil) pa_nil) (hst v))) (pg_tup rfl (pgs_cons (pg_name hN hi hx hf) (pgs_cons (pg_name hN hj hy hf2) pgs_nil))) (hs v) (hw v), fun _ _ _ Hk H σ D c nx rt =>
    ha _ _ _ _ _ _ _ c fun v d Hk' H' e1 c1 i1 s1 => ⟨Nat.zero_le _, fun p hp => ⟨(by show 2 ≤ sizeLine; decide), fun T hT => ⟨T, _, rfl, .of upd_same, rfl, _, _, rfl, _, _, rfl, rfl, by
      have pT : T ≠ p := fun z => by rw [z, upd_same] at hT; cases hT
      have hT1 : H' T = none := by rw [upd_ne pT] at hT; exact hT
      have c2 := (c1.put (i := i) i1).new0 (o := .tup [v, .ref p]) hT1
      have hp2 : (upd H' T (.tup [v, .ref p])) p = none := by rw [upd_ne (Ne.symm pT)]; exact hp
      have c3 := c2.own (i := j) hp2 (hno d)
      have e : upd (upd H' T (.tup [v, .ref p])) p (.lst []) = upd (upd H' p (.lst [])) T (.tup [v, .ref p]) := by
        funext b
        unfold upd
        by_cases h1 : b = p
        · subst h1; rw [if_pos rfl, if_neg (Ne.symm pT), if_pos rfl]
        · rw [if_neg h1]
          by_cases h2 : b = T
          · rw [if_pos h2, if_pos h2]
          · rw [if_neg h2, if_neg h2, if_neg h1]
      rw [e] at c3
      exact nx _ _ Hk' _ e1 c3 ⟨d, s1, rfl⟩⟩⟩⟩⟩
    fun ρ' ⟨d1, s1, e⟩ => by rw [e]; exact k d1 s1
/-- the list of one's own is data from here on -/
theorem sx_freeze {sts : List Stmt} (i : Nat) {ds : List PyData} (k : SX F (ρ.set i (some (.im (.list ds)))) sts N R) (hi : ρ[i]? = some (some (.ow ds)) := by rfl) : SX F ρ sts N R := fun _ _ _ Hk H σ D c nx rt => by
  obtain ⟨Hk1, e1, c1⟩ := c.freeze hi
  exact k _ _ _ _ _ _ D c1 (fun ρ2 σ2 Hk2 H2 e2 c2 n => nx ρ2 σ2 Hk2 H2 (e1.trans e2) c2 n) fun v d Hk2 H2 e2 c2 i r => rt v d Hk2 H2 (e1.trans e2) c2 i r
/-- found.append(e) -/
theorem sx_app {x : Str} {px pa cpos : Pos} (i : Nat) {ds : List PyData} (he : EX F ρ e S) (hz : ds.length < sizeLine) (k : ∀ d, S d → SX F (ρ.set i (some (.ow (ds ++ [d])))) rest N R) (hr : ρ[i]? = some (some (.ow ds)) := by rfl) (hi : F.N[i]? = some x := by rfl)
    (hv : Vis F.sc x := by first | exact Or.inl rfl | exact Or.inr (Or.inl rfl) | exact Or.inr (Or.inr rfl)) (hd : (x == ("__debug__" : Str)) = false := by decide) (hcd : (x == ("__classdict__" : Str)) = false := by decide)
    (hbase : ∀ v, attributeBase (.Name x px) "append" (F.cx v).env (eval (.Name x px) (F.cx v).env) = eval (.Name x px) (F.cx v).env := by intro _; rfl)
    (hfew : ∀ v, ((backTo cpos (starEach [e] (F.cx v).env)).all (fun x => !x.1) && (backToKw cpos (keywordEach [] (F.cx v).env)).all (fun x => x.1.isSome) && decide (([e] : List Expr).length + ([] : List Keyword).length + (if ([] : List Keyword).isEmpty then 0 else 1) < 30)) = true := by intro _; rfl)
    (hline : (pa.endLine == cpos.line) = true := by rfl) (hst : ∀ v, starEach [e] (F.cx v).env = (false, eval e (F.cx v).env) :: starEach [] (F.cx v).env := by intro _; rfl) (hsw : ∀ v, swapsWith (.Call (.Attribute (.Name x px) "append" pa) [e] [] cpos) none pos.line (F.cx v).env = pure false := by intro _; rfl) :
    SX F ρ (.Expr (.Call (.Attribute (.Name x px) "append" pa) [e] [] cpos) pos :: rest) N R :=
  sx_cons (M := fun ρ' => ∃ d, S d ∧ ρ' = ρ.set i (some (.ow (ds ++ [d])))) ⟨tDrop (tBM F.K "list" rAppend (tVar i) (tCons (wE F e) tNil)),
    fun v => ps_expr (pe_bm PySem.F.plainAttrs_list PySem.F.slot_list_append PySem.F.type_list_append mt_append (pe_var hi hv hd hcd) (pa_cons pe_w pa_nil (hst v)) (hbase v) (hfew v) hline (hst v) (by rfl)) (hsw v), fun _ _ _ Hk H σ D c nx rt => by
      obtain ⟨p, vs, h1, h2, h3, h4, h5⟩ := c.ow i ds hr
      refine ⟨.ref p, h1, .inl ⟨rfl, vs, .of h4⟩, he _ _ _ _ _ _ _ c fun v d Hk' H' e1 c1 i1 s1 => ?_⟩
      obtain ⟨p', vs', k1, k2, k3, k4, k5⟩ := c1.ow i ds hr
      rw [h1] at k1
      cases k1
      exact ⟨p, vs', v, rfl, rfl, k4, by rw [k5.length]; exact hz, nx _ _ Hk' _ e1 (c1.app hr h1 k4 i1) ⟨d, s1, rfl⟩⟩⟩
    fun ρ' ⟨d, s, e⟩ => by rw [e]; exact k d s
/-- x += e, ints -/
theorem sx_augI {x : Str} {px : Pos} {op : Operator} {f : Int → Int → Int} {a b : Int} (i : Nat) (hN : F.N.Nodup) (ho : ∀ v, PIp (F.cx v) op (ipI f)) (he : EV F ρ e (.int b)) (k : SX F (ρ.set i (some (.im (.int (f a b))))) rest N R) (hr : ρ[i]? = some (some (.im (.int a))) := by rfl) (hi : F.N[i]? = some x := by rfl) (hx : Loc F.sc x := by first | exact Or.inl rfl | exact Or.inr rfl)
    (hf : F.fn x = true ∨ F.sc.names.lookup x = some .local := by first | exact .inl rfl | exact .inr rfl) : SX F ρ (.AugAssign (.Name x px) op e pos :: rest) N R :=
  sx_cons (M := fun ρ' => ρ' = ρ.set i (some (.im (.int (f a b))))) ⟨tAug i (wE F e) (ipI f), fun v => ps_aug hN hi hx pe_w (ho v) hf, fun _ _ _ Hk H σ D c nx rt => by
      obtain ⟨v, h1, h2⟩ := c.im i _ hr
      have hv := h2.int_of
      subst hv
      refine ⟨_, h1, he _ _ _ _ _ _ _ c fun v d Hk' H' e1 c1 i1 s1 => ?_⟩
      subst s1
      cases i1
      exact ⟨a, b, rfl, rfl, nx _ _ Hk' H' e1 (c1.put (.int _)) rfl⟩⟩
    fun ρ' e => by rw [e]; exact k
/-- return e -/
theorem sx_ret (he : EX F ρ e R) : SX F ρ (.Return (some e) pos :: rest) N R := fun _ _ _ Hk H σ D c nx rt =>
  ⟨tSeq (tRet (wE F e)) tNever, fun v => pss_cons (ps_ret pe_w) pss_never, he _ _ _ _ _ _ _ c fun v d Hk' H' e1 c1 i1 s1 => rt v d Hk' H' e1 c1.bare i1 s1⟩
/-- if -/
theorem sx_if {c : Expr} {a b : List Stmt} {T : Bool → Prop} (hc : ET F ρ c T) (h1 : T true → SX F ρ a M R) (h2 : T false → SX F ρ b M R) (k : ∀ ρ', M ρ' → SX F ρ' rest N R) : SX F ρ (.If c a b pos :: rest) N R :=
  sx_cons (M := M) ⟨tIfS (wT F c) (wS F a) (wS F b), fun v => ps_if pt_w pss_w pss_w, fun _ _ _ Hk H σ D cc nx rt => hc _ _ _ _ _ _ _ cc fun t Hk' H' e1 c1 s1 => by
    cases t with
    | true =>
      rw [if_pos rfl]
      exact h1 s1 _ _ _ _ _ _ D c1 (fun ρ2 σ2 Hk2 H2 e2 c2 n => nx ρ2 σ2 Hk2 H2 (e1.trans e2) c2 n) fun v d Hk2 H2 e2 c2 i r => rt v d Hk2 H2 (e1.trans e2) c2 i r
    | false =>
      rw [if_neg Bool.false_ne_true]
      exact h2 s1 _ _ _ _ _ _ D c1 (fun ρ2 σ2 Hk2 H2 e2 c2 n => nx ρ2 σ2 Hk2 H2 (e1.trans e2) c2 n) fun v d Hk2 H2 e2 c2 i r => rt v d Hk2 H2 (e1.trans e2) c2 i r⟩ k
theorem sx_never {sts : List Stmt} (h : False) : SX F ρ sts N R := h.elim
/-- if whose test is False, without else -/
theorem sx_ifF {c : Expr} {a : List Stmt} (hc : TV F ρ c false) (k : SX F ρ rest N R) : SX F ρ (.If c a [] pos :: rest) N R :=
  sx_if (M := fun ρ' => ρ' = ρ) hc (fun z => nomatch z) (fun _ => sx_nil rfl) fun ρ' e => by rw [e]; exact k
/-- if that returns -/
theorem sx_ifR {c : Expr} {a : List Stmt} {T : Bool → Prop} (hc : ET F ρ c T) (h1 : T true → SX F ρ a (fun _ => False) R) (k : T false → SX F ρ rest N R) : SX F ρ (.If c a [] pos :: rest) N R :=
  sx_if (M := fun ρ' => ρ' = ρ ∧ T false) hc (fun z => (h1 z).weak (fun _ f => f.elim) fun _ r => r) (fun z => sx_nil ⟨rfl, z⟩) fun ρ' e => by rw [e.1]; exact k e.2
/-- for -/
theorem sx_for {tg iter : Expr} {body : List Stmt} {Ss : List PyData → Prop} (hi : EI F ρ tg iter Ss)
    (h : ∀ ds, Ss ds → ∃ I : Nat → Dn → Prop, I 0 ρ ∧ (∀ (i : Nat) d ρ', ds[i]? = some d → I i ρ' → ∃ ρ2 js, TGT F ρ' tg d ρ2 js ∧ SX F ρ2 body (I (i + 1)) R) ∧ ∀ ρ', I ds.length ρ' → SX F ρ' rest N R)
    (hs : ∀ v x, foldedSetIterable iter (F.cx v).env x = pure x := by intro _ _; rfl) : SX F ρ (.For tg iter body [] pos :: rest) N R :=
  sx_cons (M := fun ρ' => SX F ρ' rest N R) ⟨tFor (wI F tg iter) (wG F tg) (wS F body), fun v => ps_for PassesOwn.never rfl pi_w pg_w pss_w (hs v), fun rw' Hk0 H0 Hk H σ D c nx rt => hi _ _ _ _ _ _ _ c fun J ds Hk1 H1 e1 c1 src s => by
    obtain ⟨I, h0, ht, hd⟩ := h ds s
    refine ⟨fun i m σ' H' => m = ds.length - i ∧ i ≤ ds.length ∧ ∃ Hk' ρ', Ex Hk1 Hk' ∧ Cfg F.K rw' Hk0 H0 Hk' H' σ' ρ' ∧ I i ρ', ⟨ds.length, by simp, Nat.zero_le _, Hk1, ρ, .refl _, c1, h0⟩, fun i m σ' H' W => ?_⟩
    obtain ⟨rfl, hle, Hk2, ρ2, e2, c2, h2⟩ := W
    obtain ⟨sp, go⟩ := src Hk2 H' e2 c2.e3
    by_cases hlt : i < ds.length
    · obtain ⟨g1, g2⟩ := go i ds[i] (by simp [hlt])
      refine .inr ⟨g1, fun σ3 H3 => ∃ Hk3 ρ3, Ex Hk1 Hk3 ∧ Cfg F.K rw' Hk0 H0 Hk3 H3 σ3 ρ3 ∧ I (i + 1) ρ3, fun σ3 H3 q => ⟨ds.length - (i + 1), by omega, rfl, hlt, q⟩, fun x H3 hy => ?_⟩
      obtain ⟨Hk3, nw, ix⟩ := g2 x H3 hy
      have e3 := c2.nwEx nw
      have c3 := c2.nw nw
      obtain ⟨ρ3, js, tg3, sx3⟩ := ht i ds[i] ρ2 (by simp [hlt]) h2
      refine tg3 _ _ _ _ _ _ _ _ c3 ix fun σ4 c4 _ => ?_
      exact sx3 _ _ _ _ _ _ _ c4 (fun ρ5 σ5 Hk5 H5 e5 c5 n => ⟨Hk5, ρ5, e2.trans (e3.trans e5), c5, n⟩) fun v d Hk5 H5 e5 c5 ii r => rt v d Hk5 H5 (e1.trans (e2.trans (e3.trans e5))) c5 ii r
    · have : i = ds.length := by omega
      subst this
      exact .inl ⟨sp, nx ρ2 σ' Hk2 H' (e1.trans e2) c2 (hd ρ2 h2)⟩⟩ fun ρ' k => k
/-- while -/
theorem sx_while {c : Expr} {body : List Stmt} (I : Nat → Dn → Prop) (m0 : Nat) (h0 : I m0 ρ)
    (h : ∀ m ρ', I m ρ' → ∃ T : Bool → Prop, ET F ρ' c T ∧ (T true → SX F ρ' body (fun ρ2 => ∃ m', m' < m ∧ I m' ρ2) R) ∧ (T false → SX F ρ' rest N R)) : SX F ρ (.While c body [] pos :: rest) N R :=
  sx_cons (M := fun ρ' => SX F ρ' rest N R) ⟨tWhile (wT F c) (wS F body), fun v => ps_while PassesOwn.never pt_w pss_w, fun rw' Hk0 H0 Hk H σ D cc nx rt => by
    refine ⟨fun m σ' H' => ∃ Hk' ρ', Ex Hk Hk' ∧ Cfg F.K rw' Hk0 H0 Hk' H' σ' ρ' ∧ I m ρ', ⟨m0, Hk, ρ, .refl _, cc, h0⟩, fun m σ' H' W => ?_⟩
    obtain ⟨Hk1, ρ1, e1, c1, h1⟩ := W
    obtain ⟨T, ht, hb, hr⟩ := h m ρ1 h1
    refine ht _ _ _ _ _ _ _ c1 fun t Hk2 H2 e2 c2 s => ?_
    cases t with
    | true =>
      rw [if_pos rfl]
      refine ⟨fun σ3 H3 => ∃ m', m' < m ∧ ∃ Hk3 ρ3, Ex Hk Hk3 ∧ Cfg F.K rw' Hk0 H0 Hk3 H3 σ3 ρ3 ∧ I m' ρ3, fun σ3 H3 ⟨m', q1, q2⟩ => ⟨m', q1, q2⟩, ?_⟩
      exact hb s _ _ _ _ _ _ _ c2 (fun ρ5 σ5 Hk5 H5 e5 c5 ⟨m', q1, q2⟩ => ⟨m', q1, Hk5, ρ5, e1.trans (e2.trans e5), c5, q2⟩) fun v d Hk5 H5 e5 c5 ii r => rt v d Hk5 H5 (e1.trans (e2.trans e5)) c5 ii r
    | false =>
      rw [if_neg Bool.false_ne_true]
      exact nx ρ1 σ' Hk2 H2 (e1.trans e2) c2 (hr s)⟩ fun ρ' k => k
end
end Lp

/-! LpD: comprehensions, defs. -/
namespace Lp
open PySem PySem.Spec L2

abbrev Fx.blk (F : Fx) (scope : Scope) : Fx := { F with sc := relS scope F.sc, fn := fun x => scope.names.lookup x == some .cell }
abbrev fxOf (P : Program) (w : World) (K : PySem.W.Frag) (mg : Str → Option Value) (base : Heap) (A : Around) (N : List Str) (sc : Scope) : Fx := ⟨P, w, K, mg, base, A, N, sc, fun _ => true⟩
/-- a clause's tests -/
def EP (F : Fx) (ρ : Dn) (ifs : List Expr) (S : Bool → Prop) : Prop :=
  ∀ rw' Hk0 H0 Hk H σ (Q : Bool → Hp → Prop), Cfg F.K rw' Hk0 H0 Hk H σ ρ → (∀ b Hk' H', Ex Hk Hk' → Cfg F.K rw' Hk0 H0 Hk' H' σ ρ → S b → Q b H') → wPs F ifs σ H Q
theorem ep_nil {F : Fx} {ρ : Dn} : EP F ρ [] (fun b => b = true) := fun _ _ _ Hk H _ Q c q => ⟨tYes, fun _ => pts_nil, q true Hk H (.refl _) c rfl⟩
theorem ep_one {F : Fx} {ρ : Dn} {e : Expr} {S : Bool → Prop} (h : ET F ρ e S) : EP F ρ [e] S := fun _ _ _ _ _ _ Q c q => ⟨wT F e, fun _ => pts_one pt_w, h _ _ _ _ _ _ Q c q⟩

theorem wipe_get {σ : L2.St} {i : Nat} : ∀ {vs : List Nat}, (wipe σ vs)[i]? = if i ∈ vs then σ[i]?.map (fun _ => none) else σ[i]?
  | [] => by simp [wipe]
  | v :: vs => by
    show ((wipe σ vs).set v none)[i]? = _
    rw [List.getElem?_set, wipe_length, wipe_get]
    by_cases h : v = i
    · subst h
      simp only [List.mem_cons, true_or, if_true]
      by_cases hl : v < σ.length
      · simp [hl]
      · simp [hl]
    · have : (i ∈ v :: vs) ↔ i ∈ vs := by simp [List.mem_cons, Ne.symm h]
      simp only [if_neg h, this]
theorem wipe_wipe (σ : L2.St) (vs : List Nat) : wipe (wipe σ vs) vs = wipe σ vs := by
  apply List.ext_getElem?
  intro i
  rw [wipe_get, wipe_get]
  by_cases h : i ∈ vs
  · simp only [if_pos h]
    cases σ[i]? <;> rfl
  · simp only [if_neg h]
/-- what a comprehension's turn asks -/
def Turns (F' : Fx) (ρb : Dn) (vs : List Nat) (tg elt : Expr) (ifs : List Expr) (ds : List PyData) (T : List PyData → Prop) : Prop :=
  ∃ I : Nat → List PyData → Prop, I 0 [] ∧
    (∀ (i : Nat) d acc, ds[i]? = some d → I i acc → ∃ ρ2 js B, TGT F' ρb tg d ρ2 js ∧ (∀ j ∈ js, j ∈ vs) ∧ EP F' ρ2 ifs B ∧
      (B true → EX F' ρ2 elt (fun y => acc.length < sizeLine ∧ I (i + 1) (acc ++ [y]))) ∧ (B false → I (i + 1) acc)) ∧
    ∀ acc, I ds.length acc → T acc
theorem lc_run {F : Fx} {ρ : Dn} {tg iter elt : Expr} {ifs : List Expr} {scope : Scope} {vs : List Nat} {S : List PyData → Prop} {T : List PyData → Prop}
    (hi : EI F ρ tg iter S) (h : ∀ ds, S ds → Turns (F.blk scope) (wipeD (noOw ρ) vs) vs tg elt ifs ds T)
    {rw' : Option Addr} {Hk0 H0 Hk H : Hp} {σ : L2.St} {Q : VK} (c : Cfg F.K rw' Hk0 H0 Hk H σ ρ) (q : Goal F.K rw' Hk0 H0 Hk σ ρ (fun d => ∃ acc, d = .list acc ∧ T acc) Q) :
    tLc (wI F tg iter) (wG (F.blk scope) tg) (wPs (F.blk scope) ifs) (wE (F.blk scope) elt) vs σ H Q :=
  hi _ _ _ _ _ _ _ c fun J ds Hk1 H1 e1 c1 src s D hD => by
    obtain ⟨I, h0, ht, hd⟩ := h ds s
    have nb : NoOw (wipeD (noOw ρ) vs) := noOw_no.wipe vs
    have cb : Cfg F.K rw' Hk1 H1 Hk1 H1 (wipe σ vs) (wipeD (noOw ρ) vs) := c1.frame.wipe vs
    have hDk : Hk1 D = none := c1.unk hD
    have nr : rw' ≠ some D := cb.nrow hD
    refine ⟨fun i m H' => m = ds.length - i ∧ i ≤ ds.length ∧ ∃ Hk' acc vs', Ex Hk1 Hk' ∧ Cfg F.K rw' Hk1 H1 Hk' H' (wipe σ vs) (wipeD (noOw ρ) vs) ∧ Hk' D = none ∧ H' D = some (.lst vs') ∧ Iss F.K Hk' vs' acc ∧ I i acc,
      ⟨ds.length, by simp, Nat.zero_le _, Hk1, [], [], .refl _, cb.new0 hD, hDk, upd_same, .nil, h0⟩, fun i m H' W => ?_⟩
    obtain ⟨rfl, hle, Hk2, acc, us, e2, c2, hk2, h2, is2, hI⟩ := W
    obtain ⟨sp, go⟩ := src Hk2 H' e2 c2.e3
    by_cases hlt : i < ds.length
    · obtain ⟨g1, g2⟩ := go i ds[i] (by simp [hlt])
      refine .inr ⟨g1, fun H3 => ∃ Hk' acc vs', Ex Hk1 Hk' ∧ Cfg F.K rw' Hk1 H1 Hk' H3 (wipe σ vs) (wipeD (noOw ρ) vs) ∧ Hk' D = none ∧ H3 D = some (.lst vs') ∧ Iss F.K Hk' vs' acc ∧ I (i + 1) acc, fun H3 q => ⟨ds.length - (i + 1), by omega, rfl, hlt, q⟩, fun x H3 hy => ?_⟩
      obtain ⟨Hk3, nw, ix⟩ := g2 x H3 hy
      have e3 := c2.nwEx nw
      have c3 := c2.nw nw
      have hk3 : Hk3 D = none ∧ H3 D = some (.lst us) := by
        rcases nw with ⟨rfl, rfl⟩ | ⟨p, o, hp, rfl, rfl⟩
        · exact ⟨hk2, h2⟩
        · have : D ≠ p := ne_of_none h2 hp
          rw [upd_ne this, upd_ne this]
          exact ⟨hk2, h2⟩
      obtain ⟨ρ3, js, B, tg3, hjs, ep3, hT, hF⟩ := ht i ds[i] acc (by simp [hlt]) hI
      have cf := c3.frame' nb
      refine tg3 _ _ _ _ _ _ _ _ cf ix fun σ4 c4 hw4 => ⟨(hw4 vs hjs).trans (wipe_wipe σ vs), ?_⟩
      refine ep3 _ _ _ _ _ _ _ c4 fun b Hk5 H5 e5 c5 sb => ?_
      -- at the turn's end
      have fin : ∀ {Hk6 H6 : Hp}, Cfg F.K rw' Hk3 H3 Hk6 H6 σ4 ρ3 → Cfg F.K rw' Hk1 H1 Hk6 H6 (wipe σ vs) (wipeD (noOw ρ) vs) ∧ Hk6 D = none ∧ H6 D = some (.lst us) ∧ Iss F.K Hk6 us acc ∧ Ex Hk1 Hk6 := fun {Hk6 H6} c6 => by
        refine ⟨c3.back c6, ?_, c6.e2 D _ hk3.2 nr, Iss.mono (e3.trans c6.e1) _ _ is2, e2.trans (e3.trans c6.e1)⟩
        cases w : Hk6 D with
        | none => rfl
        | some u =>
          have := c6.fr D u w hk3.1
          rw [hk3.2] at this; cases this
      cases b with
      | true =>
        rw [if_pos rfl]
        refine hT sb _ _ _ _ _ _ _ c5 fun y d Hk6 H6 e6 c6 i6 s6 => ?_
        obtain ⟨f1, f2, f3, f4, f5⟩ := fin c6
        refine ⟨us, f3, by rw [f4.length]; exact s6.1, Hk6, acc ++ [d], us ++ [y], f5, f1.mut nb hD f2, f2, upd_same, f4.append (.cons i6 .nil), s6.2⟩
      | false =>
        rw [if_neg Bool.false_ne_true]
        obtain ⟨f1, f2, f3, f4, f5⟩ := fin c5
        exact ⟨Hk5, acc, us, f5, f1, f2, f3, f4, hF sb⟩
    · have : i = ds.length := by omega
      subst this
      refine .inl ⟨sp, ?_⟩
      have ck := c2.know nb hD hk2 h2
      exact q _ (.list acc) _ H' (e1.trans (e2.trans (.new hk2))) (c1.back ck) (.lst upd_same (Iss.mono (.new hk2) _ _ is2)) ⟨acc, rfl, hd acc hI⟩
section
variable {F : Fx} {ρ : Dn} {tg iter elt : Expr} {ifs : List Expr} {scope : Scope} {pos : Pos} {S : List PyData → Prop} {T : PyData → Prop}
theorem ex_lc (own : List (Str × Nat)) (hN : F.N.Nodup) (hi : EI F ρ tg iter S) (h : ∀ ds, S ds → Turns (F.blk scope) (wipeD (noOw ρ) (own.map (·.2))) (own.map (·.2)) tg elt ifs ds (fun acc => T (.list acc)))
    (ok : blkC F.N F.sc scope own = true := by (try dsimp only [fxOf, Fx.blk]); decide +kernel) (hs : ∀ v x, foldedSetIterable iter (F.cx v).env x = pure x := by intro _ _; rfl) : EX F ρ (.ListComp elt [⟨tg, iter, ifs, 0⟩] scope pos) T :=
  ex_of (fun v => pe_lc rfl hN pi_w (blkOk_by ok)
    (fun s H C cl fp => pg_w (F := F.blk scope) (v := ⟨s, H, compEnvC scope cl C (F.cx v).env, v.stack, v.stack, fp⟩))
    (fun s H C cl fp => pts_w (F := F.blk scope) (v := ⟨s, H, compEnvC scope cl C (F.cx v).env, v.stack, v.stack, fp⟩))
    (fun s H C cl fp => pe_w (F := F.blk scope) (v := ⟨s, H, compEnvC scope cl C (F.cx v).env, v.stack, v.stack, fp⟩)) (hs v))
    fun _ _ _ _ _ _ Q c q => lc_run hi h c fun v d Hk' H' a b i ⟨acc, e, t⟩ => q v d Hk' H' a b i (by rw [e]; exact t)
/-- y = [..], y a local name -/
theorem sx_setLc {y : Str} {py spos : Pos} {rest : List Stmt} {N : Dn → Prop} {R : PyData → Prop} (i : Nat) (own : List (Str × Nat)) (hN : F.N.Nodup) (hi : EI F ρ tg iter S) (h : ∀ ds, S ds → Turns (F.blk scope) (wipeD (noOw ρ) (own.map (·.2))) (own.map (·.2)) tg elt ifs ds (fun acc => T (.list acc)))
    (k : ∀ d, T d → SX F (ρ.set i (some (.im d))) rest N R) (hy : F.N[i]? = some y := by rfl) (hyl : F.sc.names.lookup y = some .local := by rfl)
    (hsw : ∀ v, swapsWith (.ListComp elt [⟨tg, iter, ifs, 0⟩] scope pos) (some (.Name y py)) spos.line (F.cx v).env = pure true := by intro _; exact sw_true rfl rfl rfl (by (try dsimp only [fxOf, Fx.blk]); decide +kernel))
    (ok : blkC F.N F.sc scope own = true := by (try dsimp only [fxOf, Fx.blk]); decide +kernel) (hs : ∀ v x, foldedSetIterable iter (F.cx v).env x = pure x := by intro _ _; rfl) : SX F ρ (.Assign [.Name y py] (.ListComp elt [⟨tg, iter, ifs, 0⟩] scope pos) spos :: rest) N R :=
  sx_cons (M := fun ρ' => ∃ d, T d ∧ ρ' = ρ.set i (some (.im d))) ⟨_, fun v => ps_setLc rfl hN hy hyl (hsw v) pi_w (blkOk_by ok)
    (fun s H C cl fp => pg_w (F := F.blk scope) (v := ⟨s, H, compEnvC scope cl C (F.cx v).env, v.stack, v.stack, fp⟩))
    (fun s H C cl fp => pts_w (F := F.blk scope) (v := ⟨s, H, compEnvC scope cl C (F.cx v).env, v.stack, v.stack, fp⟩))
    (fun s H C cl fp => pe_w (F := F.blk scope) (v := ⟨s, H, compEnvC scope cl C (F.cx v).env, v.stack, v.stack, fp⟩)) (hs v),
    fun _ _ _ Hk H σ D c nx rt => lc_run hi h (Q := fun x H1 => gName i x σ H1 D.nx) c fun v d Hk' H' a b ii ⟨acc, e, t⟩ => nx _ _ Hk' H' a (b.put ii) ⟨d, by rw [e]; exact t, rfl⟩⟩
    fun ρ' ⟨d, t, e⟩ => by rw [e]; exact k d t
end

/-! ### turns by a function of the item -/
/-- every item gives one, by f -/
theorem turns_map {F' : Fx} {ρb : Dn} {vs : List Nat} {tg elt : Expr} {ds : List PyData} {α : Type} {xs : List α} {enc : α → PyData} {f : α → PyData} {T : List PyData → Prop} (hds : ds = xs.map enc) (hl : xs.length ≤ sizeLine)
    (h : ∀ a ∈ xs, ∃ ρ2 js, TGT F' ρb tg (enc a) ρ2 js ∧ (∀ j ∈ js, j ∈ vs) ∧ EV F' ρ2 elt (f a)) (hT : T (xs.map f)) : Turns F' ρb vs tg elt [] ds T := by
  subst hds
  refine ⟨fun i acc => acc = (xs.take i).map f, rfl, fun i d acc hd hacc => ?_, fun acc hacc => by rw [hacc, List.length_map, List.take_length]; exact hT⟩
  rw [List.getElem?_map] at hd
  cases hx : xs[i]? with
  | none => rw [hx] at hd; cases hd
  | some a =>
    rw [hx] at hd
    have e : enc a = d := Option.some.inj hd
    subst e
    have hlt : i < xs.length := (List.getElem?_eq_some_iff.mp hx).1
    obtain ⟨ρ2, js, h1, h2, h3⟩ := h a (List.mem_of_getElem? hx)
    refine ⟨ρ2, js, _, h1, h2, ep_nil, fun _ => h3.weak fun y hy => ⟨?_, ?_⟩, fun z => nomatch z⟩
    · rw [hacc, List.length_map, List.length_take]; omega
    · show acc ++ [y] = (xs.take (i + 1)).map f
      rw [hacc, hy, List.take_add_one, hx, List.map_append]; rfl
/-- those that pass the test give one, by f -/
theorem turns_filter {F' : Fx} {ρb : Dn} {vs : List Nat} {tg elt c : Expr} {ds : List PyData} {α : Type} {xs : List α} {enc : α → PyData} {p : α → Bool} {f : α → PyData} {T : List PyData → Prop} (hds : ds = xs.map enc) (hl : xs.length ≤ sizeLine)
    (h : ∀ a ∈ xs, ∃ ρ2 js, TGT F' ρb tg (enc a) ρ2 js ∧ (∀ j ∈ js, j ∈ vs) ∧ TV F' ρ2 c (p a) ∧ (p a = true → EV F' ρ2 elt (f a))) (hT : T ((xs.filter p).map f)) : Turns F' ρb vs tg elt [c] ds T := by
  subst hds
  refine ⟨fun i acc => acc = ((xs.take i).filter p).map f, rfl, fun i d acc hd hacc => ?_, fun acc hacc => by rw [hacc, List.length_map, List.take_length]; exact hT⟩
  rw [List.getElem?_map] at hd
  cases hx : xs[i]? with
  | none => rw [hx] at hd; cases hd
  | some a =>
    rw [hx] at hd
    have e : enc a = d := Option.some.inj hd
    subst e
    have hlt : i < xs.length := (List.getElem?_eq_some_iff.mp hx).1
    obtain ⟨ρ2, js, h1, h2, h3, h4⟩ := h a (List.mem_of_getElem? hx)
    refine ⟨ρ2, js, _, h1, h2, ep_one h3, fun hp => (h4 hp.symm).weak fun y hy => ⟨?_, ?_⟩, fun hp => ?_⟩
    · rw [hacc, List.length_map]
      have := List.length_filter_le p (xs.take i)
      rw [List.length_take] at this
      omega
    · show acc ++ [y] = ((xs.take (i + 1)).filter p).map f
      rw [hacc, hy, List.take_add_one, hx, List.filter_append, List.map_append]
      show _ = List.map f (List.filter p (xs.take i)) ++ List.map f (List.filter p [a])
      rw [List.filter_cons_of_pos hp.symm]; rfl
    · show acc = ((xs.take (i + 1)).filter p).map f
      rw [hacc, List.take_add_one, hx, List.filter_append, List.map_append]
      show _ = List.map f (List.filter p (xs.take i)) ++ List.map f (List.filter p [a])
      rw [List.filter_cons_of_neg (by rw [← hp]; decide)]
      simp

/-! ### a def of data -/
def startD (N : List Str) (ds : List PyData) : Dn := ds.map (fun d => some (.im d)) ++ List.replicate (N.length - ds.length) none
section
variable {P : Program} {w : World} {K : PySem.W.Frag} {mg : Str → Option Value} {base : Heap}
theorem startD_im {N : List Str} {ds : List PyData} {i : Nat} {e : En} (h : (startD N ds)[i]? = some (some e)) : ∃ d, ds[i]? = some d ∧ e = .im d := by
  unfold startD at h
  by_cases hi : i < ds.length
  · rw [List.getElem?_append_left (by rw [List.length_map]; exact hi), List.getElem?_map] at h
    obtain ⟨d, hd⟩ : ∃ d, ds[i]? = some d := ⟨ds[i], by simp [hi]⟩
    rw [hd] at h
    exact ⟨d, hd, by cases h; rfl⟩
  · rw [List.getElem?_append_right (by rw [List.length_map]; omega), List.getElem?_replicate] at h
    split at h <;> cases h
theorem cfg_start {N : List Str} {ds : List PyData} {vs : List V} {Hk H : Hp} (e : Ex Hk H) (h : Iss K Hk vs ds) : Cfg K none Hk H Hk H (L2.start N vs) (startD N ds) := by
  refine ⟨.refl _, fun a o h _ => h, e, fun a o h n => (by rw [n] at h; cases h), fun r z => (by cases z), fun i d q => ?_, fun i es q => ?_, fun i q => ?_, fun i j es es' q => ?_, ?_⟩
  · obtain ⟨d', hd, e'⟩ := startD_im q
    cases e'
    obtain ⟨v, hv, iv⟩ := h.get hd
    refine ⟨v, ?_, iv⟩
    unfold L2.start
    rw [List.getElem?_append_left (by rw [List.length_map]; exact (List.getElem?_eq_some_iff.mp hv).1), List.getElem?_map, hv]
    rfl
  · obtain ⟨d', hd, e'⟩ := startD_im q
    cases e'
  · obtain ⟨d', hd, e'⟩ := startD_im q
    cases e'
  · obtain ⟨d', hd, e'⟩ := startD_im q
    cases e'
  · unfold L2.start startD
    simp only [List.length_append, List.length_map, List.length_replicate, h.length]
theorem fn_data {x qual : Str} {st : Stmt} {f : Addr} {fd : FuncData} {N ps : List Str} {k n : Nat} {Pre : List PyData → Prop} {R : List PyData → PyData → Prop} (G : Fun K x qual st f fd) (S : FnScope N ps (defScope st)) (hn : ps.length = n)
    (hpre : ∀ ds, Pre ds → ds.length = n)
    (hb : ∀ (A : Around) (ds : List PyData), Room k A → Pre ds → SX (fxOf P w K mg base A N (defScope st)) (startD N ds) (defBody st) (fun _ => R ds .none) (R ds)) : FnOk P w K mg base CX0 (k + 1) f fd ps (spR K n Pre R) := by
  refine G.ok S (fun vs H Q E h => by rw [hn]; exact h.1) (fun cdv A outer s H vs Q E hr h => ?_)
  obtain ⟨hl, Hk, ds, e, is, hp, q⟩ := h
  have c := cfg_start (N := N) e is
  refine ⟨wS (fxOf P w K mg base _ N (defScope st)) (defBody st), pss_w (F := fxOf P w K mg base _ N (defScope st)) (v := ⟨s, H, PyProof.Rows.envOfC qual (defScope st) s.heap.objs.size f cdv, outer, PyProof.Rows.envOfC qual (defScope st) s.heap.objs.size f cdv :: outer, []⟩), ?_⟩
  refine hb _ ds hr hp _ _ _ _ _ _ { nx := fun _ H' => Q .non H', rt := Q } c (fun ρ' σ' Hk' H' e1 c1 r => ?_) (fun v d Hk' H' e1 c1 i r => ?_)
  · exact q .non .none Hk' H' e1 (fun a o h => c1.e2 a o h (by simp)) c1.e3 c1.fr .non r
  · exact q v d Hk' H' e1 (fun a o h => c1.e2 a o h (by simp)) c1.e3 c1.fr i r
end
end Lp

/-! LpE: operators, calls of built-ins, by data. -/
namespace Lp
open PySem PySem.Spec L2

section
variable {K : PySem.W.Frag}
/-! ### operations -/
theorem rd_I0 {g : Int → Int → Int} {i j : Int} : R2D K (rI0 fun i j => .int (g i j)) (.int i) (.int j) (fun d => d = .int (g i j)) := fun x y _ _ _ _ _ _ _ Q c h1 h2 q => by
  cases h1; cases h2; exact ⟨i, j, rfl, rfl, q.now c (.int _) rfl⟩
theorem rd_B0 {g : Int → Int → Bool} {i j : Int} : R2D K (rI0 fun i j => .bl (g i j)) (.int i) (.int j) (fun d => d = .bool (g i j)) := fun x y _ _ _ _ _ _ _ Q c h1 h2 q => by
  cases h1; cases h2; exact ⟨i, j, rfl, rfl, q.now c (.bl _) rfl⟩
theorem rd_I {C : Int → Int → Prop} {g : Int → Int → Int} {i j : Int} (hc : C i j) : R2D K (rI C fun i j => .int (g i j)) (.int i) (.int j) (fun d => d = .int (g i j)) := fun x y _ _ _ _ _ _ _ Q c h1 h2 q => by
  cases h1; cases h2; exact ⟨i, j, rfl, rfl, hc, q.now c (.int _) rfl⟩
theorem rd_eqI {i j : Int} : R2D K rEq (.int i) (.int j) (fun d => d = .bool (decide (i = j))) := fun x y _ _ _ _ _ _ _ Q c h1 h2 q => by
  cases h1; cases h2
  refine ⟨rfl, ?_⟩
  have e : decide ((V.int i) = V.int j) = decide (i = j) := by
    by_cases h : i = j
    · rw [decide_eq_true h, decide_eq_true (by rw [h])]
    · rw [decide_eq_false h, decide_eq_false (fun z => h (V.int.inj z))]
  rw [e]
  exact q.now c (.bl _) rfl
theorem rd_neI {i j : Int} : R2D K rNe (.int i) (.int j) (fun d => d = .bool (!decide (i = j))) := fun x y _ _ _ _ _ _ _ Q c h1 h2 q => by
  cases h1; cases h2
  refine ⟨rfl, ?_⟩
  have e : decide ((V.int i) = V.int j) = decide (i = j) := by
    by_cases h : i = j
    · rw [decide_eq_true h, decide_eq_true (by rw [h])]
    · rw [decide_eq_false h, decide_eq_false (fun z => h (V.int.inj z))]
  rw [e]
  exact q.now c (.bl _) rfl
theorem rd_eqD {a b : PyData} (ha : SeqAt.shaped a = true) (hb : SeqAt.shaped b = true) : R2D K (rEqD K) a b (fun d => d = .bool (PyData.eqv a b)) := fun x y _ _ _ _ _ _ _ Q c h1 h2 q =>
  ⟨a, b, Is.dp _ _ (Is.mono c.e3 _ _ h1), Is.dp _ _ (Is.mono c.e3 _ _ h2), ha, hb, q.now c (.bl _) rfl⟩
theorem rd_neD {a b : PyData} (ha : SeqAt.shaped a = true) (hb : SeqAt.shaped b = true) : R2D K (rNeD K) a b (fun d => d = .bool (!PyData.eqv a b)) := fun x y _ _ _ _ _ _ _ Q c h1 h2 q =>
  ⟨a, b, Is.dp _ _ (Is.mono c.e3 _ _ h1), Is.dp _ _ (Is.mono c.e3 _ _ h2), ha, hb, q.now c (.bl _) rfl⟩
theorem atI_is {H : Hp} {vs : List V} {ds : List PyData} {i : Int} {d : PyData} (h : Iss K H vs ds) (e : atI ds i = some d) : ∃ v, atI vs i = some v ∧ Is K H v d := by
  unfold atI at e ⊢
  rw [h.length]
  cases q : ixN ds.length i with
  | none => rw [q] at e; cases e
  | some j =>
    rw [q] at e
    exact h.get e
theorem rd_ixL {ds : List PyData} {i : Int} {d : PyData} (e : atI ds i = some d) : R2D K (rIxL K) (.list ds) (.int i) (fun x => x = d) := fun x y _ _ _ _ _ _ _ Q c h1 h2 q => by
  obtain ⟨a, xs, rfl, ha, hs⟩ := h1.lst_of
  cases h2
  obtain ⟨v, hv, iv⟩ := atI_is hs e
  exact ⟨a, xs, i, v, rfl, rfl, .of (c.e3 _ _ ha), hv, q.now c iv rfl⟩
theorem rd_ixT {ds : List PyData} {i : Int} {d : PyData} (e : atI ds i = some d) : R2D K (rIxT K) (.tuple ds) (.int i) (fun x => x = d) := fun x y _ _ _ _ _ _ _ Q c h1 h2 q => by
  obtain ⟨a, xs, rfl, ha, hs⟩ := h1.tup_of
  cases h2
  obtain ⟨v, hv, iv⟩ := atI_is hs e
  exact ⟨a, xs, i, v, rfl, rfl, ex_t c.e3 ha, hv, q.now c iv rfl⟩
theorem rd_cat {xs ys : List PyData} (hz : xs.length + ys.length ≤ sizeLine) : R2D K rCat (.list xs) (.list ys) (fun d => d = .list (xs ++ ys)) := fun x y _ _ _ _ _ _ _ Q c h1 h2 q => by
  obtain ⟨a, us, rfl, ha, hs⟩ := h1.lst_of
  obtain ⟨b, ws, rfl, hb, ht⟩ := h2.lst_of
  exact ⟨a, b, us, ws, rfl, rfl, c.e3 _ _ ha, c.e3 _ _ hb, by rw [hs.length, ht.length]; exact hz, fun p hp => q.lst c hp (hs.append ht) rfl⟩
theorem rd_catT {xs ys : List PyData} (hz : xs.length + ys.length ≤ sizeLine) : R2D K (rCatA K) (.tuple xs) (.tuple ys) (fun d => d = .tuple (xs ++ ys)) := fun x y _ _ _ _ _ _ _ Q c h1 h2 q => by
  obtain ⟨a, us, rfl, ha, hs⟩ := h1.tup_of
  obtain ⟨b, ws, rfl, hb, ht⟩ := h2.tup_of
  refine ⟨a, b, us, ws, rfl, rfl, ex_t c.e3 ha, ex_t c.e3 hb, by rw [hs.length, ht.length]; exact hz, fun e => ?_, fun _ e => ?_, fun _ _ p hp => q.tup c hp (hs.append ht) rfl⟩
  · subst e
    cases hs
    exact q.now c (.tup hb ht) rfl
  · subst e
    cases ht
    exact q.now c (.tup ha hs) (by rw [List.append_nil])
theorem rd_rep {xs : List PyData} {k : Int} (h0 : xs ≠ []) (h1 : 2 ≤ k) (h2 : k ≤ 1000) (h3 : xs.length ≤ 1000) : R2D K (rRepT K) (.tuple xs) (.int k) (fun d => d = .tuple (List.replicate k.toNat xs).flatten) := fun x y _ _ _ Hk H _ _ Q c i1 i2 q => by
  obtain ⟨a, us, rfl, ha, hs⟩ := i1.tup_of
  cases i2
  refine ⟨a, k, us, rfl, rfl, ex_t c.e3 ha, fun e => h0 ?_, h1, h2, by rw [hs.length]; exact h3, fun p hp => q.tup c hp ?_ rfl⟩
  · have := hs.length
    rw [e] at this
    exact List.eq_nil_of_length_eq_zero this.symm
  · have : ∀ n : Nat, Iss K Hk (List.replicate n us).flatten (List.replicate n xs).flatten := fun n => by
      induction n with
      | zero => exact .nil
      | succ n ih => rw [List.replicate_succ, List.replicate_succ, List.flatten_cons, List.flatten_cons]; exact hs.append ih
    exact this _
def fltD : PyData → Bool
  | .int _ => true
  | _ => false
/-- an int in a tuple of ints -/
theorem rd_in {ns : List Int} {k : Int} : R2D K (rIn K false) (.int k) (.tuple (ns.map .int)) (fun d => d = .bool (decide (k ∈ ns))) := fun x y _ _ _ _ _ _ _ Q c h1 h2 q => by
  cases h1
  obtain ⟨a, us, rfl, ha, hs⟩ := h2.tup_of
  have e := Iss.ints hs
  subst e
  refine ⟨a, _, rfl, .inr (ex_t c.e3 ha), rfl, ?_, ?_⟩
  · rw [List.all_map]
    exact List.all_eq_true.mpr fun _ _ => rfl
  · have e2 : inV (.int k) (ns.map V.int) = decide (k ∈ ns) := by
      unfold inV
      rw [List.any_map]
      by_cases hk : k ∈ ns
      · rw [decide_eq_true hk]
        exact List.any_eq_true.mpr ⟨k, hk, by show (k == k) = true; simp⟩
      · rw [decide_eq_false hk]
        refine Bool.eq_false_iff.mpr fun z => ?_
        obtain ⟨n, hn, z⟩ := List.any_eq_true.mp z
        have z : (n == k) = true := z
        have : n = k := by simpa using z
        subst this
        exact hk hn
    rw [if_neg Bool.false_ne_true, e2]
    exact q.now c (.bl _) rfl
end

/-! ### x in a tuple of data -/
def rInTD (K : PySem.W.Frag) : R2 := fun x y H Q => ∃ d ds, Dp K H x d ∧ Dp K H y (.tuple ds) ∧ SeqAt.shaped d = true ∧ SeqAt.shaped (.tuple ds) = true ∧ Q (.bl (ds.any fun z => PyData.eqv z d)) H
theorem op_inTD {X : Cx} (hu : X.A.units + 65 < cLine) : OpR X (compareOp .In) (rInTD X.K) := by
  intro pins s σ H x y v u Q I rx ry h
  obtain ⟨d, ds, hd, he, sd, se, q⟩ := h
  obtain ⟨as, r1⟩ := Dp.reads I d x v hd rx
  obtain ⟨bs, r2⟩ := Dp.reads I (.tuple ds) y u he ry
  refine SeqAt.in_tuple_reads r2 r1 (SeqAt.canLay_of_shaped se) (SeqAt.canLay_of_shaped sd) ?_ ⟨.bl _, H, I, rfl, q⟩
  have h1 := SeqAt.depth_of_shaped sd
  have h2 : min (PyData.depthAll ds) d.depth ≤ d.depth := Nat.min_le_right _ _
  omega
theorem rd_inTD {K : PySem.W.Frag} {d : PyData} {ds : List PyData} (ha : SeqAt.shaped d = true) (hb : SeqAt.shaped (.tuple ds) = true) : R2D K (rInTD K) d (.tuple ds) (fun z => z = .bool (ds.any fun z => PyData.eqv z d)) := fun x y _ _ _ _ _ _ _ Q c h1 h2 q =>
  ⟨d, ds, Is.dp _ _ (Is.mono c.e3 _ _ h1), Is.dp _ _ (Is.mono c.e3 _ _ h2), ha, hb, q.now c (.bl _) rfl⟩

theorem R2D.bt {K : PySem.W.Frag} {r : R2} {x y : PyData} {k : Bool} (h : R2D K r x y (fun d => d = .bool k)) : R2D K r x y (fun d => ∃ b, d = .bool b ∧ b = k) := fun x y _ _ _ _ _ _ _ Q c h1 h2 q =>
  h x y _ _ _ _ _ _ _ Q c h1 h2 fun v d Hk' H' a b i s => q v d Hk' H' a b i ⟨k, s, rfl⟩
section
variable {F : Fx} {ρ : Dn} {a b c : Expr} {pos : Pos} {i j : Int}
/-! ### numbers -/
theorem ev_add (ha : EV F ρ a (.int i)) (hb : EV F ρ b (.int j)) : EV F ρ (.BinOp a .Add b pos) (.int (i + j)) := ex_op (fun _ => op_add) ha hb fun x y e1 e2 => by subst e1; subst e2; exact rd_I0
theorem ev_sub (ha : EV F ρ a (.int i)) (hb : EV F ρ b (.int j)) : EV F ρ (.BinOp a .Sub b pos) (.int (i - j)) := ex_op (fun _ => op_sub) ha hb fun x y e1 e2 => by subst e1; subst e2; exact rd_I0
theorem ev_mul (ha : EV F ρ a (.int i)) (hb : EV F ρ b (.int j)) (h : CMul i j) : EV F ρ (.BinOp a .Mult b pos) (.int (i * j)) := ex_op (fun _ => op_mul) ha hb fun x y e1 e2 => by subst e1; subst e2; exact rd_I h
theorem ev_fdiv (ha : EV F ρ a (.int i)) (hb : EV F ρ b (.int j)) (h : CDivN i j) : EV F ρ (.BinOp a .FloorDiv b pos) (.int (i.fdiv j)) := ex_op (fun _ => op_fdivN) ha hb fun x y e1 e2 => by subst e1; subst e2; exact rd_I h
theorem ev_mod (ha : EV F ρ a (.int i)) (hb : EV F ρ b (.int j)) (h : j ≠ 0) : EV F ρ (.BinOp a .Mod b pos) (.int (i.fmod j)) := ex_op (fun _ => op_modN) ha hb fun x y e1 e2 => by subst e1; subst e2; exact rd_I h
theorem ev_neg (ha : EV F ρ a (.int i)) : EV F ρ (.UnaryOp .USub a pos) (.int (-i)) := ex_un (fun _ => un_neg) ha fun x e => by
  subst e
  intro x _ _ _ _ _ _ _ Q c h1 q
  cases h1
  exact ⟨i, rfl, q.now c (.int _) rfl⟩
/-! ### comparisons of numbers: as values, as tests -/
theorem ev_lt (ha : EV F ρ a (.int i)) (hb : EV F ρ b (.int j)) : EV F ρ (.Compare a [.Lt] [b] pos) (.bool (decide (i < j))) := ex_cmp (fun _ => op_lt) ha hb (nomark _) fun x y e1 e2 => by subst e1; subst e2; exact rd_B0
theorem ev_le (ha : EV F ρ a (.int i)) (hb : EV F ρ b (.int j)) : EV F ρ (.Compare a [.LtE] [b] pos) (.bool (decide (i ≤ j))) := ex_cmp (fun _ => op_le) ha hb (nomark _) fun x y e1 e2 => by subst e1; subst e2; exact rd_B0
theorem ev_eq (ha : EV F ρ a (.int i)) (hb : EV F ρ b (.int j)) : EV F ρ (.Compare a [.Eq] [b] pos) (.bool (decide (i = j))) := ex_cmp (fun _ => op_eq) ha hb (nomark _) fun x y e1 e2 => by subst e1; subst e2; exact rd_eqI
theorem ev_ne (ha : EV F ρ a (.int i)) (hb : EV F ρ b (.int j)) : EV F ρ (.Compare a [.NotEq] [b] pos) (.bool (!decide (i = j))) := ex_cmp (fun _ => op_ne) ha hb (nomark _) fun x y e1 e2 => by subst e1; subst e2; exact rd_neI
theorem tv_lt (ha : EV F ρ a (.int i)) (hb : EV F ρ b (.int j)) : TV F ρ (.Compare a [.Lt] [b] pos) (decide (i < j)) := et_cmp (fun _ => op_lt) ha hb (nomark _) fun x y e1 e2 => by subst e1; subst e2; exact R2D.bt rd_B0
theorem tv_le (ha : EV F ρ a (.int i)) (hb : EV F ρ b (.int j)) : TV F ρ (.Compare a [.LtE] [b] pos) (decide (i ≤ j)) := et_cmp (fun _ => op_le) ha hb (nomark _) fun x y e1 e2 => by subst e1; subst e2; exact R2D.bt rd_B0
theorem tv_gt (ha : EV F ρ a (.int i)) (hb : EV F ρ b (.int j)) : TV F ρ (.Compare a [.Gt] [b] pos) (decide (j < i)) := et_cmp (fun _ => op_gt) ha hb (nomark _) fun x y e1 e2 => by subst e1; subst e2; exact R2D.bt rd_B0
theorem tv_ge (ha : EV F ρ a (.int i)) (hb : EV F ρ b (.int j)) : TV F ρ (.Compare a [.GtE] [b] pos) (decide (j ≤ i)) := et_cmp (fun _ => op_ge) ha hb (nomark _) fun x y e1 e2 => by subst e1; subst e2; exact R2D.bt rd_B0
theorem tv_eq (ha : EV F ρ a (.int i)) (hb : EV F ρ b (.int j)) : TV F ρ (.Compare a [.Eq] [b] pos) (decide (i = j)) := et_cmp (fun _ => op_eq) ha hb (nomark _) fun x y e1 e2 => by subst e1; subst e2; exact R2D.bt rd_eqI
theorem tv_ne (ha : EV F ρ a (.int i)) (hb : EV F ρ b (.int j)) : TV F ρ (.Compare a [.NotEq] [b] pos) (!decide (i = j)) := et_cmp (fun _ => op_ne) ha hb (nomark _) fun x y e1 e2 => by subst e1; subst e2; exact R2D.bt rd_neI
/-! ### data -/
variable {x y : PyData} {ds es : List PyData}
theorem tv_eqD (hu : F.A.units + 200 < cLine) (ha : EV F ρ a x) (hb : EV F ρ b y) (sx : SeqAt.shaped x = true) (sy : SeqAt.shaped y = true) : TV F ρ (.Compare a [.Eq] [b] pos) (PyData.eqv x y) := et_cmp (r := rEqD F.K) (fun v => op_eqD (X := F.cx v) (by show F.A.units + 64 < cLine; omega)) ha hb (nomark _) fun x y e1 e2 => by subst e1; subst e2; exact (rd_eqD sx sy).bt
theorem tv_neD (hu : F.A.units + 200 < cLine) (ha : EV F ρ a x) (hb : EV F ρ b y) (sx : SeqAt.shaped x = true) (sy : SeqAt.shaped y = true) : TV F ρ (.Compare a [.NotEq] [b] pos) (!PyData.eqv x y) := et_cmp (r := rNeD F.K) (fun v => op_neD (X := F.cx v) (by show F.A.units + 64 < cLine; omega)) ha hb (nomark _) fun x y e1 e2 => by subst e1; subst e2; exact (rd_neD sx sy).bt
theorem ev_eqD (hu : F.A.units + 200 < cLine) (ha : EV F ρ a x) (hb : EV F ρ b y) (sx : SeqAt.shaped x = true) (sy : SeqAt.shaped y = true) : EV F ρ (.Compare a [.Eq] [b] pos) (.bool (PyData.eqv x y)) := ex_cmp (r := rEqD F.K) (fun v => op_eqD (X := F.cx v) (by show F.A.units + 64 < cLine; omega)) ha hb (nomark _) fun x y e1 e2 => by subst e1; subst e2; exact rd_eqD sx sy
theorem tv_inTD (hu : F.A.units + 200 < cLine) (ha : EV F ρ a x) (hb : EV F ρ b (.tuple ds)) (sx : SeqAt.shaped x = true) (sy : SeqAt.shaped (.tuple ds) = true) (hm : behindInMarks .In b = false := by rfl) : TV F ρ (.Compare a [.In] [b] pos) (ds.any fun z => PyData.eqv z x) := et_cmp (r := rInTD F.K) (fun v => op_inTD (X := F.cx v) (by show F.A.units + 65 < cLine; omega)) ha hb hm fun x y e1 e2 => by subst e1; subst e2; exact (rd_inTD sx sy).bt
theorem ev_in {ns : List Int} (ha : EV F ρ a (.int i)) (hb : EV F ρ b (.tuple (ns.map .int))) (hm : behindInMarks .In b = false := by rfl) : EV F ρ (.Compare a [.In] [b] pos) (.bool (decide (i ∈ ns))) := ex_cmp (r := rIn F.K false) (fun v => op_in_seq (X := F.cx v)) ha hb hm fun x y e1 e2 => by subst e1; subst e2; exact rd_in
theorem tv_in {ns : List Int} (ha : EV F ρ a (.int i)) (hb : EV F ρ b (.tuple (ns.map .int))) (hm : behindInMarks .In b = false := by rfl) : TV F ρ (.Compare a [.In] [b] pos) (decide (i ∈ ns)) := et_cmp (r := rIn F.K false) (fun v => op_in_seq (X := F.cx v)) ha hb hm fun x y e1 e2 => by subst e1; subst e2; exact R2D.bt rd_in
theorem ev_ixL (ha : EV F ρ a (.list ds)) (hb : EV F ρ b (.int i)) (h : atI ds i = some x) (hs : PlainIx b := by exact fun _ _ => rfl) : EV F ρ (.Subscript a b pos) x := ex_ix (r := rIxL F.K) (fun v => ix_list (X := F.cx v)) ha hb hs fun x y e1 e2 => by subst e1; subst e2; exact rd_ixL h
theorem ev_ixT (ha : EV F ρ a (.tuple ds)) (hb : EV F ρ b (.int i)) (h : atI ds i = some x) (hs : PlainIx b := by exact fun _ _ => rfl) : EV F ρ (.Subscript a b pos) x := ex_ix (r := rIxT F.K) (fun v => ix_tup (X := F.cx v)) ha hb hs fun x y e1 e2 => by subst e1; subst e2; exact rd_ixT h
theorem ev_cat (ha : EV F ρ a (.list ds)) (hb : EV F ρ b (.list es)) (h : ds.length + es.length ≤ sizeLine) : EV F ρ (.BinOp a .Add b pos) (.list (ds ++ es)) := ex_op (fun v => op_cat) ha hb fun x y e1 e2 => by subst e1; subst e2; exact rd_cat h
theorem ev_catT (ha : EV F ρ a (.tuple ds)) (hb : EV F ρ b (.tuple es)) (h : ds.length + es.length ≤ sizeLine) : EV F ρ (.BinOp a .Add b pos) (.tuple (ds ++ es)) := ex_op (r := rCatA F.K) (fun v => op_catA (X := F.cx v)) ha hb fun x y e1 e2 => by subst e1; subst e2; exact rd_catT h
end

/-! ### slices -/
section
variable {F : Fx} {ρ : Dn} {e lo hi : Expr} {pos p2 : Pos} {ds : List PyData} {k : Int}
theorem cut_to {α : Type} (xs : List α) (k : Nat) : ((xs.drop (HT.sIx xs.length 0 none)).take (HT.sIx xs.length xs.length (some (k : Int)) - HT.sIx xs.length 0 none)) = xs.take k := by
  rw [HT.sIx_nat, HT.sIx_none, List.drop_zero, Nat.sub_zero]
  by_cases h : k ≤ xs.length
  · rw [Nat.min_eq_left h]
  · rw [Nat.min_eq_right (by omega), List.take_length, List.take_of_length_le (by omega)]
theorem cut_from {α : Type} (xs : List α) (k : Nat) : ((xs.drop (HT.sIx xs.length 0 (some (k : Int)))).take (HT.sIx xs.length xs.length none - HT.sIx xs.length 0 (some (k : Int)))) = xs.drop k := by
  rw [HT.sIx_nat, HT.sIx_none]
  by_cases h : k ≤ xs.length
  · rw [Nat.min_eq_left h]
    exact List.take_of_length_le (by rw [List.length_drop]; exact Nat.le_refl _)
  · rw [Nat.min_eq_right (by omega), List.drop_length, List.drop_of_length_le (by omega)]
    simp
theorem eo_some {e : Expr} {rw' : Option Addr} {Hk0 H0 Hk H : Hp} {σ : L2.St} {Q : Option Int → Hp → Prop} (h : EV F ρ e (.int k)) (c : Cfg F.K rw' Hk0 H0 Hk H σ ρ) (q : ∀ Hk' H', Ex Hk Hk' → Cfg F.K rw' Hk0 H0 Hk' H' σ ρ → Q (some k) H') : tPart (wE F e) σ H Q :=
  h _ _ _ _ _ _ _ c fun v d Hk' H' e1 c1 i1 s => by
    subst s
    cases i1
    exact ⟨k, rfl, q Hk' H' e1 c1⟩
/-- xs[:k], xs[k:] of a list -/
theorem ev_toL {k : Nat} (he : EV F ρ e (.list ds)) (hk : EV F ρ hi (.int (k : Int))) : EV F ρ (.Subscript e (.Slice none (some hi) none p2) pos) (.list (ds.take k)) :=
  ex_of (t := tSl (rSlL F.K) (wE F e) tNoPart (tPart (wE F hi))) (fun v => pe_slice sl_list pe_w po_none (po_some pe_w)) fun _ _ _ _ _ _ _ c q => he _ _ _ _ _ _ _ c fun x d Hk1 H1 e1 c1 i1 s1 => by
    subst s1
    dsimp only [tNoPart]
    refine eo_some hk c1 fun Hk2 H2 e2 c2 => ?_
    obtain ⟨a, xs, rfl, ha, hs⟩ := (Is.mono e2 _ _ i1).lst_of
    refine ⟨a, xs, rfl, .of (c2.e3 _ _ ha), fun p hp => ?_⟩
    have ec : cutV xs none (some (k : Int)) = xs.take k := cut_to xs k
    rw [ec]
    exact (q.mono (e1.trans e2)).lst c2 hp (hs.take k) rfl
theorem ev_fromL {k : Nat} (he : EV F ρ e (.list ds)) (hk : EV F ρ lo (.int (k : Int))) : EV F ρ (.Subscript e (.Slice (some lo) none none p2) pos) (.list (ds.drop k)) :=
  ex_of (t := tSl (rSlL F.K) (wE F e) (tPart (wE F lo)) tNoPart) (fun v => pe_slice sl_list pe_w (po_some pe_w) po_none) fun _ _ _ _ _ _ _ c q => he _ _ _ _ _ _ _ c fun x d Hk1 H1 e1 c1 i1 s1 => by
    subst s1
    refine eo_some hk c1 fun Hk2 H2 e2 c2 => ?_
    obtain ⟨a, xs, rfl, ha, hs⟩ := (Is.mono e2 _ _ i1).lst_of
    refine ⟨a, xs, rfl, .of (c2.e3 _ _ ha), fun p hp => ?_⟩
    have ec : cutV xs (some (k : Int)) none = xs.drop k := cut_from xs k
    rw [ec]
    exact (q.mono (e1.trans e2)).lst c2 hp (hs.drop k) rfl
theorem ev_toT {k : Nat} (he : EV F ρ e (.tuple ds)) (hk : EV F ρ hi (.int (k : Int))) : EV F ρ (.Subscript e (.Slice none (some hi) none p2) pos) (.tuple (ds.take k)) :=
  ex_of (t := tSl (rSlA F.K) (wE F e) tNoPart (tPart (wE F hi))) (fun v => pe_slice sl_tupA pe_w po_none (po_some pe_w)) fun _ _ _ _ _ _ _ c q => he _ _ _ _ _ _ _ c fun x d Hk1 H1 e1 c1 i1 s1 => by
    subst s1
    dsimp only [tNoPart]
    refine eo_some hk c1 fun Hk2 H2 e2 c2 => ?_
    obtain ⟨a, xs, rfl, ha, hs⟩ := (Is.mono e2 _ _ i1).tup_of
    refine ⟨a, xs, rfl, ex_t c2.e3 ha, fun hw => ?_, fun _ p hp => ?_⟩
    · have hle : xs.length ≤ k := by
        have := hw.2
        rw [HT.sIx_nat] at this
        omega
      exact (q.mono (e1.trans e2)).now c2 (.tup ha hs) (by rw [List.take_of_length_le (by rw [← hs.length]; exact hle)])
    · have ec : cutV xs none (some (k : Int)) = xs.take k := cut_to xs k
      rw [ec]
      exact (q.mono (e1.trans e2)).tup c2 hp (hs.take k) rfl
theorem ev_fromT {k : Nat} (he : EV F ρ e (.tuple ds)) (hk : EV F ρ lo (.int (k : Int))) : EV F ρ (.Subscript e (.Slice (some lo) none none p2) pos) (.tuple (ds.drop k)) :=
  ex_of (t := tSl (rSlA F.K) (wE F e) (tPart (wE F lo)) tNoPart) (fun v => pe_slice sl_tupA pe_w (po_some pe_w) po_none) fun _ _ _ _ _ _ _ c q => he _ _ _ _ _ _ _ c fun x d Hk1 H1 e1 c1 i1 s1 => by
    subst s1
    refine eo_some hk c1 fun Hk2 H2 e2 c2 => ?_
    obtain ⟨a, xs, rfl, ha, hs⟩ := (Is.mono e2 _ _ i1).tup_of
    refine ⟨a, xs, rfl, ex_t c2.e3 ha, fun hw => ?_, fun _ p hp => ?_⟩
    · have h0 : min k xs.length = 0 := by
        have := hw.1
        rw [HT.sIx_nat] at this
        exact this
      refine (q.mono (e1.trans e2)).now c2 (.tup ha hs) ?_
      by_cases hk0 : k = 0
      · rw [hk0, List.drop_zero]
      · have : ds = [] := List.eq_nil_of_length_eq_zero (by rw [← hs.length]; omega)
        rw [this, List.drop_nil]
    · have ec : cutV xs (some (k : Int)) none = xs.drop k := cut_from xs k
      rw [ec]
      exact (q.mono (e1.trans e2)).tup c2 hp (hs.drop k) rfl
end

/-! ### calls of built-ins -/
section
variable {F : Fx} {ρ : Dn} {e e2 : Expr} {p pos : Pos} {ds : List PyData} {i j : Int}
theorem sg_len {x : Str} (hx : F.sc.names.lookup x = some .globalImplicit) : F.sc.names.lookup x = some .globalImplicit := hx
theorem ev_lenL (hm : F.mg "len" = none) (h : EV F ρ e (.list ds)) (hg : F.sc.names.lookup ("len" : Str) = some .globalImplicit := by rfl) (he : ∀ v, starEach [e] (F.cx v).env = (false, eval e (F.cx v).env) :: starEach [] (F.cx v).env := by intro _; rfl) : EV F ρ (.Call (.Name "len" p) [e] [] pos) (.int (ds.length : Int)) :=
  ex_callB (id := "len") (r := fun xs H Q => ∃ p ys, xs = [.ref p] ∧ (SqL F.K H p ys ∨ SqT F.K H p ys) ∧ Q (.int ys.length) H) (fun _ => call_len_seq) hm PySem.boot_len (av_cons h ea_nil he) (fun ds' e' => by
    subst e'
    intro xs _ _ _ _ _ _ _ Q c is q
    cases is with
    | cons i1 i2 =>
      cases i2
      obtain ⟨a, us, rfl, ha, hs⟩ := i1.lst_of
      refine ⟨a, us, rfl, .inl (.of (c.e3 _ _ ha)), ?_⟩
      rw [hs.length]
      exact q.now c (.int _) rfl) hg (by decide) (by decide) he (by intro _; rfl)
theorem ev_lenT (hm : F.mg "len" = none) (h : EV F ρ e (.tuple ds)) (hg : F.sc.names.lookup ("len" : Str) = some .globalImplicit := by rfl) (he : ∀ v, starEach [e] (F.cx v).env = (false, eval e (F.cx v).env) :: starEach [] (F.cx v).env := by intro _; rfl) : EV F ρ (.Call (.Name "len" p) [e] [] pos) (.int (ds.length : Int)) :=
  ex_callB (id := "len") (r := fun xs H Q => ∃ p ys, xs = [.ref p] ∧ (SqL F.K H p ys ∨ SqT F.K H p ys) ∧ Q (.int ys.length) H) (fun _ => call_len_seq) hm PySem.boot_len (av_cons h ea_nil he) (fun ds' e' => by
    subst e'
    intro xs _ _ _ _ _ _ _ Q c is q
    cases is with
    | cons i1 i2 =>
      cases i2
      obtain ⟨a, us, rfl, ha, hs⟩ := i1.tup_of
      refine ⟨a, us, rfl, .inr (ex_t c.e3 ha), ?_⟩
      rw [hs.length]
      exact q.now c (.int _) rfl) hg (by decide) (by decide) he (by intro _; rfl)
theorem ev_listL (hm : F.mg "list" = none) (h : EV F ρ e (.list ds)) (hg : F.sc.names.lookup ("list" : Str) = some .globalImplicit := by rfl) (he : ∀ v, starEach [e] (F.cx v).env = (false, eval e (F.cx v).env) :: starEach [] (F.cx v).env := by intro _; rfl) : EV F ρ (.Call (.Name "list" p) [e] [] pos) (.list ds) :=
  ex_callTy (id := "list") (r := fun xs H Q => ∃ p ys, xs = [.ref p] ∧ (SqL F.K H p ys ∨ SqT F.K H p ys) ∧ ∀ l, H l = none → Q (.ref l) (upd H l (.lst ys))) (fun _ => call_list_of) hm (by decide +kernel) (av_cons h ea_nil he) (fun ds' e' => by
    subst e'
    intro xs _ _ _ _ _ _ _ Q c is q
    cases is with
    | cons i1 i2 =>
      cases i2
      obtain ⟨a, us, rfl, ha, hs⟩ := i1.lst_of
      exact ⟨a, us, rfl, .inl (.of (c.e3 _ _ ha)), fun l hl => q.lst c hl hs rfl⟩) hg (by decide) (by decide) he (by intro _; rfl)
theorem ev_listT (hm : F.mg "list" = none) (h : EV F ρ e (.tuple ds)) (hg : F.sc.names.lookup ("list" : Str) = some .globalImplicit := by rfl) (he : ∀ v, starEach [e] (F.cx v).env = (false, eval e (F.cx v).env) :: starEach [] (F.cx v).env := by intro _; rfl) : EV F ρ (.Call (.Name "list" p) [e] [] pos) (.list ds) :=
  ex_callTy (id := "list") (r := fun xs H Q => ∃ p ys, xs = [.ref p] ∧ (SqL F.K H p ys ∨ SqT F.K H p ys) ∧ ∀ l, H l = none → Q (.ref l) (upd H l (.lst ys))) (fun _ => call_list_of) hm (by decide +kernel) (av_cons h ea_nil he) (fun ds' e' => by
    subst e'
    intro xs _ _ _ _ _ _ _ Q c is q
    cases is with
    | cons i1 i2 =>
      cases i2
      obtain ⟨a, us, rfl, ha, hs⟩ := i1.tup_of
      exact ⟨a, us, rfl, .inr (ex_t c.e3 ha), fun l hl => q.lst c hl hs rfl⟩) hg (by decide) (by decide) he (by intro _; rfl)
theorem ex_tupleL {S : PyData → Prop} {T : List PyData → Prop} (hm : F.mg "tuple" = none) (h : EX F ρ e (fun d => ∃ ds, d = .list ds ∧ T ds)) (hS : ∀ ds, T ds → S (.tuple ds)) (hg : F.sc.names.lookup ("tuple" : Str) = some .globalImplicit := by rfl) (he : ∀ v, starEach [e] (F.cx v).env = (false, eval e (F.cx v).env) :: starEach [] (F.cx v).env := by intro _; rfl) : EX F ρ (.Call (.Name "tuple" p) [e] [] pos) S :=
  ex_callTy (id := "tuple") (r := fun xs H Q => ∃ p ys, xs = [.ref p] ∧ ((SqL F.K H p ys ∧ ∀ l, H l = none → Q (.ref l) (upd H l (.tup ys))) ∨ (SqT F.K H p ys ∧ Q (.ref p) H))) (fun _ => call_tuple_of) hm (by decide +kernel) (ea_cons h ea_nil he) (fun ds' s => by
    obtain ⟨d, r, rfl, ⟨ds, rfl, t⟩, rfl⟩ := s
    intro xs _ _ _ _ _ _ _ Q c is q
    cases is with
    | cons i1 i2 =>
      cases i2
      obtain ⟨a, us, rfl, ha, hs⟩ := i1.lst_of
      exact ⟨a, us, rfl, .inl ⟨.of (c.e3 _ _ ha), fun l hl => q.tup c hl hs (hS ds t)⟩⟩) hg (by decide) (by decide) he (by intro _; rfl)
theorem ev_tupleL (hm : F.mg "tuple" = none) (h : EV F ρ e (.list ds)) (hg : F.sc.names.lookup ("tuple" : Str) = some .globalImplicit := by rfl) (he : ∀ v, starEach [e] (F.cx v).env = (false, eval e (F.cx v).env) :: starEach [] (F.cx v).env := by intro _; rfl) : EV F ρ (.Call (.Name "tuple" p) [e] [] pos) (.tuple ds) :=
  ex_tupleL hm (h.weak fun d e => ⟨ds, e, rfl⟩) (fun ds' e => by rw [e]) hg he
theorem ev_tupleT (hm : F.mg "tuple" = none) (h : EV F ρ e (.tuple ds)) (hg : F.sc.names.lookup ("tuple" : Str) = some .globalImplicit := by rfl) (he : ∀ v, starEach [e] (F.cx v).env = (false, eval e (F.cx v).env) :: starEach [] (F.cx v).env := by intro _; rfl) : EV F ρ (.Call (.Name "tuple" p) [e] [] pos) (.tuple ds) :=
  ex_callTy (id := "tuple") (r := fun xs H Q => ∃ p ys, xs = [.ref p] ∧ ((SqL F.K H p ys ∧ ∀ l, H l = none → Q (.ref l) (upd H l (.tup ys))) ∨ (SqT F.K H p ys ∧ Q (.ref p) H))) (fun _ => call_tuple_of) hm (by decide +kernel) (av_cons h ea_nil he) (fun ds' e' => by
    subst e'
    intro xs _ _ _ _ _ _ _ Q c is q
    cases is with
    | cons i1 i2 =>
      cases i2
      obtain ⟨a, us, rfl, ha, hs⟩ := i1.tup_of
      exact ⟨a, us, rfl, .inr ⟨ex_t c.e3 ha, q.now c (.tup ha hs) rfl⟩⟩) hg (by decide) (by decide) he (by intro _; rfl)
theorem ev_abs (hm : F.mg "abs" = none) (h : EV F ρ e (.int i)) (hg : F.sc.names.lookup ("abs" : Str) = some .globalImplicit := by rfl) (he : ∀ v, starEach [e] (F.cx v).env = (false, eval e (F.cx v).env) :: starEach [] (F.cx v).env := by intro _; rfl) : EV F ρ (.Call (.Name "abs" p) [e] [] pos) (.int (i.natAbs : Int)) :=
  ex_callB (id := "abs") (r := fun xs H Q => ∃ i, xs = [.int i] ∧ Q (.int (if i < 0 then -i else i)) H) (fun _ => call_abs) hm (by decide +kernel) (av_cons h ea_nil he) (fun ds' e' => by
    subst e'
    intro xs _ _ _ _ _ _ _ Q c is q
    cases is with
    | cons i1 i2 =>
      cases i2
      cases i1
      refine ⟨i, rfl, ?_⟩
      have : (if i < 0 then -i else i) = (i.natAbs : Int) := by split <;> omega
      rw [this]
      exact q.now c (.int _) rfl) hg (by decide) (by decide) he (by intro _; rfl)
theorem ev_int (hm : F.mg "int" = none) (h : EV F ρ e (.int i)) (hg : F.sc.names.lookup ("int" : Str) = some .globalImplicit := by rfl) (he : ∀ v, starEach [e] (F.cx v).env = (false, eval e (F.cx v).env) :: starEach [] (F.cx v).env := by intro _; rfl) : EV F ρ (.Call (.Name "int" p) [e] [] pos) (.int i) :=
  ex_callTy (id := "int") (r := fun xs H Q => (∃ i, xs = [.int i] ∧ Q (.int i) H) ∨ ∃ k, xs = [.bl k] ∧ Q (.int (if k then 1 else 0)) H) (fun _ => call_int1) hm (by decide +kernel) (av_cons h ea_nil he) (fun ds' e' => by
    subst e'
    intro xs _ _ _ _ _ _ _ Q c is q
    cases is with
    | cons i1 i2 =>
      cases i2
      cases i1
      exact .inl ⟨i, rfl, q.now c (.int _) rfl⟩) hg (by decide) (by decide) he (by intro _; rfl)
theorem ev_max2 (hm : F.mg "max" = none) (h : EV F ρ e (.int i)) (h2 : EV F ρ e2 (.int j)) (hg : F.sc.names.lookup ("max" : Str) = some .globalImplicit := by rfl) (he : ∀ v, starEach [e, e2] (F.cx v).env = (false, eval e (F.cx v).env) :: starEach [e2] (F.cx v).env := by intro _; rfl) (he2 : ∀ v, starEach [e2] (F.cx v).env = (false, eval e2 (F.cx v).env) :: starEach [] (F.cx v).env := by intro _; rfl)
    (hpl : ∀ v, (backTo pos (starEach [e2] (F.cx v).env)).any (·.1) = false := by intro _; rfl) : EV F ρ (.Call (.Name "max" p) [e, e2] [] pos) (.int (max i j)) :=
  ex_callB (id := "max") (r := fun xs H Q => ∃ i j, xs = [.int i, .int j] ∧ Q (.int (if j > i then j else i)) H) (fun _ => call_max2 rfl) hm (by decide +kernel) (av_cons h (av_cons h2 ea_nil he2) he) (fun ds' e' => by
    subst e'
    intro xs _ _ _ _ _ _ _ Q c is q
    cases is with
    | cons i1 i2 =>
      cases i2 with
      | cons i2 i3 =>
        cases i3
        cases i1
        cases i2
        refine ⟨i, j, rfl, ?_⟩
        have : (if j > i then j else i) = max i j := by split <;> omega
        rw [this]
        exact q.now c (.int _) rfl) hg (by decide) (by decide) he hpl
theorem ev_min2 (hm : F.mg "min" = none) (h : EV F ρ e (.int i)) (h2 : EV F ρ e2 (.int j)) (hg : F.sc.names.lookup ("min" : Str) = some .globalImplicit := by rfl) (he : ∀ v, starEach [e, e2] (F.cx v).env = (false, eval e (F.cx v).env) :: starEach [e2] (F.cx v).env := by intro _; rfl) (he2 : ∀ v, starEach [e2] (F.cx v).env = (false, eval e2 (F.cx v).env) :: starEach [] (F.cx v).env := by intro _; rfl)
    (hpl : ∀ v, (backTo pos (starEach [e2] (F.cx v).env)).any (·.1) = false := by intro _; rfl) : EV F ρ (.Call (.Name "min" p) [e, e2] [] pos) (.int (min i j)) :=
  ex_callB (id := "min") (r := fun xs H Q => ∃ i j, xs = [.int i, .int j] ∧ Q (.int (if j < i then j else i)) H) (fun _ => call_min2 rfl) hm (by decide +kernel) (av_cons h (av_cons h2 ea_nil he2) he) (fun ds' e' => by
    subst e'
    intro xs _ _ _ _ _ _ _ Q c is q
    cases is with
    | cons i1 i2 =>
      cases i2 with
      | cons i2 i3 =>
        cases i3
        cases i1
        cases i2
        refine ⟨i, j, rfl, ?_⟩
        have : (if j < i then j else i) = min i j := by split <;> omega
        rw [this]
        exact q.now c (.int _) rfl) hg (by decide) (by decide) he hpl
theorem ev_sum {ns : List Int} (hm : F.mg "sum" = none) (h : EV F ρ e (.list (ns.map .int))) (hg : F.sc.names.lookup ("sum" : Str) = some .globalImplicit := by rfl) (he : ∀ v, starEach [e] (F.cx v).env = (false, eval e (F.cx v).env) :: starEach [] (F.cx v).env := by intro _; rfl) : EV F ρ (.Call (.Name "sum" p) [e] [] pos) (.int ns.sum) :=
  ex_callB (id := "sum") (r := rSum F.K) (fun _ => cr_sum rfl) hm (by decide +kernel) (av_cons h ea_nil he) (fun ds' e' => by
    subst e'
    intro xs _ _ _ _ _ _ _ Q c is q
    cases is with
    | cons i1 i2 =>
      cases i2
      obtain ⟨a, us, rfl, ha, hs⟩ := i1.lst_of
      rw [Iss.ints hs] at ha
      exact ⟨a, ns, rfl, .of (c.e3 _ _ ha), q.now c (.int _) rfl⟩) hg (by decide) (by decide) he (by intro _; rfl)
theorem ev_minL {ns : List Int} {m : Int} (hm : F.mg "min" = none) (h : EV F ρ e (.list (ns.map .int))) (h1 : m ∈ ns) (h2 : ∀ y ∈ ns, m ≤ y) (hg : F.sc.names.lookup ("min" : Str) = some .globalImplicit := by rfl) (he : ∀ v, starEach [e] (F.cx v).env = (false, eval e (F.cx v).env) :: starEach [] (F.cx v).env := by intro _; rfl) : EV F ρ (.Call (.Name "min" p) [e] [] pos) (.int m) :=
  ex_callB (id := "min") (r := rMin F.K) (fun _ => cr_min rfl) hm (by decide +kernel) (av_cons h ea_nil he) (fun ds' e' => by
    subst e'
    intro xs _ _ _ _ _ _ _ Q c is q
    cases is with
    | cons i1 i2 =>
      cases i2
      obtain ⟨a, us, rfl, ha, hs⟩ := i1.lst_of
      rw [Iss.ints hs] at ha
      refine ⟨a, ns, rfl, .of (c.e3 _ _ ha), List.length_pos_of_mem h1, fun m' hm' hle => ?_⟩
      have : m' = m := Int.le_antisymm (hle m h1) (h2 m' hm')
      rw [this]
      exact q.now c (.int _) rfl) hg (by decide) (by decide) he (by intro _; rfl)
theorem ev_maxL {ns : List Int} {m : Int} (hm : F.mg "max" = none) (h : EV F ρ e (.list (ns.map .int))) (h1 : m ∈ ns) (h2 : ∀ y ∈ ns, y ≤ m) (hg : F.sc.names.lookup ("max" : Str) = some .globalImplicit := by rfl) (he : ∀ v, starEach [e] (F.cx v).env = (false, eval e (F.cx v).env) :: starEach [] (F.cx v).env := by intro _; rfl) : EV F ρ (.Call (.Name "max" p) [e] [] pos) (.int m) :=
  ex_callB (id := "max") (r := rMax F.K) (fun _ => cr_max rfl) hm (by decide +kernel) (av_cons h ea_nil he) (fun ds' e' => by
    subst e'
    intro xs _ _ _ _ _ _ _ Q c is q
    cases is with
    | cons i1 i2 =>
      cases i2
      obtain ⟨a, us, rfl, ha, hs⟩ := i1.lst_of
      rw [Iss.ints hs] at ha
      refine ⟨a, ns, rfl, .of (c.e3 _ _ ha), List.length_pos_of_mem h1, fun m' hm' hle => ?_⟩
      have : m' = m := Int.le_antisymm (h2 m' hm') (hle m h1)
      rw [this]
      exact q.now c (.int _) rfl) hg (by decide) (by decide) he (by intro _; rfl)
/-- isinstance -/
def tyD : PyData → String
  | .none => "NoneType"
  | .bool _ => "bool"
  | .int _ => "int"
  | .list _ => "list"
  | .tuple _ => "tuple"
  | _ => ""
theorem is_tyx {K : PySem.W.Frag} {H : Hp} {d : PyData} {v : V} (h : Is K H v d) : TyX K H v (.type (tyD d)) := by
  cases h with
  | non => exact .base .non
  | bl b => exact .base (.bl b)
  | int i => exact .base (.int i)
  | lst h1 h2 => exact .base (.lst h1)
  | tup h1 h2 =>
    rcases h1 with (h1 | ⟨o, h1⟩) | ⟨o, its, n, hk, hc, _⟩
    · exact .base (.tup h1)
    · exact .fTuple h1
    · exact .kTuple hk hc
theorem ev_isi {x : Str} {T : String} {d : PyData} {b : Bool} {px : Pos} (hm : F.mg "isinstance" = none) (hmT : F.mg x = none) (h : EV F ρ e d) (hb : bootBuiltins x = some (.type T)) (hk : kitB (tyD d) T = some b) (hg : F.sc.names.lookup ("isinstance" : Str) = some .globalImplicit := by rfl) (hgx : F.sc.names.lookup x = some .globalImplicit := by rfl)
    (hn : x ≠ "__name__" := by decide) (hdb : (x == ("__debug__" : Str)) = false := by decide) (he : ∀ v, starEach [e, .Name x px] (F.cx v).env = (false, eval e (F.cx v).env) :: starEach [.Name x px] (F.cx v).env := by intro _; rfl) (hpl : ∀ v, (backTo pos (starEach [.Name x px] (F.cx v).env)).any (·.1) = false := by intro _; rfl) :
    EV F ρ (.Call (.Name "isinstance" p) [e, .Name x px] [] pos) (.bool b) :=
  ex_of (t := tCB (rIsi F.K) (tCons (wE F e) (tCons (tC (.ty T)) tNil))) (fun v => pe_callB call_isi hg hm (by decide +kernel) (pa_cons pe_w (pa_cons (pe_bltn (v := .ty T) hgx hmT hb rfl hn hdb) pa_nil) (he v)) (by decide) (by decide) (he v) (hpl v)) fun _ _ _ _ _ _ Q c q => h _ _ _ _ _ _ _ c fun v d' Hk1 H1 e1 c1 i1 s1 => by
    subst s1
    exact ⟨v, .ty T, .type (tyD d'), .type T, b, rfl, .ty T, is_tyx (Is.mono c1.e3 _ _ i1), kit_ty hk, (q.mono e1).now c1 (.bl b) rfl⟩
end
end Lp

/-! LpF: sorted of tuples, of (int, tuple); sorted(set(t)); t * 1; two fors. -/
namespace LpSort
open PySem PyProof.Rows
section
variable {prog : Program} {w : World} {A : Around} {E : Value → Shared → Prop} {s : Shared}

/-! ### tuples of ints, any: some order -/
theorem lex_any {b f : Bool} {xs ys : List Value} {ns ms : List Int} (i : Nat) (hx : IntsAre xs ns) (hy : IntsAre ys ms) : ∃ c : Bool, PySem.W.KatLex prog w A b f (fun r s' => s' = s ∧ r = c) (xs.zip ys) i s := by
  induction hx generalizing ys ms i with
  | nil => exact ⟨f, PySem.W.kat_nil ⟨rfl, rfl⟩⟩
  | @cons p t xs ns hx ih =>
    cases hy with
    | nil => exact ⟨f, PySem.W.kat_nil ⟨rfl, rfl⟩⟩
    | @cons q u ys ms hy =>
      by_cases e : p = q
      · subst e
        obtain ⟨c, hc⟩ := ih (i + 1) hy
        refine ⟨c, ?_⟩
        show PySem.W.KatLex prog w A b f _ ((Value.int p t, Value.int p u) :: xs.zip ys) i s
        refine PySem.W.kat_cons (wpAny_eqBool_int ?_)
        rw [beq_self_eq_true]
        exact PySem.W.kat_yes hc
      · refine ⟨decide (p < q), ?_⟩
        show PySem.W.KatLex prog w A b f _ ((Value.int p t, Value.int q u) :: xs.zip ys) i s
        refine PySem.W.kat_cons (wpAny_eqBool_int ?_)
        rw [show (p == q) = false from beq_eq_false_iff_ne.mpr e]
        exact PySem.W.kat_no (TS.oneLt_ints _ ⟨rfl, rfl⟩)
/-- tuples of ints, none empty -/
def Tups (h : Heap) (vs : List Value) : Prop := ∀ v ∈ vs, ∃ ns, TS.TupInts h v ns ∧ ns ≠ []
theorem Tups.keeps {h h' : Heap} {vs : List Value} (x : Tups h vs) (k : ∀ b o, h.get? b = some o → o.cls = .type "tuple" → h'.get? b = some o) : Tups h' vs := fun v hv =>
  let ⟨ns, t, r⟩ := x v hv; ⟨ns, t.keeps k, r⟩
theorem tups_tot {vs : List Value} (hp : Tups s.heap vs) : Srt.Tot prog w A s (tuples' true) (fun p => p.1 ∈ vs) := by
  intro p q hm hm'
  obtain ⟨ns, ⟨a, xs, e1, ⟨o, ho, hc, n, hdt⟩, i⟩, _⟩ := hp _ hm
  obtain ⟨ms, ⟨a', ys, e2, ⟨o', ho', hc', n', hdt'⟩, i'⟩, _⟩ := hp _ hm'
  rw [e1, e2]
  obtain ⟨c, hc⟩ := lex_any (prog := prog) (w := w) (A := A) (s := s) (b := true) (f := decide (xs.size < ys.size)) 0 i i'
  exact ⟨c, PySem.W.kat_lt ho hdt ho' hdt' hc⟩
theorem firsts {h : Heap} : ∀ {vs : List Value}, Tups h vs → ∃ fs : List Value, PySem.W.KatTups h vs fs ∧ fs.length = vs.length ∧ ∀ f ∈ fs, ∃ x t, f = Value.int x t
  | [], _ => ⟨[], PySem.W.KatTups.nil, rfl, fun _ hm => by simp at hm⟩
  | v :: vs, x => by
    obtain ⟨fs, k, hl, hi⟩ := firsts (vs := vs) fun u hu => x u (List.mem_cons_of_mem _ hu)
    obtain ⟨ns, ⟨a, xs, rfl, ⟨o, ho, hc, n, hdt⟩, i⟩, hn⟩ := x v (List.mem_cons_self ..)
    obtain ⟨y, ys, e⟩ : ∃ y ys, xs.toList = y :: ys := by
      cases q : xs.toList with
      | nil =>
        rw [q] at i
        cases i
        exact absurd rfl hn
      | cons y ys => exact ⟨y, ys, rfl⟩
    obtain ⟨m, t, hy⟩ := i.all y (by rw [e]; exact List.mem_cons_self ..)
    refine ⟨y :: fs, PySem.W.KatTups.cons ho hc hdt ?_ k, by simp [hl], ?_⟩
    · have z := congrArg (fun l : List Value => l[0]?) e
      simpa using z
    · intro f hf
      rcases List.mem_cons.mp hf with rfl | hf
      · exact ⟨m, t, hy⟩
      · exact hi f hf
theorem tups_sortable {a : Addr} {vs : List Value} (h0 : 0 < vs.length) (hp : Tups s.heap vs) (ha : ∀ o, s.heap.get? a = some o → o.cls ≠ .type "tuple") : Srt.Sortable prog w A s a vs := by
  intro h' keep
  have hp' : Tups h' vs := hp.keeps fun b o e c => keep b o (fun z => by subst z; exact ha o e c) e
  obtain ⟨fs, h1, h2, h3⟩ := firsts hp'
  refine ⟨tuples' true, fun Q E hq => ?_, tups_tot (s := { s with heap := h' }) hp'⟩
  refine PySem.W.kat_kind (T := .type "int") h1 (by omega) (fun f hm => ?_) (by rfl) ?_
  · obtain ⟨x, t, rfl⟩ := h3 f hm
    exact PySem.W.Looks.now
  · have e : (Value.type "int" != Value.type "tuple") = true := by first | decide +kernel | rfl | decide
    rw [e]
    exact hq
theorem sorted_tups {l : Addr} {vs : List Value} {Q : Value → Shared → Prop} (hl : s.heap.IsList l vs.toArray) (hz : vs.length ≤ sizeLine) (hp : Tups s.heap vs)
    (h : ∀ (h' : Heap) (d : Addr) (out : List Value), out.Perm vs → (∀ b o, s.heap.get? b = some o → h'.get? b = some o) → s.heap.objs.size ≤ d → (∃ n, h'.get? d = some (seqObj "list" out.toArray n)) → Q (.ref d) { s with heap := h' }) :
    wpAny (model prog w) A (call (.builtin "sorted") [.ref l]) Q E s := by
  refine Srt.sorted_any hl hz (fun h2 h₁ a ha k => ?_) fun out ho => ?_
  · refine tups_sortable (s := { s with heap := h₁ }) (by omega) (hp.keeps fun b o e _ => (k b o e).2) fun o e => ?_
    have e' : some o = some (seqObj "list" vs.toArray 0) := e.symm.trans ha
    cases e'
    intro c
    exact absurd (Value.type.inj c) (by decide)
  · exact h _ _ out ho (fun b o e => sortedAll_old e) (Nat.le_succ _) (sortedAll_at s.heap vs out.toArray)

/-! ### (int, tuple of ints): by the order -/
/-- v is a tuple of an int and a tuple of ints -/
def IsMx (h : Heap) (v : Value) (x : Int) (ns : List Int) : Prop := ∃ a o t u n, v = .ref a ∧ h.get? a = some o ∧ o.cls = .type "tuple" ∧ o.data = .seq #[.int x t, u] n ∧ TS.TupInts h u ns
theorem IsMx.keeps {h h' : Heap} {v : Value} {x : Int} {ns : List Int} (p : IsMx h v x ns) (k : ∀ b o, h.get? b = some o → o.cls = .type "tuple" → h'.get? b = some o) : IsMx h' v x ns := by
  obtain ⟨a, o, t, u, n, e, ho, hc, hd, i⟩ := p
  exact ⟨a, o, t, u, n, e, k _ _ ho hc, hc, hd, i.keeps k⟩
def ltMx (p q : Int × List Int) : Bool := if p.1 = q.1 then HT.lexLt p.2 q.2 else decide (p.1 < q.1)
theorem lex_asym : ∀ (a b : List Int), HT.lexLt a b = true → HT.lexLt b a = false
  | [], [], h => by cases h
  | [], _ :: _, _ => rfl
  | _ :: _, [], h => by cases h
  | x :: xs, y :: ys, h => by
    rw [HT.lexLt_cons] at h ⊢
    by_cases e : x = y
    · subst e
      rw [if_pos rfl] at h ⊢
      exact lex_asym xs ys h
    · rw [if_neg e] at h
      rw [if_neg (fun z => e z.symm)]
      have := of_decide_eq_true h
      exact decide_eq_false (by omega)
theorem lex_tr : ∀ (a b c : List Int), HT.lexLt b a = false → HT.lexLt c b = false → HT.lexLt c a = false
  | [], [], c, _, h => h
  | [], _ :: _, [], _, h => by cases h
  | [], _ :: _, _ :: _, _, _ => rfl
  | _ :: _, [], c, h, _ => by cases h
  | x :: xs, y :: ys, [], _, h => by cases h
  | x :: xs, y :: ys, z :: zs, h1, h2 => by
    rw [HT.lexLt_cons] at h1 h2 ⊢
    by_cases e1 : y = x
    · subst e1
      rw [if_pos rfl] at h1
      by_cases e2 : z = y
      · subst e2
        rw [if_pos rfl] at h2 ⊢
        exact lex_tr xs ys zs h1 h2
      · rw [if_neg e2] at h2 ⊢
        exact h2
    · rw [if_neg e1] at h1
      have g1 := of_decide_eq_false h1
      by_cases e2 : z = y
      · subst e2
        rw [if_neg e1]
        exact h1
      · rw [if_neg e2] at h2
        have g2 := of_decide_eq_false h2
        rw [if_neg (by omega)]
        exact decide_eq_false (by omega)
theorem swo_mx (k : Value → Int × List Int) : SrtO.Swo fun v u => ltMx (k v) (k u) := by
  refine ⟨fun x y h => ?_, fun x y z h1 h2 => ?_⟩
  · show ltMx (k y) (k x) = false
    have h : ltMx (k x) (k y) = true := h
    unfold ltMx at h ⊢
    by_cases e : (k x).1 = (k y).1
    · rw [if_pos e] at h
      rw [if_pos e.symm]
      exact lex_asym _ _ h
    · rw [if_neg e] at h
      rw [if_neg (fun z => e z.symm)]
      have := of_decide_eq_true h
      exact decide_eq_false (by omega)
  · show ltMx (k z) (k x) = false
    have h1 : ltMx (k y) (k x) = false := h1
    have h2 : ltMx (k z) (k y) = false := h2
    unfold ltMx at h1 h2 ⊢
    by_cases e1 : (k y).1 = (k x).1
    · rw [if_pos e1] at h1
      by_cases e2 : (k z).1 = (k y).1
      · rw [if_pos e2] at h2
        rw [if_pos (e2.trans e1)]
        exact lex_tr _ _ _ h1 h2
      · rw [if_neg e2] at h2
        have := of_decide_eq_false h2
        rw [if_neg (by omega)]
        exact decide_eq_false (by omega)
    · rw [if_neg e1] at h1
      have g1 := of_decide_eq_false h1
      by_cases e2 : (k z).1 = (k y).1
      · rw [if_neg (by omega)]
        exact decide_eq_false (by omega)
      · rw [if_neg e2] at h2
        have g2 := of_decide_eq_false h2
        rw [if_neg (by omega)]
        exact decide_eq_false (by omega)
theorem reads_ints {h : Heap} : ∀ {us : List Value} {ns : List Int}, IntsAre us ns → ∃ as, ReadsAll h us (ns.map PyData.int) as
  | _, _, .nil => ⟨_, ReadsAll.nil⟩
  | _, _, .cons n t i => by
    obtain ⟨as, r⟩ := reads_ints i
    exact ⟨_, ReadsAll.cons (Reads.int n t) r⟩
theorem lay_ints : ∀ ns : List Int, PyData.canLayAll0 (ns.map PyData.int) = true
  | [] => rfl
  | n :: ns => by
    show (PyData.canLay0 (.int n) && PyData.canLayAll0 (ns.map PyData.int)) = true
    rw [lay_ints ns]
    rfl
theorem dep_ints : ∀ ns : List Int, PyData.depthAll (ns.map PyData.int) ≤ 1
  | [] => by simp [PyData.depthAll]
  | n :: ns => by
    have := dep_ints ns
    simp only [List.map_cons, PyData.depthAll, PyData.depth]
    omega
theorem eqv_ints : ∀ ns ms : List Int, PyData.eqvAll (ns.map PyData.int) (ms.map PyData.int) = decide (ns = ms)
  | [], [] => by simp [PyData.eqvAll]
  | [], _ :: _ => by simp [PyData.eqvAll]
  | _ :: _, [] => by simp [PyData.eqvAll]
  | n :: ns, m :: ms => by
    simp only [List.map_cons, PyData.eqvAll, PyData.eqv, eqv_ints ns ms]
    by_cases h1 : n = m
    · by_cases h2 : ns = ms
      · simp [h1, h2]
      · simp [h1, h2]
    · have : ¬ (n :: ns = m :: ms) := fun z => h1 (List.cons.inj z).1
      simp [h1]
theorem eq_tups {x y : Value} {ns ms : List Int} (hx : TS.TupInts s.heap x ns) (hy : TS.TupInts s.heap y ms) (hu : A.units + 10 < cLine) : SeqAt.EqAt A s x y (decide (ns = ms)) := by
  obtain ⟨a, xs, rfl, ⟨o, ho, hc, n, hd⟩, i⟩ := hx
  obtain ⟨a', ys, rfl, ⟨o', ho', hc', n', hd'⟩, i'⟩ := hy
  obtain ⟨as, r⟩ := reads_ints (h := s.heap) i
  obtain ⟨bs, r'⟩ := reads_ints (h := s.heap) i'
  have e : PyData.eqv (.tuple (ns.map PyData.int)) (.tuple (ms.map PyData.int)) = decide (ns = ms) := by
    rw [PyData.eqv]
    exact eqv_ints ns ms
  have d1 := dep_ints ns
  have d2 := dep_ints ms
  rw [← e]
  refine SeqAt.eqAt_reads (.tuple (ns.map .int)) (.tuple (ms.map .int)) A s _ _ _ _ (Reads.tuple ho hc hd r) (Reads.tuple ho' hc' hd' r') (lay_ints ns) (lay_ints ms) ?_
  simp only [PyData.depth]
  omega
theorem lex_same : ∀ ns : List Int, HT.lexLt ns ns = false
  | [] => rfl
  | n :: ns => by rw [HT.lexLt_cons, if_pos rfl]; exact lex_same ns
theorem mx_cmp {vs : List Value} {k : Value → Int × List Int} (hu : A.units + 10 < cLine) (hp : ∀ v ∈ vs, IsMx s.heap v (k v).1 (k v).2) : SrtO.Cmp prog w A s (tuples' true) (fun p => p.1 ∈ vs) (SrtO.lt2 fun v u => ltMx (k v) (k u)) := by
  intro p q hm hm'
  have h1 := hp _ hm
  have h2 := hp _ hm'
  show wpAny (model prog w) A (keyLt' (tuples' true) p.1 q.1) (fun r s' => s' = s ∧ r = ltMx (k p.1) (k q.1)) (fun _ _ => False) s
  unfold ltMx
  generalize (k p.1).1 = x at h1 ⊢
  generalize (k p.1).2 = ns at h1 ⊢
  generalize (k q.1).1 = x' at h2 ⊢
  generalize (k q.1).2 = ms at h2 ⊢
  obtain ⟨a, o, t, u, n, e, ho, hc, hd, ti⟩ := h1
  obtain ⟨a', o', t', u', n', e', ho', hc', hd', ti'⟩ := h2
  rw [e, e']
  refine PySem.W.kat_lt ho hd ho' hd' ?_
  show PySem.W.KatLex prog w A true (decide (2 < 2)) _ [(.int x t, .int x' t'), (u, u')] 0 s
  refine PySem.W.kat_cons (SeqAt.EqAt.int_int x t x' t' prog w _ _ ?_)
  refine PySem.W.kat_go (fun e1 => ?_) (fun e1 => ?_)
  · have ex : x = x' := by simpa using e1
    rw [if_pos ex]
    refine PySem.W.kat_yes (PySem.W.kat_cons (eq_tups ti ti' hu prog w _ _ ?_))
    refine PySem.W.kat_go (fun e2 => ?_) (fun e2 => ?_)
    · have ey : ns = ms := of_decide_eq_true e2
      subst ey
      exact PySem.W.kat_yes (PySem.W.kat_nil ⟨rfl, (lex_same ns).symm⟩)
    · refine PySem.W.kat_no (PySem.W.kat_one _ _ ?_)
      obtain ⟨b, xs, rfl, pt, i⟩ := ti
      obtain ⟨b', ys, rfl, pt', i'⟩ := ti'
      exact HT.lt_tupInts pt pt' i i' (by omega) (show s = s ∧ HT.lexLt ns ms = HT.lexLt ns ms from ⟨rfl, rfl⟩)
  · have ex : ¬ x = x' := by simpa using e1
    rw [if_neg ex]
    exact PySem.W.kat_no (oneLt_int ⟨rfl, rfl⟩)
theorem firsts_mx {h : Heap} : ∀ {vs : List Value}, (∀ v ∈ vs, ∃ x ns, IsMx h v x ns) → ∃ fs : List Value, PySem.W.KatTups h vs fs ∧ fs.length = vs.length ∧ ∀ f ∈ fs, ∃ x t, f = Value.int x t
  | [], _ => ⟨[], PySem.W.KatTups.nil, rfl, fun _ hm => by simp at hm⟩
  | v :: vs, hp => by
    obtain ⟨fs, h1, h2, h3⟩ := firsts_mx (vs := vs) fun v' hm => hp v' (List.mem_cons_of_mem _ hm)
    obtain ⟨x, ns, a, o, t, u, n, e, ho, hc, hd, _⟩ := hp v (List.mem_cons_self ..)
    subst e
    refine ⟨.int x t :: fs, PySem.W.KatTups.cons ho hc hd rfl h1, by rw [List.length_cons, List.length_cons, h2], fun f hm => ?_⟩
    rcases List.mem_cons.mp hm with rfl | hm
    · exact ⟨x, t, rfl⟩
    · exact h3 f hm
theorem mx_sortable {a : Addr} {vs : List Value} {k : Value → Int × List Int} (hu : A.units + 10 < cLine) (h0 : 0 < vs.length) (hp : ∀ v ∈ vs, IsMx s.heap v (k v).1 (k v).2) (ha : ∀ o, s.heap.get? a = some o → o.cls ≠ .type "tuple") : SrtO.SortableO prog w A s a vs fun v u => ltMx (k v) (k u) := by
  intro h' keep
  have hp' : ∀ v ∈ vs, IsMx h' v (k v).1 (k v).2 := fun v hm => (hp v hm).keeps fun b o e c => keep b o (fun z => by subst z; exact ha o e c) e
  obtain ⟨fs, h1, h2, h3⟩ := firsts_mx fun v hm => ⟨_, _, hp' v hm⟩
  refine ⟨tuples' true, fun Q E hq => ?_, mx_cmp (s := { s with heap := h' }) hu hp'⟩
  refine PySem.W.kat_kind (T := .type "int") h1 (by omega) (fun f hm => ?_) (by rfl) ?_
  · obtain ⟨x, t, rfl⟩ := h3 f hm
    exact PySem.W.Looks.now
  · have e : (Value.type "int" != Value.type "tuple") = true := by first | decide +kernel | rfl | decide
    rw [e]
    exact hq
theorem sorted_mx {l : Addr} {vs : List Value} {k : Value → Int × List Int} {Q : Value → Shared → Prop} (hu : A.units + 20 < cLine) (hl : s.heap.IsList l vs.toArray) (hz : vs.length ≤ sizeLine) (hp : ∀ v ∈ vs, IsMx s.heap v (k v).1 (k v).2)
    (h : ∀ (h' : Heap) (d : Addr) (out : List Value), SrtO.Srtd (fun v u => ltMx (k v) (k u)) out → SrtO.Stb (fun v u => ltMx (k v) (k u)) out vs → (∀ b o, s.heap.get? b = some o → h'.get? b = some o) → s.heap.objs.size ≤ d → (∃ n, h'.get? d = some (seqObj "list" out.toArray n)) → Q (.ref d) { s with heap := h' }) :
    wpAny (model prog w) A (call (.builtin "sorted") [.ref l]) Q E s := by
  refine SrtO.sorted_ord (swo_mx k) hl hz (fun h2 h₁ a ha kk => ?_) fun out hs hb => ?_
  · refine mx_sortable (s := { s with heap := h₁ }) (by show A.units + 1 + 1 + 10 < cLine; omega) (by omega) (fun v hm => (hp v hm).keeps fun b o e _ => (kk b o e).2) fun o e => ?_
    have e' : some o = some (seqObj "list" vs.toArray 0) := e.symm.trans ha
    cases e'
    intro c
    exact absurd (Value.type.inj c) (by decide)
  · exact h _ _ out hs hb (fun b o e => sortedAll_old e) (Nat.le_succ _) (sortedAll_at s.heap vs out.toArray)
end
end LpSort

/-! LpG: sorted as rules; sorted(set(t)); t * 1. -/
namespace Lp
open PySem PySem.Spec L2

def tI (ns : List Int) : PyData := .tuple (ns.map .int)
def prM (z : Int × List Int) : PyData := .tuple [.int z.1, tI z.2]

/-! ### rearranged -/
theorem perm_iss {K : PySem.W.Frag} {H : Hp} {ys vs : List V} (p : ys.Perm vs) : ∀ ds, Iss K H vs ds → ∃ ds', ds'.Perm ds ∧ Iss K H ys ds' := by
  induction p with
  | nil => intro ds h; exact ⟨ds, .refl _, h⟩
  | cons x p ih =>
    intro ds h
    cases h with
    | cons h1 h2 =>
      obtain ⟨ds', q, h'⟩ := ih _ h2
      exact ⟨_ :: ds', q.cons _, .cons h1 h'⟩
  | swap x y l =>
    intro ds h
    cases h with
    | cons h1 h2 =>
      cases h2 with
      | cons h2 h3 => exact ⟨_, .swap _ _ _, .cons h2 (.cons h1 h3)⟩
  | trans p q ih1 ih2 =>
    intro ds h
    obtain ⟨d1, q1, h1⟩ := ih2 ds h
    obtain ⟨d2, q2, h2⟩ := ih1 d1 h1
    exact ⟨d2, q2.trans q1, h2⟩
theorem perm_of_map {α β : Type} {f : α → β} {ds m : List β} (p : ds.Perm m) : ∀ l : List α, m = l.map f → ∃ l' : List α, l'.Perm l ∧ ds = l'.map f := by
  induction p with
  | nil =>
    intro l h
    exact ⟨[], by rw [List.map_eq_nil_iff.mp h.symm], rfl⟩
  | cons x p ih =>
    intro l h
    cases l with
    | nil => cases h
    | cons a l =>
      obtain ⟨rfl, h2⟩ := List.cons.inj h
      obtain ⟨l', q, e⟩ := ih l h2
      exact ⟨a :: l', q.cons a, by rw [e]; rfl⟩
  | swap x y l =>
    intro m h
    match m, h with
    | a :: b :: m, h =>
      obtain ⟨rfl, h2⟩ := List.cons.inj h
      obtain ⟨rfl, h3⟩ := List.cons.inj h2
      exact ⟨b :: a :: m, .swap _ _ _, by rw [h3]; rfl⟩
  | trans p q ih1 ih2 =>
    intro l h
    obtain ⟨l1, p1, e1⟩ := ih2 l h
    obtain ⟨l2, p2, e2⟩ := ih1 l1 e1
    exact ⟨l2, p2.trans p1, e2⟩

section
variable {X : Cx}
theorem vals_ints : ∀ {ns : List Int} {us : List Value}, Vals (ns.map V.int) us → PyProof.Rows.IntsAre us ns
  | [], _, h => by cases h; exact .nil
  | n :: ns, _, h => by
    cases h with
    | cons r t =>
      obtain ⟨k, rfl⟩ := r
      exact .cons n k (vals_ints t)
theorem tup_ints {pins : List (Addr × Obj)} {σ : L2.St} {H : Hp} {s : Shared} {a : Addr} {ns : List Int} (I : Inv X pins σ H s) (h : SqT X.K H a (ns.map V.int)) : TS.TupInts s.heap (.ref a) ns := by
  obtain ⟨its, r, p, _⟩ := I.tuple h
  exact ⟨a, _, rfl, p, by simpa using vals_ints r⟩
/-- sorted of tuples of ints: rearranged -/
def rSortTup (K : PySem.W.Frag) : List V → Hp → VK → Prop := fun vs H Q => ∃ a xs, vs = [V.ref a] ∧ SqL K H a xs ∧ (∀ x ∈ xs, ∃ t ns, x = V.ref t ∧ SqT K H t (ns.map V.int) ∧ ns ≠ []) ∧
  ∀ ys p, ys.Perm xs → H p = none → Q (.ref p) (upd H p (.lst ys))
theorem cr_sortTup : CallR X (.builtin "sorted") (rSortTup X.K) := by
  intro pins s σ H vs us Q I r h
  obtain ⟨a, xs, rfl, hs, hx, q⟩ := h
  obtain ⟨its, rv, hl, hz⟩ := I.list hs
  have eu := Vals.ref1 r
  subst eu
  obtain ⟨e1, e2⟩ := refs_back rv fun x m => by
    obtain ⟨t, _, e, _⟩ := hx x m
    exact ⟨t, e⟩
  refine LpSort.sorted_tups hl.isList (by rw [← rv.length]; exact hz) (fun v hv => ?_) fun h' d out hp k hd hn => ?_
  · obtain ⟨t, rfl⟩ := e2 v hv
    have hm : V.ref t ∈ xs := by rw [e1]; exact List.mem_map.mpr ⟨_, hv, rfl⟩
    obtain ⟨t', ns, e, ht, hne⟩ := hx _ hm
    cases e
    exact ⟨ns, tup_ints I ht, hne⟩
  · have h3 : ∀ u ∈ out, ∃ a, u = Value.ref a := fun u hu => e2 u (hp.mem_iff.mp hu)
    obtain ⟨n, hn⟩ := hn
    have hb : (out.map backV).Perm xs := by rw [e1]; exact hp.map _
    refine ⟨.ref d, upd H d (.lst (out.map backV)), I.laid (t' := s.toks) k hd ⟨?_, out, n, vals_back h3, hn⟩, rfl, q _ d hb (I.hok.fresh hd)⟩
    rw [hb.length_eq]
    exact hz
/-- sorted of (int, tuple of ints): in order -/
def rSortMx (K : PySem.W.Frag) : List V → Hp → VK → Prop := fun vs H Q => ∃ (a : Addr) (zs : List (Addr × Addr × Int × List Int)), vs = [V.ref a] ∧ SqL K H a (zs.map fun z => V.ref z.1) ∧ (∀ z ∈ zs, SqT K H z.1 [.int z.2.2.1, .ref z.2.1] ∧ SqT K H z.2.1 (z.2.2.2.map V.int)) ∧
  ∀ (ws : List (Addr × Addr × Int × List Int)) (p : Addr), ws.Perm zs → ws.Pairwise (fun z y => LpSort.ltMx y.2.2 z.2.2 = false) → H p = none → Q (.ref p) (upd H p (.lst (ws.map fun z => V.ref z.1)))
theorem ints_inj : ∀ {us : List Value} {ns ms : List Int}, PyProof.Rows.IntsAre us ns → PyProof.Rows.IntsAre us ms → ns = ms
  | _, _, _, .nil, .nil => rfl
  | _, _, _, .cons n t h, .cons _ _ k => by rw [ints_inj h k]
theorem mx_inj {h : Heap} {v : Value} {x y : Int} {ns ms : List Int} (p : LpSort.IsMx h v x ns) (q : LpSort.IsMx h v y ms) : (x, ns) = (y, ms) := by
  obtain ⟨a, o, t, u, n, e, ho, hc, hd, b, xs, eu, ⟨o2, ho2, _, n2, hd2⟩, i⟩ := p
  obtain ⟨a', o', t', u', n', e', ho', hc', hd', b', xs', eu', ⟨o2', ho2', _, n2', hd2'⟩, i'⟩ := q
  rw [e] at e'
  cases e'
  rw [ho] at ho'
  cases ho'
  rw [hd] at hd'
  have hh := congrArg (fun d : Data => match d with | .seq zs _ => zs.toList | _ => []) hd'
  simp only at hh
  have hh : [Value.int x t, u] = [Value.int y t', u'] := by simpa using hh
  obtain ⟨h1, h2⟩ := List.cons.inj hh
  cases h1
  cases h2
  rw [eu] at eu'
  cases eu'
  rw [ho2] at ho2'
  cases ho2'
  rw [hd2] at hd2'
  cases hd2'
  rw [ints_inj i i']
theorem cr_sortMx (hu : X.A.units + 20 < cLine) : CallR X (.builtin "sorted") (rSortMx X.K) := by
  intro pins s σ H vs us Q I r h
  obtain ⟨a, zs, rfl, hs, hx, q⟩ := h
  obtain ⟨its, rv, hl, hz⟩ := I.list hs
  have eu := Vals.ref1 r
  subst eu
  -- the values are the addresses
  have ev : its = zs.map fun z => Value.ref z.1 := by
    have : ∀ (zs : List (Addr × Addr × Int × List Int)) (its : List Value), Vals (zs.map fun z => V.ref z.1) its → its = zs.map fun z => Value.ref z.1 := by
      intro zs
      induction zs with
      | nil => intro its h; cases h; rfl
      | cons z zs ih =>
        intro its h
        cases h with
        | cons r t =>
          cases r
          rw [ih _ t]
          rfl
    exact this zs its rv
  have hmx : ∀ z ∈ zs, LpSort.IsMx s.heap (.ref z.1) z.2.2.1 z.2.2.2 := fun z hz' => by
    obtain ⟨h1, h2⟩ := hx z hz'
    obtain ⟨us, ru, ⟨o, ho, hc, n, hd⟩, _⟩ := I.tuple h1
    cases ru with
    | cons r1 ru =>
      cases ru with
      | cons r2 ru =>
        cases ru
        obtain ⟨t, rfl⟩ := r1
        cases r2
        exact ⟨z.1, o, t, .ref z.2.1, n, rfl, ho, hc, hd, tup_ints I h2⟩
  let k : Value → Int × List Int := fun v => by
    classical
    exact if h : ∃ p : Int × List Int, LpSort.IsMx s.heap v p.1 p.2 then h.choose else (0, [])
  have hk : ∀ z ∈ zs, k (.ref z.1) = z.2.2 := fun z hz' => by
    have ex : ∃ p : Int × List Int, LpSort.IsMx s.heap (.ref z.1) p.1 p.2 := ⟨z.2.2, hmx z hz'⟩
    have e : k (.ref z.1) = ex.choose := dif_pos ex
    rw [e]
    exact mx_inj ex.choose_spec (hmx z hz')
  refine LpSort.sorted_mx (k := k) hu hl.isList (by rw [← rv.length]; exact hz) (fun v hv => ?_) fun h' d out h1 h2 kp hd hn => ?_
  · rw [ev] at hv
    obtain ⟨z, hz', rfl⟩ := List.mem_map.mp hv
    rw [hk z hz']
    exact hmx z hz'
  · have hp := h2.perm
    rw [ev] at hp
    obtain ⟨ws, pw, rfl⟩ := perm_of_map hp zs rfl
    obtain ⟨n, hn⟩ := hn
    have rv' : Vals (ws.map fun z => V.ref z.1) (ws.map fun z => Value.ref z.1) := by
      clear h1 h2 hp hn pw
      induction ws with
      | nil => exact .nil
      | cons z ws ih => exact .cons rfl ih
    refine ⟨.ref d, upd H d (.lst (ws.map fun z => V.ref z.1)), I.laid (t' := s.toks) kp hd ⟨?_, _, n, rv', hn⟩, rfl, q ws d pw ?_ (I.hok.fresh hd)⟩
    · rw [List.length_map, pw.length_eq]
      rw [List.length_map] at hz
      exact hz
    · have h1' := List.pairwise_map.mp h1
      refine List.Pairwise.imp_of_mem (fun {z y} mz my hzy => ?_) h1'
      have hzy : LpSort.ltMx (k (.ref y.1)) (k (.ref z.1)) = false := hzy
      rw [hk z (pw.mem_iff.mp mz), hk y (pw.mem_iff.mp my)] at hzy
      exact hzy
/-- set(t), t a tuple of ints -/
def rSetTI (K : PySem.W.Frag) (w : World) : List V → Hp → VK → Prop := fun vs H Q => ∃ (a : Addr) (ns : List Int), vs = [V.ref a] ∧ SqT K H a (ns.map V.int) ∧ ns.length ≤ 50 ∧ ∀ p c, H p = none → c ≤ ns.length → Q (.ref p) (upd H p (SetO w p (fun j => decide (j ∈ ns)) c))
theorem cr_setTI (hc : X.calm = true) : CallR X (.type "set") (rSetTI X.K X.w) := by
  intro pins s σ H vs us Q I r h
  obtain ⟨a, ns, rfl, hs, hn, q⟩ := h
  have eu := Vals.ref1 r
  subst eu
  obtain ⟨its, rv, p, hz⟩ := I.tuple hs
  have hb : ns.length + 1 < scanBound := Nat.lt_of_lt_of_le (show ns.length + 1 < 100 by omega) (by decide +kernel)
  refine call_set_tupI ns (I.ok.hd hc) (show s.heap.IsTuple a its.toArray from p) (by simpa using vals_ints rv) hb fun h' tk c hS hc' hk => ?_
  have hf : H s.heap.objs.size = none := I.hok.fresh (Nat.le_refl _)
  exact ⟨.ref s.heap.objs.size, _, I.laid (t' := tk) hk (Nat.le_refl _) (setO_new hS), rfl, q _ c hf hc'⟩
end

section
variable {F : Fx} {ρ : Dn} {e : Expr} {p pos : Pos}
theorem iss_tI {K : PySem.W.Frag} {H : Hp} : ∀ {nss : List (List Int)} {vs : List V}, Iss K H vs (nss.map tI) → ∀ x ∈ vs, ∃ ns ∈ nss, ∃ t, x = V.ref t ∧ SqT K H t (ns.map V.int)
  | [], _, h => by cases h; intro x hx; cases hx
  | ns :: nss, _, h => by
    cases h with
    | cons h1 h2 =>
      intro x hx
      rcases List.mem_cons.mp hx with rfl | hx
      · obtain ⟨a, us, rfl, ha, hs⟩ := Is.tup_of (show Is K H _ (.tuple (ns.map .int)) from h1)
        rw [Iss.ints hs] at ha
        exact ⟨ns, List.mem_cons_self, a, rfl, ha⟩
      · obtain ⟨ns', h3, h4⟩ := iss_tI h2 x hx
        exact ⟨ns', List.mem_cons_of_mem _ h3, h4⟩
theorem ex_sortT {nss : List (List Int)} (hm : F.mg "sorted" = none) (h : EV F ρ e (.list (nss.map tI))) (hne : ∀ ns ∈ nss, ns ≠ []) (hg : F.sc.names.lookup ("sorted" : Str) = some .globalImplicit := by rfl) (he : ∀ v, starEach [e] (F.cx v).env = (false, eval e (F.cx v).env) :: starEach [] (F.cx v).env := by intro _; rfl) :
    EX F ρ (.Call (.Name "sorted" p) [e] [] pos) (fun d => ∃ nss' : List (List Int), d = .list (nss'.map tI) ∧ nss'.Perm nss) :=
  ex_callB (id := "sorted") (r := rSortTup F.K) (fun v => cr_sortTup (X := F.cx v)) hm (by decide +kernel) (av_cons h ea_nil he) (fun ds' e' => by
    subst e'
    intro xs _ _ _ _ _ _ _ Q c is q
    cases is with
    | cons i1 i2 =>
      cases i2
      obtain ⟨a, us, rfl, ha, hs⟩ := i1.lst_of
      refine ⟨a, us, rfl, .of (c.e3 _ _ ha), fun x hx => ?_, fun ys pp hp hn => ?_⟩
      · obtain ⟨ns, h1, t, h2, h3⟩ := iss_tI hs x hx
        exact ⟨t, ns, h2, ex_t c.e3 h3, hne ns h1⟩
      · obtain ⟨ds', q1, q2⟩ := perm_iss hp _ hs
        obtain ⟨nss', q3, rfl⟩ := perm_of_map q1 nss rfl
        exact q.lst c hn q2 ⟨nss', rfl, q3⟩) hg (by decide) (by decide) he (by intro _; rfl)
theorem iss_prM {K : PySem.W.Frag} {H : Hp} : ∀ {l : List (Int × List Int)} {vs : List V}, Iss K H vs (l.map prM) → ∃ zs : List (Addr × Addr × Int × List Int), vs = zs.map (fun z => V.ref z.1) ∧ l = zs.map (fun z => z.2.2) ∧ ∀ z ∈ zs, SqT K H z.1 [.int z.2.2.1, .ref z.2.1] ∧ SqT K H z.2.1 (z.2.2.2.map V.int)
  | [], _, h => by cases h; exact ⟨[], rfl, rfl, fun z hz => by cases hz⟩
  | x :: l, _, h => by
    cases h with
    | cons h1 h2 =>
      obtain ⟨zs, rfl, rfl, hz⟩ := iss_prM h2
      obtain ⟨a, us, rfl, ha, hs⟩ := Is.tup_of (show Is K H _ (.tuple [.int x.1, tI x.2]) from h1)
      cases hs with
      | cons g1 g2 =>
        cases g2 with
        | cons g2 g3 =>
          cases g3
          cases g1
          obtain ⟨b, ws, rfl, hb, hw⟩ := Is.tup_of (show Is K H _ (.tuple (x.2.map .int)) from g2)
          rw [Iss.ints hw] at hb
          refine ⟨(a, b, x) :: zs, rfl, rfl, fun z hz' => ?_⟩
          rcases List.mem_cons.mp hz' with rfl | hz'
          · exact ⟨ha, hb⟩
          · exact hz z hz'
theorem iss_of_prM {K : PySem.W.Frag} {H : Hp} : ∀ {ws : List (Addr × Addr × Int × List Int)}, (∀ z ∈ ws, SqT K H z.1 [.int z.2.2.1, .ref z.2.1] ∧ SqT K H z.2.1 (z.2.2.2.map V.int)) → Iss K H (ws.map fun z => V.ref z.1) ((ws.map fun z => z.2.2).map prM)
  | [], _ => .nil
  | z :: ws, h => .cons (.tup (h z List.mem_cons_self).1 (.cons (.int _) (.cons (.tup (h z List.mem_cons_self).2 (Iss.of_ints _)) .nil))) (iss_of_prM fun y hy => h y (List.mem_cons_of_mem _ hy))
theorem ex_sortM {l : List (Int × List Int)} (hu : F.A.units + 200 < cLine) (hm : F.mg "sorted" = none) (h : EV F ρ e (.list (l.map prM))) (hg : F.sc.names.lookup ("sorted" : Str) = some .globalImplicit := by rfl) (he : ∀ v, starEach [e] (F.cx v).env = (false, eval e (F.cx v).env) :: starEach [] (F.cx v).env := by intro _; rfl) :
    EX F ρ (.Call (.Name "sorted" p) [e] [] pos) (fun d => ∃ l' : List (Int × List Int), d = .list (l'.map prM) ∧ l'.Perm l ∧ l'.Pairwise (fun x y => x.1 ≤ y.1)) :=
  ex_callB (id := "sorted") (r := rSortMx F.K) (fun v => cr_sortMx (X := F.cx v) (by show F.A.units + 20 < cLine; omega)) hm (by decide +kernel) (av_cons h ea_nil he) (fun ds' e' => by
    subst e'
    intro xs _ _ _ _ _ _ _ Q c is q
    cases is with
    | cons i1 i2 =>
      cases i2
      obtain ⟨a, us, rfl, ha, hs⟩ := i1.lst_of
      obtain ⟨zs, rfl, rfl, hz⟩ := iss_prM hs
      refine ⟨a, zs, rfl, .of (c.e3 _ _ ha), fun z hz' => ⟨ex_t c.e3 (hz z hz').1, ex_t c.e3 (hz z hz').2⟩, fun ws pp hp hw hn => ?_⟩
      refine q.lst c hn (iss_of_prM fun z hz' => hz z (hp.mem_iff.mp hz')) ⟨_, rfl, hp.map _, ?_⟩
      refine List.pairwise_map.mpr (hw.imp fun {x y} hxy => ?_)
      unfold LpSort.ltMx at hxy
      by_cases e : y.2.2.1 = x.2.2.1
      · omega
      · rw [if_neg e] at hxy
        have := of_decide_eq_false hxy
        omega) hg (by decide) (by decide) he (by intro _; rfl)
theorem asc_uniq : ∀ {a b : List Int}, a.Pairwise (· < ·) → b.Pairwise (· < ·) → (∀ k, k ∈ a ↔ k ∈ b) → a = b
  | [], [], _, _, _ => rfl
  | [], y :: b, _, _, h => absurd ((h y).mpr List.mem_cons_self) (by simp)
  | x :: a, [], _, _, h => absurd ((h x).mp List.mem_cons_self) (by simp)
  | x :: a, y :: b, ha, hb, h => by
    obtain ⟨a1, a2⟩ := List.pairwise_cons.mp ha
    obtain ⟨b1, b2⟩ := List.pairwise_cons.mp hb
    have e : x = y := by
      rcases List.mem_cons.mp ((h x).mp List.mem_cons_self) with e | e
      · exact e
      · rcases List.mem_cons.mp ((h y).mpr List.mem_cons_self) with e' | e'
        · exact e'.symm
        · have := b1 x e
          have := a1 y e'
          omega
    subst e
    rw [asc_uniq a2 b2 fun k => ⟨fun hk => ?_, fun hk => ?_⟩]
    · rcases List.mem_cons.mp ((h k).mp (List.mem_cons_of_mem _ hk)) with e | e
      · have := a1 k hk
        omega
      · exact e
    · rcases List.mem_cons.mp ((h k).mpr (List.mem_cons_of_mem _ hk)) with e | e
      · have := b1 k hk
        omega
      · exact e
/-- sorted(set(t)), t ascending -/
theorem ev_sortSet {ns : List Int} {p2 pos2 : Pos} (hm : F.mg "sorted" = none) (hm2 : F.mg "set" = none) (h : EV F ρ e (.tuple (ns.map .int))) (ha : ns.Pairwise (· < ·)) (hl : ns.length ≤ 50) (hg : F.sc.names.lookup ("sorted" : Str) = some .globalImplicit := by rfl) (hg2 : F.sc.names.lookup ("set" : Str) = some .globalImplicit := by rfl)
    (he : ∀ v, starEach [e] (F.cx v).env = (false, eval e (F.cx v).env) :: starEach [] (F.cx v).env := by intro _; rfl) (he2 : ∀ v, starEach [.Call (.Name "set" p2) [e] [] pos2] (F.cx v).env = (false, eval (.Call (.Name "set" p2) [e] [] pos2) (F.cx v).env) :: starEach [] (F.cx v).env := by intro _; rfl) :
    EV F ρ (.Call (.Name "sorted" p) [.Call (.Name "set" p2) [e] [] pos2] [] pos) (.list (ns.map .int)) :=
  ex_of (t := tCB (rSortedSet F.w) (tCons (tCB (rSetTI F.K F.w) (tCons (wE F e) tNil)) tNil))
    (fun v => pe_callB (cr_sortedSet (X := F.cx v) rfl) hg hm (by decide +kernel) (pa_cons (pe_callTy (cr_setTI (X := F.cx v) rfl) hg2 hm2 (by decide +kernel) (pa_cons pe_w pa_nil (he v)) (by decide) (by decide) (he v) (by rfl)) pa_nil (he2 v)) (by decide) (by decide) (he2 v) (by rfl))
    fun _ _ _ _ _ _ Q c q => h _ _ _ _ _ _ _ c fun v d Hk1 H1 e1 c1 i1 s1 => by
      subst s1
      obtain ⟨a, us, rfl, hT, hs⟩ := i1.tup_of
      rw [Iss.ints hs] at hT
      refine ⟨a, ns, rfl, ex_t c1.e3 hT, hl, fun pp cc hp hc => ⟨pp, _, cc, rfl, upd_same, by omega, fun ns' p3 h1 h2 h3 h4 => ?_⟩⟩
      have en : ns' = ns := asc_uniq h1 ha fun k => by rw [h2 k]; exact decide_eq_true_iff
      subst en
      have c2 := c1.new0 (o := SetO F.w pp (fun j => decide (j ∈ ns')) cc) hp
      exact (q.mono e1).lst c2 h4 (Iss.of_ints _) rfl
end
end Lp

/-! LpH: t * n with n from 1 on; comprehensions with two fors. -/
namespace LpOne
open PySem PySem.Spec PyProof.Rows L2
theorem tuple_mulOne (l : Addr) (items : Array Value) (n : Nat) (dd : Option Addr) (sl : Array (Option Value)) (u : Tok) :
    Meets (Builtin.«tuple.__mul__» ⟨[.ref l, .int 1 u], []⟩) (fun _ R s => s.heap.get? l = some { cls := .type "tuple", dict := dd, data := .seq items n, slots := sl } ∧
      R (.ok (.ret (Value.ref l))) s) :=
  .of_wp fun prog w A R s h => by
    obtain ⟨hp, g, d, tk, os⟩ := s
    obtain ⟨hl, h⟩ := h
    have f1 := AutoSeq1.idx_int
    wp_walk using wpAny_loadPart' hl
    exact ⟨_, rfl, h⟩
def rRepOne (K : PySem.W.Frag) : R2 := fun x y H Q => ∃ l xs, x = .ref l ∧ y = .int 1 ∧ SqT K H l xs ∧ Q (.ref l) H
theorem op_repOne {X : Cx} : OpR X (binaryOp .Mult) (rRepOne X.K) := by
  intro pins s σ H x y v u Q I rx ry h
  obtain ⟨l, xs, rfl, rfl, hT, q⟩ := h
  cases rx
  obtain ⟨t, rfl⟩ := ry
  obtain ⟨its, r, ⟨⟨cls, dd, data, sl⟩, ho, hc, n, hd⟩, hs⟩ := I.tuple hT
  simp only at hc hd
  subst hc hd
  exact wpAny_binaryOp_repeat_ref (T := "tuple") (U := "int") (by decide) ⟨_, ho, rfl⟩ (fun s' => typeIs_int s' 1 t) noFill_tuple_mul F.fills_int_mul F.slot_int_rmul repeat_tuple F.slot_int_index.lookup
    (call_meets F.slot_int_rmul (typeIs_int s 1 t) F.entry_int_rmul (F.args_int_rmul_2 _ _) (int_rmul_tuple 1 t l its.toArray n dd sl)
      ⟨ho, rfl, ⟨_, ho, rfl⟩, call_meets F.slot_tuple_mul ⟨_, ho, rfl⟩ F.entry_tuple_mul (F.args_tuple_mul_2 _ _) (tuple_mulOne l its.toArray n dd sl t) ⟨ho, ⟨.ref l, H, I, rfl, q⟩⟩⟩)
end LpOne
namespace Lp
open PySem PySem.Spec L2
section
variable {F : Fx} {ρ : Dn} {a b : Expr} {pos : Pos}
/-- (x,) * n, n from 1 on -/
theorem ev_rep {d : PyData} {n : Nat} (ha : EV F ρ a (.tuple [d])) (hb : EV F ρ b (.int (n : Int))) (h1 : 1 ≤ n) (h2 : n ≤ 1000) : EV F ρ (.BinOp a .Mult b pos) (.tuple (List.replicate n d)) := by
  by_cases h : n = 1
  · subst h
    refine ex_op (r := LpOne.rRepOne F.K) (fun v => LpOne.op_repOne (X := F.cx v)) ha hb fun x y e1 e2 => ?_
    subst e1
    subst e2
    intro x y _ _ _ _ _ _ _ Q c i1 i2 q
    obtain ⟨l, us, rfl, hl, hs⟩ := i1.tup_of
    cases i2
    exact ⟨l, us, rfl, rfl, ex_t c.e3 hl, q.now c (.tup hl hs) rfl⟩
  · refine ex_op (r := rRepT F.K) (fun v => op_repT (X := F.cx v)) ha hb fun x y e1 e2 => ?_
    subst e1
    subst e2
    have := rd_rep (K := F.K) (xs := [d]) (k := (n : Int)) (by simp) (by omega) (by omega) (by simp)
    have e : (List.replicate (n : Int).toNat [d]).flatten = List.replicate n d := by
      rw [Int.toNat_natCast]
      clear h h1 h2 ha hb this
      induction n with
      | zero => rfl
      | succ n ih => rw [List.replicate_succ, List.flatten_cons, ih]; rfl
    rw [e] at this
    exact this
end

/-! ### two fors -/
theorem wipeD_len (ρ : Dn) : ∀ vs : List Nat, (wipeD ρ vs).length = ρ.length
  | [] => rfl
  | v :: vs => by unfold wipeD; rw [List.length_set, wipeD_len ρ vs]
/-- the inner walk's turns: from a list so far to one so far -/
def Turns2 (F' : Fx) (ρb : Dn) (vs1 : List Nat) (tg elt : Expr) (ds : List PyData) (acc0 : List PyData) (T : List PyData → Prop) : Prop :=
  ∃ I : Nat → List PyData → Prop, I 0 acc0 ∧
    (∀ (i : Nat) d acc, ds[i]? = some d → I i acc → ∃ ρ2 js, TGT F' ρb tg d ρ2 js ∧ (∀ j ∈ js, j ∈ vs1) ∧
      EX F' ρ2 elt (fun y => acc.length < sizeLine ∧ I (i + 1) (acc ++ [y]))) ∧
    ∀ acc, I ds.length acc → T acc
theorem lc2_run {F : Fx} {ρ : Dn} {tg iter tg1 iter1 elt : Expr} {scope : Scope} {vs vs1 : List Nat} {S : List PyData → Prop} {T : List PyData → Prop}
    (hi : EI F ρ tg iter S)
    (h : ∀ ds, S ds → ∃ I : Nat → List PyData → Prop, I 0 [] ∧ (∀ (i : Nat) d acc, ds[i]? = some d → I i acc → ∃ ρ2 js S1, TGT (F.blk scope) (wipeD (noOw ρ) vs) tg d ρ2 js ∧ (∀ j ∈ js, j ∈ vs) ∧ NoOw ρ2 ∧
      EI (F.blk scope) ρ2 tg1 iter1 S1 ∧ ∀ es, S1 es → Turns2 (F.blk scope) (wipeD ρ2 vs1) vs1 tg1 elt es acc (fun acc' => I (i + 1) acc')) ∧ ∀ acc, I ds.length acc → T acc)
    {rw' : Option Addr} {Hk0 H0 Hk H : Hp} {σ : L2.St} {Q : VK} (c : Cfg F.K rw' Hk0 H0 Hk H σ ρ) (q : Goal F.K rw' Hk0 H0 Hk σ ρ (fun d => ∃ acc, d = .list acc ∧ T acc) Q) :
    tLc2 (wI F tg iter) (wG (F.blk scope) tg) tYes (wI (F.blk scope) tg1 iter1) (wG (F.blk scope) tg1) tYes (wE (F.blk scope) elt) vs vs1 σ H Q :=
  hi _ _ _ _ _ _ _ c fun J ds Hk1 H1 e1 c1 src s D hD => by
    obtain ⟨I, h0, ht, hd⟩ := h ds s
    have nb : NoOw (wipeD (noOw ρ) vs) := noOw_no.wipe vs
    have cb : Cfg F.K rw' Hk1 H1 Hk1 H1 (wipe σ vs) (wipeD (noOw ρ) vs) := c1.frame.wipe vs
    have hDk : Hk1 D = none := c1.unk hD
    have nr : rw' ≠ some D := cb.nrow hD
    refine ⟨fun i m H' => m = ds.length - i ∧ i ≤ ds.length ∧ ∃ Hk' acc vs', Ex Hk1 Hk' ∧ Cfg F.K rw' Hk1 H1 Hk' H' (wipe σ vs) (wipeD (noOw ρ) vs) ∧ Hk' D = none ∧ H' D = some (.lst vs') ∧ Iss F.K Hk' vs' acc ∧ I i acc,
      ⟨ds.length, by simp, Nat.zero_le _, Hk1, [], [], .refl _, cb.new0 hD, hDk, upd_same, .nil, h0⟩, fun i m H' W => ?_⟩
    obtain ⟨rfl, hle, Hk2, acc, us, e2, c2, hk2, h2, is2, hI⟩ := W
    obtain ⟨sp, go⟩ := src Hk2 H' e2 c2.e3
    by_cases hlt : i < ds.length
    · obtain ⟨g1, g2⟩ := go i ds[i] (by simp [hlt])
      refine .inr ⟨g1, fun H3 => ∃ Hk' acc vs', Ex Hk1 Hk' ∧ Cfg F.K rw' Hk1 H1 Hk' H3 (wipe σ vs) (wipeD (noOw ρ) vs) ∧ Hk' D = none ∧ H3 D = some (.lst vs') ∧ Iss F.K Hk' vs' acc ∧ I (i + 1) acc, fun H3 q => ⟨ds.length - (i + 1), by omega, rfl, hlt, q⟩, fun x H3 hy => ?_⟩
      obtain ⟨Hk3, nw, ix⟩ := g2 x H3 hy
      have e3 := c2.nwEx nw
      have c3 := c2.nw nw
      have hk3 : Hk3 D = none ∧ H3 D = some (.lst us) := by
        rcases nw with ⟨rfl, rfl⟩ | ⟨p, o, hp, rfl, rfl⟩
        · exact ⟨hk2, h2⟩
        · have : D ≠ p := ne_of_none h2 hp
          rw [upd_ne this, upd_ne this]
          exact ⟨hk2, h2⟩
      obtain ⟨ρ3, js, S1, tg3, hjs, no3, ei3, hT⟩ := ht i ds[i] acc (by simp [hlt]) hI
      have cf := c3.frame' nb
      refine tg3 _ _ _ _ _ _ _ _ cf ix fun σ4 c4 hw4 => ⟨(hw4 vs hjs).trans (wipe_wipe σ vs), ?_⟩
      refine show wI (F.blk scope) tg1 iter1 σ4 H3 _ from ei3 _ _ _ _ _ _ _ c4 fun J1 es Hk5 H5 e5 c5 src1 s1 => ?_
      obtain ⟨I1, k0, kt, kd⟩ := hT es s1
      -- D behind a step from the frame
      have fin : ∀ {Hk6 H6 : Hp} {σ6 : L2.St} {ρ6 : Dn} {HkA HA : Hp} {ws : List V}, HkA D = none → HA D = some (.lst ws) → Cfg F.K rw' HkA HA Hk6 H6 σ6 ρ6 → Hk6 D = none ∧ H6 D = some (.lst ws) := fun {Hk6 H6 σ6 ρ6 HkA HA ws} hk' hh' c6 => by
        refine ⟨?_, c6.e2 D _ hh' nr⟩
        cases w : Hk6 D with
        | none => rfl
        | some u =>
          have := c6.fr D u w hk'
          rw [hh'] at this; cases this
      have f5 := fin hk3.1 hk3.2 c5
      have cin : Cfg F.K rw' Hk1 H1 Hk5 H5 (wipe σ vs) (wipeD (noOw ρ) vs) := c3.back c5
      -- the inner configuration, from the same entry
      have cin2 : Cfg F.K rw' Hk1 H1 Hk5 H5 σ4 ρ3 := ⟨cin.e1, cin.e2, cin.e3, cin.fr, cin.rk, c5.im, fun i ds e => absurd e (no3 i ds), c5.row, c5.one, c5.len⟩
      have nb1 : NoOw (wipeD ρ3 vs1) := no3.wipe vs1
      refine ⟨fun j m H' => m = es.length - j ∧ j ≤ es.length ∧ ∃ Hk' acc' vs', Ex Hk5 Hk' ∧ Cfg F.K rw' Hk1 H1 Hk' H' (wipe σ4 vs1) (wipeD ρ3 vs1) ∧ Hk' D = none ∧ H' D = some (.lst vs') ∧ Iss F.K Hk' vs' acc' ∧ I1 j acc',
        ⟨es.length, by simp, Nat.zero_le _, Hk5, acc, us, .refl _, cin2.wipe vs1, f5.1, f5.2, Iss.mono (e3.trans e5) _ _ is2, k0⟩, fun j m H6 W => ?_⟩
      obtain ⟨rfl, jle, Hk6, acc', us', e6, c6, hk6, h6, is6, hI6⟩ := W
      obtain ⟨sp1, go1⟩ := src1 Hk6 H6 e6 c6.e3
      by_cases jlt : j < es.length
      · obtain ⟨g3, g4⟩ := go1 j es[j] (by simp [jlt])
        refine .inr ⟨g3, fun H' => ∃ Hk' acc' vs', Ex Hk5 Hk' ∧ Cfg F.K rw' Hk1 H1 Hk' H' (wipe σ4 vs1) (wipeD ρ3 vs1) ∧ Hk' D = none ∧ H' D = some (.lst vs') ∧ Iss F.K Hk' vs' acc' ∧ I1 (j + 1) acc', fun H3 q => ⟨es.length - (j + 1), by omega, rfl, jlt, q⟩, fun x H7 hy => ?_⟩
        obtain ⟨Hk7, nw7, ix7⟩ := g4 x H7 hy
        have e7 := c6.nwEx nw7
        have c7 := c6.nw nw7
        have hk7 : Hk7 D = none ∧ H7 D = some (.lst us') := by
          rcases nw7 with ⟨rfl, rfl⟩ | ⟨p, o, hp, rfl, rfl⟩
          · exact ⟨hk6, h6⟩
          · have : D ≠ p := ne_of_none h6 hp
            rw [upd_ne this, upd_ne this]
            exact ⟨hk6, h6⟩
        obtain ⟨ρ8, js8, tg8, hjs8, ex8⟩ := kt j es[j] acc' (by simp [jlt]) hI6
        have cf7 := c7.frame' nb1
        refine tg8 _ _ _ _ _ _ _ _ cf7 ix7 fun σ8 c8 hw8 => ⟨(hw8 vs1 hjs8).trans (wipe_wipe σ4 vs1), ?_⟩
        refine show wE (F.blk scope) elt σ8 H7 _ from ex8 _ _ _ _ _ _ _ c8 fun y d Hk9 H9 e9 c9 i9 s9 => ?_
        have f9 := fin hk7.1 hk7.2 c9
        have c10 := c7.back c9
        exact ⟨us', f9.2, by rw [is6.length]; exact s9.1, Hk9, acc' ++ [d], us' ++ [y], e6.trans (e7.trans e9), c10.mut nb1 hD f9.1, f9.1, upd_same, (Iss.mono (e7.trans e9) _ _ is6).append (.cons i9 .nil), s9.2⟩
      · have : j = es.length := by omega
        subst this
        refine .inl ⟨sp1, Hk6, acc', us', e2.trans (e3.trans (e5.trans e6)), ?_, hk6, h6, is6, kd acc' hI6⟩
        exact ⟨c6.e1, c6.e2, c6.e3, c6.fr, c6.rk, fun i d e => by
          obtain ⟨v, q1, q2⟩ := cin.im i d e
          exact ⟨v, q1, Is.mono e6 _ _ q2⟩, fun i ds e => absurd e (nb i ds), cin.row, cin.one, cin.len⟩
    · have : i = ds.length := by omega
      subst this
      refine .inl ⟨sp, ?_⟩
      have ck := c2.know nb hD hk2 h2
      exact q _ (.list acc) _ H' (e1.trans (e2.trans (.new hk2))) (c1.back ck) (.lst upd_same (Iss.mono (.new hk2) _ _ is2)) ⟨acc, rfl, hd acc hI⟩
section
variable {F : Fx} {ρ : Dn} {tg iter tg1 iter1 elt : Expr} {scope : Scope} {pos : Pos} {S : List PyData → Prop} {T : PyData → Prop}
/-- y = [.. for .. for ..], y a local name -/
theorem sx_setLc2 {y : Str} {py spos : Pos} {rest : List Stmt} {N : Dn → Prop} {R : PyData → Prop} (i : Nat) (own : List (Str × Nat)) (vs1 : List Nat) (hN : F.N.Nodup) (hi : EI F ρ tg iter S)
    (h : ∀ ds, S ds → ∃ I : Nat → List PyData → Prop, I 0 [] ∧ (∀ (i : Nat) d acc, ds[i]? = some d → I i acc → ∃ ρ2 js S1, TGT (F.blk scope) (wipeD (noOw ρ) (own.map (·.2))) tg d ρ2 js ∧ (∀ j ∈ js, j ∈ own.map (·.2)) ∧ NoOw ρ2 ∧
      EI (F.blk scope) ρ2 tg1 iter1 S1 ∧ ∀ es, S1 es → Turns2 (F.blk scope) (wipeD ρ2 vs1) vs1 tg1 elt es acc (fun acc' => I (i + 1) acc')) ∧ ∀ acc, I ds.length acc → T (.list acc))
    (k : ∀ d, T d → SX F (ρ.set i (some (.im d))) rest N R) (hv : ∀ i ∈ vs1, i ∈ own.map (·.2) := by decide) (hy : F.N[i]? = some y := by rfl) (hyl : F.sc.names.lookup y = some .local := by rfl)
    (hsw : ∀ v, swapsWith (.ListComp elt [⟨tg, iter, [], 0⟩, ⟨tg1, iter1, [], 0⟩] scope pos) (some (.Name y py)) spos.line (F.cx v).env = pure true := by intro _; exact sw_true rfl rfl rfl (by (try dsimp only [fxOf, Fx.blk]); decide +kernel))
    (ok : blkC F.N F.sc scope own = true := by (try dsimp only [fxOf, Fx.blk]); decide +kernel) (hs : ∀ v x, foldedSetIterable iter (F.cx v).env x = pure x := by intro _ _; rfl) (hs1 : ∀ env x, foldedSetIterable iter1 env x = pure x := by intro _ _; rfl) :
    SX F ρ (.Assign [.Name y py] (.ListComp elt [⟨tg, iter, [], 0⟩, ⟨tg1, iter1, [], 0⟩] scope pos) spos :: rest) N R :=
  sx_cons (M := fun ρ' => ∃ d, T d ∧ ρ' = ρ.set i (some (.im d))) ⟨tAsg (tLc2 (wI F tg iter) (wG (F.blk scope) tg) tYes (wI (F.blk scope) tg1 iter1) (wG (F.blk scope) tg1) tYes (wE (F.blk scope) elt) (own.map (·.2)) vs1) (gName i),
    fun v => ps_setLc2 rfl hN hy hyl (hsw v) pi_w (blkOk_by ok) hv
    (fun s H C cl fp => pg_w (F := F.blk scope) (v := ⟨s, H, compEnvC scope cl C (F.cx v).env, v.stack, v.stack, fp⟩))
    (fun s H C cl fp => pts_nil)
    (fun s H C cl fp => pi_w (F := F.blk scope) (v := ⟨s, H, compEnvC scope cl C (F.cx v).env, v.stack, v.stack, fp⟩))
    (fun s H C cl fp => pg_w (F := F.blk scope) (v := ⟨s, H, compEnvC scope cl C (F.cx v).env, v.stack, v.stack, fp⟩))
    (fun s H C cl fp => pts_nil)
    (fun s H C cl fp => pe_w (F := F.blk scope) (v := ⟨s, H, compEnvC scope cl C (F.cx v).env, v.stack, v.stack, fp⟩)) (hs v) hs1,
    fun _ _ _ Hk H σ D c nx rt => lc2_run (T := fun acc => T (.list acc)) hi h (Q := fun x H1 => gName i x σ H1 D.nx) c fun v d Hk' H' a b ii ⟨acc, e, t⟩ => nx _ _ Hk' H' a (b.put ii) ⟨d, by rw [e]; exact t, rfl⟩⟩
    fun ρ' ⟨d, t, e⟩ => by rw [e]; exact k d t
end
end Lp

/-! LpT: the text by places, its scopes; the first defs. -/
namespace Lp
open PySem PySem.Spec L2

def topS (i : Nat) : Stmt := PySem.Challenge.pw_latticepoints_k54_whole_unimodular_parts.main.body.getD i (.Pass ⟨0, 0, 0, 0⟩)
abbrev N_is_in : List Str := ["value", "least", "most"]
theorem sc_is_in : FnScope N_is_in ["value", "least", "most"] (defScope (topS 4)) := ⟨rfl, rfl, rfl, by decide +kernel, rfl, by decide +kernel, by decide +kernel⟩
abbrev N_gcd : List Str := ["one", "other"]
theorem sc_gcd : FnScope N_gcd ["one", "other"] (defScope (topS 5)) := ⟨rfl, rfl, rfl, by decide +kernel, rfl, by decide +kernel, by decide +kernel⟩
abbrev N_reduced : List Str := ["numerator", "denominator", "common"]
theorem sc_reduced : FnScope N_reduced ["numerator", "denominator"] (defScope (topS 6)) := ⟨rfl, rfl, rfl, by decide +kernel, rfl, by decide +kernel, by decide +kernel⟩
/-- a def whose answer is a function of its arguments' data -/
abbrev FnD (P : Program) (w : World) (K : PySem.W.Frag) (mg : Str → Option Value) (base : Heap) (k : Nat) (f : Addr) (fd : FuncData) (ps : List Str) (n : Nat) (Pre : List PyData → Prop) (Fn : List PyData → PyData) : Prop :=
  FnOk P w K mg base CX0 k f fd ps (spR K n Pre (fun ds r => r = Fn ds))
section
variable {F : Fx} {ρ : Dn} {x : Str} {e : Expr} {es : List Expr} {p pos : Pos} {ds : List PyData} {Pre : List PyData → Prop} {Fn : List PyData → PyData} {f : Addr} {fd : FuncData} {ps : List Str} {k n : Nat}
theorem ev_call (G : FnD F.P F.w F.K F.mg F.base k f fd ps n Pre Fn) (hr : Room k F.A) (hm : F.mg x = some (.ref f)) (hk : PySem.W.keepIn F.K (.ref f) = true) (hb : Binds F.K fd ps [])
    (ha : AV F ρ (e :: es) ds) (hp : Pre ds) (hl : (e :: es).length = n := by rfl) (hl2 : ds.length = n := by rfl) (hg : F.sc.names.lookup x = some .globalImplicit := by rfl) (hdb : (x == ("__debug__" : Str)) = false := by decide)
    (he : ∀ v, starEach (e :: es) (F.cx v).env = (false, eval e (F.cx v).env) :: starEach es (F.cx v).env := by intro _; rfl) (hpl : ∀ v, (backTo pos (starEach es (F.cx v).env)).any (·.1) = false := by intro _; rfl) : EV F ρ (.Call (.Name x p) (e :: es) [] pos) (Fn ds) :=
  ex_call G hr hm hk hb ha hl (fun ds' e' => by subst e'; exact ⟨hl2, hp, fun d h => h⟩) hg hdb he hpl
end
theorem units_ok {k : Nat} {A : Around} (h : Room k A) : A.units + 200 < cLine := by have := h.un; omega
section
variable {P : Program} {w : World} {K : PySem.W.Frag} {mg : Str → Option Value} {base : Heap} {f : Addr} {fd : FuncData}

theorem k_ii : kitB "int" "int" = some true := by decide +kernel
theorem k_ib : kitB "int" "bool" = some false := by decide +kernel
theorem k_tt : kitB "tuple" "tuple" = some true := by decide +kernel
/-! ### is_in -/
def F_is_in : List PyData → PyData
  | [.int i, .int lo, .int hi] => .bool (decide (lo ≤ i) && decide (i ≤ hi))
  | _ => .none
theorem ok_is_in (G : Fun K "is_in" "is_in" (topS 4) f fd) (m1 : mg "isinstance" = none) (m2 : mg "int" = none) (m3 : mg "bool" = none) :
    FnD P w K mg base 1 f fd ["value", "least", "most"] 3 (fun ds => ∃ i lo hi : Int, ds = [.int i, .int lo, .int hi]) F_is_in := by
  refine fn_data G sc_is_in rfl (fun ds h => ?_) (fun A ds hr h => ?_)
  · obtain ⟨i, lo, hi, rfl⟩ := h; rfl
  · obtain ⟨i, lo, hi, rfl⟩ := h
    refine sx_ret (EX.weak (S := fun d => d = .bool (true && (!false && (decide (lo ≤ i) && decide (i ≤ hi))))) ?_ fun d e => by rw [e]; show _ = PyData.bool _; simp)
    refine ev_and (k := true) (ev_isi (T := "int") (d := .int i) m1 m2 (ex_name 0) (by decide +kernel) k_ii) fun _ => ?_
    refine ev_and (k := !false) (ev_not (ev_isi (T := "bool") (d := .int i) m1 m3 (ex_name 0) (by decide +kernel) k_ib)) fun _ => ?_
    exact ev_one (ev_chain (fun _ => op_le) (fun _ => op_le) (ex_name 1) (ex_name 0) (fun _ => ex_name 2) rd_B0 fun _ => rd_B0)

/-! ### gcd -/
def F_gcd : List PyData → PyData
  | [.int a, .int b] => .int (Int.gcd a b : Nat)
  | _ => .none
theorem ok_gcd (G : Fun K "gcd" "gcd" (topS 5) f fd) (m1 : mg "abs" = none) : FnD P w K mg base 1 f fd ["one", "other"] 2 (fun ds => ∃ a b : Int, ds = [.int a, .int b]) F_gcd := by
  refine fn_data G sc_gcd rfl (fun ds h => ?_) (fun A ds hr h => ?_)
  · obtain ⟨a, b, rfl⟩ := h; rfl
  · obtain ⟨a, b, rfl⟩ := h
    refine sx_par 0 1 sc_gcd.nd (ev_abs m1 (ex_name 0)) (ev_abs m1 (ex_name 1)) fun d1 d2 e1 e2 => ?_
    subst e1
    subst e2
    refine sx_while (fun m ρ' => ∃ c d : Nat, ρ' = [some (.im (.int c)), some (.im (.int d))] ∧ Nat.gcd c d = Int.gcd a b ∧ d = m) b.natAbs ⟨a.natAbs, b.natAbs, rfl, rfl, rfl⟩ fun m ρ' h => ?_
    obtain ⟨c, d, rfl, hg, rfl⟩ := h
    refine ⟨_, tv_ne (i := d) (j := 0) (ex_name 1) ex_int, fun t => ?_, fun t => ?_⟩
    · have hd : ¬ ((d : Int) = 0) := by simpa using t
      refine sx_par 0 1 sc_gcd.nd (ex_name 1) (ev_mod (i := c) (j := d) (ex_name 0) (ex_name 1) hd) fun d1 d2 e1 e2 => ?_
      subst e1
      subst e2
      refine sx_nil ⟨c % d, Nat.mod_lt _ (by omega), d, c % d, ?_, ?_, rfl⟩
      · rw [show (c : Int).fmod d = ((c % d : Nat) : Int) by rw [Int.fmod_eq_emod_of_nonneg _ (by omega)]; rfl]
        rfl
      · rw [← hg, Nat.gcd_comm c d, Nat.gcd_rec d c, Nat.gcd_comm]
    · have hd : (d : Int) = 0 := by simpa using t
      have hd' : d = 0 := by omega
      subst hd'
      refine sx_ret (EV.is (ex_name 0) ?_)
      rw [Nat.gcd_zero_right] at hg
      show PyData.int (c : Int) = PyData.int (Int.gcd a b : Nat)
      rw [hg]

/-! ### reduced -/
def red (a b : Int) : Int × Int := if b < 0 then (-(a / Int.gcd a b), -(b / Int.gcd a b)) else (a / Int.gcd a b, b / Int.gcd a b)
def F_reduced : List PyData → PyData
  | [.int a, .int b] => tI [(red a b).1, (red a b).2]
  | _ => .none
theorem fdiv_gcd {a b c : Int} (h : (Int.gcd a b : Int) ∣ c) : c.fdiv (Int.gcd a b : Nat) = c / Int.gcd a b := Int.fdiv_eq_ediv_of_dvd h
theorem ok_reduced {f' : Addr} {fd' : FuncData} (G : Fun K "reduced" "reduced" (topS 6) f fd) (Gg : FnD P w K mg base 1 f' fd' ["one", "other"] 2 (fun ds => ∃ a b : Int, ds = [.int a, .int b]) F_gcd) (hm : mg "gcd" = some (.ref f')) (hk : PySem.W.keepIn K (.ref f') = true) (hb : Binds K fd' ["one", "other"] []) :
    FnD P w K mg base 2 f fd ["numerator", "denominator"] 2 (fun ds => ∃ a b : Int, ds = [.int a, .int b] ∧ b ≠ 0 ∧ b.natAbs < 1073741824) F_reduced := by
  refine fn_data G sc_reduced rfl (fun ds h => ?_) (fun A ds hr h => ?_)
  · obtain ⟨a, b, rfl, _⟩ := h; rfl
  · obtain ⟨a, b, rfl, h0, h1⟩ := h
    have g0 : Int.gcd a b ≠ 0 := fun z => h0 (Int.gcd_eq_zero_iff.mp z).2
    have gle : Int.gcd a b ≤ b.natAbs := Nat.le_of_dvd (by omega) (Nat.gcd_dvd_right _ _)
    refine sx_set 2 sc_reduced.nd (ev_call Gg hr hm hk hb (av_cons (ex_name 0) (av_cons (ex_name 1) ea_nil)) ⟨a, b, rfl⟩) fun d e => ?_
    subst e
    refine sx_if (M := fun ρ' => ρ' = [some (.im (.int a)), some (.im (.int b)), some (.im (.int (if b < 0 then -(Int.gcd a b : Int) else Int.gcd a b)))]) (tv_lt (i := b) (j := 0) (ex_name 1) ex_int) (fun t => ?_) (fun t => ?_) fun ρ' e => ?_
    · have hb : b < 0 := by simpa using t
      rw [if_pos hb]
      refine sx_set 2 sc_reduced.nd (ev_neg (i := (Int.gcd a b : Nat)) (ex_name 2)) fun d e => ?_
      subst e
      exact sx_nil rfl
    · have hb : ¬ b < 0 := by simpa using t
      rw [if_neg hb]
      exact sx_nil rfl
    · subst e
      have dv1 : (Int.gcd a b : Int) ∣ a := Int.gcd_dvd_left ..
      have dv2 : (Int.gcd a b : Int) ∣ b := Int.gcd_dvd_right ..
      refine sx_ret (EV.is (ev_tup (av_cons (ev_fdiv (ex_name 0) (ex_name 2) ?_) (av_cons (ev_fdiv (ex_name 1) (ex_name 2) ?_) ea_nil))) ?_)
      · constructor <;> split <;> omega
      · constructor <;> split <;> omega
      · show _ = tI [(red a b).1, (red a b).2]
        unfold red tI
        by_cases hb : b < 0
        · simp only [if_pos hb, List.map_cons, List.map_nil]
          rw [Int.fdiv_eq_ediv_of_dvd (Int.neg_dvd.mpr dv1), Int.fdiv_eq_ediv_of_dvd (Int.neg_dvd.mpr dv2), Int.ediv_neg, Int.ediv_neg]
        · simp only [if_neg hb, List.map_cons, List.map_nil]
          rw [Int.fdiv_eq_ediv_of_dvd dv1, Int.fdiv_eq_ediv_of_dvd dv2]
end
end Lp

/-! LpU: more, scaled, determinant, primitive, is_vector, cramer. -/
namespace Lp
open PySem PySem.Spec L2

abbrev N_more : List Str := ["one", "other", "x", "y"]
theorem sc_more : FnScope N_more ["one", "other"] (defScope (topS 8)) := ⟨rfl, rfl, rfl, by decide +kernel, rfl, by decide +kernel, by decide +kernel⟩
abbrev N_scaled : List Str := ["factor", "one", "x"]
theorem sc_scaled : FnScope N_scaled ["factor", "one"] (defScope (topS 9)) := ⟨rfl, rfl, rfl, by decide +kernel, rfl, by decide +kernel, by decide +kernel⟩
abbrev N_det : List Str := ["rows", "total", "k", "part", "row"]
theorem sc_det : FnScope N_det ["rows"] (defScope (topS 10)) := ⟨rfl, rfl, rfl, by decide +kernel, rfl, by decide +kernel, by decide +kernel⟩
abbrev N_prim : List Str := ["one", "common", "x"]
theorem sc_prim : FnScope N_prim ["one"] (defScope (topS 11)) := ⟨rfl, rfl, rfl, by decide +kernel, rfl, by decide +kernel, by decide +kernel⟩
abbrev N_isvec : List Str := ["value", "size", "low", "high", "x"]
theorem sc_isvec : FnScope N_isvec ["value", "size", "low", "high"] (defScope (topS 12)) := ⟨rfl, rfl, rfl, by decide +kernel, rfl, by decide +kernel, by decide +kernel⟩
abbrev N_cramer : List Str := ["rows", "right", "whole", "found", "k", "changed", "row", "value"]
theorem sc_cramer : FnScope N_cramer ["rows", "right"] (defScope (topS 13)) := ⟨rfl, rfl, rfl, by decide +kernel, rfl, by decide +kernel, by decide +kernel⟩

/-- small: below 2^20 -/
def Sm (x : Int) : Prop := -1048576 ≤ x ∧ x ≤ 1048576
theorem cmul_r {i j : Int} (h : Sm j) : CMul i j := .inr ⟨by have := h.1; omega, by have := h.2; omega⟩
theorem cmul_l {i j : Int} (h : Sm i) : CMul i j := .inl ⟨by have := h.1; omega, by have := h.2; omega⟩
theorem getI {ns : List Int} {k : Nat} (h : k < ns.length) : atI (ns.map PyData.int) (k : Int) = some (.int (ns.getD k 0)) := by
  refine atI_nat ?_
  rw [List.getElem?_map, List.getElem?_eq_getElem h, List.getD_eq_getElem?_getD, List.getElem?_eq_getElem h]
  rfl
/-- a list or a tuple -/
def sq (b : Bool) (ds : List PyData) : PyData := if b then .tuple ds else .list ds

section
variable {P : Program} {w : World} {K : PySem.W.Frag} {mg : Str → Option Value} {base : Heap} {f : Addr} {fd : FuncData}
/-! ### more, scaled -/
def prI (z : Int × Int) : PyData := .tuple [.int z.1, .int z.2]
theorem zip_ints : ∀ a b : List Int, zipD (a.map .int) (b.map .int) = (a.zip b).map prI
  | [], _ => rfl
  | _ :: _, [] => rfl
  | x :: a, y :: b => by
    show PyData.tuple [.int x, .int y] :: zipD (a.map .int) (b.map .int) = _
    rw [zip_ints a b]
    rfl
def addV (a b : List Int) : List Int := List.zipWith (· + ·) a b
def F_more : List PyData → PyData
  | [.tuple xs, .tuple ys] => .tuple (List.zipWith (fun x y => match x, y with | .int i, .int j => .int (i + j) | _, _ => .none) xs ys)
  | _ => .none
theorem F_more_ints (a b : List Int) : F_more [tI a, tI b] = tI (addV a b) := by
  show PyData.tuple _ = PyData.tuple _
  congr 1
  unfold addV
  induction a generalizing b with
  | nil => rfl
  | cons x a ih =>
    cases b with
    | nil => rfl
    | cons y b => simp only [List.map_cons, List.zipWith_cons_cons, ih b]
theorem ok_more (G : Fun K "more" "more" (topS 8) f fd) (mt : mg "tuple" = none) (mz : mg "zip" = none) :
    FnD P w K mg base 1 f fd ["one", "other"] 2 (fun ds => ∃ a b : List Int, ds = [tI a, tI b] ∧ a.length = b.length ∧ a.length ≤ 1000) F_more := by
  refine fn_data G sc_more rfl (fun ds h => ?_) (fun A ds hr h => ?_)
  · obtain ⟨a, b, rfl, _⟩ := h; rfl
  · obtain ⟨a, b, rfl, hl, hz⟩ := h
    rw [F_more_ints]
    refine sx_ret (ev_tupleL (ds := (addV a b).map .int) mt (ex_lc [("x", 2), ("y", 3)] sc_more.nd (ei_zipT (xs := a.map .int) (ys := b.map .int) mz (ex_name 0) (ex_name 1) (by simpa using hl)) fun ds e => ?_))
    refine turns_map (xs := a.zip b) (enc := prI) (f := fun z => .int (z.1 + z.2)) (by rw [e]; exact zip_ints a b) ?_ (fun z hz => ⟨_, _, tgt_tup2 2 3 sc_more.nd, by decide, ev_add (ex_name 2) (ex_name 3)⟩) ?_
    · rw [List.length_zip]
      exact Nat.le_trans (Nat.min_le_left _ _) (Nat.le_trans hz (by decide))
    · show PyData.list _ = PyData.list _
      congr 1
      unfold addV
      rw [List.zip, List.map_zipWith, List.map_zipWith]
def sclV (c : Int) (a : List Int) : List Int := a.map (c * ·)
def F_scaled : List PyData → PyData
  | [.int c, .tuple xs] => .tuple (xs.map fun x => match x with | .int i => .int (c * i) | _ => .none)
  | _ => .none
theorem F_scaled_ints (c : Int) (a : List Int) : F_scaled [.int c, tI a] = tI (sclV c a) := by
  show PyData.tuple _ = PyData.tuple _
  congr 1
  unfold sclV
  rw [List.map_map, List.map_map]
  rfl
theorem ok_scaled (G : Fun K "scaled" "scaled" (topS 9) f fd) (mt : mg "tuple" = none) :
    FnD P w K mg base 1 f fd ["factor", "one"] 2 (fun ds => ∃ (c : Int) (a : List Int), ds = [.int c, tI a] ∧ a.length ≤ 1000 ∧ ∀ x ∈ a, Sm x) F_scaled := by
  refine fn_data G sc_scaled rfl (fun ds h => ?_) (fun A ds hr h => ?_)
  · obtain ⟨c, a, rfl, _⟩ := h; rfl
  · obtain ⟨c, a, rfl, hz, hs⟩ := h
    rw [F_scaled_ints]
    refine sx_ret (ev_tupleL (ds := (sclV c a).map .int) mt (ex_lc [("x", 2)] sc_scaled.nd (ei_tup (S := fun ds => ds = a.map .int) ((ex_name 1).weak fun d e => ⟨_, e, rfl⟩)) fun ds e => ?_))
    refine turns_map (xs := a) (enc := .int) (f := fun z => .int (c * z)) e (Nat.le_trans hz (by decide)) (fun z hz' => ⟨_, _, tgt_name 2 sc_scaled.nd, by decide, ev_mul (ex_name 0) (ex_name 2) (cmul_r (hs z hz'))⟩) ?_
    show PyData.list _ = PyData.list _
    congr 1
    unfold sclV
    rw [List.map_map]
    rfl

/-! ### determinant -/
def dt : List (List Int) → Int
  | [[a]] => a
  | [[a, b], [c, d]] => a * d - b * c
  | [[a, b, c], [d, e, f], [g, h, i]] => a * (e * i - f * h) - b * (d * i - f * g) + c * (d * h - e * g)
  | _ => 0
def unI : PyData → Int
  | .int i => i
  | _ => 0
def unT : PyData → List Int
  | .tuple xs => xs.map unI
  | .list xs => xs.map unI
  | _ => []
theorem unT_tI (a : List Int) : unT (tI a) = a := by
  show (a.map PyData.int).map unI = a
  rw [List.map_map]
  exact List.map_id'' (fun _ => rfl) a
theorem unTs (m : List (List Int)) : (m.map tI).map unT = m := by
  rw [List.map_map]
  exact List.map_id'' (fun a => unT_tI a) m
def F_det : List PyData → PyData
  | [.list rs] => .int (dt (rs.map unT))
  | _ => .none
theorem F_det_rows (m : List (List Int)) : F_det [.list (m.map tI)] = .int (dt m) := by
  show PyData.int (dt ((m.map tI).map unT)) = _
  rw [unTs]
/-- square, of 1 to s rows, all columns but one small -/
def Sqr (s : Nat) (m : List (List Int)) : Prop := 1 ≤ m.length ∧ m.length ≤ s ∧ (∀ r ∈ m, r.length = m.length) ∧ ∃ c : Nat, ∀ r ∈ m, ∀ j : Nat, j ≠ c → Sm (r.getD j 0)
theorem len1 {α : Type} {l : List α} (h : l.length = 1) : ∃ a, l = [a] := by
  match l, h with
  | [a], _ => exact ⟨a, rfl⟩
theorem len2 {α : Type} {l : List α} (h : l.length = 2) : ∃ a b, l = [a, b] := by
  match l, h with
  | [a, b], _ => exact ⟨a, b, rfl⟩
theorem len3 {α : Type} {l : List α} (h : l.length = 3) : ∃ a b c, l = [a, b, c] := by
  match l, h with
  | [a, b, c], _ => exact ⟨a, b, c, rfl⟩
theorem sx_det12 {A : Around} {N : Dn → Prop} {m : List (List Int)} (ml : mg "len" = none) (hm : Sqr 2 m) :
    SX (fxOf P w K mg base A N_det (defScope (topS 10))) (startD N_det [.list (m.map tI)]) (defBody (topS 10)) N (fun r => r = .int (dt m)) := by
  obtain ⟨h1, h2, hr', c, hc⟩ := hm
  by_cases e1 : m.length = 1
  · obtain ⟨r, rfl⟩ := len1 e1
    obtain ⟨a, rfl⟩ := len1 (hr' r List.mem_cons_self)
    refine sx_ifR (tv_eq (i := 1) (j := 1) (ev_lenL (ds := [tI [a]]) ml (ex_name 0)) ex_int) (fun _ => ?_) fun z => by cases z
    exact sx_ret (ev_ixT (ds := [.int a]) (ev_ixL (ds := [tI [a]]) (ex_name 0) ex_int rfl) ex_int rfl)
  · have e2 : m.length = 2 := by omega
    obtain ⟨r, q, rfl⟩ := len2 e2
    obtain ⟨a, b, rfl⟩ := len2 (hr' r List.mem_cons_self)
    obtain ⟨c', d, rfl⟩ := len2 (hr' q (by simp))
    refine sx_ifF (tv_eq (i := 2) (j := 1) (ev_lenL (ds := [tI [a, b], tI [c', d]]) ml (ex_name 0)) ex_int) ?_
    refine sx_ifR (tv_eq (i := 2) (j := 2) (ev_lenL (ds := [tI [a, b], tI [c', d]]) ml (ex_name 0)) ex_int) (fun _ => ?_) fun z => by cases z
    have s1 := hc [a, b] (by simp)
    have s2 := hc [c', d] (by simp)
    have p1 : CMul a d := by
      by_cases z : c = 0
      · exact cmul_r (s2 1 (by omega))
      · exact cmul_l (s1 0 (by omega))
    have p2 : CMul b c' := by
      by_cases z : c = 0
      · exact cmul_l (s1 1 (by omega))
      · exact cmul_r (s2 0 (by omega))
    refine sx_ret (ev_sub (ev_mul (ev_ixT (ds := [.int a, .int b]) (ev_ixL (ds := [tI [a, b], tI [c', d]]) (ex_name 0) ex_int rfl) ex_int rfl) (ev_ixT (ds := [.int c', .int d]) (ev_ixL (ds := [tI [a, b], tI [c', d]]) (ex_name 0) ex_int rfl) ex_int rfl) p1)
      (ev_mul (ev_ixT (ds := [.int a, .int b]) (ev_ixL (ds := [tI [a, b], tI [c', d]]) (ex_name 0) ex_int rfl) ex_int rfl) (ev_ixT (ds := [.int c', .int d]) (ev_ixL (ds := [tI [a, b], tI [c', d]]) (ex_name 0) ex_int rfl) ex_int rfl) p2))
theorem ok_det12 (G : Fun K "determinant" "determinant" (topS 10) f fd) (ml : mg "len" = none) :
    FnD P w K mg base 1 f fd ["rows"] 1 (fun ds => ∃ m, ds = [.list (m.map tI)] ∧ Sqr 2 m) F_det := by
  refine fn_data G sc_det rfl (fun ds h => ?_) (fun A ds hr h => ?_)
  · obtain ⟨m, rfl, _⟩ := h; rfl
  · obtain ⟨m, rfl, hm⟩ := h
    rw [F_det_rows]
    exact sx_det12 ml hm
theorem sm_mul {x y : Int} (hx : Sm x) (hy : Sm y) : -1099511627776 ≤ x * y ∧ x * y ≤ 1099511627776 := by
  obtain ⟨x1, x2⟩ := hx
  obtain ⟨y1, y2⟩ := hy
  have h : (x * y).natAbs ≤ 1048576 * 1048576 := by
    rw [Int.natAbs_mul]
    exact Nat.mul_le_mul (by omega) (by omega)
  omega
theorem cmul_2 {x p q r s : Int} (hp : Sm p) (hq : Sm q) (hr : Sm r) (hs : Sm s) : CMul x (p * q - r * s) := by
  have h1 := sm_mul hp hq
  have h2 := sm_mul hr hs
  exact .inr ⟨by omega, by omega⟩
/-- a row without its k-th number -/
def dropK (k : Nat) (r : List Int) : List Int := r.take k ++ r.drop (k + 1)
def tot (r0 : List Int) (rest : List (List Int)) : Nat → Int
  | 0 => 0
  | k + 1 => tot r0 rest k + (if k % 2 = 0 then r0.getD k 0 * dt (rest.map (dropK k)) else -(r0.getD k 0 * dt (rest.map (dropK k))))
theorem tot3 (a b c d e f g h i : Int) : tot [a, b, c] [[d, e, f], [g, h, i]] 3 = dt [[a, b, c], [d, e, f], [g, h, i]] := by
  show (0 + a * (e * i - f * h) + -(b * (d * i - f * g))) + c * (d * h - e * g) = a * (e * i - f * h) - b * (d * i - f * g) + c * (d * h - e * g)
  grind
theorem tI_cat (a b : List Int) : PyData.tuple (a.map .int ++ b.map .int) = tI (a ++ b) := by unfold tI; rw [List.map_append]
theorem ev_dropK {F : Fx} {ρ : Dn} {e1 e2 hi lo : Expr} {pos p1 p2 p3 p4 : Pos} {r : List Int} {k : Nat} (h1 : EV F ρ e1 (tI r)) (hk : EV F ρ hi (.int (k : Int))) (h2 : EV F ρ e2 (tI r)) (hk2 : EV F ρ lo (.int ((k + 1 : Nat) : Int))) (hz : r.length ≤ 1000) :
    EV F ρ (.BinOp (.Subscript e1 (.Slice none (some hi) none p1) p2) .Add (.Subscript e2 (.Slice (some lo) none none p3) p4) pos) (tI (dropK k r)) := by
  refine EV.is (ev_catT (ev_toT (ds := r.map .int) h1 hk) (ev_fromT (ds := r.map .int) h2 hk2) ?_) ?_
  · have : (1000 : Nat) + 1000 ≤ sizeLine := by decide
    rw [List.length_take, List.length_drop, List.length_map]
    omega
  · rw [← List.map_take, ← List.map_drop, tI_cat]
    rfl
theorem ok_det (G : Fun K "determinant" "determinant" (topS 10) f fd) (ml : mg "len" = none) (mr : mg "range" = none) (hm : mg "determinant" = some (.ref f)) (hb : Binds K fd ["rows"] []) :
    FnD P w K mg base 2 f fd ["rows"] 1 (fun ds => ∃ m, ds = [.list (m.map tI)] ∧ Sqr 3 m) F_det := by
  have G1 : FnD P w K mg base 1 f fd ["rows"] 1 (fun ds => ∃ m, ds = [.list (m.map tI)] ∧ Sqr 2 m) F_det := ok_det12 G ml
  refine fn_data G sc_det rfl (fun ds h => ?_) (fun A ds hr h => ?_)
  · obtain ⟨m, rfl, _⟩ := h; rfl
  · obtain ⟨m, rfl, hs⟩ := h
    rw [F_det_rows]
    by_cases e3 : m.length ≤ 2
    · exact sx_det12 ml ⟨hs.1, e3, hs.2.2⟩
    obtain ⟨h1, h2, hr', cc, hc⟩ := hs
    obtain ⟨r, q, u, rfl⟩ := len3 (show m.length = 3 by omega)
    obtain ⟨a, b, c, rfl⟩ := len3 (hr' r List.mem_cons_self)
    obtain ⟨d, e, f', rfl⟩ := len3 (hr' q (by simp))
    obtain ⟨g, h, i, rfl⟩ := len3 (hr' u (by simp))
    have s1 := hc [a, b, c] (by simp)
    have s2 := hc [d, e, f'] (by simp)
    have s3 := hc [g, h, i] (by simp)
    refine sx_ifF (tv_eq (i := 3) (j := 1) (ev_lenL (ds := [tI [a, b, c], tI [d, e, f'], tI [g, h, i]]) ml (ex_name 0)) ex_int) ?_
    refine sx_ifF (tv_eq (i := 3) (j := 2) (ev_lenL (ds := [tI [a, b, c], tI [d, e, f'], tI [g, h, i]]) ml (ex_name 0)) ex_int) ?_
    refine sx_set 1 sc_det.nd ex_int fun z ez => ?_
    subst ez
    refine sx_for (ei_range1 (n := 3) mr (ev_lenL (ds := [tI [a, b, c], tI [d, e, f'], tI [g, h, i]]) ml (ex_name 0)) (by decide) (by decide)) fun ds e' => ?_
    refine ⟨fun k ρ' => ∃ o2 o3, ρ' = [some (.im (.list [tI [a, b, c], tI [d, e, f'], tI [g, h, i]])), some (.im (.int (tot [a, b, c] [[d, e, f'], [g, h, i]] k))), o2, o3, none], ⟨none, none, rfl⟩, fun k x ρ' hk h' => ?_, fun ρ' h' => ?_⟩
    · obtain ⟨o2, o3, rfl⟩ := h'
      rw [e'] at hk
      obtain ⟨hk3, rfl⟩ := rgD_get hk
      have hk : k < 3 := hk3
      rw [Int.zero_add]
      refine ⟨_, _, tgt_name 2 sc_det.nd, ?_⟩
      have hix : ∀ {ρ : Dn} {e1 e2 e3 : Expr} {p1 p2 : Pos}, PlainIx e2 → PlainIx e3 → EV (fxOf P w K mg base A N_det (defScope (topS 10))) ρ e1 (.list [tI [a, b, c], tI [d, e, f'], tI [g, h, i]]) → EV (fxOf P w K mg base A N_det (defScope (topS 10))) ρ e2 (.int 0) → EV (fxOf P w K mg base A N_det (defScope (topS 10))) ρ e3 (.int (k : Int)) →
          EV (fxOf P w K mg base A N_det (defScope (topS 10))) ρ (.Subscript (.Subscript e1 e2 p1) e3 p2) (.int ([a, b, c].getD k 0)) := fun hp hp2 g1 g2 g3 =>
        ev_ixT (ds := [a, b, c].map .int) (ev_ixL (ds := [tI [a, b, c], tI [d, e, f'], tI [g, h, i]]) g1 g2 rfl hp) g3 (getI hk) hp2
      have cm : CMul ([a, b, c].getD k 0) (dt ([[d, e, f'], [g, h, i]].map (dropK k))) := by
        by_cases z : k = cc
        · subst z
          obtain rfl | rfl | rfl : k = 0 ∨ k = 1 ∨ k = 2 := by omega
          · exact cmul_2 (s2 1 (by decide)) (s3 2 (by decide)) (s2 2 (by decide)) (s3 1 (by decide))
          · exact cmul_2 (s2 0 (by decide)) (s3 2 (by decide)) (s2 2 (by decide)) (s3 0 (by decide))
          · exact cmul_2 (s2 0 (by decide)) (s3 1 (by decide)) (s2 1 (by decide)) (s3 0 (by decide))
        · exact cmul_l (s1 k z)
      have sqm : Sqr 2 ([[d, e, f'], [g, h, i]].map (dropK k)) := by
        have key : ∀ x y z : Int, (∀ j : Nat, j ≠ cc → Sm ([x, y, z].getD j 0)) → (dropK k [x, y, z]).length = 2 ∧ ∀ j : Nat, j ≠ (if k < cc then cc - 1 else cc) → Sm ((dropK k [x, y, z]).getD j 0) := by
          intro x y z hs
          have zz : ∀ j : Nat, Sm (([] : List Int).getD j 0) := fun j => by rw [show ([] : List Int).getD j 0 = 0 from rfl]; exact ⟨by decide, by decide⟩
          obtain rfl | rfl | rfl : k = 0 ∨ k = 1 ∨ k = 2 := by omega
          · refine ⟨rfl, fun j hj => ?_⟩
            match j with
            | 0 => exact hs 1 (by split at hj <;> omega)
            | 1 => exact hs 2 (by split at hj <;> omega)
            | j + 2 => exact zz j
          · refine ⟨rfl, fun j hj => ?_⟩
            match j with
            | 0 => exact hs 0 (by split at hj <;> omega)
            | 1 => exact hs 2 (by split at hj <;> omega)
            | j + 2 => exact zz j
          · refine ⟨rfl, fun j hj => ?_⟩
            match j with
            | 0 => exact hs 0 (by split at hj <;> omega)
            | 1 => exact hs 1 (by split at hj <;> omega)
            | j + 2 => exact zz j
        obtain ⟨l1, k1⟩ := key d e f' s2
        obtain ⟨l2, k2⟩ := key g h i s3
        refine ⟨(by decide : 1 ≤ 2), (by decide : 2 ≤ 2), fun r hr => ?_, (if k < cc then cc - 1 else cc), fun r hr => ?_⟩
        · rcases List.mem_cons.mp hr with rfl | hr
          · exact l1
          · rcases List.mem_cons.mp hr with rfl | hr
            · exact l2
            · cases hr
        · rcases List.mem_cons.mp hr with rfl | hr
          · exact k1
          · rcases List.mem_cons.mp hr with rfl | hr
            · exact k2
            · cases hr
      refine sx_if (M := fun ρ' => ∃ o2 o3, ρ' = [some (.im (.list [tI [a, b, c], tI [d, e, f'], tI [g, h, i]])), some (.im (.int (tot [a, b, c] [[d, e, f'], [g, h, i]] (k + 1)))), o2, o3, none]) (tv_ne (j := 0) (hix (fun _ _ => rfl) (fun _ _ => rfl) (ex_name 0) ex_int (ex_name 2)) ex_int) (fun t => ?_) (fun t => ?_) fun ρ' h => sx_nil h
      · refine sx_set 3 sc_det.nd (ev_mul (hix (fun _ _ => rfl) (fun _ _ => rfl) (ex_name 0) ex_int (ex_name 2)) (EV.is (ev_call G1 (hr.mono (by decide)) hm G.kp hb (av_cons (ds := []) (d := .list (([[d, e, f'], [g, h, i]].map (dropK k)).map tI))
          (ex_lc [("row", 4)] sc_det.nd (ei_list (S := fun ds => ds = [[d, e, f'], [g, h, i]].map tI) ((ev_fromL (k := 1) (ds := [tI [a, b, c], tI [d, e, f'], tI [g, h, i]]) (ex_name 0) ex_int).weak fun x e => ⟨_, e, rfl⟩)) fun ds ed => turns_map (xs := [[d, e, f'], [g, h, i]]) (enc := tI) (f := fun r => tI (dropK k r)) ed (Nat.le_of_ble_eq_true rfl) (fun r hr => ⟨_, _, tgt_name 4 sc_det.nd, by decide, ?_⟩) rfl) ea_nil) ⟨_, rfl, sqm⟩) (F_det_rows _)) cm) fun z ez => ?_
        · have : r.length ≤ 1000 := by
            rcases List.mem_cons.mp hr with rfl | hr
            · exact (by decide : 3 ≤ 1000)
            · rcases List.mem_cons.mp hr with rfl | hr
              · exact (by decide : 3 ≤ 1000)
              · cases hr
          exact ev_dropK (ex_name 4) (ex_name 2) (ex_name 4) (EV.is (ev_add (ex_name 2) ex_int) rfl) this
        · subst ez
          by_cases hp : k % 2 = 0
          · refine sx_augI (f := fun i j => i + j) 1 sc_det.nd (fun _ => ip_add) (ex_if (tv_eq (j := 0) (ev_mod (i := (k : Int)) (j := 2) (ex_name 2) ex_int (by decide)) ex_int) (fun _ => ex_name 3) fun t => ?_) ?_
            · have : (k : Int).fmod 2 = ((k % 2 : Nat) : Int) := by rw [Int.fmod_eq_emod_of_nonneg _ (by decide)]; rfl
              rw [this, hp] at t
              cases t
            · have et : tot [a, b, c] [[d, e, f'], [g, h, i]] (k + 1) = tot [a, b, c] [[d, e, f'], [g, h, i]] k + [a, b, c].getD k 0 * dt ([[d, e, f'], [g, h, i]].map (dropK k)) := by rw [tot, if_pos hp]
              exact sx_nil ⟨some (.im (.int (k : Int))), some (.im (.int ([a, b, c].getD k 0 * dt ([[d, e, f'], [g, h, i]].map (dropK k))))), by rw [et]; rfl⟩
          · refine sx_augI (f := fun i j => i + j) (b := -([a, b, c].getD k 0 * dt ([[d, e, f'], [g, h, i]].map (dropK k)))) 1 sc_det.nd (fun _ => ip_add) (ex_if (tv_eq (j := 0) (ev_mod (i := (k : Int)) (j := 2) (ex_name 2) ex_int (by decide)) ex_int) (fun t => ?_) fun _ => ev_neg (ex_name 3)) ?_
            · have : (k : Int).fmod 2 = ((k % 2 : Nat) : Int) := by rw [Int.fmod_eq_emod_of_nonneg _ (by decide)]; rfl
              rw [this] at t
              have := of_decide_eq_true t.symm
              omega
            · have et : tot [a, b, c] [[d, e, f'], [g, h, i]] (k + 1) = tot [a, b, c] [[d, e, f'], [g, h, i]] k + -([a, b, c].getD k 0 * dt ([[d, e, f'], [g, h, i]].map (dropK k))) := by rw [tot, if_neg hp]
              exact sx_nil ⟨some (.im (.int (k : Int))), some (.im (.int ([a, b, c].getD k 0 * dt ([[d, e, f'], [g, h, i]].map (dropK k))))), by rw [et]; rfl⟩
      · have z0 : [a, b, c].getD k 0 = 0 := by
          have := t
          simpa using this
        have et : tot [a, b, c] [[d, e, f'], [g, h, i]] (k + 1) = tot [a, b, c] [[d, e, f'], [g, h, i]] k := by
          rw [tot, z0, Int.zero_mul, Int.neg_zero]
          split <;> exact Int.add_zero _
        exact sx_nil ⟨some (.im (.int (k : Int))), o3, by rw [et]; rfl⟩
    · rw [e'] at h'
      obtain ⟨o2, o3, rfl⟩ := h'
      refine sx_ret (EV.is (ex_name 1) ?_)
      show PyData.int (tot [a, b, c] [[d, e, f'], [g, h, i]] 3) = _
      rw [tot3]
end
end Lp

/-! LpV: primitive, is_vector, cramer. -/
namespace Lp
open PySem PySem.Spec L2

section
variable {P : Program} {w : World} {K : PySem.W.Frag} {mg : Str → Option Value} {base : Heap} {f : Addr} {fd : FuncData}
/-! ### primitive -/
def gcdL : List Int → Nat
  | [] => 0
  | x :: r => Nat.gcd x.natAbs (gcdL r)
def gcdF (c : Nat) (a : List Int) : Nat := a.foldl (fun c x => Int.gcd c x) c
theorem gcdF_eq : ∀ (a : List Int) (c : Nat), gcdF c a = Nat.gcd c (gcdL a)
  | [], c => (Nat.gcd_zero_right c).symm
  | x :: a, c => by
    show gcdF (Int.gcd c x) a = _
    rw [gcdF_eq a]
    show Nat.gcd (Nat.gcd c x.natAbs) (gcdL a) = Nat.gcd c (Nat.gcd x.natAbs (gcdL a))
    exact Nat.gcd_assoc ..
theorem gcdF_take {a : List Int} {i : Nat} {x : Int} (h : a[i]? = some x) : gcdF 0 (a.take (i + 1)) = Int.gcd (gcdF 0 (a.take i)) x := by
  unfold gcdF
  rw [List.take_add_one, h, List.foldl_append]
  rfl
theorem gcdL_le : ∀ (a : List Int), (∀ x ∈ a, Sm x) → gcdL a ≤ 1048576
  | [], _ => by decide
  | x :: a, h => by
    have ih := gcdL_le a fun y hy => h y (List.mem_cons_of_mem _ hy)
    have hx := h x List.mem_cons_self
    show Nat.gcd x.natAbs (gcdL a) ≤ _
    by_cases h0 : x.natAbs = 0
    · rw [h0, Nat.gcd_zero_left]
      exact ih
    · exact Nat.le_trans (Nat.gcd_le_left _ (by omega)) (by have := hx.1; have := hx.2; omega)
def prim (a : List Int) : List Int := if 1 < gcdL a then a.map (· / (gcdL a : Int)) else a
def F_prim : List PyData → PyData
  | [x] => tI (prim (unT x))
  | _ => .none
theorem F_prim_ints (a : List Int) : F_prim [tI a] = tI (prim a) := by
  show tI (prim (unT (tI a))) = _
  rw [unT_tI]
theorem ok_prim {f' : Addr} {fd' : FuncData} (G : Fun K "primitive" "primitive" (topS 11) f fd) (Gg : FnD P w K mg base 1 f' fd' ["one", "other"] 2 (fun ds => ∃ a b : Int, ds = [.int a, .int b]) F_gcd) (hm : mg "gcd" = some (.ref f')) (hk : PySem.W.keepIn K (.ref f') = true) (hb : Binds K fd' ["one", "other"] [])
    (mt : mg "tuple" = none) : FnD P w K mg base 2 f fd ["one"] 1 (fun ds => ∃ a : List Int, ds = [tI a] ∧ a.length ≤ 1000 ∧ ∀ x ∈ a, Sm x) F_prim := by
  refine fn_data G sc_prim rfl (fun ds h => ?_) (fun A ds hr h => ?_)
  · obtain ⟨a, rfl, _⟩ := h; rfl
  · obtain ⟨a, rfl, hz, hs⟩ := h
    rw [F_prim_ints]
    refine sx_set 1 sc_prim.nd ex_int fun d e => ?_
    subst e
    refine sx_for (ei_tup (S := fun ds => ds = a.map .int) ((ex_name 0).weak fun d e => ⟨_, e, rfl⟩)) fun ds e => ?_
    subst e
    refine ⟨fun i ρ' => ∃ o, ρ' = [some (.im (tI a)), some (.im (.int (gcdF 0 (a.take i) : Nat))), o], ⟨none, rfl⟩, fun i d ρ' hd h => ?_, fun ρ' h => ?_⟩
    · obtain ⟨o, rfl⟩ := h
      rw [List.getElem?_map] at hd
      cases hx : a[i]? with
      | none => rw [hx] at hd; cases hd
      | some x =>
        rw [hx] at hd
        cases hd
        refine ⟨_, _, tgt_name 2 sc_prim.nd, ?_⟩
        refine sx_set 1 sc_prim.nd (ev_call Gg hr hm hk hb (av_cons (ex_name 1) (av_cons (ex_name 2) ea_nil)) ⟨_, _, rfl⟩) fun d e => ?_
        subst e
        exact sx_nil ⟨some (.im (.int x)), by rw [gcdF_take hx]; rfl⟩
    · obtain ⟨o, rfl⟩ := h
      have eg : gcdF 0 (a.take (a.map PyData.int).length) = gcdL a := by
        rw [List.length_map, List.take_length, gcdF_eq, Nat.gcd_zero_left]
      rw [eg]
      refine sx_ret (ex_if (tv_gt (i := (gcdL a : Int)) (j := 1) (ex_name 1) ex_int) (fun t => ?_) fun t => ?_)
      · have h1 : 1 < gcdL a := by
          have := of_decide_eq_true t.symm
          omega
        have hb := gcdL_le a hs
        refine EV.is (ev_tupleL (ds := a.map fun x => .int (x / (gcdL a : Int))) mt (ex_lc [("x", 2)] sc_prim.nd (ei_tup (S := fun ds => ds = a.map .int) ((ex_name 0).weak fun d e => ⟨_, e, rfl⟩)) fun ds e => ?_)) ?_
        · refine turns_map (xs := a) (enc := .int) e (Nat.le_trans hz (by decide)) (fun z hz' => ⟨_, _, tgt_name 2 sc_prim.nd, by decide, EV.is (ev_fdiv (i := z) (j := (gcdL a : Int)) (ex_name 2) (ex_name 1) ⟨by omega, by omega⟩) ?_⟩) rfl
          rw [Int.fdiv_eq_ediv_of_nonneg _ (by omega)]
        · unfold prim tI
          rw [if_pos h1, List.map_map]
          rfl
      · have h1 : ¬ 1 < gcdL a := by
          have := of_decide_eq_false t.symm
          omega
        refine EV.is (ev_tupleT (ds := a.map .int) mt (ex_name 0)) ?_
        unfold prim tI
        rw [if_neg h1]

/-! ### is_vector, where it is so -/
def F_true : List PyData → PyData := fun _ => .bool true
theorem shaped_nil : SeqAt.shaped (.list []) = true := by decide +kernel
theorem ok_isvec {f' : Addr} {fd' : FuncData} (G : Fun K "is_vector" "is_vector" (topS 12) f fd) (Gi : FnD P w K mg base 1 f' fd' ["value", "least", "most"] 3 (fun ds => ∃ i lo hi : Int, ds = [.int i, .int lo, .int hi]) F_is_in) (hm : mg "is_in" = some (.ref f')) (hk : PySem.W.keepIn K (.ref f') = true) (hb : Binds K fd' ["value", "least", "most"] [])
    (mi : mg "isinstance" = none) (mt : mg "tuple" = none) (ml : mg "len" = none) :
    FnD P w K mg base 2 f fd ["value", "size", "low", "high"] 4 (fun ds => ∃ (a : List Int) (n lo hi : Int), ds = [tI a, .int n, .int lo, .int hi] ∧ (a.length : Int) = n ∧ a.length ≤ 1000 ∧ ∀ x ∈ a, lo ≤ x ∧ x ≤ hi) F_true := by
  refine fn_data G sc_isvec rfl (fun ds h => ?_) (fun A ds hr h => ?_)
  · obtain ⟨a, n, lo, hi, rfl, _⟩ := h; rfl
  · obtain ⟨a, n, lo, hi, rfl, rfl, hz, hs⟩ := h
    refine sx_ifF ?_ ?_
    · refine TV.is (EW.et (ew_or (k := !true) (k' := !decide ((a.map PyData.int).length = (a.length : Int))) (tv_not (tv_val (ev_isi (T := "tuple") (d := tI a) mi mt (ex_name 0) (by decide +kernel) k_tt))) fun _ => ew_or1 (tv_ne (j := (a.length : Int)) (ev_lenT (ds := a.map .int) ml (ex_name 0)) (ex_name 1)))) ?_
      rw [List.length_map]
      simp
    · refine sx_ret (EV.is (ev_eqD (x := .list []) (y := .list []) (units_ok hr) (ex_lc [("x", 4)] sc_isvec.nd (ei_tup (S := fun ds => ds = a.map .int) ((ex_name 0).weak fun d e => ⟨_, e, rfl⟩)) fun ds e => ?_) (ev_lst ea_nil) shaped_nil shaped_nil) ?_)
      · refine turns_filter (xs := a) (enc := .int) (p := fun x => !(decide (lo ≤ x) && decide (x ≤ hi))) (f := .int) e (Nat.le_trans hz (by decide)) (fun z hz' => ⟨_, _, tgt_name 4 sc_isvec.nd, by decide, tv_not (tv_val (EV.is (ev_call Gi (hr.mono (by decide)) hm hk hb (av_cons (ex_name 4) (av_cons (ex_name 2) (av_cons (ex_name 3) ea_nil))) ⟨z, lo, hi, rfl⟩) rfl)), fun _ => ex_name 4⟩) ?_
        have : a.filter (fun x => !(decide (lo ≤ x) && decide (x ≤ hi))) = [] := List.filter_eq_nil_iff.mpr fun x hx => by
          obtain ⟨h1, h2⟩ := hs x hx
          simp [h1, h2]
        rw [this]
        rfl
      · rfl

/-! ### cramer -/
/-- the rows with the k-th number replaced -/
def chg (m : List (List Int)) (r : List Int) (k : Nat) : List (List Int) := List.zipWith (fun row v => row.take k ++ ([v] ++ row.drop (k + 1))) m r
def cram (m : List (List Int)) (r : List Int) : List (Int × Int) := (List.range m.length).map fun k => red (dt (chg m r k)) (dt m)
def tR (z : Int × Int) : PyData := tI [z.1, z.2]
def unIs : PyData → List Int
  | .list xs => xs.map unI
  | .tuple xs => xs.map unI
  | _ => []
def F_cramer : List PyData → PyData
  | [.list ms, .list rs] => .tuple ((cram (ms.map unT) (rs.map unI)).map tR)
  | _ => .none
theorem unI_ints (r : List Int) : (r.map PyData.int).map unI = r := by
  rw [List.map_map]
  exact List.map_id'' (fun _ => rfl) r
theorem F_cramer_rows (m : List (List Int)) (r : List Int) : F_cramer [.list (m.map tI), .list (r.map .int)] = .tuple ((cram m r).map tR) := by
  show PyData.tuple ((cram ((m.map tI).map unT) ((r.map PyData.int).map unI)).map tR) = _
  rw [unTs, unI_ints]
/-- square, of 1 to 3 rows, all small -/
def SqS (m : List (List Int)) : Prop := 1 ≤ m.length ∧ m.length ≤ 3 ∧ (∀ r ∈ m, r.length = m.length) ∧ ∀ r ∈ m, ∀ x ∈ r, Sm x
theorem sm_getD {r : List Int} (h : ∀ x ∈ r, Sm x) (j : Nat) : Sm (r.getD j 0) := by
  rw [List.getD_eq_getElem?_getD]
  cases q : r[j]? with
  | none => exact ⟨by decide, by decide⟩
  | some x => exact h x (List.mem_of_getElem? q)
theorem SqS.sqr {m : List (List Int)} (h : SqS m) : Sqr 3 m := ⟨h.1, h.2.1, h.2.2.1, 0, fun r hr j _ => sm_getD (h.2.2.2 r hr) j⟩
theorem chg_len (m : List (List Int)) (r : List Int) (k : Nat) (hl : r.length = m.length) : (chg m r k).length = m.length := by
  unfold chg
  rw [List.length_zipWith, hl, Nat.min_self]
theorem chg_row {m : List (List Int)} {r : List Int} {k : Nat} {q : List Int} (h : q ∈ chg m r k) : ∃ row ∈ m, ∃ v, q = row.take k ++ ([v] ++ row.drop (k + 1)) := by
  unfold chg at h
  obtain ⟨i, hi⟩ := List.getElem?_of_mem h
  rw [List.getElem?_zipWith] at hi
  cases h1 : m[i]? with
  | none => rw [h1] at hi; simp at hi
  | some row =>
    cases h2 : r[i]? with
    | none => rw [h1, h2] at hi; simp at hi
    | some v =>
      rw [h1, h2] at hi
      exact ⟨row, List.mem_of_getElem? h1, v, (Option.some.inj hi).symm⟩
theorem chg_getD {row : List Int} {k j : Nat} {v : Int} (hk : k < row.length) (hj : j ≠ k) : (row.take k ++ ([v] ++ row.drop (k + 1))).getD j 0 = row.getD j 0 := by
  rw [List.getD_eq_getElem?_getD, List.getD_eq_getElem?_getD]
  congr 1
  by_cases h : j < k
  · rw [List.getElem?_append_left (by rw [List.length_take]; omega), List.getElem?_take_of_lt h]
  · rw [List.getElem?_append_right (by rw [List.length_take]; omega), List.length_take, Nat.min_eq_left (by omega), List.getElem?_append_right (by simp; omega), List.getElem?_drop]
    congr 1
    simp
    omega
theorem chg_sqr {m : List (List Int)} {r : List Int} {k : Nat} (h : SqS m) (hl : r.length = m.length) (hk : k < m.length) : Sqr 3 (chg m r k) := by
  obtain ⟨h1, h2, h3, h4⟩ := h
  refine ⟨by rw [chg_len m r k hl]; exact h1, by rw [chg_len m r k hl]; exact h2, fun q hq => ?_, k, fun q hq j hj => ?_⟩
  · obtain ⟨row, hr, v, rfl⟩ := chg_row hq
    have := h3 row hr
    rw [chg_len m r k hl]
    simp only [List.length_append, List.length_take, List.length_drop, List.length_cons, List.length_nil]
    omega
  · obtain ⟨row, hr, v, rfl⟩ := chg_row hq
    have := h3 row hr
    rw [chg_getD (by omega) hj]
    exact sm_getD (h4 row hr) j
def prT (z : List Int × Int) : PyData := .tuple [tI z.1, .int z.2]
theorem zip_rows : ∀ (m : List (List Int)) (r : List Int), zipD (m.map tI) (r.map .int) = (m.zip r).map prT
  | [], _ => rfl
  | _ :: _, [] => rfl
  | x :: a, y :: b => by
    show PyData.tuple [tI x, .int y] :: zipD (a.map tI) (b.map .int) = _
    rw [zip_rows a b]
    rfl
theorem ok_cramer {f1 f2 : Addr} {fd1 fd2 : FuncData} (G : Fun K "cramer" "cramer" (topS 13) f fd)
    (G1 : FnD P w K mg base 2 f1 fd1 ["rows"] 1 (fun ds => ∃ m, ds = [.list (m.map tI)] ∧ Sqr 3 m) F_det) (hm1 : mg "determinant" = some (.ref f1)) (hk1 : PySem.W.keepIn K (.ref f1) = true) (hb1 : Binds K fd1 ["rows"] [])
    (G2 : FnD P w K mg base 2 f2 fd2 ["numerator", "denominator"] 2 (fun ds => ∃ a b : Int, ds = [.int a, .int b] ∧ b ≠ 0 ∧ b.natAbs < 1073741824) F_reduced) (hm2 : mg "reduced" = some (.ref f2)) (hk2 : PySem.W.keepIn K (.ref f2) = true) (hb2 : Binds K fd2 ["numerator", "denominator"] [])
    (mt : mg "tuple" = none) (ml : mg "len" = none) (mr : mg "range" = none) (mz : mg "zip" = none) :
    FnD P w K mg base 3 f fd ["rows", "right"] 2 (fun ds => ∃ (m : List (List Int)) (r : List Int), ds = [.list (m.map tI), .list (r.map .int)] ∧ SqS m ∧ r.length = m.length ∧ dt m ≠ 0 ∧ (dt m).natAbs < 1073741824) F_cramer := by
  refine fn_data G sc_cramer rfl (fun ds h => ?_) (fun A ds hr h => ?_)
  · obtain ⟨m, r, rfl, _⟩ := h; rfl
  · obtain ⟨m, r, rfl, hm, hl, hd0, hd1⟩ := h
    rw [F_cramer_rows]
    have hm3 : m.length ≤ 3 := hm.2.1
    refine sx_parOwn 2 3 sc_cramer.nd (ev_call G1 hr hm1 hk1 hb1 (av_cons (ex_name 0) ea_nil) ⟨m, rfl, hm.sqr⟩) (fun _ => rfl) fun d e => ?_
    subst e
    rw [F_det_rows]
    refine sx_for (ei_range1 (n := (m.length : Int)) mr (EV.is (ev_lenL (ds := m.map tI) ml (ex_name 0)) (by rw [List.length_map])) (by omega) (by omega)) fun ds e => ?_
    subst e
    refine ⟨fun k ρ' => ∃ o4 o5, ρ' = [some (.im (.list (m.map tI))), some (.im (.list (r.map .int))), some (.im (.int (dt m))), some (.ow (((List.range k).map fun k => red (dt (chg m r k)) (dt m)).map tR)), o4, o5, none, none], ⟨none, none, rfl⟩, fun k x ρ' hk h => ?_, fun ρ' h => ?_⟩
    · obtain ⟨o4, o5, rfl⟩ := h
      obtain ⟨hk3, rfl⟩ := rgD_get hk
      have hk3 : k < m.length := by simpa using hk3
      rw [Int.zero_add]
      refine ⟨_, _, tgt_name 4 sc_cramer.nd, ?_⟩
      refine sx_setLc (T := fun d => d = .list ((chg m r k).map tI)) 5 [("row", 6), ("value", 7)] sc_cramer.nd (ei_zipL (xs := m.map tI) (ys := r.map .int) mz (ex_name 0) (ex_name 1) (by rw [List.length_map, List.length_map, hl])) (fun ds e => ?_) fun d e => ?_
      · refine turns_map (xs := m.zip r) (enc := prT) (f := fun z => tI (z.1.take k ++ ([z.2] ++ z.1.drop (k + 1)))) (by rw [e]; exact zip_rows m r) ?_ (fun z hz => ⟨_, _, tgt_tup2 6 7 sc_cramer.nd, by decide, ?_⟩) ?_
        · rw [List.length_zip]
          exact Nat.le_trans (Nat.min_le_left _ _) (Nat.le_trans hm3 (by decide))
        · have hz1 : z.1.length ≤ 3 := by
            have := hm.2.2.1 z.1 (List.of_mem_zip hz).1
            omega
          refine EV.is (ev_catT (ev_catT (ds := (z.1.map .int).take k) (es := [.int z.2]) (ev_toT (ds := z.1.map .int) (ex_name 6) (ex_name 4)) (ev_tup (av_cons (ex_name 7) ea_nil)) ?_) (ev_fromT (k := k + 1) (ds := z.1.map .int) (ex_name 6) (EV.is (ev_add (ex_name 4) ex_int) rfl)) ?_) ?_
          · have : (1000 : Nat) ≤ sizeLine := by decide
            simp only [List.length_take, List.length_map, List.length_cons, List.length_nil]
            omega
          · have : (1000 : Nat) ≤ sizeLine := by decide
            simp only [List.length_take, List.length_map, List.length_cons, List.length_nil, List.length_append, List.length_drop]
            omega
          · unfold tI
            rw [List.map_append, List.map_append, List.map_take, List.map_drop, List.append_assoc]
            rfl
        · show PyData.list _ = PyData.list _
          congr 1
          unfold chg
          rw [List.zip, List.map_zipWith, List.map_zipWith]
      · subst e
        refine sx_app 3 (ev_call G2 hr hm2 hk2 hb2 (av_cons (EV.is (ev_call G1 hr hm1 hk1 hb1 (av_cons (ex_name 5) ea_nil) ⟨chg m r k, rfl, chg_sqr hm hl hk3⟩) (F_det_rows _)) (av_cons (ex_name 2) ea_nil)) ⟨_, _, rfl, hd0, hd1⟩) ?_ fun d e => ?_
        · have : (1000 : Nat) ≤ sizeLine := by decide
          simp only [List.length_map, List.length_range]
          omega
        · subst e
          exact sx_nil ⟨some (.im (.int (k : Int))), some (.im (.list ((chg m r k).map tI))), by rw [List.range_succ, List.map_append, List.map_append]; rfl⟩
    · obtain ⟨o4, o5, rfl⟩ := h
      refine sx_freeze 3 (sx_ret (EV.is (ev_tupleL mt (ex_name 3)) ?_))
      rw [rgD_len]
      unfold cram
      simp
end
end Lp

/-! LpW: box_points, weights_of, is_kept, box_of, need_cone. -/
namespace Lp
open PySem PySem.Spec L2

abbrev N_boxp : List Str := ["low", "high", "found", "k", "p", "x"]
theorem sc_boxp : FnScope N_boxp ["low", "high"] (defScope (topS 15)) := ⟨rfl, rfl, rfl, by decide +kernel, rfl, by decide +kernel, by decide +kernel⟩

/-- the numbers from a to b -/
def upTo (a b : Int) : List Int := (List.range (b + 1 - a).toNat).map fun (i : Nat) => a + (i : Int)
theorem mem_upTo {a b x : Int} : x ∈ upTo a b ↔ a ≤ x ∧ x ≤ b := by
  unfold upTo
  rw [List.mem_map]
  constructor
  · rintro ⟨i, hi, rfl⟩
    rw [List.mem_range] at hi
    omega
  · intro h
    exact ⟨(x - a).toNat, by rw [List.mem_range]; omega, by omega⟩
theorem upTo_len (a b : Int) : (upTo a b).length = (b + 1 - a).toNat := by unfold upTo; rw [List.length_map, List.length_range]
theorem rgD_upTo (a b : Int) : rgD a (b + 1 - a).toNat = (upTo a b).map .int := by
  unfold rgD upTo
  rw [List.map_map]
  rfl
/-- the points of a box, k axes of them -/
def boxT (lo hi : List Int) : Nat → List (List Int)
  | 0 => [[]]
  | k + 1 => (boxT lo hi k).flatMap fun p => (upTo (lo.getD k 0) (hi.getD k 0)).map fun x => p ++ [x]
theorem boxT_len {lo hi : List Int} {c : Nat} (h : ∀ k, (upTo (lo.getD k 0) (hi.getD k 0)).length ≤ c) : ∀ k, (boxT lo hi k).length ≤ c ^ k
  | 0 => by simp [boxT]
  | k + 1 => by
    show ((boxT lo hi k).flatMap _).length ≤ _
    rw [List.length_flatMap]
    have : ∀ l : List (List Int), (l.map fun p => ((upTo (lo.getD k 0) (hi.getD k 0)).map fun x => p ++ [x]).length).sum ≤ l.length * c := by
      intro l
      induction l with
      | nil => simp
      | cons p l ih =>
        simp only [List.map_cons, List.sum_cons, List.length_map, List.length_cons] at ih ⊢
        have := h k
        rw [Nat.add_mul, Nat.one_mul]
        omega
    refine Nat.le_trans (this _) ?_
    rw [Nat.pow_succ]
    exact Nat.mul_le_mul_right _ (boxT_len h k)
theorem mem_boxT {lo hi : List Int} : ∀ {k : Nat} {p : List Int}, p ∈ boxT lo hi k ↔ p.length = k ∧ ∀ j, j < k → lo.getD j 0 ≤ p.getD j 0 ∧ p.getD j 0 ≤ hi.getD j 0
  | 0, p => by
    show p ∈ [[]] ↔ _
    rw [List.mem_singleton, ← List.length_eq_zero_iff]
    constructor
    · intro h
      exact ⟨h, fun j hj => absurd hj (Nat.not_lt_zero _)⟩
    · exact fun h => h.1
  | k + 1, p => by
    show p ∈ (boxT lo hi k).flatMap _ ↔ _
    rw [List.mem_flatMap]
    constructor
    · rintro ⟨q, hq, hp⟩
      obtain ⟨x, hx, rfl⟩ := List.mem_map.mp hp
      obtain ⟨hl, hj⟩ := mem_boxT.mp hq
      refine ⟨by rw [List.length_append, hl]; rfl, fun j h => ?_⟩
      rw [List.getD_eq_getElem?_getD (l := q ++ [x])]
      by_cases e : j < k
      · rw [List.getElem?_append_left (by omega), ← List.getD_eq_getElem?_getD]
        exact hj j e
      · have : j = k := by omega
        subst this
        rw [List.getElem?_append_right (by omega), hl, Nat.sub_self]
        exact mem_upTo.mp hx
    · rintro ⟨hl, hj⟩
      have hne : p ≠ [] := fun z => by rw [z] at hl; cases hl
      have hd : (p.dropLast).length = k := by rw [List.length_dropLast, hl]; rfl
      have hpe : p.dropLast ++ [p.getLast hne] = p := List.dropLast_concat_getLast hne
      have hk : p.getD k 0 = p.getLast hne := by
        rw [List.getD_eq_getElem?_getD]
        conv => lhs; rw [← hpe]
        rw [List.getElem?_append_right (by omega), hd, Nat.sub_self]
        rfl
      refine ⟨p.dropLast, mem_boxT.mpr ⟨hd, fun j h => ?_⟩, List.mem_map.mpr ⟨p.getLast hne, ?_, hpe⟩⟩
      · have := hj j (by omega)
        rw [List.getD_eq_getElem?_getD (l := p.dropLast), List.getElem?_dropLast, if_pos (by omega), ← List.getD_eq_getElem?_getD]
        exact this
      · rw [mem_upTo, ← hk]
        exact hj k (by omega)
def F_boxp : List PyData → PyData
  | [.list lo, .list hi] => .list ((boxT (lo.map unI) (hi.map unI) lo.length).map tI)
  | _ => .none
theorem F_boxp_ints (lo hi : List Int) : F_boxp [.list (lo.map .int), .list (hi.map .int)] = .list ((boxT lo hi lo.length).map tI) := by
  show PyData.list ((boxT ((lo.map PyData.int).map unI) ((hi.map PyData.int).map unI) (lo.map PyData.int).length).map tI) = _
  rw [unI_ints, unI_ints, List.length_map]
theorem size250 : ∀ k, k ≤ 3 → 250 ^ k ≤ sizeLine := by
  intro k h
  have : (250 : Nat) ^ k ≤ 250 ^ 3 := Nat.pow_le_pow_right (by decide) h
  have : (250 : Nat) ^ 3 ≤ sizeLine := by decide +kernel
  omega
section
variable {P : Program} {w : World} {K : PySem.W.Frag} {mg : Str → Option Value} {base : Heap} {f : Addr} {fd : FuncData}
theorem ok_boxp (G : Fun K "box_points" "box_points" (topS 15) f fd) (ml : mg "len" = none) (mr : mg "range" = none) :
    FnD P w K mg base 1 f fd ["low", "high"] 2 (fun ds => ∃ lo hi : List Int, ds = [.list (lo.map .int), .list (hi.map .int)] ∧ lo.length ≤ 3 ∧ hi.length = lo.length ∧ ∀ k : Nat, -1000 ≤ lo.getD k 0 ∧ lo.getD k 0 ≤ 1000 ∧ -1000 ≤ hi.getD k 0 ∧ hi.getD k 0 ≤ 1000 ∧ hi.getD k 0 < lo.getD k 0 + 250) F_boxp := by
  refine fn_data G sc_boxp rfl (fun ds h => ?_) (fun A ds hr h => ?_)
  · obtain ⟨lo, hi, rfl, _⟩ := h; rfl
  · obtain ⟨lo, hi, rfl, h3, hl, hb⟩ := h
    rw [F_boxp_ints]
    have hc : ∀ k, (upTo (lo.getD k 0) (hi.getD k 0)).length ≤ 250 := fun k => by
      rw [upTo_len]
      have := hb k
      omega
    refine sx_set 2 sc_boxp.nd (ev_lst (av_cons (ev_tup ea_nil) ea_nil)) fun d e => ?_
    subst e
    refine sx_for (ei_range1 (n := (lo.length : Int)) mr (EV.is (ev_lenL (ds := lo.map .int) ml (ex_name 0)) (by rw [List.length_map])) (by omega) (by omega)) fun ds e => ?_
    subst e
    refine ⟨fun k ρ' => ∃ o3, ρ' = [some (.im (.list (lo.map .int))), some (.im (.list (hi.map .int))), some (.im (.list ((boxT lo hi k).map tI))), o3, none, none], ⟨none, rfl⟩, fun k x ρ' hk h => ?_, fun ρ' h => ?_⟩
    · obtain ⟨o3, rfl⟩ := h
      obtain ⟨hk3, rfl⟩ := rgD_get hk
      have hk3 : k < lo.length := by simpa using hk3
      rw [Int.zero_add]
      refine ⟨_, _, tgt_name 3 sc_boxp.nd, ?_⟩
      refine sx_setLc2 (T := fun d => d = .list ((boxT lo hi (k + 1)).map tI)) 2 [("p", 4), ("x", 5)] [5] sc_boxp.nd (ei_list (S := fun ds => ds = (boxT lo hi k).map tI) ((ex_name 2).weak fun d e => ⟨_, e, rfl⟩)) (fun ds e => ?_) fun d e => ?_
      · subst e
        have hlen : ∀ i, (((boxT lo hi k).take i).flatMap fun p => (upTo (lo.getD k 0) (hi.getD k 0)).map fun x => p ++ [x]).length ≤ (boxT lo hi (k + 1)).length := fun i => by
          show _ ≤ ((boxT lo hi k).flatMap fun p => (upTo (lo.getD k 0) (hi.getD k 0)).map fun x => p ++ [x]).length
          conv => rhs; rw [← List.take_append_drop i (boxT lo hi k)]
          rw [List.flatMap_append, List.length_append]
          omega
        have hcap : (boxT lo hi (k + 1)).length ≤ sizeLine := Nat.le_trans (boxT_len hc (k + 1)) (size250 _ (by omega))
        refine ⟨fun i acc => acc = (((boxT lo hi k).take i).flatMap fun p => (upTo (lo.getD k 0) (hi.getD k 0)).map fun x => p ++ [x]).map tI, rfl, fun i d acc hd hacc => ?_, fun acc hacc => ?_⟩
        · rw [List.getElem?_map] at hd
          cases hx : (boxT lo hi k)[i]? with
          | none => rw [hx] at hd; cases hd
          | some p =>
            rw [hx] at hd
            have e : tI p = d := Option.some.inj hd
            subst e
            refine ⟨_, _, _, tgt_name 4 sc_boxp.nd, by decide, ?_, ei_range2 (lo := lo.getD k 0) (n := hi.getD k 0 + 1) mr (ev_ixL (ds := lo.map .int) (ex_name 0) (ex_name 3) (getI hk3)) (ev_add (ev_ixL (ds := hi.map .int) (ex_name 1) (ex_name 3) (getI (by omega))) ex_int) ?_, fun es e => ?_⟩
            · exact fun j ds => by
                match j with
                | 0 | 1 | 2 | 3 | 4 | 5 => exact fun z => by cases z
                | j + 6 => exact fun z => by cases z
            · have := hb k
              omega
            · subst e
              rw [rgD_upTo]
              have hpl : p.length ≤ 3 := by
                have := (mem_boxT.mp (List.mem_of_getElem? hx)).1
                omega
              refine ⟨fun j acc' => acc' = acc ++ (((upTo (lo.getD k 0) (hi.getD k 0)).take j).map fun x => tI (p ++ [x])), by simp, fun j d acc' hd' hacc' => ?_, fun acc' hacc' => ?_⟩
              · rw [List.getElem?_map] at hd'
                cases hy : (upTo (lo.getD k 0) (hi.getD k 0))[j]? with
                | none => rw [hy] at hd'; cases hd'
                | some x =>
                  rw [hy] at hd'
                  have e : PyData.int x = d := Option.some.inj hd'
                  subst e
                  refine ⟨_, _, tgt_name 5 sc_boxp.nd, by decide, (ev_catT (ds := p.map .int) (es := [.int x]) (ex_name 4) (ev_tup (av_cons (ex_name 5) ea_nil)) ?_).weak fun d e => ⟨?_, ?_⟩⟩
                  · have : (1000 : Nat) ≤ sizeLine := by decide
                    rw [List.length_map, List.length_cons, List.length_nil]
                    omega
                  · have h1 := hlen (i + 1)
                    rw [List.take_add_one, hx, List.flatMap_append, List.length_append] at h1
                    simp only [Option.toList, List.flatMap_cons, List.flatMap_nil, List.append_nil, List.length_map] at h1
                    have hjl := (List.getElem?_eq_some_iff.mp hy).1
                    rw [hacc', hacc, List.length_append, List.length_map, List.length_map, List.length_take]
                    omega
                  · show _ = acc ++ ((upTo (lo.getD k 0) (hi.getD k 0)).take (j + 1)).map fun x => tI (p ++ [x])
                    rw [hacc', e, List.take_add_one, hy, List.map_append, List.append_assoc]
                    show _ = acc ++ (_ ++ [tI (p ++ [x])])
                    congr 3
                    unfold tI
                    rw [List.map_append]
                    rfl
              · show acc' = _
                rw [hacc', hacc, List.length_map, List.take_length, List.take_add_one, hx, List.flatMap_append, List.map_append]
                congr 1
                simp only [Option.toList, List.flatMap_cons, List.flatMap_nil, List.append_nil, List.map_map]
                rfl
        · show PyData.list acc = _
          rw [hacc, List.length_map, List.take_length]
          rfl
      · subst e
        exact sx_nil ⟨some (.im (.int (k : Int))), rfl⟩
    · obtain ⟨o3, rfl⟩ := h
      refine sx_ret (EV.is (ex_name 2) ?_)
      rw [rgD_len]
      rfl
end
end Lp

/-! LpX: weights_of, is_kept. -/
namespace Lp
open PySem PySem.Spec L2

theorem le_size {n : Nat} (h : n ≤ 1000) : n ≤ sizeLine := Nat.le_trans h (by decide)
/-! ### data that may be asked for equality -/
def Shp (n : Nat) (d : PyData) : Prop := d.canLay0 = true ∧ d.depth ≤ n
theorem shp_int {i : Int} : Shp 1 (.int i) := ⟨by simp [PyData.canLay0], by simp [PyData.depth]⟩
theorem shp_bool {b : Bool} : Shp 1 (.bool b) := ⟨by simp [PyData.canLay0], by simp [PyData.depth]⟩
theorem shp_all {n : Nat} : ∀ {ds : List PyData}, (∀ d ∈ ds, Shp n d) → PyData.canLayAll0 ds = true ∧ PyData.depthAll ds ≤ n
  | [], _ => ⟨rfl, Nat.zero_le _⟩
  | d :: ds, h => by
    obtain ⟨h1, h2⟩ := shp_all fun x hx => h x (List.mem_cons_of_mem _ hx)
    obtain ⟨h3, h4⟩ := h d List.mem_cons_self
    refine ⟨by simp only [PyData.canLayAll0, h3, h1, Bool.and_self], ?_⟩
    simp only [PyData.depthAll]
    omega
theorem shp_list {n : Nat} {ds : List PyData} (h : ∀ d ∈ ds, Shp n d) : Shp (n + 1) (.list ds) := by
  obtain ⟨h1, h2⟩ := shp_all h
  exact ⟨by simp only [PyData.canLay0, h1], by simp only [PyData.depth]; omega⟩
theorem shp_tup {n : Nat} {ds : List PyData} (h : ∀ d ∈ ds, Shp n d) : Shp (n + 1) (.tuple ds) := by
  obtain ⟨h1, h2⟩ := shp_all h
  exact ⟨by simp only [PyData.canLay0, h1], by simp only [PyData.depth]; omega⟩
theorem Shp.shaped {n : Nat} {d : PyData} (h : Shp n d) (hn : n ≤ 64 := by decide) : SeqAt.shaped d = true := by
  unfold SeqAt.shaped
  rw [h.1, Bool.true_and, decide_eq_true_eq]
  exact Nat.le_trans h.2 hn
theorem shp_ints {ns : List Int} {d : PyData} (h : d ∈ ns.map PyData.int) : Shp 1 d := by
  obtain ⟨i, _, rfl⟩ := List.mem_map.mp h
  exact shp_int
theorem shp_tI (a : List Int) : Shp 2 (tI a) := shp_tup fun _ h => shp_ints h
theorem shp_tIs {m : List (List Int)} {d : PyData} (h : d ∈ m.map tI) : Shp 2 d := by
  obtain ⟨i, _, rfl⟩ := List.mem_map.mp h
  exact shp_tI i
theorem eqv_nil {ds : List PyData} : PyData.eqv (.list ds) (.list []) = ds.isEmpty := by cases ds <;> simp [PyData.eqv, PyData.eqvAll]
theorem eqv_tI (a b : List Int) : PyData.eqv (tI a) (tI b) = decide (a = b) := by
  show PyData.eqvAll _ _ = _
  exact LpSort.eqv_ints a b
/-- a list asked whether it is empty -/
theorem tv_nil {F : Fx} {ρ : Dn} {e : Expr} {ds : List PyData} {p1 p2 : Pos} {n : Nat} (hu : F.A.units + 200 < cLine) (h : EV F ρ e (.list ds)) (hs : ∀ d ∈ ds, Shp n d) (hn : n + 1 ≤ 64 := by decide) : TV F ρ (.Compare e [.Eq] [.List [] p1] p2) ds.isEmpty :=
  TV.is (tv_eqD hu h (ev_lst ea_nil) ((shp_list hs).shaped hn) shaped_nil) eqv_nil
theorem ev_nil {F : Fx} {ρ : Dn} {e : Expr} {ds : List PyData} {p1 p2 : Pos} {n : Nat} (hu : F.A.units + 200 < cLine) (h : EV F ρ e (.list ds)) (hs : ∀ d ∈ ds, Shp n d) (hn : n + 1 ≤ 64 := by decide) : EV F ρ (.Compare e [.Eq] [.List [] p1] p2) (.bool ds.isEmpty) :=
  EV.is (ev_eqD hu h (ev_lst ea_nil) ((shp_list hs).shaped hn) shaped_nil) (by rw [eqv_nil])

/-! ### a list or a tuple -/
section
variable {F : Fx} {ρ : Dn} {e : Expr} {p pos : Pos} {b : Bool} {ds : List PyData}
theorem ei_sq {tg : Expr} (h : EV F ρ e (sq b ds)) : EI F ρ tg e (fun x => x = ds) := by
  cases b
  · exact ei_list (S := fun x => x = ds) (h.weak fun d e => ⟨_, e, rfl⟩)
  · exact ei_tup (S := fun x => x = ds) (h.weak fun d e => ⟨_, e, rfl⟩)
theorem ev_lenS (hm : F.mg "len" = none) (h : EV F ρ e (sq b ds)) (hg : F.sc.names.lookup ("len" : Str) = some .globalImplicit := by rfl) (he : ∀ v, starEach [e] (F.cx v).env = (false, eval e (F.cx v).env) :: starEach [] (F.cx v).env := by intro _; rfl) : EV F ρ (.Call (.Name "len" p) [e] [] pos) (.int (ds.length : Int)) := by
  cases b
  · exact ev_lenL hm h hg he
  · exact ev_lenT hm h hg he
theorem ev_listS (hm : F.mg "list" = none) (h : EV F ρ e (sq b ds)) (hg : F.sc.names.lookup ("list" : Str) = some .globalImplicit := by rfl) (he : ∀ v, starEach [e] (F.cx v).env = (false, eval e (F.cx v).env) :: starEach [] (F.cx v).env := by intro _; rfl) : EV F ρ (.Call (.Name "list" p) [e] [] pos) (.list ds) := by
  cases b
  · exact ev_listL hm h hg he
  · exact ev_listT hm h hg he
theorem ev_tupleS (hm : F.mg "tuple" = none) (h : EV F ρ e (sq b ds)) (hg : F.sc.names.lookup ("tuple" : Str) = some .globalImplicit := by rfl) (he : ∀ v, starEach [e] (F.cx v).env = (false, eval e (F.cx v).env) :: starEach [] (F.cx v).env := by intro _; rfl) : EV F ρ (.Call (.Name "tuple" p) [e] [] pos) (.tuple ds) := by
  cases b
  · exact ev_tupleL hm h hg he
  · exact ev_tupleT hm h hg he
theorem ev_ixS {a i : Expr} {k : Int} {x : PyData} (ha : EV F ρ a (sq b ds)) (hb : EV F ρ i (.int k)) (h : atI ds k = some x) (hs : PlainIx i := by exact fun _ _ => rfl) : EV F ρ (.Subscript a i pos) x := by
  cases b
  · exact ev_ixL ha hb h hs
  · exact ev_ixT ha hb h hs
theorem ev_toS {hi : Expr} {p2 : Pos} {k : Nat} (he : EV F ρ e (sq b ds)) (hk : EV F ρ hi (.int (k : Int))) : EV F ρ (.Subscript e (.Slice none (some hi) none p2) pos) (sq b (ds.take k)) := by
  cases b
  · exact ev_toL he hk
  · exact ev_toT he hk
theorem ev_fromS {lo : Expr} {p2 : Pos} {k : Nat} (he : EV F ρ e (sq b ds)) (hk : EV F ρ lo (.int (k : Int))) : EV F ρ (.Subscript e (.Slice (some lo) none none p2) pos) (sq b (ds.drop k)) := by
  cases b
  · exact ev_fromL he hk
  · exact ev_fromT he hk
end
theorem getT {m : List (List Int)} {k : Nat} (h : k < m.length) : atI (m.map tI) (k : Int) = some (tI (m.getD k [])) := by
  refine atI_nat ?_
  rw [List.getElem?_map, List.getElem?_eq_getElem h, List.getD_eq_getElem?_getD, List.getElem?_eq_getElem h]
  rfl

/-! ### weights_of -/
abbrev N_wts : List Str := ["vectors", "way", "size", "columns", "axis", "one"]
theorem sc_wts : FnScope N_wts ["vectors", "way"] (defScope (topS 20)) := ⟨rfl, rfl, rfl, by decide +kernel, rfl, by decide +kernel, by decide +kernel⟩
abbrev N_kept : List Str := ["weight", "is_open"]
theorem sc_kept : FnScope N_kept ["weight", "is_open"] (defScope (topS 21)) := ⟨rfl, rfl, rfl, by decide +kernel, rfl, by decide +kernel, by decide +kernel⟩
def cols (V : List (List Int)) : List (List Int) := (List.range V.length).map fun a => V.map fun v => v.getD a 0
def wts (V : List (List Int)) (p : List Int) : List (Int × Int) := (List.range V.length).map fun k => red (dt (V.set k p)) (dt V)
/-- square, of 1 to 3 rows -/
def Squ (V : List (List Int)) : Prop := 1 ≤ V.length ∧ V.length ≤ 3 ∧ ∀ v ∈ V, v.length = V.length
theorem SqS.squ {V : List (List Int)} (h : SqS V) : Squ V := ⟨h.1, h.2.1, h.2.2.1⟩
/-- a square is one of these -/
theorem Squ.cases {C : List (List Int) → Prop} (h1 : ∀ a, C [[a]]) (h2 : ∀ a b c d, C [[a, b], [c, d]]) (h3 : ∀ a b c d e f g h i, C [[a, b, c], [d, e, f], [g, h, i]]) {V : List (List Int)} (h : Squ V) : C V := by
  obtain ⟨l1, l3, hr⟩ := h
  obtain e | e | e : V.length = 1 ∨ V.length = 2 ∨ V.length = 3 := by omega
  · obtain ⟨r, rfl⟩ := len1 e
    obtain ⟨a, rfl⟩ := len1 (hr r (by simp))
    exact h1 a
  · obtain ⟨r, q, rfl⟩ := len2 e
    obtain ⟨a, b, rfl⟩ := len2 (hr r (by simp))
    obtain ⟨c, d, rfl⟩ := len2 (hr q (by simp))
    exact h2 a b c d
  · obtain ⟨r, q, s, rfl⟩ := len3 e
    obtain ⟨a, b, c, rfl⟩ := len3 (hr r (by simp))
    obtain ⟨d, e', f, rfl⟩ := len3 (hr q (by simp))
    obtain ⟨g, h, i, rfl⟩ := len3 (hr s (by simp))
    exact h3 ..
/-- a square and a point -/
theorem Squ.cases1 {C : List (List Int) → List Int → Prop} (h1 : ∀ a x, C [[a]] [x]) (h2 : ∀ a b c d x y, C [[a, b], [c, d]] [x, y]) (h3 : ∀ a b c d e f g h i x y z, C [[a, b, c], [d, e, f], [g, h, i]] [x, y, z]) {V : List (List Int)} {p : List Int} (h : Squ V) (hp : p.length = V.length) : C V p := by
  refine Squ.cases (C := fun V => p.length = V.length → C V p) (fun a e => ?_) (fun a b c d e => ?_) (fun a b c d e f g h i e => ?_) h hp
  · obtain ⟨x, rfl⟩ := len1 e
    exact h1 ..
  · obtain ⟨x, y, rfl⟩ := len2 e
    exact h2 ..
  · obtain ⟨x, y, z, rfl⟩ := len3 e
    exact h3 ..
theorem dt_cols {V : List (List Int)} (h : Squ V) : dt (cols V) = dt V := by
  refine Squ.cases (C := fun V => dt (cols V) = dt V) (fun a => rfl) (fun a b c d => ?_) (fun a b c d e f g h i => ?_) h
  · show a * d - c * b = a * d - b * c
    grind
  · show a * (e * i - h * f) - d * (b * i - h * c) + g * (b * f - e * c) = a * (e * i - f * h) - b * (d * i - f * g) + c * (d * h - e * g)
    grind
theorem chg_cols {V : List (List Int)} {p : List Int} (h : Squ V) (hp : p.length = V.length) : ∀ k, k < V.length → chg (cols V) p k = cols (V.set k p) := by
  refine Squ.cases1 (C := fun V p => ∀ k, k < V.length → chg (cols V) p k = cols (V.set k p)) (fun a x k hk => ?_) (fun a b c d x y k hk => ?_) (fun a b c d e f g h i x y z k hk => ?_) h hp
  · obtain rfl : k = 0 := by simpa using hk
    rfl
  · obtain rfl | rfl : k = 0 ∨ k = 1 := by have : k < 2 := hk; omega
    · rfl
    · rfl
  · obtain rfl | rfl | rfl : k = 0 ∨ k = 1 ∨ k = 2 := by have : k < 3 := hk; omega
    · rfl
    · rfl
    · rfl
theorem Squ.set {V : List (List Int)} {p : List Int} (h : Squ V) (hp : p.length = V.length) (k : Nat) : Squ (V.set k p) := by
  refine ⟨by rw [List.length_set]; exact h.1, by rw [List.length_set]; exact h.2.1, fun v hv => ?_⟩
  rw [List.length_set]
  rcases List.mem_or_eq_of_mem_set hv with hv | rfl
  · exact h.2.2 v hv
  · exact hp
theorem cram_cols {V : List (List Int)} {p : List Int} (h : Squ V) (hp : p.length = V.length) : cram (cols V) p = wts V p := by
  unfold cram wts
  have hl : (cols V).length = V.length := by unfold cols; rw [List.length_map, List.length_range]
  rw [hl, dt_cols h]
  refine List.map_congr_left fun k hk => ?_
  rw [chg_cols h hp k (List.mem_range.mp hk), dt_cols (h.set hp k)]
theorem sqS_cols {V : List (List Int)} (h : SqS V) : SqS (cols V) := by
  have hl : (cols V).length = V.length := by unfold cols; rw [List.length_map, List.length_range]
  refine ⟨by rw [hl]; exact h.1, by rw [hl]; exact h.2.1, fun r hr => ?_, fun r hr x hx => ?_⟩
  · obtain ⟨a, _, rfl⟩ := List.mem_map.mp hr
    rw [hl, List.length_map]
  · obtain ⟨a, _, rfl⟩ := List.mem_map.mp hr
    obtain ⟨v, hv, rfl⟩ := List.mem_map.mp hx
    exact sm_getD (h.2.2.2 v hv) a
def unTT : PyData → List (List Int)
  | .list xs => xs.map unT
  | .tuple xs => xs.map unT
  | _ => []
theorem unTT_sq (b : Bool) (V : List (List Int)) : unTT (sq b (V.map tI)) = V := by
  cases b
  · exact unTs V
  · exact unTs V
def F_wts : List PyData → PyData
  | [x, y] => .tuple ((wts (unTT x) (unT y)).map tR)
  | _ => .none
theorem F_wts_ints (b : Bool) (V : List (List Int)) (p : List Int) : F_wts [sq b (V.map tI), tI p] = .tuple ((wts V p).map tR) := by
  show PyData.tuple ((wts (unTT (sq b (V.map tI))) (unT (tI p))).map tR) = _
  rw [unTT_sq, unT_tI]
/-- what the weights ask -/
def WOk (V : List (List Int)) : Prop := SqS V ∧ dt V ≠ 0 ∧ (dt V).natAbs < 1073741824
section
variable {P : Program} {w : World} {K : PySem.W.Frag} {mg : Str → Option Value} {base : Heap} {f : Addr} {fd : FuncData}
theorem ok_wts {f1 : Addr} {fd1 : FuncData} (G : Fun K "weights_of" "weights_of" (topS 20) f fd)
    (G1 : FnD P w K mg base 3 f1 fd1 ["rows", "right"] 2 (fun ds => ∃ (m : List (List Int)) (r : List Int), ds = [.list (m.map tI), .list (r.map .int)] ∧ SqS m ∧ r.length = m.length ∧ dt m ≠ 0 ∧ (dt m).natAbs < 1073741824) F_cramer) (hm1 : mg "cramer" = some (.ref f1)) (hk1 : PySem.W.keepIn K (.ref f1) = true) (hb1 : Binds K fd1 ["rows", "right"] [])
    (mt : mg "tuple" = none) (ml : mg "len" = none) (mr : mg "range" = none) (mli : mg "list" = none) :
    FnD P w K mg base 4 f fd ["vectors", "way"] 2 (fun ds => ∃ (b : Bool) (V : List (List Int)) (p : List Int), ds = [sq b (V.map tI), tI p] ∧ WOk V ∧ p.length = V.length) F_wts := by
  refine fn_data G sc_wts rfl (fun ds h => ?_) (fun A ds hr h => ?_)
  · obtain ⟨b, V, p, rfl, _⟩ := h; rfl
  · obtain ⟨b, V, p, rfl, ⟨hV, hd0, hd1⟩, hp⟩ := h
    rw [F_wts_ints]
    have h3 := hV.2.1
    have hcl : (cols V).length = V.length := by unfold cols; rw [List.length_map, List.length_range]
    refine sx_set 2 sc_wts.nd (EV.is (ev_lenS (ds := V.map tI) ml (ex_name 0)) (d' := .int (V.length : Int)) (by rw [List.length_map])) fun d e => ?_
    subst e
    refine sx_setLc (T := fun d => d = .list ((cols V).map tI)) 3 [("axis", 4)] sc_wts.nd (ei_range1 (n := (V.length : Int)) mr (ex_name 2) (by omega) (by omega)) (fun ds e => ?_) fun d e => ?_
    · refine turns_map (xs := List.range V.length) (enc := fun i => .int (0 + (i : Int))) (f := fun a => tI (V.map fun v => v.getD a 0)) e (le_size (by rw [List.length_range]; omega)) (fun a ha => ⟨_, _, tgt_name 4 sc_wts.nd, by decide, ?_⟩) ?_
      · refine EV.is (ev_tupleL (ds := (V.map fun v => v.getD a 0).map .int) mt (ex_lc [("one", 5)] sc_wts.nd (ei_sq (b := b) (ds := V.map tI) (ex_name 0)) fun ds e => ?_)) rfl
        refine turns_map (xs := V) (enc := tI) (f := fun v => .int (v.getD a 0)) e (le_size (by omega)) (fun v hv => ⟨_, _, tgt_name 5 sc_wts.nd, by decide, ?_⟩) ?_
        · refine ev_ixT (ds := v.map .int) (ex_name 5) (ex_name 4) ?_
          rw [Int.zero_add]
          exact getI (by rw [hV.2.2.1 v hv]; exact List.mem_range.mp ha)
        · show PyData.list _ = PyData.list _
          rw [List.map_map]
          rfl
      · show PyData.list _ = PyData.list _
        unfold cols
        rw [List.map_map]
        rfl
    · subst e
      refine sx_ret (EV.is (ev_call G1 hr hm1 hk1 hb1 (av_cons (ex_name 3) (av_cons (ev_listT (ds := p.map .int) mli (ex_name 1)) ea_nil)) ⟨cols V, p, rfl, sqS_cols hV, by rw [hcl]; exact hp, by rw [dt_cols hV.squ]; exact hd0, by rw [dt_cols hV.squ]; exact hd1⟩) ?_)
      rw [F_cramer_rows, cram_cols hV.squ hp]

/-! ### is_kept, closed -/
def F_kept : List PyData → PyData
  | [.tuple [.int n, .int d], _] => .bool (decide (0 ≤ n) && decide (n < d))
  | _ => .none
theorem ok_kept (G : Fun K "is_kept" "is_kept" (topS 21) f fd) :
    FnD P w K mg base 1 f fd ["weight", "is_open"] 2 (fun ds => ∃ z : Int × Int, ds = [tR z, .bool false]) F_kept := by
  refine fn_data G sc_kept rfl (fun ds h => ?_) (fun A ds hr h => ?_)
  · obtain ⟨z, rfl⟩ := h; rfl
  · obtain ⟨z, rfl⟩ := h
    refine sx_ifF (tv_val (ex_name 1)) ?_
    exact sx_ret (EV.is (ev_chain (k := decide (0 ≤ z.1)) (k' := decide (z.1 < z.2)) (fun _ => op_le) (fun _ => op_lt) ex_int (ev_ixT (ds := [.int z.1, .int z.2]) (ex_name 0) ex_int rfl) (fun _ => ev_ixT (ds := [.int z.1, .int z.2]) (ex_name 0) ex_int rfl) rd_B0 fun _ => rd_B0) rfl)
end
end Lp

/-! LpY: box_of. -/
namespace Lp
open PySem PySem.Spec L2

abbrev N_boxof : List Str := ["cone", "apex", "vectors", "places", "size", "found", "low", "high", "way", "weights", "axis", "one", "k"]
theorem sc_boxof : FnScope N_boxof ["cone"] (defScope (topS 22)) := ⟨rfl, rfl, rfl, by decide +kernel, rfl, by decide +kernel, by decide +kernel⟩
def loV (V : List (List Int)) : List Int := (List.range V.length).map fun a => (V.map fun v => min 0 (v.getD a 0)).sum
def hiV (V : List (List Int)) : List Int := (List.range V.length).map fun a => (V.map fun v => max 0 (v.getD a 0)).sum
def kz (z : Int × Int) : Bool := decide (0 ≤ z.1) && decide (z.1 < z.2)
/-- the points of the box of vectors -/
def bx (V : List (List Int)) : List (List Int) := (boxT (loV V) (hiV V) V.length).filter fun p => (wts V p).all kz
def zer (n : Nat) : List Int := List.replicate n 0
theorem zer_add : ∀ (p : List Int), addV (zer p.length) p = p
  | [] => rfl
  | x :: p => by
    show (0 + x) :: addV (zer p.length) p = _
    rw [zer_add p, Int.zero_add]
def BOk (V : List (List Int)) : Prop := WOk V ∧ ∀ a : Nat, -1000 ≤ (loV V).getD a 0 ∧ (hiV V).getD a 0 ≤ 1000 ∧ (hiV V).getD a 0 < (loV V).getD a 0 + 250
theorem getR {W : List (Int × Int)} {k : Nat} (h : k < W.length) : atI (W.map tR) (k : Int) = some (tR (W.getD k (0, 0))) := by
  refine atI_nat ?_
  rw [List.getElem?_map, List.getElem?_eq_getElem h, List.getD_eq_getElem?_getD, List.getElem?_eq_getElem h]
  rfl
theorem wts_len (V : List (List Int)) (p : List Int) : (wts V p).length = V.length := by unfold wts; rw [List.length_map, List.length_range]
theorem all_getD {α : Type} {q : α → Bool} {z : α} : ∀ {W : List α} {n : Nat}, W.length = n → (((List.range n).filter fun k => !q (W.getD k z))).isEmpty = W.all q := by
  intro W n h
  subst h
  rw [Bool.eq_iff_iff, List.isEmpty_iff, List.filter_eq_nil_iff, List.all_eq_true]
  constructor
  · intro h x hx
    obtain ⟨k, hk⟩ := List.getElem?_of_mem hx
    have h1 := h k (List.mem_range.mpr (List.getElem?_eq_some_iff.mp hk).1)
    rw [List.getD_eq_getElem?_getD, hk] at h1
    simpa using h1
  · intro h k hk
    have hk := List.mem_range.mp hk
    have := h (W.getD k z) (by rw [List.getD_eq_getElem?_getD, List.getElem?_eq_getElem hk]; exact List.getElem_mem hk)
    rw [this]
    decide
theorem isEmpty_map {α β : Type} (f : α → β) (l : List α) : (l.map f).isEmpty = l.isEmpty := by cases l <;> rfl
def getV : List PyData → List (List Int)
  | [.tuple [_, v, _]] => unTT v
  | _ => []
def inBox : List PyData → Prop := fun ds => ∃ V, ds = [.tuple [tI (zer V.length), .tuple (V.map tI), .tuple []]] ∧ BOk V
def outBox : List PyData → PyData → Prop := fun ds d => ∃ l : List (List Int), d = .list (l.map tI) ∧ l.Perm (bx (getV ds))
/-- a tuple unpacked, told by its data -/
theorem sx_unp1 {F : Fx} {ρ ρ2 : Dn} {tg e : Expr} {d : PyData} {js : List Nat} {pos : Pos} {rest : List Stmt} {N : Dn → Prop} {R : PyData → Prop} (he : EV F ρ e d) (ht : TGT F ρ tg d ρ2 js) (k : SX F ρ2 rest N R)
    (hs : ∀ v, swapsWithSole [tg] e pos.line (F.cx v).env = pure false := by intro _; rfl) (hw : ∀ v, swappedStores [tg] e (F.cx v).env = pure none := by intro _; rfl) (h1 : ∀ v, (assignEach [tg] (F.cx v).env).map (·.2) = [assign tg (F.cx v).env] := by intro _; rfl) : SX F ρ (.Assign [tg] e pos :: rest) N R :=
  sx_unp (ρ2 := fun _ => ρ2) he (fun d' e => by subst e; exact ht) (fun _ _ => k) hs hw h1
section
variable {P : Program} {w : World} {K : PySem.W.Frag} {mg : Str → Option Value} {base : Heap} {f : Addr} {fd : FuncData}
theorem ok_boxof {f1 f2 f3 f4 : Addr} {fd1 fd2 fd3 fd4 : FuncData} (G : Fun K "box_of" "box_of" (topS 22) f fd)
    (G1 : FnD P w K mg base 4 f1 fd1 ["vectors", "way"] 2 (fun ds => ∃ (b : Bool) (V : List (List Int)) (p : List Int), ds = [sq b (V.map tI), tI p] ∧ WOk V ∧ p.length = V.length) F_wts) (hm1 : mg "weights_of" = some (.ref f1)) (hk1 : PySem.W.keepIn K (.ref f1) = true) (hb1 : Binds K fd1 ["vectors", "way"] [])
    (G2 : FnD P w K mg base 1 f2 fd2 ["weight", "is_open"] 2 (fun ds => ∃ z : Int × Int, ds = [tR z, .bool false]) F_kept) (hm2 : mg "is_kept" = some (.ref f2)) (hk2 : PySem.W.keepIn K (.ref f2) = true) (hb2 : Binds K fd2 ["weight", "is_open"] [])
    (G3 : FnD P w K mg base 1 f3 fd3 ["low", "high"] 2 (fun ds => ∃ lo hi : List Int, ds = [.list (lo.map .int), .list (hi.map .int)] ∧ lo.length ≤ 3 ∧ hi.length = lo.length ∧ ∀ k : Nat, -1000 ≤ lo.getD k 0 ∧ lo.getD k 0 ≤ 1000 ∧ -1000 ≤ hi.getD k 0 ∧ hi.getD k 0 ≤ 1000 ∧ hi.getD k 0 < lo.getD k 0 + 250) F_boxp) (hm3 : mg "box_points" = some (.ref f3)) (hk3 : PySem.W.keepIn K (.ref f3) = true) (hb3 : Binds K fd3 ["low", "high"] [])
    (G4 : FnD P w K mg base 1 f4 fd4 ["one", "other"] 2 (fun ds => ∃ a b : List Int, ds = [tI a, tI b] ∧ a.length = b.length ∧ a.length ≤ 1000) F_more) (hm4 : mg "more" = some (.ref f4)) (hk4 : PySem.W.keepIn K (.ref f4) = true) (hb4 : Binds K fd4 ["one", "other"] [])
    (ml : mg "len" = none) (mr : mg "range" = none) (ms : mg "sum" = none) (mmi : mg "min" = none) (mma : mg "max" = none) (mso : mg "sorted" = none) :
    FnOk P w K mg base CX0 5 f fd ["cone"] (spR K 1 inBox outBox) := by
  refine fn_data G sc_boxof rfl (fun ds h => ?_) (fun A ds hr h => ?_)
  · obtain ⟨V, rfl, _⟩ := h; rfl
  · obtain ⟨V, rfl, ⟨hV, hd0, hd1⟩, hbd⟩ := h
    have h3 := hV.2.1
    have hlo : (loV V).length = V.length := by unfold loV; rw [List.length_map, List.length_range]
    have hhi : (hiV V).length = V.length := by unfold hiV; rw [List.length_map, List.length_range]
    have sgn : ∀ a : Nat, (loV V).getD a 0 ≤ 0 ∧ 0 ≤ (hiV V).getD a 0 := by
      intro a
      have s1 : ∀ l : List Int, (l.map fun x => min 0 x).sum ≤ 0 := by
        intro l
        induction l with
        | nil => decide
        | cons x l ih => simp only [List.map_cons, List.sum_cons]; omega
      have s2 : ∀ l : List Int, 0 ≤ (l.map fun x => max 0 x).sum := by
        intro l
        induction l with
        | nil => decide
        | cons x l ih => simp only [List.map_cons, List.sum_cons]; omega
      constructor
      · unfold loV
        rw [List.getD_eq_getElem?_getD, List.getElem?_map]
        cases (List.range V.length)[a]? with
        | none => exact Int.le_refl 0
        | some i =>
          have := s1 (V.map fun v => v.getD i 0)
          rw [List.map_map] at this
          exact this
      · unfold hiV
        rw [List.getD_eq_getElem?_getD, List.getElem?_map]
        cases (List.range V.length)[a]? with
        | none => exact Int.le_refl 0
        | some i =>
          have := s2 (V.map fun v => v.getD i 0)
          rw [List.map_map] at this
          exact this
    refine sx_unp1 (ex_name 0) (tgt_tup3 1 2 3 sc_boxof.nd) ?_
    refine sx_parOwn 4 5 sc_boxof.nd (EV.is (ev_lenT (ds := (zer V.length).map .int) ml (ex_name 1)) (d' := .int (V.length : Int)) (by rw [List.length_map]; unfold zer; rw [List.length_replicate])) (fun _ => rfl) fun d e => ?_
    subst e
    refine sx_setLc (T := fun d => d = .list ((loV V).map .int)) 6 [("axis", 10)] sc_boxof.nd (ei_range1 (n := (V.length : Int)) mr (ex_name 4) (by omega) (by omega)) (fun ds e => ?_) fun d e => ?_
    · refine turns_map (xs := List.range V.length) (enc := fun i => .int (0 + (i : Int))) (f := fun a => .int (V.map fun v => min 0 (v.getD a 0)).sum) e (le_size (by rw [List.length_range]; omega)) (fun a ha => ⟨_, _, tgt_name 10 sc_boxof.nd, by decide, ?_⟩) ?_
      · refine ev_sum ms (ex_lc [("one", 11)] sc_boxof.nd (ei_sq (b := true) (ds := V.map tI) (ex_name 2)) fun ds e => ?_)
        refine turns_map (xs := V) (enc := tI) (f := fun v => .int (min 0 (v.getD a 0))) e (le_size (by omega)) (fun v hv => ⟨_, _, tgt_name 11 sc_boxof.nd, by decide, ?_⟩) ?_
        · refine ev_min2 mmi ex_int (ev_ixT (ds := v.map .int) (ex_name 11) (ex_name 10) ?_)
          rw [Int.zero_add]
          exact getI (by rw [hV.2.2.1 v hv]; exact List.mem_range.mp ha)
        · show PyData.list _ = PyData.list _
          rw [List.map_map]
          rfl
      · show PyData.list _ = PyData.list _
        unfold loV
        rw [List.map_map]
        rfl
    subst e
    refine sx_setLc (T := fun d => d = .list ((hiV V).map .int)) 7 [("axis", 10)] sc_boxof.nd (ei_range1 (n := (V.length : Int)) mr (ex_name 4) (by omega) (by omega)) (fun ds e => ?_) fun d e => ?_
    · refine turns_map (xs := List.range V.length) (enc := fun i => .int (0 + (i : Int))) (f := fun a => .int (V.map fun v => max 0 (v.getD a 0)).sum) e (le_size (by rw [List.length_range]; omega)) (fun a ha => ⟨_, _, tgt_name 10 sc_boxof.nd, by decide, ?_⟩) ?_
      · refine ev_sum ms (ex_lc [("one", 11)] sc_boxof.nd (ei_sq (b := true) (ds := V.map tI) (ex_name 2)) fun ds e => ?_)
        refine turns_map (xs := V) (enc := tI) (f := fun v => .int (max 0 (v.getD a 0))) e (le_size (by omega)) (fun v hv => ⟨_, _, tgt_name 11 sc_boxof.nd, by decide, ?_⟩) ?_
        · refine ev_max2 mma ex_int (ev_ixT (ds := v.map .int) (ex_name 11) (ex_name 10) ?_)
          rw [Int.zero_add]
          exact getI (by rw [hV.2.2.1 v hv]; exact List.mem_range.mp ha)
        · show PyData.list _ = PyData.list _
          rw [List.map_map]
          rfl
      · show PyData.list _ = PyData.list _
        unfold hiV
        rw [List.map_map]
        rfl
    subst e
    have hcap : (boxT (loV V) (hiV V) V.length).length ≤ sizeLine := Nat.le_trans (boxT_len (c := 250) (fun k => by
      rw [upTo_len]
      have := hbd k
      omega) V.length) (size250 _ h3)
    refine sx_for (ei_list (S := fun ds => ds = (boxT (loV V) (hiV V) V.length).map tI) (EX.weak (EV.is (ev_call G3 (hr.mono (by decide)) hm3 hk3 hb3 (av_cons (ex_name 6) (av_cons (ex_name 7) ea_nil)) ⟨loV V, hiV V, rfl, by omega, by omega, fun k => ?_⟩) (F_boxp_ints _ _)) fun d e => ⟨_, e, by rw [hlo]⟩)) fun ds e => ?_
    · have := hbd k
      have := sgn k
      omega
    subst e
    refine ⟨fun i ρ' => ∃ o8 o9, ρ' = [some (.im (.tuple [tI (zer V.length), .tuple (V.map tI), .tuple []])), some (.im (tI (zer V.length))), some (.im (.tuple (V.map tI))), some (.im (.tuple [])), some (.im (.int (V.length : Int))), some (.ow ((((boxT (loV V) (hiV V) V.length).take i).filter fun p => (wts V p).all kz).map tI)), some (.im (.list ((loV V).map .int))), some (.im (.list ((hiV V).map .int))), o8, o9, none, none, none], ⟨none, none, rfl⟩, fun i d ρ' hd h => ?_, fun ρ' h => ?_⟩
    · obtain ⟨o8, o9, rfl⟩ := h
      rw [List.getElem?_map] at hd
      cases hx : (boxT (loV V) (hiV V) V.length)[i]? with
      | none => rw [hx] at hd; cases hd
      | some p =>
        rw [hx] at hd
        have e : tI p = d := Option.some.inj hd
        subst e
        have hpl : p.length = V.length := (mem_boxT.mp (List.mem_of_getElem? hx)).1
        have hil := (List.getElem?_eq_some_iff.mp hx).1
        refine ⟨_, _, tgt_name 8 sc_boxof.nd, ?_⟩
        refine sx_set 9 sc_boxof.nd (EV.is (ev_call G1 hr hm1 hk1 hb1 (av_cons (ex_name 2) (av_cons (ex_name 8) ea_nil)) ⟨true, V, p, rfl, ⟨hV, hd0, hd1⟩, hpl⟩) (F_wts_ints true V p)) fun d e => ?_
        subst e
        refine sx_if (M := fun ρ' => ρ' = [some (.im (.tuple [tI (zer V.length), .tuple (V.map tI), .tuple []])), some (.im (tI (zer V.length))), some (.im (.tuple (V.map tI))), some (.im (.tuple [])), some (.im (.int (V.length : Int))), some (.ow ((((boxT (loV V) (hiV V) V.length).take (i + 1)).filter fun p => (wts V p).all kz).map tI)), some (.im (.list ((loV V).map .int))), some (.im (.list ((hiV V).map .int))), some (.im (tI p)), some (.im (.tuple ((wts V p).map tR))), none, none, none])
          (T := fun t => t = (wts V p).all kz) (TV.is (tv_nil (n := 1) (ds := (((List.range V.length).filter fun k => !kz ((wts V p).getD k (0, 0))).map fun (k : Nat) => PyData.int (0 + (k : Int)))) (units_ok hr) (ex_lc [("k", 12)] sc_boxof.nd (ei_range1 (n := (V.length : Int)) mr (ex_name 4) (by omega) (by omega)) fun ds e => ?_) ?_) ?_) (fun t => ?_) (fun t => ?_) fun ρ' e => ?_
        · refine turns_filter (xs := List.range V.length) (enc := fun (i : Nat) => .int (0 + (i : Int))) (p := fun k => !kz ((wts V p).getD k (0, 0))) (f := fun (k : Nat) => .int (0 + (k : Int))) e (le_size (by rw [List.length_range]; omega)) (fun k hk => ⟨_, _, tgt_name 12 sc_boxof.nd, by decide, tv_not (tv_val (EV.is (ev_call G2 (hr.mono (by decide)) hm2 hk2 hb2 (av_cons (ev_ixT (ds := (wts V p).map tR) (x := tR ((wts V p).getD k (0, 0))) (ex_name 9) (ex_name 12) ?_) (av_cons (d := .bool false) (EV.is (ev_in (i := 0 + (k : Int)) (ns := []) (ex_name 12) (ex_name 3)) ?_) ea_nil)) ⟨_, rfl⟩) rfl)), fun _ => ex_name 12⟩) rfl
          · rw [Int.zero_add]
            exact getR (by rw [wts_len]; exact List.mem_range.mp hk)
          · simp
        · intro d hd
          obtain ⟨k, _, rfl⟩ := List.mem_map.mp hd
          exact shp_int
        · rw [isEmpty_map, all_getD (wts_len V p)]
        · have hcnt : ((((boxT (loV V) (hiV V) V.length).take i).filter fun p => (wts V p).all kz).map tI).length < sizeLine := by
            rw [List.length_map]
            have := List.length_filter_le (fun p => (wts V p).all kz) ((boxT (loV V) (hiV V) V.length).take i)
            rw [List.length_take] at this
            omega
          refine sx_app 5 (EV.is (ev_call G4 (hr.mono (by decide)) hm4 hk4 hb4 (av_cons (ex_name 1) (av_cons (ex_name 8) ea_nil)) ⟨zer V.length, p, rfl, by unfold zer; rw [List.length_replicate, hpl], by unfold zer; rw [List.length_replicate]; omega⟩) (d' := tI p) ?_) hcnt fun d e => ?_
          · rw [F_more_ints, ← hpl, zer_add]
          · subst e
            refine sx_nil ?_
            rw [List.take_add_one, hx, List.filter_append, List.map_append]
            show _ = [_, _, _, _, _, some (En.ow (_ ++ List.map tI (List.filter _ [p]))), _, _, _, _, _, _, _]
            rw [List.filter_cons_of_pos (by exact t.symm)]
            rfl
        · refine sx_nil ?_
          rw [List.take_add_one, hx, List.filter_append, List.map_append]
          show _ = [_, _, _, _, _, some (En.ow (_ ++ List.map tI (List.filter _ [p]))), _, _, _, _, _, _, _]
          rw [List.filter_cons_of_neg (by rw [← t]; decide)]
          simp only [List.filter_nil, List.map_nil, List.append_nil]
          rfl
        · subst e
          exact sx_nil ⟨_, _, rfl⟩
    · obtain ⟨o8, o9, rfl⟩ := h
      refine sx_freeze 5 (sx_ret (EX.weak (ex_sortT (nss := bx V) mso (EV.is (ex_name 5) ?_) ?_) ?_))
      · rw [List.length_map, List.take_length]
        rfl
      · intro p hp e
        have := (mem_boxT.mp (List.mem_filter.mp hp).1).1
        rw [e] at this
        have := hV.1
        simp only [List.length_nil] at *
        omega
      · rintro d ⟨l, rfl, hl⟩
        refine ⟨l, rfl, ?_⟩
        show l.Perm (bx (unTT (.tuple (V.map tI))))
        rw [show unTT (.tuple (V.map tI)) = V from unTs V]
        exact hl
end
end Lp

/-! LpZ: split_at, fine_parts. -/
namespace Lp
open PySem PySem.Spec L2

abbrev N_split : List Str := ["vectors", "way", "weights", "found", "k"]
theorem sc_split : FnScope N_split ["vectors", "way"] (defScope (topS 25)) := ⟨rfl, rfl, rfl, by decide +kernel, rfl, by decide +kernel, by decide +kernel⟩
abbrev N_fine : List Str := ["vectors", "apex", "box", "best", "found", "part", "p", "x"]
theorem sc_fine : FnScope N_fine ["vectors"] (defScope (topS 26)) := ⟨rfl, rfl, rfl, by decide +kernel, rfl, by decide +kernel, by decide +kernel⟩
def encV (V : List (List Int)) : PyData := .list (V.map tI)
/-- the parts of a cone at a way -/
def kids (V : List (List Int)) (q : List Int) : List (List (List Int)) := ((List.range V.length).filter fun k => decide (0 < ((wts V q).getD k (0, 0)).1)).map fun k => V.set k q
def F_split : List PyData → PyData
  | [x, y] => .list ((kids (unTT x) (unT y)).map encV)
  | _ => .none
theorem F_split_ints (b : Bool) (V : List (List Int)) (p : List Int) : F_split [sq b (V.map tI), tI p] = .list ((kids V p).map encV) := by
  show PyData.list ((kids (unTT (sq b (V.map tI))) (unT (tI p))).map encV) = _
  rw [unTT_sq, unT_tI]
theorem set_cut {α : Type} {V : List α} {k : Nat} {q : α} (h : k < V.length) : V.take k ++ [q] ++ V.drop (k + 1) = V.set k q := by
  rw [List.set_eq_take_append_cons_drop, if_pos h, List.append_assoc]
  rfl
section
variable {P : Program} {w : World} {K : PySem.W.Frag} {mg : Str → Option Value} {base : Heap} {f : Addr} {fd : FuncData}
abbrev GWts (P : Program) (w : World) (K : PySem.W.Frag) (mg : Str → Option Value) (base : Heap) (f1 : Addr) (fd1 : FuncData) : Prop := FnD P w K mg base 4 f1 fd1 ["vectors", "way"] 2 (fun ds => ∃ (b : Bool) (V : List (List Int)) (p : List Int), ds = [sq b (V.map tI), tI p] ∧ WOk V ∧ p.length = V.length) F_wts
theorem ok_split {f1 : Addr} {fd1 : FuncData} (G : Fun K "split_at" "split_at" (topS 25) f fd)
    (G1 : GWts P w K mg base f1 fd1) (hm1 : mg "weights_of" = some (.ref f1)) (hk1 : PySem.W.keepIn K (.ref f1) = true) (hb1 : Binds K fd1 ["vectors", "way"] [])
    (ml : mg "len" = none) (mr : mg "range" = none) (mli : mg "list" = none) :
    FnD P w K mg base 5 f fd ["vectors", "way"] 2 (fun ds => ∃ (b : Bool) (V : List (List Int)) (p : List Int), ds = [sq b (V.map tI), tI p] ∧ WOk V ∧ p.length = V.length) F_split := by
  refine fn_data G sc_split rfl (fun ds h => ?_) (fun A ds hr h => ?_)
  · obtain ⟨b, V, p, rfl, _⟩ := h; rfl
  · obtain ⟨b, V, p, rfl, hV, hp⟩ := h
    rw [F_split_ints]
    have h3 := hV.1.2.1
    refine sx_set 2 sc_split.nd (EV.is (ev_call G1 hr hm1 hk1 hb1 (av_cons (ex_name 0) (av_cons (ex_name 1) ea_nil)) ⟨b, V, p, rfl, hV, hp⟩) (F_wts_ints b V p)) fun d e => ?_
    subst e
    refine sx_own 3 sc_split.nd rfl ?_
    refine sx_for (ei_range1 (n := (V.length : Int)) mr (EV.is (ev_lenS (b := b) (ds := V.map tI) ml (ex_name 0)) (by rw [List.length_map])) (by omega) (by omega)) fun ds e => ?_
    subst e
    refine ⟨fun i ρ' => ∃ o4, ρ' = [some (.im (sq b (V.map tI))), some (.im (tI p)), some (.im (.tuple ((wts V p).map tR))), some (.ow ((((List.range i).filter fun k => decide (0 < ((wts V p).getD k (0, 0)).1)).map fun k => V.set k p).map encV)), o4], ⟨none, rfl⟩, fun k x ρ' hk h => ?_, fun ρ' h => ?_⟩
    · obtain ⟨o4, rfl⟩ := h
      obtain ⟨hk3, rfl⟩ := rgD_get hk
      have hk3 : k < V.length := by simpa using hk3
      rw [Int.zero_add]
      refine ⟨_, _, tgt_name 4 sc_split.nd, ?_⟩
      refine sx_if (M := fun ρ' => ρ' = [some (.im (sq b (V.map tI))), some (.im (tI p)), some (.im (.tuple ((wts V p).map tR))), some (.ow ((((List.range (k + 1)).filter fun k => decide (0 < ((wts V p).getD k (0, 0)).1)).map fun k => V.set k p).map encV)), some (.im (.int (k : Int)))])
        (tv_gt (i := ((wts V p).getD k (0, 0)).1) (j := 0) (ev_ixT (ds := [.int ((wts V p).getD k (0, 0)).1, .int ((wts V p).getD k (0, 0)).2]) (ev_ixT (ds := (wts V p).map tR) (x := tR ((wts V p).getD k (0, 0))) (ex_name 2) (ex_name 4) (getR (by rw [wts_len]; exact hk3))) ex_int rfl) ex_int) (fun t => ?_) (fun t => ?_) fun ρ' e => ?_
      · refine sx_app 3 (ev_cat (ev_cat (ds := (V.map tI).take k) (es := [tI p]) (ev_listS (b := b) mli (ev_toS (ds := V.map tI) (ex_name 0) (ex_name 4))) (ev_lst (av_cons (ex_name 1) ea_nil)) ?_) (ev_listS (b := b) mli (ev_fromS (k := k + 1) (ds := V.map tI) (ex_name 0) (EV.is (ev_add (ex_name 4) ex_int) rfl))) ?_) ?_ fun d e => ?_
        · refine le_size ?_
          rw [List.length_take, List.length_map, List.length_cons, List.length_nil]
          omega
        · refine le_size ?_
          rw [List.length_append, List.length_take, List.length_drop, List.length_map, List.length_cons, List.length_nil]
          omega
        · refine Nat.lt_of_le_of_lt (m := 3) ?_ (by decide)
          rw [List.length_map, List.length_map]
          have := List.length_filter_le (fun k => decide (0 < ((wts V p).getD k (0, 0)).1)) (List.range k)
          rw [List.length_range] at this
          omega
        · subst e
          refine sx_nil ?_
          rw [List.range_succ, List.filter_append, List.map_append, List.map_append]
          show _ = [_, _, _, some (En.ow (_ ++ List.map encV (List.map _ (List.filter _ [k])))), _]
          rw [List.filter_cons_of_pos (by exact t.symm)]
          have : PyData.list (List.take k (List.map tI V) ++ [tI p] ++ List.drop (k + 1) (List.map tI V)) = encV (V.set k p) := by
            unfold encV
            rw [← set_cut hk3, List.map_append, List.map_append, List.map_take, List.map_drop]
            rfl
          rw [this]
          rfl
      · refine sx_nil ?_
        rw [List.range_succ, List.filter_append, List.map_append, List.map_append]
        show _ = [_, _, _, some (En.ow (_ ++ List.map encV (List.map _ (List.filter _ [k])))), _]
        rw [List.filter_cons_of_neg (by rw [← t]; decide)]
        simp only [List.filter_nil, List.map_nil, List.append_nil]
        rfl
      · subst e
        exact sx_nil ⟨_, rfl⟩
    · obtain ⟨o4, rfl⟩ := h
      refine sx_freeze 3 (sx_ret (EV.is (ex_name 3) ?_))
      rw [rgD_len]
      rfl

/-! ### fine_parts -/
def l1 (p : List Int) : Int := (p.map fun x => (x.natAbs : Int)).sum
/-- the results of a row of parts, put together -/
def FL (R : List (List Int) → List (List (List Int)) → Prop) : List (List (List Int)) → List (List (List Int)) → Prop
  | [], L => L = []
  | c :: cs, L => ∃ L1 L2, L = L1 ++ L2 ∧ R c L1 ∧ FL R cs L2
/-- a shortest point of the box, not 0 -/
def Best (V : List (List Int)) (q : List Int) : Prop := q ∈ bx V ∧ q ≠ zer V.length ∧ ∀ p ∈ bx V, p ≠ zer V.length → l1 q ≤ l1 p
def Fine : Nat → List (List Int) → List (List (List Int)) → Prop
  | 0, _, _ => False
  | D + 1, V, L => ((dt V).natAbs = 1 ∧ L = [V]) ∨ ((dt V).natAbs ≠ 1 ∧ ∃ q, Best V q ∧ FL (Fine D) (kids V (prim q)) L)
theorem FL.snoc {R : List (List Int) → List (List (List Int)) → Prop} : ∀ {cs : List (List (List Int))} {L : List (List (List Int))} {c : List (List Int)} {L' : List (List (List Int))}, FL R cs L → R c L' → FL R (cs ++ [c]) (L ++ L')
  | [], L, c, L', h, h' => by
    have h : L = [] := h
    subst h
    exact ⟨L', [], by simp, h', rfl⟩
  | d :: cs, L, c, L', h, h' => by
    obtain ⟨L1, L2, rfl, h1, h2⟩ := h
    exact ⟨L1, L2 ++ L', by rw [List.append_assoc], h1, FL.snoc h2 h'⟩
/-- what is to be known of the numbers -/
structure MathF (Inv : List (List Int) → Prop) : Prop where
  bok : ∀ V, Inv V → BOk V
  box : ∀ V, Inv V → (dt V).natAbs ≠ 1 → ∃ p ∈ bx V, p ≠ zer V.length
  bsm : ∀ V q, Inv V → q ∈ bx V → q.length = V.length ∧ ∀ x ∈ q, Sm x
  kid : ∀ V q, Inv V → (dt V).natAbs ≠ 1 → Best V q → ∀ c ∈ kids V (prim q), Inv c ∧ (dt c).natAbs < (dt V).natAbs
  siz : ∀ D V q cs L, Inv V → (dt V).natAbs ≠ 1 → Best V q → cs <+: kids V (prim q) → FL (Fine D) cs L → L.length ≤ sizeLine
def getSq : List PyData → List (List Int)
  | [x] => unTT x
  | _ => []
def inFine (Inv : List (List Int) → Prop) (D : Nat) : List PyData → Prop := fun ds => ∃ (b : Bool) (V : List (List Int)), ds = [sq b (V.map tI)] ∧ Inv V ∧ (dt V).natAbs ≤ D
def outFine (D : Nat) : List PyData → PyData → Prop := fun ds d => ∃ L, d = .list (L.map encV) ∧ Fine D (getSq ds) L
section
variable {F : Fx} {ρ : Dn} {a b : Expr} {pos : Pos} {i : Int}
theorem R2D.weak {r : R2} {x y : PyData} {S S' : PyData → Prop} (h : R2D K r x y S) (k : ∀ d, S d → S' d) : R2D K r x y S' := fun x y _ _ _ _ _ _ _ Q c h1 h2 q =>
  h x y _ _ _ _ _ _ _ Q c h1 h2 fun v d Hk' H' a b i s => q v d Hk' H' a b i (k d s)
theorem ex_ixL {S : PyData → Prop} {T : List PyData → Prop} (ha : EX F ρ a (fun d => ∃ ds, d = .list ds ∧ T ds)) (hb : EV F ρ b (.int i)) (h : ∀ ds, T ds → ∃ x, atI ds i = some x ∧ S x) (hs : PlainIx b := by exact fun _ _ => rfl) : EX F ρ (.Subscript a b pos) S :=
  ex_ix (r := rIxL F.K) (fun v => ix_list (X := F.cx v)) ha hb hs fun x y e1 e2 => by
    obtain ⟨ds, rfl, t⟩ := e1
    subst e2
    obtain ⟨z, hz, s⟩ := h ds t
    exact (rd_ixL hz).weak fun d e => by rw [e]; exact s
theorem ex_ixT {S : PyData → Prop} {T : List PyData → Prop} (ha : EX F ρ a (fun d => ∃ ds, d = .tuple ds ∧ T ds)) (hb : EV F ρ b (.int i)) (h : ∀ ds, T ds → ∃ x, atI ds i = some x ∧ S x) (hs : PlainIx b := by exact fun _ _ => rfl) : EX F ρ (.Subscript a b pos) S :=
  ex_ix (r := rIxT F.K) (fun v => ix_tup (X := F.cx v)) ha hb hs fun x y e1 e2 => by
    obtain ⟨ds, rfl, t⟩ := e1
    subst e2
    obtain ⟨z, hz, s⟩ := h ds t
    exact (rd_ixT hz).weak fun d e => by rw [e]; exact s
end
theorem det_ints (b : Bool) (V : List (List Int)) : F_det [.list (V.map tI)] = .int (dt V) := F_det_rows V
theorem ok_fine {Inv : List (List Int) → Prop} (M : MathF Inv) {f1 f2 f3 f4 : Addr} {fd1 fd2 fd3 fd4 : FuncData} (G : Fun K "fine_parts" "fine_parts" (topS 26) f fd)
    (hm : mg "fine_parts" = some (.ref f)) (hb : Binds K fd ["vectors"] [])
    (G1 : FnD P w K mg base 2 f1 fd1 ["rows"] 1 (fun ds => ∃ m, ds = [.list (m.map tI)] ∧ Sqr 3 m) F_det) (hm1 : mg "determinant" = some (.ref f1)) (hk1 : PySem.W.keepIn K (.ref f1) = true) (hb1 : Binds K fd1 ["rows"] [])
    (G2 : FnOk P w K mg base CX0 5 f2 fd2 ["cone"] (spR K 1 inBox outBox)) (hm2 : mg "box_of" = some (.ref f2)) (hk2 : PySem.W.keepIn K (.ref f2) = true) (hb2 : Binds K fd2 ["cone"] [])
    (G3 : FnD P w K mg base 2 f3 fd3 ["one"] 1 (fun ds => ∃ a : List Int, ds = [tI a] ∧ a.length ≤ 1000 ∧ ∀ x ∈ a, Sm x) F_prim) (hm3 : mg "primitive" = some (.ref f3)) (hk3 : PySem.W.keepIn K (.ref f3) = true) (hb3 : Binds K fd3 ["one"] [])
    (G4 : FnD P w K mg base 5 f4 fd4 ["vectors", "way"] 2 (fun ds => ∃ (b : Bool) (V : List (List Int)) (p : List Int), ds = [sq b (V.map tI), tI p] ∧ WOk V ∧ p.length = V.length) F_split) (hm4 : mg "split_at" = some (.ref f4)) (hk4 : PySem.W.keepIn K (.ref f4) = true) (hb4 : Binds K fd4 ["vectors", "way"] [])
    (ml : mg "len" = none) (mli : mg "list" = none) (mt : mg "tuple" = none) (ma : mg "abs" = none) (ms : mg "sum" = none) (mso : mg "sorted" = none) :
    ∀ D : Nat, FnOk P w K mg base CX0 (D + 6) f fd ["vectors"] (spR K 1 (inFine Inv D) (outFine D)) := by
  intro D
  induction D with
  | zero =>
    refine fn_data G sc_fine rfl (fun ds h => ?_) (fun A ds hr h => ?_)
    · obtain ⟨b, V, rfl, _⟩ := h; rfl
    · obtain ⟨b, V, rfl, hI, hD⟩ := h
      have := (M.bok V hI).1.2.1
      omega
  | succ D ih =>
    refine fn_data G sc_fine rfl (fun ds h => ?_) (fun A ds hr h => ?_)
    · obtain ⟨b, V, rfl, _⟩ := h; rfl
    · obtain ⟨b, V, rfl, hI, hD⟩ := h
      have hB := M.bok V hI
      have h3 := hB.1.1.2.1
      have h1 := hB.1.1.1
      have eV : getSq [sq b (V.map tI)] = V := unTT_sq b V
      refine sx_ifR (tv_eq (i := ((dt V).natAbs : Int)) (j := 1) (ev_abs ma (EV.is (ev_call G1 (hr.mono (by omega)) hm1 hk1 hb1 (av_cons (ev_listS (b := b) mli (ex_name 0)) ea_nil) ⟨V, rfl, hB.1.1.sqr⟩) (F_det_rows V))) ex_int) (fun t => ?_) fun t => ?_
      · have t1 : (dt V).natAbs = 1 := by have := of_decide_eq_true t.symm; omega
        refine sx_ret (EX.weak (ev_lst (av_cons (ev_listS (b := b) mli (ex_name 0)) ea_nil)) fun d e => ?_)
        refine ⟨[V], e, ?_⟩
        rw [eV]
        exact .inl ⟨t1, rfl⟩
      have t1 : (dt V).natAbs ≠ 1 := by have := of_decide_eq_false t.symm; omega
      refine sx_set 1 sc_fine.nd (EV.is (ev_rep (n := V.length) (ev_tup (av_cons ex_int ea_nil)) (EV.is (ev_lenS (b := b) (ds := V.map tI) ml (ex_name 0)) (by rw [List.length_map])) h1 (by omega)) (d' := tI (zer V.length)) (by unfold tI zer; rw [List.map_replicate])) fun d e => ?_
      subst e
      refine sx_setLc (T := fun d => ∃ l : List (List Int), d = .list ((l.filter fun p => !decide (p = zer V.length)).map tI) ∧ l.Perm (bx V)) 2 [("p", 6)] sc_fine.nd (ei_list (S := fun ds => ∃ l : List (List Int), ds = l.map tI ∧ l.Perm (bx V)) (ex_call G2 (hr.mono (by omega)) hm2 hk2 hb2 (av_cons (ev_tup (av_cons (ex_name 1) (av_cons (ev_tupleS (b := b) (ds := V.map tI) mt (ex_name 0)) (av_cons (ev_tup ea_nil) ea_nil)))) ea_nil) rfl fun ds e => ?_)) (fun ds e => ?_) fun d e => ?_
      · subst e
        refine ⟨rfl, ⟨V, rfl, hB⟩, fun d h => ?_⟩
        obtain ⟨l, rfl, hl⟩ := h
        refine ⟨_, rfl, l, rfl, ?_⟩
        rw [show getV [.tuple [tI (zer V.length), .tuple (V.map tI), .tuple []]] = V from unTs V] at hl
        exact hl
      · obtain ⟨l, rfl, hl⟩ := e
        refine turns_filter (xs := l) (enc := tI) (p := fun p => !decide (p = zer V.length)) (f := tI) rfl ?_ (fun p hp => ⟨_, _, tgt_name 6 sc_fine.nd, by decide, ?_, fun _ => ex_name 6⟩) ⟨l, rfl, hl⟩
        · rw [hl.length_eq]
          refine Nat.le_trans (List.length_filter_le _ _) (Nat.le_trans (boxT_len (c := 250) (fun k => ?_) V.length) (size250 _ h3))
          rw [upTo_len]
          have := hB.2 k
          omega
        · exact TV.is (tv_neD (units_ok hr) (ex_name 6) (ex_name 1) (shp_tI p).shaped (shp_tI _).shaped) (by rw [eqv_tI])
      obtain ⟨l, rfl, hl⟩ := e
      have hmem : ∀ p, p ∈ (l.filter fun p => !decide (p = zer V.length)) ↔ p ∈ bx V ∧ p ≠ zer V.length := fun p => by
        rw [List.mem_filter, hl.mem_iff]
        simp
      have hllen : (l.filter fun p => !decide (p = zer V.length)).length ≤ sizeLine := by
        refine Nat.le_trans (List.length_filter_le _ _) ?_
        rw [hl.length_eq]
        refine Nat.le_trans (List.length_filter_le _ _) (Nat.le_trans (boxT_len (c := 250) (fun k => ?_) V.length) (size250 _ h3))
        rw [upTo_len]
        have := hB.2 k
        omega
      generalize (l.filter fun p => !decide (p = zer V.length)) = l' at hmem hllen
      refine sx_set (S := fun d => ∃ q, d = tI q ∧ Best V q) 3 sc_fine.nd (ex_ixT (T := fun ds => ∃ q, ds = [.int (l1 q), tI q] ∧ Best V q) (ex_ixL (T := fun ds => ∃ l2 : List (Int × List Int), ds = l2.map prM ∧ l2.Perm (l'.map fun p => (l1 p, p)) ∧ l2.Pairwise (fun x y => x.1 ≤ y.1)) ((ex_sortM (l := l'.map fun p => (l1 p, p)) (units_ok hr) mso (ex_lc [("p", 6)] sc_fine.nd (ei_list (S := fun ds => ds = l'.map tI) ((ex_name 2).weak fun d e => ⟨_, e, rfl⟩)) fun ds e => ?_)).weak fun d ⟨l2, e, p1, p2⟩ => ⟨_, e, l2, rfl, p1, p2⟩) ex_int fun ds h => ?_) ex_int fun ds h => ?_) fun d h => ?_
      · refine turns_map (xs := l') (enc := tI) (f := fun p => prM (l1 p, p)) e hllen (fun p hp => ⟨_, _, tgt_name 6 sc_fine.nd, by decide, ?_⟩) ?_
        · refine EV.is (ev_tup (av_cons (ev_sum (ns := p.map fun x => (x.natAbs : Int)) ms (ex_lc [("x", 7)] sc_fine.nd (ei_tup (S := fun ds => ds = p.map .int) ((ex_name 6).weak fun d e => ⟨_, e, rfl⟩)) fun ds e => ?_)) (av_cons (ex_name 6) ea_nil))) rfl
          have hpl := (M.bsm V p hI ((hmem p).mp hp).1).1
          refine turns_map (xs := p) (enc := .int) (f := fun x => .int (x.natAbs : Int)) e (le_size (by omega)) (fun x hx => ⟨_, _, tgt_name 7 sc_fine.nd, by decide, ev_abs ma (ex_name 7)⟩) ?_
          show PyData.list _ = PyData.list _
          rw [List.map_map]
          rfl
        · show PyData.list _ = PyData.list _
          rw [List.map_map]
          rfl
      · obtain ⟨l2, rfl, p1, p2⟩ := h
        cases l2 with
        | nil =>
          exfalso
          obtain ⟨p, hp, hp0⟩ := M.box V hI t1
          have hp' := (hmem p).mpr ⟨hp, hp0⟩
          have := p1.symm.eq_nil
          rw [List.map_eq_nil_iff] at this
          rw [this] at hp'
          cases hp'
        | cons z l2 =>
          have hz : z ∈ l'.map fun p => (l1 p, p) := p1.mem_iff.mp List.mem_cons_self
          obtain ⟨q, hq, rfl⟩ := List.mem_map.mp hz
          refine ⟨prM (l1 q, q), (by show atI _ ((0 : Nat) : Int) = _; exact atI_nat rfl), _, rfl, q, rfl, ((hmem q).mp hq).1, ((hmem q).mp hq).2, fun p hp hp0 => ?_⟩
          have hp' : (l1 p, p) ∈ (l1 q, q) :: l2 := p1.mem_iff.mpr (List.mem_map.mpr ⟨p, (hmem p).mpr ⟨hp, hp0⟩, rfl⟩)
          rcases List.mem_cons.mp hp' with e | e
          · have : p = q := congrArg Prod.snd e
            rw [this]
            exact Int.le_refl _
          · exact (List.pairwise_cons.mp p2).1 _ e
      · obtain ⟨q, rfl, hq⟩ := h
        exact ⟨_, rfl, q, rfl, hq⟩
      obtain ⟨q, rfl, hq⟩ := h
      obtain ⟨hql, hqs⟩ := M.bsm V q hI hq.1
      have hpl : (prim q).length = V.length := by
        unfold prim
        split
        · rw [List.length_map]; exact hql
        · exact hql
      refine sx_set 4 sc_fine.nd (ev_lst ea_nil) fun d e => ?_
      subst e
      refine sx_for (ei_list (S := fun ds => ds = (kids V (prim q)).map encV) (EX.weak (EV.is (ev_call G4 (hr.mono (by omega)) hm4 hk4 hb4 (av_cons (ex_name 0) (av_cons (EV.is (ev_call G3 (hr.mono (by omega)) hm3 hk3 hb3 (av_cons (ex_name 3) ea_nil) ⟨q, rfl, by omega, hqs⟩) (F_prim_ints q)) ea_nil)) ⟨b, V, prim q, rfl, hB.1, hpl⟩) (F_split_ints b V _)) fun d e => ⟨_, e, rfl⟩)) fun ds e => ?_
      subst e
      refine ⟨fun i ρ' => ∃ o5 L, ρ' = [some (.im (sq b (V.map tI))), some (.im (tI (zer V.length))), some (.im (.list (l'.map tI))), some (.im (tI q)), some (.im (.list (L.map encV))), o5, none, none] ∧ FL (Fine D) ((kids V (prim q)).take i) L, ⟨none, [], rfl, rfl⟩, fun i d ρ' hd h => ?_, fun ρ' h => ?_⟩
      · obtain ⟨o5, L, rfl, hL⟩ := h
        rw [List.getElem?_map] at hd
        cases hx : (kids V (prim q))[i]? with
        | none => rw [hx] at hd; cases hd
        | some c =>
          rw [hx] at hd
          have e : encV c = d := Option.some.inj hd
          subst e
          obtain ⟨hc1, hc2⟩ := M.kid V q hI t1 hq c (List.mem_of_getElem? hx)
          refine ⟨_, _, tgt_name 5 sc_fine.nd, ?_⟩
          refine sx_set (S := fun d => ∃ L', d = .list ((L ++ L').map encV) ∧ Fine D c L') 4 sc_fine.nd (ex_op (r := rCat) (fun v => op_cat) (Sa := fun d => d = .list (L.map encV)) (Sb := fun d => ∃ L', d = .list (L'.map encV) ∧ Fine D c L') (ex_name 4) (ex_call ih (hr.mono (by omega)) hm G.kp hb (av_cons (ex_name 5) ea_nil) rfl fun ds e => ?_) fun x y e1 e2 => ?_) fun d h => ?_
          · subst e
            refine ⟨rfl, ⟨false, c, rfl, hc1, by omega⟩, fun d h => ?_⟩
            obtain ⟨L', rfl, hf⟩ := h
            rw [show getSq [encV c] = c from unTT_sq false c] at hf
            exact ⟨L', rfl, hf⟩
          · subst e1
            obtain ⟨L', rfl, hf⟩ := e2
            have hs := M.siz D V q ((kids V (prim q)).take (i + 1)) (L ++ L') hI t1 hq (List.take_prefix _ _) (by rw [List.take_add_one, hx]; exact hL.snoc hf)
            refine (rd_cat ?_).weak fun d e => ⟨L', ?_, hf⟩
            · rw [List.length_map, List.length_map, ← List.length_append]
              exact hs
            · rw [e, List.map_append]
          · obtain ⟨L', rfl, hf⟩ := h
            exact sx_nil ⟨some (.im (encV c)), L ++ L', rfl, by rw [List.take_add_one, hx]; exact hL.snoc hf⟩
      · obtain ⟨o5, L, rfl, hL⟩ := h
        rw [List.length_map, List.take_length] at hL
        refine sx_ret (EX.weak (ex_name 4) fun d e => ⟨L, e, ?_⟩)
        rw [eV]
        exact .inr ⟨t1, q, hq, hL⟩
end
end Lp

/-! LqA: global names, a chain as a test, need_cone. -/
namespace Lp
open PySem PySem.Spec L2

section
variable {F : Fx} {ρ : Dn} {a b c : Expr} {pos : Pos}
theorem ev_globI {x : Str} {i : Int} {t : Tok} (hm : F.mg x = some (.int i t)) (hg : F.sc.names.lookup x = some .globalImplicit := by rfl) (hd : (x == ("__debug__" : Str)) = false := by decide) : EV F ρ (.Name x pos) (.int i) :=
  ex_of (fun v => pe_glob (v := .int i) hg hm ⟨_, rfl⟩ hd) fun _ _ _ _ _ _ _ c q => q.now c (.int i) rfl
theorem ev_globT {x : Str} {p : Addr} {ns : List Int} (hm : F.mg x = some (.ref p)) (hT : ∀ H, SqT F.K H p (ns.map V.int)) (hg : F.sc.names.lookup x = some .globalImplicit := by rfl) (hd : (x == ("__debug__" : Str)) = false := by decide) : EV F ρ (.Name x pos) (tI ns) :=
  ex_of (fun v => pe_glob (v := .ref p) hg hm rfl hd) fun _ _ _ Hk _ _ _ c q => q.now c (.tup (hT Hk) (Iss.of_ints ns)) rfl
theorem tv_chain {op op' : CmpOp} {r r' : R2} {x y z : PyData} {k k' : Bool} (ho : ∀ v, OpR (F.cx v) (compareOp op) r) (ho' : ∀ v, OpR (F.cx v) (compareOp op') r') (ha : EV F ρ a x) (hb : EV F ρ b y) (hc : k = true → EV F ρ c z)
    (h : R2D F.K r x y (fun d => d = .bool k)) (h' : k = true → R2D F.K r' y z (fun d => d = .bool k')) (hm : lastMarks [op, op'] [b, c] = false := by with_unfolding_all rfl) : TV F ρ (.Compare a [op, op'] [b, c] pos) (k && k') :=
  et_of (fun v => pt_chain (ho v) (ho' v) pe_w pe_w pe_w hm) fun _ _ _ _ _ _ Q cc q => by
    refine ha _ _ _ _ _ _ _ cc fun x' d1 Hk1 H1 e1 c1 i1 s1 => hb _ _ _ _ _ _ _ c1 fun y' d2 Hk2 H2 e2 c2 i2 s2 => ?_
    subst s1
    subst s2
    refine h x' y' _ _ _ _ _ _ _ _ c2 (Is.mono e2 _ _ i1) i2 fun w' d3 Hk3 H3 e3 c3 i3 s3 => ?_
    subst s3
    cases i3
    refine ⟨k, rfl, ?_⟩
    cases k with
    | true =>
      rw [if_pos rfl]
      exact hc rfl _ _ _ _ _ _ _ c3 fun z' d4 Hk4 H4 e4 c4 i4 s4 => by
        subst s4
        exact h' rfl y' z' _ _ _ _ _ _ _ _ c4 (Is.mono (e3.trans e4) _ _ i2) i4 fun v5 d5 Hk5 H5 e5 c5 i5 s5 => by
          subst s5
          cases i5
          exact ⟨k', rfl, q _ Hk5 H5 ((e1.trans e2).trans ((e3.trans e4).trans e5)) c5 (by rw [Bool.true_and])⟩
    | false =>
      rw [if_neg Bool.false_ne_true]
      exact ⟨false, rfl, q _ Hk3 H3 ((e1.trans e2).trans e3) c3 rfl⟩
end

abbrev N_need : List Str := ["cone", "apex", "vectors", "places", "size", "one", "k"]
theorem sc_need : FnScope N_need ["cone"] (defScope (topS 19)) := ⟨rfl, rfl, rfl, by decide +kernel, rfl, by decide +kernel, by decide +kernel⟩
/-- a cone's data -/
def coneD (p : List Int) (V : List (List Int)) (pl : List Int) : PyData := .tuple [tI p, .tuple (V.map tI), tI pl]
structure ConeOk (p : List Int) (V : List (List Int)) (pl : List Int) : Prop where
  sq : Squ V
  len : p.length = V.length
  pb : ∀ x ∈ p, -1000 ≤ x ∧ x ≤ 1000
  vb : ∀ v ∈ V, ∀ x ∈ v, -50 ≤ x ∧ x ≤ 50
  prm : ∀ v ∈ V, gcdL v = 1
  det : dt V ≠ 0
  asc : pl.Pairwise (· < ·)
  plb : ∀ k ∈ pl, 0 ≤ k ∧ k < V.length
theorem ConeOk.sqS {p : List Int} {V : List (List Int)} {pl : List Int} (h : ConeOk p V pl) : SqS V := ⟨h.sq.1, h.sq.2.1, h.sq.2.2, fun r hr x hx => by have := h.vb r hr x hx; exact ⟨by omega, by omega⟩⟩
theorem asc_len : ∀ {pl : List Int} {n : Nat} {lo : Int}, pl.Pairwise (· < ·) → (∀ k ∈ pl, lo ≤ k ∧ k < lo + n) → pl.length ≤ n
  | [], _, _, _, _ => Nat.zero_le _
  | x :: pl, n, lo, h, hb => by
    have h0 := hb x List.mem_cons_self
    cases n with
    | zero => omega
    | succ n =>
      have hp := List.pairwise_cons.mp h
      have := asc_len (n := n) (lo := lo + 1) hp.2 fun k hk => by
        have h1 := hp.1 k hk
        have h2 := hb k (List.mem_cons_of_mem _ hk)
        omega
      rw [List.length_cons]
      omega
theorem ConeOk.pll {p : List Int} {V : List (List Int)} {pl : List Int} (h : ConeOk p V pl) : pl.length ≤ 3 := by
  have := asc_len (n := V.length) (lo := 0) h.asc fun k hk => by have := h.plb k hk; omega
  have := h.sq.2.1
  omega
theorem prim_one {v : List Int} (h : gcdL v = 1) : prim v = v := by
  unfold prim
  rw [if_neg (by omega)]
theorem eqv_lints (a b : List Int) : PyData.eqv (.list (a.map .int)) (.list (b.map .int)) = decide (a = b) := by
  show PyData.eqvAll _ _ = _
  exact LpSort.eqv_ints a b
theorem shp_lI (a : List Int) : Shp 2 (.list (a.map .int)) := shp_list fun _ h => shp_ints h
section
variable {P : Program} {w : World} {K : PySem.W.Frag} {mg : Str → Option Value} {base : Heap} {f : Addr} {fd : FuncData}
theorem ok_need {f1 f2 f3 f4 : Addr} {fd1 fd2 fd3 fd4 : FuncData} {t1 t2 : Tok} (G : Fun K "need_cone" "need_cone" (topS 19) f fd)
    (G1 : FnD P w K mg base 2 f1 fd1 ["value", "size", "low", "high"] 4 (fun ds => ∃ (a : List Int) (n lo hi : Int), ds = [tI a, .int n, .int lo, .int hi] ∧ (a.length : Int) = n ∧ a.length ≤ 1000 ∧ ∀ x ∈ a, lo ≤ x ∧ x ≤ hi) F_true) (hm1 : mg "is_vector" = some (.ref f1)) (hk1 : PySem.W.keepIn K (.ref f1) = true) (hb1 : Binds K fd1 ["value", "size", "low", "high"] [])
    (G2 : FnD P w K mg base 2 f2 fd2 ["one"] 1 (fun ds => ∃ a : List Int, ds = [tI a] ∧ a.length ≤ 1000 ∧ ∀ x ∈ a, Sm x) F_prim) (hm2 : mg "primitive" = some (.ref f2)) (hk2 : PySem.W.keepIn K (.ref f2) = true) (hb2 : Binds K fd2 ["one"] [])
    (G3 : FnD P w K mg base 2 f3 fd3 ["rows"] 1 (fun ds => ∃ m, ds = [.list (m.map tI)] ∧ Sqr 3 m) F_det) (hm3 : mg "determinant" = some (.ref f3)) (hk3 : PySem.W.keepIn K (.ref f3) = true) (hb3 : Binds K fd3 ["rows"] [])
    (G4 : FnD P w K mg base 1 f4 fd4 ["value", "least", "most"] 3 (fun ds => ∃ i lo hi : Int, ds = [.int i, .int lo, .int hi]) F_is_in) (hm4 : mg "is_in" = some (.ref f4)) (hk4 : PySem.W.keepIn K (.ref f4) = true) (hb4 : Binds K fd4 ["value", "least", "most"] [])
    (hF : mg "FAR" = some (.int 50 t1)) (hFA : mg "FAR_APEX" = some (.int 1000 t2))
    (mi : mg "isinstance" = none) (mt : mg "tuple" = none) (ml : mg "len" = none) (mli : mg "list" = none) (mso : mg "sorted" = none) (mse : mg "set" = none) :
    FnD P w K mg base 3 f fd ["cone"] 1 (fun ds => ∃ p V pl, ds = [coneD p V pl] ∧ ConeOk p V pl) (fun _ => .none) := by
  refine fn_data G sc_need rfl (fun ds h => ?_) (fun A ds hr h => ?_)
  · obtain ⟨p, V, pl, rfl, _⟩ := h; rfl
  · obtain ⟨p, V, pl, rfl, hc⟩ := h
    have h1 := hc.sq.1
    have h3 := hc.sq.2.1
    have hpl := hc.len
    refine sx_ifF (TV.is (EW.et (ew_or (k := !true) (k' := !decide ((3 : Int) = 3)) (tv_not (tv_val (ev_isi (T := "tuple") (d := coneD p V pl) mi mt (ex_name 0) (by decide +kernel) k_tt))) fun _ => ew_or1 (tv_ne (i := 3) (j := 3) (ev_lenT (ds := [tI p, .tuple (V.map tI), tI pl]) ml (ex_name 0)) ex_int))) (by decide)) ?_
    refine sx_unp1 (d := .tuple [tI p, .tuple (V.map tI), tI pl]) (ex_name 0) (tgt_tup3 1 2 3 sc_need.nd) ?_
    refine sx_ifF (TV.is (EW.et (ew_or (k := !true) (k' := !(decide ((1 : Int) ≤ ((p.map PyData.int).length : Int)) && decide (((p.map PyData.int).length : Int) ≤ 3))) (tv_not (tv_val (ev_isi (T := "tuple") (d := tI p) mi mt (ex_name 1) (by decide +kernel) k_tt))) fun _ => ew_or1 (tv_not (tv_chain (fun _ => op_le) (fun _ => op_le) ex_int (ev_lenT (ds := p.map .int) ml (ex_name 1)) (fun _ => ex_int) rd_B0 fun _ => rd_B0)))) ?_) ?_
    · rw [List.length_map, hpl]
      have q1 : decide ((1 : Int) ≤ (V.length : Int)) = true := decide_eq_true (by omega)
      have q2 : decide ((V.length : Int) ≤ 3) = true := decide_eq_true (by omega)
      rw [q1, q2]
      rfl
    refine sx_set 4 sc_need.nd (EV.is (ev_lenT (ds := p.map .int) ml (ex_name 1)) (d' := .int (V.length : Int)) (by rw [List.length_map, hpl])) fun d e => ?_
    subst e
    refine sx_ifF (TV.is (EW.et (ew_or (k := !true) (k' := (!true || !decide (((V.map tI).length : Int) = (V.length : Int)))) (tv_not (tv_val (EV.is (ev_call G1 hr hm1 hk1 hb1 (av_cons (ex_name 1) (av_cons (ex_name 4) (av_cons (ev_neg (ev_globI hFA)) (av_cons (ev_globI hFA) ea_nil)))) ⟨p, _, _, _, rfl, by rw [hpl], by omega, hc.pb⟩) rfl))) fun _ => ew_or (tv_not (tv_val (ev_isi (T := "tuple") (d := .tuple (V.map tI)) mi mt (ex_name 2) (by decide +kernel) k_tt))) fun _ => ew_or1 (tv_ne (ev_lenT (ds := V.map tI) ml (ex_name 2)) (ex_name 4)))) ?_) ?_
    · rw [List.length_map]
      simp
    refine sx_for (ei_tup (S := fun ds => ds = V.map tI) ((ex_name 2).weak fun d e => ⟨_, e, rfl⟩)) fun ds e => ?_
    subst e
    refine ⟨fun i ρ' => ∃ o5, ρ' = [some (.im (coneD p V pl)), some (.im (tI p)), some (.im (.tuple (V.map tI))), some (.im (tI pl)), some (.im (.int (V.length : Int))), o5, none], ⟨none, rfl⟩, fun i d ρ' hd h => ?_, fun ρ' h => ?_⟩
    · obtain ⟨o5, rfl⟩ := h
      rw [List.getElem?_map] at hd
      cases hx : V[i]? with
      | none => rw [hx] at hd; cases hd
      | some v =>
        rw [hx] at hd
        have e : tI v = d := Option.some.inj hd
        subst e
        have hv := List.mem_of_getElem? hx
        refine ⟨_, _, tgt_name 5 sc_need.nd, ?_⟩
        have hlv := hc.sq.2.2 v hv
        refine sx_ifF (TV.is (EW.et (ew_or (k := !true) (k' := !true) (tv_not (tv_val (EV.is (ev_call G1 hr hm1 hk1 hb1 (av_cons (ex_name 5) (av_cons (ex_name 4) (av_cons (ev_neg (ev_globI hF)) (av_cons (ev_globI hF) ea_nil)))) ⟨v, _, _, _, rfl, by rw [hlv], by omega, hc.vb v hv⟩) rfl))) fun _ => ew_or1 (TV.is (tv_neD (x := tI v) (y := tI v) (units_ok hr) (EV.is (ev_call G2 hr hm2 hk2 hb2 (av_cons (ex_name 5) ea_nil) ⟨v, rfl, by omega, fun x hx => hc.sqS.2.2.2 v hv x hx⟩) (by rw [F_prim_ints, prim_one (hc.prm v hv)])) (ex_name 5) (shp_tI v).shaped (shp_tI v).shaped) (by rw [eqv_tI]; simp)))) (by decide)) ?_
        exact sx_nil ⟨some (.im (tI v)), rfl⟩
    · obtain ⟨o5, rfl⟩ := h
      refine sx_ifF (TV.is (tv_eq (i := dt V) (j := 0) (EV.is (ev_call G3 hr hm3 hk3 hb3 (av_cons (ev_listT (ds := V.map tI) mli (ex_name 2)) ea_nil) ⟨V, rfl, hc.sqS.sqr⟩) (F_det_rows V)) ex_int) (decide_eq_false hc.det)) ?_
      refine sx_ifF (TV.is (EW.et (ew_or (k := !true) (k' := !true) (tv_not (tv_val (ev_isi (T := "tuple") (d := tI pl) mi mt (ex_name 3) (by decide +kernel) k_tt))) fun _ => ew_or1 (TV.is (tv_neD (x := .list []) (y := .list []) (units_ok hr) (ex_lc [("k", 6)] sc_need.nd (ei_tup (S := fun ds => ds = pl.map .int) ((ex_name 3).weak fun d e => ⟨_, e, rfl⟩)) fun ds e => ?_) (ev_lst ea_nil) shaped_nil shaped_nil) rfl))) (by decide)) ?_
      · refine turns_filter (xs := pl) (enc := .int) (p := fun x => !(decide (0 ≤ x) && decide (x ≤ (V.length : Int) - 1))) (f := .int) e (le_size (by have := hc.pll; omega)) (fun z hz' => ⟨_, _, tgt_name 6 sc_need.nd, by decide, tv_not (tv_val (EV.is (ev_call G4 (hr.mono (by decide)) hm4 hk4 hb4 (av_cons (ex_name 6) (av_cons ex_int (av_cons (ev_sub (ex_name 4) ex_int) ea_nil))) ⟨z, _, _, rfl⟩) rfl)), fun _ => ex_name 6⟩) ?_
        have : pl.filter (fun x => !(decide (0 ≤ x) && decide (x ≤ (V.length : Int) - 1))) = [] := List.filter_eq_nil_iff.mpr fun x hx => by
          obtain ⟨h1, h2⟩ := hc.plb x hx
          have h2' : x ≤ (V.length : Int) - 1 := by omega
          simp [h1, h2']
        rw [this]
        rfl
      · refine sx_ifF (TV.is (tv_neD (x := .list (pl.map .int)) (y := .list (pl.map .int)) (units_ok hr) (ev_listT (ds := pl.map .int) mli (ex_name 3)) (ev_sortSet mso mse (ex_name 3) hc.asc (by have := hc.pll; omega)) (shp_lI pl).shaped (shp_lI pl).shaped) (by rw [eqv_lints]; simp)) ?_
        exact sx_nil rfl
end
end Lp

/-! LqB: generic_in, unimodular_parts. -/
namespace Lp
open PySem PySem.Spec L2

/-- an expression by itself -/
theorem sx_ex {F : Fx} {ρ : Dn} {e : Expr} {S : PyData → Prop} {pos : Pos} {rest : List Stmt} {N : Dn → Prop} {R : PyData → Prop} (he : EX F ρ e S) (k : SX F ρ rest N R) (hs : ∀ v, swapsWith e none pos.line (F.cx v).env = pure false := by intro _; rfl) : SX F ρ (.Expr e pos :: rest) N R :=
  sx_cons (M := fun ρ' => ρ' = ρ) ⟨tDrop (wE F e), fun v => ps_expr pe_w (hs v), fun _ _ _ Hk H σ D c nx rt => he _ _ _ _ _ _ _ c fun v d Hk' H' e1 c1 i1 s1 => nx _ _ Hk' H' e1 c1 rfl⟩ fun ρ' e => by rw [e]; exact k

abbrev N_gen : List Str := ["vectors", "places", "parts", "factor", "weight", "total", "k", "part"]
theorem sc_gen : FnScope N_gen ["vectors", "places", "parts"] (defScope (topS 28)) := ⟨rfl, rfl, rfl, by decide +kernel, rfl, by decide +kernel, by decide +kernel⟩
abbrev N_uni : List Str := ["cone", "apex", "vectors", "places", "parts", "found", "way", "part", "weights", "k"]
theorem sc_uni : FnScope N_uni ["cone"] (defScope (topS 27)) := ⟨rfl, rfl, rfl, by decide +kernel, rfl, by decide +kernel, by decide +kernel⟩
def wgt (f : Int) : Nat → Int
  | 0 => 1
  | k + 1 => wgt f k * f + 1
/-- the way of a factor -/
def tt (V : List (List Int)) (pl : List Int) (f : Int) : Nat → List Int
  | 0 => zer V.length
  | k + 1 => addV (tt V pl f k) (sclV (if (k : Int) ∈ pl then -(wgt f k) else wgt f k) (V.getD k []))
/-- no weight of a part is 0 -/
def genW (W : List (List Int)) (t : List Int) : Bool := !((wts W t).any fun z => decide (z = (0, 1)))
theorem tt_len {V : List (List Int)} (h : ∀ v ∈ V, v.length = V.length) {pl : List Int} {f : Int} : ∀ k, k ≤ V.length → (tt V pl f k).length = V.length
  | 0, _ => by show (zer V.length).length = _; unfold zer; rw [List.length_replicate]
  | k + 1, hk => by
    show (addV _ _).length = _
    unfold addV sclV
    rw [List.length_zipWith, tt_len h k (by omega), List.length_map, List.getD_eq_getElem?_getD, List.getElem?_eq_getElem (by omega)]
    show min _ (V[k].length) = _
    rw [h V[k] (List.getElem_mem _), Nat.min_self]
theorem eqv_tR (z : Int × Int) : PyData.eqv (tR z) (tI [0, 1]) = decide (z = (0, 1)) := by
  show PyData.eqv (tI [z.1, z.2]) (tI [0, 1]) = _
  rw [eqv_tI]
  obtain ⟨a, b⟩ := z
  by_cases h1 : a = 0 <;> by_cases h2 : b = 1 <;> simp [h1, h2]
theorem any_tR (W : List (Int × Int)) : (W.map tR).any (fun z => PyData.eqv z (tI [0, 1])) = W.any fun z => decide (z = (0, 1)) := by
  rw [List.any_map]
  congr 1
  funext z
  exact eqv_tR z
def get0 : List PyData → List (List Int)
  | x :: _ => unTT x
  | _ => []
def get1 : List PyData → List Int
  | _ :: y :: _ => unT y
  | _ => []
def get2 : List PyData → List (List (List Int))
  | [_, _, .list l] => l.map unTT
  | _ => []
theorem unTTs (L : List (List (List Int))) : (L.map encV).map unTT = L := by
  rw [List.map_map]
  exact List.map_id'' (fun a => unTT_sq false a) L
def inGen : List PyData → Prop := fun ds => ∃ (V : List (List Int)) (pl : List Int) (L : List (List (List Int))), ds = [.tuple (V.map tI), tI pl, .list (L.map encV)] ∧ SqS V ∧ pl.length ≤ 3 ∧ L.length ≤ sizeLine ∧ (∀ W ∈ L, WOk W ∧ W.length = V.length) ∧ ∀ f : Int, 1000000 ≤ f → ∀ W ∈ L, genW W (tt V pl f V.length) = true
def outGen : List PyData → PyData → Prop := fun ds d => ∃ f : Int, 2 ≤ f ∧ d = tI (tt (get0 ds) (get1 ds) f (get0 ds).length) ∧ ∀ W ∈ get2 ds, genW W (tt (get0 ds) (get1 ds) f (get0 ds).length) = true
theorem shp_encV (V : List (List Int)) : Shp 3 (encV V) := shp_list fun _ h => shp_tIs h
theorem shp_tR (z : Int × Int) : Shp 2 (tR z) := shp_tI _
theorem shp_tRs (W : List (Int × Int)) : Shp 3 (.tuple (W.map tR)) := shp_tup fun d h => by
  obtain ⟨z, _, rfl⟩ := List.mem_map.mp h
  exact shp_tR z
section
variable {P : Program} {w : World} {K : PySem.W.Frag} {mg : Str → Option Value} {base : Heap} {f : Addr} {fd : FuncData}
theorem ok_gen {f1 f2 f3 : Addr} {fd1 fd2 fd3 : FuncData} {pZ : Addr} (G : Fun K "generic_in" "generic_in" (topS 28) f fd)
    (G1 : GWts P w K mg base f1 fd1) (hm1 : mg "weights_of" = some (.ref f1)) (hk1 : PySem.W.keepIn K (.ref f1) = true) (hb1 : Binds K fd1 ["vectors", "way"] [])
    (G2 : FnD P w K mg base 1 f2 fd2 ["one", "other"] 2 (fun ds => ∃ a b : List Int, ds = [tI a, tI b] ∧ a.length = b.length ∧ a.length ≤ 1000) F_more) (hm2 : mg "more" = some (.ref f2)) (hk2 : PySem.W.keepIn K (.ref f2) = true) (hb2 : Binds K fd2 ["one", "other"] [])
    (G3 : FnD P w K mg base 1 f3 fd3 ["factor", "one"] 2 (fun ds => ∃ (c : Int) (a : List Int), ds = [.int c, tI a] ∧ a.length ≤ 1000 ∧ ∀ x ∈ a, Sm x) F_scaled) (hm3 : mg "scaled" = some (.ref f3)) (hk3 : PySem.W.keepIn K (.ref f3) = true) (hb3 : Binds K fd3 ["factor", "one"] [])
    (hZ : mg "ZERO" = some (.ref pZ)) (hZT : ∀ H, SqT K H pZ [.int 0, .int 1])
    (ml : mg "len" = none) (mr : mg "range" = none) :
    FnOk P w K mg base CX0 5 f fd ["vectors", "places", "parts"] (spR K 3 inGen outGen) := by
  refine fn_data G sc_gen rfl (fun ds h => ?_) (fun A ds hr h => ?_)
  · obtain ⟨V, pl, L, rfl, _⟩ := h; rfl
  · obtain ⟨V, pl, L, rfl, hV, hpl, hLs, hL, hgen⟩ := h
    have h1 := hV.1
    have h3 := hV.2.1
    have e0 : get0 [.tuple (V.map tI), tI pl, .list (L.map encV)] = V := unTs V
    have e1 : get1 [.tuple (V.map tI), tI pl, .list (L.map encV)] = pl := unT_tI pl
    have e2 : get2 [.tuple (V.map tI), tI pl, .list (L.map encV)] = L := unTTs L
    refine sx_set 3 sc_gen.nd ex_int fun d e => ?_
    subst e
    refine sx_while (fun m ρ' => ∃ (g : Int) (o4 o5 o6 : Option En), ρ' = [some (.im (.tuple (V.map tI))), some (.im (tI pl)), some (.im (.list (L.map encV))), some (.im (.int g)), o4, o5, o6, none] ∧ 1 ≤ g ∧ g < 1000000 ∧ (m : Int) = 1000000 - g) 999999 ⟨1, none, none, none, rfl, by decide, by decide, by decide⟩ fun m ρ' h => ?_
    obtain ⟨g, o4, o5, o6, rfl, hg1, hg2, hm⟩ := h
    refine ⟨fun b => b = true, tv_val ex_bl, fun _ => ?_, fun t => by cases t⟩
    refine sx_augI (f := fun i j => i + j) 3 sc_gen.nd (fun _ => ip_add) ex_int ?_
    have sg : Sm (g + 1) := ⟨by omega, by omega⟩
    refine sx_unp1 (d := .tuple [.int 1, tI (zer V.length)]) (ev_tup (av_cons ex_int (av_cons (EV.is (ev_rep (n := V.length) (ev_tup (av_cons ex_int ea_nil)) (EV.is (ev_lenT (ds := V.map tI) ml (ex_name 0)) (by rw [List.length_map])) h1 (by omega)) (by unfold tI zer; rw [List.map_replicate])) ea_nil))) (tgt_tup2 4 5 sc_gen.nd) ?_
    refine sx_for (ei_range1 (n := (V.length : Int)) mr (EV.is (ev_lenT (ds := V.map tI) ml (ex_name 0)) (by rw [List.length_map])) (by omega) (by omega)) fun ds e => ?_
    subst e
    refine ⟨fun k ρ' => ∃ o6, ρ' = [some (.im (.tuple (V.map tI))), some (.im (tI pl)), some (.im (.list (L.map encV))), some (.im (.int (g + 1))), some (.im (.int (wgt (g + 1) k))), some (.im (tI (tt V pl (g + 1) k))), o6, none], ⟨o6, rfl⟩, fun k x ρ' hk h => ?_, fun ρ' h => ?_⟩
    · obtain ⟨o6, rfl⟩ := h
      obtain ⟨hkV, rfl⟩ := rgD_get hk
      have hkV : k < V.length := by simpa using hkV
      rw [Int.zero_add]
      refine ⟨_, _, tgt_name 6 sc_gen.nd, ?_⟩
      have hVk : V.getD k [] ∈ V := by
        rw [List.getD_eq_getElem?_getD, List.getElem?_eq_getElem hkV]
        exact List.getElem_mem hkV
      have hVl := hV.2.2.1 _ hVk
      refine sx_set 5 sc_gen.nd (EV.is (ev_call G2 (hr.mono (by decide)) hm2 hk2 hb2 (av_cons (ex_name 5) (av_cons (EV.is (ev_call G3 (hr.mono (by decide)) hm3 hk3 hb3 (av_cons (d := .int (if (k : Int) ∈ pl then -(wgt (g + 1) k) else wgt (g + 1) k)) (ex_if (tv_in (ex_name 6) (ex_name 1)) (fun t => ?_) fun t => ?_) (av_cons (ev_ixT (ds := V.map tI) (ex_name 0) (ex_name 6) (getT hkV)) ea_nil)) ⟨_, _, rfl, ?_, ?_⟩) (F_scaled_ints _ _)) ea_nil)) ⟨_, _, rfl, ?_, ?_⟩) (F_more_ints _ _)) fun d e => ?_
      · have : (k : Int) ∈ pl := of_decide_eq_true t.symm
        rw [if_pos this]
        exact ev_neg (ex_name 4)
      · have : ¬ (k : Int) ∈ pl := of_decide_eq_false t.symm
        rw [if_neg this]
        exact ex_name 4
      · omega
      · exact hV.2.2.2 _ hVk
      · rw [tt_len hV.2.2.1 k (by omega)]
        unfold sclV
        rw [List.length_map, hVl]
      · rw [tt_len hV.2.2.1 k (by omega)]
        omega
      · subst e
        refine sx_set 4 sc_gen.nd (ev_add (ev_mul (ex_name 4) (ex_name 3) (cmul_r sg)) ex_int) fun d e => ?_
        subst e
        exact sx_nil ⟨some (.im (.int (k : Int))), rfl⟩
    · obtain ⟨o6, rfl⟩ := h
      rw [rgD_len]
      have hn : ((V.length : Int)).toNat = V.length := by omega
      rw [hn]
      have htl := tt_len hV.2.2.1 (pl := pl) (f := g + 1) V.length (Nat.le_refl _)
      refine sx_ifR (T := fun b => b = (L.filter fun W => !genW W (tt V pl (g + 1) V.length)).isEmpty) (TV.is (tv_nil (n := 3) (ds := ((L.filter fun W => !genW W (tt V pl (g + 1) V.length)).map encV)) (units_ok hr) (ex_lc [("part", 7)] sc_gen.nd (ei_list (S := fun ds => ds = L.map encV) ((ex_name 2).weak fun d e => ⟨_, e, rfl⟩)) fun ds e => ?_) ?_) (isEmpty_map _ _)) (fun t => ?_) fun t => ?_
      · refine turns_filter (xs := L) (enc := encV) (p := fun W => !genW W (tt V pl (g + 1) V.length)) (f := encV) e hLs (fun W hW => ⟨_, _, tgt_name 7 sc_gen.nd, by decide, ?_, fun _ => ex_name 7⟩) rfl
        obtain ⟨hW1, hW2⟩ := hL W hW
        refine TV.is (tv_inTD (ds := (wts W (tt V pl (g + 1) V.length)).map tR) (units_ok hr) (ev_globT (ns := [0, 1]) hZ hZT) (EV.is (ev_call G1 hr hm1 hk1 hb1 (av_cons (ex_name 7) (av_cons (ex_name 5) ea_nil)) ⟨false, W, _, rfl, hW1, by rw [htl, hW2]⟩) (F_wts_ints false W _)) (shp_tI _).shaped (shp_tRs _).shaped) ?_
        rw [any_tR]
        unfold genW
        rw [Bool.not_not]
      · intro d hd
        obtain ⟨W, _, rfl⟩ := List.mem_map.mp hd
        exact shp_encV W
      · refine sx_ret (EX.weak (ex_name 5) fun d e => ⟨g + 1, by omega, ?_, ?_⟩)
        · rw [e0, e1]
          exact e
        · rw [e0, e1, e2]
          intro W hW
          have := List.filter_eq_nil_iff.mp (List.isEmpty_iff.mp t.symm) W hW
          simpa using this
      · have hlt : g + 1 < 1000000 := by
          apply Int.not_le.mp
          intro hc
          have := hgen (g + 1) hc
          have : (L.filter fun W => !genW W (tt V pl (g + 1) V.length)) = [] := List.filter_eq_nil_iff.mpr fun W hW => by rw [this W hW]; decide
          rw [this] at t
          cases t
        exact sx_nil ⟨m - 1, by omega, g + 1, _, _, o6, rfl, by omega, hlt, by omega⟩

/-! ### unimodular_parts -/
/-- the open places of a part -/
def negs (W : List (List Int)) (t : List Int) : List Int := ((List.range W.length).filter fun k => decide (((wts W t).getD k (0, 0)).1 < 0)).map fun (k : Nat) => (k : Int)
structure MathU (Inv : List (List Int) → Prop) : Prop where
  leaf : ∀ D V L, Inv V → Fine D V L → L.length ≤ sizeLine ∧ ∀ W ∈ L, Inv W ∧ W.length = V.length
  gen : ∀ D V L, Inv V → Fine D V L → ∀ pl (f : Int), 1000000 ≤ f → ∀ W ∈ L, genW W (tt V pl f V.length) = true
def getC : List PyData → List Int × List (List Int) × List Int
  | [.tuple [p, v, pl]] => (unT p, unTT v, unT pl)
  | _ => ([], [], [])
theorem getC_D (p : List Int) (V : List (List Int)) (pl : List Int) : getC [coneD p V pl] = (p, V, pl) := by
  show (unT (tI p), unTT (.tuple (V.map tI)), unT (tI pl)) = _
  rw [unT_tI, unT_tI, show unTT (.tuple (V.map tI)) = V from unTs V]
def inUni (Inv : List (List Int) → Prop) (D : Nat) : List PyData → Prop := fun ds => ∃ p V pl, ds = [coneD p V pl] ∧ ConeOk p V pl ∧ Inv V ∧ (dt V).natAbs ≤ D
def UniR (D : Nat) (p : List Int) (V : List (List Int)) (pl : List Int) (d : PyData) : Prop := ∃ L, ∃ f : Int, Fine D V L ∧ 2 ≤ f ∧ (∀ W ∈ L, genW W (tt V pl f V.length) = true) ∧ d = .tuple (L.map fun W => coneD p W (negs W (tt V pl f V.length)))
def outUni (D : Nat) : List PyData → PyData → Prop := fun ds d => UniR D (getC ds).1 (getC ds).2.1 (getC ds).2.2 d
theorem ok_uni {Inv : List (List Int) → Prop} (M : MathF Inv) (M2 : MathU Inv) {D : Nat} {f1 f2 f3 f4 : Addr} {fd1 fd2 fd3 fd4 : FuncData} (G : Fun K "unimodular_parts" "unimodular_parts" (topS 27) f fd)
    (G1 : GWts P w K mg base f1 fd1) (hm1 : mg "weights_of" = some (.ref f1)) (hk1 : PySem.W.keepIn K (.ref f1) = true) (hb1 : Binds K fd1 ["vectors", "way"] [])
    (G2 : FnD P w K mg base 3 f2 fd2 ["cone"] 1 (fun ds => ∃ p V pl, ds = [coneD p V pl] ∧ ConeOk p V pl) (fun _ => .none)) (hm2 : mg "need_cone" = some (.ref f2)) (hk2 : PySem.W.keepIn K (.ref f2) = true) (hb2 : Binds K fd2 ["cone"] [])
    (G3 : FnOk P w K mg base CX0 (D + 6) f3 fd3 ["vectors"] (spR K 1 (inFine Inv D) (outFine D))) (hm3 : mg "fine_parts" = some (.ref f3)) (hk3 : PySem.W.keepIn K (.ref f3) = true) (hb3 : Binds K fd3 ["vectors"] [])
    (G4 : FnOk P w K mg base CX0 5 f4 fd4 ["vectors", "places", "parts"] (spR K 3 inGen outGen)) (hm4 : mg "generic_in" = some (.ref f4)) (hk4 : PySem.W.keepIn K (.ref f4) = true) (hb4 : Binds K fd4 ["vectors", "places", "parts"] [])
    (ml : mg "len" = none) (mr : mg "range" = none) (mt : mg "tuple" = none) :
    FnOk P w K mg base CX0 (D + 7) f fd ["cone"] (spR K 1 (inUni Inv D) (outUni D)) := by
  refine fn_data G sc_uni rfl (fun ds h => ?_) (fun A ds hr h => ?_)
  · obtain ⟨p, V, pl, rfl, _⟩ := h; rfl
  · obtain ⟨p, V, pl, rfl, hc, hI, hD⟩ := h
    have h1 := hc.sq.1
    have h3 := hc.sq.2.1
    refine sx_ex (ev_call G2 (hr.mono (by omega)) hm2 hk2 hb2 (av_cons (ex_name 0) ea_nil) ⟨p, V, pl, rfl, hc⟩) ?_
    refine sx_unp1 (d := .tuple [tI p, .tuple (V.map tI), tI pl]) (ex_name 0) (tgt_tup3 1 2 3 sc_uni.nd) ?_
    refine sx_parOwn (S1 := fun d => ∃ L, d = .list (L.map encV) ∧ Fine D V L) 4 5 sc_uni.nd (ex_call G3 hr hm3 hk3 hb3 (av_cons (ex_name 2) ea_nil) rfl fun ds e => ?_) (fun _ => rfl) fun d e => ?_
    · subst e
      refine ⟨rfl, ⟨true, V, rfl, hI, hD⟩, fun d h => ?_⟩
      obtain ⟨L, rfl, hf⟩ := h
      rw [show getSq [.tuple (V.map tI)] = V from unTs V] at hf
      exact ⟨L, rfl, hf⟩
    obtain ⟨L, rfl, hF⟩ := e
    obtain ⟨hLs, hLW⟩ := M2.leaf D V L hI hF
    refine sx_set (S := fun d => ∃ g : Int, 2 ≤ g ∧ d = tI (tt V pl g V.length) ∧ ∀ W ∈ L, genW W (tt V pl g V.length) = true) 6 sc_uni.nd (ex_call G4 (hr.mono (by omega)) hm4 hk4 hb4 (av_cons (ex_name 2) (av_cons (ex_name 3) (av_cons (ex_name 4) ea_nil))) rfl fun ds e => ?_) fun d h => ?_
    · subst e
      refine ⟨rfl, ⟨V, pl, L, rfl, hc.sqS, hc.pll, hLs, fun W hW => ⟨(M.bok W (hLW W hW).1).1, (hLW W hW).2⟩, M2.gen D V L hI hF pl⟩, fun d h => ?_⟩
      obtain ⟨g, hg, hd, hw⟩ := h
      rw [show get0 [.tuple (V.map tI), tI pl, .list (L.map encV)] = V from unTs V, show get1 [.tuple (V.map tI), tI pl, .list (L.map encV)] = pl from unT_tI pl] at hd hw
      rw [show get2 [.tuple (V.map tI), tI pl, .list (L.map encV)] = L from unTTs L] at hw
      exact ⟨g, hg, hd, hw⟩
    obtain ⟨g, hg, rfl, hgen⟩ := h
    have htl := tt_len hc.sq.2.2 (pl := pl) (f := g) V.length (Nat.le_refl _)
    refine sx_for (ei_list (S := fun ds => ds = L.map encV) ((ex_name 4).weak fun d e => ⟨_, e, rfl⟩)) fun ds e => ?_
    subst e
    refine ⟨fun i ρ' => ∃ o7 o8, ρ' = [some (.im (coneD p V pl)), some (.im (tI p)), some (.im (.tuple (V.map tI))), some (.im (tI pl)), some (.im (.list (L.map encV))), some (.ow ((L.take i).map fun W => coneD p W (negs W (tt V pl g V.length)))), some (.im (tI (tt V pl g V.length))), o7, o8, none], ⟨none, none, rfl⟩, fun i d ρ' hd h => ?_, fun ρ' h => ?_⟩
    · obtain ⟨o7, o8, rfl⟩ := h
      rw [List.getElem?_map] at hd
      cases hx : L[i]? with
      | none => rw [hx] at hd; cases hd
      | some W =>
        rw [hx] at hd
        have e : encV W = d := Option.some.inj hd
        subst e
        have hW := List.mem_of_getElem? hx
        have hil := (List.getElem?_eq_some_iff.mp hx).1
        obtain ⟨hWI, hWl⟩ := hLW W hW
        refine ⟨_, _, tgt_name 7 sc_uni.nd, ?_⟩
        refine sx_set 8 sc_uni.nd (EV.is (ev_call G1 (hr.mono (by omega)) hm1 hk1 hb1 (av_cons (ex_name 7) (av_cons (ex_name 6) ea_nil)) ⟨false, W, _, rfl, (M.bok W hWI).1, by rw [htl, hWl]⟩) (F_wts_ints false W _)) fun d e => ?_
        subst e
        refine sx_app 5 (EV.is (ev_tup (av_cons (ex_name 1) (av_cons (ev_tupleL (ds := W.map tI) mt (ex_name 7)) (av_cons (ev_tupleL (ds := (negs W (tt V pl g V.length)).map .int) mt (ex_lc [("k", 9)] sc_uni.nd (ei_range1 (n := (W.length : Int)) mr (EV.is (ev_lenL (ds := W.map tI) ml (ex_name 7)) (by rw [List.length_map])) (by omega) (by omega)) fun ds e => ?_)) ea_nil)))) (d' := coneD p W (negs W (tt V pl g V.length))) rfl) ?_ fun d e => ?_
        · refine turns_filter (xs := List.range W.length) (enc := fun (i : Nat) => .int (0 + (i : Int))) (p := fun k => decide (((wts W (tt V pl g V.length)).getD k (0, 0)).1 < 0)) (f := fun (k : Nat) => .int (0 + (k : Int))) e (le_size (by rw [List.length_range]; omega)) (fun k hk => ⟨_, _, tgt_name 9 sc_uni.nd, by decide, ?_, fun _ => ex_name 9⟩) ?_
          · refine tv_lt (i := ((wts W (tt V pl g V.length)).getD k (0, 0)).1) (j := 0) (ev_ixT (ds := [.int ((wts W (tt V pl g V.length)).getD k (0, 0)).1, .int ((wts W (tt V pl g V.length)).getD k (0, 0)).2]) (ev_ixT (ds := (wts W (tt V pl g V.length)).map tR) (x := tR ((wts W (tt V pl g V.length)).getD k (0, 0))) (ex_name 8) (ex_name 9) ?_) ex_int rfl) ex_int
            rw [Int.zero_add]
            exact getR (by rw [wts_len]; exact List.mem_range.mp hk)
          · show PyData.list _ = PyData.list _
            unfold negs
            rw [List.map_map]
            congr 1
            refine List.map_congr_left fun k _ => ?_
            show PyData.int (0 + (k : Int)) = PyData.int (k : Int)
            rw [Int.zero_add]
        · rw [List.length_map, List.length_take]
          omega
        · subst e
          exact sx_nil ⟨some (.im (encV W)), some (.im (.tuple ((wts W (tt V pl g V.length)).map tR))), by rw [List.take_add_one, hx, List.map_append]; rfl⟩
    · obtain ⟨o7, o8, rfl⟩ := h
      refine sx_freeze 5 (sx_ret (EX.weak (ev_tupleL mt (ex_name 5)) fun d e => ?_))
      show UniR D (getC [coneD p V pl]).1 (getC [coneD p V pl]).2.1 (getC [coneD p V pl]).2.2 d
      rw [getC_D]
      refine ⟨L, g, hF, hg, hgen, ?_⟩
      rw [e, List.length_map, List.take_length]
end
end Lp

/-! LqC: the law's row: taken, signed, pick. -/
namespace Lp
open PySem PySem.Spec L2

/-! ### expressions that change nothing -/
def De (F : Fx) (e : Expr) (σ : L2.St) (H : Hp) (v : V) : Prop := ∃ t : TE, (∀ v', PE (F.cx v') e t) ∧ ∀ Q : VK, Q v H → t σ H Q
section
variable {F : Fx} {σ : L2.St} {H : Hp} {a b : Expr} {pos : Pos} {i j : Int}
theorem de_name {x : Str} {v : V} (n : Nat) (hs : σ[n]? = some (some v) := by rfl) (hN : F.N[n]? = some x := by rfl) (hv : Vis F.sc x := by first | exact Or.inl rfl | exact Or.inr (Or.inl rfl) | exact Or.inr (Or.inr rfl))
    (hd : (x == ("__debug__" : Str)) = false := by decide) (hcd : (x == ("__classdict__" : Str)) = false := by decide) : De F (.Name x pos) σ H v :=
  ⟨tVar n, fun _ => pe_var hN hv hd hcd, fun Q q => ⟨v, hs, q⟩⟩
theorem de_int {j pos} : De F (.Constant (.int i) j pos) σ H (.int i) := ⟨_, fun _ => pe_int, fun Q q => q⟩
theorem de_op {op : Operator} {r : R2} {x y z : V} (ho : ∀ v, OpR (F.cx v) (binaryOp op) r) (ha : De F a σ H x) (hb : De F b σ H y) (h : ∀ Q : VK, Q z H → r x y H Q) : De F (.BinOp a op b pos) σ H z := by
  obtain ⟨t1, p1, q1⟩ := ha
  obtain ⟨t2, p2, q2⟩ := hb
  exact ⟨tOp r t1 t2, fun v => pe_op (ho v) (p1 v) (p2 v), fun Q q => q1 _ (q2 _ (h Q q))⟩
theorem de_add (ha : De F a σ H (.int i)) (hb : De F b σ H (.int j)) : De F (.BinOp a .Add b pos) σ H (.int (i + j)) := de_op (fun _ => op_add) ha hb fun Q q => ⟨i, j, rfl, rfl, q⟩
theorem de_sub (ha : De F a σ H (.int i)) (hb : De F b σ H (.int j)) : De F (.BinOp a .Sub b pos) σ H (.int (i - j)) := de_op (fun _ => op_sub) ha hb fun Q q => ⟨i, j, rfl, rfl, q⟩
theorem de_mul (ha : De F a σ H (.int i)) (hb : De F b σ H (.int j)) (h : CMul i j) : De F (.BinOp a .Mult b pos) σ H (.int (i * j)) := de_op (fun _ => op_mul) ha hb fun Q q => ⟨i, j, rfl, rfl, h, q⟩
theorem de_mod (ha : De F a σ H (.int i)) (hb : De F b σ H (.int j)) (h : j ≠ 0) : De F (.BinOp a .Mod b pos) σ H (.int (i.fmod j)) := de_op (fun _ => op_modN) ha hb fun Q q => ⟨i, j, rfl, rfl, h, q⟩
theorem de_div (ha : De F a σ H (.int i)) (hb : De F b σ H (.int j)) (h : CDivN i j) : De F (.BinOp a .FloorDiv b pos) σ H (.int (i.fdiv j)) := de_op (fun _ => op_fdivN) ha hb fun Q q => ⟨i, j, rfl, rfl, h, q⟩
theorem de_pow (ha : De F a σ H (.int i)) (hb : De F b σ H (.int j)) (h : CPow i j) : De F (.BinOp a .Pow b pos) σ H (.int (i ^ j.toNat)) := de_op (fun _ => op_pow) ha hb fun Q q => ⟨i, j, rfl, rfl, h, q⟩
theorem de_ix {p : Addr} {xs : List V} {v : V} (ha : De F a σ H (.ref p)) (hb : De F b σ H (.int i)) (hl : SqL F.K H p xs) (hx : atI xs i = some v) (hs : PlainIx b := by exact fun _ _ => rfl) : De F (.Subscript a b pos) σ H v := by
  obtain ⟨t1, p1, q1⟩ := ha
  obtain ⟨t2, p2, q2⟩ := hb
  exact ⟨tOp (rIxL F.K) t1 t2, fun v => pe_ix ix_list (p1 v) (p2 v) hs, fun Q q => q1 _ (q2 _ ⟨p, xs, i, v, rfl, rfl, hl, hx, q⟩)⟩
theorem de_callInt {p : Pos} (hm : F.mg "int" = none) (h : De F a σ H (.int i)) (hg : F.sc.names.lookup ("int" : Str) = some .globalImplicit := by rfl) (he : ∀ v, starEach [a] (F.cx v).env = (false, eval a (F.cx v).env) :: starEach [] (F.cx v).env := by intro _; rfl) : De F (.Call (.Name "int" p) [a] [] pos) σ H (.int i) := by
  obtain ⟨t1, p1, q1⟩ := h
  exact ⟨_, fun v => pe_callTy call_int1 hg hm (by decide +kernel) (pa_cons (p1 v) pa_nil (he v)) (by decide) (by decide) (he v) (by rfl), fun Q q => q1 _ (.inl ⟨i, rfl, q⟩)⟩
theorem de_len {p : Pos} {l : Addr} {xs : List V} (hm : F.mg "len" = none) (h : De F a σ H (.ref l)) (hl : SqL F.K H l xs) (hg : F.sc.names.lookup ("len" : Str) = some .globalImplicit := by rfl) (he : ∀ v, starEach [a] (F.cx v).env = (false, eval a (F.cx v).env) :: starEach [] (F.cx v).env := by intro _; rfl) : De F (.Call (.Name "len" p) [a] [] pos) σ H (.int xs.length) := by
  obtain ⟨t1, p1, q1⟩ := h
  exact ⟨tCB (fun xs H Q => ∃ p ys, xs = [.ref p] ∧ (SqL F.K H p ys ∨ SqT F.K H p ys) ∧ Q (.int ys.length) H) (tCons t1 tNil), fun v => pe_callB (id := "len") call_len_seq hg hm (by decide +kernel) (pa_cons (p1 v) pa_nil (he v)) (by decide) (by decide) (he v) (by rfl), fun Q q => q1 _ ⟨l, xs, rfl, .inl hl, q⟩⟩
/-- tests -/
def Dt (F : Fx) (e : Expr) (σ : L2.St) (H : Hp) (b : Bool) : Prop := ∃ t : TT, (∀ v', PT (F.cx v') e t) ∧ ∀ Q : Bool → Hp → Prop, Q b H → t σ H Q
theorem dt_cmp {op : CmpOp} {g : Int → Int → Bool} (ho : ∀ v, OpR (F.cx v) (compareOp op) (rI0 fun i j => .bl (g i j))) (ha : De F a σ H (.int i)) (hb : De F b σ H (.int j)) (hm : behindInMarks op b = false) : Dt F (.Compare a [op] [b] pos) σ H (g i j) := by
  obtain ⟨t1, p1, q1⟩ := ha
  obtain ⟨t2, p2, q2⟩ := hb
  exact ⟨tTest (tOp _ t1 t2), fun v => pt_cmpR (ho v) (p1 v) (p2 v) hm, fun Q q => q1 _ (q2 _ ⟨i, j, rfl, rfl, g i j, rfl, q⟩)⟩
/-! statements -/
variable {D : Ends} {e : Expr} {rest : List Stmt}
theorem ws_set {x : Str} {pos' : Pos} {v : V} (n : Nat) (hN : F.N.Nodup) (he : De F e σ H v) (k : wS F rest D (σ.set n (some v)) H) (hi : F.N[n]? = some x := by rfl) (hx : Loc F.sc x := by first | exact Or.inl rfl | exact Or.inr rfl)
    (hs : ∀ v, swapsWith e (some (.Name x pos')) pos.line (F.cx v).env = pure false := by intro _; rfl) (hf : F.fn x = true ∨ F.sc.names.lookup x = some .local := by first | exact .inl rfl | exact .inr rfl) : wS F (.Assign [.Name x pos'] e pos :: rest) D σ H := by
  obtain ⟨t, p, q⟩ := he
  exact ⟨tSeq (tAsg t (gName n)) (wS F rest), fun v' => pss_cons (ps_set hN hi hx (p v') (hs v') hf) pss_w, q _ k⟩
theorem ws_setIx {o ie : Expr} {tpos : Pos} {v : V} {p : Addr} {xs : List V} {k : Int} {m : Nat} (he : De F e σ H v) (ho : De F o σ H (.ref p)) (hi : De F ie σ H (.int k)) (hp : H p = some (.lst xs)) (hk : ixN xs.length k = some m) (kk : wS F rest D σ (upd H p (.lst (xs.set m v))))
    (hs : ∀ v, swapsWithSole [.Subscript o ie tpos] e pos.line (F.cx v).env = pure false := by intro _; rfl) (hw : ∀ v, swappedStores [.Subscript o ie tpos] e (F.cx v).env = pure none := by intro _; rfl) (h1 : ∀ v, (assignEach [.Subscript o ie tpos] (F.cx v).env).map (·.2) = [assign (.Subscript o ie tpos) (F.cx v).env] := by intro _; rfl)
    (ha : ∀ (v' : Vr) v, assign (.Subscript o ie tpos) (F.cx v').env v = (do
      let ov ← holding [v] (eval o (F.cx v').env)
      let iv ← holding [v, ov] (eval ie (F.cx v').env)
      standAt tpos
      holding [v, ov, iv] (setItem ov iv v)
      release [v, ov, iv] []) := by intro _ _; rfl) : wS F (.Assign [.Subscript o ie tpos] e pos :: rest) D σ H := by
  obtain ⟨t1, p1, q1⟩ := he
  obtain ⟨t2, p2, q2⟩ := ho
  obtain ⟨t3, p3, q3⟩ := hi
  exact ⟨tSeq (tAsg t1 (gSub t2 t3 rSetL)) (wS F rest), fun v' => pss_cons (ps_asg (p1 v') (pg_sub (p2 v') (p3 v') set_list (ha v')) (hs v') (hw v') (h1 v')) pss_w, q1 _ (q2 _ (q3 _ ⟨p, xs, k, m, rfl, rfl, hp, hk, kk⟩))⟩
theorem ws_if {c : Expr} {aa bb : List Stmt} {b : Bool} (hc : Dt F c σ H b) (h1 : b = true → wS F aa { D with nx := wS F rest D } σ H) (h2 : b = false → wS F bb { D with nx := wS F rest D } σ H) : wS F (.If c aa bb pos :: rest) D σ H := by
  obtain ⟨t, p, q⟩ := hc
  refine ⟨tSeq (tIfS t (wS F aa) (wS F bb)) (wS F rest), fun v' => pss_cons (ps_if (p v') pss_w pss_w) pss_w, q _ ?_⟩
  cases b with
  | true =>
    rw [if_pos rfl]
    exact h1 rfl
  | false =>
    rw [if_neg Bool.false_ne_true]
    exact h2 rfl
theorem ws_nil (h : D.nx σ H) : wS F [] D σ H := ⟨tNext, fun _ => pss_nil, h⟩
theorem ws_ret {v : V} (he : De F e σ H v) (h : D.rt v H) : wS F (.Return (some e) pos :: rest) D σ H := by
  obtain ⟨t, p, q⟩ := he
  exact ⟨tSeq (tRet t) (wS F rest), fun v' => pss_cons (ps_ret (p v')) pss_w, q _ h⟩
end

/-! ### what a def of the row promises -/
def spRow (K : PySem.W.Frag) (n : Nat) (Pre : List PyData → Prop) (R : List PyData → PyData → Prop) : Sp := fun vs H Q _ => vs.length = n + 1 ∧ ∃ r vs' Hk ds, vs = .ref r :: vs' ∧ Ex Hk H ∧ RowOk K Hk H r ∧ Iss K Hk vs' ds ∧ Pre ds ∧
  ∀ v d Hk' H', Ex Hk Hk' → (∀ a o, H a = some o → a ≠ r → H' a = some o) → Ex Hk' H' → (∀ a o, Hk' a = some o → Hk a = none → H a = none) → RowOk K Hk' H' r → Is K Hk' v d → R ds d → Q v H'
section
variable {K : PySem.W.Frag} {rw' : Option Addr} {Hk0 H0 Hk H Hk' H' : Hp} {σ : L2.St} {ρ : Dn}
theorem Cfg.stepR {r : Addr} (c : Cfg K (some r) Hk0 H0 Hk H σ ρ) (a : Ex Hk Hk') (b : ∀ x o, H x = some o → x ≠ r → H' x = some o) (d : Ex Hk' H') (f : ∀ x o, Hk' x = some o → Hk x = none → H x = none) (w : RowOk K Hk' H' r) : Cfg K (some r) Hk0 H0 Hk' H' σ ρ := by
  have no : ∀ x o, H x = some o → Hk x = none → Hk' x = none := fun x o h n => by
    cases q : Hk' x with
    | none => rfl
    | some u =>
      have := f x u q n
      rw [this] at h; cases h
  refine ⟨c.e1.trans a, fun x o h n => b x o (c.e2 x o h n) fun e => n (by rw [e]), d, fun x o h n => ?_, fun r' e => ?_, fun i d' e => ?_, fun i ds e => ?_, c.row, c.one, c.len⟩
  · cases q : Hk x with
    | some u => exact c.fr x u q n
    | none =>
      have h1 := f x o h q
      cases q2 : H0 x with
      | none => rfl
      | some u =>
        by_cases hr : some r = some x
        · obtain ⟨_, _, _, _, _, _, _, _, _, _, h2⟩ := c.rk x hr
          rw [h1] at h2; cases h2
        · have := c.e2 x u q2 hr
          rw [h1] at this; cases this
  · cases e
    exact ⟨(c.rk r rfl).1, w⟩
  · obtain ⟨v, h1, h2⟩ := c.im i d' e
    exact ⟨v, h1, Is.mono a _ _ h2⟩
  · obtain ⟨p, vs, h1, h2, h3, h4, h5⟩ := c.ow i ds e
    exact ⟨p, vs, h1, h2, no p _ h4 h3, b p _ h4 (fun e => c.nrow h2 (by rw [e])), Iss.mono a _ _ h5⟩
end
def startRw (N : List Str) (ds : List PyData) : Dn := some .row :: (ds.map (fun d => some (.im d)) ++ List.replicate (N.length - (ds.length + 1)) none)
section
variable {P : Program} {w : World} {K : PySem.W.Frag} {mg : Str → Option Value} {base : Heap}
theorem cfg_startRw {N : List Str} {ds : List PyData} {vs : List V} {Hk H : Hp} {r : Addr} (e : Ex Hk H) (rk : RowOk K Hk H r) (h : Iss K Hk vs ds) : Cfg K (some r) Hk H Hk H (L2.start N (.ref r :: vs)) (startRw N ds) := by
  have gl : ∀ {i : Nat} {e : En}, (startRw N ds)[i]? = some (some e) → (i = 0 ∧ e = .row) ∨ ∃ j d, i = j + 1 ∧ ds[j]? = some d ∧ e = .im d := by
    intro i e h
    cases i with
    | zero =>
      left
      exact ⟨rfl, by unfold startRw at h; cases h; rfl⟩
    | succ j =>
      right
      unfold startRw at h
      rw [List.getElem?_cons_succ] at h
      by_cases hi : j < ds.length
      · rw [List.getElem?_append_left (by rw [List.length_map]; exact hi), List.getElem?_map] at h
        obtain ⟨d, hd⟩ : ∃ d, ds[j]? = some d := ⟨ds[j], by simp [hi]⟩
        rw [hd] at h
        exact ⟨j, d, rfl, hd, by cases h; rfl⟩
      · rw [List.getElem?_append_right (by rw [List.length_map]; omega), List.getElem?_replicate] at h
        split at h <;> cases h
  refine ⟨.refl _, fun a o h _ => h, e, fun a o h n => (by rw [n] at h; cases h), fun r' z => ?_, fun i d q => ?_, fun i es q => ?_, fun i q => ?_, fun i j es es' q => ?_, ?_⟩
  · cases z
    obtain ⟨_, _, _, _, _, _, _, _, _, h2⟩ := id rk
    exact ⟨⟨_, h2⟩, rk⟩
  · rcases gl q with ⟨_, e'⟩ | ⟨j, d', rfl, hd, e'⟩
    · cases e'
    · cases e'
      obtain ⟨v, hv, iv⟩ := h.get hd
      refine ⟨v, ?_, iv⟩
      unfold L2.start
      rw [List.map_cons, List.cons_append, List.getElem?_cons_succ, List.getElem?_append_left (by rw [List.length_map]; exact (List.getElem?_eq_some_iff.mp hv).1), List.getElem?_map, hv]
      rfl
  · rcases gl q with ⟨_, e'⟩ | ⟨j, d', rfl, hd, e'⟩ <;> cases e'
  · rcases gl q with ⟨rfl, e'⟩ | ⟨j, d', rfl, hd, e'⟩
    · refine ⟨r, rfl, ?_⟩
      unfold L2.start
      rfl
    · cases e'
  · rcases gl q with ⟨_, e'⟩ | ⟨j, d', rfl, hd, e'⟩ <;> cases e'
  · unfold L2.start startRw
    simp only [List.length_append, List.length_map, List.length_replicate, List.length_cons, h.length]
    omega
theorem fn_row {x qual : Str} {st : Stmt} {f : Addr} {fd : FuncData} {N ps : List Str} {k n : Nat} {Pre : List PyData → Prop} {R : List PyData → PyData → Prop} (G : Fun K x qual st f fd) (S : FnScope N ps (defScope st)) (hn : ps.length = n + 1)
    (hb : ∀ (A : Around) (ds : List PyData), Room k A → Pre ds → SX (fxOf P w K mg base A N (defScope st)) (startRw N ds) (defBody st) (fun _ => R ds .none) (R ds)) : FnOk P w K mg base CX0 (k + 1) f fd ps (spRow K n Pre R) := by
  refine G.ok S (fun vs H Q E h => by rw [hn]; exact h.1) (fun cdv A outer s H vs Q E hr h => ?_)
  obtain ⟨hl, r, vs', Hk, ds, rfl, e, rk, is, hp, q⟩ := h
  have c := cfg_startRw (N := N) e rk is
  refine ⟨wS (fxOf P w K mg base _ N (defScope st)) (defBody st), pss_w (F := fxOf P w K mg base _ N (defScope st)) (v := ⟨s, H, PyProof.Rows.envOfC qual (defScope st) s.heap.objs.size f cdv, outer, PyProof.Rows.envOfC qual (defScope st) s.heap.objs.size f cdv :: outer, []⟩), ?_⟩
  refine hb _ ds hr hp _ _ _ _ _ _ { nx := fun _ H' => Q .non H', rt := Q } c (fun ρ' σ' Hk' H' e1 c1 r1 => ?_) (fun v d Hk' H' e1 c1 i r1 => ?_)
  · exact q .non .none Hk' H' e1 (fun a o h n => c1.e2 a o h (fun z => n (by cases z; rfl))) c1.e3 c1.fr (c1.rk r rfl).2 .non r1
  · exact q v d Hk' H' e1 (fun a o h n => c1.e2 a o h (fun z => n (by cases z; rfl))) c1.e3 c1.fr (c1.rk r rfl).2 i r1
end
section
variable {F : Fx} {ρ : Dn} {g x : Str} {es : List Expr} {p px pos : Pos} {Ss : List PyData → Prop} {S : PyData → Prop} {Pre : List PyData → Prop} {R : List PyData → PyData → Prop} {f : Addr} {fd : FuncData} {ps : List Str} {k n : Nat}
/-- a call with the row -/
theorem ex_callR (i : Nat) (G : FnOk F.P F.w F.K F.mg F.base CX0 k f fd ps (spRow F.K n Pre R)) (hr : Room k F.A) (hm : F.mg g = some (.ref f)) (hk : PySem.W.keepIn F.K (.ref f) = true) (hb : Binds F.K fd ps [])
    (ha : EA F ρ es Ss) (hl : es.length = n) (h : ∀ ds, Ss ds → ds.length = n ∧ Pre ds ∧ ∀ d, R ds d → S d) (hri : ρ[i]? = some (some .row) := by rfl) (hN : F.N[i]? = some x := by rfl) (hv : Vis F.sc x := by first | exact Or.inl rfl | exact Or.inr (Or.inl rfl) | exact Or.inr (Or.inr rfl))
    (hg : F.sc.names.lookup g = some .globalImplicit := by rfl) (hdb : (g == ("__debug__" : Str)) = false := by decide) (hd : (x == ("__debug__" : Str)) = false := by decide) (hcd : (x == ("__classdict__" : Str)) = false := by decide)
    (he : ∀ v, starEach (.Name x px :: es) (F.cx v).env = (false, eval (.Name x px) (F.cx v).env) :: starEach es (F.cx v).env := by intro _; rfl) (hpl : ∀ v, (backTo pos (starEach es (F.cx v).env)).any (·.1) = false := by intro _; rfl) : EX F ρ (.Call (.Name g p) (.Name x px :: es) [] pos) S :=
  ex_of (t := tCall (spRow F.K n Pre R) [] (fun _ _ _ => False) (tCons (tVar i) (wA F es))) (fun v => pe_call G hr hg hm hk hb .nil pass0 (pa_cons (pe_var hN hv hd hcd) pa_w (he v)) hdb (he v) (hpl v)) fun rw' Hk0 H0 Hk H σ Q c q => by
    obtain ⟨r, e, hs⟩ := c.row i hri
    subst e
    refine ⟨.ref r, hs, ha _ _ _ _ _ _ _ c fun vs ds Hk1 H1 e1 c1 i1 s1 => ?_⟩
    obtain ⟨h1, h2, h3⟩ := h ds s1
    refine ⟨by rw [List.append_nil, List.length_cons, i1.length, h1], r, vs, Hk1, ds, by rw [List.append_nil], c1.e3, (c1.rk r rfl).2, i1, h2, fun v d Hk' H' a b cc f' w i r' => (q.mono e1) v d Hk' H' a (c1.stepR a b cc f' w) i (h3 d r')⟩
end

section
variable {P : Program} {w : World} {K : PySem.W.Frag} {mg : Str → Option Value} {base : Heap} {f : Addr} {fd : FuncData}
abbrev N_taken : List Str := ["_law_row", "_law_many", "_law_found", "_law_cell"]
theorem sc_taken : FnScope N_taken ["_law_row", "_law_many"] (defScope (topS 30)) := ⟨rfl, rfl, rfl, by decide +kernel, rfl, by decide +kernel, by decide +kernel⟩
def inTak : List PyData → Prop := fun ds => ∃ m : Int, ds = [.int m] ∧ 1 ≤ m ∧ m < 1000
def outTak : List PyData → PyData → Prop := fun ds d => ∃ m x : Int, ds = [.int m] ∧ d = .int x ∧ 0 ≤ x ∧ x < m
theorem row_upd {Hk H : Hp} {r sc : Addr} {ns : List Int} {i s c : Int} (e : Ex Hk H) (hk : Hk r = none) (hs : SqL K Hk sc (ns.map V.int)) (hn : ns.length ≤ 63) (hi : 0 ≤ i) : Ex Hk (upd H r (.lst [.ref sc, .int i, .int s, .int c])) ∧ RowOk K Hk (upd H r (.lst [.ref sc, .int i, .int s, .int c])) r := by
  refine ⟨fun a o h => ?_, hk, sc, ns, i, s, c, hs, hn, hi, upd_same⟩
  by_cases z : a = r
  · subst z; rw [hk] at h; cases h
  · rw [upd_ne z]; exact e a o h
theorem fmod_in {a m : Int} (h : 0 < m) : 0 ≤ a.fmod m ∧ a.fmod m < m := ⟨Int.fmod_nonneg_of_pos a h, Int.fmod_lt_of_pos a h⟩
theorem ok_taken (G : Fun K "_law_taken" "_law_taken" (topS 30) f fd) (mi : mg "int" = none) (ml : mg "len" = none) :
    FnOk P w K mg base CX0 1 f fd ["_law_row", "_law_many"] (spRow K 1 inTak outTak) := by
  refine G.ok sc_taken (fun vs H Q E h => h.1) (fun cdv A outer s H vs Q E hr h => ?_)
  obtain ⟨hl, r, vs', Hk, ds, rfl, e, rk, is, ⟨m, rfl, hm1, hm2⟩, q⟩ := h
  obtain ⟨hkr, sc, ns, ii, ss, cc, hsc, hns, hii, hH⟩ := rk
  obtain ⟨v, rfl⟩ : ∃ v, vs' = [v] := by
    cases is with
    | cons i1 i2 => cases i2; exact ⟨_, rfl⟩
  have hv : v = .int m := by
    cases is with
    | cons i1 i2 => cases i1; rfl
  subst hv
  have hb : wS (fxOf P w K mg base { A with depth := A.depth + 1 } N_taken (defScope (topS 30))) (defBody (topS 30)) { nx := fun _ H' => Q .non H', rt := Q } (L2.start N_taken [.ref r, .int m]) H → _ := id
  clear hb
  refine ⟨wS (fxOf P w K mg base _ N_taken (defScope (topS 30))) (defBody (topS 30)), pss_w (F := fxOf P w K mg base _ N_taken (defScope (topS 30))) (v := ⟨s, H, PyProof.Rows.envOfC "_law_taken" (defScope (topS 30)) s.heap.objs.size f cdv, outer, PyProof.Rows.envOfC "_law_taken" (defScope (topS 30)) s.heap.objs.size f cdv :: outer, []⟩), ?_⟩
  have hm0 : m ≠ 0 := by omega
  have cd : ∀ a : Int, CDivN a m := fun a => ⟨hm0, by omega⟩
  -- the end: a number below m, with the row as told
  have fin : ∀ (x i s' c : Int) (H' : Hp), 0 ≤ x → x < m → 0 ≤ i → H' = upd H r (.lst [.ref sc, .int i, .int s', .int c]) → Q (.int x) H' := by
    intro x i s' c H' h1 h2 h3 h4
    subst h4
    obtain ⟨e', rk'⟩ := row_upd (H := H) (s := s') (c := c) e hkr hsc hns h3
    exact q (.int x) (.int x) Hk _ (.refl _) (fun a o h n => by rw [upd_ne n]; exact h) e' (fun a o h n => by rw [n] at h; cases h) rk' (.int x) ⟨m, x, rfl, rfl, h1, h2⟩
  have upd2 : ∀ {H : Hp} {u u' : HO}, upd (upd H r u) r u' = upd H r u' := by
    intro H u u'
    funext a
    by_cases z : a = r
    · subst z; rw [upd_same, upd_same]
    · rw [upd_ne z, upd_ne z, upd_ne z]
  have SL : ∀ {H' : Hp} {xs : List V}, H' r = some (.lst xs) → SqL K H' r xs := fun h => .inl (.of h)
  refine ws_if (dt_cmp (g := fun i j => decide (j < i)) (fun _ => op_gt) (de_ix (de_name 0) de_int (SL hH) rfl) de_int (nomark _)) (fun _ => ?_) fun _ => ws_nil ?_
  · refine ws_set 2 sc_taken.nd (de_mod (de_callInt mi (de_ix (de_name 0) de_int (SL hH) rfl)) (de_name 1) hm0) ?_
    refine ws_setIx (m := 3) (de_div (de_ix (de_name 0) de_int (SL hH) rfl) (de_name 1) (cd _)) (de_name 0) de_int hH rfl ?_
    refine ws_ret (de_name 2) ?_
    exact fin _ ii ss (cc.fdiv m) _ (fmod_in (by omega)).1 (fmod_in (by omega)).2 hii rfl
  · refine ws_setIx (m := 1) (de_add (de_ix (de_name 0) de_int (SL hH) rfl) de_int) (de_name 0) de_int hH rfl ?_
    have hH1 : (upd H r (.lst [.ref sc, .int (ii + 1), .int ss, .int cc])) r = some (.lst [.ref sc, .int (ii + 1), .int ss, .int cc]) := upd_same
    have e1 := (row_upd (s := ss) (c := cc) e hkr hsc hns (show 0 ≤ ii + 1 by omega)).1
    refine ws_if (b := decide (((ns.map V.int).length : Int) < ii + 1)) (dt_cmp (g := fun i j => decide (j < i)) (fun _ => op_gt) (de_ix (xs := [.ref sc, .int (ii + 1), .int ss, .int cc]) (de_name 0) de_int (SL hH1) rfl) (de_len ml (de_ix (xs := [.ref sc, .int (ii + 1), .int ss, .int cc]) (de_name 0) de_int (SL hH1) rfl) (ex_l e1 hsc)) (nomark _)) (fun _ => ?_) fun t => ws_nil ?_
    · refine ws_setIx (m := 2) (xs := [.ref sc, .int (ii + 1), .int ss, .int cc]) (de_mod (de_callInt mi (de_add (de_mul (de_ix (xs := [.ref sc, .int (ii + 1), .int ss, .int cc]) (de_name 0) de_int (SL hH1) rfl) de_int (.inr ⟨by decide, by decide⟩)) de_int)) de_int (by decide)) (de_name 0) de_int hH1 rfl ?_
      rw [upd2]
      refine ws_ret (de_mod (de_callInt mi (de_div (de_ix (xs := [.ref sc, .int (ii + 1), .int _, .int cc]) (de_name 0) de_int (SL upd_same) rfl) de_int ⟨by decide, by decide⟩)) (de_name 1) hm0) ?_
      exact fin _ (ii + 1) _ cc _ (fmod_in (by omega)).1 (fmod_in (by omega)).2 (by omega) rfl
    · have hlt : ii + 1 ≤ (ns.length : Int) := by
        have := of_decide_eq_false t
        rw [List.length_map] at this
        omega
      obtain ⟨c, hc⟩ : ∃ c, atI (ns.map V.int) (ii + 1 - 1) = some (.int c) := by
        have : ii + 1 - 1 = ((ii.toNat : Nat) : Int) := by omega
        rw [this]
        have hl' : ii.toNat < ns.length := by omega
        exact ⟨ns[ii.toNat], atI_nat (by rw [List.getElem?_map, List.getElem?_eq_getElem hl']; rfl)⟩
      refine ws_set 3 sc_taken.nd (de_ix (de_ix (xs := [.ref sc, .int (ii + 1), .int ss, .int cc]) (de_name 0) de_int (SL hH1) rfl) (de_sub (de_ix (xs := [.ref sc, .int (ii + 1), .int ss, .int cc]) (de_name 0) de_int (SL hH1) rfl) de_int) (ex_l e1 hsc) hc) ?_
      refine ws_setIx (m := 2) (xs := [.ref sc, .int (ii + 1), .int ss, .int cc]) (de_mod (de_callInt mi (de_add (de_add (de_mul (de_ix (xs := [.ref sc, .int (ii + 1), .int ss, .int cc]) (de_name 0) de_int (SL hH1) rfl) de_int (.inr ⟨by decide, by decide⟩)) (de_name 3)) de_int)) de_int (by decide)) (de_name 0) de_int hH1 rfl ?_
      rw [upd2]
      refine ws_if (dt_cmp (g := fun i j => decide (j ≤ i)) (fun _ => op_ge) (de_name 3) (de_pow de_int de_int ⟨by decide, by decide, by decide⟩) (nomark _)) (fun _ => ?_) fun _ => ws_nil ?_
      · refine ws_setIx (m := 3) (xs := [.ref sc, .int (ii + 1), .int _, .int cc]) (de_div (de_name 3) (de_name 1) (cd _)) (de_name 0) de_int upd_same rfl ?_
        refine ws_nil ?_
        show wS _ _ _ _ _
        rw [upd2]
        refine ws_ret (de_mod (de_callInt mi (de_name 3)) (de_name 1) hm0) ?_
        exact fin _ (ii + 1) _ _ _ (fmod_in (by omega)).1 (fmod_in (by omega)).2 (by omega) rfl
      · show wS _ _ _ _ _
        refine ws_ret (de_mod (de_callInt mi (de_name 3)) (de_name 1) hm0) ?_
        exact fin _ (ii + 1) _ cc _ (fmod_in (by omega)).1 (fmod_in (by omega)).2 (by omega) rfl
end
end Lp

/-! LqD: _law_signed, _law_pick, _law_gcd, _law_determinant. -/
namespace Lp
open PySem PySem.Spec L2
theorem ex_ixLi {F : Fx} {ρ : Dn} {a b : Expr} {pos : Pos} {ds : List PyData} {S : PyData → Prop} {T : Int → Prop} (ha : EV F ρ a (.list ds)) (hb : EX F ρ b (fun d => ∃ x : Int, d = .int x ∧ T x)) (h : ∀ x, T x → ∃ z, atI ds x = some z ∧ S z) (hs : PlainIx b := by exact fun _ _ => rfl) : EX F ρ (.Subscript a b pos) S :=
  ex_ix (r := rIxL F.K) (fun v => ix_list (X := F.cx v)) ha hb hs fun x y e1 e2 => by
    subst e1
    obtain ⟨i, rfl, t⟩ := e2
    obtain ⟨z, hz, s⟩ := h i t
    exact (rd_ixL hz).weak fun d e => by rw [e]; exact s
section
variable {P : Program} {w : World} {K : PySem.W.Frag} {mg : Str → Option Value} {base : Heap} {f : Addr} {fd : FuncData}
abbrev GTak (P : Program) (w : World) (K : PySem.W.Frag) (mg : Str → Option Value) (base : Heap) (f1 : Addr) (fd1 : FuncData) : Prop := FnOk P w K mg base CX0 1 f1 fd1 ["_law_row", "_law_many"] (spRow K 1 inTak outTak)
abbrev N_sgn : List Str := ["_law_row", "_law_most"]
theorem sc_sgn : FnScope N_sgn ["_law_row", "_law_most"] (defScope (topS 31)) := ⟨rfl, rfl, rfl, by decide +kernel, rfl, by decide +kernel, by decide +kernel⟩
def inSgn : List PyData → Prop := fun ds => ∃ m : Int, ds = [.int m] ∧ 0 ≤ m ∧ m < 400
def outSgn : List PyData → PyData → Prop := fun ds d => ∃ m x : Int, ds = [.int m] ∧ d = .int x ∧ -m ≤ x ∧ x ≤ m
theorem ok_sgn {f1 : Addr} {fd1 : FuncData} (G : Fun K "_law_signed" "_law_signed" (topS 31) f fd) (G1 : GTak P w K mg base f1 fd1) (hm1 : mg "_law_taken" = some (.ref f1)) (hk1 : PySem.W.keepIn K (.ref f1) = true) (hb1 : Binds K fd1 ["_law_row", "_law_many"] []) :
    FnOk P w K mg base CX0 2 f fd ["_law_row", "_law_most"] (spRow K 1 inSgn outSgn) := by
  refine fn_row G sc_sgn rfl (fun A ds hr h => ?_)
  obtain ⟨m, rfl, h0, h1⟩ := h
  refine sx_ret (ex_op (r := rI0 fun i j => .int (i - j)) (fun _ => op_sub) (Sa := fun d => ∃ x : Int, d = .int x ∧ 0 ≤ x ∧ x < 2 * m + 1) (Sb := fun d => d = .int m) (ex_callR 0 G1 hr hm1 hk1 hb1 (av_cons (ev_add (ev_mul (i := 2) ex_int (ex_name 1) (.inl ⟨by decide, by decide⟩)) ex_int) ea_nil) rfl fun ds e => ?_) (ex_name 1) fun x y e1 e2 => ?_)
  · subst e
    refine ⟨rfl, ⟨_, rfl, by omega, by omega⟩, fun d h => ?_⟩
    obtain ⟨m', x, e, rfl, h2, h3⟩ := h
    cases e
    exact ⟨x, rfl, h2, h3⟩
  · obtain ⟨x, rfl, h2, h3⟩ := e1
    subst e2
    exact rd_I0.weak fun d e => ⟨m, x - m, rfl, e, by omega, by omega⟩
abbrev N_pick : List Str := ["_law_row", "_law_things"]
theorem sc_pick : FnScope N_pick ["_law_row", "_law_things"] (defScope (topS 37)) := ⟨rfl, rfl, rfl, by decide +kernel, rfl, by decide +kernel, by decide +kernel⟩
def inPick : List PyData → Prop := fun ds => ∃ ns : List Int, ds = [.list (ns.map .int)] ∧ 1 ≤ ns.length ∧ ns.length < 1000
def outPick : List PyData → PyData → Prop := fun ds d => ∃ (ns : List Int) (x : Int), ds = [.list (ns.map .int)] ∧ d = .int x ∧ x ∈ ns
theorem ok_pick {f1 : Addr} {fd1 : FuncData} (G : Fun K "_law_pick" "_law_pick" (topS 37) f fd) (G1 : GTak P w K mg base f1 fd1) (hm1 : mg "_law_taken" = some (.ref f1)) (hk1 : PySem.W.keepIn K (.ref f1) = true) (hb1 : Binds K fd1 ["_law_row", "_law_many"] []) (ml : mg "len" = none) :
    FnOk P w K mg base CX0 2 f fd ["_law_row", "_law_things"] (spRow K 1 inPick outPick) := by
  refine fn_row G sc_pick rfl (fun A ds hr h => ?_)
  obtain ⟨ns, rfl, h0, h1⟩ := h
  refine sx_ret (ex_ixLi (T := fun x => 0 ≤ x ∧ x < ns.length) (ds := ns.map .int) (ex_name 1) (ex_callR 0 G1 hr hm1 hk1 hb1 (av_cons (ev_lenL (ds := ns.map .int) ml (ex_name 1)) ea_nil) rfl fun ds e => ?_) fun x h => ?_)
  · subst e
    refine ⟨rfl, ⟨_, rfl, by rw [List.length_map]; omega, by rw [List.length_map]; omega⟩, fun d h => ?_⟩
    obtain ⟨m', x, e, rfl, h2, h3⟩ := h
    cases e
    rw [List.length_map] at h3
    exact ⟨x, rfl, h2, h3⟩
  · obtain ⟨h2, h3⟩ := h
    have e : x = ((x.toNat : Nat) : Int) := by omega
    have hl : x.toNat < ns.length := by omega
    refine ⟨.int (ns.getD x.toNat 0), by rw [e]; exact getI hl, ns, _, rfl, rfl, ?_⟩
    rw [List.getD_eq_getElem?_getD, List.getElem?_eq_getElem hl]
    exact List.getElem_mem hl

/-! ### _law_gcd -/
abbrev N_lgcd : List Str := ["_law_one", "_law_other"]
theorem sc_lgcd : FnScope N_lgcd ["_law_one", "_law_other"] (defScope (topS 32)) := ⟨rfl, rfl, rfl, by decide +kernel, rfl, by decide +kernel, by decide +kernel⟩
theorem ok_lgcd (G : Fun K "_law_gcd" "_law_gcd" (topS 32) f fd) (m1 : mg "abs" = none) (mi : mg "int" = none) : FnD P w K mg base 1 f fd ["_law_one", "_law_other"] 2 (fun ds => ∃ a b : Int, ds = [.int a, .int b]) F_gcd := by
  refine fn_data G sc_lgcd rfl (fun ds h => ?_) (fun A ds hr h => ?_)
  · obtain ⟨a, b, rfl⟩ := h; rfl
  · obtain ⟨a, b, rfl⟩ := h
    refine sx_par 0 1 sc_lgcd.nd (ev_abs m1 (ex_name 0)) (ev_abs m1 (ex_name 1)) fun d1 d2 e1 e2 => ?_
    subst e1
    subst e2
    refine sx_while (fun m ρ' => ∃ c d : Nat, ρ' = [some (.im (.int c)), some (.im (.int d))] ∧ Nat.gcd c d = Int.gcd a b ∧ d = m) b.natAbs ⟨a.natAbs, b.natAbs, rfl, rfl, rfl⟩ fun m ρ' h => ?_
    obtain ⟨c, d, rfl, hg, rfl⟩ := h
    refine ⟨_, tv_ne (i := d) (j := 0) (ex_name 1) ex_int, fun t => ?_, fun t => ?_⟩
    · have hd : ¬ ((d : Int) = 0) := by simpa using t
      refine sx_par 0 1 sc_lgcd.nd (ex_name 1) (ev_mod (i := c) (j := d) (ev_int mi (ex_name 0)) (ex_name 1) hd) fun d1 d2 e1 e2 => ?_
      subst e1
      subst e2
      refine sx_nil ⟨c % d, Nat.mod_lt _ (by omega), d, c % d, ?_, ?_, rfl⟩
      · rw [show (c : Int).fmod d = ((c % d : Nat) : Int) by rw [Int.fmod_eq_emod_of_nonneg _ (by omega)]; rfl]
        rfl
      · rw [← hg, Nat.gcd_comm c d, Nat.gcd_rec d c, Nat.gcd_comm]
    · have hd : (d : Int) = 0 := by simpa using t
      have hd' : d = 0 := by omega
      subst hd'
      refine sx_ret (EV.is (ex_name 0) ?_)
      rw [Nat.gcd_zero_right] at hg
      show PyData.int (c : Int) = PyData.int (Int.gcd a b : Nat)
      rw [hg]

/-! ### _law_determinant -/
abbrev N_ldet : List Str := ["_law_rows", "_law_total", "_law_sign", "_law_k", "_law_rest", "_law_j"]
theorem sc_ldet : FnScope N_ldet ["_law_rows"] (defScope (topS 34)) := ⟨rfl, rfl, rfl, by decide +kernel, rfl, by decide +kernel, by decide +kernel⟩
def lI (ns : List Int) : PyData := .list (ns.map .int)
def ld : List (List Int) → Int
  | [] => 1
  | m => dt m
def restM (m : List (List Int)) (k : Nat) : List (List Int) := ((List.range m.length).filter fun j => !decide (j = k)).map fun j => (m.getD j []).drop 1
def sg : Nat → Int
  | 0 => 1
  | k + 1 => 0 - sg k
def ltot (m : List (List Int)) : Nat → Int
  | 0 => 0
  | k + 1 => ltot m k + sg k * (m.getD k []).getD 0 0 * ld (restM m k)
theorem sg_le : ∀ k, sg k = 1 ∨ sg k = -1
  | 0 => .inl rfl
  | k + 1 => by
    show 0 - sg k = 1 ∨ 0 - sg k = -1
    rcases sg_le k with h | h <;> rw [h] <;> decide
/-- square, of up to 3 rows, all small -/
def SqZ (n : Nat) (m : List (List Int)) : Prop := m.length = n ∧ n ≤ 3 ∧ (∀ r ∈ m, r.length = n) ∧ ∀ r ∈ m, ∀ x ∈ r, Sm x
theorem ltot_dt {n : Nat} {m : List (List Int)} (h : SqZ n m) (h1 : 1 ≤ n) : ltot m n = dt m := by
  obtain ⟨hl, h3, hr, hs⟩ := h
  subst hl
  refine Squ.cases (C := fun m => ltot m m.length = dt m) (fun a => ?_) (fun a b c d => ?_) (fun a b c d e f g h i => ?_) ⟨h1, h3, hr⟩
  · show 0 + 1 * a * 1 = a
    grind
  · show (0 + 1 * a * d) + (0 - 1) * c * b = a * d - b * c
    grind
  · show ((0 + 1 * a * (e * i - f * h)) + (0 - 1) * d * (b * i - c * h)) + (0 - (0 - 1)) * g * (b * f - c * e) = a * (e * i - f * h) - b * (d * i - f * g) + c * (d * h - e * g)
    grind
theorem restM_sq {n k : Nat} {m : List (List Int)} (h : SqZ (n + 1) m) (hk : k < n + 1) : SqZ n (restM m k) := by
  obtain ⟨hl, h3, hr, hs⟩ := h
  have hc : ∀ n k, k < n → ((List.range n).filter fun j => !decide (j = k)).length = n - 1 := by
    intro n
    induction n with
    | zero => intro k hk; omega
    | succ n ih =>
      intro k hk
      rw [List.range_succ, List.filter_append, List.length_append]
      by_cases e : n = k
      · subst e
        have : ∀ j ∈ List.range n, (!decide (j = n)) = true := fun j hj => by
          have := List.mem_range.mp hj
          have : j ≠ n := by omega
          simp [this]
        rw [List.filter_eq_self.mpr this, List.length_range, List.filter_cons_of_neg (by simp)]
        rfl
      · rw [ih k (by omega), List.filter_cons_of_pos (by simp [e])]
        simp
        omega
  have hin : ∀ r ∈ restM m k, ∃ r' ∈ m, r = r'.drop 1 := by
    intro r hr'
    obtain ⟨j, hj, rfl⟩ := List.mem_map.mp hr'
    have hj := List.mem_range.mp (List.mem_filter.mp hj).1
    refine ⟨m.getD j [], ?_, rfl⟩
    rw [List.getD_eq_getElem?_getD, List.getElem?_eq_getElem hj]
    exact List.getElem_mem hj
  refine ⟨?_, by omega, fun r hr' => ?_, fun r hr' x hx => ?_⟩
  · unfold restM
    rw [List.length_map, hl, hc (n + 1) k hk]
    rfl
  · obtain ⟨r', h1, rfl⟩ := hin r hr'
    rw [List.length_drop, hr r' h1]
    rfl
  · obtain ⟨r', h1, rfl⟩ := hin r hr'
    exact hs r' h1 x (List.mem_of_mem_drop hx)
theorem ld_big {n : Nat} {m : List (List Int)} (h : SqZ n m) (h2 : n ≤ 2) : -1099511627776 * 2 ≤ ld m ∧ ld m ≤ 1099511627776 * 2 := by
  obtain ⟨hl, h3, hr, hs⟩ := h
  by_cases e0 : m.length = 0
  · rw [List.length_eq_zero_iff] at e0
    subst e0
    exact ⟨by decide, by decide⟩
  · by_cases e1 : m.length = 1
    · obtain ⟨r, rfl⟩ := len1 e1
      obtain ⟨a, rfl⟩ := len1 (l := r) (by rw [hr r (by simp), ← hl]; rfl)
      have := hs [a] (by simp) a (by simp)
      show _ ≤ a ∧ a ≤ _
      exact ⟨by have := this.1; omega, by have := this.2; omega⟩
    · have e2 : m.length = 2 := by omega
      obtain ⟨r, q, rfl⟩ := len2 e2
      have en : n = 2 := by rw [← hl]; rfl
      obtain ⟨a, b, rfl⟩ := len2 (l := r) (by rw [hr r (by simp), en])
      obtain ⟨c, d, rfl⟩ := len2 (l := q) (by rw [hr q (by simp), en])
      have ha := hs [a, b] (by simp) a (by simp)
      have hb := hs [a, b] (by simp) b (by simp)
      have hc := hs [c, d] (by simp) c (by simp)
      have hd := hs [c, d] (by simp) d (by simp)
      show _ ≤ a * d - b * c ∧ a * d - b * c ≤ _
      have h1 := sm_mul ha hd
      have h2 := sm_mul hb hc
      constructor <;> omega
def unL : PyData → List (List Int)
  | .list xs => xs.map unT
  | _ => []
theorem unT_lI (a : List Int) : unT (lI a) = a := unI_ints a
theorem unL_lI (m : List (List Int)) : (m.map lI).map unT = m := by
  rw [List.map_map]
  exact List.map_id'' (fun a => unT_lI a) m
def F_ldet : List PyData → PyData
  | [.list rs] => .int (ld (rs.map unT))
  | _ => .none
theorem F_ldet_rows (m : List (List Int)) : F_ldet [.list (m.map lI)] = .int (ld m) := by
  show PyData.int (ld ((m.map lI).map unT)) = _
  rw [unL_lI]
theorem getL {m : List (List Int)} {k : Nat} (h : k < m.length) : atI (m.map lI) (k : Int) = some (lI (m.getD k [])) := by
  refine atI_nat ?_
  rw [List.getElem?_map, List.getElem?_eq_getElem h, List.getD_eq_getElem?_getD, List.getElem?_eq_getElem h]
  rfl
theorem ok_ldet (G : Fun K "_law_determinant" "_law_determinant" (topS 34) f fd) (hm : mg "_law_determinant" = some (.ref f)) (hb : Binds K fd ["_law_rows"] []) (ml : mg "len" = none) (mr : mg "range" = none) :
    ∀ n : Nat, FnD P w K mg base (n + 1) f fd ["_law_rows"] 1 (fun ds => ∃ m, ds = [.list (m.map lI)] ∧ SqZ n m) F_ldet := by
  intro n
  induction n with
  | zero =>
    refine fn_data G sc_ldet rfl (fun ds h => ?_) (fun A ds hr h => ?_)
    · obtain ⟨m, rfl, _⟩ := h; rfl
    · obtain ⟨m, rfl, hs⟩ := h
      rw [F_ldet_rows]
      obtain ⟨hl, _⟩ := hs
      rw [List.length_eq_zero_iff] at hl
      subst hl
      refine sx_ifR (tv_eq (i := 0) (j := 0) (ev_lenL (ds := []) ml (ex_name 0)) ex_int) (fun _ => sx_ret ex_int) fun z => by cases z
  | succ n ih =>
    refine fn_data G sc_ldet rfl (fun ds h => ?_) (fun A ds hr h => ?_)
    · obtain ⟨m, rfl, _⟩ := h; rfl
    · obtain ⟨m, rfl, hs⟩ := h
      rw [F_ldet_rows]
      have eld : ld m = ltot m m.length := by
        rw [hs.1, ltot_dt hs (by omega)]
        cases m with
        | nil => cases hs.1
        | cons r m => rfl
      rw [eld]
      have hn := hs.2.1
      have hl := hs.1
      refine sx_ifF (TV.is (tv_eq (i := ((m.map lI).length : Int)) (j := 0) (ev_lenL (ds := m.map lI) ml (ex_name 0)) ex_int) (by rw [List.length_map]; exact decide_eq_false (by omega))) ?_
      refine sx_unp1 (d := .tuple [.int 0, .int 1]) (ev_tup (av_cons ex_int (av_cons ex_int ea_nil))) (tgt_tup2 1 2 sc_ldet.nd) ?_
      refine sx_for (ei_range1 (n := (m.length : Int)) mr (EV.is (ev_lenL (ds := m.map lI) ml (ex_name 0)) (by rw [List.length_map])) (by omega) (by omega)) fun ds e => ?_
      subst e
      refine ⟨fun k ρ' => ∃ o3 o4, ρ' = [some (.im (.list (m.map lI))), some (.im (.int (ltot m k))), some (.im (.int (sg k))), o3, o4, none], ⟨none, none, rfl⟩, fun k x ρ' hk h => ?_, fun ρ' h => ?_⟩
      · obtain ⟨o3, o4, rfl⟩ := h
        obtain ⟨hk3, rfl⟩ := rgD_get hk
        have hk3 : k < m.length := by simpa using hk3
        rw [Int.zero_add]
        have hmk : m.getD k [] ∈ m := by
          rw [List.getD_eq_getElem?_getD, List.getElem?_eq_getElem hk3]
          exact List.getElem_mem hk3
        have hmkl := hs.2.2.1 _ hmk
        refine ⟨_, _, tgt_name 3 sc_ldet.nd, ?_⟩
        refine sx_if (M := fun ρ' => ∃ o4, ρ' = [some (.im (.list (m.map lI))), some (.im (.int (ltot m (k + 1)))), some (.im (.int (sg k))), some (.im (.int (k : Int))), o4, none]) (tv_ne (i := (m.getD k []).getD 0 0) (j := 0) (ev_ixL (ds := (m.getD k []).map .int) (ev_ixL (ds := m.map lI) (ex_name 0) (ex_name 3) (getL hk3)) ex_int (getI (k := 0) (by omega))) ex_int) (fun t => ?_) (fun t => ?_) fun ρ' h => ?_
        · refine sx_setLc (T := fun d => d = .list ((restM m k).map lI)) 4 [("_law_j", 5)] sc_ldet.nd (ei_range1 (n := (m.length : Int)) mr (EV.is (ev_lenL (ds := m.map lI) ml (ex_name 0)) (by rw [List.length_map])) (by omega) (by omega)) (fun ds e => ?_) fun d e => ?_
          · refine turns_filter (xs := List.range m.length) (enc := fun (i : Nat) => .int (0 + (i : Int))) (p := fun j => !decide (j = k)) (f := fun j => lI ((m.getD j []).drop 1)) e (le_size (by rw [List.length_range]; omega)) (fun j hj => ⟨_, _, tgt_name 5 sc_ldet.nd, by decide, ?_, fun _ => ?_⟩) ?_
            · refine TV.is (tv_ne (i := 0 + (j : Int)) (j := (k : Int)) (ex_name 5) (ex_name 3)) ?_
              congr 1
              rw [decide_eq_decide]
              omega
            · have hj' := List.mem_range.mp hj
              refine EV.is (ev_fromL (k := 1) (ds := (m.getD j []).map .int) (ev_ixL (ds := m.map lI) (ex_name 0) (ex_name 5) (by rw [Int.zero_add]; exact getL hj')) ex_int) ?_
              unfold lI
              rw [List.map_drop]
            · show PyData.list _ = PyData.list _
              unfold restM
              rw [List.map_map]
              rfl
          · subst e
            have hrq := restM_sq hs (show k < n + 1 by omega)
            refine sx_set 1 sc_ldet.nd (ev_add (ex_name 1) (ev_mul (ev_mul (ex_name 2) (ev_ixL (ds := (m.getD k []).map .int) (ev_ixL (ds := m.map lI) (ex_name 0) (ex_name 3) (getL hk3)) ex_int (getI (k := 0) (by omega))) (.inl ?_)) (EV.is (ev_call ih (hr.mono (by omega)) hm G.kp hb (av_cons (ex_name 4) ea_nil) ⟨restM m k, rfl, hrq⟩) (F_ldet_rows _)) (.inr ?_))) fun d e => ?_
            · rcases sg_le k with e | e <;> rw [e] <;> exact ⟨by decide, by decide⟩
            · have := ld_big hrq (by omega)
              exact ⟨by omega, by omega⟩
            · subst e
              exact sx_nil ⟨some (.im (.list ((restM m k).map lI))), rfl⟩
        · have z : (m.getD k []).getD 0 0 = 0 := by simpa using t
          refine sx_nil ⟨o4, ?_⟩
          have : ltot m (k + 1) = ltot m k := by
            show ltot m k + sg k * (m.getD k []).getD 0 0 * ld (restM m k) = _
            rw [z, Int.mul_zero, Int.zero_mul, Int.add_zero]
          rw [this]
          rfl
        · obtain ⟨o4', rfl⟩ := h
          refine sx_set 2 sc_ldet.nd (ev_sub ex_int (ex_name 2)) fun d e => ?_
          subst e
          exact sx_nil ⟨some (.im (.int (k : Int))), o4', rfl⟩
      · obtain ⟨o3, o4, rfl⟩ := h
        refine sx_ret (EV.is (ex_name 1) ?_)
        rw [rgD_len]
        have : ((m.length : Int)).toNat = m.length := by omega
        rw [this]
end
end Lp

/-! LqE: _law_subsets, _law_minors. -/
namespace Lp
open PySem PySem.Spec L2
abbrev N_sub : List Str := ["_law_many", "_law_size", "_law_found", "_law_k", "_law_lot"]
theorem sc_sub : FnScope N_sub ["_law_many", "_law_size"] (defScope (topS 33)) := ⟨rfl, rfl, rfl, by decide +kernel, rfl, by decide +kernel, by decide +kernel⟩
abbrev N_min : List Str := ["_law_rows", "_law_size", "_law_common", "_law_lot", "_law_columns", "_law_j", "_law_k"]
theorem sc_min : FnScope N_min ["_law_rows", "_law_size"] (defScope (topS 35)) := ⟨rfl, rfl, rfl, by decide +kernel, rfl, by decide +kernel, by decide +kernel⟩
def sbs (s : Nat) : Nat → List (List Int)
  | 0 => [[]]
  | k + 1 => sbs s k ++ ((sbs s k).filter fun l => decide (l.length < s)).map fun l => l ++ [(k : Int)]
theorem sbs_len (s : Nat) : ∀ k, (sbs s k).length ≤ 2 ^ k
  | 0 => Nat.le_refl 1
  | k + 1 => by
    show (sbs s k ++ _).length ≤ _
    have h := sbs_len s k
    have h2 := List.length_filter_le (fun l : List Int => decide (l.length < s)) (sbs s k)
    rw [List.length_append, List.length_map, Nat.pow_succ]
    omega
theorem sbs_row (s : Nat) : ∀ k, ∀ l ∈ sbs s k, l.length ≤ k
  | 0, l, h => by
    rw [List.mem_singleton.mp h]
    exact Nat.le_refl _
  | k + 1, l, h => by
    rcases List.mem_append.mp h with h | h
    · exact Nat.le_succ_of_le (sbs_row s k l h)
    · obtain ⟨l', h', rfl⟩ := List.mem_map.mp h
      have := sbs_row s k l' (List.mem_filter.mp h').1
      rw [List.length_append]
      simp
      exact this
def subs (n s : Nat) : List (List Int) := (sbs s n).filter fun l => decide (l.length = s)
theorem subs_ok : ∀ n : Fin 4, ∀ s : Fin 4, ∀ l ∈ subs n.1 s.1, l.length = s.1 ∧ ∀ x ∈ l, 0 ≤ x ∧ x < (n.1 : Int) := by decide +kernel
theorem subs_in {n s : Nat} (hn : n ≤ 3) (hs : s ≤ 3) {l : List Int} (h : l ∈ subs n s) : l.length = s ∧ ∀ x ∈ l, 0 ≤ x ∧ x < (n : Int) := subs_ok ⟨n, by omega⟩ ⟨s, by omega⟩ l h
theorem subs_same : ∀ s : Fin 4, subs s.1 s.1 = [(List.range s.1).map fun (i : Nat) => (i : Int)] := by decide +kernel
def inSub : List PyData → Prop := fun ds => ∃ n s : Nat, ds = [.int (n : Int), .int (s : Int)] ∧ n ≤ 3 ∧ 1 ≤ s ∧ s ≤ 3
def outSub : List PyData → PyData → Prop := fun ds d => ∃ (n s : Nat) (l : List (List Int)), ds = [.int (n : Int), .int (s : Int)] ∧ d = .list (l.map tI) ∧ l.Perm (subs n s)
section
variable {P : Program} {w : World} {K : PySem.W.Frag} {mg : Str → Option Value} {base : Heap} {f : Addr} {fd : FuncData}
theorem ok_sub (G : Fun K "_law_subsets" "_law_subsets" (topS 33) f fd) (ml : mg "len" = none) (mr : mg "range" = none) (mso : mg "sorted" = none) :
    FnOk P w K mg base CX0 1 f fd ["_law_many", "_law_size"] (spR K 2 inSub outSub) := by
  refine fn_data G sc_sub rfl (fun ds h => ?_) (fun A ds hr h => ?_)
  · obtain ⟨n, s, rfl, _⟩ := h; rfl
  · obtain ⟨n, s, rfl, hn, hs1, hs3⟩ := h
    have cap : ∀ k, k ≤ 3 → (sbs s k).length ≤ 8 := fun k hk => Nat.le_trans (sbs_len s k) (by
      have : 2 ^ k ≤ 2 ^ 3 := Nat.pow_le_pow_right (by decide) hk
      exact this)
    refine sx_set 2 sc_sub.nd (ev_lst (av_cons (ev_tup ea_nil) ea_nil)) fun d e => ?_
    subst e
    refine sx_for (ei_range1 (n := (n : Int)) mr (ex_name 0) (by omega) (by omega)) fun ds e => ?_
    subst e
    refine ⟨fun k ρ' => ∃ o3, ρ' = [some (.im (.int (n : Int))), some (.im (.int (s : Int))), some (.im (.list ((sbs s k).map tI))), o3, none], ⟨none, rfl⟩, fun k x ρ' hk h => ?_, fun ρ' h => ?_⟩
    · obtain ⟨o3, rfl⟩ := h
      obtain ⟨hk3, rfl⟩ := rgD_get hk
      have hk3 : k < n := by simpa using hk3
      rw [Int.zero_add]
      have hc := cap k (by omega)
      refine ⟨_, _, tgt_name 3 sc_sub.nd, ?_⟩
      refine sx_set 2 sc_sub.nd (ev_cat (ds := (sbs s k).map tI) (es := (((sbs s k).filter fun l => decide (l.length < s)).map fun l => tI (l ++ [(k : Int)]))) (ex_name 2) (ex_lc [("_law_lot", 4)] sc_sub.nd (ei_list (S := fun ds => ds = (sbs s k).map tI) ((ex_name 2).weak fun d e => ⟨_, e, rfl⟩)) fun ds e => ?_) ?_) fun d e => ?_
      · refine turns_filter (xs := sbs s k) (enc := tI) (p := fun l => decide (l.length < s)) (f := fun l => tI (l ++ [(k : Int)])) e (le_size (by omega)) (fun l hl => ⟨_, _, tgt_name 4 sc_sub.nd, by decide, ?_, fun _ => ?_⟩) rfl
        · refine TV.is (tv_lt (ev_lenT (ds := l.map .int) ml (ex_name 4)) (ex_name 1)) ?_
          rw [List.length_map, decide_eq_decide]
          omega
        · refine EV.is (ev_catT (ds := l.map .int) (es := [.int (k : Int)]) (ex_name 4) (ev_tup (av_cons (ex_name 3) ea_nil)) (le_size ?_)) ?_
          · have := sbs_row s k l hl
            rw [List.length_map, List.length_cons, List.length_nil]
            omega
          · unfold tI
            rw [List.map_append]
            rfl
      · refine le_size ?_
        have := List.length_filter_le (fun l : List Int => decide (l.length < s)) (sbs s k)
        rw [List.length_map, List.length_map]
        omega
      · subst e
        refine sx_nil ⟨some (.im (.int (k : Int))), ?_⟩
        have : (sbs s k).map tI ++ ((sbs s k).filter fun l => decide (l.length < s)).map (fun l => tI (l ++ [(k : Int)])) = (sbs s (k + 1)).map tI := by
          show _ = List.map tI (sbs s k ++ _)
          rw [List.map_append, List.map_map]
          rfl
        rw [this]
        rfl
    · obtain ⟨o3, rfl⟩ := h
      rw [rgD_len]
      have : ((n : Int)).toNat = n := by omega
      rw [this]
      refine sx_ret (EX.weak (ex_sortT (nss := subs n s) mso (ex_lc [("_law_lot", 4)] sc_sub.nd (ei_list (S := fun ds => ds = (sbs s n).map tI) ((ex_name 2).weak fun d e => ⟨_, e, rfl⟩)) fun ds e => ?_) ?_) ?_)
      · refine turns_filter (xs := sbs s n) (enc := tI) (p := fun l => decide (l.length = s)) (f := tI) e (le_size (by have := cap n hn; omega)) (fun l hl => ⟨_, _, tgt_name 4 sc_sub.nd, by decide, ?_, fun _ => ex_name 4⟩) rfl
        refine TV.is (tv_eq (ev_lenT (ds := l.map .int) ml (ex_name 4)) (ex_name 1)) ?_
        rw [List.length_map, decide_eq_decide]
        omega
      · intro l hl e
        have := (subs_in hn hs3 hl).1
        rw [e] at this
        simp only [List.length_nil] at this
        omega
      · rintro d ⟨l, rfl, hl⟩
        exact ⟨n, s, l, rfl, rfl, hl⟩

/-! ### _law_minors -/
def inMin : List PyData → Prop := fun ds => ∃ (m : List (List Int)) (s c : Nat), ds = [.list (m.map lI), .int (s : Int)] ∧ m.length = s ∧ 1 ≤ s ∧ s ≤ 3 ∧ c ≤ 3 ∧ (∀ r ∈ m, r.length = c) ∧ ∀ r ∈ m, ∀ x ∈ r, Sm x
def outMin : List PyData → PyData → Prop := fun ds d => ∃ (m : List (List Int)) (s x : Nat), ds = [.list (m.map lI), .int (s : Int)] ∧ d = .int (x : Int) ∧ (Squ m → x = (dt m).natAbs)
def subM (m : List (List Int)) (lot cs : List Int) : List (List Int) := lot.map fun j => cs.map fun k => (m.getD j.toNat []).getD k.toNat 0
theorem getD_mem {m : List (List Int)} {j : Nat} (h : j < m.length) : m.getD j [] ∈ m := by
  rw [List.getD_eq_getElem?_getD, List.getElem?_eq_getElem h]
  exact List.getElem_mem h
theorem map_range_getD {α : Type} {l : List α} {z : α} {n : Nat} (h : l.length = n) : (List.range n).map (fun i => l.getD i z) = l := by
  subst h
  apply List.ext_getElem?
  intro i
  rw [List.getElem?_map]
  by_cases hi : i < l.length
  · rw [List.getElem?_range hi]
    show some (l.getD i z) = l[i]?
    rw [List.getD_eq_getElem?_getD, List.getElem?_eq_getElem hi]
    rfl
  · rw [List.getElem?_eq_none (by simpa using hi), List.getElem?_eq_none (by simpa using hi)]
    rfl
theorem subM_all {m : List (List Int)} (h : Squ m) : subM m ((List.range m.length).map fun (i : Nat) => (i : Int)) ((List.range m.length).map fun (i : Nat) => (i : Int)) = m := by
  refine Squ.cases (C := fun m => subM m ((List.range m.length).map fun (i : Nat) => (i : Int)) ((List.range m.length).map fun (i : Nat) => (i : Int)) = m) (fun a => rfl) (fun a b c d => rfl) (fun a b c d e f g h i => rfl) h
theorem ok_min {f1 f2 f3 : Addr} {fd1 fd2 fd3 : FuncData} (G : Fun K "_law_minors" "_law_minors" (topS 35) f fd)
    (G1 : FnOk P w K mg base CX0 1 f1 fd1 ["_law_many", "_law_size"] (spR K 2 inSub outSub)) (hm1 : mg "_law_subsets" = some (.ref f1)) (hk1 : PySem.W.keepIn K (.ref f1) = true) (hb1 : Binds K fd1 ["_law_many", "_law_size"] [])
    (G2 : FnD P w K mg base 1 f2 fd2 ["_law_one", "_law_other"] 2 (fun ds => ∃ a b : Int, ds = [.int a, .int b]) F_gcd) (hm2 : mg "_law_gcd" = some (.ref f2)) (hk2 : PySem.W.keepIn K (.ref f2) = true) (hb2 : Binds K fd2 ["_law_one", "_law_other"] [])
    (G3 : ∀ n : Nat, FnD P w K mg base (n + 1) f3 fd3 ["_law_rows"] 1 (fun ds => ∃ m, ds = [.list (m.map lI)] ∧ SqZ n m) F_ldet) (hm3 : mg "_law_determinant" = some (.ref f3)) (hk3 : PySem.W.keepIn K (.ref f3) = true) (hb3 : Binds K fd3 ["_law_rows"] [])
    (ml : mg "len" = none) :
    FnOk P w K mg base CX0 5 f fd ["_law_rows", "_law_size"] (spR K 2 inMin outMin) := by
  refine fn_data G sc_min rfl (fun ds h => ?_) (fun A ds hr h => ?_)
  · obtain ⟨m, s, c, rfl, _⟩ := h; rfl
  · obtain ⟨m, s, c, rfl, hm, hs1, hs3, hc3, hrl, hsm⟩ := h
    refine sx_set 2 sc_min.nd ex_int fun d e => ?_
    subst e
    refine sx_for (Ss := fun ds => ∃ l : List (List Int), ds = l.map tI ∧ l.Perm (subs s s)) (ei_list (ex_call G1 (hr.mono (by decide)) hm1 hk1 hb1 (av_cons (EV.is (ev_lenL (ds := m.map lI) ml (ex_name 0)) (d' := .int (s : Int)) (by rw [List.length_map, hm])) (av_cons (ex_name 1) ea_nil)) rfl fun ds e => ?_)) fun ds e => ?_
    · subst e
      refine ⟨rfl, ⟨s, s, rfl, hs3, hs1, hs3⟩, fun d h => ?_⟩
      obtain ⟨n', s', l, e, rfl, hl⟩ := h
      simp only [List.cons.injEq, PyData.int.injEq] at e
      obtain ⟨e1, e2, _⟩ := e
      have e1 : n' = s := by omega
      have e2 : s' = s := by omega
      subst e1
      subst e2
      exact ⟨_, rfl, l, rfl, hl⟩
    obtain ⟨lots, rfl, hlots⟩ := e
    refine ⟨fun i ρ' => ∃ (x : Nat) (o3 o4 : Option En), ρ' = [some (.im (.list (m.map lI))), some (.im (.int (s : Int))), some (.im (.int (x : Int))), o3, o4, none, none] ∧ (Squ m → (1 ≤ i → x = (dt m).natAbs) ∧ (i = 0 → x = 0)), ⟨0, none, none, rfl, fun _ => ⟨fun h => by omega, fun _ => rfl⟩⟩, fun i d ρ' hd h => ?_, fun ρ' h => ?_⟩
    · obtain ⟨x, o3, o4, rfl, hx⟩ := h
      rw [List.getElem?_map] at hd
      cases hlt : lots[i]? with
      | none => rw [hlt] at hd; cases hd
      | some lot =>
        rw [hlt] at hd
        have e : tI lot = d := Option.some.inj hd
        subst e
        have hlotm : lot ∈ subs s s := hlots.mem_iff.mp (List.mem_of_getElem? hlt)
        obtain ⟨hlot1, hlot2⟩ := subs_in hs3 hs3 hlotm
        refine ⟨_, _, tgt_name 3 sc_min.nd, ?_⟩
        have hm0 : 0 < m.length := by omega
        have hr0 := getD_mem hm0
        refine sx_for (Ss := fun ds => ∃ l : List (List Int), ds = l.map tI ∧ l.Perm (subs c s)) (ei_list (ex_call G1 (hr.mono (by decide)) hm1 hk1 hb1 (av_cons (EV.is (ev_lenL (ds := (m.getD 0 []).map .int) ml (ev_ixL (ds := m.map lI) (ex_name 0) ex_int (getL (k := 0) hm0))) (d' := .int (c : Int)) (by rw [List.length_map, hrl _ hr0])) (av_cons (ex_name 1) ea_nil)) rfl fun ds e => ?_)) fun ds e => ?_
        · subst e
          refine ⟨rfl, ⟨c, s, rfl, hc3, hs1, hs3⟩, fun d h => ?_⟩
          obtain ⟨n', s', l, e, rfl, hl⟩ := h
          simp only [List.cons.injEq, PyData.int.injEq] at e
          obtain ⟨e1, e2, _⟩ := e
          have e1 : n' = c := by omega
          have e2 : s' = s := by omega
          subst e1
          subst e2
          exact ⟨_, rfl, l, rfl, hl⟩
        obtain ⟨css, rfl, hcss⟩ := e
        refine ⟨fun j ρ' => ∃ (x : Nat) (o4 : Option En), ρ' = [some (.im (.list (m.map lI))), some (.im (.int (s : Int))), some (.im (.int (x : Int))), some (.im (tI lot)), o4, none, none] ∧ (Squ m → (1 ≤ i ∨ 1 ≤ j → x = (dt m).natAbs) ∧ (i = 0 → j = 0 → x = 0)), ⟨x, o4, rfl, fun q => ⟨fun h => (hx q).1 (by omega), fun h _ => (hx q).2 h⟩⟩, fun j d ρ' hd h => ?_, fun ρ' h => ?_⟩
        · obtain ⟨x', o4', rfl, hx'⟩ := h
          rw [List.getElem?_map] at hd
          cases hct : css[j]? with
          | none => rw [hct] at hd; cases hd
          | some cs =>
            rw [hct] at hd
            have e : tI cs = d := Option.some.inj hd
            subst e
            have hcm : cs ∈ subs c s := hcss.mem_iff.mp (List.mem_of_getElem? hct)
            obtain ⟨hc1, hc2⟩ := subs_in hc3 hs3 hcm
            refine ⟨_, _, tgt_name 4 sc_min.nd, ?_⟩
            have hsq : SqZ s (subM m lot cs) := by
              refine ⟨by unfold subM; rw [List.length_map, hlot1], hs3, fun r hr' => ?_, fun r hr' z hz => ?_⟩
              · obtain ⟨jj, _, rfl⟩ := List.mem_map.mp hr'
                rw [List.length_map, hc1]
              · obtain ⟨jj, hjj, rfl⟩ := List.mem_map.mp hr'
                obtain ⟨kk, hkk, rfl⟩ := List.mem_map.mp hz
                have hj2 := hlot2 jj hjj
                exact sm_getD (fun q hq => hsm _ (getD_mem (show jj.toNat < m.length by omega)) q hq) _
            refine sx_set 2 sc_min.nd (ev_call G2 (hr.mono (by decide)) hm2 hk2 hb2 (av_cons (ex_name 2) (av_cons (EV.is (ev_call (G3 s) (hr.mono (by omega)) hm3 hk3 hb3 (av_cons (d := .list ((subM m lot cs).map lI)) (ds := []) (ex_lc [("_law_j", 5)] sc_min.nd (ei_tup (S := fun ds => ds = lot.map .int) ((ex_name 3).weak fun d e => ⟨_, e, rfl⟩)) fun ds e => ?_) ea_nil) ⟨_, rfl, hsq⟩) (F_ldet_rows _)) ea_nil)) ⟨_, _, rfl⟩) fun d e => ?_
            · refine turns_map (xs := lot) (enc := .int) (f := fun j => lI (cs.map fun k => (m.getD j.toNat []).getD k.toNat 0)) e (le_size (by omega)) (fun jj hjj => ⟨_, _, tgt_name 5 sc_min.nd, by decide, ?_⟩) ?_
              · refine ex_lc [("_law_k", 6)] sc_min.nd (ei_tup (S := fun ds => ds = cs.map .int) ((ex_name 4).weak fun d e => ⟨_, e, rfl⟩)) fun ds e => ?_
                refine turns_map (xs := cs) (enc := .int) (f := fun k => .int ((m.getD jj.toNat []).getD k.toNat 0)) e (le_size (by omega)) (fun kk hkk => ⟨_, _, tgt_name 6 sc_min.nd, by decide, ?_⟩) ?_
                · have hj2 := hlot2 jj hjj
                  have hk2 := hc2 kk hkk
                  have hjl : jj.toNat < m.length := by omega
                  have ej : ((jj.toNat : Nat) : Int) = jj := by omega
                  have ek : ((kk.toNat : Nat) : Int) = kk := by omega
                  refine ev_ixL (ds := (m.getD jj.toNat []).map .int) (ev_ixL (ds := m.map lI) (ex_name 0) (ex_name 5) ?_) (ex_name 6) ?_
                  · have := getL hjl
                    rw [ej] at this
                    exact this
                  · have := getI (ns := m.getD jj.toNat []) (k := kk.toNat) (by rw [hrl _ (getD_mem hjl)]; omega)
                    rw [ek] at this
                    exact this
                · show PyData.list _ = PyData.list _
                  rw [List.map_map]
                  rfl
              · show PyData.list _ = PyData.list _
                unfold subM
                rw [List.map_map]
                rfl
            · subst e
              refine sx_nil ⟨Int.gcd (x' : Int) (ld (subM m lot cs)), some (.im (tI cs)), rfl, fun q => ⟨fun _ => ?_, fun _ h => by omega⟩⟩
              have hcs : c = s := by
                have := q.2.2 _ hr0
                rw [hrl _ hr0] at this
                omega
              subst hcs
              have e1 := subs_same ⟨c, by omega⟩
              simp only at e1
              rw [e1, List.mem_singleton] at hlotm hcm
              have eM : subM m lot cs = m := by
                rw [hlotm, hcm]
                have := subM_all q
                rw [hm] at this
                exact this
              have eld : ld (subM m lot cs) = dt m := by
                rw [eM]
                cases m with
                | nil => cases hm0
                | cons r m => rfl
              rw [eld]
              obtain ⟨q1, q2⟩ := hx' q
              by_cases hij : 1 ≤ i ∨ 1 ≤ j
              · rw [q1 hij]
                show Nat.gcd ((dt m).natAbs : Int).natAbs (dt m).natAbs = _
                rw [Int.natAbs_natCast, Nat.gcd_self]
              · rw [q2 (by omega) (by omega)]
                show Nat.gcd ((0 : Nat) : Int).natAbs (dt m).natAbs = _
                exact Nat.gcd_zero_left _
        · obtain ⟨x', o4', rfl, hx'⟩ := h
          refine sx_nil ⟨x', some (.im (tI lot)), o4', rfl, fun q => ⟨fun _ => (hx' q).1 (.inr ?_), fun h => by omega⟩⟩
          rw [List.length_map, hcss.length_eq]
          have hcs : c = s := by
            have := q.2.2 _ hr0
            rw [hrl _ hr0] at this
            omega
          subst hcs
          have e1 := subs_same ⟨c, by omega⟩
          simp only at e1
          rw [e1]
          exact Nat.le_refl 1
    · obtain ⟨x, o3, o4, rfl, hx⟩ := h
      refine sx_ret (EX.weak (ex_name 2) fun d e => ⟨m, s, x, rfl, e, fun q => (hx q).1 ?_⟩)
      rw [List.length_map, hlots.length_eq]
      have e1 := subs_same ⟨s, by omega⟩
      simp only at e1
      rw [e1]
      exact Nat.le_refl 1
end
end Lp

/-! LqF: _law_cone. -/
namespace Lp
open PySem PySem.Spec L2
section
variable {F : Fx} {ρ : Dn} {a b : Expr} {pos : Pos}
theorem ex_addI {i : Int} {S : PyData → Prop} {T : Int → Prop} (ha : EV F ρ a (.int i)) (hb : EX F ρ b (fun d => ∃ x : Int, d = .int x ∧ T x)) (h : ∀ x, T x → S (.int (i + x))) : EX F ρ (.BinOp a .Add b pos) S :=
  ex_op (r := rI0 fun i j => .int (i + j)) (fun _ => op_add) ha hb fun x y e1 e2 => by
    subst e1
    obtain ⟨j, rfl, t⟩ := e2
    exact rd_I0.weak fun d e => by rw [e]; exact h j t
theorem ex_andT {S : PyData → Prop} {rest : List Expr} (h : EV F ρ a (.bool true)) (hb : EX F ρ (.BoolOp .And (b :: rest) pos) S) : EX F ρ (.BoolOp .And (a :: b :: rest) pos) S :=
  ex_of (fun v => pe_and pe_w pe_w) fun _ _ _ _ _ _ Q c q => h _ _ _ _ _ _ _ c fun x d Hk' H' e1 c1 i1 s => by
    subst s
    cases i1
    refine ⟨true, rfl, ?_⟩
    rw [if_pos rfl]
    exact hb _ _ _ _ _ _ _ c1 (q.mono e1)
theorem ex_one {S : PyData → Prop} {op : BoolOp} (h : EX F ρ a S) : EX F ρ (.BoolOp op [a] pos) S := ex_of (fun v => pe_one pe_w) h
theorem ex_neI {j : Int} {S : PyData → Prop} {T : Int → Prop} (ha : EX F ρ a (fun d => ∃ x : Int, d = .int x ∧ T x)) (hb : EV F ρ b (.int j)) (h : ∀ x, T x → S (.bool (!decide (x = j)))) : EX F ρ (.Compare a [.NotEq] [b] pos) S :=
  ex_cmp (r := rNe) (fun _ => op_ne) ha hb (nomark _) fun x y e1 e2 => by
    obtain ⟨i, rfl, t⟩ := e1
    subst e2
    exact rd_neI.weak fun d e => by rw [e]; exact h i t
theorem et_eqI {j : Int} {S : Bool → Prop} {T : Int → Prop} (ha : EX F ρ a (fun d => ∃ x : Int, d = .int x ∧ T x)) (hb : EV F ρ b (.int j)) (h : ∀ x, T x → S (decide (x = j))) : ET F ρ (.Compare a [.Eq] [b] pos) S :=
  et_cmp (r := rEq) (fun _ => op_eq) ha hb (nomark _) fun x y e1 e2 => by
    obtain ⟨i, rfl, t⟩ := e1
    subst e2
    exact rd_eqI.weak fun d e => ⟨_, e, h i t⟩
end
/-- n numbers, each as asked -/
theorem turns_ints {F' : Fx} {ρb : Dn} {vs : List Nat} {tg elt : Expr} {ds : List PyData} {S : Int → Prop} {T : List PyData → Prop} {n : Nat} (hds : ds = rgD 0 n) (hl : n ≤ sizeLine)
    (h : ∀ i, i < n → ∃ ρ2 js, TGT F' ρb tg (.int (0 + (i : Int))) ρ2 js ∧ (∀ j ∈ js, j ∈ vs) ∧ EX F' ρ2 elt (fun d => ∃ x : Int, d = .int x ∧ S x)) (hT : ∀ l : List Int, l.length = n → (∀ x ∈ l, S x) → T (l.map .int)) : Turns F' ρb vs tg elt [] ds T := by
  subst hds
  refine ⟨fun i acc => ∃ l : List Int, acc = l.map .int ∧ l.length = i ∧ ∀ x ∈ l, S x, ⟨[], rfl, rfl, fun x h => by cases h⟩, fun i d acc hd hacc => ?_, fun acc hacc => ?_⟩
  · obtain ⟨l, rfl, hl', hs⟩ := hacc
    obtain ⟨hi, rfl⟩ := rgD_get hd
    obtain ⟨ρ2, js, h1, h2, h3⟩ := h i hi
    refine ⟨ρ2, js, _, h1, h2, ep_nil, fun _ => h3.weak fun y hy => ?_, fun z => nomatch z⟩
    obtain ⟨x, rfl, hx⟩ := hy
    refine ⟨by rw [List.length_map]; omega, l ++ [x], by rw [List.map_append]; rfl, by rw [List.length_append, hl']; rfl, fun z hz => ?_⟩
    rcases List.mem_append.mp hz with hz | hz
    · exact hs z hz
    · rw [List.mem_singleton.mp hz]; exact hx
  · obtain ⟨l, rfl, hl', hs⟩ := hacc
    rw [rgD_len] at hl'
    exact hT l hl' hs
/-- some of the places -/
theorem turns_some {F' : Fx} {ρb : Dn} {vs : List Nat} {tg elt c : Expr} {ds : List PyData} {T : List PyData → Prop} {n : Nat} (hds : ds = rgD 0 n) (hl : n ≤ sizeLine)
    (h : ∀ i, i < n → ∃ ρ2 js, TGT F' ρb tg (.int (0 + (i : Int))) ρ2 js ∧ (∀ j ∈ js, j ∈ vs) ∧ ET F' ρ2 c (fun _ => True) ∧ EV F' ρ2 elt (.int (0 + (i : Int)))) (hT : ∀ l : List Int, l.Pairwise (· < ·) → (∀ x ∈ l, 0 ≤ x ∧ x < (n : Int)) → T (l.map .int)) : Turns F' ρb vs tg elt [c] ds T := by
  subst hds
  refine ⟨fun i acc => ∃ l : List Int, acc = l.map .int ∧ l.length ≤ i ∧ l.Pairwise (· < ·) ∧ ∀ x ∈ l, 0 ≤ x ∧ x < (i : Int), ⟨[], rfl, Nat.le_refl _, .nil, fun x h => by cases h⟩, fun i d acc hd hacc => ?_, fun acc hacc => ?_⟩
  · obtain ⟨l, rfl, hl', hp, hs⟩ := hacc
    obtain ⟨hi, rfl⟩ := rgD_get hd
    obtain ⟨ρ2, js, h1, h2, h3, h4⟩ := h i hi
    refine ⟨ρ2, js, _, h1, h2, ep_one h3, fun _ => h4.weak fun y hy => ?_, fun _ => ?_⟩
    · refine ⟨by rw [List.length_map]; omega, l ++ [0 + (i : Int)], by rw [List.map_append, hy]; rfl, by rw [List.length_append]; simp; omega, ?_, fun z hz => ?_⟩
      · rw [List.pairwise_append]
        refine ⟨hp, List.pairwise_singleton .., fun x hx y hy => ?_⟩
        rw [List.mem_singleton.mp hy]
        have := hs x hx
        omega
      · rcases List.mem_append.mp hz with hz | hz
        · have := hs z hz
          omega
        · rw [List.mem_singleton.mp hz]
          omega
    · exact ⟨l, rfl, by omega, hp, fun x hx => by have := hs x hx; omega⟩
  · obtain ⟨l, rfl, hl', hp, hs⟩ := hacc
    rw [rgD_len] at hs
    exact hT l hp hs
theorem gcdL_div {c : Nat} (hc : 0 < c) : ∀ {l : List Int}, (∀ x ∈ l, (c : Int) ∣ x) → gcdL (l.map fun x => x.fdiv (c : Int)) * c = gcdL l
  | [], _ => Nat.zero_mul _
  | x :: l, h => by
    show Nat.gcd (x.fdiv (c : Int)).natAbs (gcdL (l.map fun x => x.fdiv (c : Int))) * c = Nat.gcd x.natAbs (gcdL l)
    rw [← Nat.gcd_mul_right, gcdL_div hc fun y hy => h y (List.mem_cons_of_mem _ hy)]
    congr 1
    obtain ⟨k, rfl⟩ := h x List.mem_cons_self
    rw [Int.mul_fdiv_cancel_left _ (by omega), Int.natAbs_mul, Int.natAbs_natCast, Nat.mul_comm]
theorem gcdL_dvd : ∀ {l : List Int} {x : Int}, x ∈ l → ((gcdL l : Nat) : Int) ∣ x
  | y :: l, x, h => by
    rcases List.mem_cons.mp h with rfl | h
    · exact Int.ofNat_dvd_left.mpr (Nat.gcd_dvd_left _ _)
    · have h1 : ((gcdL (y :: l) : Nat) : Int) ∣ ((gcdL l : Nat) : Int) := Int.natCast_dvd_natCast.mpr (Nat.gcd_dvd_right _ _)
      exact Int.dvd_trans h1 (gcdL_dvd h)
theorem gcdL_one {l : List Int} (h : 0 < gcdL l) : gcdL (l.map fun x => x.fdiv (gcdL l : Int)) = 1 := by
  have := gcdL_div h (l := l) fun x hx => gcdL_dvd hx
  have h2 : gcdL (l.map fun x => x.fdiv (gcdL l : Int)) * gcdL l = 1 * gcdL l := by rw [this, Nat.one_mul]
  exact Nat.eq_of_mul_eq_mul_right h h2
theorem gcdL_rep : ∀ n, 1 ≤ n → gcdL (List.replicate n 1) = 1
  | n + 1, _ => by
    show Nat.gcd 1 _ = 1
    exact Nat.gcd_one_left _
theorem fdiv_b {x m : Int} {c : Nat} (hc : 0 < c) (h : -m ≤ x ∧ x ≤ m) (hm : 0 ≤ m) (hd : (c : Int) ∣ x) : -m ≤ x.fdiv (c : Int) ∧ x.fdiv (c : Int) ≤ m := by
  obtain ⟨k, rfl⟩ := hd
  rw [Int.mul_fdiv_cancel_left _ (by omega)]
  have hk : k.natAbs ≤ ((c : Int) * k).natAbs := by
    rw [Int.natAbs_mul, Int.natAbs_natCast]
    exact Nat.le_mul_of_pos_left _ hc
  omega
def dv (l : List Int) : List Int := l.map fun x => x.fdiv (gcdL l : Int)
/-- the vectors so far -/
structure SoFar (n : Nat) (V : List (List Int)) : Prop where
  le : V.length ≤ n
  row : ∀ v ∈ V, v.length = n ∧ gcdL v = 1 ∧ ∀ x ∈ v, -3 ≤ x ∧ x ≤ 3
  det : V.length = n → dt V ≠ 0
/-- a cone of the law -/
structure LawC (p : List Int) (V : List (List Int)) (pl : List Int) : Prop where
  sq : Squ V
  len : p.length = V.length
  pb : ∀ x ∈ p, -3 ≤ x ∧ x ≤ 3
  vb : ∀ v ∈ V, ∀ x ∈ v, -3 ≤ x ∧ x ≤ 3
  prm : ∀ v ∈ V, gcdL v = 1
  det : dt V ≠ 0
  asc : pl.Pairwise (· < ·)
  plb : ∀ k ∈ pl, 0 ≤ k ∧ k < V.length
def idM (n : Nat) : List (List Int) := (List.range n).map fun k => (List.range n).map fun a => if a = k then 1 else 0
theorem idM_ok {n : Nat} (h1 : 1 ≤ n) (h3 : n ≤ 3) : SoFar n (idM n) ∧ (idM n).length = n := by
  obtain rfl | rfl | rfl : n = 1 ∨ n = 2 ∨ n = 3 := by omega
  · exact ⟨⟨by decide, by decide, by decide⟩, rfl⟩
  · exact ⟨⟨by decide, by decide, by decide⟩, rfl⟩
  · exact ⟨⟨by decide, by decide, by decide⟩, rfl⟩
def inCone : List PyData → Prop := fun ds => ∃ m : Int, ds = [.int m] ∧ 0 ≤ m ∧ m ≤ 3
def outCone : List PyData → PyData → Prop := fun _ d => ∃ p V pl, d = coneD p V pl ∧ LawC p V pl
abbrev N_cone : List Str := ["_law_row", "_law_far", "_law_size", "_law_found", "_law_turn", "_law_one", "_law_common", "_law_x", "_law_more", "_law_good", "_law_apex", "_law_k", "_law_way", "_law_at"]
theorem sc_cone : FnScope N_cone ["_law_row", "_law_far"] (defScope (topS 36)) := ⟨rfl, rfl, rfl, by decide +kernel, rfl, by decide +kernel, by decide +kernel⟩
section
variable {P : Program} {w : World} {K : PySem.W.Frag} {mg : Str → Option Value} {base : Heap} {f : Addr} {fd : FuncData}
theorem ok_cone {f1 f2 f3 f4 : Addr} {fd1 fd2 fd3 fd4 : FuncData} (G : Fun K "_law_cone" "_law_cone" (topS 36) f fd)
    (G1 : GTak P w K mg base f1 fd1) (hm1 : mg "_law_taken" = some (.ref f1)) (hk1 : PySem.W.keepIn K (.ref f1) = true) (hb1 : Binds K fd1 ["_law_row", "_law_many"] [])
    (G2 : FnOk P w K mg base CX0 2 f2 fd2 ["_law_row", "_law_most"] (spRow K 1 inSgn outSgn)) (hm2 : mg "_law_signed" = some (.ref f2)) (hk2 : PySem.W.keepIn K (.ref f2) = true) (hb2 : Binds K fd2 ["_law_row", "_law_most"] [])
    (G3 : FnD P w K mg base 1 f3 fd3 ["_law_one", "_law_other"] 2 (fun ds => ∃ a b : Int, ds = [.int a, .int b]) F_gcd) (hm3 : mg "_law_gcd" = some (.ref f3)) (hk3 : PySem.W.keepIn K (.ref f3) = true) (hb3 : Binds K fd3 ["_law_one", "_law_other"] [])
    (G4 : FnOk P w K mg base CX0 5 f4 fd4 ["_law_rows", "_law_size"] (spR K 2 inMin outMin)) (hm4 : mg "_law_minors" = some (.ref f4)) (hk4 : PySem.W.keepIn K (.ref f4) = true) (hb4 : Binds K fd4 ["_law_rows", "_law_size"] [])
    (ml : mg "len" = none) (mr : mg "range" = none) (mt : mg "tuple" = none) (mli : mg "list" = none) :
    FnOk P w K mg base CX0 6 f fd ["_law_row", "_law_far"] (spRow K 1 inCone outCone) := by
  refine fn_row G sc_cone rfl (fun A ds hr h => ?_)
  obtain ⟨m, rfl, h0, hm3'⟩ := h
  refine sx_set (S := fun d => ∃ n : Nat, d = .int (n : Int) ∧ 1 ≤ n ∧ n ≤ 3) 2 sc_cone.nd (ex_addI (T := fun x => 0 ≤ x ∧ x < 3) ex_int (ex_callR 0 G1 (hr.mono (by decide)) hm1 hk1 hb1 (av_cons ex_int ea_nil) rfl fun ds e => ?_) fun x hx => ?_) fun d e => ?_
  · subst e
    refine ⟨rfl, ⟨3, rfl, by decide, by decide⟩, fun d h => ?_⟩
    obtain ⟨m', x, e, rfl, h2, h3⟩ := h
    cases e
    exact ⟨x, rfl, h2, h3⟩
  · exact ⟨(1 + x).toNat, by congr 1; omega, by omega, by omega⟩
  obtain ⟨n, rfl, hn1, hn3⟩ := e
  refine sx_set 3 sc_cone.nd (ev_lst ea_nil) fun d e => ?_
  subst e
  refine sx_for (ei_range1 (n := 4 * (n : Int)) mr (ev_mul (i := 4) ex_int (ex_name 2) (.inl ⟨by decide, by decide⟩)) (by omega) (by omega)) fun ds e => ?_
  subst e
  refine ⟨fun i ρ' => ∃ (V : List (List Int)) (o4 o5 o6 o7 o8 o9 : Option En), ρ' = [some .row, some (.im (.int m)), some (.im (.int (n : Int))), some (.im (.list (V.map tI))), o4, o5, o6, o7, o8, o9, none, none, none, none] ∧ SoFar n V, ⟨[], none, none, none, none, none, none, rfl, ⟨Nat.zero_le _, fun v h => (by cases h), fun h => (by rw [List.length_nil] at h; omega)⟩⟩, fun i x ρ' hd h => ?_, fun ρ' h => ?_⟩
  · obtain ⟨V, o4, o5, o6, o7, o8, o9, rfl, hV⟩ := h
    obtain ⟨hi, rfl⟩ := rgD_get hd
    refine ⟨_, _, tgt_name 4 sc_cone.nd, ?_⟩
    refine sx_setLc (T := fun d => ∃ l : List Int, d = .list (l.map .int) ∧ l.length = n ∧ ∀ x ∈ l, -3 ≤ x ∧ x ≤ 3) 5 [("_law_k", 11)] sc_cone.nd (ei_range1 (n := (n : Int)) mr (ex_name 2) (by omega) (by omega)) (fun ds e => ?_) fun d e => ?_
    · refine turns_ints (n := n) (S := fun x => -3 ≤ x ∧ x ≤ 3) (by rw [e]; congr 1) (le_size (by omega)) (fun i hi => ⟨_, _, tgt_name 11 sc_cone.nd, by decide, ex_callR 0 G2 (hr.mono (by decide)) hm2 hk2 hb2 (av_cons (ex_name 1) ea_nil) rfl fun ds e => ?_⟩) fun l hl hs => ⟨l, rfl, hl, hs⟩
      subst e
      refine ⟨rfl, ⟨m, rfl, by omega, by omega⟩, fun d h => ?_⟩
      obtain ⟨m', x, e, rfl, h2, h3⟩ := h
      cases e
      exact ⟨x, rfl, by omega, by omega⟩
    obtain ⟨l, rfl, hll, hlb⟩ := e
    refine sx_set 6 sc_cone.nd ex_int fun d e => ?_
    subst e
    refine sx_for (ei_list (S := fun ds => ds = l.map .int) ((ex_name 5).weak fun d e => ⟨_, e, rfl⟩)) fun ds e => ?_
    subst e
    refine ⟨fun j ρ' => ∃ o7, ρ' = [some .row, some (.im (.int m)), some (.im (.int (n : Int))), some (.im (.list (V.map tI))), some (.im (.int (0 + (i : Int)))), some (.im (.list (l.map .int))), some (.im (.int (gcdF 0 (l.take j) : Nat))), o7, o8, o9, none, none, none, none], ⟨o7, rfl⟩, fun j d ρ' hd h => ?_, fun ρ' h => ?_⟩
    · obtain ⟨o7, rfl⟩ := h
      rw [List.getElem?_map] at hd
      cases hx : l[j]? with
      | none => rw [hx] at hd; cases hd
      | some x =>
        rw [hx] at hd
        cases hd
        refine ⟨_, _, tgt_name 7 sc_cone.nd, ?_⟩
        refine sx_set 6 sc_cone.nd (ev_call G3 (hr.mono (by decide)) hm3 hk3 hb3 (av_cons (ex_name 6) (av_cons (ex_name 7) ea_nil)) ⟨_, _, rfl⟩) fun d e => ?_
        subst e
        exact sx_nil ⟨some (.im (.int x)), by rw [gcdF_take hx]; rfl⟩
    · obtain ⟨o7', rfl⟩ := h
      have eg : gcdF 0 (l.take (l.map PyData.int).length) = gcdL l := by
        rw [List.length_map, List.take_length, gcdF_eq, Nat.gcd_zero_left]
      rw [eg]
      have hgle : gcdL l ≤ 1048576 := gcdL_le l fun x hx => by have := hlb x hx; exact ⟨by omega, by omega⟩
      refine sx_set (S := fun d => ∃ v : List Int, d = tI v ∧ v.length = n ∧ gcdL v = 1 ∧ ∀ x ∈ v, -3 ≤ x ∧ x ≤ 3) 5 sc_cone.nd (ex_if (tv_gt (i := (gcdL l : Int)) (j := 0) (ex_name 6) ex_int) (fun t => ?_) fun t => ?_) fun d e => ?_
      · have hg : 0 < gcdL l := by
          have := of_decide_eq_true t.symm
          omega
        refine EX.weak (ev_tupleL (ds := (dv l).map .int) mt (ex_lc [("_law_x", 7)] sc_cone.nd (ei_list (S := fun ds => ds = l.map .int) ((ex_name 5).weak fun d e => ⟨_, e, rfl⟩)) fun ds e => ?_)) fun d e => ⟨dv l, e, by unfold dv; rw [List.length_map, hll], gcdL_one hg, fun x hx => ?_⟩
        · refine turns_map (xs := l) (enc := .int) (f := fun x => .int (x.fdiv (gcdL l : Int))) e (le_size (by omega)) (fun z hz' => ⟨_, _, tgt_name 7 sc_cone.nd, by decide, ev_fdiv (i := z) (j := (gcdL l : Int)) (ex_name 7) (ex_name 6) ⟨by omega, by omega⟩⟩) ?_
          show PyData.list _ = PyData.list _
          unfold dv
          rw [List.map_map]
          rfl
        · obtain ⟨y, hy, rfl⟩ := List.mem_map.mp hx
          exact fdiv_b hg (hlb y hy) (by decide) (gcdL_dvd hy)
      · refine EX.weak (ev_rep (n := n) (ev_tup (av_cons ex_int ea_nil)) (ex_name 2) hn1 (by omega)) fun d e => ⟨List.replicate n 1, ?_, List.length_replicate, gcdL_rep n hn1, fun x hx => ?_⟩
        · rw [e]
          unfold tI
          rw [List.map_replicate]
        · rw [(List.mem_replicate.mp hx).2]
          decide
      obtain ⟨v, rfl, hvl, hvg, hvb⟩ := e
      refine sx_set 8 sc_cone.nd (EV.is (ev_cat (ds := V.map tI) (es := [tI v]) (ex_name 3) (ev_lst (av_cons (ex_name 5) ea_nil)) (le_size (by have := hV.le; rw [List.length_map, List.length_cons, List.length_nil]; omega))) (d' := .list ((V ++ [v]).map tI)) (by rw [List.map_append]; rfl)) fun d e => ?_
      subst e
      have hrow : ∀ u ∈ V ++ [v], u.length = n ∧ gcdL u = 1 ∧ ∀ x ∈ u, -3 ≤ x ∧ x ≤ 3 := fun u hu => by
        rcases List.mem_append.mp hu with hu | hu
        · exact hV.row u hu
        · rw [List.mem_singleton.mp hu]; exact ⟨hvl, hvg, hvb⟩
      refine sx_set (S := fun d => ∃ g : Bool, d = .bool g ∧ (g = true → SoFar n (V ++ [v]))) 9 sc_cone.nd ?_ fun d e => ?_
      · by_cases hlt : V.length < n
        · refine ex_andT (EV.is (ev_lt (ev_lenL (ds := V.map tI) ml (ex_name 3)) (ex_name 2)) (by rw [List.length_map]; congr 1; rw [decide_eq_true_eq]; omega)) (ex_one (ex_neI (T := fun x => ((V ++ [v]).length = n → x = ((dt (V ++ [v])).natAbs : Int))) (ex_call G4 hr hm4 hk4 hb4 (av_cons (d := .list ((V ++ [v]).map lI)) (ex_lc [("_law_way", 12)] sc_cone.nd (ei_list (S := fun ds => ds = (V ++ [v]).map tI) ((ex_name 8).weak fun d e => ⟨_, e, rfl⟩)) fun ds e => ?_) (av_cons (ev_lenL (ds := (V ++ [v]).map tI) ml (ex_name 8)) ea_nil)) rfl fun ds e => ?_) ex_int fun x hx => ?_))
          · refine turns_map (xs := V ++ [v]) (enc := tI) (f := lI) e (le_size (by rw [List.length_append, List.length_singleton]; omega)) (fun u hu => ⟨_, _, tgt_name 12 sc_cone.nd, by decide, ev_listT (ds := u.map .int) mli (ex_name 12)⟩) rfl
          · subst e
            refine ⟨rfl, ⟨V ++ [v], (V ++ [v]).length, n, by rw [List.length_map], rfl, by rw [List.length_append]; simp, by rw [List.length_append]; simp; omega, hn3, fun r hr => (hrow r hr).1, fun r hr x hx => ?_⟩, fun d h => ?_⟩
            · have := (hrow r hr).2.2 x hx
              exact ⟨by omega, by omega⟩
            · obtain ⟨m', s', x, e, rfl, hx⟩ := h
              refine ⟨x, rfl, fun hl => ?_⟩
              have em : m' = V ++ [v] := by
                have := congrArg (fun l => match l with | (.list q) :: _ => q.map unT | _ => []) e
                simp only at this
                rw [unL_lI, unL_lI] at this
                exact this.symm
              subst em
              rw [hx ⟨by omega, by omega, fun u hu => by rw [(hrow u hu).1, hl]⟩]
          · refine ⟨_, rfl, fun hg => ⟨by rw [List.length_append]; simp; omega, hrow, fun hl => ?_⟩⟩
            rw [hx hl] at hg
            simp at hg
            exact hg
        · refine EX.weak (ev_and (k := false) (k' := false) (EV.is (ev_lt (ev_lenL (ds := V.map tI) ml (ex_name 3)) (ex_name 2)) (by rw [List.length_map]; congr 1; rw [decide_eq_false_iff_not]; omega)) (fun h => by cases h)) fun d e => ⟨false, e, fun h => by cases h⟩
      obtain ⟨g, rfl, hg⟩ := e
      refine sx_set (S := fun d => ∃ V' : List (List Int), d = .list (V'.map tI) ∧ SoFar n V') 3 sc_cone.nd (ex_if (tv_val (ex_name 9)) (fun t => (ex_name 8).weak fun d e => ⟨_, e, hg t.symm⟩) fun t => (ex_name 3).weak fun d e => ⟨_, e, hV⟩) fun d e => ?_
      obtain ⟨V', rfl, hV'⟩ := e
      exact sx_nil ⟨V', some (.im (.int (0 + (i : Int)))), some (.im (tI v)), some (.im (.int (gcdL l : Int))), o7', some (.im (.list ((V ++ [v]).map tI))), some (.im (.bool g)), rfl, hV'⟩
  · obtain ⟨V, o4, o5, o6, o7, o8, o9, rfl, hV⟩ := h
    refine sx_if (T := fun t => t = decide (V.length < n)) (M := fun ρ' => ∃ V : List (List Int), ρ' = [some .row, some (.im (.int m)), some (.im (.int (n : Int))), some (.im (.list (V.map tI))), o4, o5, o6, o7, o8, o9, none, none, none, none] ∧ SoFar n V ∧ V.length = n) (TV.is (tv_lt (ev_lenL (ds := V.map tI) ml (ex_name 3)) (ex_name 2)) (by rw [List.length_map, decide_eq_decide]; omega)) (fun t => ?_) (fun t => ?_) fun ρ' h => ?_
    · refine sx_setLc (T := fun d => d = .list ((idM n).map tI)) 3 [("_law_k", 11)] sc_cone.nd (ei_range1 (n := (n : Int)) mr (ex_name 2) (by omega) (by omega)) (fun ds e => ?_) fun d e => ?_
      · refine turns_map (xs := List.range n) (enc := fun (i : Nat) => .int (0 + (i : Int))) (f := fun k => tI ((List.range n).map fun a => if a = k then 1 else 0)) e (le_size (by rw [List.length_range]; omega)) (fun k hk => ⟨_, _, tgt_name 11 sc_cone.nd, by decide, ?_⟩) ?_
        · refine EV.is (ev_tupleL (ds := ((List.range n).map fun a => if a = k then (1 : Int) else 0).map .int) mt (ex_lc [("_law_at", 13)] sc_cone.nd (ei_range1 (n := (n : Int)) mr (ex_name 2) (by omega) (by omega)) fun ds e => ?_)) rfl
          refine turns_map (xs := List.range n) (enc := fun (i : Nat) => .int (0 + (i : Int))) (f := fun a => .int (if a = k then 1 else 0)) e (le_size (by rw [List.length_range]; omega)) (fun a ha => ⟨_, _, tgt_name 13 sc_cone.nd, by decide, ?_⟩) ?_
          · refine ex_if (tv_eq (i := 0 + (a : Int)) (j := 0 + (k : Int)) (ex_name 13) (ex_name 11)) (fun t => ?_) fun t => ?_
            · have := of_decide_eq_true t.symm
              exact EV.is ex_int (by rw [if_pos (by omega)])
            · have := of_decide_eq_false t.symm
              exact EV.is ex_int (by rw [if_neg (by omega)])
          · show PyData.list _ = PyData.list _
            rw [List.map_map]
            rfl
        · show PyData.list _ = PyData.list _
          unfold idM
          rw [List.map_map]
          rfl
      · subst e
        exact sx_nil ⟨idM n, rfl, (idM_ok hn1 hn3).1, (idM_ok hn1 hn3).2⟩
    · have := of_decide_eq_false t.symm
      exact sx_nil ⟨V, rfl, hV, by have := hV.le; omega⟩
    · obtain ⟨V, rfl, hV, hVn⟩ := h
      refine sx_set (S := fun d => ∃ l : List Int, d = tI l ∧ l.length = n ∧ ∀ x ∈ l, -3 ≤ x ∧ x ≤ 3) 10 sc_cone.nd (ex_tupleL (T := fun ds => ∃ l : List Int, ds = l.map .int ∧ l.length = n ∧ ∀ x ∈ l, -3 ≤ x ∧ x ≤ 3) mt (ex_lc [("_law_k", 11)] sc_cone.nd (ei_range1 (n := (n : Int)) mr (ex_name 2) (by omega) (by omega)) fun ds e => ?_) fun ds h => ?_) fun d e => ?_
      · refine turns_ints (n := n) (S := fun x => -3 ≤ x ∧ x ≤ 3) (by rw [e]; congr 1) (le_size (by omega)) (fun i hi => ⟨_, _, tgt_name 11 sc_cone.nd, by decide, ex_callR 0 G2 (hr.mono (by decide)) hm2 hk2 hb2 (av_cons ex_int ea_nil) rfl fun ds e => ?_⟩) fun l hl hs => ⟨_, rfl, l, rfl, hl, hs⟩
        subst e
        refine ⟨rfl, ⟨3, rfl, by decide, by decide⟩, fun d h => ?_⟩
        obtain ⟨m', x, e, rfl, h2, h3⟩ := h
        cases e
        exact ⟨x, rfl, h2, h3⟩
      · obtain ⟨l, rfl, h⟩ := h
        exact ⟨l, rfl, h⟩
      obtain ⟨p, rfl, hpl, hpb⟩ := e
      refine sx_ret (ex_tup (ea_cons (ex_name 10) (ea_cons (ev_tupleL (ds := V.map tI) mt (ex_name 3)) (ea_cons (ex_tupleL (S := fun d => ∃ l : List Int, d = tI l ∧ l.Pairwise (· < ·) ∧ ∀ x ∈ l, 0 ≤ x ∧ x < (n : Int)) (T := fun ds => ∃ l : List Int, ds = l.map .int ∧ l.Pairwise (· < ·) ∧ ∀ x ∈ l, 0 ≤ x ∧ x < (n : Int)) mt (ex_lc [("_law_k", 11)] sc_cone.nd (ei_range1 (n := (n : Int)) mr (ex_name 2) (by omega) (by omega)) fun ds e => ?_) fun ds h => ?_) ea_nil))) fun ds h => ?_)
      · refine turns_some (n := n) (by rw [e]; congr 1) (le_size (by omega)) (fun i hi => ⟨_, _, tgt_name 11 sc_cone.nd, by decide, et_eqI (T := fun _ => True) (ex_callR 0 G1 (hr.mono (by decide)) hm1 hk1 hb1 (av_cons ex_int ea_nil) rfl fun ds e => ?_) ex_int fun x hx => trivial, ex_name 11⟩) fun l hl hs => ⟨_, rfl, l, rfl, hl, hs⟩
        subst e
        refine ⟨rfl, ⟨2, rfl, by decide, by decide⟩, fun d h => ?_⟩
        obtain ⟨m', x, e, rfl, h2, h3⟩ := h
        exact ⟨x, rfl, trivial⟩
      · obtain ⟨l, rfl, h⟩ := h
        exact ⟨l, rfl, h⟩
      · obtain ⟨d1, r1, rfl, rfl, d2, r2, rfl, rfl, d3, r3, rfl, ⟨pl, rfl, hp1, hp2⟩, rfl⟩ := h
        refine ⟨Nat.le_of_ble_eq_true rfl, p, V, pl, rfl, ⟨⟨by omega, by omega, fun v hv => by rw [(hV.row v hv).1, hVn]⟩, by omega, hpb, fun v hv => (hV.row v hv).2.2, fun v hv => (hV.row v hv).2.1, hV.det hVn, hp1, fun k hk => by have := hp2 k hk; omega⟩⟩
end
end Lp

/-! LqG: _law_is_vector, _law_is_cone, _law_box. -/
namespace Lp
open PySem PySem.Spec L2
abbrev N_lv : List Str := ["_law_value", "_law_size", "_law_x"]
theorem sc_lv : FnScope N_lv ["_law_value", "_law_size"] (defScope (topS 38)) := ⟨rfl, rfl, rfl, by decide +kernel, rfl, by decide +kernel, by decide +kernel⟩
abbrev N_lc : List Str := ["_law_value", "_law_size", "_law_one", "_law_common", "_law_x", "_law_k"]
theorem sc_lc : FnScope N_lc ["_law_value", "_law_size"] (defScope (topS 39)) := ⟨rfl, rfl, rfl, by decide +kernel, rfl, by decide +kernel, by decide +kernel⟩
abbrev N_lb : List Str := ["_law_points", "_law_n", "_law_more", "_law_found", "_law_k", "_law_low", "_law_high", "_law_longer", "_law_p", "_law_x"]
theorem sc_lb : FnScope N_lb ["_law_points", "_law_n", "_law_more"] (defScope (topS 40)) := ⟨rfl, rfl, rfl, by decide +kernel, rfl, by decide +kernel, by decide +kernel⟩
structure ConeL (p : List Int) (V : List (List Int)) (pl : List Int) : Prop where
  sq : SqS V
  len : p.length = V.length
  prm : ∀ v ∈ V, gcdL v = 1
  det : dt V ≠ 0
  asc : pl.Pairwise (· < ·)
  plb : ∀ k ∈ pl, 0 ≤ k ∧ k < V.length
theorem ConeL.pll {p : List Int} {V : List (List Int)} {pl : List Int} (h : ConeL p V pl) : pl.length ≤ 3 := by
  have := asc_len (n := V.length) (lo := 0) h.asc fun k hk => by have := h.plb k hk; omega
  have := h.sq.2.1
  omega
theorem SqS.z {V : List (List Int)} (h : SqS V) : SqZ V.length V := ⟨rfl, h.2.1, h.2.2.1, h.2.2.2⟩
theorem ld_dt {V : List (List Int)} (h : 1 ≤ V.length) : ld V = dt V := by
  cases V with
  | nil => simp at h
  | cons v V => rfl
section
variable {P : Program} {w : World} {K : PySem.W.Frag} {mg : Str → Option Value} {base : Heap} {f : Addr} {fd : FuncData}
abbrev GLv (P : Program) (w : World) (K : PySem.W.Frag) (mg : Str → Option Value) (base : Heap) (f1 : Addr) (fd1 : FuncData) : Prop := FnD P w K mg base 1 f1 fd1 ["_law_value", "_law_size"] 2 (fun ds => ∃ (a : List Int) (n : Int), ds = [tI a, .int n] ∧ (a.length : Int) = n ∧ a.length ≤ 1000) F_true
theorem ok_lv (G : Fun K "_law_is_vector" "_law_is_vector" (topS 38) f fd) (mi : mg "isinstance" = none) (mt : mg "tuple" = none) (min : mg "int" = none) (mb : mg "bool" = none) (ml : mg "len" = none) : GLv P w K mg base f fd := by
  refine fn_data G sc_lv rfl (fun ds h => ?_) (fun A ds hr h => ?_)
  · obtain ⟨a, n, rfl, _⟩ := h; rfl
  · obtain ⟨a, n, rfl, rfl, hz⟩ := h
    refine sx_ifF ?_ ?_
    · refine TV.is (EW.et (ew_or (k := !true) (k' := !decide ((a.map PyData.int).length = (a.length : Int))) (tv_not (tv_val (ev_isi (T := "tuple") (d := tI a) mi mt (ex_name 0) (by decide +kernel) k_tt))) fun _ => ew_or1 (tv_ne (j := (a.length : Int)) (ev_lenT (ds := a.map .int) ml (ex_name 0)) (ex_name 1)))) ?_
      rw [List.length_map]
      simp
    · refine sx_ret (EV.is (ev_eqD (x := .list []) (y := .list []) (units_ok hr) (ex_lc [("_law_x", 2)] sc_lv.nd (ei_tup (S := fun ds => ds = a.map .int) ((ex_name 0).weak fun d e => ⟨_, e, rfl⟩)) fun ds e => ?_) (ev_lst ea_nil) shaped_nil shaped_nil) rfl)
      refine turns_filter (xs := a) (enc := .int) (p := fun x => !true || false) (f := .int) e (le_size hz) (fun z hz' => ⟨_, _, tgt_name 2 sc_lv.nd, by decide, EW.et (ew_or (k := !true) (k' := false) (tv_not (tv_val (ev_isi (T := "int") (d := .int z) mi min (ex_name 2) (by decide +kernel) k_ii))) fun _ => ew_or1 (tv_val (ev_isi (T := "bool") (d := .int z) mi mb (ex_name 2) (by decide +kernel) k_ib))), fun _ => ex_name 2⟩) ?_
      have : a.filter (fun x => !true || false) = [] := List.filter_eq_nil_iff.mpr fun x hx => by simp
      rw [this]
      rfl

abbrev GLc (P : Program) (w : World) (K : PySem.W.Frag) (mg : Str → Option Value) (base : Heap) (f1 : Addr) (fd1 : FuncData) : Prop := FnD P w K mg base 5 f1 fd1 ["_law_value", "_law_size"] 2 (fun ds => ∃ (p : List Int) (V : List (List Int)) (pl : List Int), ds = [coneD p V pl, .int (V.length : Int)] ∧ ConeL p V pl) F_true
abbrev GLd (P : Program) (w : World) (K : PySem.W.Frag) (mg : Str → Option Value) (base : Heap) (f1 : Addr) (fd1 : FuncData) : Prop := ∀ n : Nat, FnD P w K mg base (n + 1) f1 fd1 ["_law_rows"] 1 (fun ds => ∃ m, ds = [.list (m.map lI)] ∧ SqZ n m) F_ldet
abbrev GLg (P : Program) (w : World) (K : PySem.W.Frag) (mg : Str → Option Value) (base : Heap) (f1 : Addr) (fd1 : FuncData) : Prop := FnD P w K mg base 1 f1 fd1 ["_law_one", "_law_other"] 2 (fun ds => ∃ a b : Int, ds = [.int a, .int b]) F_gcd
theorem ok_lc {f1 f2 f3 : Addr} {fd1 fd2 fd3 : FuncData} (G : Fun K "_law_is_cone" "_law_is_cone" (topS 39) f fd)
    (G1 : GLv P w K mg base f1 fd1) (hm1 : mg "_law_is_vector" = some (.ref f1)) (hk1 : PySem.W.keepIn K (.ref f1) = true) (hb1 : Binds K fd1 ["_law_value", "_law_size"] [])
    (G2 : GLg P w K mg base f2 fd2) (hm2 : mg "_law_gcd" = some (.ref f2)) (hk2 : PySem.W.keepIn K (.ref f2) = true) (hb2 : Binds K fd2 ["_law_one", "_law_other"] [])
    (G3 : GLd P w K mg base f3 fd3) (hm3 : mg "_law_determinant" = some (.ref f3)) (hk3 : PySem.W.keepIn K (.ref f3) = true) (hb3 : Binds K fd3 ["_law_rows"] [])
    (mi : mg "isinstance" = none) (mt : mg "tuple" = none) (ml : mg "len" = none) (mli : mg "list" = none) (mso : mg "sorted" = none) (mse : mg "set" = none) : GLc P w K mg base f fd := by
  refine fn_data G sc_lc rfl (fun ds h => ?_) (fun A ds hr h => ?_)
  · obtain ⟨p, V, pl, rfl, _⟩ := h; rfl
  · obtain ⟨p, V, pl, rfl, hc⟩ := h
    have h1 := hc.sq.1
    have h3 := hc.sq.2.1
    have hpl := hc.len
    have hpll := hc.pll
    refine sx_ifF (TV.is (EW.et (ew_or (k := !true) (k' := (!decide ((3 : Int) = 3) || !true)) (tv_not (tv_val (ev_isi (T := "tuple") (d := coneD p V pl) mi mt (ex_name 0) (by decide +kernel) k_tt))) fun _ => ew_or (tv_ne (i := 3) (j := 3) (ev_lenT (ds := [tI p, .tuple (V.map tI), tI pl]) ml (ex_name 0)) ex_int) fun _ => ew_or1 (tv_not (tv_val (EV.is (ev_call G1 (hr.mono (by decide)) hm1 hk1 hb1 (av_cons (ev_ixT (ds := [tI p, .tuple (V.map tI), tI pl]) (x := tI p) (ex_name 0) ex_int rfl) (av_cons (ex_name 1) ea_nil)) ⟨p, _, rfl, by rw [hpl], by omega⟩) rfl))))) (by decide)) ?_
    refine sx_ifF (TV.is (EW.et (ew_or (k := !true) (k' := !decide (((V.map tI).length : Int) = (V.length : Int))) (tv_not (tv_val (ev_isi (T := "tuple") (d := .tuple (V.map tI)) mi mt (ev_ixT (ds := [tI p, .tuple (V.map tI), tI pl]) (ex_name 0) ex_int rfl) (by decide +kernel) k_tt))) fun _ => ew_or1 (tv_ne (ev_lenT (ds := V.map tI) ml (ev_ixT (ds := [tI p, .tuple (V.map tI), tI pl]) (ex_name 0) ex_int rfl)) (ex_name 1)))) (by rw [List.length_map]; simp)) ?_
    refine sx_for (ei_tup (S := fun ds => ds = V.map tI) ((ev_ixT (ds := [tI p, .tuple (V.map tI), tI pl]) (x := .tuple (V.map tI)) (ex_name 0) ex_int rfl).weak fun d e => ⟨_, e, rfl⟩)) fun ds e => ?_
    subst e
    refine ⟨fun i ρ' => ∃ o2 o3 o4, ρ' = [some (.im (coneD p V pl)), some (.im (.int (V.length : Int))), o2, o3, o4, none], ⟨none, none, none, rfl⟩, fun i d ρ' hd h => ?_, fun ρ' h => ?_⟩
    · obtain ⟨o2, o3, o4, rfl⟩ := h
      rw [List.getElem?_map] at hd
      cases hx : V[i]? with
      | none => rw [hx] at hd; cases hd
      | some v =>
        rw [hx] at hd
        have e : tI v = d := Option.some.inj hd
        subst e
        have hv := List.mem_of_getElem? hx
        have hlv := hc.sq.2.2.1 v hv
        refine ⟨_, _, tgt_name 2 sc_lc.nd, ?_⟩
        refine sx_set 3 sc_lc.nd ex_int fun d e => ?_
        subst e
        refine sx_ifF (TV.is (tv_not (tv_val (EV.is (ev_call G1 (hr.mono (by decide)) hm1 hk1 hb1 (av_cons (ex_name 2) (av_cons (ex_name 1) ea_nil)) ⟨v, _, rfl, by rw [hlv], by omega⟩) rfl))) (by decide)) ?_
        refine sx_for (ei_tup (S := fun ds => ds = v.map .int) ((ex_name 2).weak fun d e => ⟨_, e, rfl⟩)) fun ds e => ?_
        subst e
        refine ⟨fun j ρ' => ∃ o4, ρ' = [some (.im (coneD p V pl)), some (.im (.int (V.length : Int))), some (.im (tI v)), some (.im (.int (gcdF 0 (v.take j) : Nat))), o4, none], ⟨o4, rfl⟩, fun j d ρ' hd h => ?_, fun ρ' h => ?_⟩
        · obtain ⟨o4, rfl⟩ := h
          rw [List.getElem?_map] at hd
          cases hx : v[j]? with
          | none => rw [hx] at hd; cases hd
          | some x =>
            rw [hx] at hd
            cases hd
            refine ⟨_, _, tgt_name 4 sc_lc.nd, ?_⟩
            refine sx_set 3 sc_lc.nd (ev_call G2 (hr.mono (by decide)) hm2 hk2 hb2 (av_cons (ex_name 3) (av_cons (ex_name 4) ea_nil)) ⟨_, _, rfl⟩) fun d e => ?_
            subst e
            exact sx_nil ⟨some (.im (.int x)), by rw [gcdF_take hx]; rfl⟩
        · obtain ⟨o4, rfl⟩ := h
          have eg : gcdF 0 (v.take (v.map PyData.int).length) = 1 := by
            rw [List.length_map, List.take_length, gcdF_eq, Nat.gcd_zero_left, hc.prm v hv]
          rw [eg]
          refine sx_ifF (TV.is (tv_ne (i := ((1 : Nat) : Int)) (j := 1) (ex_name 3) ex_int) (by decide)) ?_
          exact sx_nil ⟨some (.im (tI v)), some (.im (.int ((1 : Nat) : Int))), o4, rfl⟩
    · obtain ⟨o2, o3, o4, rfl⟩ := h
      refine sx_ifF (TV.is (EW.et (ew_or (k := decide (dt V = 0)) (k' := !true) (tv_eq (i := dt V) (j := 0) (EV.is (ev_call (G3 V.length) (hr.mono (by omega)) hm3 hk3 hb3 (av_cons (d := .list (V.map lI)) (ds := []) (ex_lc [("_law_one", 2)] sc_lc.nd (ei_tup (S := fun ds => ds = V.map tI) ((ev_ixT (ds := [tI p, .tuple (V.map tI), tI pl]) (x := .tuple (V.map tI)) (ex_name 0) ex_int rfl).weak fun d e => ⟨_, e, rfl⟩)) fun ds e => ?_) ea_nil) ⟨V, rfl, hc.sq.z⟩) (by rw [F_ldet_rows, ld_dt h1])) ex_int) fun _ => ew_or1 (tv_not (tv_val (ev_isi (T := "tuple") (d := tI pl) mi mt (ev_ixT (ds := [tI p, .tuple (V.map tI), tI pl]) (ex_name 0) ex_int rfl) (by decide +kernel) k_tt))))) (by rw [decide_eq_false hc.det]; rfl)) ?_
      · exact turns_map (xs := V) (enc := tI) (f := lI) e (le_size (by omega)) (fun u hu => ⟨_, _, tgt_name 2 sc_lc.nd, by decide, ev_listT (ds := u.map .int) mli (ex_name 2)⟩) rfl
      refine sx_ifF (TV.is (tv_not (tv_val (EV.is (ev_call G1 (hr.mono (by decide)) hm1 hk1 hb1 (av_cons (ev_ixT (ds := [tI p, .tuple (V.map tI), tI pl]) (x := tI pl) (ex_name 0) ex_int rfl) (av_cons (ev_lenT (ds := pl.map .int) ml (ev_ixT (ds := [tI p, .tuple (V.map tI), tI pl]) (ex_name 0) ex_int rfl)) ea_nil)) ⟨pl, _, rfl, by rw [List.length_map], by omega⟩) rfl))) (by decide)) ?_
      refine sx_ret (EV.is (ev_and (k := true) (k' := true) (EV.is (ev_eqD (x := .list (pl.map .int)) (y := .list (pl.map .int)) (units_ok hr) (ev_listT (ds := pl.map .int) mli (ev_ixT (ds := [tI p, .tuple (V.map tI), tI pl]) (ex_name 0) ex_int rfl)) (ev_sortSet mso mse (ev_ixT (ds := [tI p, .tuple (V.map tI), tI pl]) (ex_name 0) ex_int rfl) hc.asc (by omega)) (shp_lI pl).shaped (shp_lI pl).shaped) (by rw [eqv_lints]; simp)) fun _ => ev_one (EV.is (ev_eqD (x := .list []) (y := .list []) (units_ok hr) (ex_lc [("_law_k", 5)] sc_lc.nd (ei_tup (S := fun ds => ds = pl.map .int) ((ev_ixT (ds := [tI p, .tuple (V.map tI), tI pl]) (x := tI pl) (ex_name 0) ex_int rfl).weak fun d e => ⟨_, e, rfl⟩)) fun ds e => ?_) (ev_lst ea_nil) shaped_nil shaped_nil) rfl)) rfl)
      refine turns_filter (xs := pl) (enc := .int) (p := fun x => !(decide (0 ≤ x) && decide (x < (V.length : Int)))) (f := .int) e (le_size (by omega)) (fun z hz' => ⟨_, _, tgt_name 5 sc_lc.nd, by decide, tv_not (tv_chain (fun _ => op_le) (fun _ => op_lt) ex_int (ex_name 5) (fun _ => ex_name 1) rd_B0 fun _ => rd_B0), fun _ => ex_name 5⟩) ?_
      have : pl.filter (fun x => !(decide (0 ≤ x) && decide (x < (V.length : Int)))) = [] := List.filter_eq_nil_iff.mpr fun x hx => by
        obtain ⟨h1, h2⟩ := hc.plb x hx
        simp [h1, h2]
      rw [this]
      rfl

/-! ### _law_box -/
def F_lbox : List PyData → PyData
  | [.tuple [lo, hi], _, _] => .list ((boxT (unT lo) (unT hi) (unT lo).length).map tI)
  | _ => .none
theorem F_lbox_ints (lo hi : List Int) : F_lbox [.tuple [tI lo, tI hi], .int 1, .int 0] = .list ((boxT lo hi lo.length).map tI) := by
  show PyData.list ((boxT (unT (tI lo)) (unT (tI hi)) (unT (tI lo)).length).map tI) = _
  rw [unT_tI, unT_tI]
theorem ok_lb (G : Fun K "_law_box" "_law_box" (topS 40) f fd) (ml : mg "len" = none) (mr : mg "range" = none) (mmi : mg "min" = none) (mma : mg "max" = none) :
    FnD P w K mg base 1 f fd ["_law_points", "_law_n", "_law_more"] 3 (fun ds => ∃ lo hi : List Int, ds = [.tuple [tI lo, tI hi], .int 1, .int 0] ∧ lo.length ≤ 3 ∧ hi.length = lo.length ∧ ∀ k : Nat, k < lo.length → -1000 ≤ lo.getD k 0 ∧ lo.getD k 0 ≤ hi.getD k 0 ∧ hi.getD k 0 ≤ 1000 ∧ hi.getD k 0 < lo.getD k 0 + 250) F_lbox := by
  refine fn_data G sc_lb rfl (fun ds h => ?_) (fun A ds hr h => ?_)
  · obtain ⟨lo, hi, rfl, _⟩ := h; rfl
  · obtain ⟨lo, hi, rfl, h3, hl, hb⟩ := h
    rw [F_lbox_ints]
    have hc : ∀ k, (upTo (lo.getD k 0) (hi.getD k 0)).length ≤ 250 := fun k => by
      rw [upTo_len]
      by_cases hk : k < lo.length
      · have := hb k hk
        omega
      · have e1 : lo.getD k 0 = 0 := by rw [List.getD_eq_getElem?_getD, List.getElem?_eq_none (by omega)]; rfl
        have e2 : hi.getD k 0 = 0 := by rw [List.getD_eq_getElem?_getD, List.getElem?_eq_none (by omega)]; rfl
        rw [e1, e2]
        decide
    refine sx_set 3 sc_lb.nd (ev_lst (av_cons (ev_tup ea_nil) ea_nil)) fun d e => ?_
    subst e
    refine sx_for (ei_range1 (n := (lo.length : Int)) mr (EV.is (ev_lenT (ds := lo.map .int) ml (ev_ixT (ds := [tI lo, tI hi]) (x := tI lo) (ex_name 0) ex_int rfl)) (by rw [List.length_map])) (by omega) (by omega)) fun ds e => ?_
    subst e
    refine ⟨fun k ρ' => ∃ o4 o5 o6 o7 o8, ρ' = [some (.im (.tuple [tI lo, tI hi])), some (.im (.int 1)), some (.im (.int 0)), some (.im (.list ((boxT lo hi k).map tI))), o4, o5, o6, o7, o8, none], ⟨none, none, none, none, none, rfl⟩, fun k x ρ' hk h => ?_, fun ρ' h => ?_⟩
    · obtain ⟨o4, o5, o6, o7, o8, rfl⟩ := h
      obtain ⟨hk3, rfl⟩ := rgD_get hk
      have hk3 : k < lo.length := by simpa using hk3
      rw [Int.zero_add]
      refine ⟨_, _, tgt_name 4 sc_lb.nd, ?_⟩
      have hbk := hb k hk3
      have pts : ∀ {ds : List PyData}, ds = [lo, hi].map tI → ∀ {Fq : Fx} {ρq : Dn} {vs : List Nat} {tg elt : Expr}, (∀ u ∈ [lo, hi], ∃ ρ2 js, TGT Fq ρq tg (tI u) ρ2 js ∧ (∀ j ∈ js, j ∈ vs) ∧ EV Fq ρ2 elt (.int (u.getD k 0))) → Turns Fq ρq vs tg elt [] ds (fun acc => PyData.list acc = .list ([lo.getD k 0, hi.getD k 0].map .int)) := fun e _ _ _ _ _ h =>
        turns_map (xs := [lo, hi]) (enc := tI) (f := fun u => .int (u.getD k 0)) e (le_size (by decide : 2 ≤ 1000)) h rfl
      refine sx_par 5 6 sc_lb.nd (EV.is (ev_sub (ev_mul (ex_name 1) (ev_minL (ns := [lo.getD k 0, hi.getD k 0]) (m := lo.getD k 0) mmi (ex_lc [("_law_p", 8)] sc_lb.nd (ei_tup (S := fun ds => ds = [lo, hi].map tI) ((ex_name 0).weak fun d e => ⟨_, e, rfl⟩)) fun ds e => pts e fun u hu => ⟨_, _, tgt_name 8 sc_lb.nd, by decide, ev_ixT (ds := u.map .int) (ex_name 8) (ex_name 4) (getI ?_)⟩) (by simp) ?_) (.inl ⟨by decide, by decide⟩)) (ex_name 2)) (d' := .int (lo.getD k 0)) (by congr 1; omega)) (EV.is (ev_add (ev_mul (ex_name 1) (ev_maxL (ns := [lo.getD k 0, hi.getD k 0]) (m := hi.getD k 0) mma (ex_lc [("_law_p", 8)] sc_lb.nd (ei_tup (S := fun ds => ds = [lo, hi].map tI) ((ex_name 0).weak fun d e => ⟨_, e, rfl⟩)) fun ds e => pts e fun u hu => ⟨_, _, tgt_name 8 sc_lb.nd, by decide, ev_ixT (ds := u.map .int) (ex_name 8) (ex_name 4) (getI ?_)⟩) (by simp) ?_) (.inl ⟨by decide, by decide⟩)) (ex_name 2)) (d' := .int (hi.getD k 0)) (by congr 1; omega)) fun d1 d2 e1 e2 => ?_
      · simp only [List.mem_cons, List.not_mem_nil, or_false] at hu
        rcases hu with rfl | rfl <;> omega
      · intro y hy
        simp only [List.mem_cons, List.not_mem_nil, or_false] at hy
        rcases hy with rfl | rfl <;> omega
      · simp only [List.mem_cons, List.not_mem_nil, or_false] at hu
        rcases hu with rfl | rfl <;> omega
      · intro y hy
        simp only [List.mem_cons, List.not_mem_nil, or_false] at hy
        rcases hy with rfl | rfl <;> omega
      subst e1
      subst e2
      refine sx_set 7 sc_lb.nd (ev_lst ea_nil) fun d e => ?_
      subst e
      have hlen : ∀ i, (((boxT lo hi k).take i).flatMap fun p => (upTo (lo.getD k 0) (hi.getD k 0)).map fun x => p ++ [x]).length ≤ (boxT lo hi (k + 1)).length := fun i => by
        show _ ≤ ((boxT lo hi k).flatMap fun p => (upTo (lo.getD k 0) (hi.getD k 0)).map fun x => p ++ [x]).length
        conv => rhs; rw [← List.take_append_drop i (boxT lo hi k)]
        rw [List.flatMap_append, List.length_append]
        omega
      have hcap : (boxT lo hi (k + 1)).length ≤ sizeLine := Nat.le_trans (boxT_len hc (k + 1)) (size250 _ (by omega))
      refine sx_for (ei_list (S := fun ds => ds = (boxT lo hi k).map tI) ((ex_name 3).weak fun d e => ⟨_, e, rfl⟩)) fun ds e => ?_
      subst e
      refine ⟨fun i ρ' => ∃ o8, ρ' = [some (.im (.tuple [tI lo, tI hi])), some (.im (.int 1)), some (.im (.int 0)), some (.im (.list ((boxT lo hi k).map tI))), some (.im (.int (k : Int))), some (.im (.int (lo.getD k 0))), some (.im (.int (hi.getD k 0))), some (.im (.list ((((boxT lo hi k).take i).flatMap fun p => (upTo (lo.getD k 0) (hi.getD k 0)).map fun x => p ++ [x]).map tI))), o8, none], ⟨o8, rfl⟩, fun i d ρ' hd h => ?_, fun ρ' h => ?_⟩
      · obtain ⟨o8, rfl⟩ := h
        rw [List.getElem?_map] at hd
        cases hx : (boxT lo hi k)[i]? with
        | none => rw [hx] at hd; cases hd
        | some p =>
          rw [hx] at hd
          have e : tI p = d := Option.some.inj hd
          subst e
          refine ⟨_, _, tgt_name 8 sc_lb.nd, ?_⟩
          have hpl : p.length ≤ 3 := by
            have := (mem_boxT.mp (List.mem_of_getElem? hx)).1
            omega
          have hnext : (((boxT lo hi k).take (i + 1)).flatMap fun p => (upTo (lo.getD k 0) (hi.getD k 0)).map fun x => p ++ [x]) = (((boxT lo hi k).take i).flatMap fun p => (upTo (lo.getD k 0) (hi.getD k 0)).map fun x => p ++ [x]) ++ (upTo (lo.getD k 0) (hi.getD k 0)).map fun x => p ++ [x] := by
            rw [List.take_add_one, hx, List.flatMap_append]
            simp
          refine sx_set 7 sc_lb.nd (ev_cat (es := ((upTo (lo.getD k 0) (hi.getD k 0)).map fun x => p ++ [x]).map tI) (ex_name 7) (ex_lc [("_law_x", 9)] sc_lb.nd (ei_range2 (lo := lo.getD k 0) (n := hi.getD k 0 + 1) mr (ex_name 5) (ev_add (ex_name 6) ex_int) (by omega)) fun ds e => ?_) ?_) fun d e => ?_
          · refine turns_map (xs := upTo (lo.getD k 0) (hi.getD k 0)) (enc := .int) (f := fun x => tI (p ++ [x])) (by rw [e, rgD_upTo]) (le_size (by have := hc k; omega)) (fun x hx => ⟨_, _, tgt_name 9 sc_lb.nd, by decide, ?_⟩) ?_
            · refine EV.is (ev_catT (ds := p.map .int) (es := [.int x]) (ex_name 8) (ev_tup (av_cons (ex_name 9) ea_nil)) (le_size (by rw [List.length_map, List.length_cons, List.length_nil]; omega))) ?_
              unfold tI
              rw [List.map_append]
              rfl
            · show PyData.list _ = PyData.list _
              rw [List.map_map]
              rfl
          · have := hlen (i + 1)
            rw [hnext, List.length_append] at this
            rw [List.length_map, List.length_map]
            omega
          · subst e
            exact sx_nil ⟨some (.im (tI p)), by rw [hnext, List.map_append]; rfl⟩
      · obtain ⟨o8, rfl⟩ := h
        rw [List.length_map, List.take_length]
        refine sx_set 3 sc_lb.nd (ex_name 7) fun d e => ?_
        subst e
        exact sx_nil ⟨some (.im (.int (k : Int))), some (.im (.int (lo.getD k 0))), some (.im (.int (hi.getD k 0))), some (.im (.list ((boxT lo hi (k + 1)).map tI))), o8, rfl⟩
    · obtain ⟨o4, o5, o6, o7, o8, rfl⟩ := h
      refine sx_ret (EV.is (ex_name 3) ?_)
      rw [rgD_len]
      rfl
end
end Lp

/-! LqH: _law_mix, _law_in_cone. -/
namespace Lp
open PySem PySem.Spec L2
abbrev N_mix : List Str := ["_law_vectors", "_law_way", "_law_size", "_law_found", "_law_rows", "_law_whole", "_law_k", "_law_axis", "_law_one", "_law_j", "_law_x"]
theorem sc_mix : FnScope N_mix ["_law_vectors", "_law_way"] (defScope (topS 41)) := ⟨rfl, rfl, rfl, by decide +kernel, rfl, by decide +kernel, by decide +kernel⟩
abbrev N_inc : List Str := ["_law_cone_here", "_law_p", "_law_apex", "_law_vectors", "_law_places", "_law_found", "_law_k"]
theorem sc_inc : FnScope N_inc ["_law_cone_here", "_law_p"] (defScope (topS 42)) := ⟨rfl, rfl, rfl, by decide +kernel, rfl, by decide +kernel, by decide +kernel⟩
def mixV (V : List (List Int)) (q : List Int) : List Int := (List.range V.length).map fun k => if 0 < dt V then dt (V.set k q) else 0 - dt (V.set k q)
def F_mix : List PyData → PyData
  | [v, q] => .tuple [.int (if 0 < dt (unTT v) then dt (unTT v) else 0 - dt (unTT v)), lI (mixV (unTT v) (unT q))]
  | _ => .none
theorem F_mix_ints (V : List (List Int)) (q : List Int) : F_mix [.tuple (V.map tI), lI q] = .tuple [.int (if 0 < dt V then dt V else 0 - dt V), lI (mixV V q)] := by
  show PyData.tuple [.int (if 0 < dt (unTT (.tuple (V.map tI))) then dt (unTT (.tuple (V.map tI))) else 0 - dt (unTT (.tuple (V.map tI)))), lI (mixV (unTT (.tuple (V.map tI))) (unT (lI q)))] = _
  rw [show unTT (.tuple (V.map tI)) = V from unTs V, unT_lI]
theorem cols_len (V : List (List Int)) : (cols V).length = V.length := by unfold cols; rw [List.length_map, List.length_range]
theorem SqS.set {V : List (List Int)} {q : List Int} (h : SqS V) (hq : q.length = V.length) (hs : ∀ x ∈ q, Sm x) (k : Nat) : SqS (V.set k q) := by
  have h2 := h.squ.set hq k
  refine ⟨h2.1, h2.2.1, h2.2.2, fun v hv => ?_⟩
  rcases List.mem_or_eq_of_mem_set hv with hv | rfl
  · exact h.2.2.2 v hv
  · exact hs
section
variable {P : Program} {w : World} {K : PySem.W.Frag} {mg : Str → Option Value} {base : Heap} {f : Addr} {fd : FuncData}
abbrev GMix (P : Program) (w : World) (K : PySem.W.Frag) (mg : Str → Option Value) (base : Heap) (f1 : Addr) (fd1 : FuncData) : Prop := FnD P w K mg base 5 f1 fd1 ["_law_vectors", "_law_way"] 2 (fun ds => ∃ (V : List (List Int)) (q : List Int), ds = [.tuple (V.map tI), lI q] ∧ SqS V ∧ q.length = V.length ∧ ∀ x ∈ q, Sm x) F_mix
theorem ok_mix {f3 : Addr} {fd3 : FuncData} (G : Fun K "_law_mix" "_law_mix" (topS 41) f fd)
    (G3 : GLd P w K mg base f3 fd3) (hm3 : mg "_law_determinant" = some (.ref f3)) (hk3 : PySem.W.keepIn K (.ref f3) = true) (hb3 : Binds K fd3 ["_law_rows"] [])
    (ml : mg "len" = none) (mr : mg "range" = none) : GMix P w K mg base f fd := by
  refine fn_data G sc_mix rfl (fun ds h => ?_) (fun A ds hr h => ?_)
  · obtain ⟨V, q, rfl, _⟩ := h; rfl
  · obtain ⟨V, q, rfl, hV, hq, hqs⟩ := h
    rw [F_mix_ints]
    have h1 := hV.1
    have h3 := hV.2.1
    have lD : ∀ {n : Nat}, n ≤ 3 → Room (n + 1) _ := fun {n} hn => hr.mono (show n + 1 ≤ 4 by omega)
    refine sx_parOwn 2 3 sc_mix.nd (EV.is (ev_lenT (ds := V.map tI) ml (ex_name 0)) (d' := .int (V.length : Int)) (by rw [List.length_map])) (fun _ => rfl) fun d e => ?_
    subst e
    refine sx_set (S := fun d => d = .list ((cols V).map lI)) 4 sc_mix.nd (ex_lc [("_law_axis", 7)] sc_mix.nd (ei_range1 (n := (V.length : Int)) mr (ex_name 2) (by omega) (by omega)) fun ds e => ?_) fun d e => ?_
    · refine turns_map (xs := List.range V.length) (enc := fun i => .int (0 + (i : Int))) (f := fun a => lI (V.map fun v => v.getD a 0)) e (le_size (by rw [List.length_range]; omega)) (fun a ha => ⟨_, _, tgt_name 7 sc_mix.nd, by decide, ?_⟩) ?_
      · refine ex_lc [("_law_one", 8)] sc_mix.nd (ei_sq (b := true) (ds := V.map tI) (ex_name 0)) fun ds e => ?_
        refine turns_map (xs := V) (enc := tI) (f := fun v => .int (v.getD a 0)) e (le_size (by omega)) (fun v hv => ⟨_, _, tgt_name 8 sc_mix.nd, by decide, ?_⟩) ?_
        · refine ev_ixT (ds := v.map .int) (ex_name 8) (ex_name 7) ?_
          rw [Int.zero_add]
          exact getI (by rw [hV.2.2.1 v hv]; exact List.mem_range.mp ha)
        · show PyData.list _ = PyData.list _
          rw [List.map_map]
          rfl
      · show PyData.list _ = PyData.list _
        unfold cols
        rw [List.map_map]
        rfl
    subst e
    have zc : SqZ V.length (cols V) := by
      have := (sqS_cols hV).z
      rw [cols_len] at this
      exact this
    have ec : ld (cols V) = dt V := by rw [ld_dt (by rw [cols_len]; exact h1), dt_cols hV.squ]
    refine sx_set 5 sc_mix.nd (EV.is (ev_call (G3 V.length) (lD h3) hm3 hk3 hb3 (av_cons (ex_name 4) ea_nil) ⟨cols V, rfl, zc⟩) (d' := .int (dt V)) (by rw [F_ldet_rows, ec])) fun d e => ?_
    subst e
    refine sx_for (ei_range1 (n := (V.length : Int)) mr (ex_name 2) (by omega) (by omega)) fun ds e => ?_
    subst e
    refine ⟨fun k ρ' => ∃ o6, ρ' = [some (.im (.tuple (V.map tI))), some (.im (lI q)), some (.im (.int (V.length : Int))), some (.ow (((List.range k).map fun k => dt (V.set k q)).map .int)), some (.im (.list ((cols V).map lI))), some (.im (.int (dt V))), o6, none, none, none, none], ⟨none, rfl⟩, fun k x ρ' hk h => ?_, fun ρ' h => ?_⟩
    · obtain ⟨o6, rfl⟩ := h
      obtain ⟨hkV, rfl⟩ := rgD_get hk
      have hkV : k < V.length := by simpa using hkV
      rw [Int.zero_add]
      refine ⟨_, _, tgt_name 6 sc_mix.nd, ?_⟩
      have hs := hV.set hq hqs k
      have hcl : (cols (V.set k q)).length = V.length := by rw [cols_len, List.length_set]
      have zs : SqZ V.length (cols (V.set k q)) := by
        have := (sqS_cols hs).z
        rw [hcl] at this
        exact this
      refine sx_app 3 (EV.is (ev_call (G3 V.length) (lD h3) hm3 hk3 hb3 (av_cons (ds := []) (d := .list ((cols (V.set k q)).map lI)) (ex_lc [("_law_j", 9)] sc_mix.nd (ei_range1 (n := (V.length : Int)) mr (ex_name 2) (by omega) (by omega)) fun ds e => ?_) ea_nil) ⟨_, rfl, zs⟩) (d' := .int (dt (V.set k q))) (by rw [F_ldet_rows, ld_dt (by rw [hcl]; exact h1), dt_cols hs.squ])) ?_ fun d e => ?_
      · refine turns_map (xs := List.range V.length) (enc := fun i => .int (0 + (i : Int))) (f := fun j => lI (((cols V).getD j []).take k ++ ([q.getD j 0] ++ ((cols V).getD j []).drop (k + 1)))) e (le_size (by rw [List.length_range]; omega)) (fun j hj => ⟨_, _, tgt_name 9 sc_mix.nd, by decide, ?_⟩) ?_
        · have hj' := List.mem_range.mp hj
          have hrl : ((cols V).getD j []).length ≤ 3 := by
            have := (sqS_cols hV).2.2.1 _ (getD_mem (show j < (cols V).length by rw [cols_len]; exact hj'))
            rw [this, cols_len]
            exact h3
          have gj : atI ((cols V).map lI) (0 + (j : Int)) = some (lI ((cols V).getD j [])) := by
            rw [Int.zero_add]
            exact getL (by rw [cols_len]; exact hj')
          refine EV.is (ev_cat (ev_cat (ds := (((cols V).getD j []).map PyData.int).take k) (es := [.int (q.getD j 0)]) (ev_toL (ds := ((cols V).getD j []).map .int) (ev_ixL (ds := (cols V).map lI) (ex_name 4) (ex_name 9) gj) (ex_name 6)) (ev_lst (av_cons (ev_ixL (ds := q.map .int) (ex_name 1) (ex_name 9) (by rw [Int.zero_add]; exact getI (by omega))) ea_nil)) (le_size ?_)) (ev_fromL (k := k + 1) (ds := ((cols V).getD j []).map .int) (ev_ixL (ds := (cols V).map lI) (ex_name 4) (ex_name 9) gj) (EV.is (ev_add (ex_name 6) ex_int) rfl)) (le_size ?_)) ?_
          · simp only [List.length_take, List.length_map, List.length_cons, List.length_nil]
            omega
          · simp only [List.length_take, List.length_map, List.length_cons, List.length_nil, List.length_append, List.length_drop]
            omega
          · unfold lI
            rw [List.map_append, List.map_append, List.map_take, List.map_drop, List.append_assoc]
            rfl
        · show PyData.list _ = PyData.list _
          congr 1
          rw [← chg_cols hV.squ hq k hkV]
          unfold chg
          have e1 : (List.zipWith (fun (row : List Int) v => row.take k ++ ([v] ++ row.drop (k + 1))) (cols V) q) = (List.range V.length).map fun j => ((cols V).getD j []).take k ++ ([q.getD j 0] ++ ((cols V).getD j []).drop (k + 1)) := by
            conv => lhs; rw [← map_range_getD (l := cols V) (z := []) (cols_len V), ← map_range_getD (l := q) (z := 0) hq]
            rw [List.zipWith_map_left, List.zipWith_map_right, List.zipWith_self]
          rw [e1, List.map_map]
          rfl
      · refine Nat.lt_of_le_of_lt (m := 3) ?_ (by decide)
        rw [List.length_map, List.length_map, List.length_range]
        omega
      · subst e
        exact sx_nil ⟨some (.im (.int (k : Int))), by rw [List.range_succ, List.map_append, List.map_append]; rfl⟩
    · obtain ⟨o6, rfl⟩ := h
      rw [rgD_len]
      have : ((V.length : Int)).toNat = V.length := by omega
      rw [this]
      refine sx_freeze 3 (sx_ret (ex_if (tv_gt (i := dt V) (j := 0) (ex_name 5) ex_int) (fun t => ?_) fun t => ?_))
      · have t : 0 < dt V := of_decide_eq_true t.symm
        refine EV.is (ev_tup (av_cons (ex_name 5) (av_cons (ex_name 3) ea_nil))) ?_
        unfold lI mixV
        rw [if_pos t]
        simp only [if_pos t]
      · have t : ¬ 0 < dt V := of_decide_eq_false t.symm
        refine EV.is (ev_tup (av_cons (ev_sub ex_int (ex_name 5)) (av_cons (d := .list (((List.range V.length).map fun k => 0 - dt (V.set k q)).map .int)) (ex_lc [("_law_x", 10)] sc_mix.nd (ei_list (S := fun ds => ds = ((List.range V.length).map fun k => dt (V.set k q)).map .int) ((ex_name 3).weak fun d e => ⟨_, e, rfl⟩)) fun ds e => ?_) ea_nil))) ?_
        · refine turns_map (xs := (List.range V.length).map fun k => dt (V.set k q)) (enc := .int) (f := fun x => .int (0 - x)) e (le_size (by rw [List.length_map, List.length_range]; omega)) (fun x hx => ⟨_, _, tgt_name 10 sc_mix.nd, by decide, ev_sub ex_int (ex_name 10)⟩) ?_
          show PyData.list _ = PyData.list _
          rw [List.map_map, List.map_map]
          rfl
        · unfold lI mixV
          rw [if_neg t]
          simp only [if_neg t]

/-! ### _law_in_cone -/
def subV (x p : List Int) : List Int := (List.range x.length).map fun k => x.getD k 0 - p.getD k 0
/-- a point is in a half-open cone -/
def inC (p : List Int) (V : List (List Int)) (pl : List Int) (x : List Int) : Bool := (List.range V.length).all fun k => !(decide ((mixV V (subV x p)).getD k 0 < 0) || (decide ((mixV V (subV x p)).getD k 0 = 0) && decide ((k : Int) ∈ pl)))
def F_inc : List PyData → PyData
  | [c, x] => .bool (inC (getC [c]).1 (getC [c]).2.1 (getC [c]).2.2 (unT x))
  | _ => .none
theorem F_inc_ints (p : List Int) (V : List (List Int)) (pl x : List Int) : F_inc [coneD p V pl, tI x] = .bool (inC p V pl x) := by
  show PyData.bool (inC (getC [coneD p V pl]).1 (getC [coneD p V pl]).2.1 (getC [coneD p V pl]).2.2 (unT (tI x))) = _
  rw [getC_D, unT_tI]
theorem mixV_len (V : List (List Int)) (q : List Int) : (mixV V q).length = V.length := by unfold mixV; rw [List.length_map, List.length_range]
abbrev GInc (P : Program) (w : World) (K : PySem.W.Frag) (mg : Str → Option Value) (base : Heap) (f1 : Addr) (fd1 : FuncData) : Prop := FnD P w K mg base 6 f1 fd1 ["_law_cone_here", "_law_p"] 2 (fun ds => ∃ (p : List Int) (V : List (List Int)) (pl x : List Int), ds = [coneD p V pl, tI x] ∧ SqS V ∧ p.length = V.length ∧ x.length = V.length ∧ (∀ z ∈ p, -1000 ≤ z ∧ z ≤ 1000) ∧ ∀ z ∈ x, -1000 ≤ z ∧ z ≤ 1000) F_inc
theorem ok_inc {f3 : Addr} {fd3 : FuncData} (G : Fun K "_law_in_cone" "_law_in_cone" (topS 42) f fd)
    (G3 : GMix P w K mg base f3 fd3) (hm3 : mg "_law_mix" = some (.ref f3)) (hk3 : PySem.W.keepIn K (.ref f3) = true) (hb3 : Binds K fd3 ["_law_vectors", "_law_way"] [])
    (ml : mg "len" = none) (mr : mg "range" = none) : GInc P w K mg base f fd := by
  refine fn_data G sc_inc rfl (fun ds h => ?_) (fun A ds hr h => ?_)
  · obtain ⟨p, V, pl, x, rfl, _⟩ := h; rfl
  · obtain ⟨p, V, pl, x, rfl, hV, hp, hx, hpb, hxb⟩ := h
    rw [F_inc_ints]
    have h1 := hV.1
    have h3 := hV.2.1
    refine sx_unp1 (d := .tuple [tI p, .tuple (V.map tI), tI pl]) (ex_name 0) (tgt_tup3 2 3 4 sc_inc.nd) ?_
    have hsl : (subV x p).length = V.length := by unfold subV; rw [List.length_map, List.length_range, hx]
    have gb : ∀ {l : List Int} {k : Nat}, (∀ z ∈ l, -1000 ≤ z ∧ z ≤ 1000) → -1000 ≤ l.getD k 0 ∧ l.getD k 0 ≤ 1000 := by
      intro l k h
      rw [List.getD_eq_getElem?_getD]
      cases q : l[k]? with
      | none => exact ⟨by decide, by decide⟩
      | some z => exact h z (List.mem_of_getElem? q)
    refine sx_set 5 sc_inc.nd (ev_ixT (ds := [.int (if 0 < dt V then dt V else 0 - dt V), lI (mixV V (subV x p))]) (x := lI (mixV V (subV x p))) (EV.is (ev_call G3 hr hm3 hk3 hb3 (av_cons (ex_name 3) (av_cons (d := lI (subV x p)) (ex_lc [("_law_k", 6)] sc_inc.nd (ei_range1 (n := (V.length : Int)) mr (EV.is (ev_lenT (ds := x.map .int) ml (ex_name 1)) (by rw [List.length_map, hx])) (by omega) (by omega)) fun ds e => ?_) ea_nil)) ⟨V, subV x p, rfl, hV, hsl, fun z hz => ?_⟩) (F_mix_ints _ _)) ex_int rfl) fun d e => ?_
    · refine turns_map (xs := List.range V.length) (enc := fun i => .int (0 + (i : Int))) (f := fun k => .int (x.getD k 0 - p.getD k 0)) e (le_size (by rw [List.length_range]; omega)) (fun k hk => ⟨_, _, tgt_name 6 sc_inc.nd, by decide, ev_sub (ev_ixT (ds := x.map .int) (ex_name 1) (ex_name 6) ?_) (ev_ixT (ds := p.map .int) (ex_name 2) (ex_name 6) ?_)⟩) ?_
      · rw [Int.zero_add]
        exact getI (by have := List.mem_range.mp hk; omega)
      · rw [Int.zero_add]
        exact getI (by have := List.mem_range.mp hk; omega)
      · show PyData.list _ = PyData.list _
        unfold subV
        rw [List.map_map, hx]
        rfl
    · obtain ⟨k, _, rfl⟩ := List.mem_map.mp hz
      have a1 := gb (k := k) hxb
      have a2 := gb (k := k) hpb
      exact ⟨by omega, by omega⟩
    subst e
    refine sx_ret (EV.is (ev_nil (n := 1) (ds := ((List.range V.length).filter fun k => (decide ((mixV V (subV x p)).getD k 0 < 0) || (decide ((mixV V (subV x p)).getD k 0 = 0) && decide ((k : Int) ∈ pl)))).map fun (k : Nat) => PyData.int (0 + (k : Int))) (units_ok hr) (ex_lc [("_law_k", 6)] sc_inc.nd (ei_range1 (n := (V.length : Int)) mr (EV.is (ev_lenL (ds := (mixV V (subV x p)).map .int) ml (ex_name 5)) (by rw [List.length_map, mixV_len])) (by omega) (by omega)) fun ds e => ?_) ?_) ?_)
    · refine turns_filter (xs := List.range V.length) (enc := fun (i : Nat) => .int (0 + (i : Int))) (p := fun k => (decide ((mixV V (subV x p)).getD k 0 < 0) || (decide ((mixV V (subV x p)).getD k 0 = 0) && decide ((k : Int) ∈ pl)))) (f := fun (k : Nat) => .int (0 + (k : Int))) e (le_size (by rw [List.length_range]; omega)) (fun k hk => ⟨_, _, tgt_name 6 sc_inc.nd, by decide, ?_, fun _ => ex_name 6⟩) rfl
      have gk : atI ((mixV V (subV x p)).map PyData.int) (0 + (k : Int)) = some (.int ((mixV V (subV x p)).getD k 0)) := by
        rw [Int.zero_add]
        exact getI (by rw [mixV_len]; exact List.mem_range.mp hk)
      have ei : decide ((0 + (k : Int)) ∈ pl) = decide ((k : Int) ∈ pl) := by rw [Int.zero_add]
      exact EW.et (ew_or (tv_lt (j := 0) (ev_ixL (ds := (mixV V (subV x p)).map .int) (ex_name 5) (ex_name 6) gk) ex_int) fun _ => ew_or1 (EW.et (ew_and (tv_eq (j := 0) (ev_ixL (ds := (mixV V (subV x p)).map .int) (ex_name 5) (ex_name 6) gk) ex_int) fun _ => ew_and1 (TV.is (tv_in (ns := pl) (ex_name 6) (ex_name 4)) ei))))
    · intro d hd
      obtain ⟨k, _, rfl⟩ := List.mem_map.mp hd
      exact shp_int
    · rw [isEmpty_map]
      congr 1
      unfold inC
      rw [Bool.eq_iff_iff, List.isEmpty_iff, List.filter_eq_nil_iff, List.all_eq_true]
      constructor
      · intro h k hk
        have := h k hk
        rw [Bool.not_eq_true] at this
        rw [this]
        rfl
      · intro h k hk
        have := h k hk
        rw [Bool.not_eq_true']  at this
        rw [this]
        decide
end
end Lp

/-! LqI: law. -/
namespace Lp
open PySem PySem.Spec L2
abbrev N_law : List Str := ["_law_script", "_law_row", "_law_cone_here", "_law_apex", "_law_size", "_law_found", "_law_one", "_law_far", "_law_p", "_law_way", "_law_x"]
theorem sc_law : FnScope N_law ["_law_script"] (defScope (topS 43)) := ⟨rfl, rfl, rfl, by decide +kernel, rfl, by decide +kernel, by decide +kernel⟩
/-- what is to be known of the numbers, for the law -/
structure MathL (Inv : List (List Int) → Prop) (D : Nat) : Prop where
  inv : ∀ p V pl, LawC p V pl → Inv V ∧ (dt V).natAbs ≤ D
  prt : ∀ p V pl L (f : Int), LawC p V pl → Fine D V L → 2 ≤ f → (∀ W ∈ L, genW W (tt V pl f V.length) = true) → ∀ W ∈ L, (dt W).natAbs = 1 ∧ W.length = V.length ∧ ConeL p W (negs W (tt V pl f V.length))
  siz : ∀ p V pl L, LawC p V pl → Fine D V L → L.length ≤ sizeLine
  cnt : ∀ p V pl L (f : Int), LawC p V pl → Fine D V L → 2 ≤ f → (∀ W ∈ L, genW W (tt V pl f V.length) = true) → ∀ x : List Int, x.length = V.length →
    (L.filter fun W => inC p W (negs W (tt V pl f V.length)) x).length = if inC p V pl x then 1 else 0
theorem LawC.ok {p : List Int} {V : List (List Int)} {pl : List Int} (h : LawC p V pl) : ConeOk p V pl :=
  ⟨h.sq, h.len, fun x hx => by have := h.pb x hx; omega, fun v hv x hx => by have := h.vb v hv x hx; omega, h.prm, h.det, h.asc, h.plb⟩
def spLaw (K : PySem.W.Frag) : Sp := fun vs H Q _ => ∃ (a : Addr) (ns : List Int), vs = [.ref a] ∧ SqL K H a (ns.map V.int) ∧ ns.length ≤ 63 ∧ ∀ H', Q (.bl true) H'
def farN (n : Nat) : Int := if n = 1 then 9 else if n = 2 then 7 else 2
theorem ex_tupS {F : Fx} {ρ : Dn} {es : List Expr} {k pos} {Ss : List PyData → Prop} (h : EA F ρ es Ss) (hl : ∀ ds, Ss ds → ds.length ≤ 1000) : EX F ρ (.Tuple es k pos) (fun d => ∃ ds, d = .tuple ds ∧ Ss ds) := ex_tup h fun ds s => ⟨hl ds s, ds, rfl, s⟩
section
variable {P : Program} {w : World} {K : PySem.W.Frag} {mg : Str → Option Value} {base : Heap} {f : Addr} {fd : FuncData}
theorem law_main {Inv : List (List Int) → Prop} {D : Nat} (M : MathL Inv D) {A : Around} (hr : Room (D + 7) A) {f1 f2 f3 f4 f5 f6 f7 : Addr} {fd1 fd2 fd3 fd4 fd5 fd6 fd7 : FuncData}
    (G1 : FnOk P w K mg base CX0 6 f1 fd1 ["_law_row", "_law_far"] (spRow K 1 inCone outCone)) (hm1 : mg "_law_cone" = some (.ref f1)) (hk1 : PySem.W.keepIn K (.ref f1) = true) (hb1 : Binds K fd1 ["_law_row", "_law_far"] [])
    (G2 : FnOk P w K mg base CX0 2 f2 fd2 ["_law_row", "_law_things"] (spRow K 1 inPick outPick)) (hm2 : mg "_law_pick" = some (.ref f2)) (hk2 : PySem.W.keepIn K (.ref f2) = true) (hb2 : Binds K fd2 ["_law_row", "_law_things"] [])
    (G3 : FnOk P w K mg base CX0 (D + 7) f3 fd3 ["cone"] (spR K 1 (inUni Inv D) (outUni D))) (hm3 : mg "unimodular_parts" = some (.ref f3)) (hk3 : PySem.W.keepIn K (.ref f3) = true) (hb3 : Binds K fd3 ["cone"] [])
    (G4 : GLc P w K mg base f4 fd4) (hm4 : mg "_law_is_cone" = some (.ref f4)) (hk4 : PySem.W.keepIn K (.ref f4) = true) (hb4 : Binds K fd4 ["_law_value", "_law_size"] [])
    (G5 : GLd P w K mg base f5 fd5) (hm5 : mg "_law_determinant" = some (.ref f5)) (hk5 : PySem.W.keepIn K (.ref f5) = true) (hb5 : Binds K fd5 ["_law_rows"] [])
    (G6 : FnD P w K mg base 1 f6 fd6 ["_law_points", "_law_n", "_law_more"] 3 (fun ds => ∃ lo hi : List Int, ds = [.tuple [tI lo, tI hi], .int 1, .int 0] ∧ lo.length ≤ 3 ∧ hi.length = lo.length ∧ ∀ k : Nat, k < lo.length → -1000 ≤ lo.getD k 0 ∧ lo.getD k 0 ≤ hi.getD k 0 ∧ hi.getD k 0 ≤ 1000 ∧ hi.getD k 0 < lo.getD k 0 + 250) F_lbox) (hm6 : mg "_law_box" = some (.ref f6)) (hk6 : PySem.W.keepIn K (.ref f6) = true) (hb6 : Binds K fd6 ["_law_points", "_law_n", "_law_more"] [])
    (G7 : GInc P w K mg base f7 fd7) (hm7 : mg "_law_in_cone" = some (.ref f7)) (hk7 : PySem.W.keepIn K (.ref f7) = true) (hb7 : Binds K fd7 ["_law_cone_here", "_law_p"] [])
    (mi : mg "isinstance" = none) (mt : mg "tuple" = none) (ml : mg "len" = none) (mli : mg "list" = none) (ma : mg "abs" = none) :
    SX (fxOf P w K mg base A N_law (defScope (topS 43))) [none, some .row, none, none, none, none, none, none, none, none, none] ((defBody (topS 43)).drop 1) (fun _ => False) (fun d => d = .bool true) := by
  refine sx_set (S := fun d => ∃ p V pl, d = coneD p V pl ∧ LawC p V pl) 2 sc_law.nd (ex_callR 1 G1 (hr.mono (by omega)) hm1 hk1 hb1 (ea_cons (ex_callR (S := fun d => ∃ x : Int, d = .int x ∧ x ∈ ([1, 2, 3] : List Int)) 1 G2 (hr.mono (by omega)) hm2 hk2 hb2 (av_cons (ev_lst (av_cons ex_int (av_cons ex_int (av_cons ex_int ea_nil)))) ea_nil) rfl fun ds e => ?_) ea_nil) rfl fun ds e => ?_) fun d e => ?_
  · subst e
    refine ⟨rfl, ⟨[1, 2, 3], rfl, by decide, by decide⟩, fun d h => ?_⟩
    obtain ⟨ns, x, e, rfl, hx⟩ := h
    have : ns = [1, 2, 3] := by
      have := congrArg (fun l => match l with | (.list q) :: _ => q.map unI | _ => []) e
      simp only at this
      rw [unI_ints] at this
      exact this.symm
    subst this
    exact ⟨x, rfl, hx⟩
  · obtain ⟨d, r, rfl, ⟨x, rfl, hx⟩, rfl⟩ := e
    refine ⟨rfl, ⟨x, rfl, ?_, ?_⟩, fun d h => h⟩
    · simp only [List.mem_cons, List.not_mem_nil, or_false] at hx
      omega
    · simp only [List.mem_cons, List.not_mem_nil, or_false] at hx
      omega
  obtain ⟨p, V, pl, rfl, hC⟩ := e
  have hn1 := hC.sq.1
  have hn3 := hC.sq.2.1
  have hpl := hC.len
  have cz : ∀ W, SqS W → W.length = V.length → W.length ≤ 3 := fun W h _ => h.2.1
  refine sx_unp1 (d := .tuple [tI p, .int (V.length : Int)]) (ev_tup (av_cons (ev_ixT (ds := [tI p, .tuple (V.map tI), tI pl]) (x := tI p) (ex_name 2) ex_int rfl) (av_cons (EV.is (ev_lenT (ds := p.map .int) ml (ev_ixT (ds := [tI p, .tuple (V.map tI), tI pl]) (ex_name 2) ex_int rfl)) (d' := .int (V.length : Int)) (by rw [List.length_map, hpl])) ea_nil))) (tgt_tup2 3 4 sc_law.nd) ?_
  obtain ⟨hInv, hD⟩ := M.inv p V pl hC
  refine sx_set (S := UniR D p V pl) 5 sc_law.nd (ex_call G3 hr hm3 hk3 hb3 (av_cons (ex_name 2) ea_nil) rfl fun ds e => ?_) fun d e => ?_
  · subst e
    refine ⟨rfl, ⟨p, V, pl, rfl, hC.ok, hInv, hD⟩, fun d h => ?_⟩
    have h : UniR D (getC [coneD p V pl]).1 (getC [coneD p V pl]).2.1 (getC [coneD p V pl]).2.2 d := h
    rw [getC_D] at h
    exact h
  obtain ⟨L, g, hF, hg2, hgen, rfl⟩ := e
  have hP := M.prt p V pl L g hC hF hg2 hgen
  have hN := M.cnt p V pl L g hC hF hg2 hgen
  have hZ := M.siz p V pl L hC hF
  generalize ht : tt V pl g V.length = t at hP hN
  have hfr : 2 ≤ farN V.length ∧ farN V.length ≤ 9 := by
    unfold farN
    split
    · decide
    · split <;> decide
  refine sx_ifF (TV.is (EW.et (ew_or (k := !true) (k' := !true) (tv_not (tv_val (ev_isi (T := "tuple") (d := .tuple (L.map fun W => coneD p W (negs W t))) mi mt (ex_name 5) (by decide +kernel) k_tt))) fun _ => ew_or1 (TV.is (tv_neD (x := .list []) (y := .list []) (units_ok hr) (ex_lc [("_law_one", 6)] sc_law.nd (ei_tup (S := fun ds => ds = L.map fun W => coneD p W (negs W t)) ((ex_name 5).weak fun d e => ⟨_, e, rfl⟩)) fun ds e => ?_) (ev_lst ea_nil) shaped_nil shaped_nil) rfl))) (by decide)) ?_
  · refine turns_filter (xs := L) (enc := fun W => coneD p W (negs W t)) (p := fun _ => false) (f := fun W => coneD p W (negs W t)) e hZ (fun W hW => ⟨_, _, tgt_name 6 sc_law.nd, by decide, TV.is (tv_not (tv_val (EV.is (ev_call G4 (hr.mono (by omega)) hm4 hk4 hb4 (av_cons (ex_name 6) (av_cons (ex_name 4) ea_nil)) ⟨p, W, negs W t, by rw [(hP W hW).2.1], (hP W hW).2.2⟩) rfl))) rfl, fun h => by cases h⟩) ?_
    have : L.filter (fun _ => false) = [] := List.filter_eq_nil_iff.mpr fun x hx => by simp
    rw [this]
    rfl
  refine sx_for (ei_tup (S := fun ds => ds = L.map fun W => coneD p W (negs W t)) ((ex_name 5).weak fun d e => ⟨_, e, rfl⟩)) fun ds e => ?_
  subst e
  refine ⟨fun i ρ' => ∃ o6, ρ' = [none, some .row, some (.im (coneD p V pl)), some (.im (tI p)), some (.im (.int (V.length : Int))), some (.im (.tuple (L.map fun W => coneD p W (negs W t)))), o6, none, none, none, none], ⟨none, rfl⟩, fun i d ρ' hd h => ?_, fun ρ' h => ?_⟩
  · obtain ⟨o6, rfl⟩ := h
    rw [List.getElem?_map] at hd
    cases hx : L[i]? with
    | none => rw [hx] at hd; cases hd
    | some W =>
      rw [hx] at hd
      have e : coneD p W (negs W t) = d := Option.some.inj hd
      subst e
      obtain ⟨hW1, hW2, hW3⟩ := hP W (List.mem_of_getElem? hx)
      refine ⟨_, _, tgt_name 6 sc_law.nd, ?_⟩
      refine sx_ifF (TV.is (EW.et (ew_or (k := false) (k' := !decide (((dt W).natAbs : Int) = 1)) (TV.is (tv_neD (x := tI p) (y := tI p) (units_ok hr) (ev_ixT (ds := [tI p, .tuple (W.map tI), tI (negs W t)]) (x := tI p) (ex_name 6) ex_int rfl) (ex_name 3) (shp_tI p).shaped (shp_tI p).shaped) (by rw [eqv_tI]; simp)) fun _ => ew_or1 (tv_ne (i := ((dt W).natAbs : Int)) (j := 1) (ev_abs ma (EV.is (ev_call (G5 W.length) (hr.mono (by omega)) hm5 hk5 hb5 (av_cons (d := .list (W.map lI)) (ds := []) (ex_lc [("_law_way", 9)] sc_law.nd (ei_tup (S := fun ds => ds = W.map tI) ((ev_ixT (ds := [tI p, .tuple (W.map tI), tI (negs W t)]) (x := .tuple (W.map tI)) (ex_name 6) ex_int rfl).weak fun d e => ⟨_, e, rfl⟩)) fun ds e => ?_) ea_nil) ⟨W, rfl, hW3.sq.z⟩) (d' := .int (dt W)) (by rw [F_ldet_rows, ld_dt hW3.sq.1]))) ex_int))) (by rw [hW1]; rfl)) ?_
      · exact turns_map (xs := W) (enc := tI) (f := lI) e (le_size (by omega)) (fun u hu => ⟨_, _, tgt_name 9 sc_law.nd, by decide, ev_listT (ds := u.map .int) mli (ex_name 9)⟩) rfl
      exact sx_nil ⟨some (.im (coneD p W (negs W t))), rfl⟩
  · obtain ⟨o6, rfl⟩ := h
    refine sx_set 7 sc_law.nd (EV.is (ev_ixL (ds := [.int 9, .int 7, .int 2]) (x := .int (farN V.length)) (ev_lst (av_cons ex_int (av_cons ex_int (av_cons ex_int ea_nil)))) (ev_sub (ex_name 4) ex_int) ?_) rfl) fun d e => ?_
    · obtain e | e | e : V.length = 1 ∨ V.length = 2 ∨ V.length = 3 := by omega
      · rw [e]; rfl
      · rw [e]; rfl
      · rw [e]; rfl
    subst e
    have gm : ∀ (q : Int → Int) (k : Nat), k < p.length → (p.map q).getD k 0 = q (p.getD k 0) := fun q k hk => by
      rw [List.getD_eq_getElem?_getD, List.getElem?_map, List.getD_eq_getElem?_getD, List.getElem?_eq_getElem hk]
      rfl
    have pk : ∀ k, k < p.length → -3 ≤ p.getD k 0 ∧ p.getD k 0 ≤ 3 := fun k hk => by
      rw [List.getD_eq_getElem?_getD, List.getElem?_eq_getElem hk]
      exact hC.pb _ (List.getElem_mem hk)
    refine sx_for (ei_list (S := fun ds => ds = (boxT (p.map fun x => x - farN V.length) (p.map fun x => x + farN V.length) V.length).map tI) (EX.weak (EV.is (ev_call G6 (hr.mono (by omega)) hm6 hk6 hb6 (av_cons (ev_tup (av_cons (EV.is (ev_tupleL (ds := (p.map fun x => x - farN V.length).map .int) mt (ex_lc [("_law_x", 10)] sc_law.nd (ei_tup (S := fun ds => ds = p.map .int) ((ex_name 3).weak fun d e => ⟨_, e, rfl⟩)) fun ds e => ?_)) (d' := tI (p.map fun x => x - farN V.length)) rfl) (av_cons (EV.is (ev_tupleL (ds := (p.map fun x => x + farN V.length).map .int) mt (ex_lc [("_law_x", 10)] sc_law.nd (ei_tup (S := fun ds => ds = p.map .int) ((ex_name 3).weak fun d e => ⟨_, e, rfl⟩)) fun ds e => ?_)) (d' := tI (p.map fun x => x + farN V.length)) rfl) ea_nil))) (av_cons ex_int (av_cons ex_int ea_nil))) ⟨_, _, rfl, by rw [List.length_map]; omega, by rw [List.length_map, List.length_map], fun k hk => ?_⟩) (F_lbox_ints _ _)) fun d e => ⟨_, e, by rw [List.length_map, hpl]⟩)) fun ds e => ?_
    · refine turns_map (xs := p) (enc := .int) (f := fun x => .int (x - farN V.length)) e (le_size (by omega)) (fun x hx => ⟨_, _, tgt_name 10 sc_law.nd, by decide, ev_sub (ex_name 10) (ex_name 7)⟩) ?_
      show PyData.list _ = PyData.list _
      rw [List.map_map]
      rfl
    · refine turns_map (xs := p) (enc := .int) (f := fun x => .int (x + farN V.length)) e (le_size (by omega)) (fun x hx => ⟨_, _, tgt_name 10 sc_law.nd, by decide, ev_add (ex_name 10) (ex_name 7)⟩) ?_
      show PyData.list _ = PyData.list _
      rw [List.map_map]
      rfl
    · rw [List.length_map] at hk
      rw [gm _ k hk, gm _ k hk]
      have := pk k hk
      omega
    subst e
    refine ⟨fun i ρ' => ∃ o8, ρ' = [none, some .row, some (.im (coneD p V pl)), some (.im (tI p)), some (.im (.int (V.length : Int))), some (.im (.tuple (L.map fun W => coneD p W (negs W t)))), o6, some (.im (.int (farN V.length))), o8, none, none], ⟨none, rfl⟩, fun i d ρ' hd h => ?_, fun ρ' h => ?_⟩
    · obtain ⟨o8, rfl⟩ := h
      rw [List.getElem?_map] at hd
      cases hx : (boxT (p.map fun x => x - farN V.length) (p.map fun x => x + farN V.length) V.length)[i]? with
      | none => rw [hx] at hd; cases hd
      | some x =>
        rw [hx] at hd
        have e : tI x = d := Option.some.inj hd
        subst e
        obtain ⟨hxl, hxb⟩ := mem_boxT.mp (List.mem_of_getElem? hx)
        have hxs : ∀ z ∈ x, -1000 ≤ z ∧ z ≤ 1000 := fun z hz => by
          obtain ⟨j, hj⟩ := List.getElem?_of_mem hz
          have hjl := (List.getElem?_eq_some_iff.mp hj).1
          have h1 := hxb j (by omega)
          rw [gm _ j (by omega), gm _ j (by omega), List.getD_eq_getElem?_getD (l := x), hj] at h1
          have h1 : p.getD j 0 - farN V.length ≤ z ∧ z ≤ p.getD j 0 + farN V.length := h1
          have := pk j (by omega)
          omega
        have hps : ∀ z ∈ p, -1000 ≤ z ∧ z ≤ 1000 := fun z hz => by have := hC.pb z hz; omega
        refine ⟨_, _, tgt_name 8 sc_law.nd, ?_⟩
        refine sx_ifF (TV.is (tv_ne (i := ((L.filter fun W => inC p W (negs W t) x).length : Int)) (j := if inC p V pl x then 1 else 0) (EV.is (ev_lenL (ds := ((L.filter fun W => inC p W (negs W t) x).map fun W => coneD p W (negs W t))) ml (ex_lc [("_law_one", 6)] sc_law.nd (ei_tup (S := fun ds => ds = L.map fun W => coneD p W (negs W t)) ((ex_name 5).weak fun d e => ⟨_, e, rfl⟩)) fun ds e => ?_)) (by rw [List.length_map])) (ex_if (tv_val (EV.is (ev_call G7 (hr.mono (by omega)) hm7 hk7 hb7 (av_cons (ex_name 2) (av_cons (ex_name 8) ea_nil)) ⟨p, V, pl, x, rfl, hC.ok.sqS, hpl, hxl, hps, hxs⟩) (F_inc_ints p V pl x))) (fun h => ?_) fun h => ?_)) ?_) ?_
        · refine turns_filter (xs := L) (enc := fun W => coneD p W (negs W t)) (p := fun W => inC p W (negs W t) x) (f := fun W => coneD p W (negs W t)) e hZ (fun W hW => ⟨_, _, tgt_name 6 sc_law.nd, by decide, tv_val (EV.is (ev_call G7 (hr.mono (by omega)) hm7 hk7 hb7 (av_cons (ex_name 6) (av_cons (ex_name 8) ea_nil)) ⟨p, W, negs W t, x, rfl, (hP W hW).2.2.sq, by rw [(hP W hW).2.1, hpl], by rw [(hP W hW).2.1, hxl], hps, hxs⟩) (F_inc_ints p W _ x)), fun _ => ex_name 6⟩) rfl
        · rw [← h]
          exact ex_int
        · rw [← h]
          exact ex_int
        · rw [hN x hxl]
          cases inC p V pl x <;> rfl
        · exact sx_nil ⟨some (.im (tI x)), rfl⟩
    · obtain ⟨o8, rfl⟩ := h
      exact sx_ret ex_bl
theorem ok_law {Inv : List (List Int) → Prop} {D : Nat} (M : MathL Inv D) {f1 f2 f3 f4 f5 f6 f7 : Addr} {fd1 fd2 fd3 fd4 fd5 fd6 fd7 : FuncData} (G : Fun K "law" "law" (topS 43) f fd)
    (G1 : FnOk P w K mg base CX0 6 f1 fd1 ["_law_row", "_law_far"] (spRow K 1 inCone outCone)) (hm1 : mg "_law_cone" = some (.ref f1)) (hk1 : PySem.W.keepIn K (.ref f1) = true) (hb1 : Binds K fd1 ["_law_row", "_law_far"] [])
    (G2 : FnOk P w K mg base CX0 2 f2 fd2 ["_law_row", "_law_things"] (spRow K 1 inPick outPick)) (hm2 : mg "_law_pick" = some (.ref f2)) (hk2 : PySem.W.keepIn K (.ref f2) = true) (hb2 : Binds K fd2 ["_law_row", "_law_things"] [])
    (G3 : FnOk P w K mg base CX0 (D + 7) f3 fd3 ["cone"] (spR K 1 (inUni Inv D) (outUni D))) (hm3 : mg "unimodular_parts" = some (.ref f3)) (hk3 : PySem.W.keepIn K (.ref f3) = true) (hb3 : Binds K fd3 ["cone"] [])
    (G4 : GLc P w K mg base f4 fd4) (hm4 : mg "_law_is_cone" = some (.ref f4)) (hk4 : PySem.W.keepIn K (.ref f4) = true) (hb4 : Binds K fd4 ["_law_value", "_law_size"] [])
    (G5 : GLd P w K mg base f5 fd5) (hm5 : mg "_law_determinant" = some (.ref f5)) (hk5 : PySem.W.keepIn K (.ref f5) = true) (hb5 : Binds K fd5 ["_law_rows"] [])
    (G6 : FnD P w K mg base 1 f6 fd6 ["_law_points", "_law_n", "_law_more"] 3 (fun ds => ∃ lo hi : List Int, ds = [.tuple [tI lo, tI hi], .int 1, .int 0] ∧ lo.length ≤ 3 ∧ hi.length = lo.length ∧ ∀ k : Nat, k < lo.length → -1000 ≤ lo.getD k 0 ∧ lo.getD k 0 ≤ hi.getD k 0 ∧ hi.getD k 0 ≤ 1000 ∧ hi.getD k 0 < lo.getD k 0 + 250) F_lbox) (hm6 : mg "_law_box" = some (.ref f6)) (hk6 : PySem.W.keepIn K (.ref f6) = true) (hb6 : Binds K fd6 ["_law_points", "_law_n", "_law_more"] [])
    (G7 : GInc P w K mg base f7 fd7) (hm7 : mg "_law_in_cone" = some (.ref f7)) (hk7 : PySem.W.keepIn K (.ref f7) = true) (hb7 : Binds K fd7 ["_law_cone_here", "_law_p"] [])
    (mi : mg "isinstance" = none) (mt : mg "tuple" = none) (ml : mg "len" = none) (mli : mg "list" = none) (ma : mg "abs" = none) :
    FnOk P w K mg base CX0 (D + 8) f fd ["_law_script"] (spLaw K) := by
  refine G.ok sc_law (fun vs H Q E h => by obtain ⟨a, ns, rfl, _⟩ := h; rfl) (fun cdv A outer s H vs Q E hr h => ?_)
  obtain ⟨sc, ns, rfl, hS, hn, hQ⟩ := h
  refine ⟨wS (fxOf P w K mg base _ N_law (defScope (topS 43))) (defBody (topS 43)), pss_w (F := fxOf P w K mg base _ N_law (defScope (topS 43))) (v := ⟨s, H, PyProof.Rows.envOfC "law" (defScope (topS 43)) s.heap.objs.size f cdv, outer, PyProof.Rows.envOfC "law" (defScope (topS 43)) s.heap.objs.size f cdv :: outer, []⟩), ?_⟩
  refine ⟨tSeq (tAsg (tLst (tCons (tVar 0) (tCons (tC (.int 0)) (tCons (tC (.int 3354)) (tCons (tC (.int 0)) tNil))))) (gName 1)) (wS _ ((defBody (topS 43)).drop 1)), fun v => pss_cons (ps_set sc_law.nd rfl (by first | exact Or.inl rfl | exact Or.inr rfl) (pe_lst (pa_cons (pe_var (i := 0) rfl (by first | exact Or.inl rfl | exact Or.inr (Or.inl rfl) | exact Or.inr (Or.inr rfl)) (by decide) (by decide)) (pa_cons pe_int (pa_cons pe_int (pa_cons pe_int pa_nil (by rfl)) (by rfl)) (by rfl)) (by rfl))) (by rfl) (by first | exact .inl rfl | exact .inr rfl)) pss_w, ?_⟩
  refine ⟨.ref sc, rfl, (by decide : 4 ≤ sizeLine), fun r hr0 => ?_⟩
  have hne : ∀ a o, H a = some o → a ≠ r := fun a o h e => by rw [e, hr0] at h; cases h
  have ex : Ex H (upd H r (.lst [.ref sc, .int 0, .int 3354, .int 0])) := fun a o h => by rw [upd_ne (hne a o h)]; exact h
  refine law_main M hr G1 hm1 hk1 hb1 G2 hm2 hk2 hb2 G3 hm3 hk3 hb3 G4 hm4 hk4 hb4 G5 hm5 hk5 hb5 G6 hm6 hk6 hb6 G7 hm7 hk7 hb7 mi mt ml mli ma (some r) H (upd H r (.lst [.ref sc, .int 0, .int 3354, .int 0])) H (upd H r (.lst [.ref sc, .int 0, .int 3354, .int 0])) _ _ ⟨.refl _, fun a o h _ => h, ex, fun a o h n => (by rw [n] at h; cases h), fun r' e => ?_, fun i d e => ?_, fun i ds e => ?_, fun i e => ?_, fun i j ds ds' e => ?_, rfl⟩ (fun ρ' σ' Hk' H' e1 c1 n => n.elim) fun v d Hk' H' e1 c1 i e => ?_
  · cases e
    exact ⟨⟨_, upd_same⟩, hr0, sc, ns, 0, 3354, 0, hS, hn, by decide, upd_same⟩
  · match i, e with
    | 0, e | 1, e | 2, e | 3, e | 4, e | 5, e | 6, e | 7, e | 8, e | 9, e | 10, e => cases e
    | i + 11, e => cases e
  · match i, e with
    | 0, e | 1, e | 2, e | 3, e | 4, e | 5, e | 6, e | 7, e | 8, e | 9, e | 10, e => cases e
    | i + 11, e => cases e
  · match i, e with
    | 1, e => exact ⟨r, rfl, rfl⟩
    | 0, e | 2, e | 3, e | 4, e | 5, e | 6, e | 7, e | 8, e | 9, e | 10, e => cases e
    | i + 11, e => cases e
  · match i, e with
    | 0, e | 1, e | 2, e | 3, e | 4, e | 5, e | 6, e | 7, e | 8, e | 9, e | 10, e => cases e
    | i + 11, e => cases e
  · subst e
    cases i
    exact hQ H'
end
end Lp

/-! LmA: determinants with a row replaced: linear, Cramer, the exchange. -/
namespace Lp
def Nn (V : List (List Int)) (p : List Int) (k : Nat) : Int := dt (V.set k p)
theorem Nn_self {V : List (List Int)} {k : Nat} (h : k < V.length) : Nn V (V.getD k []) k = dt V := by
  unfold Nn
  rw [List.getD_eq_getElem?_getD, List.getElem?_eq_getElem h]
  show dt (V.set k V[k]) = dt V
  rw [List.set_getElem_self]
/-- a square and two points -/
theorem Squ.cases2 {C : List (List Int) → List Int → List Int → Prop} (h1 : ∀ a x u, C [[a]] [x] [u]) (h2 : ∀ a b c d x y u v, C [[a, b], [c, d]] [x, y] [u, v]) (h3 : ∀ a b c d e f g h i x y z u v w, C [[a, b, c], [d, e, f], [g, h, i]] [x, y, z] [u, v, w]) {V : List (List Int)} {p q : List Int} (h : Squ V) (hp : p.length = V.length) (hq : q.length = V.length) : C V p q := by
  refine Squ.cases1 (C := fun V p => q.length = V.length → C V p q) (fun a x e => ?_) (fun a b c d x y e => ?_) (fun a b c d e f g h i x y z e => ?_) h hp hq
  · obtain ⟨u, rfl⟩ := len1 e
    exact h1 ..
  · obtain ⟨u, v, rfl⟩ := len2 e
    exact h2 ..
  · obtain ⟨u, v, w, rfl⟩ := len3 e
    exact h3 ..
/-- linear -/
theorem Nn_lin {V : List (List Int)} {p q : List Int} (h : Squ V) (hp : p.length = V.length) (hq : q.length = V.length) (T : Int) : ∀ k, k < V.length → Nn V (addV (sclV T p) q) k = T * Nn V p k + Nn V q k := by
  refine Squ.cases2 (C := fun V p q => ∀ k, k < V.length → Nn V (addV (sclV T p) q) k = T * Nn V p k + Nn V q k) (fun a x u k hk => ?_) (fun a b c d x y u v k hk => ?_) (fun a b c d e f g h i x y z u v w k hk => ?_) h hp hq
  · obtain rfl : k = 0 := by simpa using hk
    show T * x + u = T * x + u
    rfl
  · obtain rfl | rfl : k = 0 ∨ k = 1 := by have : k < 2 := hk; omega
    · show (T * x + u) * d - (T * y + v) * c = T * (x * d - y * c) + (u * d - v * c)
      grind
    · show a * (T * y + v) - b * (T * x + u) = T * (a * y - b * x) + (a * v - b * u)
      grind
  · obtain rfl | rfl | rfl : k = 0 ∨ k = 1 ∨ k = 2 := by have : k < 3 := hk; omega
    · show (T * x + u) * (e * i - f * h) - (T * y + v) * (d * i - f * g) + (T * z + w) * (d * h - e * g) = T * (x * (e * i - f * h) - y * (d * i - f * g) + z * (d * h - e * g)) + (u * (e * i - f * h) - v * (d * i - f * g) + w * (d * h - e * g))
      grind
    · show a * ((T * y + v) * i - (T * z + w) * h) - b * ((T * x + u) * i - (T * z + w) * g) + c * ((T * x + u) * h - (T * y + v) * g) = T * (a * (y * i - z * h) - b * (x * i - z * g) + c * (x * h - y * g)) + (a * (v * i - w * h) - b * (u * i - w * g) + c * (u * h - v * g))
      grind
    · show a * (e * (T * z + w) - f * (T * y + v)) - b * (d * (T * z + w) - f * (T * x + u)) + c * (d * (T * y + v) - e * (T * x + u)) = T * (a * (e * z - f * y) - b * (d * z - f * x) + c * (d * y - e * x)) + (a * (e * w - f * v) - b * (d * w - f * u) + c * (d * v - e * u))
      grind
/-- the exchange -/
theorem Nn_exch {V : List (List Int)} {q p : List Int} (h : Squ V) (hq : q.length = V.length) (hp : p.length = V.length) : ∀ k i, k < V.length → i < V.length → i ≠ k → dt V * Nn (V.set k q) p i = Nn V q k * Nn V p i - Nn V p k * Nn V q i := by
  refine Squ.cases2 (C := fun V q p => ∀ k i, k < V.length → i < V.length → i ≠ k → dt V * Nn (V.set k q) p i = Nn V q k * Nn V p i - Nn V p k * Nn V q i) (fun a x u k i hk hi hn => ?_) (fun a b c d x y u v k i hk hi hn => ?_) (fun a b c d e f g h i x y z u v w k j hk hj hn => ?_) h hq hp
  · have : k < 1 := hk
    have : i < 1 := hi
    omega
  · obtain ⟨rfl, rfl⟩ | ⟨rfl, rfl⟩ : (k = 0 ∧ i = 1) ∨ (k = 1 ∧ i = 0) := by
      have : k < 2 := hk
      have : i < 2 := hi
      omega
    · show (a * d - b * c) * (x * v - y * u) = (x * d - y * c) * (a * v - b * u) - (u * d - v * c) * (a * y - b * x)
      grind
    · show (a * d - b * c) * (u * y - v * x) = (a * y - b * x) * (u * d - v * c) - (a * v - b * u) * (x * d - y * c)
      grind
  · obtain ⟨rfl, rfl⟩ | ⟨rfl, rfl⟩ | ⟨rfl, rfl⟩ | ⟨rfl, rfl⟩ | ⟨rfl, rfl⟩ | ⟨rfl, rfl⟩ : (k = 0 ∧ j = 1) ∨ (k = 0 ∧ j = 2) ∨ (k = 1 ∧ j = 0) ∨ (k = 1 ∧ j = 2) ∨ (k = 2 ∧ j = 0) ∨ (k = 2 ∧ j = 1) := by
      have : k < 3 := hk
      have : j < 3 := hj
      omega
    · show (a * (e * i - f * h) - b * (d * i - f * g) + c * (d * h - e * g)) * (x * (v * i - w * h) - y * (u * i - w * g) + z * (u * h - v * g)) = (x * (e * i - f * h) - y * (d * i - f * g) + z * (d * h - e * g)) * (a * (v * i - w * h) - b * (u * i - w * g) + c * (u * h - v * g)) - (u * (e * i - f * h) - v * (d * i - f * g) + w * (d * h - e * g)) * (a * (y * i - z * h) - b * (x * i - z * g) + c * (x * h - y * g))
      grind
    · show (a * (e * i - f * h) - b * (d * i - f * g) + c * (d * h - e * g)) * (x * (e * w - f * v) - y * (d * w - f * u) + z * (d * v - e * u)) = (x * (e * i - f * h) - y * (d * i - f * g) + z * (d * h - e * g)) * (a * (e * w - f * v) - b * (d * w - f * u) + c * (d * v - e * u)) - (u * (e * i - f * h) - v * (d * i - f * g) + w * (d * h - e * g)) * (a * (e * z - f * y) - b * (d * z - f * x) + c * (d * y - e * x))
      grind
    · show (a * (e * i - f * h) - b * (d * i - f * g) + c * (d * h - e * g)) * (u * (y * i - z * h) - v * (x * i - z * g) + w * (x * h - y * g)) = (a * (y * i - z * h) - b * (x * i - z * g) + c * (x * h - y * g)) * (u * (e * i - f * h) - v * (d * i - f * g) + w * (d * h - e * g)) - (a * (v * i - w * h) - b * (u * i - w * g) + c * (u * h - v * g)) * (x * (e * i - f * h) - y * (d * i - f * g) + z * (d * h - e * g))
      grind
    · show (a * (e * i - f * h) - b * (d * i - f * g) + c * (d * h - e * g)) * (a * (y * w - z * v) - b * (x * w - z * u) + c * (x * v - y * u)) = (a * (y * i - z * h) - b * (x * i - z * g) + c * (x * h - y * g)) * (a * (e * w - f * v) - b * (d * w - f * u) + c * (d * v - e * u)) - (a * (v * i - w * h) - b * (u * i - w * g) + c * (u * h - v * g)) * (a * (e * z - f * y) - b * (d * z - f * x) + c * (d * y - e * x))
      grind
    · show (a * (e * i - f * h) - b * (d * i - f * g) + c * (d * h - e * g)) * (u * (e * z - f * y) - v * (d * z - f * x) + w * (d * y - e * x)) = (a * (e * z - f * y) - b * (d * z - f * x) + c * (d * y - e * x)) * (u * (e * i - f * h) - v * (d * i - f * g) + w * (d * h - e * g)) - (a * (e * w - f * v) - b * (d * w - f * u) + c * (d * v - e * u)) * (x * (e * i - f * h) - y * (d * i - f * g) + z * (d * h - e * g))
      grind
    · show (a * (e * i - f * h) - b * (d * i - f * g) + c * (d * h - e * g)) * (a * (v * z - w * y) - b * (u * z - w * x) + c * (u * y - v * x)) = (a * (e * z - f * y) - b * (d * z - f * x) + c * (d * y - e * x)) * (a * (v * i - w * h) - b * (u * i - w * g) + c * (u * h - v * g)) - (a * (e * w - f * v) - b * (d * w - f * u) + c * (d * v - e * u)) * (a * (y * i - z * h) - b * (x * i - z * g) + c * (x * h - y * g))
      grind
/-- the sum over the rows -/
def sumR (n : Nat) (g : Nat → Int) : Int := ((List.range n).map g).sum
/-- Cramer -/
theorem Nn_cram {V : List (List Int)} {p : List Int} (h : Squ V) (hp : p.length = V.length) : ∀ a, a < V.length → dt V * p.getD a 0 = sumR V.length fun k => Nn V p k * (V.getD k []).getD a 0 := by
  refine Squ.cases1 (C := fun V p => ∀ a, a < V.length → dt V * p.getD a 0 = sumR V.length fun k => Nn V p k * (V.getD k []).getD a 0) (fun a x j hj => ?_) (fun a b c d x y j hj => ?_) (fun a b c d e f g h i x y z j hj => ?_) h hp
  · obtain rfl : j = 0 := by simpa using hj
    show a * x = x * a + 0
    grind
  · obtain rfl | rfl : j = 0 ∨ j = 1 := by have : j < 2 := hj; omega
    · show (a * d - b * c) * x = (x * d - y * c) * a + ((a * y - b * x) * c + 0)
      grind
    · show (a * d - b * c) * y = (x * d - y * c) * b + ((a * y - b * x) * d + 0)
      grind
  · obtain rfl | rfl | rfl : j = 0 ∨ j = 1 ∨ j = 2 := by have : j < 3 := hj; omega
    · show (a * (e * i - f * h) - b * (d * i - f * g) + c * (d * h - e * g)) * x = (x * (e * i - f * h) - y * (d * i - f * g) + z * (d * h - e * g)) * a + ((a * (y * i - z * h) - b * (x * i - z * g) + c * (x * h - y * g)) * d + ((a * (e * z - f * y) - b * (d * z - f * x) + c * (d * y - e * x)) * g + 0))
      grind
    · show (a * (e * i - f * h) - b * (d * i - f * g) + c * (d * h - e * g)) * y = (x * (e * i - f * h) - y * (d * i - f * g) + z * (d * h - e * g)) * b + ((a * (y * i - z * h) - b * (x * i - z * g) + c * (x * h - y * g)) * e + ((a * (e * z - f * y) - b * (d * z - f * x) + c * (d * y - e * x)) * h + 0))
      grind
    · show (a * (e * i - f * h) - b * (d * i - f * g) + c * (d * h - e * g)) * z = (x * (e * i - f * h) - y * (d * i - f * g) + z * (d * h - e * g)) * c + ((a * (y * i - z * h) - b * (x * i - z * g) + c * (x * h - y * g)) * f + ((a * (e * z - f * y) - b * (d * z - f * x) + c * (d * y - e * x)) * i + 0))
      grind
/-- a row in another's place -/
theorem Nn_other {V : List (List Int)} (h : Squ V) : ∀ j k, j < V.length → k < V.length → j ≠ k → Nn V (V.getD j []) k = 0 := by
  refine Squ.cases (C := fun V => ∀ j k, j < V.length → k < V.length → j ≠ k → Nn V (V.getD j []) k = 0) (fun a j k hj hk hn => ?_) (fun a b c d j k hj hk hn => ?_) (fun a b c d e f g h i j k hj hk hn => ?_) h
  · have : k < 1 := hk
    have : j < 1 := hj
    omega
  · obtain ⟨rfl, rfl⟩ | ⟨rfl, rfl⟩ : (j = 0 ∧ k = 1) ∨ (j = 1 ∧ k = 0) := by
      have : k < 2 := hk
      have : j < 2 := hj
      omega
    · show a * b - b * a = 0
      grind
    · show c * d - d * c = 0
      grind
  · obtain ⟨rfl, rfl⟩ | ⟨rfl, rfl⟩ | ⟨rfl, rfl⟩ | ⟨rfl, rfl⟩ | ⟨rfl, rfl⟩ | ⟨rfl, rfl⟩ : (k = 0 ∧ j = 1) ∨ (k = 0 ∧ j = 2) ∨ (k = 1 ∧ j = 0) ∨ (k = 1 ∧ j = 2) ∨ (k = 2 ∧ j = 0) ∨ (k = 2 ∧ j = 1) := by
      have : k < 3 := hk
      have : j < 3 := hj
      omega
    · show d * (e * i - f * h) - e * (d * i - f * g) + f * (d * h - e * g) = 0
      grind
    · show g * (e * i - f * h) - h * (d * i - f * g) + i * (d * h - e * g) = 0
      grind
    · show a * (b * i - c * h) - b * (a * i - c * g) + c * (a * h - b * g) = 0
      grind
    · show a * (h * i - i * h) - b * (g * i - i * g) + c * (g * h - h * g) = 0
      grind
    · show a * (e * c - f * b) - b * (d * c - f * a) + c * (d * b - e * a) = 0
      grind
    · show a * (e * f - f * e) - b * (d * f - f * d) + c * (d * e - e * d) = 0
      grind
end Lp

/-! LmB: weights by determinants; a cone and its parts at a way. -/
namespace Lp
/-- as the determinant's sign has it -/
def Mm (V : List (List Int)) (p : List Int) (k : Nat) : Int := if 0 < dt V then Nn V p k else -(Nn V p k)
theorem mul_pos_iff' {g c : Int} (hg : 0 < g) : 0 < g * c ↔ 0 < c := by
  constructor
  · intro h
    rcases Int.lt_trichotomy c 0 with z | z | z
    · have := Int.mul_neg_of_pos_of_neg hg z
      omega
    · rw [z, Int.mul_zero] at h; omega
    · exact z
  · exact fun h => Int.mul_pos hg h
theorem mul_neg_iff' {g c : Int} (hg : 0 < g) : g * c < 0 ↔ c < 0 := by
  have := mul_pos_iff' (c := -c) hg
  rw [Int.mul_neg] at this
  omega
theorem mul_zero_iff' {g c : Int} (hg : 0 < g) : g * c = 0 ↔ c = 0 := by
  have h1 := mul_pos_iff' (c := c) hg
  have h2 := mul_neg_iff' (c := c) hg
  omega
theorem red_spec {a b : Int} (hb : b ≠ 0) : 0 < (Int.gcd a b : Int) ∧ (if 0 < b then a else -a) = (Int.gcd a b : Int) * (red a b).1 ∧ (b.natAbs : Int) = (Int.gcd a b : Int) * (red a b).2 := by
  have g0 : Int.gcd a b ≠ 0 := fun z => hb (Int.gcd_eq_zero_iff.mp z).2
  have hg : 0 < (Int.gcd a b : Int) := by omega
  obtain ⟨c, hc⟩ : (Int.gcd a b : Int) ∣ a := Int.gcd_dvd_left ..
  obtain ⟨d, hd⟩ : (Int.gcd a b : Int) ∣ b := Int.gcd_dvd_right ..
  have e1 : a / (Int.gcd a b : Int) = c := Int.ediv_eq_of_eq_mul_right (by omega) hc
  have e2 : b / (Int.gcd a b : Int) = d := Int.ediv_eq_of_eq_mul_right (by omega) hd
  refine ⟨hg, ?_, ?_⟩
  · unfold red
    rw [e1, e2]
    by_cases h : b < 0
    · rw [if_pos h, if_neg (by omega)]
      show -a = _ * -c
      rw [Int.mul_neg, ← hc]
    · rw [if_neg h, if_pos (by omega)]
      exact hc
  · unfold red
    rw [e1, e2]
    by_cases h : b < 0
    · rw [if_pos h]
      show _ = _ * -d
      rw [Int.mul_neg, ← hd]
      omega
    · rw [if_neg h]
      show _ = _ * d
      rw [← hd]
      omega
theorem wts_get {V : List (List Int)} {p : List Int} {k : Nat} (h : k < V.length) : (wts V p).getD k (0, 0) = red (Nn V p k) (dt V) := by
  unfold wts
  rw [List.getD_eq_getElem?_getD, List.getElem?_map, List.getElem?_range h]
  rfl
theorem wts_pos {V : List (List Int)} {p : List Int} {k : Nat} (h : k < V.length) (hd : dt V ≠ 0) : 0 < ((wts V p).getD k (0, 0)).1 ↔ 0 < Mm V p k := by
  rw [wts_get h]
  obtain ⟨h1, h2, h3⟩ := red_spec (a := Nn V p k) hd
  unfold Mm
  rw [h2, mul_pos_iff' h1]
theorem wts_neg {V : List (List Int)} {p : List Int} {k : Nat} (h : k < V.length) (hd : dt V ≠ 0) : ((wts V p).getD k (0, 0)).1 < 0 ↔ Mm V p k < 0 := by
  rw [wts_get h]
  obtain ⟨h1, h2, h3⟩ := red_spec (a := Nn V p k) hd
  unfold Mm
  rw [h2, mul_neg_iff' h1]
theorem wts_kz {V : List (List Int)} {p : List Int} {k : Nat} (hd : dt V ≠ 0) : kz (red (Nn V p k) (dt V)) = true ↔ 0 ≤ Mm V p k ∧ Mm V p k < (dt V).natAbs := by
  obtain ⟨h1, h2, h3⟩ := red_spec (a := Nn V p k) hd
  unfold Mm kz
  rw [h2, h3, Bool.and_eq_true, decide_eq_true_eq, decide_eq_true_eq, Int.mul_lt_mul_left h1]
  have := mul_neg_iff' (c := (red (Nn V p k) (dt V)).1) h1
  constructor
  · rintro ⟨a, b⟩; exact ⟨by omega, b⟩
  · rintro ⟨a, b⟩; exact ⟨by omega, b⟩
theorem wts_all {V : List (List Int)} {p : List Int} (hd : dt V ≠ 0) : (wts V p).all kz = true ↔ ∀ k, k < V.length → 0 ≤ Mm V p k ∧ Mm V p k < (dt V).natAbs := by
  unfold wts
  rw [List.all_map, List.all_eq_true]
  constructor
  · intro h k hk
    exact (wts_kz hd).mp (h k (List.mem_range.mpr hk))
  · intro h k hk
    exact (wts_kz hd).mpr (h k (List.mem_range.mp hk))
theorem red_zero {a b : Int} (hb : b ≠ 0) : red a b = (0, 1) ↔ a = 0 := by
  obtain ⟨h1, h2, h3⟩ := red_spec (a := a) hb
  constructor
  · intro h
    rw [h] at h2
    simp only [Int.mul_zero] at h2
    split at h2 <;> omega
  · intro h
    subst h
    have e : ((Int.gcd 0 b : Nat) : Int) = (b.natAbs : Int) := by rw [Int.gcd_zero_left]
    rw [e] at h1 h2 h3
    have : (red 0 b).1 = 0 := (mul_zero_iff' h1).mp (by rw [← h2]; split <;> rfl)
    have h4 : (b.natAbs : Int) * ((red 0 b).2 - 1) = 0 := by rw [Int.mul_sub, ← h3]; omega
    have := (mul_zero_iff' h1).mp h4
    exact Prod.ext ‹_› (by show (red 0 b).2 = 1; omega)
/-- no determinant is 0 -/
def Gen (W : List (List Int)) (t : List Int) : Prop := ∀ k, k < W.length → Nn W t k ≠ 0
theorem genW_iff {W : List (List Int)} {t : List Int} (hd : dt W ≠ 0) : genW W t = true ↔ Gen W t := by
  unfold genW wts Gen
  rw [Bool.not_eq_true', List.any_map, List.any_eq_false]
  constructor
  · intro h k hk z
    refine h k (List.mem_range.mpr hk) ?_
    exact decide_eq_true ((red_zero hd).mpr z)
  · intro h k hk z
    exact h k (List.mem_range.mp hk) ((red_zero hd).mp (of_decide_eq_true z))
theorem kids_eq {V : List (List Int)} {q : List Int} (hd : dt V ≠ 0) : kids V q = ((List.range V.length).filter fun k => decide (0 < Mm V q k)).map fun k => V.set k q := by
  unfold kids
  congr 1
  refine List.filter_congr fun k hk => ?_
  rw [decide_eq_decide]
  exact wts_pos (List.mem_range.mp hk) hd
theorem mem_kids {V : List (List Int)} {q : List Int} (hd : dt V ≠ 0) {c : List (List Int)} : c ∈ kids V q ↔ ∃ k, k < V.length ∧ 0 < Mm V q k ∧ c = V.set k q := by
  rw [kids_eq hd, List.mem_map]
  constructor
  · rintro ⟨k, hk, rfl⟩
    rw [List.mem_filter, List.mem_range, decide_eq_true_eq] at hk
    exact ⟨k, hk.1, hk.2, rfl⟩
  · rintro ⟨k, hk, h, rfl⟩
    exact ⟨k, by rw [List.mem_filter, List.mem_range, decide_eq_true_eq]; exact ⟨hk, h⟩, rfl⟩
/-! ### strictly inside -/
def str (V : List (List Int)) (p : List Int) : Bool := (List.range V.length).all fun k => decide (0 < Mm V p k)
theorem str_iff {V : List (List Int)} {p : List Int} : str V p = true ↔ ∀ k, k < V.length → 0 < Mm V p k := by
  unfold str
  rw [List.all_eq_true]
  constructor
  · intro h k hk
    exact of_decide_eq_true (h k (List.mem_range.mpr hk))
  · intro h k hk
    exact decide_eq_true (h k (List.mem_range.mp hk))
section
variable {V : List (List Int)} {q p : List Int} {k : Nat}
theorem kid_sign (hd : dt V ≠ 0) (hk : 0 < Mm V q k) : dt (V.set k q) ≠ 0 ∧ (0 < dt (V.set k q) ↔ 0 < dt V) ∧ ((dt (V.set k q)).natAbs : Int) = Mm V q k := by
  unfold Mm Nn at hk ⊢
  by_cases h : 0 < dt V
  · rw [if_pos h] at hk ⊢
    exact ⟨by omega, by omega, by omega⟩
  · rw [if_neg h] at hk ⊢
    exact ⟨by omega, by omega, by omega⟩
theorem kid_self (hd : dt V ≠ 0) (hk : 0 < Mm V q k) : Mm (V.set k q) p k = Mm V p k := by
  have := (kid_sign hd hk).2.1
  have e : Nn (V.set k q) p k = Nn V p k := by unfold Nn; rw [List.set_set]
  unfold Mm
  rw [e]
  by_cases h : 0 < dt V
  · rw [if_pos h, if_pos (this.mpr h)]
  · rw [if_neg h, if_neg (fun z => h (this.mp z))]
theorem kid_other (hV : Squ V) (hq : q.length = V.length) (hp : p.length = V.length) (hd : dt V ≠ 0) (hk : 0 < Mm V q k) (hkl : k < V.length) {i : Nat} (hi : i < V.length) (hn : i ≠ k) :
    ((dt V).natAbs : Int) * Mm (V.set k q) p i = Mm V q k * Mm V p i - Mm V p k * Mm V q i := by
  have hs := (kid_sign hd hk).2.1
  have hx := Nn_exch hV hq hp k i hkl hi hn
  unfold Mm
  by_cases h : 0 < dt V
  · rw [if_pos (hs.mpr h), if_pos h, if_pos h, if_pos h, if_pos h, ← hx]
    congr 1
    omega
  · rw [if_neg (fun z => h (hs.mp z)), if_neg h, if_neg h, if_neg h, if_neg h, Int.neg_mul_neg, Int.neg_mul_neg, ← hx]
    have : ((dt V).natAbs : Int) = -dt V := by omega
    rw [this, Int.neg_mul_neg]
theorem abs_pos (hd : dt V ≠ 0) : 0 < ((dt V).natAbs : Int) := by omega
theorem kid_str (hV : Squ V) (hq : q.length = V.length) (hp : p.length = V.length) (hd : dt V ≠ 0) (hk : 0 < Mm V q k) (hkl : k < V.length) :
    str (V.set k q) p = true ↔ 0 < Mm V p k ∧ ∀ i, i < V.length → i ≠ k → 0 < Mm V q k * Mm V p i - Mm V p k * Mm V q i := by
  rw [str_iff, List.length_set]
  constructor
  · intro h
    refine ⟨by have := h k hkl; rw [kid_self hd hk] at this; exact this, fun i hi hn => ?_⟩
    rw [← kid_other hV hq hp hd hk hkl hi hn]
    exact Int.mul_pos (abs_pos hd) (h i hi)
  · rintro ⟨h1, h2⟩ i hi
    by_cases hn : i = k
    · subst hn
      rw [kid_self hd hk]
      exact h1
    · have := h2 i hi hn
      rw [← kid_other hV hq hp hd hk hkl hi hn] at this
      exact (mul_pos_iff' (abs_pos hd)).mp this
theorem Mm_zero : Mm V p k = 0 ↔ Nn V p k = 0 := by
  unfold Mm
  split <;> omega
theorem kid_gen (hV : Squ V) (hq : q.length = V.length) (hp : p.length = V.length) (hd : dt V ≠ 0) (hk : 0 < Mm V q k) (hkl : k < V.length) (hg : Gen (V.set k q) p) :
    Mm V p k ≠ 0 ∧ ∀ i, i < V.length → i ≠ k → Mm V q k * Mm V p i - Mm V p k * Mm V q i ≠ 0 := by
  have hg' : ∀ i, i < V.length → Mm (V.set k q) p i ≠ 0 := fun i hi z => hg i (by rw [List.length_set]; exact hi) (Mm_zero.mp z)
  refine ⟨by have := hg' k hkl; rw [kid_self hd hk] at this; exact this, fun i hi hn z => ?_⟩
  rw [← kid_other hV hq hp hd hk hkl hi hn] at z
  exact hg' i hi ((mul_zero_iff' (abs_pos hd)).mp z)
end
/-! ### one part of all -/
section
variable {n : Nat} {w y : Nat → Int}
def InK (n : Nat) (w y : Nat → Int) (k : Nat) : Prop := 0 < w k ∧ 0 < y k ∧ ∀ i, i < n → i ≠ k → 0 < w k * y i - y k * w i
theorem inK_all (hw : ∀ i, i < n → 0 ≤ w i) {k : Nat} (hk : InK n w y k) : ∀ i, i < n → 0 < y i := by
  intro i hi
  by_cases e : i = k
  · rw [e]; exact hk.2.1
  · have h1 := hk.2.2 i hi e
    have h2 := Int.mul_nonneg (Int.le_of_lt hk.2.1) (hw i hi)
    exact (mul_pos_iff' hk.1).mp (by omega)
theorem inK_one {k l : Nat} (hkn : k < n) (hln : l < n) (hk : InK n w y k) (hl : InK n w y l) : k = l := by
  apply Classical.byContradiction
  intro e
  have h1 := hk.2.2 l hln (fun z => e z.symm)
  have h2 := hl.2.2 k hkn e
  have c1 := Int.mul_comm (w k) (y l)
  have c2 := Int.mul_comm (w l) (y k)
  omega
theorem best_min : ∀ {n : Nat}, (∀ i, i < n → 0 < w i → 0 < y i) → (∃ k, k < n ∧ 0 < w k) → ∃ k, k < n ∧ 0 < w k ∧ ∀ i, i < n → 0 < w i → y k * w i ≤ y i * w k
  | 0, _, ⟨k, hk, _⟩ => absurd hk (Nat.not_lt_zero _)
  | n + 1, hy, ⟨k, hk, hwk⟩ => by
    by_cases h : ∃ k, k < n ∧ 0 < w k
    · obtain ⟨k0, h1, h2, h3⟩ := best_min (fun i hi => hy i (by omega)) h
      by_cases hn : 0 < w n ∧ y n * w k0 < y k0 * w n
      · refine ⟨n, by omega, hn.1, fun i hi hwi => ?_⟩
        by_cases e : i = n
        · rw [e]; exact Int.le_refl _
        · have hi' : i < n := by omega
          have a1 := h3 i hi' hwi
          -- y n / w n < y k0 / w k0 ≤ y i / w i
          have b1 : y n * w k0 * w i ≤ y k0 * w n * w i := Int.mul_le_mul_of_nonneg_right (Int.le_of_lt hn.2) (Int.le_of_lt hwi)
          have b2 : y k0 * w i * w n ≤ y i * w k0 * w n := Int.mul_le_mul_of_nonneg_right a1 (Int.le_of_lt hn.1)
          have b3 : (y n * w i) * w k0 ≤ (y i * w n) * w k0 := by
            have e1 : (y n * w i) * w k0 = y n * w k0 * w i := by grind
            have e2 : (y i * w n) * w k0 = y i * w k0 * w n := by grind
            have e3 : y k0 * w n * w i = y k0 * w i * w n := by grind
            omega
          exact Int.le_of_mul_le_mul_right b3 h2
      · refine ⟨k0, by omega, h2, fun i hi hwi => ?_⟩
        by_cases e : i = n
        · subst e
          apply Int.not_lt.mp
          intro z
          exact hn ⟨hwi, z⟩
        · exact h3 i (by omega) hwi
    · have e : k = n := by
        apply Classical.byContradiction
        intro z
        exact h ⟨k, by omega, hwk⟩
      subst e
      refine ⟨k, hk, hwk, fun i hi hwi => ?_⟩
      by_cases z : i = k
      · rw [z]; exact Int.le_refl _
      · exact absurd ⟨i, by omega, hwi⟩ h
theorem inK_ex (hw : ∀ i, i < n → 0 ≤ w i) (hy : ∀ i, i < n → 0 < y i) (he : ∃ k, k < n ∧ 0 < w k) (hg : ∀ k, k < n → 0 < w k → ∀ i, i < n → i ≠ k → w k * y i - y k * w i ≠ 0) : ∃ k, k < n ∧ InK n w y k := by
  obtain ⟨k, h1, h2, h3⟩ := best_min (fun i hi _ => hy i hi) he
  refine ⟨k, h1, h2, hy k h1, fun i hi hn => ?_⟩
  by_cases z : 0 < w i
  · have a := h3 i hi z
    have b := hg k h1 h2 i hi hn
    have c := Int.mul_comm (w k) (y i)
    omega
  · have : w i = 0 := by have := hw i hi; omega
    rw [this, Int.mul_zero, Int.sub_zero]
    exact Int.mul_pos h2 (hy i hi)
end
theorem nodup_one {α : Type} : ∀ {l : List α}, l.Nodup → (∀ a ∈ l, ∀ b ∈ l, a = b) → l.length ≤ 1
  | [], _, _ => by simp
  | [a], _, _ => by simp
  | a :: b :: l, h, e => by
    have := e a (by simp) b (by simp)
    subst this
    simp at h
/-- how many parts hold a point strictly: no more than the cone -/
theorem kids_le {V : List (List Int)} {q p : List Int} (hV : Squ V) (hq : q.length = V.length) (hp : p.length = V.length) (hd : dt V ≠ 0) (hw : ∀ i, i < V.length → 0 ≤ Mm V q i) :
    ((kids V q).filter fun c => str c p).length ≤ (if str V p then 1 else 0) := by
  rw [kids_eq hd, List.filter_map, List.length_map, List.filter_filter]
  have key : ∀ k ∈ (List.range V.length).filter (fun a => ((fun c => str c p) ∘ fun k => V.set k q) a && decide (0 < Mm V q a)), k < V.length ∧ InK V.length (Mm V q) (Mm V p) k := by
    intro k hk
    rw [List.mem_filter, List.mem_range, Bool.and_eq_true, decide_eq_true_eq] at hk
    obtain ⟨h1, h2, h3⟩ := hk
    have h2 : str (V.set k q) p = true := h2
    rw [kid_str hV hq hp hd h3 h1] at h2
    exact ⟨h1, h3, h2.1, h2.2⟩
  by_cases hs : str V p = true
  · rw [if_pos hs]
    refine nodup_one (List.nodup_range.filter _) fun a ha b hb => ?_
    obtain ⟨h1, h2⟩ := key a ha
    obtain ⟨h3, h4⟩ := key b hb
    exact inK_one h1 h3 h2 h4
  · rw [if_neg hs]
    cases hl : (List.range V.length).filter (fun a => ((fun c => str c p) ∘ fun k => V.set k q) a && decide (0 < Mm V q a)) with
    | nil => exact Nat.le_refl _
    | cons k l =>
      obtain ⟨h1, h2⟩ := key k (by rw [hl]; exact List.mem_cons_self)
      exact absurd (str_iff.mpr (inK_all hw h2)) hs
/-- and just as many where no determinant is 0 -/
theorem kids_eqc {V : List (List Int)} {q p : List Int} (hV : Squ V) (hq : q.length = V.length) (hp : p.length = V.length) (hd : dt V ≠ 0) (hw : ∀ i, i < V.length → 0 ≤ Mm V q i) (he : ∃ k, k < V.length ∧ 0 < Mm V q k)
    (hg : ∀ c ∈ kids V q, Gen c p) : Gen V p ∧ ((kids V q).filter fun c => str c p).length = (if str V p then 1 else 0) := by
  have hk : ∀ k, k < V.length → 0 < Mm V q k → Mm V p k ≠ 0 ∧ ∀ i, i < V.length → i ≠ k → Mm V q k * Mm V p i - Mm V p k * Mm V q i ≠ 0 := fun k h1 h2 =>
    kid_gen hV hq hp hd h2 h1 (hg _ ((mem_kids hd).mpr ⟨k, h1, h2, rfl⟩))
  refine ⟨fun i hi z => ?_, ?_⟩
  · have z : Mm V p i = 0 := Mm_zero.mpr z
    by_cases hwi : 0 < Mm V q i
    · exact (hk i hi hwi).1 z
    · have hwi : Mm V q i = 0 := by have := hw i hi; omega
      obtain ⟨k, h1, h2⟩ := he
      have hn : i ≠ k := fun e => by rw [e] at hwi; omega
      refine (hk k h1 h2).2 i hi hn ?_
      rw [z, hwi]
      simp
  · have hle := kids_le hV hq hp hd hw
    by_cases hs : str V p = true
    · rw [if_pos hs] at hle ⊢
      obtain ⟨k, h1, h2⟩ := inK_ex hw (str_iff.mp hs) he fun k h1 h2 => (hk k h1 h2).2
      have hm : V.set k q ∈ (kids V q).filter fun c => str c p := by
        rw [List.mem_filter]
        exact ⟨(mem_kids hd).mpr ⟨k, h1, h2.1, rfl⟩, (kid_str hV hq hp hd h2.1 h1).mpr ⟨h2.2.1, h2.2.2⟩⟩
      have := List.length_pos_of_mem hm
      omega
    · rw [if_neg hs] at hle ⊢
      omega
end Lp

/-! LmC: sums, the box, lengths. -/
namespace Lp
theorem sumR_succ (n : Nat) (f : Nat → Int) : sumR (n + 1) f = sumR n f + f n := by
  unfold sumR
  rw [List.range_succ, List.map_append, List.sum_append]
  simp
theorem sumR_le {f g : Nat → Int} : ∀ {n : Nat}, (∀ k, k < n → f k ≤ g k) → sumR n f ≤ sumR n g
  | 0, _ => Int.le_refl _
  | n + 1, h => by
    rw [sumR_succ, sumR_succ]
    have := sumR_le (n := n) (f := f) (g := g) fun k hk => h k (by omega)
    have := h n (by omega)
    omega
theorem sumR_congr {f g : Nat → Int} {n : Nat} (h : ∀ k, k < n → f k = g k) : sumR n f = sumR n g :=
  Int.le_antisymm (sumR_le fun k hk => Int.le_of_eq (h k hk)) (sumR_le fun k hk => Int.le_of_eq (h k hk).symm)
theorem sumR_mul (c : Int) (f : Nat → Int) : ∀ n, c * sumR n f = sumR n fun k => c * f k
  | 0 => Int.mul_zero c
  | n + 1 => by rw [sumR_succ, sumR_succ, Int.mul_add, sumR_mul c f n]
theorem sumR_mulr (c : Int) (f : Nat → Int) (n : Nat) : sumR n f * c = sumR n fun k => f k * c := by
  rw [Int.mul_comm, sumR_mul]
  exact sumR_congr fun k _ => Int.mul_comm _ _
theorem sumR_add (f g : Nat → Int) : ∀ n, sumR n f + sumR n g = sumR n fun k => f k + g k
  | 0 => rfl
  | n + 1 => by
    rw [sumR_succ, sumR_succ, sumR_succ, ← sumR_add f g n]
    omega
theorem sumR_zero : ∀ n, (sumR n fun _ => 0) = 0
  | 0 => rfl
  | n + 1 => by rw [sumR_succ, sumR_zero n]; rfl
theorem sumR_comm (f : Nat → Nat → Int) (m : Nat) : ∀ n, (sumR n fun a => sumR m fun k => f a k) = sumR m fun k => sumR n fun a => f a k
  | 0 => (sumR_zero m).symm
  | n + 1 => by
    rw [sumR_succ, sumR_comm f m n, sumR_add]
    exact sumR_congr fun k _ => (sumR_succ n _).symm
theorem sumR_abs (f : Nat → Int) : ∀ n, ((sumR n f).natAbs : Int) ≤ sumR n fun k => ((f k).natAbs : Int)
  | 0 => Int.le_refl _
  | n + 1 => by
    rw [sumR_succ, sumR_succ]
    have := sumR_abs f n
    omega
theorem sum_list {α : Type} {l : List α} {z : α} (g : α → Int) {n : Nat} (h : l.length = n) : (l.map g).sum = sumR n fun k => g (l.getD k z) := by
  unfold sumR
  conv => lhs; rw [← map_range_getD (l := l) (z := z) h, List.map_map]
  rfl
theorem l1_sum {p : List Int} {n : Nat} (h : p.length = n) : l1 p = sumR n fun a => ((p.getD a 0).natAbs : Int) := sum_list (z := (0 : Int)) (fun x : Int => (x.natAbs : Int)) h
theorem l1_mem : ∀ {p : List Int} {x : Int}, x ∈ p → (x.natAbs : Int) ≤ l1 p
  | y :: p, x, h => by
    have nn : ∀ q : List Int, 0 ≤ l1 q := by
      intro q
      induction q with
      | nil => decide
      | cons z q ih => show 0 ≤ (z.natAbs : Int) + l1 q; omega
    show _ ≤ (y.natAbs : Int) + l1 p
    rcases List.mem_cons.mp h with rfl | h
    · have := nn p
      omega
    · have := l1_mem h
      omega
section
variable {V : List (List Int)} {p : List Int}
theorem Mm_cram (h : Squ V) (hp : p.length = V.length) {a : Nat} (ha : a < V.length) : ((dt V).natAbs : Int) * p.getD a 0 = sumR V.length fun k => Mm V p k * (V.getD k []).getD a 0 := by
  have e := Nn_cram h hp a ha
  by_cases hd : 0 < dt V
  · have : ((dt V).natAbs : Int) = dt V := by omega
    rw [this, e]
    exact sumR_congr fun k _ => by unfold Mm; rw [if_pos hd]
  · have : ((dt V).natAbs : Int) = -dt V := by omega
    rw [this, Int.neg_mul, e]
    have : -(sumR V.length fun k => Nn V p k * (V.getD k []).getD a 0) = (-1) * (sumR V.length fun k => Nn V p k * (V.getD k []).getD a 0) := by omega
    rw [this, sumR_mul]
    exact sumR_congr fun k _ => by unfold Mm; rw [if_neg hd]; grind
theorem hiV_get {a : Nat} (ha : a < V.length) : (hiV V).getD a 0 = sumR V.length fun k => max 0 ((V.getD k []).getD a 0) := by
  unfold hiV
  rw [List.getD_eq_getElem?_getD, List.getElem?_map, List.getElem?_range ha]
  exact sum_list (z := []) (fun v : List Int => max 0 (v.getD a 0)) rfl
theorem loV_get {a : Nat} (ha : a < V.length) : (loV V).getD a 0 = sumR V.length fun k => min 0 ((V.getD k []).getD a 0) := by
  unfold loV
  rw [List.getD_eq_getElem?_getD, List.getElem?_map, List.getElem?_range ha]
  exact sum_list (z := []) (fun v : List Int => min 0 (v.getD a 0)) rfl
theorem bx_iff (h : Squ V) (hd : dt V ≠ 0) : p ∈ bx V ↔ p.length = V.length ∧ ∀ k, k < V.length → 0 ≤ Mm V p k ∧ Mm V p k < (dt V).natAbs := by
  unfold bx
  rw [List.mem_filter, mem_boxT, wts_all hd]
  constructor
  · rintro ⟨⟨h1, _⟩, h2⟩
    exact ⟨h1, h2⟩
  · rintro ⟨h1, h2⟩
    refine ⟨⟨h1, fun a ha => ?_⟩, h2⟩
    have e := Mm_cram h h1 ha
    have pd := abs_pos hd
    constructor
    · rw [loV_get ha]
      refine Int.le_of_mul_le_mul_left ?_ pd
      rw [e, sumR_mul]
      refine sumR_le fun k hk => ?_
      obtain ⟨m1, m2⟩ := h2 k hk
      by_cases z : (V.getD k []).getD a 0 ≤ 0
      · rw [Int.min_eq_right z]
        have := Int.mul_le_mul_of_nonneg_right (Int.le_of_lt m2) (show 0 ≤ -((V.getD k []).getD a 0) by omega)
        rw [Int.mul_neg, Int.mul_neg] at this
        omega
      · rw [Int.min_eq_left (by omega), Int.mul_zero]
        exact Int.mul_nonneg m1 (by omega)
    · rw [hiV_get ha]
      refine Int.le_of_mul_le_mul_left ?_ pd
      rw [e, sumR_mul]
      refine sumR_le fun k hk => ?_
      obtain ⟨m1, m2⟩ := h2 k hk
      by_cases z : 0 ≤ (V.getD k []).getD a 0
      · rw [Int.max_eq_right z]
        exact Int.mul_le_mul_of_nonneg_right (Int.le_of_lt m2) z
      · rw [Int.max_eq_left (by omega), Int.mul_zero]
        have := Int.mul_nonneg m1 (show 0 ≤ -((V.getD k []).getD a 0) by omega)
        rw [Int.mul_neg] at this
        omega
/-- a point's length by its weights -/
theorem l1_le (h : Squ V) (hp : p.length = V.length) (hw : ∀ k, k < V.length → 0 ≤ Mm V p k) {B : Int} (hB : ∀ v ∈ V, l1 v ≤ B) : ((dt V).natAbs : Int) * l1 p ≤ (sumR V.length fun k => Mm V p k) * B := by
  rw [l1_sum hp, sumR_mul]
  have h1 : (sumR V.length fun a => ((dt V).natAbs : Int) * ((p.getD a 0).natAbs : Int)) ≤ sumR V.length fun a => sumR V.length fun k => Mm V p k * (((V.getD k []).getD a 0).natAbs : Int) := by
    refine sumR_le fun a ha => ?_
    have e := Mm_cram h hp ha
    have e2 : ((dt V).natAbs : Int) * ((p.getD a 0).natAbs : Int) = ((((dt V).natAbs : Int) * p.getD a 0).natAbs : Int) := by
      rw [Int.natAbs_mul, Int.natAbs_natCast]
      simp
    rw [e2, e]
    refine Int.le_trans (sumR_abs _ _) (sumR_le fun k hk => ?_)
    rw [Int.natAbs_mul]
    have := hw k hk
    have e3 : ((Mm V p k).natAbs : Int) = Mm V p k := by omega
    simp only [Int.natCast_mul]
    rw [e3]
    exact Int.le_refl _
  refine Int.le_trans h1 ?_
  rw [sumR_comm, sumR_mulr]
  refine sumR_le fun k hk => ?_
  have hm : V.getD k [] ∈ V := getD_mem hk
  rw [← sumR_mul, ← l1_sum (h.2.2 _ hm)]
  exact Int.mul_le_mul_of_nonneg_left (hB _ hm) (hw k hk)
end
theorem mulB {a b A B : Int} (ha : -A ≤ a ∧ a ≤ A) (hb : -B ≤ b ∧ b ≤ B) : -(A * B) ≤ a * b ∧ a * b ≤ A * B := by
  have h : (a * b).natAbs ≤ A.natAbs * B.natAbs := by
    rw [Int.natAbs_mul]
    exact Nat.mul_le_mul (by omega) (by omega)
  have e : ((A.natAbs * B.natAbs : Nat) : Int) = A * B := by
    rw [Int.natCast_mul, Int.natAbs_of_nonneg (by omega), Int.natAbs_of_nonneg (by omega)]
  omega
theorem dt_le {V : List (List Int)} (h : Squ V) {B : Int} (h1 : 1 ≤ B) (hB : ∀ v ∈ V, ∀ x ∈ v, -B ≤ x ∧ x ≤ B) : ((dt V).natAbs : Int) ≤ 6 * (B * (B * B)) := by
  have hBB : B ≤ B * B := by
    have := Int.mul_le_mul_of_nonneg_left h1 (show 0 ≤ B by omega)
    omega
  have hB3 : B * B ≤ B * (B * B) := Int.mul_le_mul_of_nonneg_left hBB (by omega)
  revert hB
  refine Squ.cases (C := fun V => (∀ v ∈ V, ∀ x ∈ v, -B ≤ x ∧ x ≤ B) → ((dt V).natAbs : Int) ≤ 6 * (B * (B * B))) (fun a hB => ?_) (fun a b c d hB => ?_) (fun a b c d e f g h i hB => ?_) h
  · have := hB [a] (by simp) a (by simp)
    show (a.natAbs : Int) ≤ _
    omega
  · have ha := hB [a, b] (by simp) a (by simp)
    have hb := hB [a, b] (by simp) b (by simp)
    have hc := hB [c, d] (by simp) c (by simp)
    have hd := hB [c, d] (by simp) d (by simp)
    have m1 := mulB ha hd
    have m2 := mulB hb hc
    show ((a * d - b * c).natAbs : Int) ≤ _
    omega
  · have ha := hB [a, b, c] (by simp) a (by simp)
    have hb := hB [a, b, c] (by simp) b (by simp)
    have hc := hB [a, b, c] (by simp) c (by simp)
    have hd := hB [d, e, f] (by simp) d (by simp)
    have he := hB [d, e, f] (by simp) e (by simp)
    have hf := hB [d, e, f] (by simp) f (by simp)
    have hg := hB [g, h, i] (by simp) g (by simp)
    have hh := hB [g, h, i] (by simp) h (by simp)
    have hi := hB [g, h, i] (by simp) i (by simp)
    have m1 := mulB ha (mulB he hi)
    have m2 := mulB ha (mulB hf hh)
    have m3 := mulB hb (mulB hd hi)
    have m4 := mulB hb (mulB hf hg)
    have m5 := mulB hc (mulB hd hh)
    have m6 := mulB hc (mulB he hg)
    show ((a * (e * i - f * h) - b * (d * i - f * g) + c * (d * h - e * g)).natAbs : Int) ≤ _
    rw [Int.mul_sub, Int.mul_sub, Int.mul_sub]
    omega
end Lp

/-! LmD: a low point in the box. -/
namespace Lp
theorem bezN : ∀ m n : Nat, ∃ x y : Int, x * m + y * n = (Nat.gcd m n : Nat) := by
  intro m n
  induction m, n using Nat.gcd.induction with
  | H0 n => exact ⟨0, 1, by rw [Nat.gcd_zero_left]; omega⟩
  | H1 m n hm ih =>
    obtain ⟨x, y, h⟩ := ih
    refine ⟨y - x * (n / m : Nat), x, ?_⟩
    rw [Nat.gcd_rec, ← h]
    have : ((n % m : Nat) : Int) = (n : Int) - (m : Int) * ((n / m : Nat) : Int) := by
      have := Nat.mod_add_div n m
      have h2 : ((n % m + m * (n / m) : Nat) : Int) = (n : Int) := by rw [this]
      rw [Int.natCast_add, Int.natCast_mul] at h2
      omega
    rw [this]
    grind
theorem bez (a b : Int) : ∃ x y : Int, x * a + y * b = (Nat.gcd a.natAbs b.natAbs : Nat) := by
  obtain ⟨x, y, h⟩ := bezN a.natAbs b.natAbs
  refine ⟨if 0 ≤ a then x else -x, if 0 ≤ b then y else -y, ?_⟩
  rw [← h]
  congr 1
  · split
    · rw [Int.natAbs_of_nonneg ‹_›]
    · have : (a.natAbs : Int) = -a := by omega
      rw [this]
      grind
  · split
    · rw [Int.natAbs_of_nonneg ‹_›]
    · have : (b.natAbs : Int) = -b := by omega
      rw [this]
      grind
theorem bez2 (a b : Int) : ∃ x y : Int, x * a + y * b = (gcdL [a, b] : Nat) := by
  obtain ⟨x, y, h⟩ := bez a b
  refine ⟨x, y, ?_⟩
  rw [h]
  show _ = ((Nat.gcd a.natAbs (Nat.gcd b.natAbs 0) : Nat) : Int)
  rw [Nat.gcd_zero_right]
theorem bez3 (a b c : Int) : ∃ x y z : Int, x * a + y * b + z * c = (gcdL [a, b, c] : Nat) := by
  obtain ⟨y, z, h⟩ := bez2 b c
  obtain ⟨x, w, h2⟩ := bez a (gcdL [b, c] : Nat)
  refine ⟨x, w * y, w * z, ?_⟩
  have e : Nat.gcd a.natAbs ((gcdL [b, c] : Nat) : Int).natAbs = gcdL [a, b, c] := by rw [Int.natAbs_natCast]; rfl
  rw [e, ← h] at h2
  rw [← h2]
  grind
theorem Mm_lin {V : List (List Int)} {p q : List Int} (h : Squ V) (hp : p.length = V.length) (hq : q.length = V.length) (T : Int) {k : Nat} (hk : k < V.length) : Mm V (addV (sclV T p) q) k = T * Mm V p k + Mm V q k := by
  have := Nn_lin h hp hq T k hk
  unfold Mm
  split
  · exact this
  · rw [this]; grind
theorem Mm_row {V : List (List Int)} (h : Squ V) {j k : Nat} (hj : j < V.length) (hk : k < V.length) : Mm V (V.getD j []) k = if j = k then ((dt V).natAbs : Int) else 0 := by
  unfold Mm
  by_cases e : j = k
  · subst e
    rw [Nn_self hj, if_pos rfl]
    split <;> omega
  · rw [Nn_other h j k hj hk e, if_neg e]
    split <;> rfl
theorem lin_len {p q : List Int} {n : Nat} (hp : p.length = n) (hq : q.length = n) (T : Int) : (addV (sclV T p) q).length = n := by
  unfold addV sclV
  rw [List.length_zipWith, List.length_map, hp, hq, Nat.min_self]
/-- a multiple that is 0 or 1 -/
theorem step_01 {s m : Int} (hm : 2 ≤ m) : ∃ j t r : Int, 0 < j ∧ j < m ∧ j * s = m * t + r ∧ (r = 0 ∨ r = 1) := by
  by_cases e : Nat.gcd s.natAbs m.natAbs = 1
  · obtain ⟨x, y, h⟩ := bez s m
    rw [e] at h
    have hx := Int.emod_add_mul_ediv x m
    have h0 := Int.emod_nonneg x (show m ≠ 0 by omega)
    have h1 := Int.emod_lt_of_pos x (show 0 < m by omega)
    refine ⟨x % m, -(y + (x / m) * s), 1, ?_, h1, ?_, .inr rfl⟩
    · apply Classical.byContradiction
      intro z
      have z : x % m = 0 := by omega
      rw [z] at hx
      have h2 : m * ((x / m) * s + y) = 1 := by
        have : x = m * (x / m) := by omega
        have h3 : x * s + y * m = 1 := h
        rw [this] at h3
        grind
      have h4 : m ∣ 1 := ⟨_, h2.symm⟩
      have := Int.le_of_dvd (by decide) h4
      omega
    · have h3 : x * s + y * m = 1 := h
      have : x % m = x - m * (x / m) := by omega
      rw [this]
      grind
  · have hg0 : 0 < Nat.gcd s.natAbs m.natAbs := Nat.gcd_pos_of_pos_right _ (by omega)
    obtain ⟨c, hc⟩ : ((Nat.gcd s.natAbs m.natAbs : Nat) : Int) ∣ m := Int.ofNat_dvd_left.mpr (Nat.gcd_dvd_right _ _)
    obtain ⟨d, hd⟩ : ((Nat.gcd s.natAbs m.natAbs : Nat) : Int) ∣ s := Int.ofNat_dvd_left.mpr (Nat.gcd_dvd_left _ _)
    have g0 : (0 : Int) < ((Nat.gcd s.natAbs m.natAbs : Nat) : Int) := by omega
    have g1 : ((Nat.gcd s.natAbs m.natAbs : Nat) : Int) ≠ 1 := by omega
    generalize ((Nat.gcd s.natAbs m.natAbs : Nat) : Int) = g at hc hd g0 g1
    have c0 : 0 < c := (mul_pos_iff' g0).mp (by omega)
    refine ⟨c, d, 0, c0, ?_, ?_, .inl rfl⟩
    · have := Int.mul_le_mul_of_nonneg_right (show 2 ≤ g by omega) (Int.le_of_lt c0)
      omega
    · rw [hc, hd]
      grind
theorem low2 {a b c d : Int} (hg : gcdL [a, b] = 1) (hd : dt [[a, b], [c, d]] ≠ 0) : ∃ p : List Int, p.length = 2 ∧ ∃ x : Int, 0 ≤ x ∧ x < (dt [[a, b], [c, d]]).natAbs ∧ Mm [[a, b], [c, d]] p 0 = x ∧ Mm [[a, b], [c, d]] p 1 = 1 := by
  obtain ⟨s, t, h⟩ := bez2 a b
  rw [hg] at h
  have hm : 0 < ((dt [[a, b], [c, d]]).natAbs : Int) := abs_pos hd
  have hx := Int.emod_add_mul_ediv (-(s * c + t * d)) ((dt [[a, b], [c, d]]).natAbs : Int)
  have h0 := Int.emod_nonneg (-(s * c + t * d)) (Int.ne_of_gt hm)
  have h1 := Int.emod_lt_of_pos (-(s * c + t * d)) hm
  have eD : dt [[a, b], [c, d]] = a * d - b * c := rfl
  generalize hk : (-(s * c + t * d)) / ((dt [[a, b], [c, d]]).natAbs : Int) = k at hx
  have h : s * a + t * b = 1 := h
  by_cases hp : 0 < dt [[a, b], [c, d]]
  · have em : ((dt [[a, b], [c, d]]).natAbs : Int) = a * d - b * c := by rw [← eD]; omega
    refine ⟨[-t - k * a, s - k * b], rfl, _, h0, h1, ?_, ?_⟩
    · unfold Mm
      rw [if_pos hp]
      show (-t - k * a) * d - (s - k * b) * c = _
      have : (-(s * c + t * d)) % ((dt [[a, b], [c, d]]).natAbs : Int) = -(s * c + t * d) - ((dt [[a, b], [c, d]]).natAbs : Int) * k := by omega
      rw [this, em]
      grind
    · unfold Mm
      rw [if_pos hp]
      show a * (s - k * b) - b * (-t - k * a) = 1
      grind
  · have em : ((dt [[a, b], [c, d]]).natAbs : Int) = -(a * d - b * c) := by rw [← eD]; omega
    refine ⟨[t - k * a, -s - k * b], rfl, _, h0, h1, ?_, ?_⟩
    · unfold Mm
      rw [if_neg hp]
      show -((t - k * a) * d - (-s - k * b) * c) = _
      have : (-(s * c + t * d)) % ((dt [[a, b], [c, d]]).natAbs : Int) = -(s * c + t * d) - ((dt [[a, b], [c, d]]).natAbs : Int) * k := by omega
      rw [this, em]
      grind
    · unfold Mm
      rw [if_neg hp]
      show -(a * (-s - k * b) - b * (t - k * a)) = 1
      grind

theorem low3a {a b c d e f g h i : Int} (hg : gcdL [a, b, c] = 1) {q : Int} (hq : 2 ≤ q) (c1 : q ∣ b * f - c * e) (c2 : q ∣ c * d - a * f) (c3 : q ∣ a * e - b * d) (hd : dt [[a, b, c], [d, e, f], [g, h, i]] ≠ 0) :
    ∃ p : List Int, p.length = 3 ∧ ∃ x y : Int, 0 ≤ x ∧ 0 < y ∧ x + y ≤ (dt [[a, b, c], [d, e, f], [g, h, i]]).natAbs ∧ y < (dt [[a, b, c], [d, e, f], [g, h, i]]).natAbs ∧
      Mm [[a, b, c], [d, e, f], [g, h, i]] p 0 = x ∧ Mm [[a, b, c], [d, e, f], [g, h, i]] p 1 = y ∧ Mm [[a, b, c], [d, e, f], [g, h, i]] p 2 = 0 := by
  obtain ⟨s, t, w, hz⟩ := bez3 a b c
  rw [hg] at hz
  have hz : s * a + t * b + w * c = 1 := hz
  obtain ⟨u, hu⟩ := c1
  obtain ⟨v, hv⟩ := c2
  obtain ⟨z, hzz⟩ := c3
  have hx := Int.emod_add_mul_ediv (-(s * d + t * e + w * f)) q
  have h0 := Int.emod_nonneg (-(s * d + t * e + w * f)) (show q ≠ 0 by omega)
  have h1 := Int.emod_lt_of_pos (-(s * d + t * e + w * f)) (show 0 < q by omega)
  generalize (-(s * d + t * e + w * f)) / q = k at hx
  generalize (-(s * d + t * e + w * f)) % q = r at hx h0 h1
  have eD : dt [[a, b, c], [d, e, f], [g, h, i]] = a * (e * i - f * h) - b * (d * i - f * g) + c * (d * h - e * g) := rfl
  have eq : dt [[a, b, c], [d, e, f], [g, h, i]] = q * (u * g + v * h + z * i) := by
    rw [eD]
    grind
  have hm := abs_pos hd
  -- the point
  obtain ⟨P0, p0⟩ : ∃ P, q * P = d + r * a := ⟨-(t * z) + w * v + (-k) * a, by grind⟩
  obtain ⟨P1, p1⟩ : ∃ P, q * P = e + r * b := ⟨s * z - w * u + (-k) * b, by grind⟩
  obtain ⟨P2, p2⟩ : ∃ P, q * P = f + r * c := ⟨-(s * v) + t * u + (-k) * c, by grind⟩
  obtain ⟨E, eE⟩ : ∃ E, E = u * g + v * h + z * i := ⟨_, rfl⟩
  rw [← eE] at eq
  have q0 : q ≠ 0 := by omega
  have qD : a * (e * i - f * h) - b * (d * i - f * g) + c * (d * h - e * g) = q * E := by rw [← eD]; exact eq
  have n0 : P0 * (e * i - f * h) - P1 * (d * i - f * g) + P2 * (d * h - e * g) = r * E := by
    refine Int.eq_of_mul_eq_mul_left q0 ?_
    have e1 : q * (P0 * (e * i - f * h) - P1 * (d * i - f * g) + P2 * (d * h - e * g)) = (q * P0) * (e * i - f * h) - (q * P1) * (d * i - f * g) + (q * P2) * (d * h - e * g) := by grind
    have e2 : q * (r * E) = r * (q * E) := by grind
    rw [e1, p0, p1, p2, e2, ← qD]
    grind
  have n1 : a * (P1 * i - P2 * h) - b * (P0 * i - P2 * g) + c * (P0 * h - P1 * g) = E := by
    refine Int.eq_of_mul_eq_mul_left q0 ?_
    have e1 : q * (a * (P1 * i - P2 * h) - b * (P0 * i - P2 * g) + c * (P0 * h - P1 * g)) = a * ((q * P1) * i - (q * P2) * h) - b * ((q * P0) * i - (q * P2) * g) + c * ((q * P0) * h - (q * P1) * g) := by grind
    rw [e1, p0, p1, p2, ← qD]
    grind
  have n2 : a * (e * P2 - f * P1) - b * (d * P2 - f * P0) + c * (d * P1 - e * P0) = 0 := by
    refine Int.eq_of_mul_eq_mul_left q0 ?_
    have e1 : q * (a * (e * P2 - f * P1) - b * (d * P2 - f * P0) + c * (d * P1 - e * P0)) = a * (e * (q * P2) - f * (q * P1)) - b * (d * (q * P2) - f * (q * P0)) + c * (d * (q * P1) - e * (q * P0)) := by grind
    rw [e1, p0, p1, p2]
    grind
  have E0 : E ≠ 0 := fun z => hd (by rw [eq, z, Int.mul_zero])
  have ab : ((dt [[a, b, c], [d, e, f], [g, h, i]]).natAbs : Int) = q * (E.natAbs : Int) := by
    rw [eq, Int.natAbs_mul, Int.natCast_mul, Int.natAbs_of_nonneg (by omega)]
  have yp : 0 < (E.natAbs : Int) := by omega
  refine ⟨[P0, P1, P2], rfl, r * (E.natAbs : Int), (E.natAbs : Int), Int.mul_nonneg h0 (by omega), yp, ?_, ?_, ?_, ?_, ?_⟩
  · rw [ab]
    have := Int.mul_le_mul_of_nonneg_right (show r + 1 ≤ q by omega) (Int.le_of_lt yp)
    rw [Int.add_mul] at this
    omega
  · rw [ab]
    have := Int.mul_le_mul_of_nonneg_right hq (Int.le_of_lt yp)
    omega
  · unfold Mm
    show (if _ then P0 * (e * i - f * h) - P1 * (d * i - f * g) + P2 * (d * h - e * g) else -(P0 * (e * i - f * h) - P1 * (d * i - f * g) + P2 * (d * h - e * g))) = _
    rw [n0, eq]
    split
    · have := (mul_pos_iff' (show 0 < q by omega)).mp ‹_›
      congr 1; omega
    · have : ¬ 0 < E := fun z => ‹¬ 0 < q * E› (Int.mul_pos (by omega) z)
      rw [← Int.mul_neg]
      congr 1; omega
  · unfold Mm
    show (if _ then a * (P1 * i - P2 * h) - b * (P0 * i - P2 * g) + c * (P0 * h - P1 * g) else -(a * (P1 * i - P2 * h) - b * (P0 * i - P2 * g) + c * (P0 * h - P1 * g))) = _
    rw [n1, eq]
    split
    · have := (mul_pos_iff' (show 0 < q by omega)).mp ‹_›
      omega
    · have : ¬ 0 < E := fun z => ‹¬ 0 < q * E› (Int.mul_pos (by omega) z)
      have e3 : ∀ x : Int, ¬ 0 < x → (x.natAbs : Int) = -x := fun x hx => by omega
      exact (e3 E this).symm
  · unfold Mm
    show (if _ then a * (e * P2 - f * P1) - b * (d * P2 - f * P0) + c * (d * P1 - e * P0) else -(a * (e * P2 - f * P1) - b * (d * P2 - f * P0) + c * (d * P1 - e * P0))) = _
    rw [n2]
    split <;> rfl
/-- the other case: a multiple of a point whose third weight is least -/
theorem low3b {V : List (List Int)} (hV : Squ V) (h3 : V.length = 3) (hd : dt V ≠ 0) (hm : 2 ≤ (dt V).natAbs) {u : List Int} (hu : u.length = V.length) (hu1 : Mm V u 2 = 1) :
    ∃ p : List Int, p.length = V.length ∧ (∀ k, k < V.length → 0 ≤ Mm V p k ∧ Mm V p k < (dt V).natAbs) ∧ Mm V p 2 ≠ 0 ∧ Mm V p 0 + Mm V p 1 + Mm V p 2 ≤ (dt V).natAbs + 1 := by
  obtain ⟨m, hmm⟩ : ∃ m : Int, m = (dt V).natAbs := ⟨_, rfl⟩
  have m2 : 2 ≤ m := by omega
  obtain ⟨A, hA⟩ : ∃ A, A = Mm V u 0 := ⟨_, rfl⟩
  obtain ⟨B, hB⟩ : ∃ B, B = Mm V u 1 := ⟨_, rfl⟩
  obtain ⟨j, t, r, j0, jm, hj, hr⟩ := step_01 (s := A + B + 1) m2
  have hx := Int.emod_add_mul_ediv (j * A) m
  have hx0 := Int.emod_nonneg (j * A) (show m ≠ 0 by omega)
  have hx1 := Int.emod_lt_of_pos (j * A) (show 0 < m by omega)
  have hy := Int.emod_add_mul_ediv (j * B) m
  have hy0 := Int.emod_nonneg (j * B) (show m ≠ 0 by omega)
  have hy1 := Int.emod_lt_of_pos (j * B) (show 0 < m by omega)
  generalize (j * A) / m = k0 at hx
  generalize (j * B) / m = k1 at hy
  generalize (j * A) % m = x at hx hx0 hx1
  generalize (j * B) % m = y at hy hy0 hy1
  have l0 : (V.getD 0 []).length = V.length := hV.2.2 _ (getD_mem (by omega))
  have l1' : (V.getD 1 []).length = V.length := hV.2.2 _ (getD_mem (by omega))
  have l2 : (V.getD 2 []).length = V.length := hV.2.2 _ (getD_mem (by omega))
  have lz : (zer V.length).length = V.length := by unfold zer; rw [List.length_replicate]
  have mz : ∀ k, k < V.length → Mm V (zer V.length) k = 0 := by
    intro k hk
    have := Mm_lin hV lz lz (1 : Int) hk
    have e : addV (sclV 1 (zer V.length)) (zer V.length) = zer V.length := by
      rw [h3]; rfl
    rw [e] at this
    omega
  -- p = j u - k0 v0 - k1 v1
  have la := lin_len l1' lz (-k1)
  have lb := lin_len l0 la (-k0)
  have lp := lin_len hu lb j
  have mp : ∀ k, k < V.length → Mm V (addV (sclV j u) (addV (sclV (-k0) (V.getD 0 [])) (addV (sclV (-k1) (V.getD 1 [])) (zer V.length)))) k = j * Mm V u k + (-k0 * Mm V (V.getD 0 []) k + (-k1 * Mm V (V.getD 1 []) k + 0)) := by
    intro k hk
    rw [Mm_lin hV hu lb j hk, Mm_lin hV l0 la (-k0) hk, Mm_lin hV l1' lz (-k1) hk, mz k hk]
  have m0 := mp 0 (by omega)
  have m1 := mp 1 (by omega)
  have m2' := mp 2 (by omega)
  rw [Mm_row hV (by omega) (by omega), Mm_row hV (by omega) (by omega)] at m0 m1 m2'
  rw [← hA] at m0
  rw [← hB] at m1
  rw [hu1] at m2'
  simp only [if_true, ← hmm] at m0 m1 m2'
  generalize addV (sclV j u) (addV (sclV (-k0) (V.getD 0 [])) (addV (sclV (-k1) (V.getD 1 [])) (zer V.length))) = p at lp m0 m1 m2'
  have e0 : Mm V p 0 = x := by
    rw [m0]
    simp
    grind
  have e1 : Mm V p 1 = y := by
    rw [m1]
    simp
    grind
  have e2 : Mm V p 2 = j := by
    rw [m2']
    simp
  obtain ⟨i, hi⟩ : ∃ i, x + y + j = m * i + r := ⟨t - k0 - k1, by grind⟩
  rw [← hmm]
  by_cases hs : x + y + j ≤ m + 1
  · refine ⟨p, lp, fun k hk => ?_, by omega, by omega⟩
    obtain rfl | rfl | rfl : k = 0 ∨ k = 1 ∨ k = 2 := by omega
    · rw [e0]; exact ⟨hx0, hx1⟩
    · rw [e1]; exact ⟨hy0, hy1⟩
    · rw [e2]; exact ⟨by omega, jm⟩
  · have i2 : 2 ≤ i := by
      apply Classical.byContradiction
      intro z
      have := Int.mul_le_mul_of_nonneg_left (show i ≤ 1 by omega) (show 0 ≤ m by omega)
      omega
    have hge : 2 * m ≤ x + y + j := by
      have := Int.mul_le_mul_of_nonneg_left i2 (show 0 ≤ m by omega)
      omega
    have lc := lin_len l1' l2 1
    have ld' := lin_len l0 lc 1
    have le := lin_len lp ld' (-1)
    have mq : ∀ k, k < V.length → Mm V (addV (sclV (-1) p) (addV (sclV 1 (V.getD 0 [])) (addV (sclV 1 (V.getD 1 [])) (V.getD 2 [])))) k = -1 * Mm V p k + (1 * Mm V (V.getD 0 []) k + (1 * Mm V (V.getD 1 []) k + Mm V (V.getD 2 []) k)) := by
      intro k hk
      rw [Mm_lin hV lp ld' (-1) hk, Mm_lin hV l0 lc 1 hk, Mm_lin hV l1' l2 1 hk]
    have q0 := mq 0 (by omega)
    have q1 := mq 1 (by omega)
    have q2 := mq 2 (by omega)
    rw [Mm_row hV (by omega) (by omega), Mm_row hV (by omega) (by omega), Mm_row hV (by omega) (by omega)] at q0 q1 q2
    rw [e0] at q0
    rw [e1] at q1
    rw [e2] at q2
    simp only [← hmm] at q0 q1 q2
    generalize addV (sclV (-1) p) (addV (sclV 1 (V.getD 0 [])) (addV (sclV 1 (V.getD 1 [])) (V.getD 2 []))) = p' at le q0 q1 q2
    simp at q0 q1 q2
    refine ⟨p', le, fun k hk => ?_, by rw [q2]; omega, by rw [q0, q1, q2]; omega⟩
    obtain rfl | rfl | rfl : k = 0 ∨ k = 1 ∨ k = 2 := by omega
    · rw [q0]; omega
    · rw [q1]; omega
    · rw [q2]; omega
/-- a low point in the box, not 0 -/
theorem low {V : List (List Int)} (hV : Squ V) (hd : dt V ≠ 0) (h1 : (dt V).natAbs ≠ 1) (hg : ∀ v ∈ V, gcdL v = 1) :
    ∃ p : List Int, p.length = V.length ∧ (∀ k, k < V.length → 0 ≤ Mm V p k ∧ Mm V p k < (dt V).natAbs) ∧ (∃ k, k < V.length ∧ Mm V p k ≠ 0) ∧ (sumR V.length fun k => Mm V p k) ≤ (dt V).natAbs + 1 := by
  revert hd h1 hg
  have hm : ∀ {V : List (List Int)}, dt V ≠ 0 → (dt V).natAbs ≠ 1 → 2 ≤ (dt V).natAbs := fun hd h1 => by omega
  refine Squ.cases (C := fun V => dt V ≠ 0 → (dt V).natAbs ≠ 1 → (∀ v ∈ V, gcdL v = 1) → ∃ p : List Int, p.length = V.length ∧ (∀ k, k < V.length → 0 ≤ Mm V p k ∧ Mm V p k < (dt V).natAbs) ∧ (∃ k, k < V.length ∧ Mm V p k ≠ 0) ∧ (sumR V.length fun k => Mm V p k) ≤ (dt V).natAbs + 1) (fun a hd h1 hg => ?_) (fun a b c d hd h1 hg => ?_) (fun a b c d e f g h i hd h1 hg => ?_) hV
  · exfalso
    have := hg [a] (by simp)
    have e : gcdL [a] = a.natAbs := Nat.gcd_zero_right _
    rw [e] at this
    exact h1 this
  · have := hm hd h1
    obtain ⟨p, hp, x, x0, x1, e0, e1⟩ := low2 (hg [a, b] (by simp)) hd
    refine ⟨p, hp, fun k hk => ?_, ⟨1, (show (1 : Nat) < 2 by decide), by rw [e1]; decide⟩, ?_⟩
    · obtain rfl | rfl : k = 0 ∨ k = 1 := by have : k < 2 := hk; omega
      · rw [e0]; exact ⟨x0, x1⟩
      · rw [e1]; omega
    · show Mm _ p 0 + (Mm _ p 1 + 0) ≤ _
      rw [e0, e1]
      omega
  · have m2 := hm hd h1
    have hc : gcdL [b * f - c * e, c * d - a * f, a * e - b * d] ≠ 0 := by
      intro z
      have c1 := gcdL_dvd (l := [b * f - c * e, c * d - a * f, a * e - b * d]) (x := b * f - c * e) (by simp)
      have c2 := gcdL_dvd (l := [b * f - c * e, c * d - a * f, a * e - b * d]) (x := c * d - a * f) (by simp)
      have c3 := gcdL_dvd (l := [b * f - c * e, c * d - a * f, a * e - b * d]) (x := a * e - b * d) (by simp)
      rw [z] at c1 c2 c3
      have c1 := Int.zero_dvd.mp c1
      have c2 := Int.zero_dvd.mp c2
      have c3 := Int.zero_dvd.mp c3
      apply hd
      show a * (e * i - f * h) - b * (d * i - f * g) + c * (d * h - e * g) = 0
      have : a * (e * i - f * h) - b * (d * i - f * g) + c * (d * h - e * g) = (b * f - c * e) * g + (c * d - a * f) * h + (a * e - b * d) * i := by grind
      rw [this, c1, c2, c3]
      simp
    by_cases hq : gcdL [b * f - c * e, c * d - a * f, a * e - b * d] = 1
    · obtain ⟨x, y, z, hz⟩ := bez3 (b * f - c * e) (c * d - a * f) (a * e - b * d)
      rw [hq] at hz
      have hz : x * (b * f - c * e) + y * (c * d - a * f) + z * (a * e - b * d) = 1 := hz
      have sq : Squ [[a, b, c], [d, e, f], [g, h, i]] := ⟨by simp, by simp, by simp⟩
      obtain ⟨u, hu, hu1⟩ : ∃ u : List Int, u.length = 3 ∧ Mm [[a, b, c], [d, e, f], [g, h, i]] u 2 = 1 := by
        by_cases hp : 0 < dt [[a, b, c], [d, e, f], [g, h, i]]
        · refine ⟨[x, y, z], rfl, ?_⟩
          unfold Mm
          rw [if_pos hp]
          show a * (e * z - f * y) - b * (d * z - f * x) + c * (d * y - e * x) = 1
          grind
        · refine ⟨[-x, -y, -z], rfl, ?_⟩
          unfold Mm
          rw [if_neg hp]
          show -(a * (e * (-z) - f * (-y)) - b * (d * (-z) - f * (-x)) + c * (d * (-y) - e * (-x))) = 1
          grind
      obtain ⟨p, hp, hk, hn, hs⟩ := low3b sq rfl hd m2 hu hu1
      refine ⟨p, hp, hk, ⟨2, (show (2 : Nat) < 3 by decide), hn⟩, ?_⟩
      show Mm _ p 0 + (Mm _ p 1 + (Mm _ p 2 + 0)) ≤ _
      omega
    · obtain ⟨p, hp, x, y, x0, y0, xy, y1, e0, e1, e2⟩ := low3a (g := g) (h := h) (i := i) (hg [a, b, c] (by simp)) (q := ((gcdL [b * f - c * e, c * d - a * f, a * e - b * d] : Nat) : Int)) (by omega) (gcdL_dvd (by simp)) (gcdL_dvd (by simp)) (gcdL_dvd (by simp)) hd
      refine ⟨p, hp, fun k hk => ?_, ⟨1, (show (1 : Nat) < 3 by decide), by rw [e1]; omega⟩, ?_⟩
      · obtain rfl | rfl | rfl : k = 0 ∨ k = 1 ∨ k = 2 := by have : k < 3 := hk; omega
        · rw [e0]; omega
        · rw [e1]; omega
        · rw [e2]; omega
      · show Mm _ p 0 + (Mm _ p 1 + (Mm _ p 2 + 0)) ≤ _
        rw [e0, e1, e2]
        omega
end Lp

/-! LmE: the invariant; kids keep it. -/
namespace Lp
def bet (n : Nat) : Int := ([39, 39, 26, 20, 16, 14, 12, 11, 10, 9] : List Int).getD (min n 9) 9
theorem bet_tab : ∀ i j : Fin 10, i ≤ j → ([39, 39, 26, 20, 16, 14, 12, 11, 10, 9] : List Int).getD j.1 9 ≤ ([39, 39, 26, 20, 16, 14, 12, 11, 10, 9] : List Int).getD i.1 9 := by decide
theorem bet_anti {a b : Nat} (h : a ≤ b) : bet b ≤ bet a :=
  bet_tab ⟨min a 9, by omega⟩ ⟨min b 9, by omega⟩ (show min a 9 ≤ min b 9 by omega)
theorem bet_39 (n : Nat) : bet n ≤ 39 := bet_anti (Nat.zero_le n)
theorem bet_9 (n : Nat) : 9 ≤ bet n := bet_tab ⟨min n 9, by omega⟩ ⟨9, by omega⟩ (show min n 9 ≤ 9 by omega)
theorem bet_step {D : Nat} {l : Int} (h2 : 2 ≤ D) (h : (D : Int) * l ≤ ((D : Int) + 1) * bet D) : l ≤ bet (D - 1) := by
  by_cases h10 : 10 ≤ D
  · have e1 : bet D = 9 := by unfold bet; rw [show min D 9 = 9 by omega]; rfl
    have e2 : bet (D - 1) = 9 := by unfold bet; rw [show min (D - 1) 9 = 9 by omega]; rfl
    rw [e1] at h
    rw [e2]
    apply Classical.byContradiction
    intro z
    have := Int.mul_le_mul_of_nonneg_left (show (10 : Int) ≤ l by omega) (show (0 : Int) ≤ (D : Int) by omega)
    omega
  · obtain rfl | rfl | rfl | rfl | rfl | rfl | rfl | rfl : D = 2 ∨ D = 3 ∨ D = 4 ∨ D = 5 ∨ D = 6 ∨ D = 7 ∨ D = 8 ∨ D = 9 := by omega
    · have e1 : bet 2 = 26 := rfl
      have e2 : bet (2 - 1) = 39 := rfl
      rw [e1] at h; rw [e2]; omega
    · have e1 : bet 3 = 20 := rfl
      have e2 : bet (3 - 1) = 26 := rfl
      rw [e1] at h; rw [e2]; omega
    · have e1 : bet 4 = 16 := rfl
      have e2 : bet (4 - 1) = 20 := rfl
      rw [e1] at h; rw [e2]; omega
    · have e1 : bet 5 = 14 := rfl
      have e2 : bet (5 - 1) = 16 := rfl
      rw [e1] at h; rw [e2]; omega
    · have e1 : bet 6 = 12 := rfl
      have e2 : bet (6 - 1) = 14 := rfl
      rw [e1] at h; rw [e2]; omega
    · have e1 : bet 7 = 11 := rfl
      have e2 : bet (7 - 1) = 12 := rfl
      rw [e1] at h; rw [e2]; omega
    · have e1 : bet 8 = 10 := rfl
      have e2 : bet (8 - 1) = 11 := rfl
      rw [e1] at h; rw [e2]; omega
    · have e1 : bet 9 = 9 := rfl
      have e2 : bet (9 - 1) = 10 := rfl
      rw [e1] at h; rw [e2]; omega
structure Inv (V : List (List Int)) : Prop where
  sq : Squ V
  det : dt V ≠ 0
  prm : ∀ v ∈ V, gcdL v = 1
  nrm : ∀ v ∈ V, l1 v ≤ bet (dt V).natAbs
theorem Inv.b39 {V : List (List Int)} (h : Inv V) : ∀ v ∈ V, ∀ x ∈ v, -39 ≤ x ∧ x ≤ 39 := fun v hv x hx => by
  have h1 := l1_mem hx
  have h2 := h.nrm v hv
  have h3 := bet_39 (dt V).natAbs
  omega
theorem Inv.sqS {V : List (List Int)} (h : Inv V) : SqS V := ⟨h.sq.1, h.sq.2.1, h.sq.2.2, fun r hr x hx => by have := h.b39 r hr x hx; exact ⟨by omega, by omega⟩⟩
theorem Inv.wok {V : List (List Int)} (h : Inv V) : WOk V := ⟨h.sqS, h.det, by have := dt_le h.sq (B := 39) (by decide) h.b39; omega⟩
theorem getD_b {V : List (List Int)} {B : Int} (hB : ∀ v ∈ V, ∀ x ∈ v, -B ≤ x ∧ x ≤ B) (h0 : 0 ≤ B) (k a : Nat) : -B ≤ (V.getD k []).getD a 0 ∧ (V.getD k []).getD a 0 ≤ B := by
  rw [List.getD_eq_getElem?_getD (l := V)]
  cases q : V[k]? with
  | none => show -B ≤ ([] : List Int).getD a 0 ∧ ([] : List Int).getD a 0 ≤ B; simp; omega
  | some v =>
    show -B ≤ v.getD a 0 ∧ v.getD a 0 ≤ B
    rw [List.getD_eq_getElem?_getD]
    cases q2 : v[a]? with
    | none => show -B ≤ (0 : Int) ∧ (0 : Int) ≤ B; omega
    | some x => exact hB v (List.mem_of_getElem? q) x (List.mem_of_getElem? q2)
theorem sumR_const (c : Int) : ∀ n : Nat, (sumR n fun _ => c) = n * c
  | 0 => by rw [Int.natCast_zero, Int.zero_mul]; rfl
  | n + 1 => by rw [sumR_succ, sumR_const c n, Int.natCast_add, Int.add_mul]; simp
theorem Inv.bok {V : List (List Int)} (h : Inv V) : BOk V := by
  refine ⟨h.wok, fun a => ?_⟩
  by_cases ha : a < V.length
  · rw [loV_get ha, hiV_get ha]
    have h3 := h.sq.2.1
    have s1 : (sumR V.length fun _ => (-39 : Int)) ≤ sumR V.length fun k => min 0 ((V.getD k []).getD a 0) := sumR_le fun k _ => by have := getD_b h.b39 (by decide) k a; omega
    have s2 : (sumR V.length fun k => max 0 ((V.getD k []).getD a 0)) ≤ sumR V.length fun _ => (39 : Int) := sumR_le fun k _ => by have := getD_b h.b39 (by decide) k a; omega
    rw [sumR_const] at s1 s2
    omega
  · have e1 : (loV V).getD a 0 = 0 := by
      unfold loV
      rw [List.getD_eq_getElem?_getD, List.getElem?_eq_none (by rw [List.length_map, List.length_range]; omega)]
      rfl
    have e2 : (hiV V).getD a 0 = 0 := by
      unfold hiV
      rw [List.getD_eq_getElem?_getD, List.getElem?_eq_none (by rw [List.length_map, List.length_range]; omega)]
      rfl
    rw [e1, e2]
    decide
theorem zer_len (n : Nat) : (zer n).length = n := by unfold zer; rw [List.length_replicate]
theorem add_zer : ∀ {p : List Int} {n : Nat}, p.length = n → addV p (zer n) = p
  | [], n, h => by subst h; rfl
  | x :: p, n, h => by
    subst h
    show (x + 0) :: addV p (zer p.length) = _
    rw [add_zer rfl, Int.add_zero]
theorem Nn_zer {V : List (List Int)} (h : Squ V) {k : Nat} (hk : k < V.length) : Nn V (zer V.length) k = 0 := by
  have := Nn_lin h (zer_len _) (zer_len _) 1 k hk
  have e : sclV 1 (zer V.length) = zer V.length := by unfold sclV zer; rw [List.map_replicate]; rfl
  rw [e, add_zer (zer_len _)] at this
  omega
theorem Mm_zer {V : List (List Int)} (h : Squ V) {k : Nat} (hk : k < V.length) : Mm V (zer V.length) k = 0 := Mm_zero.mpr (Nn_zer h hk)
theorem scl_len (c : Int) (p : List Int) : (sclV c p).length = p.length := by unfold sclV; rw [List.length_map]
theorem Nn_scl {V : List (List Int)} (h : Squ V) {p : List Int} (hp : p.length = V.length) (c : Int) {k : Nat} (hk : k < V.length) : Nn V (sclV c p) k = c * Nn V p k := by
  have := Nn_lin h hp (zer_len _) c k hk
  rw [add_zer (by rw [scl_len, hp]), Nn_zer h hk, Int.add_zero] at this
  exact this
theorem Mm_scl {V : List (List Int)} (h : Squ V) {p : List Int} (hp : p.length = V.length) (c : Int) {k : Nat} (hk : k < V.length) : Mm V (sclV c p) k = c * Mm V p k := by
  unfold Mm
  rw [Nn_scl h hp c hk]
  split
  · rfl
  · grind
theorem l1_nn (p : List Int) : 0 ≤ l1 p := by
  induction p with
  | nil => decide
  | cons x p ih => show 0 ≤ (x.natAbs : Int) + l1 p; omega
theorem l1_scl (c : Nat) : ∀ p : List Int, l1 (sclV (c : Int) p) = (c : Int) * l1 p
  | [] => (Int.mul_zero _).symm
  | x :: p => by
    show (((c : Int) * x).natAbs : Int) + l1 (sclV (c : Int) p) = (c : Int) * ((x.natAbs : Int) + l1 p)
    rw [l1_scl c p, Int.natAbs_mul, Int.natAbs_natCast, Int.natCast_mul, Int.mul_add]
theorem eq_zer {q : List Int} {n : Nat} (hl : q.length = n) (h : ∀ a, a < n → q.getD a 0 = 0) : q = zer n := by
  unfold zer
  rw [List.eq_replicate_iff]
  refine ⟨hl, fun x hx => ?_⟩
  obtain ⟨j, hj⟩ := List.getElem?_of_mem hx
  have hjl := (List.getElem?_eq_some_iff.mp hj).1
  have := h j (by omega)
  rw [List.getD_eq_getElem?_getD, hj] at this
  exact this
/-- the primitive vector on a ray -/
theorem prim_spec {q : List Int} {n : Nat} (hl : q.length = n) (h0 : q ≠ zer n) : ∃ g : Nat, 1 ≤ g ∧ q = sclV (g : Int) (prim q) ∧ gcdL (prim q) = 1 ∧ (prim q).length = n := by
  have hg : gcdL q ≠ 0 := by
    intro z
    refine h0 (eq_zer hl fun a ha => ?_)
    rw [List.getD_eq_getElem?_getD, List.getElem?_eq_getElem (by omega)]
    have := gcdL_dvd (l := q) (x := q[a]) (List.getElem_mem _)
    rw [z] at this
    exact Int.zero_dvd.mp this
  unfold prim
  by_cases h1 : 1 < gcdL q
  · rw [if_pos h1]
    refine ⟨gcdL q, by omega, ?_, ?_, by rw [List.length_map, hl]⟩
    · unfold sclV
      rw [List.map_map]
      conv => lhs; rw [← List.map_id q]
      refine List.map_congr_left fun x hx => ?_
      show x = (gcdL q : Int) * (x / (gcdL q : Int))
      rw [Int.mul_ediv_cancel' (gcdL_dvd hx)]
    · have e : (q.map fun x => x / (gcdL q : Int)) = q.map fun x => x.fdiv (gcdL q : Int) := List.map_congr_left fun x _ => (Int.fdiv_eq_ediv_of_nonneg _ (by omega)).symm
      rw [e]
      exact gcdL_one (by omega)
  · rw [if_neg h1]
    have e1 : gcdL q = 1 := by omega
    refine ⟨1, by omega, ?_, e1, hl⟩
    unfold sclV
    conv => lhs; rw [← List.map_id q]
    exact List.map_congr_left fun x _ => (Int.one_mul x).symm
section
variable {V : List (List Int)} {q : List Int}
/-- what the way of a cone is -/
theorem way_ok (hI : Inv V) (hq : q ∈ bx V) (h0 : q ≠ zer V.length) : (prim q).length = V.length ∧ gcdL (prim q) = 1 ∧ l1 (prim q) ≤ l1 q ∧ (∀ k, k < V.length → 0 ≤ Mm V (prim q) k ∧ Mm V (prim q) k < (dt V).natAbs) ∧ ∃ k, k < V.length ∧ 0 < Mm V (prim q) k := by
  obtain ⟨hl, hb⟩ := (bx_iff hI.sq hI.det).mp hq
  obtain ⟨g, g1, e, hg, hpl⟩ := prim_spec hl h0
  have hM : ∀ k, k < V.length → Mm V q k = (g : Int) * Mm V (prim q) k := fun k hk => by
    conv => lhs; rw [e]
    exact Mm_scl hI.sq hpl _ hk
  refine ⟨hpl, hg, ?_, fun k hk => ?_, ?_⟩
  · have e2 : l1 q = (g : Int) * l1 (prim q) := by
      conv => lhs; rw [e]
      exact l1_scl g _
    have := Int.mul_le_mul_of_nonneg_right (show (1 : Int) ≤ (g : Int) by omega) (l1_nn (prim q))
    omega
  · obtain ⟨b1, b2⟩ := hb k hk
    rw [hM k hk] at b1 b2
    have z : 0 ≤ Mm V (prim q) k := by
      have := mul_neg_iff' (c := Mm V (prim q) k) (show (0 : Int) < (g : Int) by omega)
      omega
    have := Int.mul_le_mul_of_nonneg_right (show (1 : Int) ≤ (g : Int) by omega) z
    exact ⟨z, by omega⟩
  · apply Classical.byContradiction
    intro hn
    refine h0 (eq_zer hl fun a ha => ?_)
    have hz : ∀ k, k < V.length → Mm V q k = 0 := fun k hk => by
      obtain ⟨b1, b2⟩ := hb k hk
      apply Classical.byContradiction
      intro z
      refine hn ⟨k, hk, ?_⟩
      have hp : 0 < Mm V q k := by omega
      rw [hM k hk] at hp
      exact (mul_pos_iff' (by omega)).mp hp
    have := Mm_cram hI.sq hl ha
    rw [sumR_congr (g := fun _ => 0) (fun k hk => by rw [hz k hk, Int.zero_mul]), sumR_zero] at this
    exact (mul_zero_iff' (abs_pos hI.det)).mp this
theorem kid_inv (hI : Inv V) (h1 : (dt V).natAbs ≠ 1) (hB : Best V q) : ∀ c ∈ kids V (prim q), Inv c ∧ (dt c).natAbs < (dt V).natAbs := by
  obtain ⟨hq, h0, hmin⟩ := hB
  obtain ⟨hpl, hg, hll, hb, he⟩ := way_ok hI hq h0
  intro c hc
  obtain ⟨k, hk, hk0, rfl⟩ := (mem_kids hI.det).mp hc
  obtain ⟨s1, s2, s3⟩ := kid_sign hI.det hk0
  have hlt : (dt (V.set k (prim q))).natAbs < (dt V).natAbs := by
    have := (hb k hk).2
    omega
  have h2 : 2 ≤ (dt V).natAbs := by have := hI.det; omega
  -- the way is short
  obtain ⟨p, hp, hpb, ⟨i, hi, hpi⟩, hps⟩ := low hI.sq hI.det h1 hI.prm
  have hpx : p ∈ bx V := (bx_iff hI.sq hI.det).mpr ⟨hp, hpb⟩
  have hp0 : p ≠ zer V.length := fun z => hpi (by rw [z]; exact Mm_zer hI.sq hi)
  have hq1 := hmin p hpx hp0
  have hp1 := l1_le hI.sq hp (fun k hk => (hpb k hk).1) hI.nrm
  have hshort : l1 (prim q) ≤ bet ((dt V).natAbs - 1) := by
    refine bet_step h2 ?_
    have b0 : 0 ≤ bet (dt V).natAbs := by have := bet_9 (dt V).natAbs; omega
    have a1 := Int.mul_le_mul_of_nonneg_right hps b0
    have a2 := Int.mul_le_mul_of_nonneg_left (show l1 (prim q) ≤ l1 p by omega) (show (0 : Int) ≤ ((dt V).natAbs : Int) by omega)
    omega
  refine ⟨⟨hI.sq.set hpl k, s1, fun v hv => ?_, fun v hv => ?_⟩, hlt⟩
  · rcases List.mem_or_eq_of_mem_set hv with hv | rfl
    · exact hI.prm v hv
    · exact hg
  · rcases List.mem_or_eq_of_mem_set hv with hv | rfl
    · exact Int.le_trans (hI.nrm v hv) (bet_anti (by omega))
    · exact Int.le_trans hshort (bet_anti (by omega))
theorem box_ex (hI : Inv V) (h1 : (dt V).natAbs ≠ 1) : ∃ p ∈ bx V, p ≠ zer V.length := by
  obtain ⟨p, hp, hpb, ⟨i, hi, hpi⟩, hps⟩ := low hI.sq hI.det h1 hI.prm
  exact ⟨p, (bx_iff hI.sq hI.det).mpr ⟨hp, hpb⟩, fun z => hpi (by rw [z]; exact Mm_zer hI.sq hi)⟩
theorem bx_small (hI : Inv V) (hq : q ∈ bx V) : q.length = V.length ∧ ∀ x ∈ q, Sm x := by
  obtain ⟨hl, hb⟩ := (bx_iff hI.sq hI.det).mp hq
  refine ⟨hl, fun x hx => ?_⟩
  have h3 := hI.sq.2.1
  have a1 := l1_le hI.sq hl (fun k hk => (hb k hk).1) (B := 39) fun v hv => Int.le_trans (hI.nrm v hv) (bet_39 _)
  have a2 : (sumR V.length fun k => Mm V q k) ≤ sumR V.length fun _ => ((dt V).natAbs : Int) := sumR_le fun k hk => Int.le_of_lt (hb k hk).2
  rw [sumR_const] at a2
  have a3 : ((dt V).natAbs : Int) * l1 q ≤ ((dt V).natAbs : Int) * 117 := by
    have a4 := Int.mul_le_mul_of_nonneg_right (show ((V.length : Nat) : Int) ≤ 3 by omega) (show (0 : Int) ≤ ((dt V).natAbs : Int) by omega)
    omega
  have a5 := Int.le_of_mul_le_mul_left a3 (abs_pos hI.det)
  have a6 := l1_mem hx
  exact ⟨by omega, by omega⟩
end
end Lp

/-! LmF: leaves: how many hold a point; how many there are. -/
namespace Lp
theorem FL_mem {R : List (List Int) → List (List (List Int)) → Prop} : ∀ {cs L : List (List (List Int))} {W : List (List Int)}, FL R cs L → W ∈ L → ∃ c ∈ cs, ∃ L', R c L' ∧ W ∈ L'
  | [], L, W, h, hW => by
    have h : L = [] := h
    rw [h] at hW; cases hW
  | c :: cs, L, W, ⟨L1, L2, e, h1, h2⟩, hW => by
    subst e
    rcases List.mem_append.mp hW with hW | hW
    · exact ⟨c, List.mem_cons_self, L1, h1, hW⟩
    · obtain ⟨c', h3, h4⟩ := FL_mem h2 hW
      exact ⟨c', List.mem_cons_of_mem _ h3, h4⟩
theorem FL_le {R : List (List Int) → List (List (List Int)) → Prop} {f : List (List Int) → Bool} : ∀ {cs L : List (List (List Int))}, (∀ c ∈ cs, ∀ L, R c L → (L.filter f).length ≤ (if f c then 1 else 0)) → FL R cs L → (L.filter f).length ≤ (cs.filter f).length
  | [], L, _, h => by
    have h : L = [] := h
    rw [h]; exact Nat.le_refl _
  | c :: cs, L, hc, ⟨L1, L2, e, h1, h2⟩ => by
    subst e
    have a1 := hc c List.mem_cons_self L1 h1
    have a2 := FL_le (fun c' h' => hc c' (List.mem_cons_of_mem _ h')) h2
    rw [List.filter_append, List.length_append]
    by_cases z : f c = true
    · rw [if_pos z] at a1
      rw [List.filter_cons_of_pos z, List.length_cons]
      omega
    · rw [if_neg z] at a1
      rw [List.filter_cons_of_neg z]
      omega
theorem FL_eq {R : List (List Int) → List (List (List Int)) → Prop} {f : List (List Int) → Bool} : ∀ {cs L : List (List (List Int))}, (∀ c ∈ cs, ∀ L', R c L' → (∀ W ∈ L', W ∈ L) → (L'.filter f).length = (if f c then 1 else 0)) → FL R cs L → (L.filter f).length = (cs.filter f).length
  | [], L, _, h => by
    have h : L = [] := h
    rw [h]
  | c :: cs, L, hc, ⟨L1, L2, e, h1, h2⟩ => by
    subst e
    have a1 := hc c List.mem_cons_self L1 h1 fun W hW => List.mem_append_left _ hW
    have a2 := FL_eq (fun c' h' L' r hs => hc c' (List.mem_cons_of_mem _ h') L' r fun W hW => List.mem_append_right _ (hs W hW)) h2
    rw [List.filter_append, List.length_append]
    by_cases z : f c = true
    · rw [if_pos z] at a1
      rw [List.filter_cons_of_pos z, List.length_cons]
      omega
    · rw [if_neg z] at a1
      rw [List.filter_cons_of_neg z]
      omega
theorem FL_has {R : List (List Int) → List (List (List Int)) → Prop} : ∀ {cs L : List (List (List Int))} {c : List (List Int)}, FL R cs L → c ∈ cs → ∃ L', R c L' ∧ ∀ W ∈ L', W ∈ L
  | c :: cs, L, c', ⟨L1, L2, e, h1, h2⟩, hc => by
    subst e
    rcases List.mem_cons.mp hc with rfl | hc
    · exact ⟨L1, h1, fun W hW => List.mem_append_left _ hW⟩
    · obtain ⟨L', h3, h4⟩ := FL_has h2 hc
      exact ⟨L', h3, fun W hW => List.mem_append_right _ (h4 W hW)⟩
theorem kid_len {V : List (List Int)} {q : List Int} (hd : dt V ≠ 0) {c : List (List Int)} (h : c ∈ kids V q) : c.length = V.length := by
  obtain ⟨k, _, _, rfl⟩ := (mem_kids hd).mp h
  rw [List.length_set]
theorem filt_pos {p : List Int} {W : List (List Int)} {L : List (List (List Int))} (z : str W p = true) : (W :: L).filter (fun W => str W p) = W :: L.filter (fun W => str W p) := List.filter_cons_of_pos (p := fun W => str W p) z
theorem filt_neg {p : List Int} {W : List (List Int)} {L : List (List (List Int))} (z : ¬ str W p = true) : (W :: L).filter (fun W => str W p) = L.filter (fun W => str W p) := List.filter_cons_of_neg (p := fun W => str W p) z
theorem fine_leaf : ∀ (D : Nat) (V : List (List Int)) (L : List (List (List Int))), Inv V → Fine D V L → ∀ W ∈ L, Inv W ∧ W.length = V.length ∧ (dt W).natAbs = 1
  | 0, _, _, _, h => h.elim
  | D + 1, V, L, hI, h => by
    intro W hW
    rcases h with ⟨h1, rfl⟩ | ⟨h1, q, hB, hF⟩
    · rw [List.mem_singleton.mp hW]
      exact ⟨hI, rfl, h1⟩
    · obtain ⟨c, hc, L', hL', hW'⟩ := FL_mem hF hW
      obtain ⟨a, b, d⟩ := fine_leaf D c L' (kid_inv hI h1 hB c hc).1 hL' W hW'
      exact ⟨a, b.trans (kid_len hI.det hc), d⟩
theorem fine_le : ∀ (D : Nat) (V : List (List Int)) (L : List (List (List Int))) (p : List Int), Inv V → p.length = V.length → Fine D V L → (L.filter fun W => str W p).length ≤ (if str V p then 1 else 0)
  | 0, _, _, _, _, _, h => h.elim
  | D + 1, V, L, p, hI, hp, h => by
    rcases h with ⟨h1, rfl⟩ | ⟨h1, q, hB, hF⟩
    · by_cases z : str V p = true
      · rw [if_pos z, filt_pos z]; exact Nat.le_refl _
      · rw [if_neg z, filt_neg z]; exact Nat.le_refl _
    · obtain ⟨hpl, hg, hll, hb, he⟩ := way_ok hI hB.1 hB.2.1
      refine Nat.le_trans (FL_le (f := fun W => str W p) (fun c hc L' hL' => fine_le D c L' p (kid_inv hI h1 hB c hc).1 (by rw [kid_len hI.det hc, hp]) hL') hF) ?_
      exact kids_le hI.sq hpl hp hI.det fun i hi => (hb i hi).1
theorem fine_eq : ∀ (D : Nat) (V : List (List Int)) (L : List (List (List Int))) (p : List Int), Inv V → p.length = V.length → Fine D V L → (∀ W ∈ L, Gen W p) → Gen V p ∧ (L.filter fun W => str W p).length = (if str V p then 1 else 0)
  | 0, _, _, _, _, _, h, _ => h.elim
  | D + 1, V, L, p, hI, hp, h, hG => by
    rcases h with ⟨h1, rfl⟩ | ⟨h1, q, hB, hF⟩
    · refine ⟨hG V (by simp), ?_⟩
      by_cases z : str V p = true
      · rw [if_pos z, filt_pos z]; rfl
      · rw [if_neg z, filt_neg z]; rfl
    · obtain ⟨hpl, hg, hll, hb, he⟩ := way_ok hI hB.1 hB.2.1
      have hk : ∀ c ∈ kids V (prim q), ∀ L', Fine D c L' → (∀ W ∈ L', W ∈ L) → Gen c p ∧ (L'.filter fun W => str W p).length = (if str c p then 1 else 0) := fun c hc L' hL' hs =>
        fine_eq D c L' p (kid_inv hI h1 hB c hc).1 (by rw [kid_len hI.det hc, hp]) hL' fun W hW => hG W (hs W hW)
      obtain ⟨g1, g2⟩ := kids_eqc hI.sq hpl hp hI.det (fun i hi => (hb i hi).1) he fun c hc => by
        obtain ⟨L', h3, h4⟩ := FL_has hF hc
        exact (hk c hc L' h3 h4).1
      refine ⟨g1, ?_⟩
      rw [FL_eq (f := fun W => str W p) (fun c hc L' r hs => (hk c hc L' r hs).2) hF, g2]
/-! ### how many leaves -/
def srow (W : List (List Int)) : List Int := W.foldr (fun r acc => addV (sclV 1 r) acc) (zer W.length)
theorem srow_ok {W : List (List Int)} (h : Squ W) : (srow W).length = W.length ∧ ∀ k, k < W.length → Nn W (srow W) k = dt W := by
  refine Squ.cases (C := fun W => (srow W).length = W.length ∧ ∀ k, k < W.length → Nn W (srow W) k = dt W) (fun a => ⟨rfl, fun k hk => ?_⟩) (fun a b c d => ⟨rfl, fun k hk => ?_⟩) (fun a b c d e f g h i => ⟨rfl, fun k hk => ?_⟩) h
  · obtain rfl : k = 0 := by simpa using hk
    show 1 * a + 0 = a
    omega
  · obtain rfl | rfl : k = 0 ∨ k = 1 := by have : k < 2 := hk; omega
    · show (1 * a + (1 * c + 0)) * d - (1 * b + (1 * d + 0)) * c = a * d - b * c
      grind
    · show a * (1 * b + (1 * d + 0)) - b * (1 * a + (1 * c + 0)) = a * d - b * c
      grind
  · obtain rfl | rfl | rfl : k = 0 ∨ k = 1 ∨ k = 2 := by have : k < 3 := hk; omega
    · show (1 * a + (1 * d + (1 * g + 0))) * (e * i - f * h) - (1 * b + (1 * e + (1 * h + 0))) * (d * i - f * g) + (1 * c + (1 * f + (1 * i + 0))) * (d * h - e * g) = a * (e * i - f * h) - b * (d * i - f * g) + c * (d * h - e * g)
      grind
    · show a * ((1 * b + (1 * e + (1 * h + 0))) * i - (1 * c + (1 * f + (1 * i + 0))) * h) - b * ((1 * a + (1 * d + (1 * g + 0))) * i - (1 * c + (1 * f + (1 * i + 0))) * g) + c * ((1 * a + (1 * d + (1 * g + 0))) * h - (1 * b + (1 * e + (1 * h + 0))) * g) = a * (e * i - f * h) - b * (d * i - f * g) + c * (d * h - e * g)
      grind
    · show a * (e * (1 * c + (1 * f + (1 * i + 0))) - f * (1 * b + (1 * e + (1 * h + 0)))) - b * (d * (1 * c + (1 * f + (1 * i + 0))) - f * (1 * a + (1 * d + (1 * g + 0)))) + c * (d * (1 * b + (1 * e + (1 * h + 0))) - e * (1 * a + (1 * d + (1 * g + 0)))) = a * (e * i - f * h) - b * (d * i - f * g) + c * (d * h - e * g)
      grind
theorem srow_b {W : List (List Int)} (h : Squ W) (hB : ∀ v ∈ W, ∀ x ∈ v, -39 ≤ x ∧ x ≤ 39) : ∀ x ∈ srow W, -117 ≤ x ∧ x ≤ 117 := by
  revert hB
  refine Squ.cases (C := fun W => (∀ v ∈ W, ∀ x ∈ v, -39 ≤ x ∧ x ≤ 39) → ∀ x ∈ srow W, -117 ≤ x ∧ x ≤ 117) (fun a hB x hx => ?_) (fun a b c d hB x hx => ?_) (fun a b c d e f g h i hB x hx => ?_) h
  · have ha := hB [a] (by simp) a (by simp)
    have hx : x ∈ [1 * a + 0] := hx
    simp only [List.mem_cons, List.not_mem_nil, or_false] at hx
    omega
  · have ha := hB [a, b] (by simp) a (by simp)
    have hb := hB [a, b] (by simp) b (by simp)
    have hc := hB [c, d] (by simp) c (by simp)
    have hd := hB [c, d] (by simp) d (by simp)
    have hx : x ∈ [1 * a + (1 * c + 0), 1 * b + (1 * d + 0)] := hx
    simp only [List.mem_cons, List.not_mem_nil, or_false] at hx
    rcases hx with hx | hx <;> omega
  · have ha := hB [a, b, c] (by simp) a (by simp)
    have hb := hB [a, b, c] (by simp) b (by simp)
    have hc := hB [a, b, c] (by simp) c (by simp)
    have hd := hB [d, e, f] (by simp) d (by simp)
    have he := hB [d, e, f] (by simp) e (by simp)
    have hf := hB [d, e, f] (by simp) f (by simp)
    have hg := hB [g, h, i] (by simp) g (by simp)
    have hh := hB [g, h, i] (by simp) h (by simp)
    have hi := hB [g, h, i] (by simp) i (by simp)
    have hx : x ∈ [1 * a + (1 * d + (1 * g + 0)), 1 * b + (1 * e + (1 * h + 0)), 1 * c + (1 * f + (1 * i + 0))] := hx
    simp only [List.mem_cons, List.not_mem_nil, or_false] at hx
    rcases hx with hx | hx | hx <;> omega
theorem srow_str {W : List (List Int)} (h : Squ W) (hd : dt W ≠ 0) : str W (srow W) = true := by
  rw [str_iff]
  intro k hk
  unfold Mm
  rw [(srow_ok h).2 k hk]
  split <;> omega
theorem nodup_le {α : Type} [DecidableEq α] : ∀ {l m : List α}, l.Nodup → (∀ x ∈ l, x ∈ m) → l.length ≤ m.length
  | [], _, _, _ => Nat.zero_le _
  | x :: l, m, h, hs => by
    have hn := List.nodup_cons.mp h
    have hx := hs x List.mem_cons_self
    have := nodup_le (l := l) (m := m.erase x) hn.2 fun y hy => (List.mem_erase_of_ne (fun e => hn.1 (by rw [← e]; exact hy))).mpr (hs y (List.mem_cons_of_mem _ hy))
    rw [List.length_erase_of_mem hx] at this
    have := List.length_pos_of_mem hx
    rw [List.length_cons]
    omega
theorem leaves_le {L : List (List (List Int))} {n : Nat} (hn : n ≤ 3) (hL : ∀ W ∈ L, Inv W ∧ W.length = n) (hc : ∀ p : List Int, p.length = n → (L.filter fun W => str W p).length ≤ 1) : L.length ≤ PySem.sizeLine := by
  have hnd : (L.map srow).Nodup := by
    induction L with
    | nil => exact List.nodup_nil
    | cons W L ih =>
      rw [List.map_cons, List.nodup_cons]
      refine ⟨fun hm => ?_, ih (fun W' h' => hL W' (List.mem_cons_of_mem _ h')) fun p hp => ?_⟩
      · obtain ⟨W', hW', e⟩ := List.mem_map.mp hm
        obtain ⟨i1, l1⟩ := hL W List.mem_cons_self
        obtain ⟨i2, l2⟩ := hL W' (List.mem_cons_of_mem _ hW')
        have h1 := hc (srow W) (by rw [(srow_ok i1.sq).1, l1])
        rw [filt_pos (srow_str i1.sq i1.det), List.length_cons] at h1
        have h2 : W' ∈ L.filter fun W'' => str W'' (srow W) := by
          rw [List.mem_filter]
          refine ⟨hW', ?_⟩
          rw [← e]
          exact srow_str i2.sq i2.det
        have := List.length_pos_of_mem h2
        omega
      · have h1 := hc p hp
        by_cases z : str W p = true
        · rw [filt_pos z, List.length_cons] at h1
          omega
        · rw [filt_neg z] at h1
          exact h1
  have hin : ∀ x ∈ L.map srow, x ∈ boxT (List.replicate n (-117)) (List.replicate n 117) n := by
    intro x hx
    obtain ⟨W, hW, rfl⟩ := List.mem_map.mp hx
    obtain ⟨i1, l1⟩ := hL W hW
    rw [mem_boxT]
    have hl : (srow W).length = n := by rw [(srow_ok i1.sq).1, l1]
    refine ⟨hl, fun j hj => ?_⟩
    have hb := srow_b i1.sq i1.b39 ((srow W)[j]'(by omega)) (List.getElem_mem _)
    have e1 : (srow W).getD j 0 = (srow W)[j]'(by omega) := by rw [List.getD_eq_getElem?_getD, List.getElem?_eq_getElem (by omega)]; rfl
    have e2 : ∀ c : Int, (List.replicate n c).getD j 0 = c := fun c => by rw [List.getD_eq_getElem?_getD, List.getElem?_replicate, if_pos hj]; rfl
    rw [e1, e2, e2]
    exact hb
  have h1 := nodup_le hnd hin
  rw [List.length_map] at h1
  refine Nat.le_trans h1 (Nat.le_trans (boxT_len (c := 250) (fun k => ?_) n) (size250 n hn))
  rw [upTo_len]
  by_cases hk : k < n
  · have e2 : ∀ c : Int, (List.replicate n c).getD k 0 = c := fun c => by rw [List.getD_eq_getElem?_getD, List.getElem?_replicate, if_pos hk]; rfl
    rw [e2, e2]
    decide
  · have e2 : ∀ c : Int, (List.replicate n c).getD k 0 = 0 := fun c => by rw [List.getD_eq_getElem?_getD, List.getElem?_replicate, if_neg hk]; rfl
    rw [e2, e2]
    decide
theorem fine_siz (D : Nat) (V : List (List Int)) (L : List (List (List Int))) (hI : Inv V) (hF : Fine D V L) : L.length ≤ PySem.sizeLine := by
  refine leaves_le hI.sq.2.1 (fun W hW => ⟨(fine_leaf D V L hI hF W hW).1, (fine_leaf D V L hI hF W hW).2.1⟩) fun p hp => ?_
  have := fine_le D V L p hI hp hF
  split at this <;> omega
theorem fine_siz2 (D : Nat) (V : List (List Int)) (q : List Int) (cs L : List (List (List Int))) (hI : Inv V) (h1 : (dt V).natAbs ≠ 1) (hB : Best V q) (hs : cs <+: kids V (prim q)) (hF : FL (Fine D) cs L) : L.length ≤ PySem.sizeLine := by
  have hk : ∀ c ∈ cs, Inv c ∧ c.length = V.length := fun c hc => by
    have hc := hs.subset hc
    exact ⟨(kid_inv hI h1 hB c hc).1, kid_len hI.det hc⟩
  refine leaves_le hI.sq.2.1 (fun W hW => ?_) fun p hp => ?_
  · obtain ⟨c, hc, L', hL', hW'⟩ := FL_mem hF hW
    obtain ⟨a, b, _⟩ := fine_leaf D c L' (hk c hc).1 hL' W hW'
    exact ⟨a, b.trans (hk c hc).2⟩
  · obtain ⟨hpl, hg, hll, hb, he⟩ := way_ok hI hB.1 hB.2.1
    have a1 := FL_le (f := fun W => str W p) (fun c hc L' hL' => fine_le D c L' p (hk c hc).1 (by rw [(hk c hc).2, hp]) hL') hF
    have a2 := (hs.sublist.filter fun W => str W p).length_le
    have a3 := kids_le hI.sq hpl hp hI.det fun i hi => (hb i hi).1
    split at a3 <;> omega
theorem mathF : MathF Inv := ⟨fun V h => h.bok, fun V h h1 => box_ex h h1, fun V q h hq => bx_small h hq, fun V q h h1 hB => kid_inv h h1 hB, fun D V q cs L h h1 hB hs hF => fine_siz2 D V q cs L h h1 hB hs hF⟩
end Lp

/-! LmG: a generic way; half-open cones; what the law asks. -/
namespace Lp
def comb (V : List (List Int)) (c : Nat → Int) : Nat → List Int
  | 0 => zer V.length
  | k + 1 => addV (sclV (c k) (V.getD k [])) (comb V c k)
def coef (pl : List Int) (f : Int) (j : Nat) : Int := if (j : Int) ∈ pl then -(wgt f j) else wgt f j
theorem addV_comm (a b : List Int) : addV a b = addV b a := by
  unfold addV
  rw [List.zipWith_comm]
  congr 1
  funext x y
  exact Int.add_comm _ _
theorem tt_comb (V : List (List Int)) (pl : List Int) (f : Int) : ∀ k, tt V pl f k = comb V (coef pl f) k
  | 0 => rfl
  | k + 1 => by
    show addV (tt V pl f k) _ = addV _ (comb V (coef pl f) k)
    rw [tt_comb V pl f k, addV_comm]
    rfl
theorem row_len {V : List (List Int)} (h : Squ V) {k : Nat} (hk : k < V.length) : (V.getD k []).length = V.length := h.2.2 _ (getD_mem hk)
theorem comb_len {V : List (List Int)} (h : Squ V) (c : Nat → Int) : ∀ k, k ≤ V.length → (comb V c k).length = V.length
  | 0, _ => zer_len _
  | k + 1, hk => lin_len (row_len h (by omega)) (comb_len h c k (by omega)) _
theorem Nn_comb {V W : List (List Int)} (hV : Squ V) (hW : Squ W) (hl : W.length = V.length) (c : Nat → Int) {i : Nat} (hi : i < W.length) : ∀ k, k ≤ V.length → Nn W (comb V c k) i = sumR k fun j => c j * Nn W (V.getD j []) i
  | 0, _ => by
    show Nn W (zer V.length) i = 0
    rw [← hl]
    exact Nn_zer hW hi
  | k + 1, hk => by
    show Nn W (addV (sclV (c k) (V.getD k [])) (comb V c k)) i = _
    rw [Nn_lin hW (by rw [row_len hV (by omega), hl]) (by rw [comb_len hV c k (by omega), hl]) (c k) i hi, Nn_comb hV hW hl c hi k (by omega), sumR_succ]
    omega
theorem sumR_delta {g : Nat → Int} {k : Nat} : ∀ {n : Nat}, k < n → (∀ j, j < n → j ≠ k → g j = 0) → sumR n g = g k
  | 0, h, _ => absurd h (Nat.not_lt_zero _)
  | n + 1, h, hz => by
    rw [sumR_succ]
    by_cases e : k = n
    · subst e
      have : sumR k g = 0 := by
        rw [sumR_congr (g := fun _ => 0) fun j hj => hz j (by omega) (by omega), sumR_zero]
      omega
    · rw [sumR_delta (by omega) fun j hj => hz j (by omega), hz n (by omega) (fun z => e z.symm)]
      omega
theorem Nn_own {V : List (List Int)} (hV : Squ V) (c : Nat → Int) {k : Nat} (hk : k < V.length) : Nn V (comb V c V.length) k = c k * dt V := by
  rw [Nn_comb hV hV rfl c hk V.length (Nat.le_refl _), sumR_delta hk fun j hj hn => by rw [Nn_other hV j k hj hk hn, Int.mul_zero], Nn_self hk]
theorem comb_get {V : List (List Int)} (h : Squ V) (c : Nat → Int) {a : Nat} (ha : a < V.length) : ∀ k, k ≤ V.length → (comb V c k).getD a 0 = sumR k fun j => c j * (V.getD j []).getD a 0
  | 0, _ => by
    show (zer V.length).getD a 0 = 0
    unfold zer
    rw [List.getD_eq_getElem?_getD, List.getElem?_replicate, if_pos ha]
    rfl
  | k + 1, hk => by
    rw [sumR_succ, ← comb_get h c ha k (by omega)]
    show (addV (sclV (c k) (V.getD k [])) (comb V c k)).getD a 0 = _
    have l1 := row_len h (show k < V.length by omega)
    have l2 := comb_len h c k (by omega)
    have e1 : (addV (sclV (c k) (V.getD k [])) (comb V c k))[a]? = some (c k * (V.getD k []).getD a 0 + (comb V c k).getD a 0) := by
      unfold addV sclV
      rw [List.getElem?_zipWith, List.getElem?_map, List.getElem?_eq_getElem (l := V.getD k []) (by omega), List.getElem?_eq_getElem (l := comb V c k) (by omega)]
      rw [List.getD_eq_getElem?_getD (l := V.getD k []), List.getElem?_eq_getElem (l := V.getD k []) (by omega), List.getD_eq_getElem?_getD (l := comb V c k), List.getElem?_eq_getElem (l := comb V c k) (by omega)]
      rfl
    rw [List.getD_eq_getElem?_getD, e1]
    show _ + _ = _ + _
    omega
theorem ext_getD {a b : List Int} {n : Nat} (ha : a.length = n) (hb : b.length = n) (h : ∀ i, i < n → a.getD i 0 = b.getD i 0) : a = b := by
  rw [← map_range_getD (l := a) (z := 0) ha, ← map_range_getD (l := b) (z := 0) hb]
  exact List.map_congr_left fun i hi => h i (List.mem_range.mp hi)
theorem scl_get (c : Int) {p : List Int} {a : Nat} (h : a < p.length) : (sclV c p).getD a 0 = c * p.getD a 0 := by
  unfold sclV
  rw [List.getD_eq_getElem?_getD, List.getElem?_map, List.getElem?_eq_getElem h, List.getD_eq_getElem?_getD, List.getElem?_eq_getElem h]
  rfl
theorem some_nz {V W : List (List Int)} (hV : Squ V) (hW : Squ W) (hl : W.length = V.length) (dV : dt V ≠ 0) (dW : dt W ≠ 0) {i : Nat} (hi : i < W.length) : ∃ j, j < V.length ∧ Nn W (V.getD j []) i ≠ 0 := by
  apply Classical.byContradiction
  intro hn
  have hz : ∀ j, j < V.length → Nn W (V.getD j []) i = 0 := fun j hj => by
    apply Classical.byContradiction
    intro z
    exact hn ⟨j, hj, z⟩
  have hwl := row_len hW hi
  have e : sclV (dt V) (W.getD i []) = comb V (fun k => Nn V (W.getD i []) k) V.length := by
    refine ext_getD (by rw [scl_len, hwl, hl]) (comb_len hV _ _ (Nat.le_refl _)) fun a ha => ?_
    rw [comb_get hV _ ha _ (Nat.le_refl _), ← Nn_cram hV (by rw [hwl, hl]) a ha]
    exact scl_get _ (by omega)
  have h1 := Nn_scl hW hwl (dt V) hi
  rw [e, Nn_comb hV hW hl _ hi _ (Nat.le_refl _), Nn_self hi, sumR_congr (g := fun _ => 0) (fun j hj => by rw [hz j hj, Int.mul_zero]), sumR_zero] at h1
  rcases Int.mul_eq_zero.mp h1.symm with z | z
  · exact dV z
  · exact dW z
theorem wgt_pos {f : Int} (hf : 1 ≤ f) : ∀ k, 0 < wgt f k
  | 0 => by show (0 : Int) < 1; decide
  | k + 1 => by
    show 0 < wgt f k * f + 1
    have := Int.mul_nonneg (Int.le_of_lt (wgt_pos hf k)) (show 0 ≤ f by omega)
    omega
theorem coef_neg {pl : List Int} {f : Int} (hf : 1 ≤ f) (k : Nat) : (coef pl f k < 0 ↔ (k : Int) ∈ pl) ∧ coef pl f k ≠ 0 ∧ ((coef pl f k).natAbs : Int) = wgt f k := by
  have := wgt_pos hf k
  unfold coef
  split
  · exact ⟨⟨fun _ => ‹_›, fun _ => by omega⟩, by omega, by omega⟩
  · exact ⟨⟨fun h => by omega, fun h => absurd h ‹_›⟩, by omega, by omega⟩
theorem dom {a x r : Int} (hx : x ≠ 0) (h : (r.natAbs : Int) < a.natAbs) : r + a * x ≠ 0 := by
  have h1 : a.natAbs ≤ (a * x).natAbs := by
    rw [Int.natAbs_mul]
    exact Nat.le_mul_of_pos_right _ (by omega)
  omega
theorem comb_nz {pl : List Int} {f : Int} (hf : 1000000 ≤ f) {x : Nat → Int} {n : Nat} (hn : n ≤ 3) (hx : ∀ j, j < n → -355914 ≤ x j ∧ x j ≤ 355914) (he : ∃ j, j < n ∧ x j ≠ 0) : (sumR n fun j => coef pl f j * x j) ≠ 0 := by
  obtain ⟨j, hj, hxj⟩ := he
  have w0 : wgt f 0 = 1 := rfl
  have w1 : wgt f 1 = f + 1 := by show 1 * f + 1 = f + 1; omega
  have w2 : wgt f 2 = (f + 1) * f + 1 := by show (1 * f + 1) * f + 1 = _; rw [Int.one_mul]
  have big : (f + 1) * 1000000 ≤ (f + 1) * f := Int.mul_le_mul_of_nonneg_left hf (by omega)
  have c0 := (coef_neg (pl := pl) (show 1 ≤ f by omega) 0).2.2
  have c1 := (coef_neg (pl := pl) (show 1 ≤ f by omega) 1).2.2
  have c2 := (coef_neg (pl := pl) (show 1 ≤ f by omega) 2).2.2
  rw [w0] at c0
  rw [w1] at c1
  rw [w2] at c2
  have m0 : 0 < n → -(1 * 355914) ≤ coef pl f 0 * x 0 ∧ coef pl f 0 * x 0 ≤ 1 * 355914 := fun h => mulB (by omega) (hx 0 h)
  have m1 : 1 < n → -((f + 1) * 355914) ≤ coef pl f 1 * x 1 ∧ coef pl f 1 * x 1 ≤ (f + 1) * 355914 := fun h => mulB (by omega) (hx 1 h)
  have s1 : sumR 1 (fun j => coef pl f j * x j) = coef pl f 0 * x 0 := by rw [sumR_succ]; exact Int.zero_add _
  have s2 : sumR 2 (fun j => coef pl f j * x j) = coef pl f 0 * x 0 + coef pl f 1 * x 1 := by rw [sumR_succ, s1]
  have s3 : sumR 3 (fun j => coef pl f j * x j) = coef pl f 0 * x 0 + coef pl f 1 * x 1 + coef pl f 2 * x 2 := by rw [sumR_succ, s2]
  have t1 : x 0 ≠ 0 → coef pl f 0 * x 0 ≠ 0 := fun h => by
    have := dom (a := coef pl f 0) (r := 0) h (by omega)
    omega
  have t2 : 0 < n → x 1 ≠ 0 → coef pl f 0 * x 0 + coef pl f 1 * x 1 ≠ 0 := fun hn h => dom h (by have := m0 hn; omega)
  have t3 : 1 < n → x 2 ≠ 0 → coef pl f 0 * x 0 + coef pl f 1 * x 1 + coef pl f 2 * x 2 ≠ 0 := fun hn h => dom h (by
    have := m0 (by omega)
    have := m1 hn
    omega)
  obtain rfl | rfl | rfl : n = 1 ∨ n = 2 ∨ n = 3 := by omega
  · rw [s1]
    obtain rfl : j = 0 := by omega
    exact t1 hxj
  · rw [s2]
    by_cases z1 : x 1 = 0
    · obtain rfl : j = 0 := by
        apply Classical.byContradiction
        intro h
        obtain rfl : j = 1 := by omega
        exact hxj z1
      rw [z1, Int.mul_zero, Int.add_zero]
      exact t1 hxj
    · exact t2 (by decide) z1
  · rw [s3]
    by_cases z2 : x 2 = 0
    · rw [z2, Int.mul_zero, Int.add_zero]
      by_cases z1 : x 1 = 0
      · obtain rfl : j = 0 := by
          apply Classical.byContradiction
          intro h
          obtain rfl | rfl : j = 1 ∨ j = 2 := by omega
          · exact hxj z1
          · exact hxj z2
        rw [z1, Int.mul_zero, Int.add_zero]
        exact t1 hxj
      · exact t2 (by decide) z1
    · exact t3 (by decide) z2
theorem way_gen {V W : List (List Int)} (hV : Inv V) (hW : Inv W) (hl : W.length = V.length) (pl : List Int) {f : Int} (hf : 1000000 ≤ f) : Gen W (tt V pl f V.length) := by
  intro i hi
  rw [tt_comb, Nn_comb hV.sq hW.sq hl _ hi _ (Nat.le_refl _)]
  refine comb_nz hf hV.sq.2.1 (fun j hj => ?_) (some_nz hV.sq hW.sq hl hV.det hW.det hi)
  have hvj := getD_mem hj
  have sq := hW.sq.set (p := V.getD j []) (by rw [row_len hV.sq hj, hl]) i
  have := dt_le sq (B := 39) (by decide) fun v hv x hx => by
    rcases List.mem_or_eq_of_mem_set hv with hv | rfl
    · exact hW.b39 v hv x hx
    · exact hV.b39 _ hvj x hx
  unfold Nn
  omega
theorem mathU : MathU Inv := ⟨fun D V L hI hF => ⟨fine_siz D V L hI hF, fun W hW => ⟨(fine_leaf D V L hI hF W hW).1, (fine_leaf D V L hI hF W hW).2.1⟩⟩, fun D V L hI hF pl f hf W hW => by
  obtain ⟨h1, h2, _⟩ := fine_leaf D V L hI hF W hW
  exact (genW_iff h1.det).mpr (way_gen hI h1 h2 pl hf)⟩

/-! ### half-open -/
theorem mix_get {W : List (List Int)} {z : List Int} {k : Nat} (hk : k < W.length) : (mixV W z).getD k 0 = Mm W z k := by
  unfold mixV Mm Nn
  rw [List.getD_eq_getElem?_getD, List.getElem?_map, List.getElem?_range hk]
  show (if 0 < dt W then dt (W.set k z) else 0 - dt (W.set k z)) = _
  split
  · rfl
  · omega
theorem inC_iff {p : List Int} {W : List (List Int)} {pl x : List Int} : inC p W pl x = true ↔ ∀ k, k < W.length → ¬ (Mm W (subV x p) k < 0 ∨ (Mm W (subV x p) k = 0 ∧ (k : Int) ∈ pl)) := by
  unfold inC
  rw [List.all_eq_true]
  constructor
  · intro h k hk
    have := h k (List.mem_range.mpr hk)
    rw [mix_get hk, Bool.not_eq_true', Bool.or_eq_false_iff, Bool.and_eq_false_iff, decide_eq_false_iff_not, decide_eq_false_iff_not, decide_eq_false_iff_not] at this
    rintro (z | ⟨z1, z2⟩)
    · exact this.1 z
    · rcases this.2 with y | y
      · exact y z1
      · exact y z2
  · intro h k hk
    have := h k (List.mem_range.mp hk)
    rw [mix_get (List.mem_range.mp hk), Bool.not_eq_true', Bool.or_eq_false_iff, Bool.and_eq_false_iff, decide_eq_false_iff_not, decide_eq_false_iff_not, decide_eq_false_iff_not]
    refine ⟨fun z => this (.inl z), ?_⟩
    by_cases z : Mm W (subV x p) k = 0
    · exact .inr fun y => this (.inr ⟨z, y⟩)
    · exact .inl z
theorem mem_negs {W : List (List Int)} {t : List Int} (hd : dt W ≠ 0) {k : Nat} (hk : k < W.length) : (k : Int) ∈ negs W t ↔ Mm W t k < 0 := by
  unfold negs
  rw [List.mem_map]
  constructor
  · rintro ⟨j, hj, e⟩
    rw [List.mem_filter, List.mem_range, decide_eq_true_eq] at hj
    have : j = k := by omega
    subst this
    exact (wts_neg hk hd).mp hj.2
  · intro h
    exact ⟨k, by rw [List.mem_filter, List.mem_range, decide_eq_true_eq]; exact ⟨hk, (wts_neg hk hd).mpr h⟩, rfl⟩
theorem far_sign {T m t : Int} (hT : (t.natAbs : Int) < T) (ht : t ≠ 0) : (0 < T * m + t ↔ ¬ (m < 0 ∨ (m = 0 ∧ t < 0))) ∧ T * m + t ≠ 0 := by
  have hT0 : 0 < T := by omega
  rcases Int.lt_trichotomy m 0 with h | h | h
  · have := Int.mul_le_mul_of_nonneg_left (show m ≤ -1 by omega) (Int.le_of_lt hT0)
    refine ⟨⟨fun z => by omega, fun z => absurd (.inl h) z⟩, by omega⟩
  · subst h
    rw [Int.mul_zero, Int.zero_add]
    exact ⟨⟨fun z => by omega, fun z => by omega⟩, ht⟩
  · have := Int.mul_le_mul_of_nonneg_left (show 1 ≤ m by omega) (Int.le_of_lt hT0)
    refine ⟨⟨fun z => by omega, fun z => by omega⟩, by omega⟩
theorem Mm_abs {W : List (List Int)} {t : List Int} {k : Nat} : (Mm W t k).natAbs = (Nn W t k).natAbs := by
  unfold Mm
  split <;> omega
theorem in_str {p : List Int} {W : List (List Int)} {pl x t : List Int} {T : Int} (hW : Squ W) (hx : (subV x p).length = W.length) (ht : t.length = W.length) (hG : Gen W t) (hT : ∀ k, k < W.length → ((Nn W t k).natAbs : Int) < T)
    (hpl : ∀ k, k < W.length → ((k : Int) ∈ pl ↔ Mm W t k < 0)) : (inC p W pl x = str W (addV (sclV T (subV x p)) t)) ∧ Gen W (addV (sclV T (subV x p)) t) := by
  have hk : ∀ k, k < W.length → (0 < Mm W (addV (sclV T (subV x p)) t) k ↔ ¬ (Mm W (subV x p) k < 0 ∨ (Mm W (subV x p) k = 0 ∧ Mm W t k < 0))) ∧ Mm W (addV (sclV T (subV x p)) t) k ≠ 0 := fun k hk => by
    rw [Mm_lin hW hx ht T hk]
    exact far_sign (by rw [Mm_abs]; exact hT k hk) (fun z => hG k hk (Mm_zero.mp z))
  refine ⟨?_, fun k hk' z => (hk k hk').2 (Mm_zero.mpr z)⟩
  rw [Bool.eq_iff_iff, inC_iff, str_iff]
  constructor
  · intro h k hk'
    refine (hk k hk').1.mpr ?_
    rw [← hpl k hk']
    exact h k hk'
  · intro h k hk'
    have := (hk k hk').1.mp (h k hk')
    rw [← hpl k hk'] at this
    exact this
theorem bound1 (g : Nat → Int) : ∀ n : Nat, ∃ T : Int, ∀ k, k < n → ((g k).natAbs : Int) < T
  | 0 => ⟨0, fun k hk => absurd hk (Nat.not_lt_zero _)⟩
  | n + 1 => by
    obtain ⟨T, h⟩ := bound1 g n
    refine ⟨max T ((g n).natAbs + 1), fun k hk => ?_⟩
    by_cases e : k = n
    · subst e; omega
    · have := h k (by omega); omega
theorem bound2 (t : List Int) : ∀ L : List (List (List Int)), ∃ T : Int, ∀ W ∈ L, ∀ k, k < W.length → ((Nn W t k).natAbs : Int) < T
  | [] => ⟨0, fun W h => by cases h⟩
  | W :: L => by
    obtain ⟨T, h⟩ := bound2 t L
    obtain ⟨T', h'⟩ := bound1 (fun k => Nn W t k) W.length
    refine ⟨max T T', fun W' hW' k hk => ?_⟩
    rcases List.mem_cons.mp hW' with rfl | hW'
    · have := h' k hk; omega
    · have := h W' hW' k hk; omega
theorem subV_len (x p : List Int) : (subV x p).length = x.length := by unfold subV; rw [List.length_map, List.length_range]
theorem LawC.inv {p : List Int} {V : List (List Int)} {pl : List Int} (h : LawC p V pl) : Inv V ∧ (dt V).natAbs ≤ 200 := by
  refine ⟨⟨h.sq, h.det, h.prm, fun v hv => Int.le_trans ?_ (bet_9 _)⟩, by have := dt_le h.sq (B := 3) (by decide) h.vb; omega⟩
  rw [l1_sum (h.sq.2.2 v hv)]
  have : (sumR V.length fun a => ((v.getD a 0).natAbs : Int)) ≤ sumR V.length fun _ => (3 : Int) := sumR_le fun a _ => by
    have : -3 ≤ v.getD a 0 ∧ v.getD a 0 ≤ 3 := by
      rw [List.getD_eq_getElem?_getD]
      cases q : v[a]? with
      | none => show -3 ≤ (0 : Int) ∧ (0 : Int) ≤ 3; decide
      | some x => exact h.vb v hv x (List.mem_of_getElem? q)
    omega
  rw [sumR_const] at this
  have := h.sq.2.1
  omega
theorem negs_asc (W : List (List Int)) (t : List Int) : (negs W t).Pairwise (· < ·) ∧ ∀ k ∈ negs W t, 0 ≤ k ∧ k < W.length := by
  unfold negs
  refine ⟨?_, fun k hk => ?_⟩
  · rw [List.pairwise_map]
    exact (List.pairwise_lt_range.filter _).imp fun h => by omega
  · obtain ⟨j, hj, rfl⟩ := List.mem_map.mp hk
    rw [List.mem_filter, List.mem_range] at hj
    omega
theorem mathL : MathL Inv 200 := by
  refine ⟨fun p V pl h => h.inv, fun p V pl L f h hF hf hG W hW => ?_, fun p V pl L h hF => fine_siz 200 V L h.inv.1 hF, fun p V pl L f h hF hf hG x hx => ?_⟩
  · obtain ⟨h1, h2, h3⟩ := fine_leaf 200 V L h.inv.1 hF W hW
    obtain ⟨a1, a2⟩ := negs_asc W (tt V pl f V.length)
    exact ⟨h3, h2, ⟨h1.sqS, by rw [h.len, h2], h1.prm, h1.det, a1, a2⟩⟩
  · have hI := h.inv.1
    have hl := fine_leaf 200 V L hI hF
    have htl := tt_len h.sq.2.2 (pl := pl) (f := f) V.length (Nat.le_refl _)
    have hsl : (subV x p).length = V.length := by rw [subV_len, hx]
    have hNV : ∀ k, k < V.length → Nn V (tt V pl f V.length) k = coef pl f k * dt V := fun k hk => by rw [tt_comb]; exact Nn_own h.sq _ hk
    have hGV : Gen V (tt V pl f V.length) := fun k hk z => by
      rw [hNV k hk] at z
      rcases Int.mul_eq_zero.mp z with z | z
      · exact (coef_neg (show 1 ≤ f by omega) k).2.1 z
      · exact h.det z
    have hMV : ∀ k, k < V.length → ((k : Int) ∈ pl ↔ Mm V (tt V pl f V.length) k < 0) := fun k hk => by
      rw [← (coef_neg (pl := pl) (show 1 ≤ f by omega) k).1]
      have e : Mm V (tt V pl f V.length) k = ((dt V).natAbs : Int) * coef pl f k := by
        unfold Mm
        rw [hNV k hk, Int.mul_comm]
        by_cases hd : 0 < dt V
        · rw [if_pos hd]; congr 1; omega
        · rw [if_neg hd, ← Int.neg_mul]; congr 1; omega
      rw [e]
      exact (mul_neg_iff' (abs_pos h.det)).symm
    generalize tt V pl f V.length = t at htl hGV hMV hG
    obtain ⟨T, hT⟩ := bound2 t (V :: L)
    obtain ⟨e1, g1⟩ := in_str (p := p) (x := x) h.sq hsl htl hGV (hT V List.mem_cons_self) hMV
    have hW : ∀ W ∈ L, inC p W (negs W t) x = str W (addV (sclV T (subV x p)) t) ∧ Gen W (addV (sclV T (subV x p)) t) := fun W hW => by
      obtain ⟨w1, w2, w3⟩ := hl W hW
      exact in_str w1.sq (by rw [hsl, w2]) (by rw [htl, w2]) ((genW_iff w1.det).mp (hG W hW)) (hT W (List.mem_cons_of_mem _ hW)) fun k hk => mem_negs w1.det hk
    have hc : (L.filter fun W => inC p W (negs W t) x) = L.filter fun W => str W (addV (sclV T (subV x p)) t) := List.filter_congr fun W h' => (hW W h').1
    rw [hc, e1]
    exact (fine_eq 200 V L _ hI (lin_len hsl htl T) hF fun W h' => (hW W h').2).2
end Lp

/-! LmH: the end. -/
namespace Lp
open PySem PySem.Spec L2
section
variable {K : PySem.W.Frag} {h : Heap} {mg : Str → Option Value}
theorem all_mk {l : PySem.W.OpenLaw} {w : World} {fa pisin pgcd predu pmore pscal pdet pprim pisv pcram pboxp pneed pwts pkept pboxo pspl pfine puni pgen pltak plsgn plgcd plsub pldet plmin plcon plpic plisv plisc plbox plmix plinc plaw pZ : Addr} {tF tA : Tok} (X : K.In h) (G : h.Ns mainGlobals mg) (hfa : mg "law" = some (.ref fa))
    {odisin anisin : Option Addr} {slisin : Array (Option Value)} {ocisin kVisin dcisin pmisin cdisin ctisin : Value}
    {odgcd angcd : Option Addr} {slgcd : Array (Option Value)} {ocgcd kVgcd dcgcd pmgcd cdgcd ctgcd : Value}
    {odredu anredu : Option Addr} {slredu : Array (Option Value)} {ocredu kVredu dcredu pmredu cdredu ctredu : Value}
    {odmore anmore : Option Addr} {slmore : Array (Option Value)} {ocmore kVmore dcmore pmmore cdmore ctmore : Value}
    {odscal anscal : Option Addr} {slscal : Array (Option Value)} {ocscal kVscal dcscal pmscal cdscal ctscal : Value}
    {oddet andet : Option Addr} {sldet : Array (Option Value)} {ocdet kVdet dcdet pmdet cddet ctdet : Value}
    {odprim anprim : Option Addr} {slprim : Array (Option Value)} {ocprim kVprim dcprim pmprim cdprim ctprim : Value}
    {odisv anisv : Option Addr} {slisv : Array (Option Value)} {ocisv kVisv dcisv pmisv cdisv ctisv : Value}
    {odcram ancram : Option Addr} {slcram : Array (Option Value)} {occram kVcram dccram pmcram cdcram ctcram : Value}
    {odboxp anboxp : Option Addr} {slboxp : Array (Option Value)} {ocboxp kVboxp dcboxp pmboxp cdboxp ctboxp : Value}
    {odneed anneed : Option Addr} {slneed : Array (Option Value)} {ocneed kVneed dcneed pmneed cdneed ctneed : Value}
    {odwts anwts : Option Addr} {slwts : Array (Option Value)} {ocwts kVwts dcwts pmwts cdwts ctwts : Value}
    {odkept ankept : Option Addr} {slkept : Array (Option Value)} {ockept kVkept dckept pmkept cdkept ctkept : Value}
    {odboxo anboxo : Option Addr} {slboxo : Array (Option Value)} {ocboxo kVboxo dcboxo pmboxo cdboxo ctboxo : Value}
    {odspl anspl : Option Addr} {slspl : Array (Option Value)} {ocspl kVspl dcspl pmspl cdspl ctspl : Value}
    {odfine anfine : Option Addr} {slfine : Array (Option Value)} {ocfine kVfine dcfine pmfine cdfine ctfine : Value}
    {oduni anuni : Option Addr} {sluni : Array (Option Value)} {ocuni kVuni dcuni pmuni cduni ctuni : Value}
    {odgen angen : Option Addr} {slgen : Array (Option Value)} {ocgen kVgen dcgen pmgen cdgen ctgen : Value}
    {odltak anltak : Option Addr} {slltak : Array (Option Value)} {ocltak kVltak dcltak pmltak cdltak ctltak : Value}
    {odlsgn anlsgn : Option Addr} {sllsgn : Array (Option Value)} {oclsgn kVlsgn dclsgn pmlsgn cdlsgn ctlsgn : Value}
    {odlgcd anlgcd : Option Addr} {sllgcd : Array (Option Value)} {oclgcd kVlgcd dclgcd pmlgcd cdlgcd ctlgcd : Value}
    {odlsub anlsub : Option Addr} {sllsub : Array (Option Value)} {oclsub kVlsub dclsub pmlsub cdlsub ctlsub : Value}
    {odldet anldet : Option Addr} {slldet : Array (Option Value)} {ocldet kVldet dcldet pmldet cdldet ctldet : Value}
    {odlmin anlmin : Option Addr} {sllmin : Array (Option Value)} {oclmin kVlmin dclmin pmlmin cdlmin ctlmin : Value}
    {odlcon anlcon : Option Addr} {sllcon : Array (Option Value)} {oclcon kVlcon dclcon pmlcon cdlcon ctlcon : Value}
    {odlpic anlpic : Option Addr} {sllpic : Array (Option Value)} {oclpic kVlpic dclpic pmlpic cdlpic ctlpic : Value}
    {odlisv anlisv : Option Addr} {sllisv : Array (Option Value)} {oclisv kVlisv dclisv pmlisv cdlisv ctlisv : Value}
    {odlisc anlisc : Option Addr} {sllisc : Array (Option Value)} {oclisc kVlisc dclisc pmlisc cdlisc ctlisc : Value}
    {odlbox anlbox : Option Addr} {sllbox : Array (Option Value)} {oclbox kVlbox dclbox pmlbox cdlbox ctlbox : Value}
    {odlmix anlmix : Option Addr} {sllmix : Array (Option Value)} {oclmix kVlmix dclmix pmlmix cdlmix ctlmix : Value}
    {odlinc anlinc : Option Addr} {sllinc : Array (Option Value)} {oclinc kVlinc dclinc pmlinc cdlinc ctlinc : Value}
    {odlaw anlaw : Option Addr} {sllaw : Array (Option Value)} {oclaw kVlaw dclaw pmlaw cdlaw ctlaw : Value}
    (aisin : PySem.W.nsIn K mainGlobals "is_in" = some (some (.ref pisin))) (lisin : K.lookup pisin = some ⟨ocisin, odisin, .func (PySem.W.fnOf "is_in" "is_in" (defArgs (topS 4)) (defBody (topS 4)) (defScope (topS 4)) .none kVisin dcisin pmisin anisin cdisin ctisin), slisin⟩) (cisin : PySem.W.codeIn K cdisin "is_in" = true) (kisin : PySem.W.keepIn K (.ref pisin) = true)
    (agcd : PySem.W.nsIn K mainGlobals "gcd" = some (some (.ref pgcd))) (lgcd : K.lookup pgcd = some ⟨ocgcd, odgcd, .func (PySem.W.fnOf "gcd" "gcd" (defArgs (topS 5)) (defBody (topS 5)) (defScope (topS 5)) .none kVgcd dcgcd pmgcd angcd cdgcd ctgcd), slgcd⟩) (cgcd : PySem.W.codeIn K cdgcd "gcd" = true) (kgcd : PySem.W.keepIn K (.ref pgcd) = true)
    (aredu : PySem.W.nsIn K mainGlobals "reduced" = some (some (.ref predu))) (lredu : K.lookup predu = some ⟨ocredu, odredu, .func (PySem.W.fnOf "reduced" "reduced" (defArgs (topS 6)) (defBody (topS 6)) (defScope (topS 6)) .none kVredu dcredu pmredu anredu cdredu ctredu), slredu⟩) (credu : PySem.W.codeIn K cdredu "reduced" = true) (kredu : PySem.W.keepIn K (.ref predu) = true)
    (amore : PySem.W.nsIn K mainGlobals "more" = some (some (.ref pmore))) (lmore : K.lookup pmore = some ⟨ocmore, odmore, .func (PySem.W.fnOf "more" "more" (defArgs (topS 8)) (defBody (topS 8)) (defScope (topS 8)) .none kVmore dcmore pmmore anmore cdmore ctmore), slmore⟩) (cmore : PySem.W.codeIn K cdmore "more" = true) (kmore : PySem.W.keepIn K (.ref pmore) = true)
    (ascal : PySem.W.nsIn K mainGlobals "scaled" = some (some (.ref pscal))) (lscal : K.lookup pscal = some ⟨ocscal, odscal, .func (PySem.W.fnOf "scaled" "scaled" (defArgs (topS 9)) (defBody (topS 9)) (defScope (topS 9)) .none kVscal dcscal pmscal anscal cdscal ctscal), slscal⟩) (cscal : PySem.W.codeIn K cdscal "scaled" = true) (kscal : PySem.W.keepIn K (.ref pscal) = true)
    (adet : PySem.W.nsIn K mainGlobals "determinant" = some (some (.ref pdet))) (ldet : K.lookup pdet = some ⟨ocdet, oddet, .func (PySem.W.fnOf "determinant" "determinant" (defArgs (topS 10)) (defBody (topS 10)) (defScope (topS 10)) .none kVdet dcdet pmdet andet cddet ctdet), sldet⟩) (cdet : PySem.W.codeIn K cddet "determinant" = true) (kdet : PySem.W.keepIn K (.ref pdet) = true)
    (aprim : PySem.W.nsIn K mainGlobals "primitive" = some (some (.ref pprim))) (lprim : K.lookup pprim = some ⟨ocprim, odprim, .func (PySem.W.fnOf "primitive" "primitive" (defArgs (topS 11)) (defBody (topS 11)) (defScope (topS 11)) .none kVprim dcprim pmprim anprim cdprim ctprim), slprim⟩) (cprim : PySem.W.codeIn K cdprim "primitive" = true) (kprim : PySem.W.keepIn K (.ref pprim) = true)
    (aisv : PySem.W.nsIn K mainGlobals "is_vector" = some (some (.ref pisv))) (lisv : K.lookup pisv = some ⟨ocisv, odisv, .func (PySem.W.fnOf "is_vector" "is_vector" (defArgs (topS 12)) (defBody (topS 12)) (defScope (topS 12)) .none kVisv dcisv pmisv anisv cdisv ctisv), slisv⟩) (cisv : PySem.W.codeIn K cdisv "is_vector" = true) (kisv : PySem.W.keepIn K (.ref pisv) = true)
    (acram : PySem.W.nsIn K mainGlobals "cramer" = some (some (.ref pcram))) (lcram : K.lookup pcram = some ⟨occram, odcram, .func (PySem.W.fnOf "cramer" "cramer" (defArgs (topS 13)) (defBody (topS 13)) (defScope (topS 13)) .none kVcram dccram pmcram ancram cdcram ctcram), slcram⟩) (ccram : PySem.W.codeIn K cdcram "cramer" = true) (kcram : PySem.W.keepIn K (.ref pcram) = true)
    (aboxp : PySem.W.nsIn K mainGlobals "box_points" = some (some (.ref pboxp))) (lboxp : K.lookup pboxp = some ⟨ocboxp, odboxp, .func (PySem.W.fnOf "box_points" "box_points" (defArgs (topS 15)) (defBody (topS 15)) (defScope (topS 15)) .none kVboxp dcboxp pmboxp anboxp cdboxp ctboxp), slboxp⟩) (cboxp : PySem.W.codeIn K cdboxp "box_points" = true) (kboxp : PySem.W.keepIn K (.ref pboxp) = true)
    (aneed : PySem.W.nsIn K mainGlobals "need_cone" = some (some (.ref pneed))) (lneed : K.lookup pneed = some ⟨ocneed, odneed, .func (PySem.W.fnOf "need_cone" "need_cone" (defArgs (topS 19)) (defBody (topS 19)) (defScope (topS 19)) .none kVneed dcneed pmneed anneed cdneed ctneed), slneed⟩) (cneed : PySem.W.codeIn K cdneed "need_cone" = true) (kneed : PySem.W.keepIn K (.ref pneed) = true)
    (awts : PySem.W.nsIn K mainGlobals "weights_of" = some (some (.ref pwts))) (lwts : K.lookup pwts = some ⟨ocwts, odwts, .func (PySem.W.fnOf "weights_of" "weights_of" (defArgs (topS 20)) (defBody (topS 20)) (defScope (topS 20)) .none kVwts dcwts pmwts anwts cdwts ctwts), slwts⟩) (cwts : PySem.W.codeIn K cdwts "weights_of" = true) (kwts : PySem.W.keepIn K (.ref pwts) = true)
    (akept : PySem.W.nsIn K mainGlobals "is_kept" = some (some (.ref pkept))) (lkept : K.lookup pkept = some ⟨ockept, odkept, .func (PySem.W.fnOf "is_kept" "is_kept" (defArgs (topS 21)) (defBody (topS 21)) (defScope (topS 21)) .none kVkept dckept pmkept ankept cdkept ctkept), slkept⟩) (ckept : PySem.W.codeIn K cdkept "is_kept" = true) (kkept : PySem.W.keepIn K (.ref pkept) = true)
    (aboxo : PySem.W.nsIn K mainGlobals "box_of" = some (some (.ref pboxo))) (lboxo : K.lookup pboxo = some ⟨ocboxo, odboxo, .func (PySem.W.fnOf "box_of" "box_of" (defArgs (topS 22)) (defBody (topS 22)) (defScope (topS 22)) .none kVboxo dcboxo pmboxo anboxo cdboxo ctboxo), slboxo⟩) (cboxo : PySem.W.codeIn K cdboxo "box_of" = true) (kboxo : PySem.W.keepIn K (.ref pboxo) = true)
    (aspl : PySem.W.nsIn K mainGlobals "split_at" = some (some (.ref pspl))) (lspl : K.lookup pspl = some ⟨ocspl, odspl, .func (PySem.W.fnOf "split_at" "split_at" (defArgs (topS 25)) (defBody (topS 25)) (defScope (topS 25)) .none kVspl dcspl pmspl anspl cdspl ctspl), slspl⟩) (cspl : PySem.W.codeIn K cdspl "split_at" = true) (kspl : PySem.W.keepIn K (.ref pspl) = true)
    (afine : PySem.W.nsIn K mainGlobals "fine_parts" = some (some (.ref pfine))) (lfine : K.lookup pfine = some ⟨ocfine, odfine, .func (PySem.W.fnOf "fine_parts" "fine_parts" (defArgs (topS 26)) (defBody (topS 26)) (defScope (topS 26)) .none kVfine dcfine pmfine anfine cdfine ctfine), slfine⟩) (cfine : PySem.W.codeIn K cdfine "fine_parts" = true) (kfine : PySem.W.keepIn K (.ref pfine) = true)
    (auni : PySem.W.nsIn K mainGlobals "unimodular_parts" = some (some (.ref puni))) (luni : K.lookup puni = some ⟨ocuni, oduni, .func (PySem.W.fnOf "unimodular_parts" "unimodular_parts" (defArgs (topS 27)) (defBody (topS 27)) (defScope (topS 27)) .none kVuni dcuni pmuni anuni cduni ctuni), sluni⟩) (cuni : PySem.W.codeIn K cduni "unimodular_parts" = true) (kuni : PySem.W.keepIn K (.ref puni) = true)
    (agen : PySem.W.nsIn K mainGlobals "generic_in" = some (some (.ref pgen))) (lgen : K.lookup pgen = some ⟨ocgen, odgen, .func (PySem.W.fnOf "generic_in" "generic_in" (defArgs (topS 28)) (defBody (topS 28)) (defScope (topS 28)) .none kVgen dcgen pmgen angen cdgen ctgen), slgen⟩) (cgen : PySem.W.codeIn K cdgen "generic_in" = true) (kgen : PySem.W.keepIn K (.ref pgen) = true)
    (altak : PySem.W.nsIn K mainGlobals "_law_taken" = some (some (.ref pltak))) (lltak : K.lookup pltak = some ⟨ocltak, odltak, .func (PySem.W.fnOf "_law_taken" "_law_taken" (defArgs (topS 30)) (defBody (topS 30)) (defScope (topS 30)) .none kVltak dcltak pmltak anltak cdltak ctltak), slltak⟩) (cltak : PySem.W.codeIn K cdltak "_law_taken" = true) (kltak : PySem.W.keepIn K (.ref pltak) = true)
    (alsgn : PySem.W.nsIn K mainGlobals "_law_signed" = some (some (.ref plsgn))) (llsgn : K.lookup plsgn = some ⟨oclsgn, odlsgn, .func (PySem.W.fnOf "_law_signed" "_law_signed" (defArgs (topS 31)) (defBody (topS 31)) (defScope (topS 31)) .none kVlsgn dclsgn pmlsgn anlsgn cdlsgn ctlsgn), sllsgn⟩) (clsgn : PySem.W.codeIn K cdlsgn "_law_signed" = true) (klsgn : PySem.W.keepIn K (.ref plsgn) = true)
    (algcd : PySem.W.nsIn K mainGlobals "_law_gcd" = some (some (.ref plgcd))) (llgcd : K.lookup plgcd = some ⟨oclgcd, odlgcd, .func (PySem.W.fnOf "_law_gcd" "_law_gcd" (defArgs (topS 32)) (defBody (topS 32)) (defScope (topS 32)) .none kVlgcd dclgcd pmlgcd anlgcd cdlgcd ctlgcd), sllgcd⟩) (clgcd : PySem.W.codeIn K cdlgcd "_law_gcd" = true) (klgcd : PySem.W.keepIn K (.ref plgcd) = true)
    (alsub : PySem.W.nsIn K mainGlobals "_law_subsets" = some (some (.ref plsub))) (llsub : K.lookup plsub = some ⟨oclsub, odlsub, .func (PySem.W.fnOf "_law_subsets" "_law_subsets" (defArgs (topS 33)) (defBody (topS 33)) (defScope (topS 33)) .none kVlsub dclsub pmlsub anlsub cdlsub ctlsub), sllsub⟩) (clsub : PySem.W.codeIn K cdlsub "_law_subsets" = true) (klsub : PySem.W.keepIn K (.ref plsub) = true)
    (aldet : PySem.W.nsIn K mainGlobals "_law_determinant" = some (some (.ref pldet))) (lldet : K.lookup pldet = some ⟨ocldet, odldet, .func (PySem.W.fnOf "_law_determinant" "_law_determinant" (defArgs (topS 34)) (defBody (topS 34)) (defScope (topS 34)) .none kVldet dcldet pmldet anldet cdldet ctldet), slldet⟩) (cldet : PySem.W.codeIn K cdldet "_law_determinant" = true) (kldet : PySem.W.keepIn K (.ref pldet) = true)
    (almin : PySem.W.nsIn K mainGlobals "_law_minors" = some (some (.ref plmin))) (llmin : K.lookup plmin = some ⟨oclmin, odlmin, .func (PySem.W.fnOf "_law_minors" "_law_minors" (defArgs (topS 35)) (defBody (topS 35)) (defScope (topS 35)) .none kVlmin dclmin pmlmin anlmin cdlmin ctlmin), sllmin⟩) (clmin : PySem.W.codeIn K cdlmin "_law_minors" = true) (klmin : PySem.W.keepIn K (.ref plmin) = true)
    (alcon : PySem.W.nsIn K mainGlobals "_law_cone" = some (some (.ref plcon))) (llcon : K.lookup plcon = some ⟨oclcon, odlcon, .func (PySem.W.fnOf "_law_cone" "_law_cone" (defArgs (topS 36)) (defBody (topS 36)) (defScope (topS 36)) .none kVlcon dclcon pmlcon anlcon cdlcon ctlcon), sllcon⟩) (clcon : PySem.W.codeIn K cdlcon "_law_cone" = true) (klcon : PySem.W.keepIn K (.ref plcon) = true)
    (alpic : PySem.W.nsIn K mainGlobals "_law_pick" = some (some (.ref plpic))) (llpic : K.lookup plpic = some ⟨oclpic, odlpic, .func (PySem.W.fnOf "_law_pick" "_law_pick" (defArgs (topS 37)) (defBody (topS 37)) (defScope (topS 37)) .none kVlpic dclpic pmlpic anlpic cdlpic ctlpic), sllpic⟩) (clpic : PySem.W.codeIn K cdlpic "_law_pick" = true) (klpic : PySem.W.keepIn K (.ref plpic) = true)
    (alisv : PySem.W.nsIn K mainGlobals "_law_is_vector" = some (some (.ref plisv))) (llisv : K.lookup plisv = some ⟨oclisv, odlisv, .func (PySem.W.fnOf "_law_is_vector" "_law_is_vector" (defArgs (topS 38)) (defBody (topS 38)) (defScope (topS 38)) .none kVlisv dclisv pmlisv anlisv cdlisv ctlisv), sllisv⟩) (clisv : PySem.W.codeIn K cdlisv "_law_is_vector" = true) (klisv : PySem.W.keepIn K (.ref plisv) = true)
    (alisc : PySem.W.nsIn K mainGlobals "_law_is_cone" = some (some (.ref plisc))) (llisc : K.lookup plisc = some ⟨oclisc, odlisc, .func (PySem.W.fnOf "_law_is_cone" "_law_is_cone" (defArgs (topS 39)) (defBody (topS 39)) (defScope (topS 39)) .none kVlisc dclisc pmlisc anlisc cdlisc ctlisc), sllisc⟩) (clisc : PySem.W.codeIn K cdlisc "_law_is_cone" = true) (klisc : PySem.W.keepIn K (.ref plisc) = true)
    (albox : PySem.W.nsIn K mainGlobals "_law_box" = some (some (.ref plbox))) (llbox : K.lookup plbox = some ⟨oclbox, odlbox, .func (PySem.W.fnOf "_law_box" "_law_box" (defArgs (topS 40)) (defBody (topS 40)) (defScope (topS 40)) .none kVlbox dclbox pmlbox anlbox cdlbox ctlbox), sllbox⟩) (clbox : PySem.W.codeIn K cdlbox "_law_box" = true) (klbox : PySem.W.keepIn K (.ref plbox) = true)
    (almix : PySem.W.nsIn K mainGlobals "_law_mix" = some (some (.ref plmix))) (llmix : K.lookup plmix = some ⟨oclmix, odlmix, .func (PySem.W.fnOf "_law_mix" "_law_mix" (defArgs (topS 41)) (defBody (topS 41)) (defScope (topS 41)) .none kVlmix dclmix pmlmix anlmix cdlmix ctlmix), sllmix⟩) (clmix : PySem.W.codeIn K cdlmix "_law_mix" = true) (klmix : PySem.W.keepIn K (.ref plmix) = true)
    (alinc : PySem.W.nsIn K mainGlobals "_law_in_cone" = some (some (.ref plinc))) (llinc : K.lookup plinc = some ⟨oclinc, odlinc, .func (PySem.W.fnOf "_law_in_cone" "_law_in_cone" (defArgs (topS 42)) (defBody (topS 42)) (defScope (topS 42)) .none kVlinc dclinc pmlinc anlinc cdlinc ctlinc), sllinc⟩) (clinc : PySem.W.codeIn K cdlinc "_law_in_cone" = true) (klinc : PySem.W.keepIn K (.ref plinc) = true)
    (alaw : PySem.W.nsIn K mainGlobals "law" = some (some (.ref plaw))) (llaw : K.lookup plaw = some ⟨oclaw, odlaw, .func (PySem.W.fnOf "law" "law" (defArgs (topS 43)) (defBody (topS 43)) (defScope (topS 43)) .none kVlaw dclaw pmlaw anlaw cdlaw ctlaw), sllaw⟩) (claw : PySem.W.codeIn K cdlaw "law" = true) (klaw : PySem.W.keepIn K (.ref plaw) = true)
    (aF : PySem.W.nsIn K mainGlobals "FAR" = some (some (.int 50 tF))) (aA : PySem.W.nsIn K mainGlobals "FAR_APEX" = some (some (.int 1000 tA))) (aZ : PySem.W.nsIn K mainGlobals "ZERO" = some (some (.ref pZ)))
    {oZ : Obj} {iZ : Array Value} {nZ : Nat} (lZ : K.lookup pZ = some oZ) (cZ : oZ.cls = .type "tuple") (dZ : oZ.data = .seq iZ nZ) (sZ : iZ.size ≤ sizeLine) (vZ : Vals [V.int 0, V.int 1] iZ.toList)
    (zisinstance : PySem.W.nsIn K mainGlobals "isinstance" = some none)
    (zint : PySem.W.nsIn K mainGlobals "int" = some none)
    (zbool : PySem.W.nsIn K mainGlobals "bool" = some none)
    (zabs : PySem.W.nsIn K mainGlobals "abs" = some none)
    (ztuple : PySem.W.nsIn K mainGlobals "tuple" = some none)
    (zlen : PySem.W.nsIn K mainGlobals "len" = some none)
    (zrange : PySem.W.nsIn K mainGlobals "range" = some none)
    (zzip : PySem.W.nsIn K mainGlobals "zip" = some none)
    (zlist : PySem.W.nsIn K mainGlobals "list" = some none)
    (zsorted : PySem.W.nsIn K mainGlobals "sorted" = some none)
    (zset : PySem.W.nsIn K mainGlobals "set" = some none)
    (zsum : PySem.W.nsIn K mainGlobals "sum" = some none)
    (zmin : PySem.W.nsIn K mainGlobals "min" = some none)
    (zmax : PySem.W.nsIn K mainGlobals "max" = some none)
    : ∃ fd : FuncData, (∀ (s : Shared) (v : Value), BindsTo s fd ⟨[v], []⟩ [("_law_script", v)]) ∧ ∀ base : Heap, K.In base → base.Ns mainGlobals mg → FnOk l.prog w K mg base CX0 208 fa fd ["_law_script"] (spLaw K) := by
  have e := hfa.symm.trans (PySem.W.mg_of X G alaw)
  cases e
  have Fisin := fun_mk (st := topS 4) lisin cisin kisin
  have Fgcd := fun_mk (st := topS 5) lgcd cgcd kgcd
  have Fredu := fun_mk (st := topS 6) lredu credu kredu
  have Fmore := fun_mk (st := topS 8) lmore cmore kmore
  have Fscal := fun_mk (st := topS 9) lscal cscal kscal
  have Fdet := fun_mk (st := topS 10) ldet cdet kdet
  have Fprim := fun_mk (st := topS 11) lprim cprim kprim
  have Fisv := fun_mk (st := topS 12) lisv cisv kisv
  have Fcram := fun_mk (st := topS 13) lcram ccram kcram
  have Fboxp := fun_mk (st := topS 15) lboxp cboxp kboxp
  have Fneed := fun_mk (st := topS 19) lneed cneed kneed
  have Fwts := fun_mk (st := topS 20) lwts cwts kwts
  have Fkept := fun_mk (st := topS 21) lkept ckept kkept
  have Fboxo := fun_mk (st := topS 22) lboxo cboxo kboxo
  have Fspl := fun_mk (st := topS 25) lspl cspl kspl
  have Ffine := fun_mk (st := topS 26) lfine cfine kfine
  have Funi := fun_mk (st := topS 27) luni cuni kuni
  have Fgen := fun_mk (st := topS 28) lgen cgen kgen
  have Fltak := fun_mk (st := topS 30) lltak cltak kltak
  have Flsgn := fun_mk (st := topS 31) llsgn clsgn klsgn
  have Flgcd := fun_mk (st := topS 32) llgcd clgcd klgcd
  have Flsub := fun_mk (st := topS 33) llsub clsub klsub
  have Fldet := fun_mk (st := topS 34) lldet cldet kldet
  have Flmin := fun_mk (st := topS 35) llmin clmin klmin
  have Flcon := fun_mk (st := topS 36) llcon clcon klcon
  have Flpic := fun_mk (st := topS 37) llpic clpic klpic
  have Flisv := fun_mk (st := topS 38) llisv clisv klisv
  have Flisc := fun_mk (st := topS 39) llisc clisc klisc
  have Flbox := fun_mk (st := topS 40) llbox clbox klbox
  have Flmix := fun_mk (st := topS 41) llmix clmix klmix
  have Flinc := fun_mk (st := topS 42) llinc clinc klinc
  have Flaw := fun_mk (st := topS 43) llaw claw klaw
  have bisin := Fisin.binds (ps := ["value", "least", "most"]) fun _ _ _ _ _ _ us hl => match us, hl with | [_, _, _], _ => rfl
  have gisin := PySem.W.mg_of X G aisin
  have bgcd := Fgcd.binds (ps := ["one", "other"]) fun _ _ _ _ _ _ us hl => match us, hl with | [_, _], _ => rfl
  have ggcd := PySem.W.mg_of X G agcd
  have bredu := Fredu.binds (ps := ["numerator", "denominator"]) fun _ _ _ _ _ _ us hl => match us, hl with | [_, _], _ => rfl
  have gredu := PySem.W.mg_of X G aredu
  have bmore := Fmore.binds (ps := ["one", "other"]) fun _ _ _ _ _ _ us hl => match us, hl with | [_, _], _ => rfl
  have gmore := PySem.W.mg_of X G amore
  have bscal := Fscal.binds (ps := ["factor", "one"]) fun _ _ _ _ _ _ us hl => match us, hl with | [_, _], _ => rfl
  have gscal := PySem.W.mg_of X G ascal
  have bdet := Fdet.binds (ps := ["rows"]) fun _ _ _ _ _ _ us hl => match us, hl with | [_], _ => rfl
  have gdet := PySem.W.mg_of X G adet
  have bprim := Fprim.binds (ps := ["one"]) fun _ _ _ _ _ _ us hl => match us, hl with | [_], _ => rfl
  have gprim := PySem.W.mg_of X G aprim
  have bisv := Fisv.binds (ps := ["value", "size", "low", "high"]) fun _ _ _ _ _ _ us hl => match us, hl with | [_, _, _, _], _ => rfl
  have gisv := PySem.W.mg_of X G aisv
  have bcram := Fcram.binds (ps := ["rows", "right"]) fun _ _ _ _ _ _ us hl => match us, hl with | [_, _], _ => rfl
  have gcram := PySem.W.mg_of X G acram
  have bboxp := Fboxp.binds (ps := ["low", "high"]) fun _ _ _ _ _ _ us hl => match us, hl with | [_, _], _ => rfl
  have gboxp := PySem.W.mg_of X G aboxp
  have bneed := Fneed.binds (ps := ["cone"]) fun _ _ _ _ _ _ us hl => match us, hl with | [_], _ => rfl
  have gneed := PySem.W.mg_of X G aneed
  have bwts := Fwts.binds (ps := ["vectors", "way"]) fun _ _ _ _ _ _ us hl => match us, hl with | [_, _], _ => rfl
  have gwts := PySem.W.mg_of X G awts
  have bkept := Fkept.binds (ps := ["weight", "is_open"]) fun _ _ _ _ _ _ us hl => match us, hl with | [_, _], _ => rfl
  have gkept := PySem.W.mg_of X G akept
  have bboxo := Fboxo.binds (ps := ["cone"]) fun _ _ _ _ _ _ us hl => match us, hl with | [_], _ => rfl
  have gboxo := PySem.W.mg_of X G aboxo
  have bspl := Fspl.binds (ps := ["vectors", "way"]) fun _ _ _ _ _ _ us hl => match us, hl with | [_, _], _ => rfl
  have gspl := PySem.W.mg_of X G aspl
  have bfine := Ffine.binds (ps := ["vectors"]) fun _ _ _ _ _ _ us hl => match us, hl with | [_], _ => rfl
  have gfine := PySem.W.mg_of X G afine
  have buni := Funi.binds (ps := ["cone"]) fun _ _ _ _ _ _ us hl => match us, hl with | [_], _ => rfl
  have guni := PySem.W.mg_of X G auni
  have bgen := Fgen.binds (ps := ["vectors", "places", "parts"]) fun _ _ _ _ _ _ us hl => match us, hl with | [_, _, _], _ => rfl
  have ggen := PySem.W.mg_of X G agen
  have bltak := Fltak.binds (ps := ["_law_row", "_law_many"]) fun _ _ _ _ _ _ us hl => match us, hl with | [_, _], _ => rfl
  have gltak := PySem.W.mg_of X G altak
  have blsgn := Flsgn.binds (ps := ["_law_row", "_law_most"]) fun _ _ _ _ _ _ us hl => match us, hl with | [_, _], _ => rfl
  have glsgn := PySem.W.mg_of X G alsgn
  have blgcd := Flgcd.binds (ps := ["_law_one", "_law_other"]) fun _ _ _ _ _ _ us hl => match us, hl with | [_, _], _ => rfl
  have glgcd := PySem.W.mg_of X G algcd
  have blsub := Flsub.binds (ps := ["_law_many", "_law_size"]) fun _ _ _ _ _ _ us hl => match us, hl with | [_, _], _ => rfl
  have glsub := PySem.W.mg_of X G alsub
  have bldet := Fldet.binds (ps := ["_law_rows"]) fun _ _ _ _ _ _ us hl => match us, hl with | [_], _ => rfl
  have gldet := PySem.W.mg_of X G aldet
  have blmin := Flmin.binds (ps := ["_law_rows", "_law_size"]) fun _ _ _ _ _ _ us hl => match us, hl with | [_, _], _ => rfl
  have glmin := PySem.W.mg_of X G almin
  have blcon := Flcon.binds (ps := ["_law_row", "_law_far"]) fun _ _ _ _ _ _ us hl => match us, hl with | [_, _], _ => rfl
  have glcon := PySem.W.mg_of X G alcon
  have blpic := Flpic.binds (ps := ["_law_row", "_law_things"]) fun _ _ _ _ _ _ us hl => match us, hl with | [_, _], _ => rfl
  have glpic := PySem.W.mg_of X G alpic
  have blisv := Flisv.binds (ps := ["_law_value", "_law_size"]) fun _ _ _ _ _ _ us hl => match us, hl with | [_, _], _ => rfl
  have glisv := PySem.W.mg_of X G alisv
  have blisc := Flisc.binds (ps := ["_law_value", "_law_size"]) fun _ _ _ _ _ _ us hl => match us, hl with | [_, _], _ => rfl
  have glisc := PySem.W.mg_of X G alisc
  have blbox := Flbox.binds (ps := ["_law_points", "_law_n", "_law_more"]) fun _ _ _ _ _ _ us hl => match us, hl with | [_, _, _], _ => rfl
  have glbox := PySem.W.mg_of X G albox
  have blmix := Flmix.binds (ps := ["_law_vectors", "_law_way"]) fun _ _ _ _ _ _ us hl => match us, hl with | [_, _], _ => rfl
  have glmix := PySem.W.mg_of X G almix
  have blinc := Flinc.binds (ps := ["_law_cone_here", "_law_p"]) fun _ _ _ _ _ _ us hl => match us, hl with | [_, _], _ => rfl
  have glinc := PySem.W.mg_of X G alinc
  have gF := PySem.W.mg_of X G aF
  have gA := PySem.W.mg_of X G aA
  have gZ := PySem.W.mg_of X G aZ
  have misinstance := PySem.W.mg_none_of X G zisinstance
  have mint := PySem.W.mg_none_of X G zint
  have mbool := PySem.W.mg_none_of X G zbool
  have mabs := PySem.W.mg_none_of X G zabs
  have mtuple := PySem.W.mg_none_of X G ztuple
  have mlen := PySem.W.mg_none_of X G zlen
  have mrange := PySem.W.mg_none_of X G zrange
  have mzip := PySem.W.mg_none_of X G zzip
  have mlist := PySem.W.mg_none_of X G zlist
  have msorted := PySem.W.mg_none_of X G zsorted
  have mset := PySem.W.mg_none_of X G zset
  have msum := PySem.W.mg_none_of X G zsum
  have mmin := PySem.W.mg_none_of X G zmin
  have mmax := PySem.W.mg_none_of X G zmax
  have hZT : ∀ H, SqT K H pZ [.int 0, .int 1] := fun H => .inr ⟨oZ, iZ, nZ, lZ, cZ, dZ, sZ, vZ⟩
  refine ⟨PySem.W.fnOf "law" "law" (defArgs (topS 43)) (defBody (topS 43)) (defScope (topS 43)) .none kVlaw dclaw pmlaw anlaw cdlaw ctlaw, fun s v => .of_eq rfl, fun base _ _ => ?_⟩
  have Gisin := ok_is_in (P := l.prog) (w := w) (base := base) Fisin misinstance mint mbool
  have Ggcd := ok_gcd (P := l.prog) (w := w) (base := base) Fgcd mabs
  have Gredu := ok_reduced Fredu Ggcd ggcd kgcd bgcd
  have Gmore := ok_more (P := l.prog) (w := w) (base := base) Fmore mtuple mzip
  have Gscal := ok_scaled (P := l.prog) (w := w) (base := base) Fscal mtuple
  have Gdet := ok_det (P := l.prog) (w := w) (base := base) Fdet mlen mrange gdet bdet
  have Gprim := ok_prim Fprim Ggcd ggcd kgcd bgcd mtuple
  have Gisv := ok_isvec Fisv Gisin gisin kisin bisin misinstance mtuple mlen
  have Gcram := ok_cramer Fcram Gdet gdet kdet bdet Gredu gredu kredu bredu mtuple mlen mrange mzip
  have Gboxp := ok_boxp (P := l.prog) (w := w) (base := base) Fboxp mlen mrange
  have Gneed := ok_need Fneed Gisv gisv kisv bisv Gprim gprim kprim bprim Gdet gdet kdet bdet Gisin gisin kisin bisin gF gA misinstance mtuple mlen mlist msorted mset
  have Gwts := ok_wts Fwts Gcram gcram kcram bcram mtuple mlen mrange mlist
  have Gkept := ok_kept (P := l.prog) (w := w) (mg := mg) (base := base) Fkept
  have Gboxo := ok_boxof Fboxo Gwts gwts kwts bwts Gkept gkept kkept bkept Gboxp gboxp kboxp bboxp Gmore gmore kmore bmore mlen mrange msum mmin mmax msorted
  have Gspl := ok_split Fspl Gwts gwts kwts bwts mlen mrange mlist
  have Gfine := ok_fine mathF Ffine gfine bfine Gdet gdet kdet bdet Gboxo gboxo kboxo bboxo Gprim gprim kprim bprim Gspl gspl kspl bspl mlen mlist mtuple mabs msum msorted 200
  have Ggen := ok_gen Fgen Gwts gwts kwts bwts Gmore gmore kmore bmore Gscal gscal kscal bscal gZ hZT mlen mrange
  have Guni := ok_uni mathF mathU Funi Gwts gwts kwts bwts Gneed gneed kneed bneed Gfine gfine kfine bfine Ggen ggen kgen bgen mlen mrange mtuple
  have Gltak := ok_taken (P := l.prog) (w := w) (base := base) Fltak mint mlen
  have Glsgn := ok_sgn Flsgn Gltak gltak kltak bltak
  have Glgcd := ok_lgcd (P := l.prog) (w := w) (base := base) Flgcd mabs mint
  have Glsub := ok_sub (P := l.prog) (w := w) (base := base) Flsub mlen mrange msorted
  have Gldet := ok_ldet (P := l.prog) (w := w) (base := base) Fldet gldet bldet mlen mrange
  have Glmin := ok_min Flmin Glsub glsub klsub blsub Glgcd glgcd klgcd blgcd Gldet gldet kldet bldet mlen
  have Glcon := ok_cone Flcon Gltak gltak kltak bltak Glsgn glsgn klsgn blsgn Glgcd glgcd klgcd blgcd Glmin glmin klmin blmin mlen mrange mtuple mlist
  have Glpic := ok_pick Flpic Gltak gltak kltak bltak mlen
  have Glisv := ok_lv (P := l.prog) (w := w) (base := base) Flisv misinstance mtuple mint mbool mlen
  have Glisc := ok_lc Flisc Glisv glisv klisv blisv Glgcd glgcd klgcd blgcd Gldet gldet kldet bldet misinstance mtuple mlen mlist msorted mset
  have Glbox := ok_lb (P := l.prog) (w := w) (base := base) Flbox mlen mrange mmin mmax
  have Glmix := ok_mix Flmix Gldet gldet kldet bldet mlen mrange
  have Glinc := ok_inc Flinc Glmix glmix klmix blmix mlen mrange
  exact ok_law mathL Flaw Glcon glcon klcon blcon Glpic glpic klpic blpic Guni guni kuni buni Glisc glisc klisc blisc Gldet gldet kldet bldet Glbox glbox klbox blbox Glinc glinc klinc blinc misinstance mtuple mlen mlist mabs
end
theorem walk {l : PySem.W.OpenLaw} {q : Program} {loose : List Str} {XP : (Str → Option Value) → Heap → Prop} {YP : World → Heap → Prop} {d : DefRec} {K : Params → PySem.W.Frag} (hn : l.most = some 63) (hdf : d.params.defaults = [])
    (hY : ∀ (w : World) (h : Heap), YP w h → (K w.params).In h)
    (F : ∀ (w : World) (mg : Str → Option Value) (fa : Addr) (h : Heap), (K w.params).In h → h.Ns mainGlobals mg → mg d.name = some (.ref fa) →
      ∃ fd : FuncData, (∀ (s : Shared) (u : Value), BindsTo s fd ⟨[u], []⟩ [("_law_script", u)]) ∧ ∀ base : Heap, (K w.params).In base → base.Ns mainGlobals mg → FnOk l.prog w (K w.params) mg base CX0 208 fa fd ["_law_script"] (spLaw (K w.params))) :
    PySem.W.WalkO q loose XP YP l.row.toRowW d [] (fun f vs => PySem.call f vs) :=
  L2.walk_of (n := 63) (k := 208) (x := "_law_script") (CX := fun _ => CX0) (sp := fun w => spLaw (K w.params)) hn (by decide) hdf ⟨rfl, by decide, by decide⟩ hY F (fun _ _ a ns hl _ hS => ⟨a, ns, rfl, hS, hl, fun _ => rfl⟩) fun _ _ _ _ _ z => z
end Lp

open PySem PySem.W PyProof.Rows
set_option maxRecDepth 1000000 in
set_option maxHeartbeats 0 in
theorem PySem.Challenge.cw_latticepoints_k54_whole_unimodular_parts_holds : PySem.Challenge.rw_latticepoints_k54_whole_unimodular_parts.Holds := by
  w_on; o_law; k_head; (case hw => w_witness2)
  k_fill
  refine Lp.walk (l := PySem.Challenge.rw_latticepoints_k54_whole_unimodular_parts) rfl rfl (fun w h Y => PySem.W.kIn_of Y) ?F
  case F =>
    intro w mg fa h KX G hmg
    refine' Lp.all_mk KX G hmg ?aisin ?lisin ?cisin ?kisin ?agcd ?lgcd ?cgcd ?kgcd ?aredu ?lredu ?credu ?kredu ?amore ?lmore ?cmore ?kmore ?ascal ?lscal ?cscal ?kscal ?adet ?ldet ?cdet ?kdet ?aprim ?lprim ?cprim ?kprim ?aisv ?lisv ?cisv ?kisv ?acram ?lcram ?ccram ?kcram ?aboxp ?lboxp ?cboxp ?kboxp ?aneed ?lneed ?cneed ?kneed ?awts ?lwts ?cwts ?kwts ?akept ?lkept ?ckept ?kkept ?aboxo ?lboxo ?cboxo ?kboxo ?aspl ?lspl ?cspl ?kspl ?afine ?lfine ?cfine ?kfine ?auni ?luni ?cuni ?kuni ?agen ?lgen ?cgen ?kgen ?altak ?lltak ?cltak ?kltak ?alsgn ?llsgn ?clsgn ?klsgn ?algcd ?llgcd ?clgcd ?klgcd ?alsub ?llsub ?clsub ?klsub ?aldet ?lldet ?cldet ?kldet ?almin ?llmin ?clmin ?klmin ?alcon ?llcon ?clcon ?klcon ?alpic ?llpic ?clpic ?klpic ?alisv ?llisv ?clisv ?klisv ?alisc ?llisc ?clisc ?klisc ?albox ?llbox ?clbox ?klbox ?almix ?llmix ?clmix ?klmix ?alinc ?llinc ?clinc ?klinc ?alaw ?llaw ?claw ?klaw ?aF ?aA ?aZ ?lZ ?cZ ?dZ ?sZ ?vZ ?zisinstance ?zint ?zbool ?zabs ?ztuple ?zlen ?zrange ?zzip ?zlist ?zsorted ?zset ?zsum ?zmin ?zmax
    (case aisin => k_is); (case lisin => k_is); (case cisin => k_is); (case kisin => k_is)
    (case agcd => k_is); (case lgcd => k_is); (case cgcd => k_is); (case kgcd => k_is)
    (case aredu => k_is); (case lredu => k_is); (case credu => k_is); (case kredu => k_is)
    (case amore => k_is); (case lmore => k_is); (case cmore => k_is); (case kmore => k_is)
    (case ascal => k_is); (case lscal => k_is); (case cscal => k_is); (case kscal => k_is)
    (case adet => k_is); (case ldet => k_is); (case cdet => k_is); (case kdet => k_is)
    (case aprim => k_is); (case lprim => k_is); (case cprim => k_is); (case kprim => k_is)
    (case aisv => k_is); (case lisv => k_is); (case cisv => k_is); (case kisv => k_is)
    (case acram => k_is); (case lcram => k_is); (case ccram => k_is); (case kcram => k_is)
    (case aboxp => k_is); (case lboxp => k_is); (case cboxp => k_is); (case kboxp => k_is)
    (case aneed => k_is); (case lneed => k_is); (case cneed => k_is); (case kneed => k_is)
    (case awts => k_is); (case lwts => k_is); (case cwts => k_is); (case kwts => k_is)
    (case akept => k_is); (case lkept => k_is); (case ckept => k_is); (case kkept => k_is)
    (case aboxo => k_is); (case lboxo => k_is); (case cboxo => k_is); (case kboxo => k_is)
    (case aspl => k_is); (case lspl => k_is); (case cspl => k_is); (case kspl => k_is)
    (case afine => k_is); (case lfine => k_is); (case cfine => k_is); (case kfine => k_is)
    (case auni => k_is); (case luni => k_is); (case cuni => k_is); (case kuni => k_is)
    (case agen => k_is); (case lgen => k_is); (case cgen => k_is); (case kgen => k_is)
    (case altak => k_is); (case lltak => k_is); (case cltak => k_is); (case kltak => k_is)
    (case alsgn => k_is); (case llsgn => k_is); (case clsgn => k_is); (case klsgn => k_is)
    (case algcd => k_is); (case llgcd => k_is); (case clgcd => k_is); (case klgcd => k_is)
    (case alsub => k_is); (case llsub => k_is); (case clsub => k_is); (case klsub => k_is)
    (case aldet => k_is); (case lldet => k_is); (case cldet => k_is); (case kldet => k_is)
    (case almin => k_is); (case llmin => k_is); (case clmin => k_is); (case klmin => k_is)
    (case alcon => k_is); (case llcon => k_is); (case clcon => k_is); (case klcon => k_is)
    (case alpic => k_is); (case llpic => k_is); (case clpic => k_is); (case klpic => k_is)
    (case alisv => k_is); (case llisv => k_is); (case clisv => k_is); (case klisv => k_is)
    (case alisc => k_is); (case llisc => k_is); (case clisc => k_is); (case klisc => k_is)
    (case albox => k_is); (case llbox => k_is); (case clbox => k_is); (case klbox => k_is)
    (case almix => k_is); (case llmix => k_is); (case clmix => k_is); (case klmix => k_is)
    (case alinc => k_is); (case llinc => k_is); (case clinc => k_is); (case klinc => k_is)
    (case alaw => k_is); (case llaw => k_is); (case claw => k_is); (case klaw => k_is)
    (case aF => k_is); (case aA => k_is); (case aZ => k_is)
    (case lZ => k_is); (case cZ => rfl); (case dZ => rfl); (case sZ => decide); (case vZ => exact .cons ⟨_, rfl⟩ (.cons ⟨_, rfl⟩ .nil))
    (case zisinstance => k_is)
    (case zint => k_is)
    (case zbool => k_is)
    (case zabs => k_is)
    (case ztuple => k_is)
    (case zlen => k_is)
    (case zrange => k_is)
    (case zzip => k_is)
    (case zlist => k_is)
    (case zsorted => k_is)
    (case zset => k_is)
    (case zsum => k_is)
    (case zmin => k_is)
    (case zmax => k_is)
