import PyProof.Rows.All
import Wide.All
import OpenK.AllK
import Wide.FinOn
import HandS.ForMost
import HandS.ForExc
import HandS.Flow
import HandS.TupAny
import HandS.IsInst
import HandS.Small
import HandS.Deep
import HandS.Zip
import HandS.TryMany
import HandS.Defaults
import KE.LtData
import HandS.Style
import HandS.HeadEnd
import HandS.HeadHook2
import HandS.Head2
import PySem.Challenge.RW_copysheets_k00_main_lags_of_pieces_put_b
set_option Elab.async false
set_option linter.all false
set_option maxRecDepth 100000
set_option autoImplicit false
set_option maxHeartbeats 400000
/-! GLa: pure states, what reads as data, steps, the judgements by functions -/
namespace L2
open PySem PySem.Spec
section
variable {K : PySem.W.Frag} {H H' : Hp}
theorem same_sqt {a : Addr} {xs : List V} (e : Same H H') (h : SqT K H a xs) : SqT K H' a xs := by
  rcases h with (h | ⟨o, h⟩) | h
  · exact .inl (.inl (e _ _ h))
  · exact .inl (.inr ⟨o, e _ _ h⟩)
  · exact .inr h
mutual
theorem Dp.mono (e : Same H H') : ∀ {v : V} {d : PyData}, Dp K H v d → Dp K H' v d
  | _, _, .non => .non
  | _, _, .bl b => .bl b
  | _, _, .int i => .int i
  | _, _, .str x => .str x
  | _, _, .lst s a => .lst (e.seq s) (DpAll.mono e a)
  | _, _, .tup s a => .tup (same_sqt e s) (DpAll.mono e a)
theorem DpAll.mono (e : Same H H') : ∀ {vs : List V} {ds : List PyData}, DpAll K H vs ds → DpAll K H' vs ds
  | _, _, .nil => .nil
  | _, _, .cons h t => .cons (Dp.mono e h) (DpAll.mono e t)
end
theorem DpAll.length : ∀ {vs : List V} {ds : List PyData}, DpAll K H vs ds → vs.length = ds.length
  | _, _, .nil => rfl
  | _, _, .cons _ t => by simp [DpAll.length t]
theorem DpAll.get : ∀ {vs : List V} {ds : List PyData} {i : Nat} {d : PyData}, DpAll K H vs ds → ds[i]? = some d → ∃ v, vs[i]? = some v ∧ Dp K H v d
  | _, _, _, _, .nil, e => by simp at e
  | _, _, 0, _, .cons h _, e => by simp at e; subst e; exact ⟨_, rfl, h⟩
  | _, _, i + 1, d, .cons _ t, e => by
    obtain ⟨v, h1, h2⟩ := DpAll.get (i := i) (d := d) t (by simpa using e)
    exact ⟨v, by simpa using h1, h2⟩
theorem DpAll.getV : ∀ {vs : List V} {ds : List PyData} {i : Nat} {v : V}, DpAll K H vs ds → vs[i]? = some v → ∃ d, ds[i]? = some d ∧ Dp K H v d
  | _, _, _, _, .nil, e => by simp at e
  | _, _, 0, _, .cons h _, e => by simp at e; subst e; exact ⟨_, rfl, h⟩
  | _, _, i + 1, d, .cons _ t, e => by
    obtain ⟨v, h1, h2⟩ := DpAll.getV (i := i) (v := d) t (by simpa using e)
    exact ⟨v, by simpa using h1, h2⟩
theorem DpAll.append : ∀ {xs ys : List V} {ds es : List PyData}, DpAll K H xs ds → DpAll K H ys es → DpAll K H (xs ++ ys) (ds ++ es)
  | _, _, _, _, .nil, s => s
  | _, _, _, _, .cons r t, s => .cons r (DpAll.append t s)
theorem DpAll.take : ∀ {xs : List V} {ds : List PyData} (n : Nat), DpAll K H xs ds → DpAll K H (xs.take n) (ds.take n)
  | _, _, 0, _ => .nil
  | _, _, _ + 1, .nil => .nil
  | _, _, n + 1, .cons r t => .cons r (DpAll.take n t)
theorem DpAll.drop : ∀ {xs : List V} {ds : List PyData} (n : Nat), DpAll K H xs ds → DpAll K H (xs.drop n) (ds.drop n)
  | _, _, 0, r => r
  | _, _, _ + 1, .nil => .nil
  | _, _, n + 1, .cons _ t => DpAll.drop n t
theorem DpAll.set : ∀ {xs : List V} {ds : List PyData} (i : Nat) {v : V} {d : PyData}, Dp K H v d → DpAll K H xs ds → DpAll K H (xs.set i v) (ds.set i d)
  | _, _, _, _, _, _, .nil => .nil
  | _, _, 0, _, _, h, .cons _ t => .cons h t
  | _, _, i + 1, _, _, h, .cons q t => .cons q (DpAll.set i h t)
theorem DpAll.reverse {xs : List V} {ds : List PyData} (h : DpAll K H xs ds) : DpAll K H xs.reverse ds.reverse := by
  induction xs generalizing ds with
  | nil => cases h; exact .nil
  | cons x xs ih => cases h with | cons a b => rw [List.reverse_cons, List.reverse_cons]; exact (ih b).append (.cons a .nil)
theorem DpAll.dropLast {xs : List V} {ds : List PyData} (h : DpAll K H xs ds) : DpAll K H xs.dropLast ds.dropLast := by
  rw [List.dropLast_eq_take, List.dropLast_eq_take, ← h.length]; exact h.take _
theorem DpAll.eraseIdx : ∀ {xs : List V} {ds : List PyData} (i : Nat), DpAll K H xs ds → DpAll K H (xs.eraseIdx i) (ds.eraseIdx i)
  | _, _, _, .nil => .nil
  | _, _, 0, .cons _ t => t
  | _, _, i + 1, .cons h t => .cons h (DpAll.eraseIdx i t)
end
end L2
namespace GL
open PySem PySem.Spec L2
open PyProof.Rows hiding St

/-- what a slot holds: data that nobody changes, or a list that the slot alone holds -/
inductive PV where
  | val (d : PyData)
  | own (d : PyData)
abbrev PSt := List (Option PV)
structure Exn where
  cls : Str
  fld : Option (Str × PyData) := none
inductive Rs (α : Type) where
  | ok (a : α) (ps : PSt)
  | exc (x : Exn) (ps : PSt)
  | bad
def Rs.bind {α β : Type} (r : Rs α) (g : α → PSt → Rs β) : Rs β := match r with
  | .ok a ps => g a ps
  | .exc x ps => .exc x ps
  | .bad => .bad
def Rs.map {α β : Type} (r : Rs α) (g : α → β) : Rs β := match r with
  | .ok a ps => .ok (g a) ps
  | .exc x ps => .exc x ps
  | .bad => .bad
def opt {α : Type} (o : Option α) (ps : PSt) : Rs α := match o with
  | some a => .ok a ps
  | none => .bad
inductive Os where
  | nx (ps : PSt) | ret (v : PV) (ps : PSt) | brk (ps : PSt) | ct (ps : PSt) | exc (x : Exn) (ps : PSt) | bad

section
variable {K : PySem.W.Frag} {F F' H H' H'' : Hp}
theorem same_upd {p : Addr} {o : HO} (h : H p = none) : Same H (upd H p o) := fun b u e => by rw [upd_ne (ne_of_none e h)]; exact e

/-- an operation's end: what was stands, new data may have come -/
structure Gr (F H F' H' : Hp) : Prop where
  grow : Same F F'
  fresh : ∀ b o, F' b = some o → F b = some o ∨ H b = none
  keep : Same H H'
  le : Same F' H'
theorem Gr.refl (h : Same F H) : Gr F H F H := ⟨.refl _, fun _ _ e => .inl e, .refl _, h⟩
theorem Gr.new (h : Same F H) {p : Addr} {o : HO} (hp : H p = none) : Gr F H (upd F p o) (upd H p o) where
  grow := same_upd (h.free hp)
  fresh := fun b u e => by
    by_cases hb : b = p
    · exact .inr (hb ▸ hp)
    · rw [upd_ne hb] at e; exact .inl e
  keep := same_upd hp
  le := fun b u e => by
    by_cases hb : b = p
    · subst hb; rw [upd_same] at e ⊢; exact e
    · rw [upd_ne hb] at e ⊢; exact h b u e

/-! ### slots -/
def OwnAt (K : PySem.W.Frag) (F H : Hp) (a : Addr) (d : PyData) : Prop := F a = none ∧ ∃ xs ds, d = .list ds ∧ H a = some (.lst xs) ∧ DpAll K F xs ds
def SlotR (K : PySem.W.Frag) (F H : Hp) (x : Option V) : Option PV → Prop
  | none => True
  | some (.val d) => ∃ v, x = some v ∧ Dp K F v d
  | some (.own d) => ∃ a, x = some (.ref a) ∧ OwnAt K F H a d
def Owned (σ : St) (ps : PSt) (b : Addr) : Prop := ∃ (i : Nat) (d : PyData), ps[i]? = some (some (PV.own d)) ∧ σ[i]? = some (some (V.ref b))
structure SR (K : PySem.W.Frag) (Bo : Option Addr) (F H : Hp) (σ : St) (ps : PSt) : Prop where
  le : Same F H
  len : ps.length = σ.length
  sl : ∀ (i : Nat) x p, σ[i]? = some x → ps[i]? = some p → SlotR K F H x p
  apart : ∀ (i j : Nat) (a : Addr) (d e : PyData), ps[i]? = some (some (PV.own d)) → ps[j]? = some (some (PV.own e)) → σ[i]? = some (some (V.ref a)) → σ[j]? = some (some (V.ref a)) → i = j
  bo : ∀ a, Bo = some a → σ[0]? = some (some (V.ref a)) ∧ ∃ d, ps[0]? = some (some (PV.own d))
structure Step (F H : Hp) (σ : St) (ps : PSt) (F' H' : Hp) (σ' : St) (ps' : PSt) : Prop where
  grow : Same F F'
  fresh : ∀ b o, F' b = some o → F b = some o ∨ H b = none ∨ Owned σ ps b
  keep : ∀ b o, H b = some o → ¬ Owned σ ps b → H' b = some o
  own : ∀ b, Owned σ' ps' b → Owned σ ps b ∨ H b = none
end
section
variable {K : PySem.W.Frag} {Bo : Option Addr} {F F1 F2 H H1 H2 : Hp} {σ σ1 σ2 : St} {ps ps1 ps2 : PSt}
theorem Step.refl : Step F H σ ps F H σ ps := ⟨.refl _, fun _ _ e => .inl e, fun _ _ e _ => e, fun _ h => .inl h⟩
theorem Step.trans (a : Step F H σ ps F1 H1 σ1 ps1) (b : Step F1 H1 σ1 ps1 F2 H2 σ2 ps2) : Step F H σ ps F2 H2 σ2 ps2 := by
  have gone : ∀ b, H1 b = none → H b = none ∨ Owned σ ps b := fun b e => by
    by_cases ho : Owned σ ps b
    · exact .inr ho
    · refine .inl ?_
      cases q : H b with
      | none => rfl
      | some o => have := a.keep b o q ho; rw [e] at this; cases this
  refine ⟨a.grow.trans b.grow, fun c o e => ?_, fun c o e n => ?_, fun c h => ?_⟩
  · rcases b.fresh c o e with q | q | q
    · exact a.fresh c o q
    · exact .inr (gone c q)
    · rcases a.own c q with z | z
      · exact .inr (.inr z)
      · exact .inr (.inl z)
  · refine b.keep c o (a.keep c o e n) fun z => ?_
    rcases a.own c z with y | y
    · exact n y
    · rw [e] at y; cases y
  · rcases b.own c h with z | z
    · exact a.own c z
    · exact (gone c z).symm
theorem Step.of_gr (g : Gr F H F1 H1) : Step F H σ ps F1 H1 σ ps :=
  ⟨g.grow, fun b o e => (g.fresh b o e).elim .inl fun z => .inr (.inl z), fun b o e _ => g.keep b o e, fun _ h => .inl h⟩
theorem OwnAt.gr {a : Addr} {d : PyData} (g : Gr F H F1 H1) (h : OwnAt K F H a d) : OwnAt K F1 H1 a d := by
  obtain ⟨n, xs, ds, e, h1, h2⟩ := h
  refine ⟨?_, xs, ds, e, g.keep _ _ h1, h2.mono g.grow⟩
  cases q : F1 a with
  | none => rfl
  | some o =>
    rcases g.fresh a o q with z | z
    · rw [n] at z; cases z
    · rw [h1] at z; cases z
theorem SR.gr (s : SR K Bo F H σ ps) (g : Gr F H F1 H1) : SR K Bo F1 H1 σ ps := by
  refine ⟨g.le, s.len, fun i x p e1 e2 => ?_, s.apart, s.bo⟩
  have q := s.sl i x p e1 e2
  match p, q with
  | none, _ => trivial
  | some (.val d), ⟨v, e, h⟩ => exact ⟨v, e, h.mono g.grow⟩
  | some (.own d), ⟨a, e, h⟩ => exact ⟨a, e, h.gr g⟩
theorem SR.at (s : SR K Bo F H σ ps) {i : Nat} {p : Option PV} (e : ps[i]? = some p) : ∃ x, σ[i]? = some x ∧ SlotR K F H x p := by
  have hi : i < σ.length := by rw [← s.len]; exact (List.getElem?_eq_some_iff.mp e).1
  exact ⟨σ[i], by simp [hi], s.sl i _ p (by simp [hi]) e⟩
theorem SR.val (s : SR K Bo F H σ ps) {i : Nat} {d : PyData} (e : ps[i]? = some (some (.val d))) : ∃ v, σ[i]? = some (some v) ∧ Dp K F v d := by
  obtain ⟨x, h1, v, rfl, h2⟩ := s.at e
  exact ⟨v, h1, h2⟩
theorem SR.own (s : SR K Bo F H σ ps) {i : Nat} {d : PyData} (e : ps[i]? = some (some (.own d))) : ∃ a, σ[i]? = some (some (.ref a)) ∧ OwnAt K F H a d := by
  obtain ⟨x, h1, v, rfl, h2⟩ := s.at e
  exact ⟨v, h1, h2⟩
theorem SR.unowned (s : SR K Bo F H σ ps) {b : Addr} {o : HO} (e : F b = some o) : ¬ Owned σ ps b := by
  rintro ⟨i, d, h1, h2⟩
  obtain ⟨a, h3, h4, _⟩ := s.own h1
  rw [h2] at h3; cases h3
  rw [e] at h4; cases h4

/-- a slot (not the lent one) gets new data, or is forgotten -/
theorem owned_set {i : Nat} {x : Option V} {p : Option PV} (hp : ∀ d, p ≠ some (.own d)) {b : Addr} (h : Owned (σ.set i x) (ps.set i p) b) : Owned σ ps b := by
  obtain ⟨j, d, h1, h2⟩ := h
  by_cases hj : i = j
  · subst hj
    by_cases hl : i < ps.length
    · rw [List.getElem?_set_self hl] at h1; exact absurd (Option.some.inj h1) (hp d)
    · rw [List.getElem?_eq_none (by simpa using hl)] at h1; cases h1
  · rw [List.getElem?_set_ne hj] at h1 h2
    exact ⟨j, d, h1, h2⟩
theorem SR.setV (s : SR K Bo F H σ ps) {i : Nat} {v : V} {d : PyData} (hb : Bo = none ∨ i ≠ 0) (h : Dp K F v d) : SR K Bo F H (σ.set i (some v)) (ps.set i (some (.val d))) := by
  refine ⟨s.le, by simp [s.len], fun j x p e1 e2 => ?_, fun j k a d e h1 h2 h3 h4 => ?_, fun a e => ?_⟩
  · by_cases hj : i = j
    · subst hj
      have l1 : i < σ.length := by have := (List.getElem?_eq_some_iff.mp e1).1; simpa using this
      have l2 : i < ps.length := by rw [s.len]; exact l1
      rw [List.getElem?_set_self l1] at e1
      rw [List.getElem?_set_self l2] at e2
      cases e1; cases e2
      exact ⟨v, rfl, h⟩
    · rw [List.getElem?_set_ne hj] at e1 e2
      exact s.sl j x p e1 e2
  · have f : ∀ {j : Nat} {d : PyData}, (ps.set i (some (.val d)))[j]? = some (some (.own e)) → True := fun _ => trivial
    have ne : ∀ {j : Nat} {d' d'' : PyData}, (ps.set i (some (.val d'')))[j]? = some (some (.own d')) → i ≠ j := fun {j d' d''} q z => by
      subst z
      by_cases hl : i < ps.length
      · rw [List.getElem?_set_self hl] at q; cases q
      · rw [List.getElem?_eq_none (by simpa using hl)] at q; cases q
    have n1 := ne h1
    have n2 := ne h2
    rw [List.getElem?_set_ne n1] at h1 h3
    rw [List.getElem?_set_ne n2] at h2 h4
    exact s.apart j k a _ _ h1 h2 h3 h4
  · obtain ⟨h1, d', h2⟩ := s.bo a e
    have n : i ≠ 0 := hb.resolve_left (by rw [e]; simp)
    exact ⟨by rw [List.getElem?_set_ne n]; exact h1, d', by rw [List.getElem?_set_ne n]; exact h2⟩
theorem Step.setV {i : Nat} {v : V} {d : PyData} : Step F H σ ps F H (σ.set i (some v)) (ps.set i (some (.val d))) :=
  ⟨.refl _, fun _ _ e => .inl e, fun _ _ e _ => e, fun _ h => .inl (owned_set (fun _ q => by cases q) h)⟩
/-- a slot is forgotten by the pure state -/
theorem owned_kill {i : Nat} {b : Addr} (h : Owned σ (ps.set i none) b) : Owned σ ps b := by
  obtain ⟨j, d, h1, h2⟩ := h
  by_cases hj : i = j
  · subst hj
    by_cases hl : i < ps.length
    · rw [List.getElem?_set_self hl] at h1; cases h1
    · rw [List.getElem?_eq_none (by simpa using hl)] at h1; cases h1
  · rw [List.getElem?_set_ne hj] at h1
    exact ⟨j, d, h1, h2⟩
theorem SR.kill (s : SR K Bo F H σ ps) {i : Nat} (hb : Bo = none ∨ i ≠ 0) : SR K Bo F H σ (ps.set i none) := by
  have un : ∀ {j : Nat} {p : PV}, (ps.set i none)[j]? = some (some p) → ps[j]? = some (some p) := fun {j p} q => by
    by_cases hj : i = j
    · subst hj
      by_cases hl : i < ps.length
      · rw [List.getElem?_set_self hl] at q; cases q
      · rw [List.getElem?_eq_none (by simpa using hl)] at q; cases q
    · rw [List.getElem?_set_ne hj] at q; exact q
  refine ⟨s.le, by simp [s.len], fun j x p e1 e2 => ?_, fun j k a d e h1 h2 => s.apart j k a d e (un h1) (un h2), fun a e => ?_⟩
  · cases p with
    | none => trivial
    | some p => exact s.sl j x _ e1 (un e2)
  · obtain ⟨h1, d', h2⟩ := s.bo a e
    have n : i ≠ 0 := hb.resolve_left (by rw [e]; simp)
    exact ⟨h1, d', by rw [List.getElem?_set_ne n]; exact h2⟩
theorem Step.kill {i : Nat} : Step F H σ ps F H σ (ps.set i none) := ⟨.refl _, fun _ _ e => .inl e, fun _ _ e _ => e, fun _ h => .inl (owned_kill h)⟩
/-- the list of a slot is given out for good: nobody changes it any more -/
theorem SR.freeze (s : SR K Bo F H σ ps) {i : Nat} {ds : List PyData} (hb : Bo = none ∨ i ≠ 0) (e : ps[i]? = some (some (.own (.list ds)))) : ∃ a xs, σ[i]? = some (some (.ref a)) ∧ H a = some (.lst xs) ∧
    SR K Bo (upd F a (.lst xs)) H σ (ps.set i (some (.val (.list ds)))) ∧ Step F H σ ps (upd F a (.lst xs)) H σ (ps.set i (some (.val (.list ds)))) ∧ Dp K (upd F a (.lst xs)) (.ref a) (.list ds) := by
  obtain ⟨a, h1, hn, xs, ds', e', h2, h3⟩ := s.own e
  cases e'
  have g : Same F (upd F a (.lst xs)) := same_upd hn
  have dp : Dp K (upd F a (.lst xs)) (.ref a) (.list ds) := .lst (SqL.of upd_same) (h3.mono g)
  have hi : i < ps.length := (List.getElem?_eq_some_iff.mp e).1
  refine ⟨a, xs, h1, h2, ⟨fun b o q => ?_, by simp [s.len], fun j x p e1 e2 => ?_, fun j k c d d2 q1 q2 q3 q4 => ?_, fun c e => ?_⟩, ⟨g, fun b o q => ?_, fun _ _ q _ => q, fun b q => ?_⟩, dp⟩
  · by_cases hb : b = a
    · subst hb; rw [upd_same] at q; cases q; exact h2
    · rw [upd_ne hb] at q; exact s.le b o q
  · by_cases hj : i = j
    · subst hj
      rw [List.getElem?_set_self hi] at e2; cases e2
      rw [h1] at e1; cases e1
      exact ⟨_, rfl, dp⟩
    · rw [List.getElem?_set_ne hj] at e2
      have q := s.sl j x p e1 e2
      match p, q with
      | none, _ => trivial
      | some (.val d), ⟨v, z, h⟩ => exact ⟨v, z, h.mono g⟩
      | some (.own d), ⟨c, z, n, ys, es, r1, r2, r3⟩ =>
        refine ⟨c, z, ?_, ys, es, r1, r2, r3.mono g⟩
        have : c ≠ a := fun w => by
          subst w; subst z
          exact hj (s.apart i j c _ _ e e2 h1 e1)
        rw [upd_ne this]; exact n
  · have ne : ∀ {j : Nat} {d' : PyData}, (ps.set i (some (.val (.list ds))))[j]? = some (some (.own d')) → i ≠ j := fun {j d'} q z => by
      subst z
      rw [List.getElem?_set_self hi] at q; cases q
    have n1 := ne q1
    have n2 := ne q2
    rw [List.getElem?_set_ne n1] at q1
    rw [List.getElem?_set_ne n2] at q2
    exact s.apart j k c _ _ q1 q2 q3 q4
  · obtain ⟨r1, d', r2⟩ := s.bo c e
    have n : i ≠ 0 := hb.resolve_left (by rw [e]; simp)
    exact ⟨r1, d', by rw [List.getElem?_set_ne n]; exact r2⟩
  · by_cases hb : b = a
    · subst hb; exact .inr (.inr ⟨i, _, e, h1⟩)
    · rw [upd_ne hb] at q; exact .inl q
  · obtain ⟨j, d, q1, q2⟩ := q
    by_cases hj : i = j
    · subst hj; rw [List.getElem?_set_self hi] at q1; cases q1
    · rw [List.getElem?_set_ne hj] at q1; exact .inl ⟨j, d, q1, q2⟩
end
end GL

/-! GLb: the judgements by functions; expressions -/
namespace GL
open PySem PySem.Spec L2
open PyProof.Rows hiding St

/-- how an exception of the pure world lies in the heap -/
def ExR (K : PySem.W.Frag) (mg : Str → Option Value) (x : Exn) (cls : Value) (dd : Option Addr) (F H : Hp) : Prop :=
  ∃ C, mg x.cls = some (.ref C) ∧ cls = .ref C ∧ match x.fld with
    | none => dd = none
    | some (n, d) => ∃ a v, dd = some a ∧ H a = some (.xd [(n, v)]) ∧ Dp K F v d

abbrev RT (β α : Type) := St → Hp → Hp → PSt → Hp → Hp → PSt → β → α → Prop
def Rebase {β α : Type} (R : RT β α) : Prop := ∀ σ F H ps F1 H1 ps1 F' H' ps' v a, Step F H σ ps F1 H1 σ ps1 → R σ F1 H1 ps1 F' H' ps' v a → R σ F H ps F' H' ps' v a
def Goal {β α : Type} (K : PySem.W.Frag) (mg : Str → Option Value) (Bo : Option Addr) (W : WX) (R : RT β α) (r : Rs α) (F H : Hp) (σ : St) (ps : PSt) (Q : β → Hp → Prop) : Prop := match r with
  | .ok d ps' => ∀ v F' H', Step F H σ ps F' H' σ ps' → SR K Bo F' H' σ ps' → R σ F H ps F' H' ps' v d → Q v H'
  | .exc x ps' => ∀ cls dd F' H', Step F H σ ps F' H' σ ps' → SR K Bo F' H' σ ps' → ExR K mg x cls dd F' H' → W cls dd σ H'
  | .bad => False
def tR {β α : Type} (K : PySem.W.Frag) (mg : Str → Option Value) (Bo : Option Addr) (W : WX) (R : RT β α) (f : PSt → Rs α) : St → Hp → (β → Hp → Prop) → Prop :=
  fun σ H Q => ∃ F ps, SR K Bo F H σ ps ∧ Goal K mg Bo W R (f ps) F H σ ps Q
def RV (K : PySem.W.Frag) : RT V PyData := fun _ _ _ _ F' _ _ v d => Dp K F' v d
def RA (K : PySem.W.Frag) : RT (List V) (List PyData) := fun _ _ _ _ F' _ _ v d => DpAll K F' v d
def RB : RT Bool Bool := fun _ _ _ _ _ _ _ b c => b = c
def RO (K : PySem.W.Frag) : RT V PV := fun σ F H ps F' H' ps' v p => match p with
  | .val d => Dp K F' v d
  | .own d => ∃ a, v = .ref a ∧ OwnAt K F' H' a d ∧ ¬ Owned σ ps' a ∧ (Owned σ ps a ∨ H a = none)
theorem RV.rb {K : PySem.W.Frag} : Rebase (RV K) := fun _ _ _ _ _ _ _ _ _ _ _ _ _ h => h
theorem RA.rb {K : PySem.W.Frag} : Rebase (RA K) := fun _ _ _ _ _ _ _ _ _ _ _ _ _ h => h
theorem RB.rb : Rebase RB := fun _ _ _ _ _ _ _ _ _ _ _ _ _ h => h
theorem Step.new {F H F1 H1 : Hp} {σ σ1 : St} {ps ps1 : PSt} (s : Step F H σ ps F1 H1 σ1 ps1) {a : Addr} (h : Owned σ1 ps1 a ∨ H1 a = none) : Owned σ ps a ∨ H a = none := by
  rcases h with h | h
  · exact s.own a h
  · by_cases ho : Owned σ ps a
    · exact .inl ho
    · refine .inr ?_
      cases q : H a with
      | none => rfl
      | some o => have := s.keep a o q ho; rw [h] at this; cases this
theorem RO.rb {K : PySem.W.Frag} : Rebase (RO K) := fun σ F H ps F1 H1 ps1 F' H' ps' v p st h => by
  match p, h with
  | .val d, h => exact h
  | .own d, ⟨a, h1, h2, h3, h4⟩ => exact ⟨a, h1, h2, h3, st.new h4⟩

section
variable {K : PySem.W.Frag} {mg : Str → Option Value} {Bo : Option Addr} {W : WX} {F H F1 H1 : Hp} {σ : St} {ps ps1 : PSt}
theorem Goal.rebase {β α : Type} {R : RT β α} (hR : Rebase R) {r : Rs α} {Q : β → Hp → Prop} (h : Goal K mg Bo W R r F H σ ps Q) (st : Step F H σ ps F1 H1 σ ps1) : Goal K mg Bo W R r F1 H1 σ ps1 Q := by
  cases r with
  | ok d ps' => exact fun v F' H' s2 sr hv => h v F' H' (st.trans s2) sr (hR _ _ _ _ _ _ _ _ _ _ _ _ st hv)
  | exc x ps' => exact fun cls dd F' H' s2 sr hv => h cls dd F' H' (st.trans s2) sr hv
  | bad => exact h
/-- first f1, then what g makes of it -/
theorem go_bind {β α γ δ : Type} {R1 : RT β α} {R2 : RT γ δ} (hR : Rebase R2) {f1 : PSt → Rs α} {g : α → PSt → Rs δ} {Q : γ → Hp → Prop} {K1 : β → Hp → Prop} (sr : SR K Bo F H σ ps) (h : Goal K mg Bo W R2 ((f1 ps).bind g) F H σ ps Q)
    (k : ∀ v a F1 H1 ps1, SR K Bo F1 H1 σ ps1 → Step F H σ ps F1 H1 σ ps1 → R1 σ F H ps F1 H1 ps1 v a → Goal K mg Bo W R2 (g a ps1) F1 H1 σ ps1 Q → K1 v H1) : tR K mg Bo W R1 f1 σ H K1 := by
  refine ⟨F, ps, sr, ?_⟩
  cases e : f1 ps with
  | ok a ps1 =>
    rw [e] at h
    exact fun v F1 H1 st s1 hv => k v a F1 H1 ps1 s1 st hv (Goal.rebase hR h st)
  | exc x ps1 => rw [e] at h; exact h
  | bad => rw [e] at h; exact h
theorem tR_bind {β α γ δ : Type} {R1 : RT β α} {R2 : RT γ δ} (hR : Rebase R2) {f1 : PSt → Rs α} {g : α → PSt → Rs δ} {Q : γ → Hp → Prop} {K1 : β → Hp → Prop} (h : tR K mg Bo W R2 (fun ps => (f1 ps).bind g) σ H Q)
    (k : ∀ v a F F1 H1 ps ps1, SR K Bo F1 H1 σ ps1 → Step F H σ ps F1 H1 σ ps1 → R1 σ F H ps F1 H1 ps1 v a → Goal K mg Bo W R2 (g a ps1) F1 H1 σ ps1 Q → K1 v H1) : tR K mg Bo W R1 f1 σ H K1 := by
  obtain ⟨F, ps, sr, h⟩ := h
  exact go_bind hR sr h fun v a F1 H1 ps1 => k v a F F1 H1 ps ps1
/-- an operation at the end -/
theorem go_end {Q : V → Hp → Prop} {o : Option PyData} (sr : SR K Bo F H σ ps) (h : Goal K mg Bo W (RV K) (opt o ps) F H σ ps Q) : ∃ d, o = some d ∧ ∀ v F' H', Gr F H F' H' → Dp K F' v d → Q v H' := by
  cases o with
  | none => exact h.elim
  | some d => exact ⟨d, rfl, fun v F' H' g hv => h v F' H' (Step.of_gr g) (sr.gr g) hv⟩
end

end GL
namespace L2
open PySem PySem.Spec
theorem PE.imp {X : Cx} {e : Expr} {t t' : TE} (h : PE X e t) (i : ∀ σ H Q, t' σ H Q → t σ H Q) : PE X e t' := ⟨fun pins s σ H Q I q => h.run pins s σ H Q I (i _ _ _ q)⟩
theorem PT.imp {X : Cx} {e : Expr} {t t' : TT} (h : PT X e t) (i : ∀ σ H Q, t' σ H Q → t σ H Q) : PT X e t' := ⟨fun pins s σ H Q I q => h.run pins s σ H Q I (i _ _ _ q)⟩
theorem PW.imp {X : Cx} {e : Expr} {t t' : TT} (h : PW X e t) (i : ∀ σ H Q, t' σ H Q → t σ H Q) : PW X e t' := ⟨fun wh pins s σ H Q I q => h.run wh pins s σ H Q I (i _ _ _ q)⟩
theorem PA.imp {X : Cx} {e : List Expr} {t t' : TA} (h : PA X e t) (i : ∀ σ H Q, t' σ H Q → t σ H Q) : PA X e t' := ⟨fun pos pins s σ H Q I q => h.run pos pins s σ H Q I (i _ _ _ q)⟩
theorem PS.imp {X : Cx} {e : Stmt} {t t' : TS} (h : PS X e t) (i : ∀ D σ H, t' D σ H → t D σ H) : PS X e t' := ⟨fun pins s σ H D I q => h.run pins s σ H D I (i _ _ _ q)⟩
theorem PSs.imp {X : Cx} {e : List Stmt} {t t' : TS} (h : PSs X e t) (i : ∀ D σ H, t' D σ H → t D σ H) : PSs X e t' := ⟨fun pins s σ H D I q => h.run pins s σ H D I (i _ _ _ q)⟩

end L2
namespace GL
open PySem PySem.Spec L2
open PyProof.Rows hiding St
/-! ### the judgements -/
def GV (X : Cx) (Bo : Option Addr) (W : WX) (e : Expr) (f : PSt → Rs PyData) : Prop := PE X e (tR X.K X.mg Bo W (RV X.K) f)
def GO (X : Cx) (Bo : Option Addr) (W : WX) (e : Expr) (f : PSt → Rs PV) : Prop := PE X e (tR X.K X.mg Bo W (RO X.K) f)
def GA (X : Cx) (Bo : Option Addr) (W : WX) (es : List Expr) (f : PSt → Rs (List PyData)) : Prop := PA X es (tR X.K X.mg Bo W (RA X.K) f)
def GT (X : Cx) (Bo : Option Addr) (W : WX) (e : Expr) (f : PSt → Rs Bool) : Prop := PT X e (tR X.K X.mg Bo W RB f)
def GW (X : Cx) (Bo : Option Addr) (W : WX) (e : Expr) (f : PSt → Rs Bool) : Prop := PW X e (tR X.K X.mg Bo W RB f)

def PV.data : PV → PyData
  | .val d => d
  | .own d => d
section
variable {X : Cx} {Bo : Option Addr} {W : WX} {e e1 e2 e3 : Expr} {es : List Expr} {f f1 f2 f3 : PSt → Rs PyData} {fa : PSt → Rs (List PyData)} {fo : PSt → Rs PV} {c1 c2 : PSt → Rs Bool} {pos : Pos}

theorem freeze1 {K : PySem.W.Frag} {F H : Hp} {σ : St} {ps : PSt} {a : Addr} {ds : List PyData} {xs : List V} (s : SR K Bo F H σ ps) (hn : F a = none) (h2 : H a = some (.lst xs)) (h3 : DpAll K F xs ds) (no : ¬ Owned σ ps a) :
    SR K Bo (upd F a (.lst xs)) H σ ps ∧ Dp K (upd F a (.lst xs)) (.ref a) (.list ds) := by
  have g : Same F (upd F a (.lst xs)) := same_upd hn
  refine ⟨⟨fun b o q => ?_, s.len, fun j x p e1 e2 => ?_, s.apart, s.bo⟩, .lst (SqL.of upd_same) (h3.mono g)⟩
  · by_cases hb : b = a
    · subst hb; rw [upd_same] at q; cases q; exact h2
    · rw [upd_ne hb] at q; exact s.le b o q
  · have q := s.sl j x p e1 e2
    match p, q with
    | none, _ => trivial
    | some (.val d), ⟨v, z, h⟩ => exact ⟨v, z, h.mono g⟩
    | some (.own d), ⟨c, z, n, ys, es, r1, r2, r3⟩ =>
      refine ⟨c, z, ?_, ys, es, r1, r2, r3.mono g⟩
      have : c ≠ a := fun w => by
        subst w; subst z
        exact no ⟨j, d, e2, e1⟩
      rw [upd_ne this]; exact n

/-- a value that one alone holds is given out -/
theorem gv_of (h : GO X Bo W e fo) : GV X Bo W e (fun ps => (fo ps).map PV.data) := by
  refine h.imp fun σ H Q ⟨F, ps, sr, q⟩ => ⟨F, ps, sr, ?_⟩
  dsimp only at q
  cases e : fo ps with
  | bad => rw [e] at q; exact q
  | exc x ps' => rw [e] at q; exact q
  | ok p ps' =>
    rw [e] at q
    intro v F' H' st sr' hv
    match p, hv with
    | .val d, hv => exact q v F' H' st sr' hv
    | .own d, hv =>
      obtain ⟨a, rfl, ⟨hn, xs, ds, ed, h2, h3⟩, no, nw⟩ := hv
      obtain ⟨s2, dp⟩ := freeze1 sr' hn h2 h3 no
      refine q (.ref a) (upd F' a (.lst xs)) H' ⟨st.grow.trans (same_upd hn), fun b o z => ?_, st.keep, st.own⟩ s2 (by cases ed; exact dp)
      by_cases hb : b = a
      · subst hb; exact .inr nw.symm
      · rw [upd_ne hb] at z; exact st.fresh b o z
theorem go_of (h : GV X Bo W e f) : GO X Bo W e (fun ps => (f ps).map PV.val) := by
  refine h.imp fun σ H Q ⟨F, ps, sr, q⟩ => ⟨F, ps, sr, ?_⟩
  dsimp only at q
  cases e : f ps with
  | bad => rw [e] at q; exact q
  | exc x ps' => rw [e] at q; exact q
  | ok d ps' => rw [e] at q; exact q

/-! ### constants, names -/
def fK (d : PyData) : PSt → Rs PyData := fun ps => .ok d ps
theorem gv_const {v : V} {d : PyData} (h : PE X e (tC v)) (hd : ∀ F, Dp X.K F v d) : GV X Bo W e (fK d) :=
  h.imp fun σ H Q ⟨F, ps, sr, q⟩ => q v F H .refl sr (hd F)
theorem gv_int {i j pos} : GV X Bo W (.Constant (.int i) j pos) (fK (.int i)) := gv_const pe_int fun _ => .int i
theorem gv_bl {b j pos} : GV X Bo W (.Constant (.bool b) j pos) (fK (.bool b)) := gv_const pe_bl fun _ => .bl b
theorem gv_non {j pos} : GV X Bo W (.Constant .none j pos) (fK .none) := gv_const pe_non fun _ => .non
theorem gv_str {x j pos} : GV X Bo W (.Constant (.str x) j pos) (fK (.str x)) := gv_const pe_str fun _ => .str x
/-- a module's constant that is a number -/
theorem gv_gint {x : Str} {i : Int} {t : Tok} (hg : Gl X x) (hm : X.mg x = some (.int i t)) (hd : (x == ("__debug__" : Str)) = false := by decide) : GV X Bo W (.Name x pos) (fK (.int i)) := gv_const (pe_glob (v := .int i) hg hm ⟨t, rfl⟩ hd) fun _ => .int i
/-- a name: a list that its slot alone held is given out by this -/
def fN (i : Nat) : PSt → Rs PyData := fun ps => match ps[i]? with
  | some (some (.val d)) => .ok d ps
  | some (some (.own (.list ds))) => .ok (.list ds) (ps.set i (some (.val (.list ds))))
  | _ => .bad
theorem gv_name (i : Nat) {x : Str} {pos : Pos} (hb : Bo = none ∨ i ≠ 0 := by first | exact .inl rfl | exact .inr (by decide)) (hN : X.N[i]? = some x := by rfl) (hv : Vis X.env.scope x := by first | exact Or.inl rfl | exact Or.inr (Or.inl rfl) | exact Or.inr (Or.inr rfl)) (hd : (x == ("__debug__" : Str)) = false := by decide)
    (hcd : (x == ("__classdict__" : Str)) = false := by decide) : GV X Bo W (.Name x pos) (fN i) := by
  refine (pe_var hN hv hd hcd).imp fun σ H Q ⟨F, ps, sr, q⟩ => ?_
  unfold fN at q
  match e : ps[i]?, q with
  | some (some (.val d)), q =>
    obtain ⟨v, h1, h2⟩ := sr.val e
    exact ⟨v, h1, q v F H .refl sr h2⟩
  | some (some (.own (.list ds))), q =>
    obtain ⟨a, xs, h1, h2, s2, st, dp⟩ := sr.freeze hb e
    exact ⟨.ref a, h1, q (.ref a) _ H st s2 dp⟩
  | none, q => exact q.elim
  | some none, q => exact q.elim
  | some (some (.own .none)), q => exact q.elim
  | some (some (.own (.bool _))), q => exact q.elim
  | some (some (.own (.int _))), q => exact q.elim
  | some (some (.own (.str _))), q => exact q.elim
  | some (some (.own (.tuple _))), q => exact q.elim
  | some (some (.own (.dict _))), q => exact q.elim
/-- a name whose slot gives up what it holds -/
def fMv (i : Nat) : PSt → Rs PV := fun ps => match ps[i]? with
  | some (some p) => .ok p (ps.set i none)
  | _ => .bad
theorem go_move (i : Nat) {x : Str} {pos : Pos} (hb : Bo = none ∨ i ≠ 0 := by first | exact .inl rfl | exact .inr (by decide)) (hN : X.N[i]? = some x := by rfl) (hv : Vis X.env.scope x := by first | exact Or.inl rfl | exact Or.inr (Or.inl rfl) | exact Or.inr (Or.inr rfl)) (hd : (x == ("__debug__" : Str)) = false := by decide)
    (hcd : (x == ("__classdict__" : Str)) = false := by decide) : GO X Bo W (.Name x pos) (fMv i) := by
  refine (pe_var hN hv hd hcd).imp fun σ H Q ⟨F, ps, sr, q⟩ => ?_
  unfold fMv at q
  match e : ps[i]?, q with
  | some (some (.val d)), q =>
    obtain ⟨v, h1, h2⟩ := sr.val e
    exact ⟨v, h1, q v F H .kill (sr.kill hb) h2⟩
  | some (some (.own d)), q =>
    obtain ⟨a, h1, h2⟩ := sr.own e
    have hi : i < ps.length := (List.getElem?_eq_some_iff.mp e).1
    refine ⟨.ref a, h1, q (.ref a) F H .kill (sr.kill hb) ⟨a, rfl, h2, ?_, .inl ⟨i, d, e, h1⟩⟩⟩
    rintro ⟨j, d', q1, q2⟩
    by_cases hj : i = j
    · subst hj; rw [List.getElem?_set_self hi] at q1; cases q1
    · rw [List.getElem?_set_ne hj] at q1
      exact hj (sr.apart i j a _ _ e q1 h1 q2)
  | none, q => exact q.elim
  | some none, q => exact q.elim
/-- what a slot holds, only looked at -/
def look (i : Nat) : PSt → Option PyData := fun ps => match ps[i]? with
  | some (some p) => some p.data
  | _ => none
theorem SR.look {K : PySem.W.Frag} {F H : Hp} {σ : St} {ps : PSt} (sr : SR K Bo F H σ ps) {i : Nat} {d : PyData} (h : look i ps = some d) : ∃ v, σ[i]? = some (some v) ∧ Dp K H v d ∧
    (∀ ds, d = .list ds → ∃ a xs, v = .ref a ∧ SqL K H a xs ∧ DpAll K F xs ds) ∧ (∀ ds, d = .tuple ds → ∃ a xs, v = .ref a ∧ SqT K H a xs ∧ DpAll K F xs ds) := by
  unfold GL.look at h
  match e : ps[i]?, h with
  | some (some (.val d')), h =>
    cases h
    obtain ⟨v, h1, h2⟩ := sr.val e
    refine ⟨v, h1, h2.mono sr.le, fun ds ed => ?_, fun ds ed => ?_⟩
    · have ed : d' = .list ds := ed
      subst ed
      cases h2 with
      | lst s a => exact ⟨_, _, rfl, sr.le.seq s, a⟩
    · have ed : d' = .tuple ds := ed
      subst ed
      cases h2 with
      | tup s a => exact ⟨_, _, rfl, same_sqt sr.le s, a⟩
  | some (some (.own d')), h =>
    cases h
    obtain ⟨a, h1, hn, xs, ds, ed, h2, h3⟩ := sr.own e
    subst ed
    refine ⟨.ref a, h1, .lst (SqL.of h2) (h3.mono sr.le), fun ds' ed => ?_, fun ds ed => by cases ed⟩
    cases ed
    exact ⟨a, xs, rfl, SqL.of h2, h3⟩

/-! ### arguments -/
theorem ga_nil : GA X Bo W [] (fun ps => .ok [] ps) := pa_nil.imp fun σ H Q ⟨F, ps, sr, q⟩ => q [] F H .refl sr .nil
def fCons (f : PSt → Rs PyData) (g : PSt → Rs (List PyData)) : PSt → Rs (List PyData) := fun ps => (f ps).bind fun d ps1 => (g ps1).bind fun ds ps2 => .ok (d :: ds) ps2
theorem ga_cons (h : GV X Bo W e f) (t : GA X Bo W es fa) (hs : starEach (e :: es) X.env = (false, eval e X.env) :: starEach es X.env := by rfl) : GA X Bo W (e :: es) (fCons f fa) := by
  refine (pa_cons h t hs).imp fun σ H Q q => ?_
  refine tR_bind RA.rb q fun v d F F1 H1 ps ps1 sr st hv q => ?_
  refine go_bind RA.rb sr q fun vs ds F2 H2 ps2 sr2 st2 hvs q => ?_
  exact q (v :: vs) F2 H2 .refl sr2 (.cons (hv.mono st2.grow) hvs)

/-! ### operators -/
def fBin (D : PyData → PyData → Option PyData) (f1 f2 : PSt → Rs PyData) : PSt → Rs PyData := fun ps => (f1 ps).bind fun a ps1 => (f2 ps1).bind fun b ps2 => opt (D a b) ps2
/-- an operator by data -/
def OpD (K : PySem.W.Frag) (r : R2) (D : PyData → PyData → Option PyData) : Prop := ∀ F H x y a b d Q, Same F H → Dp K F x a → Dp K F y b → D a b = some d → (∀ v F' H', Gr F H F' H' → Dp K F' v d → Q v H') → r x y H Q
theorem op_data {r : R2} {D : PyData → PyData → Option PyData} (hr : OpD X.K r D) (h1 : GV X Bo W e1 f1) (h2 : GV X Bo W e2 f2) : ∀ σ H Q, tR X.K X.mg Bo W (RV X.K) (fBin D f1 f2) σ H Q →
    tOp r (tR X.K X.mg Bo W (RV X.K) f1) (tR X.K X.mg Bo W (RV X.K) f2) σ H Q := fun σ H Q q => by
  refine tR_bind RV.rb q fun v a F F1 H1 ps ps1 sr st hv q => ?_
  refine go_bind RV.rb sr q fun u b F2 H2 ps2 sr2 st2 hu q => ?_
  obtain ⟨d, ed, k⟩ := go_end sr2 q
  exact hr F2 H2 v u a b d Q sr2.le (hv.mono st2.grow) hu ed k
theorem gv_bin {op : Operator} {r : R2} {D : PyData → PyData → Option PyData} (ho : OpR X (binaryOp op) r) (hr : OpD X.K r D) (h1 : GV X Bo W e1 f1) (h2 : GV X Bo W e2 f2) : GV X Bo W (.BinOp e1 op e2 pos) (fBin D f1 f2) :=
  (pe_op ho h1 h2).imp (op_data hr h1 h2)
theorem gv_cmp {op : CmpOp} {r : R2} {D : PyData → PyData → Option PyData} (ho : OpR X (compareOp op) r) (hr : OpD X.K r D) (h1 : GV X Bo W e1 f1) (h2 : GV X Bo W e2 f2) (hm : behindInMarks op e2 = false := by first | exact nomark _ | rfl) :
    GV X Bo W (.Compare e1 [op] [e2] pos) (fBin D f1 f2) := (pe_cmpR ho h1 h2 hm).imp (op_data hr h1 h2)
def fTest (f : PSt → Rs PyData) : PSt → Rs Bool := fun ps => (f ps).bind fun d ps1 => match d with
  | .bool b => .ok b ps1
  | _ => .bad
theorem test_data {t : TE} {f : PSt → Rs PyData} (h : ∀ σ H Q, tR X.K X.mg Bo W (RV X.K) f σ H Q → t σ H Q) : ∀ σ H Q, tR X.K X.mg Bo W RB (fTest f) σ H Q → tTest t σ H Q := fun σ H Q q => by
  refine h σ H _ ?_
  refine tR_bind RB.rb q fun v a F F1 H1 ps ps1 sr st hv q => ?_
  match a, hv, q with
  | .bool b, hv, q =>
    cases hv
    exact ⟨b, rfl, q b F1 H1 .refl sr rfl⟩
  | .none, hv, q => exact q.elim
  | .int _, hv, q => exact q.elim
  | .str _, hv, q => exact q.elim
  | .list _, hv, q => exact q.elim
  | .tuple _, hv, q => exact q.elim
  | .dict _, hv, q => exact q.elim
theorem gt_cmp {op : CmpOp} {r : R2} {D : PyData → PyData → Option PyData} (ho : OpR X (compareOp op) r) (hr : OpD X.K r D) (h1 : GV X Bo W e1 f1) (h2 : GV X Bo W e2 f2) (hm : behindInMarks op e2 = false := by first | exact nomark _ | rfl) :
    GT X Bo W (.Compare e1 [op] [e2] pos) (fTest (fBin D f1 f2)) := (pt_cmpR ho h1 h2 hm).imp (test_data (op_data hr h1 h2))
theorem gt_val (h : GV X Bo W e f) (he : ∀ whole, isTrue e X.env whole = (do let v ← whole; standAt e.pos; holding [v] (truthy v)) := by intro _; rfl) : GT X Bo W e (fTest f) := (pt_val h he).imp (test_data fun _ _ _ q => q)
def fUn (D : PyData → Option PyData) (f : PSt → Rs PyData) : PSt → Rs PyData := fun ps => (f ps).bind fun a ps1 => opt (D a) ps1
def dNeg : PyData → Option PyData
  | .int i => some (.int (-i))
  | _ => none
theorem gv_neg (h : GV X Bo W e f) : GV X Bo W (.UnaryOp .USub e pos) (fUn dNeg f) := by
  refine (pe_un un_neg h).imp fun σ H Q q => ?_
  refine tR_bind RV.rb q fun v a F F1 H1 ps ps1 sr st hv q => ?_
  obtain ⟨d, ed, k⟩ := go_end sr q
  cases hv <;> simp only [dNeg] at ed <;> first | cases ed | skip
  exact ⟨_, rfl, k _ F1 H1 (.refl sr.le) (.int _)⟩

/-! ### and, or, not -/
def fAnd (c1 c2 : PSt → Rs Bool) : PSt → Rs Bool := fun ps => (c1 ps).bind fun b ps1 => if b = true then c2 ps1 else .ok false ps1
def fOr (c1 c2 : PSt → Rs Bool) : PSt → Rs Bool := fun ps => (c1 ps).bind fun b ps1 => if b = true then .ok true ps1 else c2 ps1
def fNot (c : PSt → Rs Bool) : PSt → Rs Bool := fun ps => (c ps).bind fun b ps1 => .ok (!b) ps1
theorem gt_not (h : GT X Bo W e c1) : GT X Bo W (.UnaryOp .Not e pos) (fNot c1) := by
  refine (pt_not h).imp fun σ H Q q => ?_
  refine tR_bind RB.rb q fun b c F F1 H1 ps ps1 sr st hb q => ?_
  subst hb
  exact q (!b) F1 H1 .refl sr rfl
theorem gw_and1 (h : GT X Bo W e c1) : GW X Bo W (.BoolOp .And [e] pos) c1 := pw_and1 h
theorem gw_or1 (h : GT X Bo W e c1) : GW X Bo W (.BoolOp .Or [e] pos) c1 := pw_or1 h
theorem gw_and (h : GT X Bo W e c1) (t : GW X Bo W (.BoolOp .And (e2 :: es) pos) c2) : GW X Bo W (.BoolOp .And (e :: e2 :: es) pos) (fAnd c1 c2) := by
  refine (pw_and h t).imp fun σ H Q q => ?_
  refine tR_bind RB.rb q fun b c F F1 H1 ps ps1 sr st hb q => ?_
  subst hb
  cases b with
  | true => exact ⟨F1, ps1, sr, q⟩
  | false => exact q false F1 H1 .refl sr rfl
theorem gw_or (h : GT X Bo W e c1) (t : GW X Bo W (.BoolOp .Or (e2 :: es) pos) c2) : GW X Bo W (.BoolOp .Or (e :: e2 :: es) pos) (fOr c1 c2) := by
  refine (pw_or h t).imp fun σ H Q q => ?_
  refine tR_bind RB.rb q fun b c F F1 H1 ps ps1 sr st hb q => ?_
  subst hb
  cases b with
  | true => exact q true F1 H1 .refl sr rfl
  | false => exact ⟨F1, ps1, sr, q⟩
theorem gt_w (h : GW X Bo W e c1) : GT X Bo W e c1 := PW.pt h
/-- as values -/
def fAndV (f1 f2 : PSt → Rs PyData) : PSt → Rs PyData := fun ps => (fTest f1 ps).bind fun b ps1 => if b = true then f2 ps1 else .ok (.bool false) ps1
def fOrV (f1 f2 : PSt → Rs PyData) : PSt → Rs PyData := fun ps => (fTest f1 ps).bind fun b ps1 => if b = true then .ok (.bool true) ps1 else f2 ps1
def fNotV (f : PSt → Rs PyData) : PSt → Rs PyData := fun ps => (fTest f ps).bind fun b ps1 => .ok (.bool (!b)) ps1
theorem gv_one {op} (h : GV X Bo W e f) : GV X Bo W (.BoolOp op [e] pos) f := pe_one h
theorem gv_and (h : GV X Bo W e f1) (t : GV X Bo W (.BoolOp .And (e2 :: es) pos) f2) : GV X Bo W (.BoolOp .And (e :: e2 :: es) pos) (fAndV f1 f2) := by
  refine (pe_and h t).imp fun σ H Q q => ?_
  refine test_data (t := tR X.K X.mg Bo W (RV X.K) f1) (Q := fun c H1 => if c = true then tR X.K X.mg Bo W (RV X.K) f2 σ H1 Q else Q (.bl false) H1) (fun _ _ _ q => q) σ H ?_
  refine tR_bind RV.rb q fun b c F F1 H1 ps ps1 sr st hb q => ?_
  subst hb
  cases b with
  | true => exact ⟨F1, ps1, sr, q⟩
  | false => exact q (.bl false) F1 H1 .refl sr (.bl false)
theorem gv_or (h : GV X Bo W e f1) (t : GV X Bo W (.BoolOp .Or (e2 :: es) pos) f2) : GV X Bo W (.BoolOp .Or (e :: e2 :: es) pos) (fOrV f1 f2) := by
  refine (pe_or h t).imp fun σ H Q q => ?_
  refine test_data (t := tR X.K X.mg Bo W (RV X.K) f1) (Q := fun c H1 => if c = true then Q (.bl true) H1 else tR X.K X.mg Bo W (RV X.K) f2 σ H1 Q) (fun _ _ _ q => q) σ H ?_
  refine tR_bind RV.rb q fun b c F F1 H1 ps ps1 sr st hb q => ?_
  subst hb
  cases b with
  | true => exact q (.bl true) F1 H1 .refl sr (.bl true)
  | false => exact ⟨F1, ps1, sr, q⟩
theorem gv_not (h : GV X Bo W e f) : GV X Bo W (.UnaryOp .Not e pos) (fNotV f) := by
  refine (pe_not h).imp fun σ H Q q => ?_
  refine test_data (t := tR X.K X.mg Bo W (RV X.K) f) (Q := fun c H1 => Q (.bl (!c)) H1) (fun _ _ _ q => q) σ H ?_
  refine tR_bind RV.rb q fun b c F F1 H1 ps ps1 sr st hb q => ?_
  subst hb
  exact q (.bl (!b)) F1 H1 .refl sr (.bl _)
def fIf (c : PSt → Rs Bool) (f1 f2 : PSt → Rs PyData) : PSt → Rs PyData := fun ps => (c ps).bind fun b ps1 => if b = true then f1 ps1 else f2 ps1
theorem gv_if (h : GT X Bo W e c1) (h1 : GV X Bo W e1 f1) (h2 : GV X Bo W e2 f2) : GV X Bo W (.IfExp e e1 e2 pos) (fIf c1 f1 f2) := by
  refine (pe_ifExp h h1 h2).imp fun σ H Q q => ?_
  refine tR_bind RV.rb q fun b c F F1 H1 ps ps1 sr st hb q => ?_
  subst hb
  cases b with
  | true => exact ⟨F1, ps1, sr, q⟩
  | false => exact ⟨F1, ps1, sr, q⟩

/-! ### displays -/
def fTup (fa : PSt → Rs (List PyData)) : PSt → Rs PyData := fun ps => (fa ps).bind fun ds ps1 => if ds.length ≤ sizeLine then .ok (.tuple ds) ps1 else .bad
theorem gv_tup {k} (h : GA X Bo W es fa) : GV X Bo W (.Tuple es k pos) (fTup fa) := by
  refine (pe_tup h).imp fun σ H Q q => ?_
  refine tR_bind RV.rb q fun vs ds F F1 H1 ps ps1 sr st hv q => ?_
  by_cases hz : ds.length ≤ sizeLine
  · rw [if_pos hz] at q
    refine ⟨by rw [L2.DpAll.length hv]; exact hz, fun p hp => ?_⟩
    have g : Gr F1 H1 (upd F1 p (.tup vs)) (upd H1 p (.tup vs)) := .new sr.le hp
    exact q (.ref p) _ _ (.of_gr g) (sr.gr g) (.tup (SqT.of upd_same) (L2.DpAll.mono g.grow hv))
  · rw [if_neg hz] at q; exact q.elim
/-- a new list, its own holder's -/
theorem new_own {K : PySem.W.Frag} {F H : Hp} {σ : St} {ps : PSt} {p : Addr} {xs : List V} {ds : List PyData} (sr : SR K Bo F H σ ps) (hp : H p = none) (h : DpAll K F xs ds) :
    Gr F H F (upd H p (.lst xs)) ∧ SR K Bo F (upd H p (.lst xs)) σ ps ∧ RO K σ F H ps F (upd H p (.lst xs)) ps (.ref p) (.own (.list ds)) := by
  have g : Gr F H F (upd H p (.lst xs)) := ⟨.refl _, fun _ _ e => .inl e, same_upd hp, sr.le.trans (same_upd hp)⟩
  refine ⟨g, sr.gr g, p, rfl, ⟨sr.le.free hp, xs, ds, rfl, upd_same, h⟩, ?_, .inr hp⟩
  rintro ⟨i, d, h1, h2⟩
  obtain ⟨a, h3, _, ys, _, _, h4, _⟩ := sr.own h1
  rw [h2] at h3; cases h3
  rw [hp] at h4; cases h4
def fLst (fa : PSt → Rs (List PyData)) : PSt → Rs PV := fun ps => (fa ps).bind fun ds ps1 => if ds.length ≤ sizeLine then .ok (.own (.list ds)) ps1 else .bad
theorem go_lst (h : GA X Bo W es fa) : GO X Bo W (.List es pos) (fLst fa) := by
  refine (pe_lst h).imp fun σ H Q q => ?_
  refine tR_bind RO.rb q fun vs ds F F1 H1 ps ps1 sr st hv q => ?_
  by_cases hz : ds.length ≤ sizeLine
  · rw [if_pos hz] at q
    refine ⟨by rw [L2.DpAll.length hv]; exact hz, fun p hp => ?_⟩
    obtain ⟨g, s2, r⟩ := new_own sr hp hv
    exact q (.ref p) _ _ (.of_gr g) s2 r
  · rw [if_neg hz] at q; exact q.elim
end
end GL

/-! GLc: statements, targets, loops -/
namespace GL
open PySem PySem.Spec L2
open PyProof.Rows hiding St

/-- what is given back: data, or a new list of its own -/
def RF (K : PySem.W.Frag) (F' H H' : Hp) (σ : St) (ps : PSt) (σ' : St) (ps' : PSt) (v : V) : PV → Prop
  | .val d => Dp K F' v d
  | .own d => ∃ a, v = .ref a ∧ OwnAt K F' H' a d ∧ ¬ Owned σ' ps' a ∧ (Owned σ ps a ∨ H a = none)
def GoalS (K : PySem.W.Frag) (mg : Str → Option Value) (Bo : Option Addr) (W : WX) (o : Os) (F H : Hp) (σ : St) (ps : PSt) (D : Ends) : Prop := match o with
  | .nx ps' => ∀ σ' F' H', Step F H σ ps F' H' σ' ps' → SR K Bo F' H' σ' ps' → D.nx σ' H'
  | .brk ps' => ∀ σ' F' H', Step F H σ ps F' H' σ' ps' → SR K Bo F' H' σ' ps' → D.bk σ' H'
  | .ct ps' => ∀ σ' F' H', Step F H σ ps F' H' σ' ps' → SR K Bo F' H' σ' ps' → D.ct σ' H'
  | .ret p ps' => ∀ v σ' F' H', Step F H σ ps F' H' σ' ps' → SR K Bo F' H' σ' ps' → RF K F' H H' σ ps σ' ps' v p → D.rt v H'
  | .exc x ps' => ∀ cls dd σ' F' H', Step F H σ ps F' H' σ' ps' → SR K Bo F' H' σ' ps' → ExR K mg x cls dd F' H' → W cls dd σ' H'
  | .bad => False
def tS (K : PySem.W.Frag) (mg : Str → Option Value) (Bo : Option Addr) (W : WX) (f : PSt → Os) : TS := fun D σ H => ∃ F ps, SR K Bo F H σ ps ∧ GoalS K mg Bo W (f ps) F H σ ps D
def GS (X : Cx) (Bo : Option Addr) (W : WX) (st : Stmt) (f : PSt → Os) : Prop := PS X st (tS X.K X.mg Bo W f)
def GSs (X : Cx) (Bo : Option Addr) (W : WX) (st : List Stmt) (f : PSt → Os) : Prop := PSs X st (tS X.K X.mg Bo W f)

section
variable {K : PySem.W.Frag} {mg : Str → Option Value} {Bo : Option Addr} {W : WX} {F H F1 H1 F2 H2 : Hp} {σ σ1 : St} {ps ps1 ps2 : PSt}
theorem RF.rb {F' H' : Hp} {v : V} {p : PV} {σ' : St} {ps' : PSt} (st : Step F H σ ps F1 H1 σ1 ps1) (h : RF K F' H1 H' σ1 ps1 σ' ps' v p) : RF K F' H H' σ ps σ' ps' v p := by
  match p, h with
  | .val d, h => exact h
  | .own d, h =>
    obtain ⟨a, h1, h2, h3, h4⟩ := h
    exact ⟨a, h1, h2, h3, st.new h4⟩
theorem GoalS.rebase {o : Os} {D : Ends} (h : GoalS K mg Bo W o F H σ ps D) (st : Step F H σ ps F1 H1 σ1 ps1) : GoalS K mg Bo W o F1 H1 σ1 ps1 D := by
  cases o with
  | nx ps' => exact fun σ' F' H' s2 sr => h σ' F' H' (st.trans s2) sr
  | brk ps' => exact fun σ' F' H' s2 sr => h σ' F' H' (st.trans s2) sr
  | ct ps' => exact fun σ' F' H' s2 sr => h σ' F' H' (st.trans s2) sr
  | ret p ps' => exact fun v σ' F' H' s2 sr r => h v σ' F' H' (st.trans s2) sr (r.rb st)
  | exc x ps' => exact fun cls dd σ' F' H' s2 sr r => h cls dd σ' F' H' (st.trans s2) sr r
  | bad => exact h
/-- another end -/
theorem GoalS.mono {o : Os} {D D' : Ends} (h : GoalS K mg Bo W o F H σ ps D) (h1 : ∀ ps', o = .nx ps' → ∀ σ' F' H', Step F H σ ps F' H' σ' ps' → SR K Bo F' H' σ' ps' → D.nx σ' H' → D'.nx σ' H') (h2 : D.bk = D'.bk) (h3 : D.ct = D'.ct) (h4 : D.rt = D'.rt) :
    GoalS K mg Bo W o F H σ ps D' := by
  cases o with
  | nx ps' => exact fun σ' F' H' s2 sr => h1 ps' rfl σ' F' H' s2 sr (h σ' F' H' s2 sr)
  | brk ps' => exact fun σ' F' H' s2 sr => h2 ▸ h σ' F' H' s2 sr
  | ct ps' => exact fun σ' F' H' s2 sr => h3 ▸ h σ' F' H' s2 sr
  | ret p ps' => exact fun v σ' F' H' s2 sr r => h4 ▸ h v σ' F' H' s2 sr r
  | exc x ps' => exact h
  | bad => exact h
/-- an expression first, then what the statement makes of it -/
def Rs.st {α : Type} (r : Rs α) (g : α → PSt → Os) : Os := match r with
  | .ok a ps => g a ps
  | .exc x ps => .exc x ps
  | .bad => .bad
theorem gos_bind {β α : Type} {R1 : RT β α} {f1 : PSt → Rs α} {g : α → PSt → Os} {D : Ends} {K1 : β → Hp → Prop} (sr : SR K Bo F H σ ps) (h : GoalS K mg Bo W ((f1 ps).st g) F H σ ps D)
    (k : ∀ v a F1 H1 ps1, SR K Bo F1 H1 σ ps1 → Step F H σ ps F1 H1 σ ps1 → R1 σ F H ps F1 H1 ps1 v a → GoalS K mg Bo W (g a ps1) F1 H1 σ ps1 D → K1 v H1) : tR K mg Bo W R1 f1 σ H K1 := by
  refine ⟨F, ps, sr, ?_⟩
  cases e : f1 ps with
  | ok a ps1 =>
    rw [e] at h
    exact fun v F1 H1 st s1 hv => k v a F1 H1 ps1 s1 st hv (GoalS.rebase h st)
  | exc x ps1 =>
    rw [e] at h
    exact fun cls dd F' H' st s1 r => h cls dd σ F' H' st s1 r
  | bad => rw [e] at h; exact h
theorem tS_bind {β α : Type} {R1 : RT β α} {f1 : PSt → Rs α} {g : α → PSt → Os} {D : Ends} {K1 : β → Hp → Prop} (h : tS K mg Bo W (fun ps => (f1 ps).st g) D σ H)
    (k : ∀ v a F F1 H1 ps ps1, SR K Bo F H σ ps → SR K Bo F1 H1 σ ps1 → Step F H σ ps F1 H1 σ ps1 → R1 σ F H ps F1 H1 ps1 v a → GoalS K mg Bo W (g a ps1) F1 H1 σ ps1 D → K1 v H1) : tR K mg Bo W R1 f1 σ H K1 := by
  obtain ⟨F, ps, sr, h⟩ := h
  exact gos_bind sr h fun v a F1 H1 ps1 => k v a F F1 H1 ps ps1 sr
/-- the goal as it was at the beginning -/
theorem tS_bind0 {β α : Type} {R1 : RT β α} {f1 : PSt → Rs α} {g : α → PSt → Os} {D : Ends} {K1 : β → Hp → Prop} (h : tS K mg Bo W (fun ps => (f1 ps).st g) D σ H)
    (k : ∀ v a F F1 H1 ps ps1, SR K Bo F H σ ps → SR K Bo F1 H1 σ ps1 → Step F H σ ps F1 H1 σ ps1 → R1 σ F H ps F1 H1 ps1 v a → GoalS K mg Bo W (g a ps1) F H σ ps D → K1 v H1) : tR K mg Bo W R1 f1 σ H K1 := by
  obtain ⟨F, ps, sr, h⟩ := h
  refine ⟨F, ps, sr, ?_⟩
  dsimp only at h
  cases e : f1 ps with
  | ok a ps1 =>
    rw [e] at h
    exact fun v F1 H1 st s1 hv => k v a F F1 H1 ps ps1 sr s1 st hv h
  | exc x ps1 =>
    rw [e] at h
    exact fun cls dd F' H' st s1 r => h cls dd σ F' H' st s1 r
  | bad => rw [e] at h; exact h
/-- what one alone holds stays while something else goes on -/
theorem RO.keep {v : V} {p : PV} (h : RO K σ F H ps F1 H1 ps1 v p) (st : Step F1 H1 σ ps1 F2 H2 σ ps2) : RO K σ F H ps F2 H2 ps2 v p := by
  match p, h with
  | .val d, h =>
    have h : Dp K F1 v d := h
    exact h.mono st.grow
  | .own d, h =>
    obtain ⟨a, h1, ⟨hn, xs, ds, e, h2, h3⟩, h4, h5⟩ := h
    refine ⟨a, h1, ⟨?_, xs, ds, e, st.keep _ _ h2 h4, h3.mono st.grow⟩, fun q => ?_, h5⟩
    · cases q : F2 a with
      | none => rfl
      | some o =>
        rcases st.fresh a o q with z | z | z
        · rw [hn] at z; cases z
        · rw [h2] at z; cases z
        · exact (h4 z).elim
    · rcases st.own a q with z | z
      · exact h4 z
      · rw [h2] at z; cases z
/-- a slot gets a list of its own -/
theorem SR.setO (s : SR K Bo F H σ ps) {i : Nat} {a : Addr} {d : PyData} (hb : Bo = none ∨ i ≠ 0) (h : OwnAt K F H a d) (no : ¬ Owned σ ps a) : SR K Bo F H (σ.set i (some (.ref a))) (ps.set i (some (.own d))) := by
  have un : ∀ {j : Nat} {e : PyData} {b : Addr}, (ps.set i (some (.own d)))[j]? = some (some (.own e)) → (σ.set i (some (.ref a)))[j]? = some (some (.ref b)) → (j = i ∧ b = a) ∨ (i ≠ j ∧ ps[j]? = some (some (.own e)) ∧ σ[j]? = some (some (.ref b))) := fun {j e b} h1 h2 => by
    by_cases hj : i = j
    · subst hj
      by_cases hl : i < σ.length
      · rw [List.getElem?_set_self hl] at h2; cases h2; exact .inl ⟨rfl, rfl⟩
      · rw [List.getElem?_eq_none (by simpa using hl)] at h2; cases h2
    · rw [List.getElem?_set_ne hj] at h1 h2; exact .inr ⟨hj, h1, h2⟩
  refine ⟨s.le, by simp [s.len], fun j x p e1 e2 => ?_, fun j k b d1 d2 h1 h2 h3 h4 => ?_, fun c e => ?_⟩
  · by_cases hj : i = j
    · subst hj
      have l1 : i < σ.length := by have := (List.getElem?_eq_some_iff.mp e1).1; simpa using this
      have l2 : i < ps.length := by rw [s.len]; exact l1
      rw [List.getElem?_set_self l1] at e1
      rw [List.getElem?_set_self l2] at e2
      cases e1; cases e2
      exact ⟨a, rfl, h⟩
    · rw [List.getElem?_set_ne hj] at e1 e2
      exact s.sl j x p e1 e2
  · rcases un h1 h3 with ⟨z1, z2⟩ | ⟨z1, z2, z3⟩ <;> rcases un h2 h4 with ⟨y1, y2⟩ | ⟨y1, y2, y3⟩
    · rw [z1, y1]
    · subst z2; exact (no ⟨k, _, y2, y3⟩).elim
    · subst y2; exact (no ⟨j, _, z2, z3⟩).elim
    · exact s.apart j k b _ _ z2 y2 z3 y3
  · obtain ⟨r1, d', r2⟩ := s.bo c e
    have n : i ≠ 0 := hb.resolve_left (by rw [e]; simp)
    exact ⟨by rw [List.getElem?_set_ne n]; exact r1, d', by rw [List.getElem?_set_ne n]; exact r2⟩
theorem owned_setO {i : Nat} {a b : Addr} {d : PyData} (h : Owned (σ.set i (some (.ref a))) (ps.set i (some (.own d))) b) : b = a ∨ Owned σ ps b := by
  obtain ⟨j, e, h1, h2⟩ := h
  by_cases hj : i = j
  · subst hj
    by_cases hl : i < σ.length
    · rw [List.getElem?_set_self hl] at h2; cases h2; exact .inl rfl
    · rw [List.getElem?_eq_none (by simpa using hl)] at h2; cases h2
  · rw [List.getElem?_set_ne hj] at h1 h2; exact .inr ⟨j, e, h1, h2⟩
/-- a value is stored -/
theorem store_pv {v : V} {p : PV} {i : Nat} (hb : Bo = none ∨ i ≠ 0) (s1 : SR K Bo F1 H1 σ ps1) (st : Step F H σ ps F1 H1 σ ps1) (h : RO K σ F H ps F1 H1 ps1 v p) :
    SR K Bo F1 H1 (σ.set i (some v)) (ps1.set i (some p)) ∧ Step F H σ ps F1 H1 (σ.set i (some v)) (ps1.set i (some p)) := by
  match p, h with
  | .val d, h => exact ⟨s1.setV hb h, st.trans .setV⟩
  | .own d, h =>
    obtain ⟨a, rfl, h2, h3, h4⟩ := h
    refine ⟨s1.setO hb h2 h3, st.grow, st.fresh, st.keep, fun b q => ?_⟩
    rcases owned_setO q with z | z
    · subst z; exact h4
    · exact st.own b z
/-- a slot's own list is changed -/
theorem SR.mut (s : SR K Bo F H σ ps) {i : Nat} {a : Addr} {d d' : PyData} {xs : List V} {ds : List PyData} (e : ps[i]? = some (some (.own d))) (ea : σ[i]? = some (some (.ref a))) (hn : F a = none) (ed : d' = .list ds) (h : DpAll K F xs ds) :
    SR K Bo F (upd H a (.lst xs)) σ (ps.set i (some (.own d'))) ∧ Step F H σ ps F (upd H a (.lst xs)) σ (ps.set i (some (.own d'))) := by
  have hi : i < ps.length := (List.getElem?_eq_some_iff.mp e).1
  have ow : Owned σ ps a := ⟨i, d, e, ea⟩
  refine ⟨⟨fun b o q => ?_, by simp [s.len], fun j x p e1 e2 => ?_, fun j k b d1 d2 h1 h2 h3 h4 => ?_, fun c z => ?_⟩, .refl _, fun _ _ q => .inl q, fun b o q n => ?_, fun b q => ?_⟩
  · have : b ≠ a := fun w => by subst w; rw [hn] at q; cases q
    rw [upd_ne this]; exact s.le b o q
  · by_cases hj : i = j
    · subst hj
      rw [List.getElem?_set_self hi] at e2; cases e2
      rw [ea] at e1; cases e1
      exact ⟨a, rfl, hn, xs, ds, ed, upd_same, h⟩
    · rw [List.getElem?_set_ne hj] at e2
      have q := s.sl j x p e1 e2
      match p, q with
      | none, _ => trivial
      | some (.val d), q => exact q
      | some (.own d1), q =>
        obtain ⟨c, z, n, ys, es, r1, r2, r3⟩ := q
        refine ⟨c, z, n, ys, es, r1, ?_, r3⟩
        have : c ≠ a := fun w => by
          subst w; subst z
          exact hj (s.apart i j c _ _ e e2 ea e1)
        rw [upd_ne this]; exact r2
  · have old : ∀ {j : Nat} {e : PyData}, (ps.set i (some (.own d')))[j]? = some (some (.own e)) → ∃ e', ps[j]? = some (some (.own e')) := fun {j e1} q => by
      by_cases hj : i = j
      · subst hj; exact ⟨d, e⟩
      · rw [List.getElem?_set_ne hj] at q; exact ⟨_, q⟩
    obtain ⟨_, o1⟩ := old h1
    obtain ⟨_, o2⟩ := old h2
    exact s.apart j k b _ _ o1 o2 h3 h4
  · obtain ⟨r1, d1, r2⟩ := s.bo c z
    refine ⟨r1, ?_⟩
    by_cases hj : i = 0
    · subst hj; exact ⟨d', List.getElem?_set_self hi⟩
    · exact ⟨d1, by rw [List.getElem?_set_ne hj]; exact r2⟩
  · have : b ≠ a := fun w => by subst w; exact n ow
    rw [upd_ne this]; exact q
  · obtain ⟨j, e1, q1, q2⟩ := q
    by_cases hj : i = j
    · subst hj; exact .inl ⟨i, d, e, q2⟩
    · rw [List.getElem?_set_ne hj] at q1; exact .inl ⟨j, e1, q1, q2⟩
end

section
variable {X : Cx} {Bo : Option Addr} {W : WX} {e e1 e2 : Expr} {st : Stmt} {sts rest : List Stmt} {f f1 f2 : PSt → Rs PyData} {fo fo1 fo2 : PSt → Rs PV} {c : PSt → Rs Bool} {g g1 g2 : PSt → Os} {pos : Pos}
/-! ### blocks -/
def fSkip : PSt → Os := .nx
def fSeq (g1 g2 : PSt → Os) : PSt → Os := fun ps => match g1 ps with
  | .nx ps1 => g2 ps1
  | .ret p ps1 => .ret p ps1
  | .brk ps1 => .brk ps1
  | .ct ps1 => .ct ps1
  | .exc x ps1 => .exc x ps1
  | .bad => .bad
theorem gss_nil : GSs X Bo W [] fSkip := pss_nil.imp fun D σ H ⟨F, ps, sr, q⟩ => q σ F H .refl sr
theorem seq_data {t u : TS} (h : ∀ D σ H, tS X.K X.mg Bo W g1 D σ H → t D σ H) (k : ∀ D σ H, tS X.K X.mg Bo W g2 D σ H → u D σ H) : ∀ D σ H, tS X.K X.mg Bo W (fSeq g1 g2) D σ H → tSeq t u D σ H := fun D σ H ⟨F, ps, sr, q⟩ => by
  refine h { D with nx := u D } σ H ⟨F, ps, sr, ?_⟩
  unfold fSeq at q
  cases e : g1 ps with
  | nx ps1 =>
    rw [e] at q
    exact fun σ' F' H' st s1 => k D σ' H' ⟨F', ps1, s1, GoalS.rebase q st⟩
  | ret p ps1 => rw [e] at q; exact q
  | brk ps1 => rw [e] at q; exact q
  | ct ps1 => rw [e] at q; exact q
  | exc x ps1 => rw [e] at q; exact q
  | bad => rw [e] at q; exact q
theorem gss_cons (h : GS X Bo W st g1) (t : GSs X Bo W rest g2) : GSs X Bo W (st :: rest) (fSeq g1 g2) := (pss_cons h t).imp (seq_data (fun _ _ _ q => q) fun _ _ _ q => q)
theorem gss_one (h : GS X Bo W st g) : GSs X Bo W [st] g := pss_one h
/-- slots that nobody reads any more are forgotten -/
def fKill (l : List Nat) (g : PSt → Os) : PSt → Os := fun ps => match g ps with
  | .nx ps1 => .nx (l.foldl (fun q i => q.set i none) ps1)
  | o => o
theorem SR.kills {K : PySem.W.Frag} {F H : Hp} {σ : St} : ∀ {l : List Nat} {ps : PSt}, (Bo = none ∨ 0 ∉ l) → SR K Bo F H σ ps → SR K Bo F H σ (l.foldl (fun q i => q.set i none) ps) ∧ Step F H σ ps F H σ (l.foldl (fun q i => q.set i none) ps)
  | [], ps, _, s => ⟨s, .refl⟩
  | i :: l, ps, hb, s => by
    have h1 : Bo = none ∨ i ≠ 0 := hb.imp_right fun q z => q (by rw [z]; exact List.mem_cons_self)
    obtain ⟨s2, st⟩ := SR.kills (l := l) (hb.imp_right fun q z => q (List.mem_cons_of_mem _ z)) (s.kill h1)
    exact ⟨s2, Step.kill.trans st⟩
theorem gs_kill (l : List Nat) (h : GS X Bo W st g) (hb : Bo = none ∨ 0 ∉ l := by first | exact .inl rfl | exact .inr (by decide)) : GS X Bo W st (fKill l g) := by
  refine h.imp fun D σ H ⟨F, ps, sr, q⟩ => ⟨F, ps, sr, ?_⟩
  unfold fKill at q
  cases e : g ps with
  | nx ps1 =>
    rw [e] at q
    intro σ' F' H' st s1
    obtain ⟨s2, st2⟩ := s1.kills hb
    exact q σ' F' H' (st.trans st2) s2
  | ret p ps1 => rw [e] at q; exact q
  | brk ps1 => rw [e] at q; exact q
  | ct ps1 => rw [e] at q; exact q
  | exc x ps1 => rw [e] at q; exact q
  | bad => rw [e] at q; exact q

/-! ### small statements -/
def fExpr (f : PSt → Rs PyData) : PSt → Os := fun ps => (f ps).st fun _ ps1 => .nx ps1
theorem gs_expr (h : GV X Bo W e f) (hs : swapsWith e none pos.line X.env = pure false := by rfl) : GS X Bo W (.Expr e pos) (fExpr f) := by
  refine (ps_expr h hs).imp fun D σ H q => ?_
  exact tS_bind q fun v a F F1 H1 ps ps1 sr s1 st hv q => q σ F1 H1 .refl s1
def fRet (fo : PSt → Rs PV) : PSt → Os := fun ps => (fo ps).st fun p ps1 => .ret p ps1
theorem gs_ret (h : GO X Bo W e fo) : GS X Bo W (.Return (some e) pos) (fRet fo) := by
  refine (ps_ret h).imp fun D σ H ⟨F, ps, sr, q⟩ => ⟨F, ps, sr, ?_⟩
  unfold fRet at q
  cases e : fo ps with
  | bad => rw [e] at q; exact q
  | exc x ps1 => rw [e] at q; exact fun cls dd F' H' st s1 r => q cls dd σ F' H' st s1 r
  | ok p ps1 =>
    rw [e] at q
    intro v F' H' st s1 r
    refine q v σ F' H' st s1 ?_
    match p, r with
    | .val d, r => exact r
    | .own d, r =>
      exact r
theorem gs_retN : GS X Bo W (.Return none pos) (fun ps => .ret (.val .none) ps) := ps_retN.imp fun D σ H ⟨F, ps, sr, q⟩ => q .non σ F H .refl sr .non
theorem gs_pass : GS X Bo W (.Pass pos) fSkip := ps_pass.imp fun D σ H ⟨F, ps, sr, q⟩ => q σ F H .refl sr
theorem gs_break : GS X Bo W (.Break pos) (fun ps => .brk ps) := ps_break.imp fun D σ H ⟨F, ps, sr, q⟩ => q σ F H .refl sr
def fSet (i : Nat) (fo : PSt → Rs PV) : PSt → Os := fun ps => (fo ps).st fun p ps1 => .nx (ps1.set i (some p))
theorem gs_set (i : Nat) {x : Str} {pos' : Pos} (h : GO X Bo W e fo) (hN : X.N.Nodup) (hb : Bo = none ∨ i ≠ 0 := by first | exact .inl rfl | exact .inr (by decide)) (hi : X.N[i]? = some x := by rfl) (hx : Loc X.env.scope x := by first | exact .inl rfl | exact .inr rfl)
    (hs : swapsWith e (some (.Name x pos')) pos.line X.env = pure false := by rfl) (hf : X.fn x = true ∨ X.env.scope.names.lookup x = some .local := by first | exact .inl rfl | exact .inr rfl) : GS X Bo W (.Assign [.Name x pos'] e pos) (fSet i fo) := by
  refine (ps_set hN hi hx h hs hf).imp fun D σ H q => ?_
  refine tS_bind0 q fun v p F F1 H1 ps ps1 sr s1 st hv q => ?_
  obtain ⟨s2, st2⟩ := store_pv hb s1 st hv
  exact q _ F1 H1 st2 s2
def fIfS (c : PSt → Rs Bool) (g1 g2 : PSt → Os) : PSt → Os := fun ps => (c ps).st fun b ps1 => if b = true then g1 ps1 else g2 ps1
theorem gs_if {e : Expr} {a b : List Stmt} (h : GT X Bo W e c) (ha : GSs X Bo W a g1) (hb : GSs X Bo W b g2) : GS X Bo W (.If e a b pos) (fIfS c g1 g2) := by
  refine (ps_if h ha hb).imp fun D σ H q => ?_
  refine tS_bind q fun b b' F F1 H1 ps ps1 sr s1 st hb q => ?_
  subst hb
  cases b with
  | true => exact ⟨F1, ps1, s1, q⟩
  | false => exact ⟨F1, ps1, s1, q⟩

/-! ### targets -/
def Only (T : List Nat) (σ σ' : St) : Prop := σ'.length = σ.length ∧ ∀ i : Nat, i ∉ T → σ'[i]? = σ[i]?
def tG (K : PySem.W.Frag) (Bo : Option Addr) (T : List Nat) (g : PyData → PSt → Option PSt) : TG := fun v σ H Q => ∃ F ps d ps', SR K Bo F H σ ps ∧ Dp K F v d ∧ g d ps = some ps' ∧ ∀ σ', Only T σ σ' → Step F H σ ps F H σ' ps' → SR K Bo F H σ' ps' → Q σ' H
def GG (X : Cx) (Bo : Option Addr) (tg : Expr) (T : List Nat) (g : PyData → PSt → Option PSt) : Prop := PG X tg (tG X.K Bo T g)
def tGs (K : PySem.W.Frag) (Bo : Option Addr) (T : List Nat) (g : List PyData → PSt → Option PSt) : TGs := fun vs σ H Q => ∃ F ps ds ps', SR K Bo F H σ ps ∧ DpAll K F vs ds ∧ g ds ps = some ps' ∧ ∀ σ', Only T σ σ' → Step F H σ ps F H σ' ps' → SR K Bo F H σ' ps' → Q σ' H
def GGs (X : Cx) (Bo : Option Addr) (ts : List Expr) (T : List Nat) (g : List PyData → PSt → Option PSt) : Prop := PGs X ts (tGs X.K Bo T g)
def uN (i : Nat) : PyData → PSt → Option PSt := fun d ps => some (ps.set i (some (.val d)))
def uNil : List PyData → PSt → Option PSt := fun ds ps => match ds with
  | [] => some ps
  | _ => none
def uCons (g : PyData → PSt → Option PSt) (gs : List PyData → PSt → Option PSt) : List PyData → PSt → Option PSt := fun ds ps => match ds with
  | d :: ds => (g d ps).bind (gs ds)
  | [] => none
def uTup (n : Nat) (gs : List PyData → PSt → Option PSt) : PyData → PSt → Option PSt := fun d ps => match d with
  | .tuple ds => if ds.length = n then gs ds ps else none
  | .list ds => if ds.length = n then gs ds ps else none
  | _ => none
variable {tg : Expr} {tgs : List Expr} {u : PyData → PSt → Option PSt} {us : List PyData → PSt → Option PSt} {T T1 T2 : List Nat}
theorem _root_.L2.PG.imp {X : Cx} {e : Expr} {t t' : TG} (h : PG X e t) (i : ∀ v σ H Q, t' v σ H Q → t v σ H Q) : PG X e t' := ⟨fun pins s σ H v u Q I r q => h.run pins s σ H v u Q I r (i _ _ _ _ q)⟩
theorem _root_.L2.PGs.imp {X : Cx} {e : List Expr} {t t' : TGs} (h : PGs X e t) (i : ∀ v σ H Q, t' v σ H Q → t v σ H Q) : PGs X e t' := ⟨fun pins s σ H v u Q I r q => h.run pins s σ H v u Q I r (i _ _ _ _ q)⟩
theorem gg_name (i : Nat) {x : Str} (hN : X.N.Nodup) (hb : Bo = none ∨ i ≠ 0 := by first | exact .inl rfl | exact .inr (by decide)) (hi : X.N[i]? = some x := by rfl) (hx : Loc X.env.scope x := by first | exact .inl rfl | exact .inr rfl)
    (hf : X.fn x = true ∨ X.env.scope.names.lookup x = some .local := by first | exact .inl rfl | exact .inr rfl) : GG X Bo (.Name x pos) [i] (uN i) := by
  refine (pg_name hN hi hx hf).imp fun v σ H Q ⟨F, ps, d, ps', sr, hd, e, q⟩ => ?_
  cases e
  exact q _ ⟨by simp, fun j hj => List.getElem?_set_ne fun z => hj (by simp [z])⟩ .setV (sr.setV hb hd)
theorem ggs_nil : GGs X Bo [] [] uNil := by
  refine pgs_nil.imp fun vs σ H Q ⟨F, ps, ds, ps', sr, hd, e, q⟩ => ?_
  cases hd with
  | nil => cases e; exact ⟨rfl, q σ ⟨rfl, fun _ _ => rfl⟩ .refl sr⟩
  | cons _ _ => cases e
theorem ggs_cons (h : GG X Bo tg T1 u) (t : GGs X Bo tgs T2 us) (hs : (assignEach (tg :: tgs) X.env).map (·.2) = assign tg X.env :: (assignEach tgs X.env).map (·.2) := by rfl) : GGs X Bo (tg :: tgs) (T1 ++ T2) (uCons u us) := by
  refine (pgs_cons h t hs).imp fun vs σ H Q ⟨F, ps, ds, ps', sr, hd, e, q⟩ => ?_
  cases hd with
  | nil => cases e
  | @cons v vs d ds h1 h2 =>
    have e : (u d ps).bind (us ds) = some ps' := e
    cases e1 : u d ps with
    | none => rw [e1] at e; cases e
    | some ps1 =>
      rw [e1] at e
      refine ⟨v, vs, rfl, F, ps, d, ps1, sr, h1, e1, fun σ1 on st s1 => ?_⟩
      exact ⟨F, ps1, ds, ps', s1, h2, e, fun σ2 on2 st2 s2 => q σ2 ⟨on2.1.trans on.1, fun i hi => (on2.2 i fun z => hi (List.mem_append_right _ z)).trans (on.2 i fun z => hi (List.mem_append_left _ z))⟩ (st.trans st2) s2⟩
theorem gg_tup {es : List Expr} {k : Nat} {n : Nat} (hc : X.calm = true) (h : GGs X Bo es T us) (hn : (assignEach es X.env).length = n := by rfl) (hst : (assignEach es X.env).findIdx? (·.1) = none := by rfl) : GG X Bo (.Tuple es k pos) T (uTup n us) := by
  refine ⟨fun pins s σ H v w Q I r q => ?_⟩
  obtain ⟨F, ps, d, ps', sr, hd, e, q⟩ := q
  match d, hd, e with
  | .tuple ds, hd, e =>
    cases hd with
    | @tup a xs _ hs ha =>
      have e : (if ds.length = n then us ds ps else none) = some ps' := e
      split at e
      · rename_i hl
        exact (pg_tup hc h hn hst).run pins s σ H _ w Q I r ⟨a, xs, rfl, same_sqt sr.le hs, by rw [ha.length, hl], F, ps, ds, ps', sr, ha, e, q⟩
      · cases e
  | .list ds, hd, e =>
    cases hd with
    | @lst a xs _ hs ha =>
      have e : (if ds.length = n then us ds ps else none) = some ps' := e
      split at e
      · rename_i hl
        exact (pg_lst hc h hn hst).run pins s σ H _ w Q I r ⟨a, xs, rfl, sr.le.seq hs, by rw [ha.length, hl], F, ps, ds, ps', sr, ha, e, q⟩
      · cases e
  | .none, _, e => cases e
  | .bool _, _, e => cases e
  | .int _, _, e => cases e
  | .str _, _, e => cases e
  | .dict _, _, e => cases e
/-- target = value -/
def fAsg (u : PyData → PSt → Option PSt) (f : PSt → Rs PyData) : PSt → Os := fun ps => (f ps).st fun d ps1 => match u d ps1 with
  | some ps2 => .nx ps2
  | none => .bad
theorem gs_asg (he : GV X Bo W e f) (hg : GG X Bo tg T u) (hs : swapsWithSole [tg] e pos.line X.env = pure false := by rfl) (hw : swappedStores [tg] e X.env = pure none := by rfl)
    (h1 : (assignEach [tg] X.env).map (·.2) = [assign tg X.env] := by rfl) : GS X Bo W (.Assign [tg] e pos) (fAsg u f) := by
  refine (ps_asg he hg hs hw h1).imp fun D σ H q => ?_
  refine tS_bind q fun v d F F1 H1 ps ps1 sr s1 st hv q => ?_
  cases e1 : u d ps1 with
  | none => rw [e1] at q; exact q.elim
  | some ps2 =>
    rw [e1] at q
    exact ⟨F1, ps1, d, ps2, s1, hv, e1, fun σ2 _ st2 s2 => q σ2 F1 H1 st2 s2⟩

/-! ### loops -/
/-- what is walked: ds, one after the other -/
structure ItOk (K : PySem.W.Frag) (J : It) (F : Hp) (ds : List PyData) : Prop where
  go : ∀ F1 H1 (i : Nat), Same F F1 → Same F1 H1 → i < ds.length → J.go i H1
  stop : ∀ F1 H1, Same F F1 → Same F1 H1 → J.stop ds.length H1
  yld : ∀ F1 H1 (i : Nat) d x H2, Same F F1 → Same F1 H1 → ds[i]? = some d → J.yld i H1 x H2 → ∃ F2, Gr F1 H1 F2 H2 ∧ Dp K F2 x d
def tI (K : PySem.W.Frag) (mg : Str → Option Value) (Bo : Option Addr) (W : WX) (f : PSt → Rs (List PyData)) : TI := fun σ H R => tR (β := It) K mg Bo W (fun _ _ _ _ F' _ _ J ds => ItOk K J F' ds) f σ H R
def GI (X : Cx) (Bo : Option Addr) (W : WX) (tg iter : Expr) (f : PSt → Rs (List PyData)) : Prop := PI X tg iter (tI X.K X.mg Bo W f)
theorem _root_.L2.PI.imp {X : Cx} {tg e : Expr} {t t' : TI} (h : PI X tg e t) (i : ∀ σ H R, t' σ H R → t σ H R) : PI X tg e t' := ⟨fun pins s σ H R I q => h.run pins s σ H R I (i _ _ _ q)⟩
def forL (u : PyData → PSt → Option PSt) (g : PSt → Os) : List PyData → PSt → Os
  | [], ps => .nx ps
  | d :: ds, ps => match u d ps with
    | none => .bad
    | some ps1 => match g ps1 with
      | .nx ps2 => forL u g ds ps2
      | .ct ps2 => forL u g ds ps2
      | .brk ps2 => .nx ps2
      | .ret p ps2 => .ret p ps2
      | .exc x ps2 => .exc x ps2
      | .bad => .bad
def fFor (fi : PSt → Rs (List PyData)) (u : PyData → PSt → Option PSt) (g : PSt → Os) : PSt → Os := fun ps => (fi ps).st fun ds ps1 => forL u g ds ps1
theorem gs_for {iter : Expr} {body : List Stmt} {fi : PSt → Rs (List PyData)} (hp : PassesOwn (model X.prog X.w) X.A X.env X.xe) (hc : X.calm = true) (hi : GI X Bo W tg iter fi) (hg : GG X Bo tg T u) (hb : GSs X Bo W body g)
    (hs : ∀ x, foldedSetIterable iter X.env x = pure x := by intro _; rfl) : GS X Bo W (.For tg iter body [] pos) (fFor fi u g) := by
  refine (ps_for hp hc hi hg hb hs).imp fun D σ H q => ?_
  refine tS_bind q fun J ds F F1 H1 ps ps1 sr s1 st hJ q => ?_
  have hJ : ItOk X.K J F1 ds := hJ
  refine ⟨fun i m σ' H' => m = ds.length - i ∧ i ≤ ds.length ∧ ∃ F' ps', Same F1 F' ∧ SR X.K Bo F' H' σ' ps' ∧ GoalS X.K X.mg Bo W (forL u g (ds.drop i) ps') F' H' σ' ps' D,
    ⟨ds.length, by simp, Nat.zero_le _, F1, ps1, .refl _, s1, by simpa using q⟩, ?_⟩
  rintro i m σ' H' ⟨rfl, hi, F', ps', gr, s', q'⟩
  by_cases hlt : i < ds.length
  · refine .inr ⟨hJ.go F' H' i gr s'.le hlt, fun σ2 H2 => ∃ F2 ps2, Same F1 F2 ∧ SR X.K Bo F2 H2 σ2 ps2 ∧ GoalS X.K X.mg Bo W (forL u g (ds.drop (i + 1)) ps2) F2 H2 σ2 ps2 D, fun σ2 H2 ⟨F2, ps2, a, b, c⟩ => ⟨ds.length - (i + 1), by omega, rfl, hlt, F2, ps2, a, b, c⟩, fun x H2 y => ?_⟩
    obtain ⟨F2, gr2, hx⟩ := hJ.yld F' H' i ds[i] x H2 gr s'.le (by simp [hlt]) y
    rw [List.drop_eq_getElem_cons hlt] at q'
    have s2 := s'.gr gr2
    have q2 := GoalS.rebase q' (Step.of_gr gr2)
    unfold forL at q2
    cases e1 : u ds[i] ps' with
    | none => rw [e1] at q2; exact q2.elim
    | some ps3 =>
      rw [e1] at q2
      dsimp only at q2
      refine ⟨F2, ps', ds[i], ps3, s2, hx, e1, fun σ3 _ st3 s3 => ⟨F2, ps3, s3, ?_⟩⟩
      have q3 := GoalS.rebase q2 st3
      have g2 : Same F1 F2 := gr.trans gr2.grow
      cases e2 : g ps3 with
      | nx ps4 =>
        rw [e2] at q3
        exact fun σ4 F4 H4 st4 s4 => ⟨F4, ps4, g2.trans st4.grow, s4, GoalS.rebase q3 st4⟩
      | ct ps4 =>
        rw [e2] at q3
        exact fun σ4 F4 H4 st4 s4 => ⟨F4, ps4, g2.trans st4.grow, s4, GoalS.rebase q3 st4⟩
      | brk ps4 => rw [e2] at q3; exact q3
      | ret p ps4 => rw [e2] at q3; exact q3
      | exc x ps4 => rw [e2] at q3; exact q3
      | bad => rw [e2] at q3; exact q3
  · have e : i = ds.length := by omega
    subst e
    rw [List.drop_length] at q'
    exact .inl ⟨hJ.stop F' H' gr s'.le, q' σ' F' H' .refl s'⟩

def whileN (c : PSt → Rs Bool) (g : PSt → Os) : Nat → PSt → Os
  | 0, _ => .bad
  | n + 1, ps => (c ps).st fun b ps1 => if b = true then (match g ps1 with
      | .nx ps2 => whileN c g n ps2
      | .ct ps2 => whileN c g n ps2
      | .brk ps2 => .nx ps2
      | .ret p ps2 => .ret p ps2
      | .exc x ps2 => .exc x ps2
      | .bad => .bad) else .nx ps1
theorem whileN_more {c : PSt → Rs Bool} {g : PSt → Os} : ∀ {n : Nat} {ps : PSt}, whileN c g n ps ≠ .bad → whileN c g (n + 1) ps = whileN c g n ps
  | 0, ps, h => absurd rfl h
  | n + 1, ps, h => by
    unfold whileN
    unfold whileN at h
    cases e : c ps with
    | bad => rfl
    | exc x p => rfl
    | ok b ps1 =>
      rw [e] at h
      simp only [Rs.st] at h ⊢
      cases b with
      | false => rfl
      | true =>
        simp only [if_true] at h ⊢
        cases e2 : g ps1 with
        | nx ps2 => rw [e2] at h; exact whileN_more h
        | ct ps2 => rw [e2] at h; exact whileN_more h
        | brk ps2 => rfl
        | ret p ps2 => rfl
        | exc x ps2 => rfl
        | bad => rfl
theorem whileN_le {c : PSt → Rs Bool} {g : PSt → Os} {n m : Nat} {ps : PSt} (h : whileN c g n ps ≠ .bad) (hm : n ≤ m) : whileN c g m ps = whileN c g n ps := by
  induction m with
  | zero => have : n = 0 := by omega
            rw [this]
  | succ m ih =>
    by_cases e : n = m + 1
    · rw [e]
    · have h2 := ih (by omega)
      rw [whileN_more (by rw [h2]; exact h), h2]
open Classical in
/-- a while loop: as often as it takes -/
noncomputable def fWhile (c : PSt → Rs Bool) (g : PSt → Os) : PSt → Os := fun ps => if h : ∃ n, whileN c g n ps ≠ .bad then whileN c g h.choose ps else .bad
theorem fWhile_of {c : PSt → Rs Bool} {g : PSt → Os} {n : Nat} {ps : PSt} {o : Os} (e : whileN c g n ps = o) (h : o ≠ .bad) : fWhile c g ps = o := by
  have hx : ∃ n, whileN c g n ps ≠ .bad := ⟨n, by rw [e]; exact h⟩
  unfold fWhile
  rw [dif_pos hx]
  have h1 := hx.choose_spec
  by_cases l : hx.choose ≤ n
  · rw [← e]; exact (whileN_le h1 l).symm
  · rw [← e]; exact whileN_le (by rw [e]; exact h) (by omega)
theorem fWhile_ex {c : PSt → Rs Bool} {g : PSt → Os} {ps : PSt} (h : fWhile c g ps ≠ .bad) : ∃ n, whileN c g n ps = fWhile c g ps := by
  unfold fWhile at h ⊢
  split at h
  · rename_i hx
    exact ⟨hx.choose, by rw [dif_pos hx]⟩
  · exact absurd rfl h
/-- one turn at a time -/
theorem fWhile_eq (c : PSt → Rs Bool) (g : PSt → Os) (ps : PSt) : fWhile c g ps = (c ps).st fun b ps1 => if b = true then (match g ps1 with
      | .nx ps2 => fWhile c g ps2
      | .ct ps2 => fWhile c g ps2
      | .brk ps2 => .nx ps2
      | .ret p ps2 => .ret p ps2
      | .exc x ps2 => .exc x ps2
      | .bad => .bad) else .nx ps1 := by
  by_cases h : fWhile c g ps = .bad
  · -- no number of turns is enough
    have no : ∀ n, whileN c g n ps = .bad := fun n => by
      by_cases q : whileN c g n ps = .bad
      · exact q
      · exact absurd ((fWhile_of rfl q).symm.trans h) q
    rw [h]
    have n1 := no 1
    unfold whileN at n1
    cases e : c ps with
    | bad => rfl
    | exc x p => rw [e] at n1; cases n1
    | ok b ps1 =>
      rw [e] at n1
      simp only [Rs.st] at n1 ⊢
      cases b with
      | false => simp at n1
      | true =>
        simp only [if_true] at n1 ⊢
        have step : ∀ n, whileN c g (n + 1) ps = .bad := fun n => no (n + 1)
        cases e2 : g ps1 with
        | nx ps2 =>
          by_cases q : fWhile c g ps2 = .bad
          · exact q.symm
          · obtain ⟨n, hn⟩ := fWhile_ex q
            have s := step n
            unfold whileN at s
            rw [e] at s
            simp only [Rs.st, if_true, e2] at s
            exact absurd (hn.symm.trans s) q
        | ct ps2 =>
          by_cases q : fWhile c g ps2 = .bad
          · exact q.symm
          · obtain ⟨n, hn⟩ := fWhile_ex q
            have s := step n
            unfold whileN at s
            rw [e] at s
            simp only [Rs.st, if_true, e2] at s
            exact absurd (hn.symm.trans s) q
        | brk ps2 => rw [e2] at n1; cases n1
        | ret p ps2 => rw [e2] at n1; cases n1
        | exc x ps2 => rw [e2] at n1; cases n1
        | bad => rfl
  · obtain ⟨n, hn⟩ := fWhile_ex h
    cases n with
    | zero => exact absurd hn.symm h
    | succ n =>
      rw [← hn]
      rw [← hn] at h
      unfold whileN at h ⊢
      cases e : c ps with
      | bad => rfl
      | exc x p => rfl
      | ok b ps1 =>
        rw [e] at h
        simp only [Rs.st] at h ⊢
        cases b with
        | false => rfl
        | true =>
          simp only [if_true] at h ⊢
          cases e2 : g ps1 with
          | nx ps2 => rw [e2] at h; exact (fWhile_of rfl h).symm
          | ct ps2 => rw [e2] at h; exact (fWhile_of rfl h).symm
          | brk ps2 => rfl
          | ret p ps2 => rfl
          | exc x ps2 => rfl
          | bad => rfl
theorem gs_while {e : Expr} {body : List Stmt} (hp : PassesOwn (model X.prog X.w) X.A X.env X.xe) (hc : GT X Bo W e c) (hb : GSs X Bo W body g) : GS X Bo W (.While e body [] pos) (fWhile c g) := by
  refine (ps_while hp hc hb).imp fun D σ H ⟨F, ps, sr, q⟩ => ?_
  have nb : fWhile c g ps ≠ .bad := fun z => by rw [z] at q; exact q
  obtain ⟨n, hn⟩ := fWhile_ex nb
  rw [← hn] at q
  refine ⟨fun m σ' H' => ∃ F' ps', SR X.K Bo F' H' σ' ps' ∧ GoalS X.K X.mg Bo W (whileN c g m ps') F' H' σ' ps' D, ⟨n, F, ps, sr, q⟩, ?_⟩
  rintro m σ' H' ⟨F', ps', s', q'⟩
  cases m with
  | zero => exact q'.elim
  | succ m =>
    refine gos_bind (R1 := RB) s' q' fun b b' F1 H1 ps1 s1 st1 hb q1 => ?_
    subst hb
    cases b with
    | false => exact q1 σ' F1 H1 .refl s1
    | true =>
      refine ⟨fun σ2 H2 => ∃ F2 ps2, SR X.K Bo F2 H2 σ2 ps2 ∧ GoalS X.K X.mg Bo W (whileN c g m ps2) F2 H2 σ2 ps2 D, fun σ2 H2 z => ⟨m, Nat.lt_succ_self _, z⟩, F1, ps1, s1, ?_⟩
      simp only [if_true] at q1
      cases e2 : g ps1 with
      | nx ps4 =>
        rw [e2] at q1
        exact fun σ4 F4 H4 st4 s4 => ⟨F4, ps4, s4, GoalS.rebase q1 st4⟩
      | ct ps4 =>
        rw [e2] at q1
        exact fun σ4 F4 H4 st4 s4 => ⟨F4, ps4, s4, GoalS.rebase q1 st4⟩
      | brk ps4 => rw [e2] at q1; exact q1
      | ret p ps4 => rw [e2] at q1; exact q1
      | exc x ps4 => rw [e2] at q1; exact q1
      | bad => rw [e2] at q1; exact q1
end
end GL

/-! GLd: defs, calls, raise, try, comprehensions -/
namespace GL
open PySem PySem.Spec L2
open PyProof.Rows hiding St

inductive FR where
  | ok (p : PV) | exc (x : Exn) | bad
def Os.fin : Os → FR
  | .nx _ => .ok (.val .none)
  | .ret p _ => .ok p
  | .exc x _ => .exc x
  | _ => .bad
def RF0 (K : PySem.W.Frag) (F' H H' : Hp) (v : V) : PV → Prop
  | .val d => Dp K F' v d
  | .own d => ∃ a, v = .ref a ∧ OwnAt K F' H' a d ∧ H a = none
def FGoal (K : PySem.W.Frag) (mg : Str → Option Value) (r : FR) (F H : Hp) (Q : VK) (E : XK) : Prop := match r with
  | .ok p => ∀ v F' H', Gr F H F' H' → RF0 K F' H H' v p → Q v H'
  | .exc x => ∀ cls dd F' H', Gr F H F' H' → ExR K mg x cls dd F' H' → E cls dd H'
  | .bad => False
/-- what a def promises that changes none of its arguments -/
def spP (K : PySem.W.Frag) (mg : Str → Option Value) (n : Nat) (M : List PyData → FR) : Sp := fun vs H Q E => vs.length = n ∧ ∃ F ds, Same F H ∧ DpAll K F vs ds ∧ FGoal K mg (M ds) F H Q E
structure GFn (P : Program) (w : World) (K : PySem.W.Frag) (mg : Str → Option Value) (base : Heap) (x : Str) (k n : Nat) (M : List PyData → FR) : Prop where
  ex : ∃ f fd ps, FnOk P w K mg base (L2.CX P w) k f fd ps (spP K mg n M) ∧ mg x = some (.ref f) ∧ PySem.W.keepIn K (.ref f) = true ∧ Binds K fd ps []
/-- the same with an argument that it changes, the first one: a list that its caller holds -/
inductive FRU where
  | ok (p : PV) (u : List PyData) | exc (x : Exn) (u : List PyData) | bad
structure GrB (a : Addr) (F H F' H' : Hp) : Prop where
  grow : Same F F'
  fresh : ∀ b o, F' b = some o → F b = some o ∨ H b = none
  keep : ∀ b o, b ≠ a → H b = some o → H' b = some o
  le : Same F' H'
def FGoalU (K : PySem.W.Frag) (mg : Str → Option Value) (r : FRU) (a : Addr) (F H : Hp) (Q : VK) (E : XK) : Prop := match r with
  | .ok p u => ∀ v F' H' us, GrB a F H F' H' → H' a = some (.lst us) → DpAll K F' us u → RF0 K F' H H' v p → Q v H'
  | .exc x u => ∀ cls dd F' H' us, GrB a F H F' H' → H' a = some (.lst us) → DpAll K F' us u → ExR K mg x cls dd F' H' → E cls dd H'
  | .bad => False
def spU (K : PySem.W.Frag) (mg : Str → Option Value) (n : Nat) (M : List PyData → List PyData → FRU) : Sp := fun vs H Q E => vs.length = n + 1 ∧ ∃ a us vs' F u ds, vs = .ref a :: vs' ∧ H a = some (.lst us) ∧ F a = none ∧ Same F H ∧ DpAll K F us u ∧ DpAll K F vs' ds ∧ FGoalU K mg (M u ds) a F H Q E
structure GFu (P : Program) (w : World) (K : PySem.W.Frag) (mg : Str → Option Value) (base : Heap) (x : Str) (k n : Nat) (M : List PyData → List PyData → FRU) : Prop where
  ex : ∃ f fd ps, FnOk P w K mg base (L2.CX P w) k f fd ps (spU K mg n M) ∧ mg x = some (.ref f) ∧ PySem.W.keepIn K (.ref f) = true ∧ Binds K fd ps []

/-- a function that says at most as much -/
def FR.le (r s : FR) : Prop := r = .bad ∨ r = s
def FRU.le (r s : FRU) : Prop := r = .bad ∨ r = s
section
variable {P : Program} {w : World} {K : PySem.W.Frag} {mg : Str → Option Value} {base : Heap} {x : Str} {k j n : Nat}
theorem GFn.mono {M M' : List PyData → FR} (G : GFn P w K mg base x k n M) (hk : k ≤ j) (h : ∀ ds, (M' ds).le (M ds)) : GFn P w K mg base x j n M' := by
  obtain ⟨f, fd, ps, h1, h2⟩ := G.ex
  refine ⟨f, fd, ps, (h1.mono hk).imp fun vs H Q E ⟨hl, F, ds, a, b, q⟩ => ⟨hl, F, ds, a, b, ?_⟩, h2⟩
  rcases h ds with e | e
  · rw [e] at q; exact q.elim
  · rw [← e]; exact q
theorem GFu.mono {M M' : List PyData → List PyData → FRU} (G : GFu P w K mg base x k n M) (hk : k ≤ j) (h : ∀ u ds, (M' u ds).le (M u ds)) : GFu P w K mg base x j n M' := by
  obtain ⟨f, fd, ps, h1, h2⟩ := G.ex
  refine ⟨f, fd, ps, (h1.mono hk).imp fun vs H Q E ⟨hl, a, us, vs', F, u, ds, z1, z2, z3, z4, z5, z6, q⟩ => ⟨hl, a, us, vs', F, u, ds, z1, z2, z3, z4, z5, z6, ?_⟩, h2⟩
  rcases h u ds with e | e
  · rw [e] at q; exact q.elim
  · rw [← e]; exact q
/-- nothing is claimed -/
theorem GFn.zero {f : Addr} {fd : FuncData} {ps : List Str} (hl : ps.length = n) (hm : mg x = some (.ref f)) (hk : PySem.W.keepIn K (.ref f) = true) (hb : Binds K fd ps []) : GFn P w K mg base x k n fun _ => .bad :=
  ⟨f, fd, ps, ⟨fun vs H Q E q => q.1.trans hl.symm, fun _ _ _ _ _ _ _ _ _ _ _ _ _ q => by obtain ⟨_, _, _, _, _, q⟩ := q; exact q.elim⟩, hm, hk, hb⟩
end

/-! ### a def's body -/
def startP (n : Nat) (ds : List PyData) : PSt := ds.map (fun d => some (.val d)) ++ List.replicate (n - ds.length) none
theorem start_get {N : List Str} {vs : List V} {i : Nat} : (L2.start N vs)[i]? = if i < vs.length then (vs[i]?).map some else if i < vs.length + (N.length - vs.length) then some none else none := by
  unfold L2.start
  by_cases h : i < vs.length
  · rw [if_pos h, List.getElem?_append_left (by simpa using h), List.getElem?_map]
  · rw [if_neg h, List.getElem?_append_right (by simpa using h), List.getElem?_replicate]
    simp only [List.length_map]
    by_cases h2 : i < vs.length + (N.length - vs.length)
    · rw [if_pos h2, if_pos (by omega)]
    · rw [if_neg h2, if_neg (by omega)]
theorem startP_get {n : Nat} {ds : List PyData} {i : Nat} : (startP n ds)[i]? = if i < ds.length then (ds[i]?).map (fun d => some (.val d)) else if i < ds.length + (n - ds.length) then some none else none := by
  unfold startP
  by_cases h : i < ds.length
  · rw [if_pos h, List.getElem?_append_left (by simpa using h), List.getElem?_map]
  · rw [if_neg h, List.getElem?_append_right (by simpa using h), List.getElem?_replicate]
    simp only [List.length_map]
    by_cases h2 : i < ds.length + (n - ds.length)
    · rw [if_pos h2, if_pos (by omega)]
    · rw [if_neg h2, if_neg (by omega)]
theorem startP_noown {n : Nat} {ds : List PyData} {i : Nat} {d : PyData} : (startP n ds)[i]? ≠ some (some (.own d)) := fun e => by
  rw [startP_get] at e
  split at e
  · cases q : ds[i]? with
    | none => rw [q] at e; cases e
    | some z => rw [q] at e; cases e
  · split at e <;> cases e
theorem sr_start {K : PySem.W.Frag} {F H : Hp} {N : List Str} {vs : List V} {ds : List PyData} (h : Same F H) (hd : DpAll K F vs ds) (hl : vs.length ≤ N.length) : SR K none F H (L2.start N vs) (startP N.length ds) := by
  have hn : vs.length = ds.length := hd.length
  refine ⟨h, ?_, fun i x p e1 e2 => ?_, fun i j a d e h1 => (startP_noown h1).elim, fun a e => by cases e⟩
  · unfold startP L2.start; simp; omega
  · rw [start_get] at e1
    rw [startP_get] at e2
    by_cases hi : i < vs.length
    · rw [if_pos hi] at e1
      rw [if_pos (by omega)] at e2
      cases q : ds[i]? with
      | none => rw [q] at e2; cases e2
      | some d =>
        obtain ⟨v, h1, h2⟩ := hd.get q
        rw [h1] at e1
        rw [q] at e2
        cases e1; cases e2
        exact ⟨v, rfl, h2⟩
    · rw [if_neg (by omega)] at e2
      split at e2
      · cases e2; trivial
      · cases e2
theorem start_unowned {σ : St} {n : Nat} {ds : List PyData} {b : Addr} : ¬ Owned σ (startP n ds) b := fun ⟨_, _, h, _⟩ => startP_noown h
section
variable {P : Program} {w : World} {K : PySem.W.Frag} {mg : Str → Option Value} {base : Heap}
theorem Step.gr {F H F' H' : Hp} {σ σ' : St} {ps ps' : PSt} (st : Step F H σ ps F' H' σ' ps') (no : ∀ b, ¬ Owned σ ps b) (le : Same F' H') : Gr F H F' H' :=
  ⟨st.grow, fun b o e => (st.fresh b o e).elim .inl fun z => z.elim .inr fun z => (no b z).elim, fun b o e => st.keep b o e (no b), le⟩
/-- THE RULE for a def: its body as a function of pure states -/
theorem fn_body {x qual : Str} {st : Stmt} {f : Addr} {fd : FuncData} {N ps : List Str} {k n : Nat} {g : PSt → Os} (Fn : FunD K x qual (defArgs st) (defBody st) (defScope st) [] [] f fd) (S : FnScope N ps (defScope st)) (hn : ps.length = n)
    (hbody : ∀ (cdv : Value) (A : Around) (outer : List Env) (s : Shared) (H : Hp) (E : XK), Room k (A.deeper (envOfC qual (defScope st) s.heap.objs.size f cdv)) →
      GSs (cxOf (L2.CX P w) P w K mg base N qual (defScope st) f cdv A outer s H E) none (fun cls d _ H => E cls d H) (defBody st) g) : FnOk P w K mg base (L2.CX P w) (k + 1) f fd ps (spP K mg n (fun ds => (g (startP N.length ds)).fin)) := by
  refine Fn.ok S (fun vs H Q E q => q.1.trans hn.symm) fun cdv A outer s H vs Q E hr q => ⟨_, hbody cdv A outer s H E hr, ?_⟩
  obtain ⟨hl, F, ds, hs, hd, q⟩ := q
  dsimp only at q
  have hpl : ps.length ≤ N.length := by have := congrArg List.length S.pre; rw [List.length_take] at this; omega
  refine ⟨F, startP N.length ds, sr_start hs hd (by omega), ?_⟩
  show GoalS K mg none (fun cls d _ H => E cls d H) (g (startP N.length ds)) F H _ _ _
  cases e : g (startP N.length ds) with
  | nx ps' =>
    rw [e] at q
    exact fun σ' F' H' st s1 => q .non F' H' (st.gr (fun _ => start_unowned) s1.le) .non
  | ret p ps' =>
    rw [e] at q
    refine fun v σ' F' H' st s1 r => q v F' H' (st.gr (fun _ => start_unowned) s1.le) ?_
    match p, r with
    | .val d, r => exact r
    | .own d, r =>
      obtain ⟨a, h1, h2, _, h3⟩ := r
      exact ⟨a, h1, h2, h3.resolve_left start_unowned⟩
  | exc x ps' =>
    rw [e] at q
    exact fun cls dd σ' F' H' st s1 r => q cls dd F' H' (st.gr (fun _ => start_unowned) s1.le) r
  | brk ps' => rw [e] at q; exact q.elim
  | ct ps' => rw [e] at q; exact q.elim
  | bad => rw [e] at q; exact q.elim

theorem GFn.of_body {x qual : Str} {st : Stmt} {f : Addr} {fd : FuncData} {N ps : List Str} {k n : Nat} {g : PSt → Os} (Fn : FunD K x qual (defArgs st) (defBody st) (defScope st) [] [] f fd) (hm : mg x = some (.ref f)) (hb : Binds K fd ps []) (S : FnScope N ps (defScope st)) (hn : ps.length = n)
    (hbody : ∀ (cdv : Value) (A : Around) (outer : List Env) (s : Shared) (H : Hp) (E : XK), Room k (A.deeper (envOfC qual (defScope st) s.heap.objs.size f cdv)) →
      GSs (cxOf (L2.CX P w) P w K mg base N qual (defScope st) f cdv A outer s H E) none (fun cls d _ H => E cls d H) (defBody st) g) : GFn P w K mg base x (k + 1) n (fun ds => (g (startP N.length ds)).fin) :=
  ⟨f, fd, ps, fn_body Fn S hn hbody, hm, Fn.kp, hb⟩

/-- the start with a lent list -/
def startU (n : Nat) (u ds : List PyData) : PSt := some (.own (.list u)) :: startP (n - 1) ds
def uAt (ps : PSt) : List PyData := match ps[0]? with
  | some (some (PV.own (PyData.list u))) => u
  | _ => []
def Os.finU : Os → FRU
  | .nx ps => .ok (.val .none) (uAt ps)
  | .ret p ps => .ok p (uAt ps)
  | .exc x ps => .exc x (uAt ps)
  | _ => .bad
theorem uAt_of {Bo : Option Addr} {F H : Hp} {σ : St} {ps : PSt} {a : Addr} (s : SR K Bo F H σ ps) (hb : Bo = some a) : F a = none ∧ ∃ us, H a = some (.lst us) ∧ DpAll K F us (uAt ps) := by
  obtain ⟨h1, d, h2⟩ := s.bo a hb
  obtain ⟨b, h3, h4, xs, ds, e, h5, h6⟩ := s.own h2
  rw [h1] at h3; cases h3
  subst e
  refine ⟨h4, xs, h5, ?_⟩
  unfold uAt
  rw [h2]
  exact h6
theorem startU_own {σ : St} {n : Nat} {u ds : List PyData} {a b : Addr} (e : σ[0]? = some (some (.ref a))) (h : Owned σ (startU n u ds) b) : b = a := by
  obtain ⟨i, d, h1, h2⟩ := h
  cases i with
  | zero => rw [e] at h2; cases h2; rfl
  | succ i =>
    unfold startU at h1
    rw [List.getElem?_cons_succ] at h1
    exact (startP_noown h1).elim
theorem GFu.of_body {x qual : Str} {st : Stmt} {f : Addr} {fd : FuncData} {N ps : List Str} {k n : Nat} {g : PSt → Os} (Fn : FunD K x qual (defArgs st) (defBody st) (defScope st) [] [] f fd) (hm : mg x = some (.ref f)) (hb : Binds K fd ps []) (S : FnScope N ps (defScope st)) (hn : ps.length = n + 1)
    (hbody : ∀ (cdv : Value) (A : Around) (outer : List Env) (s : Shared) (H : Hp) (E : XK) (a : Addr), Room k (A.deeper (envOfC qual (defScope st) s.heap.objs.size f cdv)) →
      GSs (cxOf (L2.CX P w) P w K mg base N qual (defScope st) f cdv A outer s H E) (some a) (fun cls d _ H => E cls d H) (defBody st) g) : GFu P w K mg base x (k + 1) n (fun u ds => (g (startU N.length u ds)).finU) := by
  refine ⟨f, fd, ps, ?_, hm, Fn.kp, hb⟩
  refine Fn.ok S (fun vs H Q E q => q.1.trans hn.symm) fun cdv A outer s H vs Q E hr q => ?_
  obtain ⟨hl, a, us, vs', F, u, ds, rfl, ha, hF, hs, hu, hd, q⟩ := q
  dsimp only at q
  refine ⟨_, hbody cdv A outer s H E a hr, ?_⟩
  have hpl : ps.length ≤ N.length := by have := congrArg List.length S.pre; rw [List.length_take] at this; omega
  have hvl : vs'.length = n := by simpa using hl
  have s0 : (L2.start N (.ref a :: vs'))[0]? = some (some (.ref a)) := by unfold L2.start; simp
  have est : start N (.ref a :: vs') = some (.ref a) :: L2.start (N.drop 1) vs' := by
    unfold L2.start
    simp only [List.map_cons, List.cons_append, List.length_cons, List.length_drop]
    congr 3
    omega
  have sr : SR K (some a) F H (L2.start N (.ref a :: vs')) (startU N.length u ds) := by
    have sp : SR K none F H (start (N.drop 1) vs') (startP (N.drop 1).length ds) := sr_start hs hd (by rw [List.length_drop]; omega)
    rw [List.length_drop] at sp
    rw [est]
    refine ⟨hs, by unfold startU; simp only [List.length_cons]; rw [sp.len], fun i z p e1 e2 => ?_, fun i j b d e h1 h2 h3 h4 => ?_, fun c e => ?_⟩
    · cases i with
      | zero =>
        simp only [startU, List.getElem?_cons_zero] at e1 e2
        cases e1; cases e2
        exact ⟨a, rfl, hF, us, u, rfl, ha, hu⟩
      | succ i =>
        unfold startU at e2
        rw [List.getElem?_cons_succ] at e1 e2
        exact sp.sl i z p e1 e2
    · have z : ∀ {i : Nat} {d : PyData}, (startU N.length u ds)[i]? = some (some (.own d)) → i = 0 := fun {i d} q => by
        cases i with
        | zero => rfl
        | succ i =>
          unfold startU at q
          rw [List.getElem?_cons_succ] at q
          exact (startP_noown q).elim
      rw [z h1, z h2]
    · cases e
      exact ⟨by simp, .list u, by simp [startU]⟩
  refine ⟨F, startU N.length u ds, sr, ?_⟩
  have own : ∀ b, Owned (L2.start N (.ref a :: vs')) (startU N.length u ds) b → b = a := fun b h => startU_own s0 h
  have grb : ∀ {F' H' : Hp} {σ' : St} {ps' : PSt}, Step F H (L2.start N (.ref a :: vs')) (startU N.length u ds) F' H' σ' ps' → SR K (some a) F' H' σ' ps' → GrB a F H F' H' := fun {F' H' σ' ps'} st s1 => by
    refine ⟨st.grow, fun b o e => ?_, fun b o ne e => st.keep b o e fun h => ne (own b h), s1.le⟩
    rcases st.fresh b o e with z | z | z
    · exact .inl z
    · exact .inr z
    · have := own b z
      subst this
      obtain ⟨n1, _⟩ := uAt_of s1 rfl
      rw [n1] at e; cases e
  show GoalS K mg (some a) (fun cls d _ H => E cls d H) (g (startU N.length u ds)) F H _ _ _
  cases e : g (startU N.length u ds) with
  | nx ps' =>
    rw [e] at q
    intro σ' F' H' st s1
    obtain ⟨n1, us', h1, h2⟩ := uAt_of s1 rfl
    exact q .non F' H' us' (grb st s1) h1 h2 .non
  | ret p ps' =>
    rw [e] at q
    intro v σ' F' H' st s1 r
    obtain ⟨n1, us', h1, h2⟩ := uAt_of s1 rfl
    refine q v F' H' us' (grb st s1) h1 h2 ?_
    match p, r with
    | .val d, r => exact r
    | .own d, r =>
      obtain ⟨b, z1, z2, zn, z3⟩ := r
      refine ⟨b, z1, z2, z3.resolve_left fun z => zn ?_⟩
      have := own b z
      subst this
      obtain ⟨r1, d', r2⟩ := s1.bo b rfl
      exact ⟨0, d', r2, r1⟩
  | exc x ps' =>
    rw [e] at q
    intro cls dd σ' F' H' st s1 r
    obtain ⟨n1, us', h1, h2⟩ := uAt_of s1 rfl
    exact q cls dd F' H' us' (grb st s1) h1 h2 r
  | brk ps' => rw [e] at q; exact q.elim
  | ct ps' => rw [e] at q; exact q.elim
  | bad => rw [e] at q; exact q.elim
end
end GL

/-! GLe: calls of defs, raise, try, comprehensions, sources of loops, lists changed in place -/
namespace GL
open PySem PySem.Spec L2
open PyProof.Rows hiding St

section
variable {X : Cx} {Bo : Option Addr} {W : WX} {e e1 e2 : Expr} {es : List Expr} {st : Stmt} {f f1 f2 : PSt → Rs PyData} {fa : PSt → Rs (List PyData)} {fo : PSt → Rs PV} {c : PSt → Rs Bool} {g g1 g2 : PSt → Os} {pos p : Pos} {x : Str} {k n : Nat}

/-! ### calls of defs -/
def FR.rs (r : FR) (ps : PSt) : Rs PV := match r with
  | .ok p => .ok p ps
  | .exc x => .exc x ps
  | .bad => .bad
def fCall (n : Nat) (M : List PyData → FR) (fa : PSt → Rs (List PyData)) : PSt → Rs PV := fun ps => (fa ps).bind fun ds ps1 => if ds.length = n then (M ds).rs ps1 else .bad
theorem call_end {K : PySem.W.Frag} {mg : Str → Option Value} {F H : Hp} {σ : St} {ps : PSt} {Q : VK} {r : FR} (sr : SR K Bo F H σ ps) (q : Goal K mg Bo W (RO K) (r.rs ps) F H σ ps Q) : FGoal K mg r F H Q (WE W σ) := by
  cases r with
  | ok p =>
    intro v F' H' gr h
    refine q v F' H' (.of_gr gr) (sr.gr gr) ?_
    match p, h with
    | .val d, h => exact h
    | .own d, h =>
      obtain ⟨a, h1, h2, h3⟩ := h
      refine ⟨a, h1, h2, ?_, .inr h3⟩
      rintro ⟨i, d', q1, q2⟩
      obtain ⟨b, q3, _, xs, ds, _, q4, _⟩ := sr.own q1
      rw [q2] at q3; cases q3
      rw [h3] at q4; cases q4
  | exc x => exact fun cls dd F' H' gr h => q cls dd F' H' (.of_gr gr) (sr.gr gr) h
  | bad => exact q.elim
theorem go_call {M : List PyData → FR} (G : GFn X.prog X.w X.K X.mg X.base x k n M) (hr : Room k X.A) (hg : Gl X x) (tk : Takes X W) (ha : GA X Bo W (e :: es) fa) (hdb : (x == ("__debug__" : Str)) = false := by decide)
    (he : starEach (e :: es) X.env = (false, eval e X.env) :: starEach es X.env := by rfl) (hpl : (backTo pos (starEach es X.env)).any (·.1) = false := by rfl) : GO X Bo W (.Call (.Name x p) (e :: es) [] pos) (fCall n M fa) := by
  obtain ⟨f, fd, ps, h1, h2, h3, h4⟩ := G.ex
  refine (pe_callS h1 hr hg h2 h3 h4 (fun σ => passAt tk σ) ha hdb he hpl).imp fun σ H Q q => ?_
  refine tR_bind RO.rb q fun vs ds F F1 H1 ps ps1 sr st hv q => ?_
  split at q
  · rename_i hl
    exact ⟨by rw [L2.DpAll.length hv, hl], F1, ds, sr.le, hv, call_end sr q⟩
  · exact q.elim
def isOwn (i : Nat) (ps : PSt) : Bool := match ps[i]? with
  | some (some (.own _)) => true
  | _ => false
theorem isOwn_at {i : Nat} {ps : PSt} (h : isOwn i ps = true) : ∃ d, ps[i]? = some (some (.own d)) := by
  unfold isOwn at h
  split at h
  · rename_i d e; exact ⟨d, e⟩
  · cases h
def fCallU (i n : Nat) (M : List PyData → List PyData → FRU) (fa : PSt → Rs (List PyData)) : PSt → Rs PV := fun ps => if isOwn i ps = false then .bad else (fa ps).bind fun ds ps1 => if ds.length = n then (match ps1[i]? with
    | some (some (.own (.list u))) => (match M u ds with
      | .ok p u' => .ok p (ps1.set i (some (.own (.list u'))))
      | .exc x u' => .exc x (ps1.set i (some (.own (.list u'))))
      | .bad => .bad)
    | _ => .bad) else .bad
theorem go_callU (i : Nat) {y : Str} {py : Pos} {M : List PyData → List PyData → FRU} (G : GFu X.prog X.w X.K X.mg X.base x k n M) (hr : Room k X.A) (hg : Gl X x) (tk : Takes X W) (ha : GA X Bo W es fa) (hN : X.N[i]? = some y := by rfl)
    (hv : Vis X.env.scope y := by first | exact Or.inl rfl | exact Or.inr (Or.inl rfl) | exact Or.inr (Or.inr rfl)) (hd : (y == ("__debug__" : Str)) = false := by decide) (hcd : (y == ("__classdict__" : Str)) = false := by decide) (hdb : (x == ("__debug__" : Str)) = false := by decide)
    (he : starEach (.Name y py :: es) X.env = (false, eval (.Name y py) X.env) :: starEach es X.env := by rfl) (hpl : (backTo pos (starEach es X.env)).any (·.1) = false := by rfl) : GO X Bo W (.Call (.Name x p) (.Name y py :: es) [] pos) (fCallU i n M fa) := by
  obtain ⟨f, fd, ps, h1, h2, h3, h4⟩ := G.ex
  refine (pe_callS h1 hr hg h2 h3 h4 (fun σ => passAt tk σ) (pa_cons (pe_var hN hv hd hcd) ha he) hdb he hpl).imp fun σ H Q q => ?_
  obtain ⟨F, ps, sr0, q⟩ := q
  unfold fCallU at q
  split at q
  · exact q.elim
  rename_i ho
  obtain ⟨d0, hd0⟩ := isOwn_at (by simpa using ho)
  obtain ⟨a0, ha0, _⟩ := sr0.own hd0
  -- the slot's address does not change
  have key : ∀ v, σ[i]? = some (some v) → tR X.K X.mg Bo W (RA X.K) fa σ H fun vs H1 => spU X.K X.mg n M (v :: vs) H1 Q (WE W σ) := fun v hi => by
    refine go_bind RO.rb sr0 q fun vs ds F1 H1 ps1 sr st hv q => ?_
    split at q
    · rename_i hl
      match e : ps1[i]?, q with
      | some (some (.own (.list u))), q =>
        obtain ⟨a, ha', hn, us, u', eu, hH, hus⟩ := sr.own e
        cases eu
        rw [hi] at ha'; cases ha'
        refine ⟨by simp [L2.DpAll.length hv, hl], a, us, vs, F1, u, ds, rfl, hH, hn, sr.le, hus, hv, ?_⟩
        have own : Owned σ ps1 a := ⟨i, _, e, hi⟩
        -- behind the call
        have back : ∀ {F' H' : Hp} {us' : List V} {u' : List PyData}, GrB a F1 H1 F' H' → H' a = some (.lst us') → DpAll X.K F' us' u' →
            SR X.K Bo F' H' σ (ps1.set i (some (.own (.list u')))) ∧ Step F1 H1 σ ps1 F' H' σ (ps1.set i (some (.own (.list u')))) := fun {F' H' us' u'} gb h1 h2 => by
          -- first the change, then the rest
          have hFa : F' a = none := by
            cases z : F' a with
            | none => rfl
            | some o =>
              rcases gb.fresh a o z with y | y
              · rw [hn] at y; cases y
              · rw [hH] at y; cases y
          have step1 : Step F1 H1 σ ps1 F' H' σ (ps1.set i (some (.own (.list u')))) := by
            refine ⟨gb.grow, fun b o z => (gb.fresh b o z).imp_right .inl, fun b o z no => gb.keep b o (fun w => by subst w; exact no own) z, fun b z => ?_⟩
            obtain ⟨j, d, q1, q2⟩ := z
            by_cases hj : i = j
            · subst hj; exact .inl ⟨i, _, e, q2⟩
            · rw [List.getElem?_set_ne hj] at q1; exact .inl ⟨j, d, q1, q2⟩
          refine ⟨⟨gb.le, by simp [sr.len], fun j z p e1 e2 => ?_, fun j l b d1 d2 z1 z2 z3 z4 => ?_, fun c z => ?_⟩, step1⟩
          · have hi' : i < ps1.length := (List.getElem?_eq_some_iff.mp e).1
            by_cases hj : i = j
            · subst hj
              rw [List.getElem?_set_self hi'] at e2; cases e2
              rw [hi] at e1; cases e1
              exact ⟨a, rfl, hFa, us', u', rfl, h1, h2⟩
            · rw [List.getElem?_set_ne hj] at e2
              have r := sr.sl j z p e1 e2
              match p, r with
              | none, _ => trivial
              | some (.val d), r =>
                obtain ⟨v, r1, r2⟩ := r
                exact ⟨v, r1, r2.mono gb.grow⟩
              | some (.own d), r =>
                obtain ⟨b, r1, rn, ys, es', r3, r4, r5⟩ := r
                have ne : b ≠ a := fun w => by
                  subst w; subst r1
                  exact hj (sr.apart i j b _ _ e e2 hi e1)
                refine ⟨b, r1, ?_, ys, es', r3, gb.keep b _ ne r4, r5.mono gb.grow⟩
                cases z : F' b with
                | none => rfl
                | some o =>
                  rcases gb.fresh b o z with y | y
                  · rw [rn] at y; cases y
                  · rw [r4] at y; cases y
          · have old : ∀ {j : Nat} {d : PyData}, (ps1.set i (some (.own (.list u'))))[j]? = some (some (.own d)) → ∃ d', ps1[j]? = some (some (.own d')) := fun {j d} q => by
              by_cases hj : i = j
              · subst hj; exact ⟨_, e⟩
              · rw [List.getElem?_set_ne hj] at q; exact ⟨_, q⟩
            obtain ⟨_, o1⟩ := old z1
            obtain ⟨_, o2⟩ := old z2
            exact sr.apart j l b _ _ o1 o2 z3 z4
          · obtain ⟨r1, d1, r2⟩ := sr.bo c z
            refine ⟨r1, ?_⟩
            by_cases hj : i = 0
            · subst hj; exact ⟨_, List.getElem?_set_self (List.getElem?_eq_some_iff.mp e).1⟩
            · exact ⟨d1, by rw [List.getElem?_set_ne hj]; exact r2⟩
        dsimp only at q
        cases eM : M u ds with
        | ok p u' =>
          rw [eM] at q
          intro v F' H' us' gb hu1 hu2 hr0
          obtain ⟨s2, st2⟩ := back gb hu1 hu2
          refine q v F' H' st2 s2 ?_
          match p, hr0 with
          | .val d, hr0 => exact hr0
          | .own d, hr0 =>
            obtain ⟨b, y1, y2, y3⟩ := hr0
            refine ⟨b, y1, y2, ?_, .inr y3⟩
            intro z
            rcases st2.own b z with y | y
            · obtain ⟨j, d', q1, q2⟩ := y
              obtain ⟨b', q3, _, xs, _, _, q4, _⟩ := sr.own q1
              rw [q2] at q3; cases q3
              rw [y3] at q4; cases q4
            · obtain ⟨j, d', q1, q2⟩ := z
              by_cases hj : i = j
              · subst hj
                rw [hi] at q2; cases q2
                rw [hH] at y; cases y
              · rw [List.getElem?_set_ne hj] at q1
                obtain ⟨b', q3, _, xs, _, _, q4, _⟩ := sr.own q1
                rw [q2] at q3; cases q3
                rw [y3] at q4; cases q4
        | exc x u' =>
          rw [eM] at q
          intro cls dd F' H' us' gb hu1 hu2 hx
          obtain ⟨s2, st2⟩ := back gb hu1 hu2
          exact q cls dd F' H' st2 s2 hx
        | bad => rw [eM] at q; exact q.elim
      | none, q => exact q.elim
      | some none, q => exact q.elim
      | some (some (.val _)), q => exact q.elim
      | some (some (.own .none)), q => exact q.elim
      | some (some (.own (.bool _))), q => exact q.elim
      | some (some (.own (.int _))), q => exact q.elim
      | some (some (.own (.str _))), q => exact q.elim
      | some (some (.own (.tuple _))), q => exact q.elim
      | some (some (.own (.dict _))), q => exact q.elim
    · exact q.elim
  exact ⟨_, ha0, key _ ha0⟩
end
end GL

/-! GLf: raise, try, comprehensions, sources of loops, lists changed in place -/
namespace GL
open PySem PySem.Spec L2
open PyProof.Rows hiding St

section
variable {X : Cx} {Bo : Option Addr} {W : WX} {e e1 e2 : Expr} {es : List Expr} {st : Stmt} {f f1 f2 : PSt → Rs PyData} {fa : PSt → Rs (List PyData)} {fo : PSt → Rs PV} {c : PSt → Rs Bool} {g g1 g2 : PSt → Os} {pos p : Pos} {x : Str} {k n : Nat}

/-! ### raise -/
/-- X(), X an own exception class without own __init__ -/
theorem pmk_own0 {C : Addr} {bmB : List Value} {B newId initId : String} {x : Str} {p pos : Pos} (F : ExcBaseFacts B newId initId bmB) (q : PySem.W.excIn X.K C bmB newId = true) (gC : X.mg x = some (.ref C))
    (kC : PySem.W.keepIn X.K (.ref C) = true) (r : Raises X (.ref C)) (hg : Gl X x) (hdb : (x == ("__debug__" : Str)) = false := by decide) :
    PMk X (.Call (.Name x p) [] [] pos) (fun _ H Q => Q (.ref C) none H) := by
  intro pins s σ H Q I h
  refine wpAny_Call_Name_kw (ld_glob I hg gC ?_ hdb)
  refine PySem.W.callWith_K0 I.kIn kC ?_
  show wpAny _ _ (call (.ref C) []) _ _ _
  obtain ⟨bm, N, nm, qn, bs, hdct, sn, sub, ab, col, dd, k0, k1, k2, k3, k5, mN, hC, hN, hni, T⟩ := exc_obj I.kIn q
  refine wpAny_call_exc_subT F T hC hN hni (fun h' e hm => ?_) (by show 0 ≤ sizeLine; exact Nat.zero_le _)
  exact mk_of I hm r h (I.hok.gone hm.new)
theorem gs_raise0 {C : Addr} (gC : X.mg x = some (.ref C)) (hc : X.calm = true) (tk : Takes X W) (hp : PMk X e (fun _ H Q => Q (.ref C) none H)) : GS X Bo W (.Raise (some e) none pos) (fun ps => .exc ⟨x, none⟩ ps) := by
  refine (ps_raise hc tk hp).imp fun D σ H ⟨F, ps, sr, q⟩ => ?_
  exact q (.ref C) none σ F H .refl sr ⟨C, gC, rfl, rfl⟩

/-! ### try .. except x: suite -/
def Os.nox : Os → Os
  | .exc _ _ => .bad
  | o => o
def fTry (L : List Str) (x : Str) (g h : PSt → Os) : PSt → Os := fun ps => match g ps with
  | .exc z ps1 => if z.cls = x then (h ps1).nox else if z.cls ∈ L then .exc z ps1 else .bad
  | .nx ps1 => .nx ps1
  | .ret p ps1 => .ret p ps1
  | .brk ps1 => .brk ps1
  | .ct ps1 => .ct ps1
  | .bad => .bad
theorem gs_try {L : List Str} {S : Addr} {body suite : List Stmt} {b₀ : Stmt} {np pos pos' : Pos} (hs : X.stack = X.env :: X.outer) (hf : X.env.frame = some X.env.locals) (hg : Gl X x) (hm : X.mg x = some (.ref S)) (tk : Takes X W)
    (hyes : PySem.W.exmOne X.K (.ref S) (.ref S) = some true) (hno : ∀ y ∈ L, y ≠ x → ∀ C, X.mg y = some (.ref C) → PySem.W.exmOne X.K (.ref C) (.ref S) = some false)
    (hb : ∀ (W : WX) (pn : List (Addr × Obj)) (xe : Value → Shared → Prop), Takes (X.tr pn xe) W → PassesOwn (model X.prog X.w) X.A X.env xe → GSs (X.tr pn xe) Bo W body g)
    (hsu : ∀ (a : Addr) (oe : Obj) (pn : List (Addr × Obj)), GSs (X.suite a ((a, oe) :: pn)) Bo (fun _ _ _ _ => False) (b₀ :: suite) g1) (hdb : (x == ("__debug__" : Str)) = false := by decide) :
    GS X Bo W (.Try body [.ExceptHandler (some (.Name x np)) none (b₀ :: suite) pos'] [] [] pos) (fTry L x g g1) := by
  refine (ps_try_only (c := .ref S) (Wout := W) (tb := fun W => tS X.K X.mg Bo W g) (ts := fun _ _ _ => tS X.K X.mg Bo (fun _ _ _ _ => False) g1) hs hf ⟨hg, hdb, .inl hm⟩ tk (fun W pn xe tk hp => hb W pn xe tk hp) (fun a oe cls d pn hz hx => hsu a oe pn)).imp fun D σ H ⟨F, ps, sr, q⟩ => ?_
  refine ⟨F, ps, sr, ?_⟩
  unfold fTry at q
  cases e : g ps with
  | exc z ps1 =>
    rw [e] at q
    dsimp only at q
    intro cls dd σ' F' H' st s1 hx
    obtain ⟨C, hC, rfl, hd⟩ := id hx
    by_cases hz : z.cls = x
    · rw [if_pos hz] at q
      rw [hz, hm] at hC
      cases hC
      refine ⟨true, hyes, fun _ a ha => ⟨F', ps1, s1, ?_⟩, fun w => nomatch w⟩
      have q2 := GoalS.rebase q st
      cases e2 : g1 ps1 with
      | exc z2 ps2 => rw [e2] at q2; exact q2.elim
      | nx ps2 => rw [e2] at q2; exact q2
      | ret p ps2 => rw [e2] at q2; exact q2
      | brk ps2 => rw [e2] at q2; exact q2
      | ct ps2 => rw [e2] at q2; exact q2
      | bad => rw [e2] at q2; exact q2
    · rw [if_neg hz] at q
      split at q
      · rename_i hL
        exact ⟨false, hno _ hL hz C hC, fun w => (nomatch w), fun _ => q (.ref C) dd σ' F' H' st s1 hx⟩
      · exact q.elim
  | nx ps2 => rw [e] at q; exact q
  | ret p ps2 => rw [e] at q; exact q
  | brk ps2 => rw [e] at q; exact q
  | ct ps2 => rw [e] at q; exact q
  | bad => rw [e] at q; exact q
end
end GL

/-! GLg: comprehensions, sources of loops, lists changed in place -/
namespace GL
open PySem PySem.Spec L2
open PyProof.Rows hiding St

/-! ### comprehensions -/
def wipeP (ps : PSt) : List Nat → PSt
  | [] => ps
  | v :: vs => (wipeP ps vs).set v none
theorem wipeP_length (ps : PSt) : ∀ vs : List Nat, (wipeP ps vs).length = ps.length
  | [] => rfl
  | v :: vs => by unfold wipeP; rw [List.length_set, wipeP_length ps vs]
theorem wipeP_some {ps : PSt} {i : Nat} {p : PV} : ∀ {vs : List Nat}, (wipeP ps vs)[i]? = some (some p) → ps[i]? = some (some p) ∧ i ∉ vs
  | [], h => ⟨h, by simp⟩
  | v :: vs, h => by
    unfold wipeP at h
    by_cases hi : v = i
    · subst hi
      by_cases hv : v < (wipeP ps vs).length
      · rw [List.getElem?_set_self hv] at h; cases h
      · rw [List.getElem?_eq_none (by simpa using hv)] at h; cases h
    · rw [List.getElem?_set_ne hi] at h
      obtain ⟨h1, h2⟩ := wipeP_some h
      exact ⟨h1, by simp only [List.mem_cons, not_or]; exact ⟨fun e => hi e.symm, h2⟩⟩
theorem wipeP_out {ps : PSt} {i : Nat} : ∀ {vs : List Nat}, i ∉ vs → (wipeP ps vs)[i]? = ps[i]?
  | [], _ => rfl
  | v :: vs, h => by
    have h1 : v ≠ i := fun e => h (by rw [e]; exact List.mem_cons_self)
    have h2 : i ∉ vs := fun m => h (List.mem_cons_of_mem _ m)
    unfold wipeP
    rw [List.getElem?_set_ne h1]
    exact wipeP_out h2
theorem wipe_in {ps : PSt} {i : Nat} : ∀ {vs : List Nat}, i ∈ vs → (wipeP ps vs)[i]? = none ∨ (wipeP ps vs)[i]? = some none
  | v :: vs, h => by
    unfold wipeP
    by_cases hi : v = i
    · subst hi
      by_cases hv : v < (wipeP ps vs).length
      · rw [List.getElem?_set_self hv]; exact .inr rfl
      · rw [List.getElem?_eq_none (by simpa using hv)]; exact .inl rfl
    · rw [List.getElem?_set_ne hi]
      rcases List.mem_cons.mp h with e | h
      · exact absurd e.symm hi
      · exact wipe_in h
section
variable {K : PySem.W.Frag} {mg : Str → Option Value} {Bo : Option Addr} {W : WX} {F H F1 H1 F2 H2 : Hp} {σ σ1 σ2 : St} {ps ps1 ps2 : PSt} {vs : List Nat}
theorem owned_wipe {b : Addr} : Owned (wipe σ vs) (wipeP ps vs) b ↔ Owned σ (wipeP ps vs) b := by
  constructor
  · rintro ⟨i, d, h1, h2⟩
    obtain ⟨_, hi⟩ := wipeP_some h1
    exact ⟨i, d, h1, by rw [wipe_out hi] at h2; exact h2⟩
  · rintro ⟨i, d, h1, h2⟩
    obtain ⟨_, hi⟩ := wipeP_some h1
    exact ⟨i, d, h1, by rw [wipe_out hi]; exact h2⟩
theorem owned_wipeP {b : Addr} (h : Owned σ (wipeP ps vs) b) : Owned σ ps b := by
  obtain ⟨i, d, h1, h2⟩ := h
  exact ⟨i, d, (wipeP_some h1).1, h2⟩
/-- slots that agree but where nothing is known -/
theorem SR.agree (s : SR K Bo F H σ ps) (hl : σ1.length = σ.length) (hb : Bo = none ∨ 0 ∉ vs) (h : ∀ i, i ∉ vs → σ1[i]? = σ[i]?) : SR K Bo F H σ1 (wipeP ps vs) := by
  refine ⟨s.le, by rw [wipeP_length, s.len, hl], fun i x p e1 e2 => ?_, fun i j a d e h1 h2 h3 h4 => ?_, fun a e => ?_⟩
  · cases p with
    | none => trivial
    | some p =>
      obtain ⟨q1, q2⟩ := wipeP_some e2
      rw [h i q2] at e1
      exact s.sl i x _ e1 q1
  · obtain ⟨q1, q2⟩ := wipeP_some h1
    obtain ⟨q3, q4⟩ := wipeP_some h2
    rw [h i q2] at h3
    rw [h j q4] at h4
    exact s.apart i j a d e q1 q3 h3 h4
  · obtain ⟨r1, d, r2⟩ := s.bo a e
    have n : 0 ∉ vs := hb.resolve_left (by rw [e]; simp)
    exact ⟨by rw [h 0 n]; exact r1, d, by rw [wipeP_out n]; exact r2⟩
theorem SR.wipe (s : SR K Bo F H σ ps) (hb : Bo = none ∨ 0 ∉ vs) : SR K Bo F H (wipe σ vs) (wipeP ps vs) := s.agree (wipe_length _ _) hb fun i hi => wipe_out hi
theorem Step.wipe : Step F H σ ps F H (wipe σ vs) (wipeP ps vs) := ⟨.refl _, fun _ _ e => .inl e, fun _ _ e _ => e, fun b h => .inl (owned_wipeP (owned_wipe.mp h))⟩
def compL (u : PyData → PSt → Option PSt) (c : PSt → Rs Bool) (fe : PSt → Rs PyData) (vs : List Nat) : List PyData → PSt → List PyData → Rs (List PyData)
  | [], ps, acc => .ok acc ps
  | d :: ds, ps, acc => match u d ps with
    | none => .bad
    | some ps1 => (c ps1).bind fun b ps2 => if b = true then ((fe ps2).bind fun y ps3 => if acc.length < sizeLine then compL u c fe vs ds (wipeP ps3 vs) (acc ++ [y]) else .bad) else compL u c fe vs ds (wipeP ps2 vs) acc
def Rs.nox {α : Type} : Rs α → Rs α
  | .exc _ _ => .bad
  | r => r
/-- names of the block that the def has too: what they held -/
def keepV : Option (Option PV) → Option PV
  | some (some (.val d)) => some (.val d)
  | _ => none
def restP (ps1 ps2 : PSt) : List Nat → PSt
  | [] => ps2
  | v :: vs => (restP ps1 ps2 vs).set v (keepV ps1[v]?)
def Rs.mapP {α : Type} (r : Rs α) (g : PSt → PSt) : Rs α := match r with
  | .ok a ps => .ok a (g ps)
  | .exc x ps => .exc x ps
  | .bad => .bad
theorem SR.back (s : SR K Bo F H σ ps) {i : Nat} {v : V} {d : PyData} (hb : Bo = none ∨ i ≠ 0) (e : σ[i]? = some (some v)) (h : Dp K F v d) : SR K Bo F H σ (ps.set i (some (.val d))) := by
  have z := s.setV (v := v) hb h
  have : σ.set i (some v) = σ := by
    refine List.ext_getElem? fun j => ?_
    by_cases hj : i = j
    · subst hj
      rw [e, List.getElem?_set_self (List.getElem?_eq_some_iff.mp e).1]
    · rw [List.getElem?_set_ne hj]
  rwa [this] at z
theorem SR.rest (s1 : SR K Bo F1 H1 σ ps1) (g : Same F1 F2) (hb : Bo = none ∨ 0 ∉ vs) (s : SR K Bo F2 H2 σ ps2) : SR K Bo F2 H2 σ (restP ps1 ps2 vs) ∧ ∀ b, Owned σ (restP ps1 ps2 vs) b → Owned σ ps2 b := by
  induction vs with
  | nil => exact ⟨s, fun b h => h⟩
  | cons v vs ih =>
    obtain ⟨a, b⟩ := ih (hb.imp_right fun q z => q (List.mem_cons_of_mem _ z))
    have hv : Bo = none ∨ v ≠ 0 := hb.imp_right fun q z => q (by rw [z]; exact List.mem_cons_self)
    unfold restP
    match e : ps1[v]? with
    | some (some (.val d)) =>
      obtain ⟨x, h1, h2⟩ := s1.val e
      exact ⟨a.back hv h1 (h2.mono g), fun c h => b c (by
        obtain ⟨i, d', q1, q2⟩ := h
        by_cases hi : v = i
        · subst hi
          by_cases hl : v < (restP ps1 ps2 vs).length
          · rw [List.getElem?_set_self hl] at q1; cases q1
          · rw [List.getElem?_eq_none (by simpa using hl)] at q1; cases q1
        · rw [List.getElem?_set_ne hi] at q1; exact ⟨i, d', q1, q2⟩)⟩
    | some (some (.own d)) => exact ⟨a.kill hv, fun c h => b c (owned_kill h)⟩
    | some none => exact ⟨a.kill hv, fun c h => b c (owned_kill h)⟩
    | none => exact ⟨a.kill hv, fun c h => b c (owned_kill h)⟩
def fLc (fi : PSt → Rs (List PyData)) (u : PyData → PSt → Option PSt) (c : PSt → Rs Bool) (fe : PSt → Rs PyData) (vs : List Nat) : PSt → Rs PV := fun ps => (fi ps).bind fun ds ps1 => ((((compL u c fe vs ds (wipeP ps1 vs) []).nox).map fun l => PV.own (.list l)).mapP fun p => restP ps1 p vs)
def cYes : PSt → Rs Bool := .ok true
theorem wipeP_in {ps : PSt} {i : Nat} : ∀ {vs : List Nat}, i ∈ vs → (wipeP ps vs)[i]? = if i < ps.length then some none else none
  | v :: vs, h => by
    unfold wipeP
    by_cases hi : v = i
    · subst hi
      by_cases hv : v < ps.length
      · rw [List.getElem?_set_self (by rw [wipeP_length]; exact hv), if_pos hv]
      · rw [List.getElem?_eq_none (by simpa [wipeP_length] using hv), if_neg hv]
    · rw [List.getElem?_set_ne hi]
      rcases List.mem_cons.mp h with e | h
      · exact absurd e.symm hi
      · exact wipeP_in h
theorem wipeP_idem : wipeP (wipeP ps vs) vs = wipeP ps vs := by
  refine List.ext_getElem? fun i => ?_
  by_cases hi : i ∈ vs
  · rw [wipeP_in hi, wipeP_in hi, wipeP_length]
  · rw [wipeP_out hi]
theorem wipe_in' {σ : St} {i : Nat} : ∀ {vs : List Nat}, i ∈ vs → (wipe σ vs)[i]? = if i < σ.length then some none else none
  | v :: vs, h => by
    unfold wipe
    by_cases hi : v = i
    · subst hi
      by_cases hv : v < σ.length
      · rw [List.getElem?_set_self (by rw [wipe_length]; exact hv), if_pos hv]
      · rw [List.getElem?_eq_none (by simpa [wipe_length] using hv), if_neg hv]
    · rw [List.getElem?_set_ne hi]
      rcases List.mem_cons.mp h with e | h
      · exact absurd e.symm hi
      · exact wipe_in' h
theorem wipe_only {T : List Nat} (h : Only T (L2.wipe σ vs) σ1) (hT : ∀ i ∈ T, i ∈ vs) : L2.wipe σ1 vs = L2.wipe σ vs := by
  refine List.ext_getElem? fun i => ?_
  by_cases hi : i ∈ vs
  · rw [wipe_in' hi, wipe_in' hi, h.1, wipe_length]
  · rw [wipe_out hi, h.2 i fun z => hi (hT i z)]
/-- a list that is nobody's is changed -/
theorem SR.other {D : Addr} {o : HO} (s : SR K Bo F H σ ps) (hF : F D = none) (no : ¬ Owned σ ps D) : SR K Bo F (upd H D o) σ ps := by
  refine ⟨fun b u e => ?_, s.len, fun i x p e1 e2 => ?_, s.apart, s.bo⟩
  · have ne : b ≠ D := fun w => by subst w; rw [hF] at e; cases e
    rw [upd_ne ne]; exact s.le b u e
  · have q := s.sl i x p e1 e2
    match p, q with
    | none, _ => trivial
    | some (.val d), q => exact q
    | some (.own d), q =>
      obtain ⟨b, r1, rn, ys, es, r3, r4, r5⟩ := q
      have ne : b ≠ D := fun w => by subst w; subst r1; exact no ⟨i, d, e2, e1⟩
      exact ⟨b, r1, rn, ys, es, r3, by rw [upd_ne ne]; exact r4, r5⟩
theorem lc_data {T : List Nat} {u : PyData → PSt → Option PSt} {c : PSt → Rs Bool} {fe : PSt → Rs PyData} {fi : PSt → Rs (List PyData)} {Q : VK} (hb : Bo = none ∨ 0 ∉ vs) (hT : ∀ i ∈ T, i ∈ vs)
    (q : tR K mg Bo W (RO K) (fLc fi u c fe vs) σ H Q) : tLc (tI K mg Bo W fi) (tG K Bo T u) (tR K mg Bo (fun _ _ _ _ => False) RB c) (tR K mg Bo (fun _ _ _ _ => False) (RV K) fe) vs σ H Q := by
  refine tR_bind RO.rb q fun J ds F F1 H1 ps ps1 sr st hJ q => ?_
  have hJ : ItOk K J F1 ds := hJ
  intro D hD
  generalize hR : compL u c fe vs ds (wipeP ps1 vs) [] = R at q
  have sw : SR K Bo F1 H1 (L2.wipe σ vs) (wipeP ps1 vs) := sr.wipe hb
  have g0 : Gr F1 H1 F1 (upd H1 D (.lst [])) := ⟨.refl _, fun _ _ e => .inl e, same_upd hD, sr.le.trans (same_upd hD)⟩
  have noD : ¬ Owned (L2.wipe σ vs) (wipeP ps1 vs) D := by
    rintro ⟨i, d, q1, q2⟩
    obtain ⟨b, q3, _, xs, _, _, q4, _⟩ := sw.own q1
    rw [q2] at q3; cases q3
    rw [hD] at q4; cases q4
  refine ⟨fun i m H' => m = ds.length - i ∧ i ≤ ds.length ∧ ∃ F' p' acc xs, SR K Bo F' H' (L2.wipe σ vs) (wipeP p' vs) ∧ Step F1 H1 (L2.wipe σ vs) (wipeP ps1 vs) F' H' (L2.wipe σ vs) (wipeP p' vs) ∧ F' D = none ∧ ¬ Owned (L2.wipe σ vs) (wipeP p' vs) D ∧ H' D = some (.lst xs) ∧ DpAll K F' xs acc ∧
      compL u c fe vs (ds.drop i) (wipeP p' vs) acc = R,
    ⟨ds.length, by simp, Nat.zero_le _, F1, ps1, [], [], sw.gr g0, .of_gr g0, sr.le.free hD, noD, upd_same, .nil, by simpa using hR⟩, ?_⟩
  rintro i m H' ⟨rfl, hi, F', p', acc, xs, s', st', hF', noD', hH', hacc, hc⟩
  by_cases hlt : i < ds.length
  · -- what a turn is to reach
    refine .inr ⟨hJ.go F' H' i st'.grow s'.le hlt, fun H2 => ∃ F2 p2 acc2 xs2, SR K Bo F2 H2 (L2.wipe σ vs) (wipeP p2 vs) ∧ Step F1 H1 (L2.wipe σ vs) (wipeP ps1 vs) F2 H2 (L2.wipe σ vs) (wipeP p2 vs) ∧ F2 D = none ∧ ¬ Owned (L2.wipe σ vs) (wipeP p2 vs) D ∧ H2 D = some (.lst xs2) ∧ DpAll K F2 xs2 acc2 ∧
      compL u c fe vs (ds.drop (i + 1)) (wipeP p2 vs) acc2 = R,
      fun H2 ⟨F2, p2, acc2, xs2, h1, h2, h3, h4, h5, h6, h7⟩ => ⟨ds.length - (i + 1), by omega, rfl, hlt, F2, p2, acc2, xs2, h1, h2, h3, h4, h5, h6, h7⟩, fun x H2 y => ?_⟩
    obtain ⟨F2, gr2, hx⟩ := hJ.yld F' H' i ds[i] x H2 st'.grow s'.le (by simp [hlt]) y
    have s2 := s'.gr gr2
    have st2 := st'.trans (.of_gr gr2)
    have hF2 : F2 D = none := by
      cases z : F2 D with
      | none => rfl
      | some o =>
        rcases gr2.fresh D o z with w | w
        · rw [hF'] at w; cases w
        · rw [hH'] at w; cases w
    have hH2 := gr2.keep _ _ hH'
    rw [List.drop_eq_getElem_cons hlt] at hc
    unfold compL at hc
    cases e1 : u ds[i] (wipeP p' vs) with
    | none =>
      rw [e1] at hc
      dsimp only at hc
      rw [← hc] at q
      exact q.elim
    | some p3 =>
      rw [e1] at hc
      dsimp only at hc
      refine ⟨F2, wipeP p' vs, ds[i], p3, s2, hx, e1, fun σ3 on st3 s3 => ?_⟩
      have ew := wipe_only on hT
      refine ⟨ew, ?_⟩
      have st3' := st2.trans st3
      have noD3 : ¬ Owned σ3 p3 D := fun z => (st3.own D z).elim noD' fun w => by rw [hH2] at w; cases w
      -- the test
      refine ⟨F2, p3, s3, ?_⟩
      cases e2 : c p3 with
      | bad => rw [e2] at hc; rw [← hc] at q; exact q.elim
      | exc x p4 => rw [e2] at hc; rw [← hc] at q; exact q.elim
      | ok b p4 =>
        rw [e2] at hc
        intro b' F4 H4 st4 s4 eb
        have eb : b' = b := eb
        subst eb
        have st4' := st3'.trans st4
        have noD4 : ¬ Owned σ3 p4 D := fun z => (st4.own D z).elim noD3 fun w => by rw [hH2] at w; cases w
        have hH4 := st4.keep _ _ hH2 noD3
        have hF4 : F4 D = none := by
          cases z : F4 D with
          | none => rfl
          | some o =>
            rcases st4.fresh D o z with w | w | w
            · rw [hF2] at w; cases w
            · rw [hH2] at w; cases w
            · exact (noD3 w).elim
        cases b' with
        | false =>
          simp only [Rs.bind] at hc
          refine ⟨F4, p4, acc, xs, ?_, ?_, hF4, ?_, hH4, hacc.mono (gr2.grow.trans st4.grow), by simpa using hc⟩
          · rw [← ew]; exact s4.wipe hb
          · rw [← ew]; rw [← ew] at st4'; exact st4'.trans .wipe
          · rw [← ew]; exact fun z => noD4 (owned_wipeP (owned_wipe.mp z))
        | true =>
          simp only [Rs.bind, if_true] at hc
          refine ⟨F4, p4, s4, ?_⟩
          cases e3 : fe p4 with
          | bad => rw [e3] at hc; rw [← hc] at q; exact q.elim
          | exc x p5 => rw [e3] at hc; rw [← hc] at q; exact q.elim
          | ok yv p5 =>
            rw [e3] at hc
            intro v F5 H5 st5 s5 hv
            have hv : Dp K F5 v yv := hv
            have st5' := st4'.trans st5
            have noD5 : ¬ Owned σ3 p5 D := fun z => (st5.own D z).elim noD4 fun w => by rw [hH4] at w; cases w
            have hH5 := st5.keep _ _ hH4 noD4
            have hF5 : F5 D = none := by
              cases z : F5 D with
              | none => rfl
              | some o =>
                rcases st5.fresh D o z with w | w | w
                · rw [hF4] at w; cases w
                · rw [hH4] at w; cases w
                · exact (noD4 w).elim
            simp only at hc
            by_cases hz : acc.length < sizeLine
            · rw [if_pos hz] at hc
              have lx : xs.length = acc.length := hacc.length
              refine ⟨xs, hH5, by rw [lx]; exact hz, F5, p5, acc ++ [yv], xs ++ [v], ?_, ?_, hF5, ?_, upd_same, (hacc.mono ((gr2.grow.trans st4.grow).trans st5.grow)).append (.cons hv .nil), hc⟩
              · -- the list itself is nobody's
                have s6 := s5.wipe (vs := vs) hb
                rw [ew] at s6
                exact s6.other hF5 (by rw [← ew]; exact fun z => noD5 (owned_wipeP (owned_wipe.mp z)))
              · have st6 : Step F1 H1 (L2.wipe σ vs) (wipeP ps1 vs) F5 H5 (L2.wipe σ vs) (wipeP p5 vs) := by
                  have z := st5'.trans (Step.wipe (vs := vs))
                  rw [ew] at z
                  exact z
                exact ⟨st6.grow, st6.fresh, fun b o e n => by
                  have ne : b ≠ D := fun w => by subst w; rw [hD] at e; cases e
                  rw [upd_ne ne]; exact st6.keep b o e n, st6.own⟩
              · rw [← ew]; exact fun z => noD5 (owned_wipeP (owned_wipe.mp z))
            · rw [if_neg hz] at hc
              rw [← hc] at q; exact q.elim
  · have e : i = ds.length := by omega
    subst e
    rw [List.drop_length] at hc
    unfold compL at hc
    rw [← hc] at q
    refine .inl ⟨hJ.stop F' H' st'.grow s'.le, ?_⟩
    have sF : SR K Bo F' H' σ (wipeP p' vs) := by
      have z := s'.agree (σ1 := σ) (vs := vs) (wipe_length _ _).symm hb fun i hi => (wipe_out hi).symm
      rwa [wipeP_idem] at z
    have own : ∀ b, Owned σ (wipeP p' vs) b → Owned (L2.wipe σ vs) (wipeP p' vs) b := fun b h => owned_wipe.mpr h
    obtain ⟨sR, oR⟩ := sr.rest (vs := vs) st'.grow hb sF
    have stF : Step F1 H1 σ ps1 F' H' σ (restP ps1 (wipeP p' vs) vs) := by
      have z : Step F1 H1 σ ps1 F' H' (L2.wipe σ vs) (wipeP p' vs) := Step.wipe.trans st'
      exact ⟨z.grow, z.fresh, z.keep, fun b h => z.own b (own b (oR b h))⟩
    refine q (.ref D) F' H' stF sR ⟨D, rfl, ⟨hF', xs, acc, rfl, hH', hacc⟩, fun z => noD' (own D (oR D z)), .inr hD⟩
end

section
variable {X : Cx} {Bo : Option Addr} {W : WX} {e e1 e2 : Expr} {es : List Expr} {f f1 f2 : PSt → Rs PyData} {fa : PSt → Rs (List PyData)} {fo : PSt → Rs PV} {c : PSt → Rs Bool} {g : PSt → Os} {pos p : Pos} {x : Str} {k n : Nat} {tg iter elt : Expr} {ifs : List Expr} {u : PyData → PSt → Option PSt} {T : List Nat} {fi : PSt → Rs (List PyData)} {fe : PSt → Rs PyData}
/-- no exception comes out of a comprehension -/
abbrev W0 : WX := fun _ _ _ _ => False
def GTs (X : Cx) (Bo : Option Addr) (W : WX) (ifs : List Expr) (c : PSt → Rs Bool) : Prop := PTs X ifs (tR X.K X.mg Bo W RB c)
theorem gts_nil : GTs X Bo W [] cYes := ⟨fun pins s σ H Q I ⟨F, ps, sr, q⟩ => pts_nil.run pins s σ H Q I (q true F H .refl sr rfl)⟩
theorem gts_one (h : GT X Bo W e c) : GTs X Bo W [e] c := pts_one h
theorem go_lc {scope : Scope} (own : List (Str × Nat)) (hc : X.calm = true) (hN : X.N.Nodup) (hi : GI X Bo W tg iter fi) (ok : BlkOk X.N X.env.scope scope own)
    (hg : ∀ (s : Shared) (H : Hp) (C : Addr) (cl : List (Str × Addr)) (fp : List Addr), GG (X.blk s H scope (compEnvC scope cl C X.env) fp) Bo tg T u) (ht : ∀ (s : Shared) (H : Hp) (C : Addr) (cl : List (Str × Addr)) (fp : List Addr), GTs (X.blk s H scope (compEnvC scope cl C X.env) fp) Bo W0 ifs c)
    (he : ∀ (s : Shared) (H : Hp) (C : Addr) (cl : List (Str × Addr)) (fp : List Addr), GV (X.blk s H scope (compEnvC scope cl C X.env) fp) Bo W0 elt fe) (hb : Bo = none ∨ 0 ∉ own.map (·.2) := by first | exact .inl rfl | exact .inr (by decide)) (hT : ∀ i ∈ T, i ∈ own.map (·.2) := by decide)
    (hs : ∀ x, foldedSetIterable iter X.env x = pure x := by intro _; rfl) : GO X Bo W (.ListComp elt [⟨tg, iter, ifs, 0⟩] scope pos) (fLc fi u c fe (own.map (·.2))) :=
  (pe_lc (g := tG X.K Bo T u) (tt := tR X.K X.mg Bo W0 RB c) (te := tR X.K X.mg Bo W0 (RV X.K) fe) hc hN hi ok hg ht he hs).imp fun σ H Q q => lc_data hb hT q
theorem gs_setLc (i : Nat) {y : Str} {py spos : Pos} {scope : Scope} (own : List (Str × Nat)) (hc : X.calm = true) (hN : X.N.Nodup) (hyl : X.env.scope.names.lookup y = some .local)
    (hsw : swapsWith (.ListComp elt [⟨tg, iter, ifs, 0⟩] scope pos) (some (.Name y py)) spos.line X.env = pure true) (hi : GI X Bo W tg iter fi) (ok : BlkOk X.N X.env.scope scope own)
    (hg : ∀ (s : Shared) (H : Hp) (C : Addr) (cl : List (Str × Addr)) (fp : List Addr), GG (X.blk s H scope (compEnvC scope cl C X.env) fp) Bo tg T u) (ht : ∀ (s : Shared) (H : Hp) (C : Addr) (cl : List (Str × Addr)) (fp : List Addr), GTs (X.blk s H scope (compEnvC scope cl C X.env) fp) Bo W0 ifs c)
    (he : ∀ (s : Shared) (H : Hp) (C : Addr) (cl : List (Str × Addr)) (fp : List Addr), GV (X.blk s H scope (compEnvC scope cl C X.env) fp) Bo W0 elt fe) (hb : Bo = none ∨ 0 ∉ own.map (·.2) := by first | exact .inl rfl | exact .inr (by decide)) (hT : ∀ i ∈ T, i ∈ own.map (·.2) := by decide)
    (hbi : Bo = none ∨ i ≠ 0 := by first | exact .inl rfl | exact .inr (by decide)) (hy : X.N[i]? = some y := by rfl) (hs : ∀ x, foldedSetIterable iter X.env x = pure x := by intro _; rfl) :
    GS X Bo W (.Assign [.Name y py] (.ListComp elt [⟨tg, iter, ifs, 0⟩] scope pos) spos) (fSet i (fLc fi u c fe (own.map (·.2)))) := by
  refine (ps_setLc (g := tG X.K Bo T u) (tt := tR X.K X.mg Bo W0 RB c) (te := tR X.K X.mg Bo W0 (RV X.K) fe) hc hN hy hyl hsw hi ok hg ht he hs).imp fun D σ H q => ?_
  have q2 : tR X.K X.mg Bo W (RO X.K) (fLc fi u c fe (own.map (·.2))) σ H (fun x H1 => gName i x σ H1 D.nx) := by
    refine tS_bind0 q fun v p F F1 H1 ps ps1 sr s1 st hv q => ?_
    obtain ⟨s2, st2⟩ := store_pv hbi s1 st hv
    exact q _ F1 H1 st2 s2
  exact lc_data hb hT q2

/-! ### what is walked -/
theorem pi_seq {l : Expr} {tl : TE} (hl : PE X l tl) : PI X tg l (fun σ H R => tl σ H fun x H1 => (∃ a, x = .ref a ∧ (∃ xs, SqL X.K H1 a xs) ∧ R (Itl X.K a) H1) ∨ (∃ a, x = .ref a ∧ (∃ xs, SqT X.K H1 a xs) ∧ R (Itt X.K a) H1)) := by
  refine ⟨fun pins s σ H R I h => ?_⟩
  refine thn (hl.run pins s σ H _ I h) fun v s1 ⟨x, H1, I1, r1, q1⟩ => ?_
  have pv : PE { X with } l (fun _ H2 Q => Q x H2) → True := fun _ => trivial
  rcases q1 with ⟨a, e, ⟨xs, hq⟩, q⟩ | ⟨a, e, ⟨xs, hq⟩, q⟩
  · subst e
    cases r1
    obtain ⟨its, rv, p, hz⟩ := I1.list hq
    refine wpAny_pyIter_list p.isList ?_
    refine ⟨s1.heap.objs.size, [s1.heap.objs.size], _, _, H1, rfl, I1.kept (t' := s1.toks) fun b o e => Heap.get?_push_of_some _ e, turn_list a _, ⟨_, Heap.get?_push_size _ rfl, rfl, rfl⟩, fun b hb => ?_, q⟩
    have e : b = s1.heap.objs.size := by simpa using hb
    subst e
    exact I1.fpOk (Nat.le_refl _) (I1.hok.fresh (Nat.le_refl _))
  · subst e
    cases r1
    obtain ⟨its, rv, p, hz⟩ := I1.tuple hq
    refine wpAny_pyIter_tuple (show s1.heap.IsTuple a its.toArray from p) ?_
    refine ⟨s1.heap.objs.size, [s1.heap.objs.size], _, _, H1, rfl, I1.kept (t' := s1.toks) fun b o e => Heap.get?_push_of_some _ e, turn_tuple a _, ⟨_, Heap.get?_push_size _ rfl, rfl, rfl⟩, fun b hb => ?_, q⟩
    have e : b = s1.heap.objs.size := by simpa using hb
    subst e
    exact I1.fpOk (Nat.le_refl _) (I1.hok.fresh (Nat.le_refl _))
def seqOf : PyData → Option (List PyData)
  | .list ds => some ds
  | .tuple ds => some ds
  | _ => none
def fSeqI (f : PSt → Rs PyData) : PSt → Rs (List PyData) := fun ps => (f ps).bind fun d ps1 => opt (seqOf d) ps1
theorem itl_ok {K : PySem.W.Frag} {F : Hp} {a : Addr} {xs : List V} {ds : List PyData} (h : SqL K F a xs) (hd : DpAll K F xs ds) : ItOk K (Itl K a) F ds where
  go := fun F1 H1 i g1 g2 hi => by
    have hl : i < xs.length := by rw [hd.length]; exact hi
    exact ⟨xs, xs[i], g2.seq (g1.seq h), by simp [hl]⟩
  stop := fun F1 H1 g1 g2 => ⟨xs, g2.seq (g1.seq h), by rw [hd.length]; exact Nat.le_refl _⟩
  yld := fun F1 H1 i d x H2 g1 g2 hi y => by
    obtain ⟨rfl, y⟩ := y
    obtain ⟨v, hv, hd'⟩ := hd.get hi
    have := y xs (g2.seq (g1.seq h))
    rw [hv] at this; cases this
    exact ⟨F1, .refl g2, hd'.mono g1⟩
theorem itt_ok {K : PySem.W.Frag} {F : Hp} {a : Addr} {xs : List V} {ds : List PyData} (h : SqT K F a xs) (hd : DpAll K F xs ds) : ItOk K (Itt K a) F ds where
  go := fun F1 H1 i g1 g2 hi => by
    have hl : i < xs.length := by rw [hd.length]; exact hi
    exact ⟨xs, xs[i], same_sqt g2 (same_sqt g1 h), by simp [hl]⟩
  stop := fun F1 H1 g1 g2 => ⟨xs, same_sqt g2 (same_sqt g1 h), by rw [hd.length]; exact Nat.le_refl _⟩
  yld := fun F1 H1 i d x H2 g1 g2 hi y => by
    obtain ⟨rfl, y⟩ := y
    obtain ⟨v, hv, hd'⟩ := hd.get hi
    have := y xs (same_sqt g2 (same_sqt g1 h))
    rw [hv] at this; cases this
    exact ⟨F1, .refl g2, hd'.mono g1⟩
theorem gi_seq (h : GV X Bo W e f) : GI X Bo W tg e (fSeqI f) := by
  refine (pi_seq h).imp fun σ H R q => ?_
  refine tR_bind (R2 := fun _ _ _ _ F' _ _ J ds => ItOk X.K J F' ds) (fun _ _ _ _ _ _ _ _ _ _ _ _ _ h => h) q fun v d F F1 H1 ps ps1 sr st hv q => ?_
  match d, hv, q with
  | .list ds, hv, q =>
    cases hv with
    | lst s a => exact .inl ⟨_, rfl, ⟨_, sr.le.seq s⟩, q _ F1 H1 .refl sr (itl_ok s a)⟩
  | .tuple ds, hv, q =>
    cases hv with
    | tup s a => exact .inr ⟨_, rfl, ⟨_, same_sqt sr.le s⟩, q _ F1 H1 .refl sr (itt_ok s a)⟩
  | .none, _, q => exact q.elim
  | .bool _, _, q => exact q.elim
  | .int _, _, q => exact q.elim
  | .str _, _, q => exact q.elim
  | .dict _, _, q => exact q.elim
def rangeD (lo : Int) (n : Nat) : List PyData := (List.range n).map fun (i : Nat) => PyData.int (lo + (i : Int))
theorem itr_ok {K : PySem.W.Frag} {F : Hp} {lo : Int} {n : Nat} : ItOk K (Itr lo n) F (rangeD lo n) where
  go := fun F1 H1 i g1 g2 hi => by
    have hi : i < n := by simpa [rangeD] using hi
    exact hi
  stop := fun F1 H1 g1 g2 => by simp [rangeD, Itr]
  yld := fun F1 H1 i d x H2 g1 g2 hi y => by
    obtain ⟨rfl, rfl⟩ := y
    unfold rangeD at hi
    rw [List.getElem?_map] at hi
    cases e : (List.range n)[i]? with
    | none => rw [e] at hi; cases hi
    | some j =>
      rw [e] at hi
      have : j = i := by
        rw [List.getElem?_range (by have := (List.getElem?_eq_some_iff.mp e).1; simpa using this)] at e
        exact (Option.some.inj e).symm
      subst this
      cases hi
      exact ⟨F1, .refl g2, .int _⟩
def fRange1 (fa : PSt → Rs (List PyData)) : PSt → Rs (List PyData) := fun ps => (fa ps).bind fun ds ps1 => match ds with
  | [.int j] => if j < 2 ^ 62 ∧ -(2 ^ 62) ≤ j then .ok (rangeD 0 j.toNat) ps1 else .bad
  | _ => .bad
def fRange2 (fa : PSt → Rs (List PyData)) : PSt → Rs (List PyData) := fun ps => (fa ps).bind fun ds ps1 => match ds with
  | [.int i, .int j] => if (j < 2 ^ 62 ∧ -(2 ^ 62) ≤ j) ∧ (i < 2 ^ 62 ∧ -(2 ^ 62) ≤ i) then .ok (rangeD i (j - i).toNat) ps1 else .bad
  | _ => .bad
theorem dpall1 {K : PySem.W.Frag} {F : Hp} {vs : List V} {d : PyData} (h : DpAll K F vs [d]) : ∃ v, vs = [v] ∧ Dp K F v d := by
  cases h with
  | cons a b => cases b; exact ⟨_, rfl, a⟩
theorem dpall2 {K : PySem.W.Frag} {F : Hp} {vs : List V} {d d' : PyData} (h : DpAll K F vs [d, d']) : ∃ v v', vs = [v, v'] ∧ Dp K F v d ∧ Dp K F v' d' := by
  cases h with
  | cons a b => obtain ⟨v, rfl, h⟩ := dpall1 b; exact ⟨_, _, rfl, a, h⟩
theorem gi_range1 {a : Expr} {p pos : Pos} (hg : Gl X "range") (hm : X.mg "range" = none) (ha : GA X Bo W [a] fa) (hs : starEach [a] X.env = [(false, eval a X.env)] := by rfl) : GI X Bo W tg (.Call (.Name "range" p) [a] [] pos) (fRange1 fa) := by
  refine (pi_range1 hg hm ha hs).imp fun σ H R q => ?_
  refine tR_bind (R2 := fun _ _ _ _ F' _ _ J ds => ItOk X.K J F' ds) (fun _ _ _ _ _ _ _ _ _ _ _ _ _ h => h) q fun vs ds F F1 H1 ps ps1 sr st hv q => ?_
  split at q
  · rename_i j
    split at q
    · rename_i hj
      obtain ⟨v, rfl, h⟩ := dpall1 hv
      cases h
      exact ⟨j, rfl, hj.2, hj.1, q _ F1 H1 .refl sr itr_ok⟩
    · exact q.elim
  · exact q.elim
theorem gi_range2 {a b : Expr} {p pos : Pos} (hg : Gl X "range") (hm : X.mg "range" = none) (ha : GA X Bo W [a, b] fa) (hs : starEach [a, b] X.env = [(false, eval a X.env), (false, eval b X.env)] := by rfl) (hs2 : starEach [b] X.env = [(false, eval b X.env)] := by rfl) :
    GI X Bo W tg (.Call (.Name "range" p) [a, b] [] pos) (fRange2 fa) := by
  refine (pi_range2 hg hm ha hs hs2).imp fun σ H R q => ?_
  refine tR_bind (R2 := fun _ _ _ _ F' _ _ J ds => ItOk X.K J F' ds) (fun _ _ _ _ _ _ _ _ _ _ _ _ _ h => h) q fun vs ds F F1 H1 ps ps1 sr st hv q => ?_
  split at q
  · rename_i i j
    split at q
    · rename_i hj
      obtain ⟨v, v', rfl, h, h'⟩ := dpall2 hv
      cases h; cases h'
      exact ⟨i, j, rfl, ⟨hj.2.2, hj.2.1, hj.1.2, hj.1.1⟩, q _ F1 H1 .refl sr itr_ok⟩
    · exact q.elim
  · exact q.elim
def enumD (ds : List PyData) : List PyData := ds.mapIdx fun i d => .tuple [.int (i : Int), d]
def fEnum (fa : PSt → Rs (List PyData)) : PSt → Rs (List PyData) := fun ps => (fa ps).bind fun ds ps1 => match ds with
  | [.list ds] => .ok (enumD ds) ps1
  | _ => .bad
theorem pair_new {K : PySem.W.Frag} {F1 H1 : Hp} {Tp : Addr} {a b : V} {d d' : PyData} (g2 : Same F1 H1) (hT : H1 Tp = none) (h1 : Dp K F1 a d) (h2 : Dp K F1 b d') : ∃ F2, Gr F1 H1 F2 (upd H1 Tp (.tup [a, b])) ∧ Dp K F2 (.ref Tp) (.tuple [d, d']) := by
  have g : Gr F1 H1 (upd F1 Tp (.tup [a, b])) (upd H1 Tp (.tup [a, b])) := .new g2 hT
  exact ⟨_, g, .tup (SqT.of upd_same) (.cons (h1.mono g.grow) (.cons (h2.mono g.grow) .nil))⟩
theorem gi_enum {e : Expr} {p pos tpos : Pos} {elts : List Expr} {kk : Nat} (hg : Gl X "enumerate") (hm : X.mg "enumerate" = none) (ha : GA X Bo W [e] fa) (hs : starEach [e] X.env = [(false, eval e X.env)] := by rfl) :
    GI X Bo W (.Tuple elts kk tpos) (.Call (.Name "enumerate" p) [e] [] pos) (fEnum fa) := by
  refine (pi_enum hg hm ha hs).imp fun σ H R q => ?_
  refine tR_bind (R2 := fun _ _ _ _ F' _ _ J ds => ItOk X.K J F' ds) (fun _ _ _ _ _ _ _ _ _ _ _ _ _ h => h) q fun vs ds F F1 H1 ps ps1 sr st hv q => ?_
  split at q
  · rename_i ds
    obtain ⟨v, rfl, h⟩ := dpall1 hv
    cases h with
    | @lst a xs _ s hd =>
      refine ⟨a, xs, rfl, sr.le.seq s, q _ F1 H1 .refl sr ⟨fun F2 H2 i g1 g2 hi => ?_, fun F2 H2 g1 g2 => ⟨xs, g2.seq (g1.seq s), by rw [hd.length]; simp [enumD]⟩, fun F2 H2 i d x H3 g1 g2 hi y => ?_⟩⟩
      · have hl : i < xs.length := by rw [hd.length]; simpa [enumD] using hi
        exact ⟨xs, xs[i], g2.seq (g1.seq s), by simp [hl]⟩
      · obtain ⟨Tp, z, rfl, hT, rfl, y⟩ := y
        have hz := y xs (g2.seq (g1.seq s))
        obtain ⟨d', hd', hp⟩ := hd.getV hz
        unfold enumD at hi
        rw [List.getElem?_mapIdx, hd'] at hi
        cases hi
        exact pair_new g2 hT (.int _) (hp.mono g1)
  · exact q.elim
def zipD (xs ys : List PyData) : List PyData := List.zipWith (fun a b => .tuple [a, b]) xs ys
def fZip (fa : PSt → Rs (List PyData)) : PSt → Rs (List PyData) := fun ps => (fa ps).bind fun ds ps1 => match ds with
  | [.list xs, .list ys] => .ok (zipD xs ys) ps1
  | [.tuple xs, .tuple ys] => .ok (zipD xs ys) ps1
  | _ => .bad
theorem gi_zip {e e2 : Expr} {p pos tpos : Pos} {elts : List Expr} {kk : Nat} (hg : Gl X "zip") (hm : X.mg "zip" = none) (ha : GA X Bo W [e, e2] fa) (hs : starEach [e, e2] X.env = [(false, eval e X.env), (false, eval e2 X.env)] := by rfl) (hs2 : starEach [e2] X.env = [(false, eval e2 X.env)] := by rfl) :
    GI X Bo W (.Tuple elts kk tpos) (.Call (.Name "zip" p) [e, e2] [] pos) (fZip fa) := by
  refine (RZ.pi_zipA hg hm ha (by rw [hs, hs2]) (by rw [hs2]; rfl)).imp fun σ H R q => ?_
  refine tR_bind (R2 := fun _ _ _ _ F' _ _ J ds => ItOk X.K J F' ds) (fun _ _ _ _ _ _ _ _ _ _ _ _ _ h => h) q fun vs ds F F1 H1 ps ps1 sr st hv q => ?_
  split at q
  · rename_i ds es
    obtain ⟨v, v', rfl, h, h'⟩ := dpall2 hv
    cases h with
    | @lst a xs _ s hd =>
      cases h' with
      | @lst b ys _ s' hd' =>
        refine ⟨a, b, xs, ys, rfl, .inl ⟨sr.le.seq s, sr.le.seq s', q _ F1 H1 .refl sr ⟨fun F2 H2 i g1 g2 hi => ?_, fun F2 H2 g1 g2 => ⟨xs, ys, g2.seq (g1.seq s), g2.seq (g1.seq s'), by rw [hd.length, hd'.length]; simp [zipD]; omega⟩, fun F2 H2 i d x H3 g1 g2 hi y => ?_⟩⟩⟩
        · have hl : i < xs.length ∧ i < ys.length := by rw [hd.length, hd'.length]; simp [zipD] at hi; omega
          exact ⟨xs, ys, xs[i], ys[i], g2.seq (g1.seq s), g2.seq (g1.seq s'), by simp [hl.1], by simp [hl.2]⟩
        · obtain ⟨Tp, z, w, rfl, hT, rfl, y1, y2⟩ := y
          obtain ⟨d1, hd1, hp1⟩ := hd.getV (y1 xs (g2.seq (g1.seq s)))
          obtain ⟨d2, hd2, hp2⟩ := hd'.getV (y2 ys (g2.seq (g1.seq s')))
          unfold zipD at hi
          rw [List.getElem?_zipWith, hd1, hd2] at hi
          cases hi
          exact pair_new g2 hT (hp1.mono g1) (hp2.mono g1)
  · rename_i ds es
    obtain ⟨v, v', rfl, h, h'⟩ := dpall2 hv
    cases h with
    | @tup a xs _ s hd =>
      cases h' with
      | @tup b ys _ s' hd' =>
        refine ⟨a, b, xs, ys, rfl, .inr ⟨same_sqt sr.le s, same_sqt sr.le s', q _ F1 H1 .refl sr ⟨fun F2 H2 i g1 g2 hi => ?_, fun F2 H2 g1 g2 => ⟨xs, ys, same_sqt g2 (same_sqt g1 s), same_sqt g2 (same_sqt g1 s'), by rw [hd.length, hd'.length]; simp [zipD]; omega⟩, fun F2 H2 i d x H3 g1 g2 hi y => ?_⟩⟩⟩
        · have hl : i < xs.length ∧ i < ys.length := by rw [hd.length, hd'.length]; simp [zipD] at hi; omega
          exact ⟨xs, ys, xs[i], ys[i], same_sqt g2 (same_sqt g1 s), same_sqt g2 (same_sqt g1 s'), by simp [hl.1], by simp [hl.2]⟩
        · obtain ⟨Tp, z, w, rfl, hT, rfl, y1, y2⟩ := y
          obtain ⟨d1, hd1, hp1⟩ := hd.getV (y1 xs (same_sqt g2 (same_sqt g1 s)))
          obtain ⟨d2, hd2, hp2⟩ := hd'.getV (y2 ys (same_sqt g2 (same_sqt g1 s')))
          unfold zipD at hi
          rw [List.getElem?_zipWith, hd1, hd2] at hi
          cases hi
          exact pair_new g2 hT (hp1.mono g1) (hp2.mono g1)
  · exact q.elim
end
end GL

/-! GLh: operations on data -/
namespace GL
open PySem PySem.Spec L2
open PyProof.Rows hiding St

section
variable {K : PySem.W.Frag} {F H F1 H1 : Hp}
/-! ### arithmetic -/
def dAdd : PyData → PyData → Option PyData
  | .int i, .int j => some (.int (i + j))
  | .tuple xs, .tuple ys => if xs.length + ys.length ≤ sizeLine then some (.tuple (xs ++ ys)) else none
  | .str x, .str y => if x.length + y.length ≤ sizeLine then some (.str (x ++ y)) else none
  | _, _ => none
def rAddD (K : PySem.W.Frag) : R2 := fun x y H Q => rI0 (fun i j => .int (i + j)) x y H Q ∨ rCatA K x y H Q ∨ (fun (x y : V) (H : Hp) (Q : VK) => ∃ i j, x = .str i ∧ y = .str j ∧ i.length + j.length ≤ sizeLine ∧ Q (.str (i ++ j)) H) x y H Q
theorem op_addD {X : Cx} : OpR X (binaryOp .Add) (rAddD X.K) := op_add.or (op_catA.or op_add_str)
theorem add_ok : OpD K (rAddD K) dAdd := by
  intro F H x y a b d Q hs hx hy e k
  match a, b, hx, hy, e with
  | .int i, .int j, hx, hy, e =>
    cases hx; cases hy; cases e
    exact .inl ⟨i, j, rfl, rfl, k _ F H (.refl hs) (.int _)⟩
  | .str i, .str j, hx, hy, e =>
    cases hx; cases hy
    have e : (if i.length + j.length ≤ sizeLine then some (PyData.str (i ++ j)) else none) = some d := e
    split at e
    · rename_i hl; cases e
      exact .inr (.inr ⟨i, j, rfl, rfl, hl, k _ F H (.refl hs) (.str _)⟩)
    · cases e
  | .tuple xs, .tuple ys, hx, hy, e =>
    have e : (if xs.length + ys.length ≤ sizeLine then some (PyData.tuple (xs ++ ys)) else none) = some d := e
    split at e
    · rename_i hl; cases e
      cases hx with
      | @tup a vs _ s1 d1 =>
        cases hy with
        | @tup b ws _ s2 d2 =>
          refine .inr (.inl ⟨a, b, vs, ws, rfl, rfl, same_sqt hs s1, same_sqt hs s2, by rw [d1.length, d2.length]; exact hl, fun z => ?_, fun z1 z2 => ?_, fun z1 z2 p hp => ?_⟩)
          · subst z; cases d1
            exact k _ F H (.refl hs) (.tup s2 d2)
          · subst z2; cases d2
            rw [List.append_nil] at k
            exact k _ F H (.refl hs) (.tup s1 d1)
          · have g : Gr F H (upd F p (.tup (vs ++ ws))) (upd H p (.tup (vs ++ ws))) := .new hs hp
            exact k _ _ _ g (.tup (SqT.of upd_same) ((d1.append d2).mono g.grow))
    · cases e
/-- an operator on ints alone -/
def dI (D : Int → Int → Option PyData) : PyData → PyData → Option PyData
  | .int i, .int j => D i j
  | _, _ => none
theorem int_ok {C : Int → Int → Prop} {g : Int → Int → V} {D : Int → Int → Option PyData} (h : ∀ i j d, D i j = some d → C i j ∧ ∀ F, Dp K F (g i j) d) : OpD K (rI C g) (dI D) := by
  intro F H x y a b d Q hs hx hy e k
  match a, b, hx, hy, e with
  | .int i, .int j, hx, hy, e =>
    cases hx; cases hy
    obtain ⟨h1, h2⟩ := h i j d e
    exact ⟨i, j, rfl, rfl, h1, k _ F H (.refl hs) (h2 F)⟩
theorem int_ok0 {g : Int → Int → V} {D : Int → Int → Option PyData} (h : ∀ i j d, D i j = some d → ∀ F, Dp K F (g i j) d) : OpD K (rI0 g) (dI D) := by
  intro F H x y a b d Q hs hx hy e k
  match a, b, hx, hy, e with
  | .int i, .int j, hx, hy, e =>
    cases hx; cases hy
    exact ⟨i, j, rfl, rfl, k _ F H (.refl hs) (h i j d e F)⟩
def dSub := dI fun i j => some (.int (i - j))
def dMul := dI fun i j => if (-(2 ^ 64) < i ∧ i < 2 ^ 64) ∨ (-(2 ^ 64) < j ∧ j < 2 ^ 64) then some (.int (i * j)) else none
def dMod := dI fun i j => if 0 < j then some (.int (i % j)) else none
def dFdiv := dI fun i j => if 0 < j ∧ j < 1073741824 then some (.int (i / j)) else none
def dPow := dI fun i j => if 0 ≤ j ∧ j ≤ 1000000 ∧ i.natAbs < 2 ^ 64 then some (.int (i ^ j.toNat)) else none
theorem sub_ok : OpD K (rI0 fun i j => .int (i - j)) dSub := int_ok0 fun i j d e F => by cases e; exact .int _
theorem mul_ok : OpD K (rI CMul fun i j => .int (i * j)) dMul := int_ok fun i j d e => by
  split at e
  · rename_i h; cases e; exact ⟨h, fun F => .int _⟩
  · cases e
theorem mod_ok : OpD K (rI (fun _ j => 0 < j) fun i j => .int (i % j)) dMod := int_ok fun i j d e => by
  split at e
  · rename_i h; cases e; exact ⟨h, fun F => .int _⟩
  · cases e
theorem fdiv_ok : OpD K (rI CDiv fun i j => .int (i / j)) dFdiv := int_ok fun i j d e => by
  split at e
  · rename_i h; cases e; exact ⟨h, fun F => .int _⟩
  · cases e
theorem pow_ok : OpD K (rI CPow fun i j => .int (i ^ j.toNat)) dPow := int_ok fun i j d e => by
  split at e
  · rename_i h; cases e; exact ⟨h, fun F => .int _⟩
  · cases e

/-! ### comparisons -/
def dEq (a b : PyData) : Option PyData := if SeqAt.shaped a = true ∧ SeqAt.shaped b = true then some (.bool (PyData.eqv a b)) else none
def dNe (a b : PyData) : Option PyData := if SeqAt.shaped a = true ∧ SeqAt.shaped b = true then some (.bool (!PyData.eqv a b)) else none
theorem eq_ok : OpD K (rEqD K) dEq := fun F H x y a b d Q hs hx hy e k => by
  unfold dEq at e
  split at e
  · rename_i h; cases e
    exact ⟨a, b, hx.mono hs, hy.mono hs, h.1, h.2, k _ F H (.refl hs) (.bl _)⟩
  · cases e
theorem ne_ok : OpD K (rNeD K) dNe := fun F H x y a b d Q hs hx hy e k => by
  unfold dNe at e
  split at e
  · rename_i h; cases e
    exact ⟨a, b, hx.mono hs, hy.mono hs, h.1, h.2, k _ F H (.refl hs) (.bl _)⟩
  · cases e
def intPair : PyData → PyData → Option (Int × Int)
  | .int i, .int j => some (i, j)
  | _, _ => none
def isTup : PyData → Bool
  | .tuple _ => true
  | _ => false
def dLt (a b : PyData) : Option PyData := match intPair a b with
  | some (i, j) => some (.bool (decide (i < j)))
  | none => if PySem.W.alike a b = true ∧ a.depth ≤ 64 ∧ isTup a = true then some (.bool (PySem.W.dataLt a b)) else none
theorem intPair_eq {a b : PyData} {i j : Int} (h : intPair a b = some (i, j)) : a = .int i ∧ b = .int j := by
  unfold intPair at h
  split at h
  · cases h; exact ⟨rfl, rfl⟩
  · cases h
def dGt := dI fun i j => some (.bool (decide (j < i)))
def dLe := dI fun i j => some (.bool (decide (i ≤ j)))
def dGe := dI fun i j => some (.bool (decide (j ≤ i)))
theorem gt_ok : OpD K (rI0 fun i j => .bl (decide (j < i))) dGt := int_ok0 fun i j d e F => by cases e; exact .bl _
theorem le_ok : OpD K (rI0 fun i j => .bl (decide (i ≤ j))) dLe := int_ok0 fun i j d e F => by cases e; exact .bl _
theorem ge_ok : OpD K (rI0 fun i j => .bl (decide (j ≤ i))) dGe := int_ok0 fun i j d e F => by cases e; exact .bl _
/-- < of tuples that can be compared place by place -/
def rLtA (K : PySem.W.Frag) : R2 := fun x y H Q => ∃ d e, Dp K H x d ∧ Dp K H y e ∧ PySem.W.alike d e = true ∧ d.depth ≤ 64 ∧ d ≠ .none ∧ Q (.bl (PySem.W.dataLt d e)) H
theorem op_ltA {X : Cx} (hu : X.A.units + 64 < cLine) : OpR X (compareOp .Lt) (rLtA X.K) := by
  intro pins s σ H x y v u Q I rx ry h
  obtain ⟨d, e, hd, he, ha, hz, hn, q⟩ := h
  obtain ⟨as, r1⟩ := Dp.reads I d x v hd rx
  obtain ⟨bs, r2⟩ := Dp.reads I e y u he ry
  exact PySem.W.rcLt_alike d e X.A s v u as bs r1 r2 ha hn (Nat.lt_of_le_of_lt (Nat.add_le_add_left (Nat.le_trans (Nat.min_le_left _ _) hz) _) hu) _ _ _ _ ⟨.bl _, H, I, rfl, q⟩
def rLtD (K : PySem.W.Frag) : R2 := fun x y H Q => rI0 (fun i j => .bl (decide (i < j))) x y H Q ∨ rLtA K x y H Q
theorem op_ltD {X : Cx} (hu : X.A.units + 64 < cLine) : OpR X (compareOp .Lt) (rLtD X.K) := op_lt.or (op_ltA hu)
theorem lt_ok : OpD K (rLtD K) dLt := fun F H x y a b d Q hs hx hy e k => by
  unfold dLt at e
  cases ep : intPair a b with
  | some p =>
    obtain ⟨i, j⟩ := p
    rw [ep] at e
    obtain ⟨rfl, rfl⟩ := intPair_eq ep
    cases hx; cases hy; cases e
    exact .inl ⟨_, _, rfl, rfl, k _ F H (.refl hs) (.bl _)⟩
  | none =>
    rw [ep] at e
    dsimp only at e
    by_cases h : PySem.W.alike a b = true ∧ a.depth ≤ 64 ∧ isTup a = true
    · rw [if_pos h] at e
      cases e
      refine .inr ⟨a, b, hx.mono hs, hy.mono hs, h.1, h.2.1, fun z => ?_, k _ F H (.refl hs) (.bl _)⟩
      subst z
      exact absurd h.2.2 (by decide)
    · rw [if_neg h] at e; cases e
def isNone : PyData → Bool
  | .none => true
  | _ => false
theorem isNone_v {v : V} {d : PyData} (h : Dp K F v d) : decide (v = .non) = isNone d := by
  cases h <;> simp [isNone]
def dIs : PyData → PyData → Option PyData
  | a, .none => some (.bool (isNone a))
  | .bool a, .bool b => some (.bool (decide (a = b)))
  | _, _ => none
def dIsNot : PyData → PyData → Option PyData
  | a, .none => some (.bool (!isNone a))
  | .bool a, .bool b => some (.bool (!decide (a = b)))
  | _, _ => none
def rIsD : R2 := fun x y H Q => (fun (x y : V) (H : Hp) (Q : VK) => y = .non ∧ Q (.bl (decide (x = .non))) H) x y H Q ∨ rIsB x y H Q
def rIsNotD : R2 := fun x y H Q => (fun (x y : V) (H : Hp) (Q : VK) => y = .non ∧ Q (.bl (!decide (x = .non))) H) x y H Q ∨ rNotB x y H Q
theorem op_isD {X : Cx} : OpR X (compareOp .Is) rIsD := op_isN.or op_isBl
theorem op_isNotD {X : Cx} : OpR X (compareOp .IsNot) rIsNotD := op_notN.or op_notBl
theorem is_ok : OpD K rIsD dIs := fun F H x y a b d Q hs hx hy e k => by
  unfold dIs at e
  split at e
  · cases hy; cases e
    exact .inl ⟨rfl, by rw [isNone_v hx]; exact k _ F H (.refl hs) (.bl _)⟩
  · cases hx; cases hy; cases e
    exact .inr ⟨_, _, rfl, rfl, k _ F H (.refl hs) (.bl _)⟩
  · cases e
theorem isNot_ok : OpD K rIsNotD dIsNot := fun F H x y a b d Q hs hx hy e k => by
  unfold dIsNot at e
  split at e
  · cases hy; cases e
    exact .inl ⟨rfl, by rw [isNone_v hx]; exact k _ F H (.refl hs) (.bl _)⟩
  · cases hx; cases hy; cases e
    exact .inr ⟨_, _, rfl, rfl, k _ F H (.refl hs) (.bl _)⟩
  · cases e
def dIn : PyData → PyData → Option PyData
  | d, .list ds => if SeqAt.shaped d = true ∧ SeqAt.shaped (.list ds) = true then some (.bool (ds.any fun z => PyData.eqv z d)) else none
  | _, _ => none
def dNotIn : PyData → PyData → Option PyData
  | d, .list ds => if SeqAt.shaped d = true ∧ SeqAt.shaped (.list ds) = true then some (.bool (!ds.any fun z => PyData.eqv z d)) else none
  | _, _ => none
theorem in_ok : OpD K (rInD K) dIn := fun F H x y a b d Q hs hx hy e k => by
  unfold dIn at e
  split at e
  · split at e
    · rename_i h; cases e
      exact ⟨_, _, hx.mono hs, hy.mono hs, h.1, h.2, k _ F H (.refl hs) (.bl _)⟩
    · cases e
  · cases e
theorem notIn_ok : OpD K (rNotInD K) dNotIn := fun F H x y a b d Q hs hx hy e k => by
  unfold dNotIn at e
  split at e
  · split at e
    · rename_i h; cases e
      exact ⟨_, _, hx.mono hs, hy.mono hs, h.1, h.2, k _ F H (.refl hs) (.bl _)⟩
    · cases e
  · cases e
end

/-! ### calls of built-ins, by data -/
def CallD (K : PySem.W.Frag) (r : List V → Hp → VK → Prop) (D : List PyData → Option PyData) : Prop := ∀ F H xs ds d Q, Same F H → DpAll K F xs ds → D ds = some d → (∀ v F' H', Gr F H F' H' → Dp K F' v d → Q v H') → r xs H Q
def fApp (D : List PyData → Option PyData) (fa : PSt → Rs (List PyData)) : PSt → Rs PyData := fun ps => (fa ps).bind fun ds ps1 => opt (D ds) ps1
/-- a new list comes out -/
def CallO (K : PySem.W.Frag) (r : List V → Hp → VK → Prop) (D : List PyData → Option (List PyData)) : Prop := ∀ F H xs ds d Q, Same F H → DpAll K F xs ds → D ds = some d → (∀ p us, H p = none → DpAll K F us d → Q (.ref p) (upd H p (.lst us))) → r xs H Q
def fAppO (D : List PyData → Option (List PyData)) (fa : PSt → Rs (List PyData)) : PSt → Rs PV := fun ps => (fa ps).bind fun ds ps1 => match D ds with
  | some d => .ok (.own (.list d)) ps1
  | none => .bad
section
variable {X : Cx} {Bo : Option Addr} {W : WX} {e e1 e2 e3 : Expr} {es : List Expr} {f f1 f2 f3 : PSt → Rs PyData} {fa : PSt → Rs (List PyData)} {fo fo1 fo2 : PSt → Rs PV} {c : PSt → Rs Bool} {pos p : Pos} {x : Str} {id T : String} {r : List V → Hp → VK → Prop} {D : List PyData → Option PyData} {DO : List PyData → Option (List PyData)}
theorem app_data (hr : CallD X.K r D) : ∀ σ H Q, tR X.K X.mg Bo W (RV X.K) (fApp D fa) σ H Q → tCB r (tR X.K X.mg Bo W (RA X.K) fa) σ H Q := fun σ H Q q => by
  refine tR_bind RV.rb q fun vs ds F F1 H1 ps ps1 sr st hv q => ?_
  obtain ⟨d, ed, k⟩ := go_end sr q
  exact hr F1 H1 vs ds d Q sr.le hv ed k
theorem appO_data (hr : CallO X.K r DO) : ∀ σ H Q, tR X.K X.mg Bo W (RO X.K) (fAppO DO fa) σ H Q → tCB r (tR X.K X.mg Bo W (RA X.K) fa) σ H Q := fun σ H Q q => by
  refine tR_bind RO.rb q fun vs ds F F1 H1 ps ps1 sr st hv q => ?_
  split at q
  · rename_i d ed
    refine hr F1 H1 vs ds d Q sr.le hv ed fun p us hp hu => ?_
    obtain ⟨g, s2, ro⟩ := new_own sr hp hu
    exact q (.ref p) _ _ (.of_gr g) s2 ro
  · exact q.elim
theorem gv_callB (hc : CallR X (.builtin id) r) (hr : CallD X.K r D) (hg : Gl X x) (hm : X.mg x = none) (hv : bootBuiltins x = some (.builtin id)) (ha : GA X Bo W (e :: es) fa) (hn : x ≠ "__name__" := by decide) (hdb : (x == ("__debug__" : Str)) = false := by decide)
    (he : starEach (e :: es) X.env = (false, eval e X.env) :: starEach es X.env := by rfl) (hpl : (backTo pos (starEach es X.env)).any (·.1) = false := by rfl) : GV X Bo W (.Call (.Name x p) (e :: es) [] pos) (fApp D fa) :=
  (pe_callB hc hg hm hv ha hn hdb he hpl).imp (app_data hr)
theorem gv_callTy (hc : CallR X (.type T) r) (hr : CallD X.K r D) (hg : Gl X x) (hm : X.mg x = none) (hv : bootBuiltins x = some (.type T)) (ha : GA X Bo W (e :: es) fa) (hn : x ≠ "__name__" := by decide) (hdb : (x == ("__debug__" : Str)) = false := by decide)
    (he : starEach (e :: es) X.env = (false, eval e X.env) :: starEach es X.env := by rfl) (hpl : (backTo pos (starEach es X.env)).any (·.1) = false := by rfl) : GV X Bo W (.Call (.Name x p) (e :: es) [] pos) (fApp D fa) :=
  (pe_callTy hc hg hm hv ha hn hdb he hpl).imp (app_data hr)
theorem go_callTy (hc : CallR X (.type T) r) (hr : CallO X.K r DO) (hg : Gl X x) (hm : X.mg x = none) (hv : bootBuiltins x = some (.type T)) (ha : GA X Bo W (e :: es) fa) (hn : x ≠ "__name__" := by decide) (hdb : (x == ("__debug__" : Str)) = false := by decide)
    (he : starEach (e :: es) X.env = (false, eval e X.env) :: starEach es X.env := by rfl) (hpl : (backTo pos (starEach es X.env)).any (·.1) = false := by rfl) : GO X Bo W (.Call (.Name x p) (e :: es) [] pos) (fAppO DO fa) :=
  (pe_callTy hc hg hm hv ha hn hdb he hpl).imp (appO_data hr)
theorem go_callB (hc : CallR X (.builtin id) r) (hr : CallO X.K r DO) (hg : Gl X x) (hm : X.mg x = none) (hv : bootBuiltins x = some (.builtin id)) (ha : GA X Bo W (e :: es) fa) (hn : x ≠ "__name__" := by decide) (hdb : (x == ("__debug__" : Str)) = false := by decide)
    (he : starEach (e :: es) X.env = (false, eval e X.env) :: starEach es X.env := by rfl) (hpl : (backTo pos (starEach es X.env)).any (·.1) = false := by rfl) : GO X Bo W (.Call (.Name x p) (e :: es) [] pos) (fAppO DO fa) :=
  (pe_callB hc hg hm hv ha hn hdb he hpl).imp (appO_data hr)
end
section
variable {X : Cx} {K : PySem.W.Frag}
def dLen : List PyData → Option PyData
  | [.list ds] => some (.int ds.length)
  | [.tuple ds] => some (.int ds.length)
  | _ => none
theorem len_ok : CallD X.K (fun xs H Q => ∃ p ys, xs = [.ref p] ∧ (SqL X.K H p ys ∨ SqT X.K H p ys) ∧ Q (.int ys.length) H) dLen := fun F H xs ds d Q hs hx e k => by
  unfold dLen at e
  split at e
  · obtain ⟨v, rfl, h⟩ := dpall1 hx
    cases h with
    | lst s a => cases e; exact ⟨_, _, rfl, .inl (hs.seq s), k _ F H (.refl hs) (by rw [a.length]; exact .int _)⟩
  · obtain ⟨v, rfl, h⟩ := dpall1 hx
    cases h with
    | tup s a => cases e; exact ⟨_, _, rfl, .inr (same_sqt hs s), k _ F H (.refl hs) (by rw [a.length]; exact .int _)⟩
  · cases e
def dAbs : List PyData → Option PyData
  | [.int i] => some (.int (if i < 0 then -i else i))
  | _ => none
theorem abs_ok : CallD K (fun xs H Q => ∃ i, xs = [.int i] ∧ Q (.int (if i < 0 then -i else i)) H) dAbs := fun F H xs ds d Q hs hx e k => by
  unfold dAbs at e
  split at e
  · obtain ⟨v, rfl, h⟩ := dpall1 hx
    cases h; cases e
    exact ⟨_, rfl, k _ F H (.refl hs) (.int _)⟩
  · cases e
def dInt : List PyData → Option PyData
  | [.int i] => some (.int i)
  | [.bool b] => some (.int (if b then 1 else 0))
  | _ => none
theorem int1_ok : CallD K (fun xs H Q => (∃ i, xs = [.int i] ∧ Q (.int i) H) ∨ ∃ k, xs = [.bl k] ∧ Q (.int (if k then 1 else 0)) H) dInt := fun F H xs ds d Q hs hx e k => by
  unfold dInt at e
  split at e
  · obtain ⟨v, rfl, h⟩ := dpall1 hx
    cases h; cases e
    exact .inl ⟨_, rfl, k _ F H (.refl hs) (.int _)⟩
  · obtain ⟨v, rfl, h⟩ := dpall1 hx
    cases h; cases e
    exact .inr ⟨_, rfl, k _ F H (.refl hs) (.int _)⟩
  · cases e
def dMin2 : List PyData → Option PyData
  | [.int i, .int j] => some (.int (if j < i then j else i))
  | _ => none
def dMax2 : List PyData → Option PyData
  | [.int i, .int j] => some (.int (if j > i then j else i))
  | _ => none
theorem min2_ok : CallD K (fun xs H Q => ∃ i j, xs = [.int i, .int j] ∧ Q (.int (if j < i then j else i)) H) dMin2 := fun F H xs ds d Q hs hx e k => by
  unfold dMin2 at e
  split at e
  · obtain ⟨v, v', rfl, h, h'⟩ := dpall2 hx
    cases h; cases h'; cases e
    exact ⟨_, _, rfl, k _ F H (.refl hs) (.int _)⟩
  · cases e
theorem max2_ok : CallD K (fun xs H Q => ∃ i j, xs = [.int i, .int j] ∧ Q (.int (if j > i then j else i)) H) dMax2 := fun F H xs ds d Q hs hx e k => by
  unfold dMax2 at e
  split at e
  · obtain ⟨v, v', rfl, h, h'⟩ := dpall2 hx
    cases h; cases h'; cases e
    exact ⟨_, _, rfl, k _ F H (.refl hs) (.int _)⟩
  · cases e
def boolsOf : List PyData → Option (List Bool)
  | [] => some []
  | .bool b :: ds => (boolsOf ds).map (b :: ·)
  | _ :: _ => none
theorem bools_v {F : Hp} : ∀ {ds : List PyData} {vs : List V} {bs : List Bool}, boolsOf ds = some bs → DpAll K F vs ds → vs = bs.map V.bl
  | [], _, _, e, h => by cases h; cases e; rfl
  | .bool b :: ds, _, _, e, h => by
    unfold boolsOf at e
    cases q : boolsOf ds with
    | none => rw [q] at e; cases e
    | some bs =>
      rw [q] at e
      cases e
      cases h with
      | cons a t => cases a; rw [bools_v q t]; rfl
  | .none :: _, _, _, e, _ => by cases e
  | .int _ :: _, _, _, e, _ => by cases e
  | .str _ :: _, _, _, e, _ => by cases e
  | .list _ :: _, _, _, e, _ => by cases e
  | .tuple _ :: _, _, _, e, _ => by cases e
  | .dict _ :: _, _, _, e, _ => by cases e
def dAll : List PyData → Option PyData
  | [.list ds] => (boolsOf ds).map fun bs => .bool (bs.all id)
  | _ => none
def dAny : List PyData → Option PyData
  | [.list ds] => (boolsOf ds).map fun bs => .bool (bs.any id)
  | _ => none
theorem all_ok : CallD K (rAll K) dAll := fun F H xs ds d Q hs hx e k => by
  unfold dAll at e
  split at e
  · rename_i ds
    obtain ⟨v, rfl, h⟩ := dpall1 hx
    cases h with
    | lst s a =>
      cases q : boolsOf ds with
      | none => rw [q] at e; cases e
      | some bs =>
        rw [q] at e
        cases e
        have := bools_v q a
        subst this
        exact ⟨_, bs, rfl, hs.seq s, k _ F H (.refl hs) (.bl _)⟩
  · cases e
theorem any_ok : CallD K (rAny K) dAny := fun F H xs ds d Q hs hx e k => by
  unfold dAny at e
  split at e
  · rename_i ds
    obtain ⟨v, rfl, h⟩ := dpall1 hx
    cases h with
    | lst s a =>
      cases q : boolsOf ds with
      | none => rw [q] at e; cases e
      | some bs =>
        rw [q] at e
        cases e
        have := bools_v q a
        subst this
        exact ⟨_, bs, rfl, hs.seq s, k _ F H (.refl hs) (.bl _)⟩
  · cases e
def dTuple : List PyData → Option PyData
  | [.list ds] => some (.tuple ds)
  | [.tuple ds] => some (.tuple ds)
  | _ => none
theorem tuple_ok : CallD X.K (fun xs H Q => ∃ p ys, xs = [.ref p] ∧ ((SqL X.K H p ys ∧ ∀ l, H l = none → Q (.ref l) (upd H l (.tup ys))) ∨ (SqT X.K H p ys ∧ Q (.ref p) H))) dTuple := fun F H xs ds d Q hs hx e k => by
  unfold dTuple at e
  split at e
  · obtain ⟨v, rfl, h⟩ := dpall1 hx
    cases h with
    | @lst _ xs _ s a =>
      cases e
      refine ⟨_, _, rfl, .inl ⟨hs.seq s, fun l hl => ?_⟩⟩
      have g : Gr F H (upd F l (.tup xs)) (upd H l (.tup xs)) := .new hs hl
      exact k _ _ _ g (.tup (SqT.of upd_same) (a.mono g.grow))
  · obtain ⟨v, rfl, h⟩ := dpall1 hx
    cases h with
    | tup s a => cases e; exact ⟨_, _, rfl, .inr ⟨same_sqt hs s, k _ F H (.refl hs) (.tup s a)⟩⟩
  · cases e
def dList : List PyData → Option (List PyData)
  | [.list ds] => some ds
  | [.tuple ds] => some ds
  | _ => none
theorem list_ok : CallO X.K (fun xs H Q => ∃ p ys, xs = [.ref p] ∧ (SqL X.K H p ys ∨ SqT X.K H p ys) ∧ ∀ l, H l = none → Q (.ref l) (upd H l (.lst ys))) dList := fun F H xs ds d Q hs hx e k => by
  unfold dList at e
  split at e
  · obtain ⟨v, rfl, h⟩ := dpall1 hx
    cases h with
    | lst s a => cases e; exact ⟨_, _, rfl, .inl (hs.seq s), fun l hl => k l _ hl a⟩
  · obtain ⟨v, rfl, h⟩ := dpall1 hx
    cases h with
    | tup s a => cases e; exact ⟨_, _, rfl, .inr (same_sqt hs s), fun l hl => k l _ hl a⟩
  · cases e
end

/-! ### isinstance -/
section
variable {X : Cx} {K : PySem.W.Frag}
def tyName : PyData → String
  | .none => "NoneType"
  | .bool _ => "bool"
  | .int _ => "int"
  | .str _ => "str"
  | .list _ => "list"
  | .tuple _ => "tuple"
  | .dict _ => "dict"
theorem tyx_of {F H : Hp} {v : V} {d : PyData} (hs : Same F H) (h : Dp K F v d) : TyX K H v (.type (tyName d)) := by
  cases h with
  | non => exact .base .non
  | bl b => exact .base (.bl b)
  | int i => exact .base (.int i)
  | str x => exact .base (.str x)
  | @lst a xs ds s _ =>
    rcases s with (s | ⟨o, s⟩) | ⟨o, its, n, hk, hc, _⟩
    · exact .base (.lst (hs _ _ s))
    · exact .base (.frz (hs _ _ s))
    · exact .kList hk hc
  | @tup a xs ds s _ =>
    rcases s with (s | ⟨o, s⟩) | ⟨o, its, n, hk, hc, _⟩
    · exact .base (.tup (hs _ _ s))
    · exact .fTuple (hs _ _ s)
    · exact .kTuple hk hc
def isaD (t : String) (d : PyData) : Option Bool := kitB (tyName d) t
variable {Bo : Option Addr} {W : WX} {e : Expr} {f : PSt → Rs PyData} {pos p p2 p3 p4 p5 : Pos} {T T2 t t2 : Str} {tn tn2 : String}
def fIsi (D : PyData → Option Bool) (f : PSt → Rs PyData) : PSt → Rs PyData := fun ps => (f ps).bind fun d ps1 => match D d with
  | some b => .ok (.bool b) ps1
  | none => .bad
theorem ga_ty {es : List Expr} : True := trivial
/-- isinstance(e, T) -/
theorem gv_isi (h : GV X Bo W e f) (hg : Gl X "isinstance") (hm : X.mg "isinstance" = none) (hgT : Gl X T) (hmT : X.mg T = none) (hvT : bootBuiltins T = some (.type tn)) (hnT : T ≠ "__name__" := by decide) (hdT : (T == ("__debug__" : Str)) = false := by decide)
    (he : starEach (e :: [.Name T p2]) X.env = (false, eval e X.env) :: starEach [.Name T p2] X.env := by rfl) (hpl : (backTo pos (starEach [.Name T p2] X.env)).any (·.1) = false := by rfl) :
    GV X Bo W (.Call (.Name "isinstance" p) [e, .Name T p2] [] pos) (fIsi (isaD tn) f) := by
  refine (pe_callB (call_isi (X := X)) hg hm (by decide +kernel) (pa_cons h (pa_cons (pe_bltn (v := .ty tn) hgT hmT hvT rfl hnT hdT) pa_nil) he) (by decide) (by decide) he hpl).imp fun σ H Q q => ?_
  refine tR_bind RV.rb q fun v d F F1 H1 ps ps1 sr st hv q => ?_
  cases ed : isaD tn d with
  | none => rw [ed] at q; exact q.elim
  | some b =>
    rw [ed] at q
    exact ⟨v, .ty tn, _, .type tn, b, rfl, .ty tn, tyx_of sr.le hv, kit_ty ed, q (.bl b) F1 H1 .refl sr (.bl b)⟩
def isa2 (t t2 : String) (d : PyData) : Option Bool := match isaD t d, isaD t2 d with
  | some a, some b => some (a || b)
  | _, _ => none
/-- isinstance(e, (T, T2)) -/
theorem gv_isi2 {k : Nat} (h : GV X Bo W e f) (hg : Gl X "isinstance") (hm : X.mg "isinstance" = none) (hgT : Gl X T) (hmT : X.mg T = none) (hvT : bootBuiltins T = some (.type tn)) (hgT2 : Gl X T2) (hmT2 : X.mg T2 = none) (hvT2 : bootBuiltins T2 = some (.type tn2))
    (hnT : T ≠ "__name__" := by decide) (hdT : (T == ("__debug__" : Str)) = false := by decide) (hnT2 : T2 ≠ "__name__" := by decide) (hdT2 : (T2 == ("__debug__" : Str)) = false := by decide)
    (he : starEach (e :: [.Tuple [.Name T p2, .Name T2 p3] k p4]) X.env = (false, eval e X.env) :: starEach [.Tuple [.Name T p2, .Name T2 p3] k p4] X.env := by rfl) (hpl : (backTo pos (starEach [.Tuple [.Name T p2, .Name T2 p3] k p4] X.env)).any (·.1) = false := by rfl) :
    GV X Bo W (.Call (.Name "isinstance" p) [e, .Tuple [.Name T p2, .Name T2 p3] k p4] [] pos) (fIsi (isa2 tn tn2) f) := by
  refine (pe_callB (call_isiT (X := X)) hg hm (by decide +kernel) (pa_cons h (pa_cons (pe_tup (pa_cons (pe_bltn (v := .ty tn) hgT hmT hvT rfl hnT hdT) (pa_cons (pe_bltn (v := .ty tn2) hgT2 hmT2 hvT2 rfl hnT2 hdT2) pa_nil))) pa_nil) he) (by decide) (by decide) he hpl).imp fun σ H Q q => ?_
  refine tR_bind RV.rb q fun v d F F1 H1 ps ps1 sr st hv q => ?_
  refine ⟨by show 2 ≤ sizeLine; rw [sizeLine_eq]; decide, fun pt hpt => ?_⟩
  have g : Gr F1 H1 F1 (upd H1 pt (.tup [.ty tn, .ty tn2])) := ⟨.refl _, fun _ _ e => .inl e, same_upd hpt, sr.le.trans (same_upd hpt)⟩
  unfold isa2 at q
  cases e1 : isaD tn d with
  | none => rw [e1] at q; exact q.elim
  | some b1 =>
    cases e2 : isaD tn2 d with
    | none => rw [e1, e2] at q; exact q.elim
    | some b2 =>
      rw [e1, e2] at q
      refine ⟨v, pt, [.ty tn, .ty tn2], _, [.type tn, .type tn2], b1 || b2, rfl, upd_same, .cons (.ty tn) (.cons (.ty tn2) .nil), tyx_of (sr.le.trans (same_upd hpt)) hv, ?_, q (.bl _) F1 _ (.of_gr g) (sr.gr g) (.bl _)⟩
      refine kitAny_cons (kit_ty e1) (fun z => ?_) fun z => by rw [z]; rfl
      subst z
      refine kitAny_cons (kit_ty e2) (fun z => ?_) fun z => by rw [z]; rfl
      subst z
      rfl
end
end GL

/-! GLi: places, slices, chains, or by truth, lists changed in place, looks at slots -/
namespace GL
open PySem PySem.Spec L2
open PyProof.Rows hiding St

section
variable {X : Cx} {Bo : Option Addr} {W : WX} {e e1 e2 e3 : Expr} {es : List Expr} {f f1 f2 f3 : PSt → Rs PyData} {fa : PSt → Rs (List PyData)} {fo fo1 fo2 : PSt → Rs PV} {c : PSt → Rs Bool} {pos p p2 : Pos} {x : Str}
/-! ### places -/
def dIx : PyData → PyData → Option PyData
  | .list ds, .int i => atI ds i
  | .tuple ds, .int i => atI ds i
  | _, _ => none
theorem DpAll.atI {K : PySem.W.Frag} {F : Hp} {xs : List V} {ds : List PyData} {i : Int} {d : PyData} (h : DpAll K F xs ds) (e : L2.atI ds i = some d) : ∃ v, L2.atI xs i = some v ∧ Dp K F v d := by
  unfold L2.atI at e ⊢
  rw [h.length]
  cases q : ixN ds.length i with
  | none => rw [q] at e; cases e
  | some j =>
    rw [q] at e
    exact h.get e
def rIxD2 (K : PySem.W.Frag) : R2 := fun x y H Q => rIxL K x y H Q ∨ rIxT K x y H Q
theorem ix_ok {K : PySem.W.Frag} : OpD K (rIxD2 K) dIx := fun F H x y a b d Q hs hx hy e k => by
  unfold dIx at e
  split at e
  · cases hy
    cases hx with
    | lst s a =>
      obtain ⟨v, h1, h2⟩ := DpAll.atI a e
      exact .inl ⟨_, _, _, v, rfl, rfl, hs.seq s, h1, k v F H (.refl hs) h2⟩
  · cases hy
    cases hx with
    | tup s a =>
      obtain ⟨v, h1, h2⟩ := DpAll.atI a e
      exact .inr ⟨_, _, _, v, rfl, rfl, same_sqt hs s, h1, k v F H (.refl hs) h2⟩
  · cases e
theorem gv_ix (h1 : GV X Bo W e1 f1) (h2 : GV X Bo W e2 f2) (hs : PlainIx e2 := by exact fun _ _ => rfl) : GV X Bo W (.Subscript e1 e2 pos) (fBin dIx f1 f2) := (pe_ix (ix_list.or ix_tup) h1 h2 hs).imp (op_data ix_ok h1 h2)
/-- the name ahead is only looked at -/
def fIxS (i : Nat) (f : PSt → Rs PyData) : PSt → Rs PyData := fun ps => match look i ps with
  | none => .bad
  | some _ => (f ps).bind fun b ps1 => match look i ps1 with
    | none => .bad
    | some a => opt (dIx a b) ps1
theorem gv_ixS (i : Nat) {px : Pos} (h2 : GV X Bo W e2 f2) (hs : PlainIx e2 := by exact fun _ _ => rfl) (hN : X.N[i]? = some x := by rfl) (hv : Vis X.env.scope x := by first | exact Or.inl rfl | exact Or.inr (Or.inl rfl) | exact Or.inr (Or.inr rfl)) (hd : (x == ("__debug__" : Str)) = false := by decide)
    (hcd : (x == ("__classdict__" : Str)) = false := by decide) : GV X Bo W (.Subscript (.Name x px) e2 pos) (fIxS i f2) := by
  refine (pe_ix (ix_list.or ix_tup) (pe_var hN hv hd hcd) h2 hs).imp fun σ H Q ⟨F, ps, sr, q⟩ => ?_
  unfold fIxS at q
  cases e0 : look i ps with
  | none => rw [e0] at q; exact q.elim
  | some d0 =>
    rw [e0] at q
    obtain ⟨v, hv, _⟩ := sr.look e0
    refine ⟨v, hv, ?_⟩
    refine go_bind RV.rb sr q fun y b F2 H2 ps1 s1 st hy q => ?_
    cases e1 : look i ps1 with
    | none => rw [e1] at q; exact q.elim
    | some a =>
      rw [e1] at q
      obtain ⟨v', hv', _, hl, ht⟩ := s1.look e1
      rw [hv] at hv'; cases hv'
      obtain ⟨d, ed, k⟩ := go_end s1 q
      unfold dIx at ed
      split at ed
      · obtain ⟨a', xs, rfl, hq, hd'⟩ := hl _ rfl
        obtain ⟨w, h1, h2⟩ := DpAll.atI hd' ed
        cases hy
        exact .inl ⟨_, _, _, w, rfl, rfl, hq, h1, k w F2 H2 (.refl s1.le) h2⟩
      · obtain ⟨a', xs, rfl, hq, hd'⟩ := ht _ rfl
        obtain ⟨w, h1, h2⟩ := DpAll.atI hd' ed
        cases hy
        exact .inr ⟨_, _, _, w, rfl, rfl, hq, h1, k w F2 H2 (.refl s1.le) h2⟩
      · cases ed
/-- a comparison whose left side is a name, only looked at -/
def fBinS (D : PyData → PyData → Option PyData) (i : Nat) (f : PSt → Rs PyData) : PSt → Rs PyData := fun ps => match look i ps with
  | none => .bad
  | some _ => (f ps).bind fun b ps1 => match look i ps1 with
    | none => .bad
    | some a => opt (D a b) ps1
theorem opS_data {r : R2} {D : PyData → PyData → Option PyData} {i : Nat} (hr : OpD X.K r D) (hD : ∀ a b d, D a b = some d → ∃ k, d = .bool k) : ∀ σ H Q, tR X.K X.mg Bo W (RV X.K) (fBinS D i f2) σ H Q → tOp r (tVar i) (tR X.K X.mg Bo W (RV X.K) f2) σ H Q := fun σ H Q ⟨F, ps, sr, q⟩ => by
  unfold fBinS at q
  cases e0 : look i ps with
  | none => rw [e0] at q; exact q.elim
  | some d0 =>
    rw [e0] at q
    obtain ⟨v, hv, _⟩ := sr.look e0
    refine ⟨v, hv, ?_⟩
    refine go_bind RV.rb sr q fun y b F2 H2 ps1 s1 st hy q => ?_
    cases e1 : look i ps1 with
    | none => rw [e1] at q; exact q.elim
    | some a =>
      rw [e1] at q
      obtain ⟨v', hv', hdp, _⟩ := s1.look e1
      rw [hv] at hv'; cases hv'
      obtain ⟨d, ed, k⟩ := go_end s1 q
      obtain ⟨kb, rfl⟩ := hD _ _ _ ed
      refine hr H2 H2 v y a b _ Q (.refl _) hdp (hy.mono s1.le) ed fun w F' H' g hw => ?_
      cases hw
      exact k _ F2 H' ⟨.refl _, fun _ _ e => .inl e, g.keep, s1.le.trans g.keep⟩ (.bl _)
theorem gv_cmpS (i : Nat) {px : Pos} {op : CmpOp} {r : R2} {D : PyData → PyData → Option PyData} (ho : OpR X (compareOp op) r) (hr : OpD X.K r D) (hD : ∀ a b d, D a b = some d → ∃ k, d = .bool k) (h2 : GV X Bo W e2 f2) (hm : behindInMarks op e2 = false := by first | exact nomark _ | rfl)
    (hN : X.N[i]? = some x := by rfl) (hv : Vis X.env.scope x := by first | exact Or.inl rfl | exact Or.inr (Or.inl rfl) | exact Or.inr (Or.inr rfl)) (hd : (x == ("__debug__" : Str)) = false := by decide) (hcd : (x == ("__classdict__" : Str)) = false := by decide) :
    GV X Bo W (.Compare (.Name x px) [op] [e2] pos) (fBinS D i f2) := (pe_cmpR ho (pe_var hN hv hd hcd) h2 hm).imp (opS_data hr hD)
theorem gt_cmpS (i : Nat) {px : Pos} {op : CmpOp} {r : R2} {D : PyData → PyData → Option PyData} (ho : OpR X (compareOp op) r) (hr : OpD X.K r D) (hD : ∀ a b d, D a b = some d → ∃ k, d = .bool k) (h2 : GV X Bo W e2 f2) (hm : behindInMarks op e2 = false := by first | exact nomark _ | rfl)
    (hN : X.N[i]? = some x := by rfl) (hv : Vis X.env.scope x := by first | exact Or.inl rfl | exact Or.inr (Or.inl rfl) | exact Or.inr (Or.inr rfl)) (hd : (x == ("__debug__" : Str)) = false := by decide) (hcd : (x == ("__classdict__" : Str)) = false := by decide) :
    GT X Bo W (.Compare (.Name x px) [op] [e2] pos) (fTest (fBinS D i f2)) := (pt_cmpR ho (pe_var hN hv hd hcd) h2 hm).imp (test_data (opS_data hr hD))
/-- len(name) -/
def fLenS (i : Nat) : PSt → Rs PyData := fun ps => match look i ps with
  | none => .bad
  | some d => opt (dLen [d]) ps
theorem gv_lenS (i : Nat) {px : Pos} (hg : Gl X "len") (hm : X.mg "len" = none) (hN : X.N[i]? = some x := by rfl) (hv : Vis X.env.scope x := by first | exact Or.inl rfl | exact Or.inr (Or.inl rfl) | exact Or.inr (Or.inr rfl)) (hd : (x == ("__debug__" : Str)) = false := by decide)
    (hcd : (x == ("__classdict__" : Str)) = false := by decide) (he : starEach [.Name x px] X.env = (false, eval (.Name x px) X.env) :: starEach [] X.env := by rfl) (hpl : (backTo pos (starEach [] X.env)).any (·.1) = false := by rfl) :
    GV X Bo W (.Call (.Name "len" p) [.Name x px] [] pos) (fLenS i) := by
  refine (pe_callB call_len_seq hg hm PySem.boot_len (pa_cons (pe_var hN hv hd hcd) pa_nil he) (by decide) (by decide) he hpl).imp fun σ H Q ⟨F, ps, sr, q⟩ => ?_
  unfold fLenS at q
  cases e0 : look i ps with
  | none => rw [e0] at q; exact q.elim
  | some d0 =>
    rw [e0] at q
    obtain ⟨v, hv, hdp, _⟩ := sr.look e0
    obtain ⟨d, ed, k⟩ := go_end sr q
    refine ⟨v, hv, ?_⟩
    refine len_ok (X := X) H H [v] [d0] d Q (.refl _) (.cons hdp .nil) ed fun w F' H' g hw => ?_
    have : ∃ n : Int, d = .int n := by
      unfold dLen at ed
      split at ed <;> first | (cases ed; exact ⟨_, rfl⟩) | cases ed
    obtain ⟨n, rfl⟩ := this
    cases hw
    exact k _ F H' ⟨.refl _, fun _ _ e => .inl e, g.keep, sr.le.trans g.keep⟩ (.int _)

/-! ### slices -/
def cutD (xs : List PyData) (lo hi : Option Int) : List PyData := (xs.drop (HT.sIx xs.length 0 lo)).take (HT.sIx xs.length xs.length hi - HT.sIx xs.length 0 lo)
abbrev fPart := PSt → Rs (Option Int)
def RP : RT (Option Int) (Option Int) := fun _ _ _ _ _ _ _ b c => b = c
def GP (X : Cx) (Bo : Option Addr) (W : WX) (o : Option Expr) (f : PSt → Rs (Option Int)) : Prop := PO X o (tR X.K X.mg Bo W RP f)
def fNoPart : PSt → Rs (Option Int) := .ok none
def fSomePart (f : PSt → Rs PyData) : PSt → Rs (Option Int) := fun ps => (f ps).bind fun d ps1 => match d with
  | .int i => .ok (some i) ps1
  | _ => .bad
theorem gp_none : GP X Bo W none fNoPart := ⟨fun pins s σ H Q I ⟨F, ps, sr, q⟩ => po_none.run pins s σ H Q I (q none F H .refl sr rfl)⟩
theorem gp_some (h : GV X Bo W e f) : GP X Bo W (some e) (fSomePart f) := ⟨fun pins s σ H Q I q => by
  refine (po_some h).run pins s σ H Q I ?_
  refine tR_bind (R2 := RP) (fun _ _ _ _ _ _ _ _ _ _ _ _ _ h => h) q fun v d F F1 H1 ps ps1 sr st hv q => ?_
  match d, hv, q with
  | .int i, hv, q => cases hv; exact ⟨i, rfl, q _ F1 H1 .refl sr rfl⟩
  | .none, _, q => exact q.elim
  | .bool _, _, q => exact q.elim
  | .str _, _, q => exact q.elim
  | .list _, _, q => exact q.elim
  | .tuple _, _, q => exact q.elim
  | .dict _, _, q => exact q.elim⟩
def fSl (f : PSt → Rs PyData) (l h : PSt → Rs (Option Int)) : PSt → Rs PV := fun ps => (f ps).bind fun d ps1 => (l ps1).bind fun lo ps2 => (h ps2).bind fun hi ps3 => match d with
  | .tuple ds => .ok (.val (.tuple (cutD ds lo hi))) ps3
  | .list ds => .ok (.own (.list (cutD ds lo hi))) ps3
  | _ => .bad
theorem cut_ok {K : PySem.W.Frag} {F : Hp} {xs : List V} {ds : List PyData} {lo hi : Option Int} (h : DpAll K F xs ds) : DpAll K F (cutV xs lo hi) (cutD ds lo hi) := by
  unfold cutV cutD
  rw [h.length]
  exact (h.drop _).take _
theorem cut_whole {ds : List PyData} {lo hi : Option Int} (h : HT.sIx ds.length 0 lo = 0 ∧ HT.sIx ds.length ds.length hi = ds.length) : cutD ds lo hi = ds := by
  unfold cutD
  rw [h.1, h.2]
  simp
theorem go_slice {lo₀ hi₀ : Option Expr} {l h : PSt → Rs (Option Int)} (he : GV X Bo W e f) (hl : GP X Bo W lo₀ l) (hh : GP X Bo W hi₀ h) : GO X Bo W (.Subscript e (.Slice lo₀ hi₀ none p2) pos) (fSl f l h) := by
  refine (pe_slice (sl_tupA.or sl_list) he hl hh).imp fun σ H Q q => ?_
  refine tR_bind RO.rb q fun v d F F1 H1 ps ps1 s1 st1 hv q => ?_
  refine go_bind RO.rb s1 q fun lo lo' F2 H2 ps2 s2 st2 e2 q => ?_
  have e2 : lo = lo' := e2
  subst e2
  refine go_bind RO.rb s2 q fun hi hi' F3 H3 ps3 s3 st3 e3 q => ?_
  have e3 : hi = hi' := e3
  subst e3
  have hv := (show Dp X.K F1 v d from hv).mono (st2.grow.trans st3.grow)
  match d, hv, q with
  | .tuple ds, hv, q =>
    cases hv with
    | @tup a xs _ s hd =>
      have hn := hd.length
      refine .inl ⟨a, xs, rfl, same_sqt s3.le s, fun w => ?_, fun w p hp => ?_⟩
      · refine q (.ref a) F3 H3 .refl s3 ?_
        rw [cut_whole (by rw [← hn]; exact w)]
        exact .tup s hd
      · have g : Gr F3 H3 (upd F3 p (.tup (cutV xs lo hi))) (upd H3 p (.tup (cutV xs lo hi))) := .new s3.le hp
        exact q (.ref p) _ _ (.of_gr g) (s3.gr g) (.tup (SqT.of upd_same) (L2.DpAll.mono g.grow (cut_ok hd)))
  | .list ds, hv, q =>
    cases hv with
    | @lst a xs _ s hd =>
      refine .inr ⟨a, xs, rfl, s3.le.seq s, fun p hp => ?_⟩
      obtain ⟨g, s4, ro⟩ := new_own s3 hp (cut_ok (lo := lo) (hi := hi) hd)
      exact q (.ref p) _ _ (.of_gr g) s4 ro
  | .none, _, q => exact q.elim
  | .bool _, _, q => exact q.elim
  | .int _, _, q => exact q.elim
  | .str _, _, q => exact q.elim
  | .dict _, _, q => exact q.elim

/-! ### a < b < c -/
def fChain (D D' : PyData → PyData → Option PyData) (f1 f2 f3 : PSt → Rs PyData) : PSt → Rs PyData := fun ps => (f1 ps).bind fun a ps1 => (f2 ps1).bind fun b ps2 => match D a b with
  | some (.bool true) => (f3 ps2).bind fun c ps3 => opt (D' b c) ps3
  | some (.bool false) => .ok (.bool false) ps2
  | _ => .bad
theorem chain_data {r r' : R2} {D D' : PyData → PyData → Option PyData} (hr : OpD X.K r D) (hr' : OpD X.K r' D') : ∀ σ H Q, tR X.K X.mg Bo W (RV X.K) (fChain D D' f1 f2 f3) σ H Q →
    (tR X.K X.mg Bo W (RV X.K) f1) σ H fun x H1 => (tR X.K X.mg Bo W (RV X.K) f2) σ H1 fun y H2 => r x y H2 fun z H3 => ∃ k, z = .bl k ∧ if k = true then (tR X.K X.mg Bo W (RV X.K) f3) σ H3 fun w H4 => r' y w H4 Q else Q (.bl false) H3 := fun σ H Q q => by
  refine tR_bind RV.rb q fun v a F F1 H1 ps ps1 s1 st1 hv q => ?_
  refine go_bind RV.rb s1 q fun u b F2 H2 ps2 s2 st2 hu q => ?_
  split at q
  · rename_i ed
    refine hr F2 H2 v u a b _ _ s2.le ((show Dp X.K F1 v a from hv).mono st2.grow) hu ed fun w F3 H3 g hw => ?_
    cases hw
    refine ⟨true, rfl, ?_⟩
    rw [if_pos rfl]
    have s3 := s2.gr g
    refine go_bind RV.rb s3 (Goal.rebase RV.rb q (.of_gr g)) fun w c F4 H4 ps4 s4 st4 hw q => ?_
    obtain ⟨d, ed', k⟩ := go_end s4 q
    exact hr' F4 H4 u w b c d Q s4.le ((show Dp X.K F2 u b from hu).mono (g.grow.trans st4.grow)) hw ed' k
  · rename_i ed
    refine hr F2 H2 v u a b _ _ s2.le ((show Dp X.K F1 v a from hv).mono st2.grow) hu ed fun w F3 H3 g hw => ?_
    cases hw
    refine ⟨false, rfl, ?_⟩
    rw [if_neg Bool.false_ne_true]
    exact q (.bl false) F3 H3 (.of_gr g) (s2.gr g) (.bl false)
  · exact q.elim
theorem gv_chain {op op' : CmpOp} {r r' : R2} {D D' : PyData → PyData → Option PyData} (ho : OpR X (compareOp op) r) (ho' : OpR X (compareOp op') r') (hr : OpD X.K r D) (hr' : OpD X.K r' D') (h1 : GV X Bo W e1 f1) (h2 : GV X Bo W e2 f2) (h3 : GV X Bo W e3 f3) (hm : lastMarks [op, op'] [e2, e3] = false := by with_unfolding_all rfl) :
    GV X Bo W (.Compare e1 [op, op'] [e2, e3] pos) (fChain D D' f1 f2 f3) := (pe_chain ho ho' h1 h2 h3 hm).imp (chain_data hr hr')
theorem gt_chain {op op' : CmpOp} {r r' : R2} {D D' : PyData → PyData → Option PyData} (ho : OpR X (compareOp op) r) (ho' : OpR X (compareOp op') r') (hr : OpD X.K r D) (hr' : OpD X.K r' D') (h1 : GV X Bo W e1 f1) (h2 : GV X Bo W e2 f2) (h3 : GV X Bo W e3 f3) (hm : lastMarks [op, op'] [e2, e3] = false := by with_unfolding_all rfl) :
    GT X Bo W (.Compare e1 [op, op'] [e2, e3] pos) (fTest (fChain D D' f1 f2 f3)) := (pt_chain ho ho' h1 h2 h3 hm).imp (test_data (chain_data hr hr'))

/-! ### x or y of lists -/
def truL : PV → Option Bool
  | .val (.list ds) => some (!ds.isEmpty)
  | .own (.list ds) => some (!ds.isEmpty)
  | .val (.tuple ds) => some (!ds.isEmpty)
  | _ => none
def fOrT (f1 f2 : PSt → Rs PV) : PSt → Rs PV := fun ps => (f1 ps).bind fun p ps1 => match truL p with
  | some true => .ok p ps1
  | some false => f2 ps1
  | none => .bad
theorem isEmpty_all {K : PySem.W.Frag} {F : Hp} {xs : List V} {ds : List PyData} (h : DpAll K F xs ds) : (!xs.isEmpty) = !ds.isEmpty := by cases h <;> rfl
theorem go_orT (h1 : GO X Bo W e fo1) (h2 : GO X Bo W (.BoolOp .Or (e2 :: es) pos) fo2) : GO X Bo W (.BoolOp .Or (e :: e2 :: es) pos) (fOrT fo1 fo2) := by
  refine (pe_orT h1 h2).imp fun σ H Q ⟨F, ps, sr, q⟩ => ⟨F, ps, sr, ?_⟩
  unfold fOrT at q
  cases e1 : fo1 ps with
  | bad => rw [e1] at q; exact q
  | exc x ps1 => rw [e1] at q; exact q
  | ok p ps1 =>
    rw [e1] at q
    intro v F1 H1 st s1 hv
    have q : Goal X.K X.mg Bo W (RO X.K) (match truL p with
      | some true => .ok p ps1
      | some false => fo2 ps1
      | none => .bad) F H σ ps Q := q
    cases et : truL p with
    | none => rw [et] at q; exact q.elim
    | some k =>
      rw [et] at q
      have tv : TruV X.K v H1 k := by
        match p, hv, et with
        | .val (.list ds), hv, et =>
          cases et
          cases (show Dp X.K F1 v (.list ds) from hv) with
          | lst s a => exact .inl ⟨_, s1.le.seq s, (isEmpty_all a).symm⟩
        | .val (.tuple ds), hv, et =>
          cases et
          cases (show Dp X.K F1 v (.tuple ds) from hv) with
          | tup s a => exact .inr (.inl ⟨_, same_sqt s1.le s, (isEmpty_all a).symm⟩)
        | .own (.list ds), hv, et =>
          cases et
          obtain ⟨a, rfl, ⟨hn, xs, ds', ed, hH, ha⟩, _⟩ := hv
          cases ed
          exact .inl ⟨xs, SqL.of hH, (isEmpty_all ha).symm⟩
      refine ⟨k, tv, ?_⟩
      cases k with
      | true => exact q v F1 H1 st s1 hv
      | false => exact ⟨F1, ps1, s1, Goal.rebase RO.rb q st⟩
theorem go_one {op} (h : GO X Bo W e fo) : GO X Bo W (.BoolOp op [e] pos) fo := pe_one h

/-! ### lists changed in place -/
def slotL (i : Nat) (ps : PSt) : Option (List PyData) := match ps[i]? with
  | some (some (.own (.list ds))) => some ds
  | _ => none
theorem slotL_at {i : Nat} {ps : PSt} {ds : List PyData} (h : slotL i ps = some ds) : ps[i]? = some (some (.own (.list ds))) := by
  unfold slotL at h
  split at h
  · rename_i d e; cases h; exact e
  · cases h
theorem tyV_list {K : PySem.W.Frag} {H : Hp} {a : Addr} {xs : List V} (h : H a = some (.lst xs)) : tyV K "list" (.ref a) H := .inl ⟨rfl, xs, SqL.of h⟩
/-- a method of the list at slot i that gives None -/
def fMeth (i : Nat) (D : List PyData → List PyData → Option (List PyData)) (fa : PSt → Rs (List PyData)) : PSt → Rs PyData := fun ps => match slotL i ps with
  | none => .bad
  | some _ => (fa ps).bind fun as ps1 => match slotL i ps1 with
    | none => .bad
    | some ds => match D ds as with
      | some ds' => .ok .none (ps1.set i (some (.own (.list ds'))))
      | none => .bad
/-- .. by data: l at a holds xs -/
def MethD (K : PySem.W.Frag) (r : V → List V → Hp → VK → Prop) (D : List PyData → List PyData → Option (List PyData)) : Prop := ∀ F H a xs ds vs as ds' Q, Same F H → F a = none → H a = some (.lst xs) → DpAll K F xs ds → DpAll K F vs as → D ds as = some ds' →
  (∀ xs', DpAll K F xs' ds' → Q .non (upd H a (.lst xs'))) → r (.ref a) vs H Q
theorem meth_data {r : V → List V → Hp → VK → Prop} {D : List PyData → List PyData → Option (List PyData)} {i : Nat} (hr : MethD X.K r D) : ∀ σ H Q, tR X.K X.mg Bo W (RV X.K) (fMeth i D fa) σ H Q → tBM X.K "list" r (tVar i) (tR X.K X.mg Bo W (RA X.K) fa) σ H Q := fun σ H Q ⟨F, ps, sr, q⟩ => by
  unfold fMeth at q
  cases e0 : slotL i ps with
  | none => rw [e0] at q; exact q.elim
  | some d0 =>
    rw [e0] at q
    obtain ⟨a, ha, _, xs0, _, _, hH0, _⟩ := sr.own (slotL_at e0)
    refine ⟨.ref a, ha, tyV_list hH0, ?_⟩
    refine go_bind RV.rb sr q fun vs as F2 H2 ps1 s1 st hvs q => ?_
    cases e1 : slotL i ps1 with
    | none => rw [e1] at q; exact q.elim
    | some ds =>
      rw [e1] at q
      have e1 := slotL_at e1
      obtain ⟨a', ha', hn, xs, ds2, ed, hH, hd⟩ := s1.own e1
      cases ed
      rw [ha] at ha'; cases ha'
      dsimp only at q
      cases e2 : D ds as with
      | none => rw [e2] at q; exact q.elim
      | some ds' =>
        rw [e2] at q
        refine hr F2 H2 a xs ds vs as ds' Q s1.le hn hH hd hvs e2 fun xs' hx' => ?_
        obtain ⟨s2, st2⟩ := s1.mut e1 ha hn (d' := .list ds') rfl hx'
        exact q .non F2 _ st2 s2 .non
def dAppend : List PyData → List PyData → Option (List PyData)
  | ds, [d] => if ds.length < sizeLine then some (ds ++ [d]) else none
  | _, _ => none
theorem append_ok {K : PySem.W.Frag} : MethD K rAppend dAppend := fun F H a xs ds vs as ds' Q hs hn hH hd hv e k => by
  unfold dAppend at e
  split at e
  · rename_i ds d
    split at e
    · rename_i hz
      cases e
      obtain ⟨v, rfl, h⟩ := dpall1 hv
      exact ⟨a, xs, v, rfl, rfl, hH, by rw [hd.length]; exact hz, k _ (hd.append (.cons h .nil))⟩
    · cases e
  · cases e
/-- x.append(e) -/
theorem gv_append (i : Nat) {px apos cpos : Pos} (h : GA X Bo W [e] fa) (hN : X.N[i]? = some x := by rfl) (hv : Vis X.env.scope x := by first | exact Or.inl rfl | exact Or.inr (Or.inl rfl) | exact Or.inr (Or.inr rfl)) (hd : (x == ("__debug__" : Str)) = false := by decide) (hcd : (x == ("__classdict__" : Str)) = false := by decide)
    (hbase : attributeBase (.Name x px) "append" X.env (eval (.Name x px) X.env) = eval (.Name x px) X.env := by rfl)
    (hfew : ((backTo cpos (starEach (e :: []) X.env)).all (fun x => !x.1) && (backToKw cpos (keywordEach [] X.env)).all (fun x => x.1.isSome)
      && decide ((e :: []).length + ([] : List Keyword).length + (if ([] : List Keyword).isEmpty then 0 else 1) < 30)) = true := by rfl)
    (hline : (apos.endLine == cpos.line) = true := by rfl) (hs : starEach (e :: []) X.env = (false, eval e X.env) :: starEach [] X.env := by rfl) (hplain : (backTo cpos (starEach [] X.env)).any (·.1) = false := by rfl) :
    GV X Bo W (.Call (.Attribute (.Name x px) "append" apos) [e] [] cpos) (fMeth i dAppend fa) :=
  (pe_bm PySem.F.plainAttrs_list PySem.F.slot_list_append PySem.F.type_list_append mt_append (pe_var hN hv hd hcd) h hbase hfew hline hs hplain).imp (meth_data append_ok)
/-- x[k] = e, x a slot's own list -/
def fSetIx (i : Nat) (fi f : PSt → Rs PyData) : PSt → Os := fun ps => (f ps).st fun v ps1 => match slotL i ps1 with
  | none => .bad
  | some _ => (fi ps1).st fun k ps2 => match slotL i ps2, k with
    | some ds, .int k => (match ixN ds.length k with
      | some j => .nx (ps2.set i (some (.own (.list (ds.set j v)))))
      | none => .bad)
    | _, _ => .bad
theorem gs_setIx (i : Nat) {px sp : Pos} {ei : Expr} {fi : PSt → Rs PyData} (h : GV X Bo W e f) (hi : GV X Bo W ei fi) (hN : X.N[i]? = some x := by rfl) (hv : Vis X.env.scope x := by first | exact Or.inl rfl | exact Or.inr (Or.inl rfl) | exact Or.inr (Or.inr rfl)) (hd : (x == ("__debug__" : Str)) = false := by decide) (hcd : (x == ("__classdict__" : Str)) = false := by decide)
    (ha : ∀ v, assign (.Subscript (.Name x px) ei sp) X.env v = (do
      let ov ← holding [v] (eval (.Name x px) X.env)
      let iv ← holding [v, ov] (eval ei X.env)
      standAt sp
      holding [v, ov, iv] (setItem ov iv v)
      release [v, ov, iv] []) := by intro _; rfl)
    (hs : swapsWithSole [.Subscript (.Name x px) ei sp] e pos.line X.env = pure false := by rfl) (hw : swappedStores [.Subscript (.Name x px) ei sp] e X.env = pure none := by rfl)
    (h1 : (assignEach [.Subscript (.Name x px) ei sp] X.env).map (·.2) = [assign (.Subscript (.Name x px) ei sp) X.env] := by rfl) : GS X Bo W (.Assign [.Subscript (.Name x px) ei sp] e pos) (fSetIx i fi f) := by
  refine (ps_asg h (pg_sub (pe_var hN hv hd hcd) hi set_list ha) hs hw h1).imp fun D σ H q => ?_
  refine tS_bind q fun v d F F1 H1 ps ps1 sr s1 st hv q => ?_
  have hv : Dp X.K F1 v d := hv
  cases e0 : slotL i ps1 with
  | none => rw [e0] at q; exact q.elim
  | some d0 =>
    rw [e0] at q
    obtain ⟨a, ha, _⟩ := s1.own (slotL_at e0)
    refine ⟨.ref a, ha, ?_⟩
    refine gos_bind (R1 := RV X.K) s1 q fun y k F2 H2 ps2 s2 st2 hy q => ?_
    cases e1 : slotL i ps2 with
    | none => rw [e1] at q; exact q.elim
    | some ds =>
      rw [e1] at q
      match k, hy, q with
      | .int k, hy, q =>
        cases hy
        dsimp only at q
        have e1 := slotL_at e1
        obtain ⟨a', ha', hn, xs, ds2, ed, hH, hd⟩ := s2.own e1
        cases ed
        rw [ha] at ha'; cases ha'
        cases ej : ixN ds.length k with
        | none => rw [ej] at q; exact q.elim
        | some j =>
          rw [ej] at q
          refine ⟨a, xs, k, j, rfl, rfl, hH, by rw [hd.length]; exact ej, ?_⟩
          obtain ⟨s3, st3⟩ := s2.mut e1 ha hn (d' := .list (ds.set j d)) rfl (hd.set j (hv.mono st2.grow))
          exact q σ F2 _ st3 s3
      | .none, _, q => exact q.elim
      | .bool _, _, q => exact q.elim
      | .str _, _, q => exact q.elim
      | .list _, _, q => exact q.elim
      | .tuple _, _, q => exact q.elim
      | .dict _, _, q => exact q.elim
/-- a, b = e1, e2 with plain local names -/
def fPar (i j : Nat) (f1 f2 : PSt → Rs PV) : PSt → Os := fun ps => (f1 ps).st fun p ps1 => (f2 ps1).st fun q ps2 => .nx ((ps2.set i (some p)).set j (some q))
theorem ro2 {K : PySem.W.Frag} {F H F1 H1 F2 H2 : Hp} {σ : St} {ps ps1 ps2 : PSt} {v w : V} {p q : PV} {i j : Nat} (hij : i ≠ j) (hi : Bo = none ∨ i ≠ 0) (hj : Bo = none ∨ j ≠ 0) (s2 : SR K Bo F2 H2 σ ps2) (st1 : Step F H σ ps F1 H1 σ ps1) (st2 : Step F1 H1 σ ps1 F2 H2 σ ps2)
    (h1 : RO K σ F H ps F1 H1 ps1 v p) (h2 : RO K σ F1 H1 ps1 F2 H2 ps2 w q) : SR K Bo F2 H2 ((σ.set i (some v)).set j (some w)) ((ps2.set i (some p)).set j (some q)) ∧ Step F H σ ps F2 H2 ((σ.set i (some v)).set j (some w)) ((ps2.set i (some p)).set j (some q)) := by
  have k1 := h1.keep st2
  obtain ⟨s3, st3⟩ := store_pv hi s2 (st1.trans st2) k1
  match q, h2 with
  | .val d, h2 => exact ⟨s3.setV hj h2, st3.trans .setV⟩
  | .own d, h2 =>
    obtain ⟨b, rfl, h4, h5, h6⟩ := h2
    have no : ¬ Owned (σ.set i (some v)) (ps2.set i (some p)) b := by
      match p, h1, k1 with
      | .val d', _, _ => exact fun z => h5 (owned_set (fun _ q => by cases q) z)
      | .own d', h1, k1 =>
        obtain ⟨a, rfl, ⟨_, _, _, _, ha, _⟩, n1, _⟩ := h1
        intro z
        rcases owned_setO z with y | y
        · subst y
          rcases h6 with y | y
          · exact n1 y
          · rw [ha] at y; cases y
        · exact h5 y
    refine ⟨s3.setO hj h4 no, st3.grow, st3.fresh, st3.keep, fun c z => ?_⟩
    rcases owned_setO z with y | y
    · subst y; exact st1.new h6
    · exact st3.own c y
/-- .. written from the right, but the values do not hang together -/
theorem gs_par (i j : Nat) {x y : Str} {px py pt pt2 : Pos} {kt k2 : Nat} (h1 : GO X Bo W e1 fo1) (h2 : GO X Bo W e2 fo2) (hc : X.calm = true) (hN : X.N.Nodup) (hx : X.env.scope.names.lookup x = some .local) (hy : X.env.scope.names.lookup y = some .local)
    (hw : swappedStores [.Tuple [.Name x px, .Name y py] kt pt] (.Tuple [e1, e2] k2 pt2) X.env = pure (some [x, y])) (hij : i ≠ j := by decide) (hbi : Bo = none ∨ i ≠ 0 := by first | exact .inl rfl | exact .inr (by decide)) (hbj : Bo = none ∨ j ≠ 0 := by first | exact .inl rfl | exact .inr (by decide))
    (hi : X.N[i]? = some x := by rfl) (hj : X.N[j]? = some y := by rfl) (hs1 : starEach (e1 :: [e2]) X.env = (false, eval e1 X.env) :: starEach [e2] X.env := by rfl) (hs2 : starEach (e2 :: []) X.env = (false, eval e2 X.env) :: starEach [] X.env := by rfl)
    (hs : swapsWithSole [.Tuple [.Name x px, .Name y py] kt pt] (.Tuple [e1, e2] k2 pt2) pos.line X.env = pure false := by rfl) :
    GS X Bo W (.Assign [.Tuple [.Name x px, .Name y py] kt pt] (.Tuple [e1, e2] k2 pt2) pos) (fPar i j fo1 fo2) := by
  refine (ps_par hc hN hi hj hij hx hy (pa_cons h1 (pa_cons h2 pa_nil hs2) hs1) hw hs).imp fun D σ H ⟨F, ps, sr, q⟩ => ?_
  show tR X.K X.mg Bo W (RO X.K) fo1 σ H _
  refine ⟨F, ps, sr, ?_⟩
  unfold fPar at q
  cases e1 : fo1 ps with
  | bad => rw [e1] at q; exact q
  | exc x ps1 => rw [e1] at q; exact fun cls dd F' H' st s1 r => q cls dd σ F' H' st s1 r
  | ok p ps1 =>
    rw [e1] at q
    intro v F1 H1 st1 s1 hv
    have q : GoalS X.K X.mg Bo W ((fo2 ps1).st fun q ps2 => .nx ((ps2.set i (some p)).set j (some q))) F H σ ps D := q
    show tR X.K X.mg Bo W (RO X.K) fo2 σ H1 _
    refine ⟨F1, ps1, s1, ?_⟩
    cases e2 : fo2 ps1 with
    | bad => rw [e2] at q; exact q
    | exc x ps2 => rw [e2] at q; exact fun cls dd F' H' st s2 r => q cls dd σ F' H' (st1.trans st) s2 r
    | ok r ps2 =>
      rw [e2] at q
      intro w F2 H2 st2 s2 hw
      obtain ⟨s3, st3⟩ := ro2 hij hbi hbj s2 st1 st2 hv hw
      exact ⟨v, w, rfl, q _ F2 H2 st3 s3⟩
theorem _root_.L2.Room.u65 {k : Nat} {A : Around} (r : Room k A) : A.units + 65 < cLine := by have := r.un; omega
end

theorem bool_if {c : Prop} [Decidable c] {b : Bool} {d : PyData} (h : (if c then some (PyData.bool b) else none) = some d) : ∃ k, d = .bool k := by
  split at h
  · cases h; exact ⟨_, rfl⟩
  · cases h
theorem bool_dEq (a b d : PyData) (h : dEq a b = some d) : ∃ k, d = .bool k := bool_if h
theorem bool_dNe (a b d : PyData) (h : dNe a b = some d) : ∃ k, d = .bool k := bool_if h
theorem bool_dLt (a b d : PyData) (h : dLt a b = some d) : ∃ k, d = .bool k := by
  unfold dLt at h
  cases e : intPair a b with
  | some p => rw [e] at h; cases h; exact ⟨_, rfl⟩
  | none => rw [e] at h; exact bool_if h
theorem bool_dI {D : Int → Int → Bool} (a b d : PyData) (h : dI (fun i j => some (.bool (D i j))) a b = some d) : ∃ k, d = .bool k := by
  unfold dI at h
  split at h
  · cases h; exact ⟨_, rfl⟩
  · cases h
theorem bool_dGt (a b d : PyData) (h : dGt a b = some d) : ∃ k, d = .bool k := bool_dI a b d h
theorem bool_dLe (a b d : PyData) (h : dLe a b = some d) : ∃ k, d = .bool k := bool_dI a b d h
theorem bool_dGe (a b d : PyData) (h : dGe a b = some d) : ∃ k, d = .bool k := bool_dI a b d h
theorem bool_dIs (a b d : PyData) (h : dIs a b = some d) : ∃ k, d = .bool k := by
  unfold dIs at h
  split at h <;> cases h <;> exact ⟨_, rfl⟩
theorem bool_dIsNot (a b d : PyData) (h : dIsNot a b = some d) : ∃ k, d = .bool k := by
  unfold dIsNot at h
  split at h <;> cases h <;> exact ⟨_, rfl⟩
theorem bool_dIn (a b d : PyData) (h : dIn a b = some d) : ∃ k, d = .bool k := by
  unfold dIn at h
  split at h
  · exact bool_if h
  · cases h
theorem bool_dNotIn (a b d : PyData) (h : dNotIn a b = some d) : ∃ k, d = .bool k := by
  unfold dNotIn at h
  split at h
  · exact bool_if h
  · cases h
end GL

/-! GLj: the end of a law -/
namespace GL
open PySem PySem.Spec L2
open PyProof.Rows hiding St
/-- a law over a head by facts, exceptions of the program's own within -/
theorem walk_ofEw {l : PySem.W.OpenLaw} {n k : Nat} {q : Program} {loose : List Str} {XP : (Str → Option Value) → Heap → Prop} {YP : World → Heap → Prop} {d : DefRec} {x : Str}
    (hn : l.most = some n) (hn2 : n ≤ sizeLine) (hdf : d.params.defaults = []) (hr : Room k callerA)
    (F : ∀ (w : World) (mg : Str → Option Value) (fa : Addr) (h : Heap), YP w h → h.Ns mainGlobals mg → mg d.name = some (.ref fa) →
      ∃ (K : PySem.W.Frag) (fd : FuncData) (sp : Sp), K.In h ∧ (∀ (s : Shared) (u : Value), BindsTo s fd ⟨[u], []⟩ [(x, u)]) ∧
        (∀ (H : Hp) (a : Addr) (ns : List Int), ns.length ≤ n → L2.Only H → SqL K H a (ns.map V.int) → sp [.ref a] H (fun v _ => v = .bl true) fun _ _ _ => False) ∧
        ∀ base : Heap, K.In base → base.Ns mainGlobals mg → FnOk l.prog w K mg base (L2.CX l.prog w) k fa fd [x] sp) :
    PySem.W.WalkO q loose XP YP l.row.toRowW d [] (fun f vs => PySem.call f vs) := by
  refine Att.attach_call hn hdf fun w s₀ s₁ mg mb fa o pm cd doc a vs ns G Y ho hd hcd hmg hobj hints hlen hg => ?_
  obtain ⟨K, fd, sp, KX, hb, hsp, hF⟩ := F w mg fa _ Y G.T.g hmg
  refine law_call KX G.T.g G.T.b G.T.builtins G.T.nolimit hg hobj hints (Nat.le_trans hlen hn2) hr hF hb (fun H hO hS => hsp H a ns hlen hO hS) fun H e s' h => ?_
  obtain ⟨_, _, _, _, _, _, _, _, _, _, _, _, z⟩ := h
  exact z.elim
theorem ints_dp {K : PySem.W.Frag} {H : Hp} : ∀ ns : List Int, DpAll K H (ns.map V.int) (ns.map PyData.int)
  | [] => .nil
  | n :: ns => .cons (.int n) (ints_dp ns)
/-- what a law's def promises, from its function -/
theorem law_sp {K : PySem.W.Frag} {mg : Str → Option Value} {M : List PyData → FR} (hM : ∀ ns : List Int, ns.length ≤ 63 → M [.list (ns.map PyData.int)] = .ok (.val (.bool true))) (H : Hp) (a : Addr) (ns : List Int) (hl : ns.length ≤ 63) (hS : SqL K H a (ns.map V.int)) :
    spP K mg 1 M [.ref a] H (fun v _ => v = .bl true) fun _ _ _ => False := by
  refine ⟨rfl, H, [.list (ns.map PyData.int)], .refl _, .cons (.lst hS (ints_dp ns)) .nil, ?_⟩
  rw [hM ns hl]
  intro v F' H' _ h
  have h : Dp K F' v (.bool true) := h
  cases h
  rfl
end GL

/-! GLk: what the functions of pure states give, by rules (Ev: an expression; Es: a statement) -/
namespace GL
open PySem PySem.Spec L2
open PyProof.Rows hiding St

def Ev {α : Type} (f : PSt → Rs α) (ps : PSt) (a : α) (ps' : PSt) : Prop := f ps = .ok a ps'
def Es (g : PSt → Os) (ps : PSt) (o : Os) : Prop := g ps = o
def Et (u : PyData → PSt → Option PSt) (d : PyData) (ps ps' : PSt) : Prop := u d ps = some ps'
def Ets (u : List PyData → PSt → Option PSt) (d : List PyData) (ps ps' : PSt) : Prop := u d ps = some ps'
section
variable {f f1 f2 f3 : PSt → Rs PyData} {fo fo1 fo2 : PSt → Rs PV} {fa : PSt → Rs (List PyData)} {c c1 c2 : PSt → Rs Bool} {g g1 g2 : PSt → Os} {ps ps1 ps2 ps3 ps4 : PSt} {a b d e : PyData} {p q : PV} {ds : List PyData} {i j n : Nat} {o : Os} {D D' : PyData → PyData → Option PyData}
theorem ev_K : Ev (fK d) ps d ps := rfl
theorem ev_N (h : ps[i]? = some (some (.val d))) : Ev (fN i) ps d ps := by unfold Ev fN; rw [h]
theorem ev_No (h : ps[i]? = some (some (.own (.list ds)))) : Ev (fN i) ps (.list ds) (ps.set i (some (.val (.list ds)))) := by unfold Ev fN; rw [h]
theorem ev_Mv (h : ps[i]? = some (some p)) : Ev (fMv i) ps p (ps.set i none) := by unfold Ev fMv; rw [h]
theorem ev_data (h : Ev fo ps p ps1) : Ev (fun ps => (fo ps).map PV.data) ps p.data ps1 := by unfold Ev at *; dsimp only; rw [h]; rfl
theorem ev_val (h : Ev f ps d ps1) : Ev (fun ps => (f ps).map PV.val) ps (.val d) ps1 := by unfold Ev at *; dsimp only; rw [h]; rfl
theorem ev_nil : Ev (fun ps => (.ok [] ps : Rs (List PyData))) ps [] ps := rfl
theorem ev_cons (h : Ev f ps d ps1) (t : Ev fa ps1 ds ps2) : Ev (fCons f fa) ps (d :: ds) ps2 := by unfold Ev at *; unfold fCons; rw [h]; dsimp only [Rs.bind]; rw [t]
theorem ev_bin (h1 : Ev f1 ps a ps1) (h2 : Ev f2 ps1 b ps2) (h : D a b = some d) : Ev (fBin D f1 f2) ps d ps2 := by unfold Ev at *; unfold fBin; rw [h1]; dsimp only [Rs.bind]; rw [h2]; dsimp only; rw [h]; rfl
theorem ev_un {D : PyData → Option PyData} (h1 : Ev f ps a ps1) (h : D a = some d) : Ev (fUn D f) ps d ps1 := by unfold Ev at *; unfold fUn; rw [h1]; dsimp only [Rs.bind]; rw [h]; rfl
theorem ev_binS (h0 : look i ps = some e) (h2 : Ev f2 ps b ps2) (h1 : look i ps2 = some a) (h : D a b = some d) : Ev (fBinS D i f2) ps d ps2 := by unfold Ev at *; unfold fBinS; rw [h0]; dsimp only; rw [h2]; dsimp only [Rs.bind]; rw [h1]; dsimp only; rw [h]; rfl
theorem ev_ixS (h0 : look i ps = some e) (h2 : Ev f2 ps b ps2) (h1 : look i ps2 = some a) (h : dIx a b = some d) : Ev (fIxS i f2) ps d ps2 := by unfold Ev at *; unfold fIxS; rw [h0]; dsimp only; rw [h2]; dsimp only [Rs.bind]; rw [h1]; dsimp only; rw [h]; rfl
theorem ev_lenS (h0 : look i ps = some e) (h : dLen [e] = some d) : Ev (fLenS i) ps d ps := by unfold Ev at *; unfold fLenS; rw [h0]; dsimp only; rw [h]; rfl
theorem ev_test {k : Bool} (h : Ev f ps (.bool k) ps1) : Ev (fTest f) ps k ps1 := by unfold Ev at *; unfold fTest; rw [h]; rfl
theorem ev_not {k : Bool} (h : Ev c ps k ps1) : Ev (fNot c) ps (!k) ps1 := by unfold Ev at *; unfold fNot; rw [h]; rfl
theorem ev_and {k l : Bool} (h1 : Ev c1 ps k ps1) (h2 : k = true → Ev c2 ps1 l ps2) (hp : k = false → ps2 = ps1) : Ev (fAnd c1 c2) ps (k && l) ps2 := by
  unfold Ev at *; unfold fAnd; rw [h1]; cases k with
  | true => dsimp only [Rs.bind]; rw [if_pos rfl, h2 rfl]; rfl
  | false => rw [hp rfl]; rfl
theorem ev_or {k l : Bool} (h1 : Ev c1 ps k ps1) (h2 : k = false → Ev c2 ps1 l ps2) (hp : k = true → ps2 = ps1) : Ev (fOr c1 c2) ps (k || l) ps2 := by
  unfold Ev at *; unfold fOr; rw [h1]; cases k with
  | false => dsimp only [Rs.bind]; rw [if_neg Bool.false_ne_true, h2 rfl]; rfl
  | true => rw [hp rfl]; rfl
theorem ev_andV {k l : Bool} (h1 : Ev f1 ps (.bool k) ps1) (h2 : k = true → Ev f2 ps1 (.bool l) ps2) (hp : k = false → ps2 = ps1) : Ev (fAndV f1 f2) ps (.bool (k && l)) ps2 := by
  have h0 := ev_test h1
  unfold Ev at *; unfold fAndV; rw [h0]; cases k with
  | true => dsimp only [Rs.bind]; rw [if_pos rfl, h2 rfl]; rfl
  | false => rw [hp rfl]; rfl
theorem ev_orV {k l : Bool} (h1 : Ev f1 ps (.bool k) ps1) (h2 : k = false → Ev f2 ps1 (.bool l) ps2) (hp : k = true → ps2 = ps1) : Ev (fOrV f1 f2) ps (.bool (k || l)) ps2 := by
  have h0 := ev_test h1
  unfold Ev at *; unfold fOrV; rw [h0]; cases k with
  | false => dsimp only [Rs.bind]; rw [if_neg Bool.false_ne_true, h2 rfl]; rfl
  | true => rw [hp rfl]; rfl
theorem ev_notV {k : Bool} (h : Ev f ps (.bool k) ps1) : Ev (fNotV f) ps (.bool (!k)) ps1 := by
  have h0 := ev_test h
  unfold Ev at *; unfold fNotV; rw [h0]; rfl
theorem ev_ifT (h : Ev c ps true ps1) (h1 : Ev f1 ps1 d ps2) : Ev (fIf c f1 f2) ps d ps2 := by unfold Ev at *; unfold fIf; rw [h]; dsimp only [Rs.bind]; rw [if_pos rfl, h1]
theorem ev_ifF (h : Ev c ps false ps1) (h1 : Ev f2 ps1 d ps2) : Ev (fIf c f1 f2) ps d ps2 := by unfold Ev at *; unfold fIf; rw [h]; dsimp only [Rs.bind]; rw [if_neg Bool.false_ne_true, h1]
theorem ev_tup (h : Ev fa ps ds ps1) (hz : ds.length ≤ 1000 := by first | decide | (simp only [List.length_cons, List.length_nil]; omega)) : Ev (fTup fa) ps (.tuple ds) ps1 := by
  unfold Ev at *; unfold fTup; rw [h]; dsimp only [Rs.bind]; rw [if_pos (by rw [sizeLine_eq]; omega)]
theorem ev_lst (h : Ev fa ps ds ps1) (hz : ds.length ≤ 1000 := by first | decide | (simp only [List.length_cons, List.length_nil]; omega)) : Ev (fLst fa) ps (.own (.list ds)) ps1 := by
  unfold Ev at *; unfold fLst; rw [h]; dsimp only [Rs.bind]; rw [if_pos (by rw [sizeLine_eq]; omega)]
theorem ev_app {DA : List PyData → Option PyData} (h : Ev fa ps ds ps1) (hd : DA ds = some d) : Ev (fApp DA fa) ps d ps1 := by unfold Ev at *; unfold fApp; rw [h]; dsimp only [Rs.bind]; rw [hd]; rfl
theorem ev_appO {DA : List PyData → Option (List PyData)} {es : List PyData} (h : Ev fa ps ds ps1) (hd : DA ds = some es) : Ev (fAppO DA fa) ps (.own (.list es)) ps1 := by unfold Ev at *; unfold fAppO; rw [h]; dsimp only [Rs.bind]; rw [hd]
theorem ev_isi {DB : PyData → Option Bool} {k : Bool} (h : Ev f ps d ps1) (hd : DB d = some k) : Ev (fIsi DB f) ps (.bool k) ps1 := by unfold Ev at *; unfold fIsi; rw [h]; dsimp only [Rs.bind]; rw [hd]
theorem ev_call {M : List PyData → FR} (h : Ev fa ps ds ps1) (hM : M ds = .ok p) (hn : ds.length = n := by rfl) : Ev (fCall n M fa) ps p ps1 := by unfold Ev at *; unfold fCall; rw [h]; dsimp only [Rs.bind]; rw [if_pos hn, hM]; rfl
theorem ev_callU {M : List PyData → List PyData → FRU} {u u' u0 : List PyData} (h0 : ps[i]? = some (some (.own (.list u0)))) (h : Ev fa ps ds ps1) (h1 : ps1[i]? = some (some (.own (.list u)))) (hM : M u ds = .ok p u') (hn : ds.length = n := by rfl) :
    Ev (fCallU i n M fa) ps p (ps1.set i (some (.own (.list u')))) := by
  unfold Ev at *; unfold fCallU
  have : isOwn i ps = true := by unfold isOwn; rw [h0]
  rw [this]
  rw [if_neg (by decide), h]; dsimp only [Rs.bind]; rw [if_pos hn, h1]; dsimp only; rw [hM]
theorem ev_partN : Ev fNoPart ps none ps := rfl
theorem ev_partS {k : Int} (h : Ev f ps (.int k) ps1) : Ev (fSomePart f) ps (some k) ps1 := by unfold Ev at *; unfold fSomePart; rw [h]; rfl
theorem ev_slT {l h : PSt → Rs (Option Int)} {lo hi : Option Int} (h1 : Ev f ps (.tuple ds) ps1) (h2 : Ev l ps1 lo ps2) (h3 : Ev h ps2 hi ps3) : Ev (fSl f l h) ps (.val (.tuple (cutD ds lo hi))) ps3 := by
  unfold Ev at *; unfold fSl; rw [h1]; dsimp only [Rs.bind]; rw [h2]; dsimp only; rw [h3]
theorem ev_slL {l h : PSt → Rs (Option Int)} {lo hi : Option Int} (h1 : Ev f ps (.list ds) ps1) (h2 : Ev l ps1 lo ps2) (h3 : Ev h ps2 hi ps3) : Ev (fSl f l h) ps (.own (.list (cutD ds lo hi))) ps3 := by
  unfold Ev at *; unfold fSl; rw [h1]; dsimp only [Rs.bind]; rw [h2]; dsimp only; rw [h3]
theorem ev_chainT (h1 : Ev f1 ps a ps1) (h2 : Ev f2 ps1 b ps2) (hd : D a b = some (.bool true)) (h3 : Ev f3 ps2 e ps3) (hd' : D' b e = some d) : Ev (fChain D D' f1 f2 f3) ps d ps3 := by
  unfold Ev at *; unfold fChain; rw [h1]; dsimp only [Rs.bind]; rw [h2]; dsimp only; rw [hd]; dsimp only; rw [h3]; dsimp only; rw [hd']; rfl
theorem ev_chainF (h1 : Ev f1 ps a ps1) (h2 : Ev f2 ps1 b ps2) (hd : D a b = some (.bool false)) : Ev (fChain D D' f1 f2 f3) ps (.bool false) ps2 := by
  unfold Ev at *; unfold fChain; rw [h1]; dsimp only [Rs.bind]; rw [h2]; dsimp only; rw [hd]
theorem ev_orT1 (h : Ev fo1 ps p ps1) (ht : truL p = some true) : Ev (fOrT fo1 fo2) ps p ps1 := by unfold Ev at *; unfold fOrT; rw [h]; dsimp only [Rs.bind]; rw [ht]
theorem ev_orT2 (h : Ev fo1 ps p ps1) (ht : truL p = some false) (h2 : Ev fo2 ps1 q ps2) : Ev (fOrT fo1 fo2) ps q ps2 := by unfold Ev at *; unfold fOrT; rw [h]; dsimp only [Rs.bind]; rw [ht]; dsimp only; rw [h2]
theorem ev_meth {DM : List PyData → List PyData → Option (List PyData)} {as es es0 es' : List PyData} (h0 : ps[i]? = some (some (.own (.list es0)))) (h : Ev fa ps as ps1) (h1 : ps1[i]? = some (some (.own (.list es)))) (hd : DM es as = some es') : Ev (fMeth i DM fa) ps .none (ps1.set i (some (.own (.list es')))) := by
  unfold Ev at *; unfold fMeth
  have z : slotL i ps = some es0 := by unfold slotL; rw [h0]
  have z1 : slotL i ps1 = some es := by unfold slotL; rw [h1]
  rw [z]; dsimp only; rw [h]; dsimp only [Rs.bind]; rw [z1]; dsimp only; rw [hd]

/-! ### walked -/
theorem ev_seqI (h : Ev f ps d ps1) (hd : seqOf d = some ds) : Ev (fSeqI f) ps ds ps1 := by unfold Ev at *; unfold fSeqI; rw [h]; dsimp only [Rs.bind]; rw [hd]; rfl
theorem ev_range1 {k : Int} (h : Ev fa ps [.int k] ps1) (h1 : k < 2 ^ 62 ∧ -(2 ^ 62) ≤ k) : Ev (fRange1 fa) ps (rangeD 0 k.toNat) ps1 := by unfold Ev at *; unfold fRange1; rw [h]; dsimp only [Rs.bind]; rw [if_pos h1]
theorem ev_range2 {k l : Int} (h : Ev fa ps [.int k, .int l] ps1) (h1 : (l < 2 ^ 62 ∧ -(2 ^ 62) ≤ l) ∧ (k < 2 ^ 62 ∧ -(2 ^ 62) ≤ k)) : Ev (fRange2 fa) ps (rangeD k (l - k).toNat) ps1 := by unfold Ev at *; unfold fRange2; rw [h]; dsimp only [Rs.bind]; rw [if_pos h1]
theorem ev_enum (h : Ev fa ps [.list ds] ps1) : Ev (fEnum fa) ps (enumD ds) ps1 := by unfold Ev at *; unfold fEnum; rw [h]; rfl
theorem ev_zipL {es : List PyData} (h : Ev fa ps [.list ds, .list es] ps1) : Ev (fZip fa) ps (zipD ds es) ps1 := by unfold Ev at *; unfold fZip; rw [h]; rfl
theorem ev_zipT {es : List PyData} (h : Ev fa ps [.tuple ds, .tuple es] ps1) : Ev (fZip fa) ps (zipD ds es) ps1 := by unfold Ev at *; unfold fZip; rw [h]; rfl
/-! ### comprehensions -/
theorem ev_lc {fi : PSt → Rs (List PyData)} {u : PyData → PSt → Option PSt} {fe : PSt → Rs PyData} {vs : List Nat} {es : List PyData} {p1 : PSt} (hi : Ev fi ps ds ps1) (hc : compL u c fe vs ds (wipeP ps1 vs) [] = .ok es p1) : Ev (fLc fi u c fe vs) ps (.own (.list es)) (restP ps1 p1 vs) := by
  unfold Ev at *; unfold fLc; rw [hi]; dsimp only [Rs.bind]; rw [hc]; rfl
/-- one item, kept -/
theorem compL_cons {u : PyData → PSt → Option PSt} {fe : PSt → Rs PyData} {vs : List Nat} {acc : List PyData} {r : Rs (List PyData)} (hu : Et u d ps ps1) (hc : Ev c ps1 true ps2) (he : Ev fe ps2 e ps3) (hz : acc.length < 16777216) (h : compL u c fe vs ds (wipeP ps3 vs) (acc ++ [e]) = r) : compL u c fe vs (d :: ds) ps acc = r := by
  unfold Ev Et at *; unfold compL; rw [hu]; dsimp only; rw [hc]; dsimp only [Rs.bind]; rw [if_pos rfl, he]; dsimp only; rw [if_pos (by rw [sizeLine_eq]; exact hz), h]
theorem compL_skip {u : PyData → PSt → Option PSt} {fe : PSt → Rs PyData} {vs : List Nat} {acc : List PyData} {r : Rs (List PyData)} (hu : Et u d ps ps1) (hc : Ev c ps1 false ps2) (h : compL u c fe vs ds (wipeP ps2 vs) acc = r) : compL u c fe vs (d :: ds) ps acc = r := by
  unfold Ev Et at *; unfold compL; rw [hu]; dsimp only; rw [hc]; dsimp only [Rs.bind]; rw [if_neg Bool.false_ne_true, h]
/-- all items, the same state before and behind each -/
theorem compL_map {u : PyData → PSt → Option PSt} {fe : PSt → Rs PyData} {vs : List Nat} (h : PyData → PyData) : ∀ (ds acc : List PyData), acc.length + ds.length ≤ 16777216 → (∀ d ∈ ds, ∃ p1 p2 p3, Et u d ps p1 ∧ Ev c p1 true p2 ∧ Ev fe p2 (h d) p3 ∧ wipeP p3 vs = ps) → compL u c fe vs ds ps acc = .ok (acc ++ ds.map h) ps
  | [], acc, _, _ => by unfold compL; simp
  | d :: ds, acc, hz, hh => by
    obtain ⟨p1, p2, p3, h1, h2, h3, h4⟩ := hh d List.mem_cons_self
    simp only [List.length_cons] at hz
    refine compL_cons h1 h2 h3 (by omega) ?_
    rw [h4, compL_map h ds (acc ++ [h d]) (by simp; omega) fun d hd => hh d (List.mem_cons_of_mem _ hd)]
    simp
theorem ev_cYes : Ev cYes ps true ps := rfl
/-! ### targets -/
theorem et_N : Et (uN i) d ps (ps.set i (some (.val d))) := rfl
theorem ets_nil : Ets uNil [] ps ps := rfl
theorem ets_cons {u : PyData → PSt → Option PSt} {us : List PyData → PSt → Option PSt} (h : Et u d ps ps1) (t : Ets us ds ps1 ps2) : Ets (uCons u us) (d :: ds) ps ps2 := by unfold Et Ets at *; unfold uCons; dsimp only; rw [h]; exact t
theorem et_T {us : List PyData → PSt → Option PSt} (h : Ets us ds ps ps1) (hn : ds.length = n := by rfl) : Et (uTup n us) (.tuple ds) ps ps1 := by unfold Et Ets at *; unfold uTup; dsimp only; rw [if_pos hn, h]
theorem et_L {us : List PyData → PSt → Option PSt} (h : Ets us ds ps ps1) (hn : ds.length = n := by rfl) : Et (uTup n us) (.list ds) ps ps1 := by unfold Et Ets at *; unfold uTup; dsimp only; rw [if_pos hn, h]
/-! ### statements -/
theorem es_skip : Es fSkip ps (.nx ps) := rfl
theorem es_seq (h1 : Es g1 ps (.nx ps1)) (h2 : Es g2 ps1 o) : Es (fSeq g1 g2) ps o := by unfold Es at *; unfold fSeq; rw [h1]; exact h2
theorem es_seqR (h1 : Es g1 ps (.ret p ps1)) : Es (fSeq g1 g2) ps (.ret p ps1) := by unfold Es at *; unfold fSeq; rw [h1]
theorem es_seqX {x : Exn} (h1 : Es g1 ps (.exc x ps1)) : Es (fSeq g1 g2) ps (.exc x ps1) := by unfold Es at *; unfold fSeq; rw [h1]
theorem es_expr (h : Ev f ps d ps1) : Es (fExpr f) ps (.nx ps1) := by unfold Ev Es at *; unfold fExpr; rw [h]; rfl
theorem es_exprX {x : Exn} (h : f ps = .exc x ps1) : Es (fExpr f) ps (.exc x ps1) := by unfold Es at *; unfold fExpr; rw [h]; rfl
theorem es_ret (h : Ev fo ps p ps1) : Es (fRet fo) ps (.ret p ps1) := by unfold Ev Es at *; unfold fRet; rw [h]; rfl
theorem es_set (h : Ev fo ps p ps1) : Es (fSet i fo) ps (.nx (ps1.set i (some p))) := by unfold Ev Es at *; unfold fSet; rw [h]; rfl
theorem es_asg {u : PyData → PSt → Option PSt} (h : Ev f ps d ps1) (hu : Et u d ps1 ps2) : Es (fAsg u f) ps (.nx ps2) := by unfold Ev Et Es at *; unfold fAsg; rw [h]; dsimp only [Rs.st]; rw [hu]
theorem es_par (h1 : Ev fo1 ps p ps1) (h2 : Ev fo2 ps1 q ps2) : Es (fPar i j fo1 fo2) ps (.nx ((ps2.set i (some p)).set j (some q))) := by unfold Ev Es at *; unfold fPar; rw [h1]; dsimp only [Rs.st]; rw [h2]
theorem es_setIx {fi : PSt → Rs PyData} {k : Int} {es es0 : List PyData} (h : Ev f ps d ps1) (h0 : ps1[i]? = some (some (.own (.list es0)))) (hi : Ev fi ps1 (.int k) ps2) (h1 : ps2[i]? = some (some (.own (.list es)))) (hj : ixN es.length k = some j) : Es (fSetIx i fi f) ps (.nx (ps2.set i (some (.own (.list (es.set j d)))))) := by
  unfold Ev Es at *; unfold fSetIx
  have z : slotL i ps1 = some es0 := by unfold slotL; rw [h0]
  have z1 : slotL i ps2 = some es := by unfold slotL; rw [h1]
  rw [h]; dsimp only [Rs.st]; rw [z]; dsimp only; rw [hi]; dsimp only; rw [z1]; dsimp only; rw [hj]
theorem es_ifT (h : Ev c ps true ps1) (h1 : Es g1 ps1 o) : Es (fIfS c g1 g2) ps o := by unfold Ev Es at *; unfold fIfS; rw [h]; dsimp only [Rs.st]; rw [if_pos rfl, h1]
theorem es_ifF (h : Ev c ps false ps1) (h1 : Es g2 ps1 o) : Es (fIfS c g1 g2) ps o := by unfold Ev Es at *; unfold fIfS; rw [h]; dsimp only [Rs.st]; rw [if_neg Bool.false_ne_true, h1]
theorem es_for {fi : PSt → Rs (List PyData)} {u : PyData → PSt → Option PSt} (h : Ev fi ps ds ps1) (h1 : forL u g ds ps1 = o) : Es (fFor fi u g) ps o := by unfold Ev Es at *; unfold fFor; rw [h]; exact h1
theorem forL_nil {u : PyData → PSt → Option PSt} : forL u g [] ps = .nx ps := rfl
theorem forL_cons {u : PyData → PSt → Option PSt} (hu : Et u d ps ps1) (h : Es g ps1 (.nx ps2)) (h2 : forL u g ds ps2 = o) : forL u g (d :: ds) ps = o := by unfold Et Es at *; unfold forL; rw [hu]; dsimp only; rw [h]; exact h2
theorem forL_ret {u : PyData → PSt → Option PSt} (hu : Et u d ps ps1) (h : Es g ps1 (.ret p ps2)) : forL u g (d :: ds) ps = .ret p ps2 := by unfold Et Es at *; unfold forL; rw [hu]; dsimp only; rw [h]
theorem es_whileT (h : Ev c ps true ps1) (h1 : Es g ps1 (.nx ps2)) (h2 : Es (fWhile c g) ps2 o) : Es (fWhile c g) ps o := by unfold Ev Es at *; rw [fWhile_eq, h]; dsimp only [Rs.st]; rw [if_pos rfl, h1]; exact h2
theorem es_whileF (h : Ev c ps false ps1) : Es (fWhile c g) ps (.nx ps1) := by unfold Ev Es at *; rw [fWhile_eq, h]; rfl
theorem es_exc {x : Exn} : Es (fun ps => .exc x ps) ps (.exc x ps) := rfl
theorem es_try {L : List Str} {x : Str} (h : Es g ps (.ret p ps1)) : Es (fTry L x g g1) ps (.ret p ps1) := by unfold Es at *; unfold fTry; rw [h]
theorem es_tryX {L : List Str} {x : Str} {z : Exn} (h : Es g ps (.exc z ps1)) (hz : z.cls = x) (h1 : Es g1 ps1 (.ret p ps2)) : Es (fTry L x g g1) ps (.ret p ps2) := by unfold Es at *; unfold fTry; rw [h]; dsimp only; rw [if_pos hz, h1]; rfl
theorem ret_callX {M : List PyData → FR} {x : Exn} (h : Ev fa ps ds ps1) (hM : M ds = .exc x) (hn : ds.length = n := by rfl) : Es (fRet (fCall n M fa)) ps (.exc x ps1) := by unfold Ev Es at *; unfold fRet fCall; rw [h]; dsimp only [Rs.bind]; rw [if_pos hn, hM]; rfl
theorem exc_callX {M : List PyData → FR} {x : Exn} (h : Ev fa ps ds ps1) (hM : M ds = .exc x) (hn : ds.length = n := by rfl) : (fun ps => ((fCall n M fa) ps).map PV.data) ps = .exc x ps1 := by unfold Ev at *; dsimp only; unfold fCall; rw [h]; dsimp only [Rs.bind]; rw [if_pos hn, hM]; rfl
/-- a def's end -/
theorem fin_ret (h : Es g ps (.ret p ps1)) : (g ps).fin = .ok p := by unfold Es at h; rw [h]; rfl
theorem fin_nx (h : Es g ps (.nx ps1)) : (g ps).fin = .ok (.val .none) := by unfold Es at h; rw [h]; rfl
theorem fin_exc {x : Exn} (h : Es g ps (.exc x ps1)) : (g ps).fin = .exc x := by unfold Es at h; rw [h]; rfl
theorem finU_ret (h : Es g ps (.ret p ps1)) : (g ps).finU = .ok p (uAt ps1) := by unfold Es at h; rw [h]; rfl
end
/-! ### kinds -/
theorem isa_eq {t : String} {d : PyData} {b : Bool} (h : kitB (tyName d) t = some b) : isaD t d = some b := h
theorem isa2_eq {t t2 : String} {d : PyData} {a b : Bool} (h1 : isaD t d = some a) (h2 : isaD t2 d = some b) : isa2 t t2 d = some (a || b) := by unfold isa2; rw [h1, h2]
end GL

/-! GLl: what the operations on data give at shown values; steps -/
namespace GL
open PySem PySem.Spec L2
open PyProof.Rows hiding St
section
variable {f f1 f2 f3 : PSt → Rs PyData} {fo fo1 fo2 : PSt → Rs PV} {fa : PSt → Rs (List PyData)} {c c1 c2 : PSt → Rs Bool} {g g1 g2 : PSt → Os} {ps ps1 ps2 ps3 ps4 : PSt} {a b d e : PyData} {p q : PV} {ds es : List PyData} {i j n : Nat} {o : Os}
theorem es_seqS (h : Ev fo ps p ps1) (hs : ps1.set i (some p) = ps2) (h2 : Es g ps2 o) : Es (fSeq (fSet i fo) g) ps o := by subst hs; exact es_seq (es_set h) h2
theorem es_setS (h : Ev fo ps p ps1) (hs : ps1.set i (some p) = ps2) : Es (fSet i fo) ps (.nx ps2) := by subst hs; exact es_set h
theorem ev_MvS (h : ps[i]? = some (some p)) (hs : ps.set i none = ps1) : Ev (fMv i) ps p ps1 := by subst hs; exact ev_Mv h
theorem ev_NoS (h : ps[i]? = some (some (.own (.list ds)))) (hs : ps.set i (some (.val (.list ds))) = ps1) : Ev (fN i) ps (.list ds) ps1 := by subst hs; exact ev_No h
theorem et_NS (hs : ps.set i (some (.val d)) = ps1) : Et (uN i) d ps ps1 := by subst hs; exact et_N
theorem ev_lcS {fi : PSt → Rs (List PyData)} {u : PyData → PSt → Option PSt} {fe : PSt → Rs PyData} {vs : List Nat} {es : List PyData} {p0 p1 p2 : PSt} (hi : Ev fi ps ds ps1) (hw : wipeP ps1 vs = p0) (hc : compL u c fe vs ds p0 [] = .ok es p1) (hr : restP ps1 p1 vs = p2) : Ev (fLc fi u c fe vs) ps (.own (.list es)) p2 := by subst hw hr; exact ev_lc hi hc
theorem ev_andP {k l : Bool} (h1 : Ev c1 ps k ps) (h2 : Ev c2 ps l ps) : Ev (fAnd c1 c2) ps (k && l) ps := ev_and h1 (fun _ => h2) fun _ => rfl
theorem ev_orP {k l : Bool} (h1 : Ev c1 ps k ps) (h2 : Ev c2 ps l ps) : Ev (fOr c1 c2) ps (k || l) ps := ev_or h1 (fun _ => h2) fun _ => rfl
theorem ev_andVP {k l : Bool} (h1 : Ev f1 ps (.bool k) ps) (h2 : Ev f2 ps (.bool l) ps) : Ev (fAndV f1 f2) ps (.bool (k && l)) ps := ev_andV h1 (fun _ => h2) fun _ => rfl
theorem ev_orVP {k l : Bool} (h1 : Ev f1 ps (.bool k) ps) (h2 : Ev f2 ps (.bool l) ps) : Ev (fOrV f1 f2) ps (.bool (k || l)) ps := ev_orV h1 (fun _ => h2) fun _ => rfl
theorem ev_andF (h1 : Ev c1 ps false ps1) : Ev (fAnd c1 c2) ps false ps1 := by unfold Ev at *; unfold fAnd; rw [h1]; rfl
theorem ev_orF (h1 : Ev c1 ps true ps1) : Ev (fOr c1 c2) ps true ps1 := by unfold Ev at *; unfold fOr; rw [h1]; rfl
theorem ev_andVF (h1 : Ev f1 ps (.bool false) ps1) : Ev (fAndV f1 f2) ps (.bool false) ps1 := by have h0 := ev_test h1; unfold Ev at *; unfold fAndV; rw [h0]; rfl
theorem ev_orVF (h1 : Ev f1 ps (.bool true) ps1) : Ev (fOrV f1 f2) ps (.bool true) ps1 := by have h0 := ev_test h1; unfold Ev at *; unfold fOrV; rw [h0]; rfl
theorem ev_to {α : Type} {f : PSt → Rs α} {a b : α} {ps ps1 ps2 : PSt} (h : Ev f ps a ps1) (ha : a = b) (hp : ps1 = ps2) : Ev f ps b ps2 := by subst ha hp; exact h
theorem es_to {o1 : Os} (h : Es g ps o1) (ho : o1 = o) : Es g ps o := by subst ho; exact h
theorem fin_cv {M : FR} {p q : PV} (h : M = .ok p) (e : p = q) : M = .ok q := by subst e; exact h
end
theorem ev_dataE {f : PSt → Rs PV} {ps ps1 : PSt} {p : PV} {d : PyData} (h : Ev f ps p ps1) (e : p.data = d) : Ev (fun ps => (f ps).map PV.data) ps d ps1 := by subst e; exact ev_data h
theorem ev_notE {c : PSt → Rs Bool} {ps ps1 : PSt} {k l : Bool} (h : Ev c ps k ps1) (e : (!k) = l) : Ev (fNot c) ps l ps1 := by subst e; exact ev_not h
theorem ev_notVE {f : PSt → Rs PyData} {ps ps1 : PSt} {k l : Bool} (h : Ev f ps (.bool k) ps1) (e : (!k) = l) : Ev (fNotV f) ps (.bool l) ps1 := by subst e; exact ev_notV h
section
variable {f f1 f2 f3 : PSt → Rs PyData} {fo fo1 fo2 : PSt → Rs PV} {fa : PSt → Rs (List PyData)} {c c1 c2 : PSt → Rs Bool} {g g1 g2 : PSt → Os} {ps ps1 ps2 ps3 ps4 : PSt} {a b d e : PyData} {p q : PV} {ds es : List PyData} {i j n : Nat} {o : Os}
theorem es_seqA {u : PyData → PSt → Option PSt} (h : Ev f ps d ps1) (hu : Et u d ps1 ps2) (h2 : Es g2 ps2 o) : Es (fSeq (fAsg u f) g2) ps o := es_seq (es_asg h hu) h2
theorem es_seqE (h : Ev f ps d ps1) (h2 : Es g2 ps1 o) : Es (fSeq (fExpr f) g2) ps o := es_seq (es_expr h) h2
theorem ev_tupE (h : Ev fa ps ds ps1) (hz : ds.length ≤ 1000) : Ev (fTup fa) ps (.tuple ds) ps1 := ev_tup h hz
theorem ev_lstE (h : Ev fa ps ds ps1) (hz : ds.length ≤ 1000) : Ev (fLst fa) ps (.own (.list ds)) ps1 := ev_lst h hz
theorem ev_callE {M : List PyData → FR} (h : Ev fa ps ds ps1) (hn : ds.length = n) (hM : M ds = .ok p) : Ev (fCall n M fa) ps p ps1 := ev_call h hM hn
theorem ev_callUE {M : List PyData → List PyData → FRU} {u u' u0 : List PyData} (h0 : ps[i]? = some (some (.own (.list u0)))) (h : Ev fa ps ds ps1) (h1 : ps1[i]? = some (some (.own (.list u)))) (hn : ds.length = n) (hM : M u ds = .ok p u') (hs : ps1.set i (some (.own (.list u'))) = ps2) : Ev (fCallU i n M fa) ps p ps2 := by subst hs; exact ev_callU h0 h h1 hM hn
theorem et_TE {us : List PyData → PSt → Option PSt} (hn : ds.length = n) (h : Ets us ds ps ps1) : Et (uTup n us) (.tuple ds) ps ps1 := et_T h hn
theorem et_LE {us : List PyData → PSt → Option PSt} (hn : ds.length = n) (h : Ets us ds ps ps1) : Et (uTup n us) (.list ds) ps ps1 := et_L h hn
end
/-! ### data -/
section
variable {i j : Int} {xs ys : List PyData} {x y : Str} {a b : Bool}
theorem dAdd_i : dAdd (.int i) (.int j) = some (.int (i + j)) := rfl
theorem dSub_i : dSub (.int i) (.int j) = some (.int (i - j)) := rfl
theorem dMul_i (h : (-(2 ^ 64) < i ∧ i < 2 ^ 64) ∨ (-(2 ^ 64) < j ∧ j < 2 ^ 64)) : dMul (.int i) (.int j) = some (.int (i * j)) := if_pos h
theorem dMod_i (h : 0 < j) : dMod (.int i) (.int j) = some (.int (i % j)) := if_pos h
theorem dFdiv_i (h : 0 < j ∧ j < 1073741824) : dFdiv (.int i) (.int j) = some (.int (i / j)) := if_pos h
theorem dAdd_t (h : xs.length + ys.length ≤ 16777216) : dAdd (.tuple xs) (.tuple ys) = some (.tuple (xs ++ ys)) := by unfold dAdd; dsimp only; rw [sizeLine_eq, if_pos h]
theorem dLt_i : dLt (.int i) (.int j) = some (.bool (decide (i < j))) := rfl
theorem dGt_i : dGt (.int i) (.int j) = some (.bool (decide (j < i))) := rfl
theorem dLe_i : dLe (.int i) (.int j) = some (.bool (decide (i ≤ j))) := rfl
theorem dGe_i : dGe (.int i) (.int j) = some (.bool (decide (j ≤ i))) := rfl
theorem sh_int : SeqAt.shaped (.int i) = true := by unfold SeqAt.shaped; simp [PyData.canLay0, PyData.depth]
theorem sh_bool : SeqAt.shaped (.bool a) = true := by unfold SeqAt.shaped; simp [PyData.canLay0, PyData.depth]
theorem sh_none : SeqAt.shaped .none = true := by unfold SeqAt.shaped; simp [PyData.canLay0, PyData.depth]
theorem canAll_ints : ∀ l : List Int, PyData.canLayAll0 (l.map PyData.int) = true
  | [] => rfl
  | _ :: l => by simp only [List.map_cons, PyData.canLayAll0, canAll_ints l]; rfl
theorem depth_ints : ∀ l : List Int, PyData.depthAll (l.map PyData.int) = 0
  | [] => rfl
  | _ :: l => by simp only [List.map_cons, PyData.depthAll, depth_ints l]; rfl
theorem eqvAll_ints : ∀ l m : List Int, PyData.eqvAll (l.map PyData.int) (m.map PyData.int) = decide (l = m)
  | [], [] => by simp [PyData.eqvAll]
  | [], _ :: _ => by simp [PyData.eqvAll]
  | _ :: _, [] => by simp [PyData.eqvAll]
  | a :: l, b :: m => by
    simp only [List.map_cons, PyData.eqvAll, eqvAll_ints l m, PyData.eqv, List.cons.injEq, Bool.decide_and]
    rfl
theorem eqv_int : PyData.eqv (.int i) (.int j) = decide (i = j) := by simp [PyData.eqv]; rfl
theorem eqv_bool : PyData.eqv (.bool a) (.bool b) = decide (a = b) := by cases a <;> cases b <;> rfl
theorem dEq_i : dEq (.int i) (.int j) = some (.bool (decide (i = j))) := by unfold dEq; rw [if_pos ⟨sh_int, sh_int⟩, eqv_int]
theorem dNe_i : dNe (.int i) (.int j) = some (.bool (!decide (i = j))) := by unfold dNe; rw [if_pos ⟨sh_int, sh_int⟩, eqv_int]
theorem dEq_b : dEq (.bool a) (.bool b) = some (.bool (decide (a = b))) := by unfold dEq; rw [if_pos ⟨sh_bool, sh_bool⟩, eqv_bool]
theorem dNe_b : dNe (.bool a) (.bool b) = some (.bool (!decide (a = b))) := by unfold dNe; rw [if_pos ⟨sh_bool, sh_bool⟩, eqv_bool]
theorem dLen_l : dLen [.list xs] = some (.int xs.length) := rfl
theorem dLen_t : dLen [.tuple xs] = some (.int xs.length) := rfl
theorem dAbs_i : dAbs [.int i] = some (.int (if i < 0 then -i else i)) := rfl
theorem dInt_i : dInt [.int i] = some (.int i) := rfl
theorem dInt_b : dInt [.bool a] = some (.int (if a then 1 else 0)) := rfl
theorem dTuple_l : dTuple [.list xs] = some (.tuple xs) := rfl
theorem dTuple_t : dTuple [.tuple xs] = some (.tuple xs) := rfl
theorem dList_l : dList [.list xs] = some xs := rfl
theorem dList_t : dList [.tuple xs] = some xs := rfl
theorem dMin2_i : dMin2 [.int i, .int j] = some (.int (if j < i then j else i)) := rfl
theorem dMax2_i : dMax2 [.int i, .int j] = some (.int (if j > i then j else i)) := rfl
theorem boolsOf_map : ∀ l : List Bool, boolsOf (l.map PyData.bool) = some l
  | [] => rfl
  | b :: l => by simp only [List.map_cons, boolsOf, boolsOf_map l]; rfl
theorem dAll_bs {l : List Bool} (h : xs = l.map PyData.bool) : dAll [.list xs] = some (.bool (l.all id)) := by subst h; unfold dAll; dsimp only; rw [boolsOf_map]; rfl
theorem dAny_bs {l : List Bool} (h : xs = l.map PyData.bool) : dAny [.list xs] = some (.bool (l.any id)) := by subst h; unfold dAny; dsimp only; rw [boolsOf_map]; rfl
theorem dAll_true (h : ∀ d ∈ xs, d = .bool true) : dAll [.list xs] = some (.bool true) := by
  have e : xs = (List.replicate xs.length true).map PyData.bool := by
    rw [List.map_replicate]; exact List.eq_replicate_iff.mpr ⟨rfl, h⟩
  rw [dAll_bs e]; congr 2; exact List.all_eq_true.mpr fun b hb => by rw [(List.mem_replicate.mp hb).2]; rfl
theorem dIx_t {n : Nat} {d : PyData} (h : xs[n]? = some d) : dIx (.tuple xs) (.int n) = some d := by
  have hn : n < xs.length := (List.getElem?_eq_some_iff.mp h).1
  unfold dIx; dsimp only; unfold L2.atI
  have : ixN xs.length (n : Int) = some n := by
    unfold ixN; simp; omega
  rw [this]; exact h
theorem dIx_l {n : Nat} {d : PyData} (h : xs[n]? = some d) : dIx (.list xs) (.int n) = some d := by
  have hn : n < xs.length := (List.getElem?_eq_some_iff.mp h).1
  unfold dIx; dsimp only; unfold L2.atI
  have : ixN xs.length (n : Int) = some n := by
    unfold ixN; simp; omega
  rw [this]; exact h
theorem cutD_from {n : Nat} (h : n ≤ xs.length) : cutD xs (some (n : Int)) none = xs.drop n := by
  unfold cutD; rw [HT.sIx_nat, HT.sIx_none, Nat.min_eq_left h]
  exact List.take_of_length_le (by simp)
theorem cutD_to {n : Nat} : cutD xs none (some (n : Int)) = xs.take n := by
  unfold cutD; rw [HT.sIx_nat, HT.sIx_none]; simp
theorem dAdd_iE {k : Int} (h : (i + j) = k) : dAdd (.int i) (.int j) = some (.int k) := by subst h; exact dAdd_i
theorem dSub_iE {k : Int} (h : (i - j) = k) : dSub (.int i) (.int j) = some (.int k) := by subst h; exact dSub_i
theorem dLt_iE {k : Bool} (h : (decide (i < j)) = k) : dLt (.int i) (.int j) = some (.bool k) := by subst h; exact dLt_i
theorem dGt_iE {k : Bool} (h : (decide (j < i)) = k) : dGt (.int i) (.int j) = some (.bool k) := by subst h; exact dGt_i
theorem dLe_iE {k : Bool} (h : (decide (i ≤ j)) = k) : dLe (.int i) (.int j) = some (.bool k) := by subst h; exact dLe_i
theorem dGe_iE {k : Bool} (h : (decide (j ≤ i)) = k) : dGe (.int i) (.int j) = some (.bool k) := by subst h; exact dGe_i
theorem dEq_iE {k : Bool} (h : (decide (i = j)) = k) : dEq (.int i) (.int j) = some (.bool k) := by subst h; exact dEq_i
theorem dNe_iE {k : Bool} (h : (!decide (i = j)) = k) : dNe (.int i) (.int j) = some (.bool k) := by subst h; exact dNe_i
theorem dEq_bE {k : Bool} (h : (decide (a = b)) = k) : dEq (.bool a) (.bool b) = some (.bool k) := by subst h; exact dEq_b
theorem dNe_bE {k : Bool} (h : (!decide (a = b)) = k) : dNe (.bool a) (.bool b) = some (.bool k) := by subst h; exact dNe_b
theorem dMul_iE {k : Int} (h : (-(2 ^ 64) < i ∧ i < 2 ^ 64) ∨ (-(2 ^ 64) < j ∧ j < 2 ^ 64)) (e : i * j = k) : dMul (.int i) (.int j) = some (.int k) := by subst e; exact dMul_i h
theorem dMod_iE {k : Int} (h : 0 < j) (e : i % j = k) : dMod (.int i) (.int j) = some (.int k) := by subst e; exact dMod_i h
theorem dFdiv_iE {k : Int} (h : 0 < j ∧ j < 1073741824) (e : i / j = k) : dFdiv (.int i) (.int j) = some (.int k) := by subst e; exact dFdiv_i h
theorem dLen_lE {k : Int} (h : (xs.length : Int) = k) : dLen [.list xs] = some (.int k) := by subst h; rfl
theorem dLen_tE {k : Int} (h : (xs.length : Int) = k) : dLen [.tuple xs] = some (.int k) := by subst h; rfl
theorem look_val {i : Nat} {ps : PSt} {d : PyData} (h : ps[i]? = some (some (.val d))) : look i ps = some d := by unfold look; rw [h]; rfl
theorem look_own {i : Nat} {ps : PSt} {d : PyData} (h : ps[i]? = some (some (.own d))) : look i ps = some d := by unfold look; rw [h]; rfl
theorem data_val {d : PyData} : (PV.val d).data = d := rfl
theorem data_own {d : PyData} : (PV.own d).data = d := rfl
theorem compL_map0 {c : PSt → Rs Bool} {ps : PSt} {u : PyData → PSt → Option PSt} {fe : PSt → Rs PyData} {vs : List Nat} (h : PyData → PyData) (ds : List PyData) (hl : ds.length ≤ 16777216) (hh : ∀ d ∈ ds, ∃ p1 p2 p3, Et u d ps p1 ∧ Ev c p1 true p2 ∧ Ev fe p2 (h d) p3 ∧ wipeP p3 vs = ps) : compL u c fe vs ds ps [] = .ok (ds.map h) ps := by
  have := compL_map h ds [] (by simpa using hl) hh
  simpa using this
theorem ev_KE {d : PyData} {ps ps1 : PSt} (hp : ps = ps1) : Ev (fK d) ps d ps1 := by subst hp; exact ev_K
theorem ev_nilE {ps ps1 : PSt} (hp : ps = ps1) : Ev (fun ps => (.ok [] ps : Rs (List PyData))) ps [] ps1 := by subst hp; exact ev_nil
theorem ev_NE {d : PyData} {i : Nat} {ps ps1 : PSt} (h : ps[i]? = some (some (.val d))) (hp : ps = ps1) : Ev (fN i) ps d ps1 := by subst hp; exact ev_N h
theorem fin_retE {g : PSt → Os} {ps ps1 : PSt} {p q : PV} (h : Es g ps (.ret p ps1)) (e : p = q) : (g ps).fin = .ok q := by subst e; exact fin_ret h
theorem finU_retE {g : PSt → Os} {ps ps1 : PSt} {p q : PV} {u : List PyData} (h : Es g ps (.ret p ps1)) (e : p = q) (eu : uAt ps1 = u) : (g ps).finU = .ok q u := by subst e eu; exact finU_ret h
theorem dIx_t0 {xs : List PyData} {d : PyData} (h : xs[0]? = some d) : dIx (.tuple xs) (.int 0) = some d := dIx_t (n := 0) h
theorem dIx_l0 {xs : List PyData} {d : PyData} (h : xs[0]? = some d) : dIx (.list xs) (.int 0) = some d := dIx_l (n := 0) h
end
end GL

namespace TT
open PySem PySem.Spec L2 GL
open PyProof.Rows hiding St
def top (i : Nat) : Stmt := PySem.Challenge.pw_copysheets_k00_main_lags_of_pieces_put_b.main.body.getD i (.Pass ⟨0, 0, 0, 0⟩)
structure Ex (K : PySem.W.Frag) (mg : Str → Option Value) (x : Str) (C : Addr) : Prop where
  g : mg x = some (.ref C)
  x : PySem.W.excIn K C He.veBase "ValueError.__new__" = true
  k : PySem.W.keepIn K (.ref C) = true
  s : PySem.W.subIn K (.ref C) (.type "BaseException") = some true
  t : PySem.W.typeIn K (.ref C) = some (.type "type")
  m : PySem.W.exmOne K (.ref C) (.ref C) = some true
structure Hy (K : PySem.W.Frag) (mg : Str → Option Value) (C_Unfit : Addr) : Prop where
  n_abs : mg "abs" = none
  n_all : mg "all" = none
  n_bool : mg "bool" = none
  n_enumerate : mg "enumerate" = none
  n_int : mg "int" = none
  n_isinstance : mg "isinstance" = none
  n_len : mg "len" = none
  n_list : mg "list" = none
  n_min : mg "min" = none
  n_range : mg "range" = none
  n_str : mg "str" = none
  n_tuple : mg "tuple" = none
  n_zip : mg "zip" = none
  c_SIGNS : ∃ t, mg "SIGNS" = some (.int 10 t)
  e_Unfit : Ex K mg "Unfit" C_Unfit
/-! is_number -/
abbrev s_is_number : Stmt := top 3
theorem sc_is_number : FnScope ["thing"] ["thing"] (defScope s_is_number) := ⟨rfl, rfl, rfl, by decide +kernel, rfl, by decide +kernel, by decide +kernel⟩
noncomputable def b_is_number : PSt → Os :=
  (fRet (fun ps => ((fAndV (fIsi (isaD "int") (fN 0)) (fNotV (fIsi (isaD "bool") (fN 0)))) ps).map PV.val))
noncomputable def M_is_number : List PyData → FR := fun ds => (b_is_number (startP 1 ds)).fin
theorem bd_is_number {K : PySem.W.Frag} {f : Addr} {fd : FuncData} (Fn : FunD K "is_number" "is_number" (defArgs s_is_number) (defBody s_is_number) (defScope s_is_number) [] [] f fd) : Binds K fd ["thing"] [] := Fn.bindsN fun _ _ _ _ _ _ us hl => match us, hl with | [_], _ => rfl
theorem ok_is_number {P : Program} {w : World} {K : PySem.W.Frag} {mg : Str → Option Value} {base : Heap} {f : Addr} {fd : FuncData} {C_Unfit : Addr} (Fn : FunD K "is_number" "is_number" (defArgs s_is_number) (defBody s_is_number) (defScope s_is_number) [] [] f fd) (hy : Hy K mg C_Unfit) (gf : mg "is_number" = some (.ref f)) : GFn P w K mg base "is_number" 1 1 M_is_number := by
  refine GFn.of_body (k := 0) (n := 1) (N := ["thing"]) (ps := ["thing"]) Fn gf (bd_is_number Fn) sc_is_number rfl (g := b_is_number) fun cdv A outer s H E hr => ?_
  have nd := sc_is_number.nd
  exact (gss_one (gs_ret (go_of (gv_and (gv_isi (tn := "int") (gv_name 0) rfl hy.n_isinstance rfl hy.n_int (by decide +kernel)) (gv_one (gv_not (gv_isi (tn := "bool") (gv_name 0) rfl hy.n_isinstance rfl hy.n_bool (by decide +kernel))))))))
/-! tuple_of -/
abbrev s_tuple_of : Stmt := top 4
theorem sc_tuple_of : FnScope ["thing", "part"] ["thing"] (defScope s_tuple_of) := ⟨rfl, rfl, rfl, by decide +kernel, rfl, by decide +kernel, by decide +kernel⟩
noncomputable def b_tuple_of (M : List PyData → FR) : PSt → Os :=
  (fSeq (fIfS (fTest (fIsi (isa2 "list" "tuple") (fN 0))) (fRet (fun ps => ((fApp dTuple (fCons (fun ps => ((fLc (fSeqI (fN 0)) (uN 1) cYes (fun ps => ((fCall 1 M (fCons (fN 1) (fun ps => .ok [] ps))) ps).map PV.data) [1]) ps).map PV.data) (fun ps => .ok [] ps))) ps).map PV.val)) fSkip)
  (fRet (fMv 0)))
noncomputable def R_tuple_of : Nat → List PyData → FR
  | 0 => fun _ => .bad
  | k + 1 => fun ds => (b_tuple_of (R_tuple_of k) (startP 2 ds)).fin
noncomputable def M_tuple_of : List PyData → FR := R_tuple_of 40
theorem bd_tuple_of {K : PySem.W.Frag} {f : Addr} {fd : FuncData} (Fn : FunD K "tuple_of" "tuple_of" (defArgs s_tuple_of) (defBody s_tuple_of) (defScope s_tuple_of) [] [] f fd) : Binds K fd ["thing"] [] := Fn.bindsN fun _ _ _ _ _ _ us hl => match us, hl with | [_], _ => rfl
theorem okR_tuple_of {P : Program} {w : World} {K : PySem.W.Frag} {mg : Str → Option Value} {base : Heap} {f : Addr} {fd : FuncData} {C_Unfit : Addr} (Fn : FunD K "tuple_of" "tuple_of" (defArgs s_tuple_of) (defBody s_tuple_of) (defScope s_tuple_of) [] [] f fd) (hy : Hy K mg C_Unfit) (gf : mg "tuple_of" = some (.ref f)) : ∀ j, GFn P w K mg base "tuple_of" (j + 0) 1 (R_tuple_of j)
  | 0 => GFn.zero (ps := ["thing"]) rfl gf Fn.kp (bd_tuple_of Fn)
  | j + 1 => by
    have G_tuple_of := okR_tuple_of (P := P) (w := w) (base := base) Fn hy gf j
    refine GFn.mono (k := j + 0 + 1) (M := fun ds => (b_tuple_of (R_tuple_of j) (startP 2 ds)).fin) ?_ (by omega) fun ds => .inr rfl
    refine GFn.of_body (k := j + 0) (n := 1) (N := ["thing", "part"]) (ps := ["thing"]) Fn gf (bd_tuple_of Fn) sc_tuple_of rfl (g := b_tuple_of (R_tuple_of j)) fun cdv A outer s H E hr => ?_
    have nd := sc_tuple_of.nd
    exact (gss_cons (gs_if (gt_val (gv_isi2 (tn := "list") (tn2 := "tuple") (gv_name 0) rfl hy.n_isinstance rfl hy.n_list (by decide +kernel) rfl hy.n_tuple (by decide +kernel))) (gss_one (gs_ret (go_of (gv_callTy call_tuple_of (tuple_ok) rfl hy.n_tuple (by decide +kernel) (ga_cons (gv_of (go_lc [("part", 1)] rfl nd (gi_seq (gv_name 0)) (blkOk_by (N := ["thing", "part"]) (sc := defScope s_tuple_of) (own := [("part", 1)]) (by decide +kernel)) (fun _ _ _ _ _ => (gg_name 1 nd)) (fun _ _ _ _ _ => gts_nil) (fun _ _ _ _ _ => (gv_of (go_call G_tuple_of hr rfl takes0 (ga_cons (gv_name 1) ga_nil)))))) ga_nil))))) gss_nil)
    (gss_one (gs_ret (go_move 0))))
theorem ok_tuple_of {P : Program} {w : World} {K : PySem.W.Frag} {mg : Str → Option Value} {base : Heap} {f : Addr} {fd : FuncData} {C_Unfit : Addr} (Fn : FunD K "tuple_of" "tuple_of" (defArgs s_tuple_of) (defBody s_tuple_of) (defScope s_tuple_of) [] [] f fd) (hy : Hy K mg C_Unfit) (gf : mg "tuple_of" = some (.ref f)) : GFn P w K mg base "tuple_of" 40 1 M_tuple_of := okR_tuple_of Fn hy gf 40
/-! is_tuple_of -/
abbrev s_is_tuple_of : Stmt := top 5
theorem sc_is_tuple_of : FnScope ["thing", "many"] ["thing", "many"] (defScope s_is_tuple_of) := ⟨rfl, rfl, rfl, by decide +kernel, rfl, by decide +kernel, by decide +kernel⟩
noncomputable def b_is_tuple_of : PSt → Os :=
  (fRet (fun ps => ((fAndV (fIsi (isaD "tuple") (fN 0)) (fBin dEq (fLenS 0) (fN 1))) ps).map PV.val))
noncomputable def M_is_tuple_of : List PyData → FR := fun ds => (b_is_tuple_of (startP 2 ds)).fin
theorem bd_is_tuple_of {K : PySem.W.Frag} {f : Addr} {fd : FuncData} (Fn : FunD K "is_tuple_of" "is_tuple_of" (defArgs s_is_tuple_of) (defBody s_is_tuple_of) (defScope s_is_tuple_of) [] [] f fd) : Binds K fd ["thing", "many"] [] := Fn.bindsN fun _ _ _ _ _ _ us hl => match us, hl with | [_, _], _ => rfl
theorem ok_is_tuple_of {P : Program} {w : World} {K : PySem.W.Frag} {mg : Str → Option Value} {base : Heap} {f : Addr} {fd : FuncData} {C_Unfit : Addr} (Fn : FunD K "is_tuple_of" "is_tuple_of" (defArgs s_is_tuple_of) (defBody s_is_tuple_of) (defScope s_is_tuple_of) [] [] f fd) (hy : Hy K mg C_Unfit) (gf : mg "is_tuple_of" = some (.ref f)) : GFn P w K mg base "is_tuple_of" 1 2 M_is_tuple_of := by
  refine GFn.of_body (k := 0) (n := 2) (N := ["thing", "many"]) (ps := ["thing", "many"]) Fn gf (bd_is_tuple_of Fn) sc_is_tuple_of rfl (g := b_is_tuple_of) fun cdv A outer s H E hr => ?_
  have nd := sc_is_tuple_of.nd
  exact (gss_one (gs_ret (go_of (gv_and (gv_isi (tn := "tuple") (gv_name 0) rfl hy.n_isinstance rfl hy.n_tuple (by decide +kernel)) (gv_one (gv_cmp (op_eqD hr.units) eq_ok (gv_lenS 0 rfl hy.n_len) (gv_name 1)))))))
/-! is_within -/
abbrev s_is_within : Stmt := top 6
theorem sc_is_within : FnScope ["thing", "least", "most"] ["thing", "least", "most"] (defScope s_is_within) := ⟨rfl, rfl, rfl, by decide +kernel, rfl, by decide +kernel, by decide +kernel⟩
noncomputable def b_is_within : PSt → Os :=
  (fRet (fun ps => ((fAndV (fun ps => ((fCall 1 M_is_number (fCons (fN 0) (fun ps => .ok [] ps))) ps).map PV.data) (fChain dLe dLe (fN 1) (fN 0) (fN 2))) ps).map PV.val))
noncomputable def M_is_within : List PyData → FR := fun ds => (b_is_within (startP 3 ds)).fin
theorem bd_is_within {K : PySem.W.Frag} {f : Addr} {fd : FuncData} (Fn : FunD K "is_within" "is_within" (defArgs s_is_within) (defBody s_is_within) (defScope s_is_within) [] [] f fd) : Binds K fd ["thing", "least", "most"] [] := Fn.bindsN fun _ _ _ _ _ _ us hl => match us, hl with | [_, _, _], _ => rfl
theorem ok_is_within {P : Program} {w : World} {K : PySem.W.Frag} {mg : Str → Option Value} {base : Heap} {f : Addr} {fd : FuncData} {C_Unfit : Addr} (Fn : FunD K "is_within" "is_within" (defArgs s_is_within) (defBody s_is_within) (defScope s_is_within) [] [] f fd) (hy : Hy K mg C_Unfit) (gf : mg "is_within" = some (.ref f)) (G_is_number : GFn P w K mg base "is_number" 1 1 M_is_number) : GFn P w K mg base "is_within" 2 3 M_is_within := by
  refine GFn.of_body (k := 1) (n := 3) (N := ["thing", "least", "most"]) (ps := ["thing", "least", "most"]) Fn gf (bd_is_within Fn) sc_is_within rfl (g := b_is_within) fun cdv A outer s H E hr => ?_
  have nd := sc_is_within.nd
  exact (gss_one (gs_ret (go_of (gv_and (gv_of (go_call G_is_number (hr.mono (by decide)) rfl (takes_of rfl rfl rfl rfl) (ga_cons (gv_name 0) ga_nil))) (gv_one (gv_chain op_le op_le le_ok le_ok (gv_name 1) (gv_name 0) (gv_name 2)))))))
/-! sure -/
abbrev s_sure : Stmt := top 7
theorem sc_sure : FnScope ["good"] ["good"] (defScope s_sure) := ⟨rfl, rfl, rfl, by decide +kernel, rfl, by decide +kernel, by decide +kernel⟩
noncomputable def b_sure : PSt → Os :=
  (fIfS (fNot (fTest (fN 0))) (fun ps => .exc ⟨"Unfit", none⟩ ps) fSkip)
noncomputable def M_sure : List PyData → FR := fun ds => (b_sure (startP 1 ds)).fin
theorem bd_sure {K : PySem.W.Frag} {f : Addr} {fd : FuncData} (Fn : FunD K "sure" "sure" (defArgs s_sure) (defBody s_sure) (defScope s_sure) [] [] f fd) : Binds K fd ["good"] [] := Fn.bindsN fun _ _ _ _ _ _ us hl => match us, hl with | [_], _ => rfl
theorem ok_sure {P : Program} {w : World} {K : PySem.W.Frag} {mg : Str → Option Value} {base : Heap} {f : Addr} {fd : FuncData} {C_Unfit : Addr} (Fn : FunD K "sure" "sure" (defArgs s_sure) (defBody s_sure) (defScope s_sure) [] [] f fd) (hy : Hy K mg C_Unfit) (gf : mg "sure" = some (.ref f)) : GFn P w K mg base "sure" 1 1 M_sure := by
  refine GFn.of_body (k := 0) (n := 1) (N := ["good"]) (ps := ["good"]) Fn gf (bd_sure Fn) sc_sure rfl (g := b_sure) fun cdv A outer s H E hr => ?_
  have nd := sc_sure.nd
  exact (gss_one (gs_if (gt_not (gt_val (gv_name 0))) (gss_one (gs_raise0 hy.e_Unfit.g rfl (takes_of rfl rfl rfl rfl) (pmk_own0 PySem.F.excBase_ValueError hy.e_Unfit.x hy.e_Unfit.g hy.e_Unfit.k (raises_own hy.e_Unfit.s hy.e_Unfit.t) rfl))) gss_nil))
/-! is_piece -/
abbrev s_is_piece : Stmt := top 10
theorem sc_is_piece : FnScope ["thing", "own"] ["thing"] (defScope s_is_piece) := ⟨rfl, rfl, rfl, by decide +kernel, rfl, by decide +kernel, by decide +kernel⟩
noncomputable def b_is_piece : PSt → Os :=
  (fRet (fun ps => ((fAndV (fIsi (isaD "tuple") (fN 0)) (fApp dAll (fCons (fun ps => ((fLc (fSeqI (fN 0)) (uN 1) cYes (fun ps => ((fCall 3 M_is_within (fCons (fN 1) (fCons (fK (.int 0)) (fCons (fBin dSub (fK (.int 10)) (fK (.int 1))) (fun ps => .ok [] ps))))) ps).map PV.data) [1]) ps).map PV.data) (fun ps => .ok [] ps)))) ps).map PV.val))
noncomputable def M_is_piece : List PyData → FR := fun ds => (b_is_piece (startP 2 ds)).fin
theorem bd_is_piece {K : PySem.W.Frag} {f : Addr} {fd : FuncData} (Fn : FunD K "is_piece" "is_piece" (defArgs s_is_piece) (defBody s_is_piece) (defScope s_is_piece) [] [] f fd) : Binds K fd ["thing"] [] := Fn.bindsN fun _ _ _ _ _ _ us hl => match us, hl with | [_], _ => rfl
theorem ok_is_piece {P : Program} {w : World} {K : PySem.W.Frag} {mg : Str → Option Value} {base : Heap} {f : Addr} {fd : FuncData} {C_Unfit : Addr} (Fn : FunD K "is_piece" "is_piece" (defArgs s_is_piece) (defBody s_is_piece) (defScope s_is_piece) [] [] f fd) (hy : Hy K mg C_Unfit) (gf : mg "is_piece" = some (.ref f)) (G_is_within : GFn P w K mg base "is_within" 2 3 M_is_within) : GFn P w K mg base "is_piece" 3 1 M_is_piece := by
  refine GFn.of_body (k := 2) (n := 1) (N := ["thing", "own"]) (ps := ["thing"]) Fn gf (bd_is_piece Fn) sc_is_piece rfl (g := b_is_piece) fun cdv A outer s H E hr => ?_
  have nd := sc_is_piece.nd
  exact (gss_one (gs_ret (go_of (gv_and (gv_isi (tn := "tuple") (gv_name 0) rfl hy.n_isinstance rfl hy.n_tuple (by decide +kernel)) (gv_one (gv_callB (cr_all rfl) all_ok rfl hy.n_all (by decide +kernel) (ga_cons (gv_of (go_lc [("own", 1)] rfl nd (gi_seq (gv_name 0)) (blkOk_by (N := ["thing", "own"]) (sc := defScope s_is_piece) (own := [("own", 1)]) (by decide +kernel)) (fun _ _ _ _ _ => (gg_name 1 nd)) (fun _ _ _ _ _ => gts_nil) (fun _ _ _ _ _ => (gv_of (go_call G_is_within (hr.mono (by decide)) rfl takes0 (ga_cons (gv_name 1) (ga_cons gv_int (ga_cons (gv_bin op_sub sub_ok (gv_gint rfl hy.c_SIGNS.choose_spec) gv_int) ga_nil)))))))) ga_nil)))))))
/-! is_lag -/
abbrev s_is_lag : Stmt := top 11
theorem sc_is_lag : FnScope ["thing"] ["thing"] (defScope s_is_lag) := ⟨rfl, rfl, rfl, by decide +kernel, rfl, by decide +kernel, by decide +kernel⟩
noncomputable def b_is_lag : PSt → Os :=
  (fSeq (fIfS (fOr (fNot (fTest (fun ps => ((fCall 2 M_is_tuple_of (fCons (fN 0) (fCons (fK (.int 2)) (fun ps => .ok [] ps)))) ps).map PV.data))) (fOr (fNot (fTest (fun ps => ((fCall 1 M_is_piece (fCons (fIxS 0 (fK (.int 0))) (fun ps => .ok [] ps))) ps).map PV.data))) (fNot (fTest (fun ps => ((fCall 1 M_is_piece (fCons (fIxS 0 (fK (.int 1))) (fun ps => .ok [] ps))) ps).map PV.data))))) (fRet (fun ps => ((fK (.bool false)) ps).map PV.val)) fSkip)
  (fRet (fun ps => ((fOrV (fBin dEq (fIxS 0 (fK (.int 0))) (fTup (fun ps => .ok [] ps))) (fOrV (fBin dEq (fIxS 0 (fK (.int 1))) (fTup (fun ps => .ok [] ps))) (fBin dNe (fBin dIx (fIxS 0 (fK (.int 0))) (fK (.int 0))) (fBin dIx (fIxS 0 (fK (.int 1))) (fK (.int 0)))))) ps).map PV.val)))
noncomputable def M_is_lag : List PyData → FR := fun ds => (b_is_lag (startP 1 ds)).fin
theorem bd_is_lag {K : PySem.W.Frag} {f : Addr} {fd : FuncData} (Fn : FunD K "is_lag" "is_lag" (defArgs s_is_lag) (defBody s_is_lag) (defScope s_is_lag) [] [] f fd) : Binds K fd ["thing"] [] := Fn.bindsN fun _ _ _ _ _ _ us hl => match us, hl with | [_], _ => rfl
theorem ok_is_lag {P : Program} {w : World} {K : PySem.W.Frag} {mg : Str → Option Value} {base : Heap} {f : Addr} {fd : FuncData} {C_Unfit : Addr} (Fn : FunD K "is_lag" "is_lag" (defArgs s_is_lag) (defBody s_is_lag) (defScope s_is_lag) [] [] f fd) (hy : Hy K mg C_Unfit) (gf : mg "is_lag" = some (.ref f)) (G_is_tuple_of : GFn P w K mg base "is_tuple_of" 1 2 M_is_tuple_of) (G_is_piece : GFn P w K mg base "is_piece" 3 1 M_is_piece) : GFn P w K mg base "is_lag" 4 1 M_is_lag := by
  refine GFn.of_body (k := 3) (n := 1) (N := ["thing"]) (ps := ["thing"]) Fn gf (bd_is_lag Fn) sc_is_lag rfl (g := b_is_lag) fun cdv A outer s H E hr => ?_
  have nd := sc_is_lag.nd
  exact (gss_cons (gs_if (gt_w (gw_or (gt_not (gt_val (gv_of (go_call G_is_tuple_of (hr.mono (by decide)) rfl (takes_of rfl rfl rfl rfl) (ga_cons (gv_name 0) (ga_cons gv_int ga_nil)))))) (gw_or (gt_not (gt_val (gv_of (go_call G_is_piece (hr.mono (by decide)) rfl (takes_of rfl rfl rfl rfl) (ga_cons (gv_ixS 0 gv_int) ga_nil))))) (gw_or1 (gt_not (gt_val (gv_of (go_call G_is_piece (hr.mono (by decide)) rfl (takes_of rfl rfl rfl rfl) (ga_cons (gv_ixS 0 gv_int) ga_nil))))))))) (gss_one (gs_ret (go_of gv_bl))) gss_nil)
    (gss_one (gs_ret (go_of (gv_or (gv_cmp (op_eqD hr.units) eq_ok (gv_ixS 0 gv_int) (gv_tup ga_nil)) (gv_or (gv_cmp (op_eqD hr.units) eq_ok (gv_ixS 0 gv_int) (gv_tup ga_nil)) (gv_one (gv_cmp (op_neD hr.units) ne_ok (gv_ix (gv_ixS 0 gv_int) gv_int) (gv_ix (gv_ixS 0 gv_int) gv_int)))))))))
/-! alike_ahead -/
abbrev s_alike_ahead : Stmt := top 12
theorem sc_alike_ahead : FnScope ["one", "other", "many"] ["one", "other"] (defScope s_alike_ahead) := ⟨rfl, rfl, rfl, by decide +kernel, rfl, by decide +kernel, by decide +kernel⟩
noncomputable def b_alike_ahead : PSt → Os :=
  (fSeq (fSet 2 (fun ps => ((fK (.int 0)) ps).map PV.val))
  (fSeq (fWhile (fAnd (fTest (fBinS dLt 2 (fLenS 0))) (fAnd (fTest (fBinS dLt 2 (fLenS 1))) (fTest (fBin dEq (fIxS 0 (fN 2)) (fIxS 1 (fN 2)))))) (fSet 2 (fun ps => ((fBin dAdd (fN 2) (fK (.int 1))) ps).map PV.val)))
  (fRet (fMv 2))))
noncomputable def M_alike_ahead : List PyData → FR := fun ds => (b_alike_ahead (startP 3 ds)).fin
theorem bd_alike_ahead {K : PySem.W.Frag} {f : Addr} {fd : FuncData} (Fn : FunD K "alike_ahead" "alike_ahead" (defArgs s_alike_ahead) (defBody s_alike_ahead) (defScope s_alike_ahead) [] [] f fd) : Binds K fd ["one", "other"] [] := Fn.bindsN fun _ _ _ _ _ _ us hl => match us, hl with | [_, _], _ => rfl
theorem ok_alike_ahead {P : Program} {w : World} {K : PySem.W.Frag} {mg : Str → Option Value} {base : Heap} {f : Addr} {fd : FuncData} {C_Unfit : Addr} (Fn : FunD K "alike_ahead" "alike_ahead" (defArgs s_alike_ahead) (defBody s_alike_ahead) (defScope s_alike_ahead) [] [] f fd) (hy : Hy K mg C_Unfit) (gf : mg "alike_ahead" = some (.ref f)) : GFn P w K mg base "alike_ahead" 1 2 M_alike_ahead := by
  refine GFn.of_body (k := 0) (n := 2) (N := ["one", "other", "many"]) (ps := ["one", "other"]) Fn gf (bd_alike_ahead Fn) sc_alike_ahead rfl (g := b_alike_ahead) fun cdv A outer s H E hr => ?_
  have nd := sc_alike_ahead.nd
  exact (gss_cons (gs_set 2 (go_of gv_int) nd)
    (gss_cons (gs_while (passes_of rfl) (gt_w (gw_and (gt_cmpS 2 (op_ltD hr.units) lt_ok bool_dLt (gv_lenS 0 rfl hy.n_len)) (gw_and (gt_cmpS 2 (op_ltD hr.units) lt_ok bool_dLt (gv_lenS 1 rfl hy.n_len)) (gw_and1 (gt_cmp (op_eqD hr.units) eq_ok (gv_ixS 0 (gv_name 2)) (gv_ixS 1 (gv_name 2))))))) (gss_one (gs_set 2 (go_of (gv_bin op_addD add_ok (gv_name 2) gv_int)) nd)))
    (gss_one (gs_ret (go_move 2)))))
/-! front_of -/
abbrev s_front_of : Stmt := top 13
theorem sc_front_of : FnScope ["pieces", "found", "own"] ["pieces"] (defScope s_front_of) := ⟨rfl, rfl, rfl, by decide +kernel, rfl, by decide +kernel, by decide +kernel⟩
noncomputable def b_front_of : PSt → Os :=
  (fSeq (fSet 1 (fun ps => ((fIxS 0 (fK (.int 0))) ps).map PV.val))
  (fSeq (fFor (fSeqI (fun ps => ((fSl (fN 0) (fSomePart (fK (.int 1))) fNoPart) ps).map PV.data)) (uN 2) (fSet 1 (fSl (fN 1) fNoPart (fSomePart (fun ps => ((fCall 2 M_alike_ahead (fCons (fN 1) (fCons (fN 2) (fun ps => .ok [] ps)))) ps).map PV.data)))))
  (fRet (fMv 1))))
noncomputable def M_front_of : List PyData → FR := fun ds => (b_front_of (startP 3 ds)).fin
theorem bd_front_of {K : PySem.W.Frag} {f : Addr} {fd : FuncData} (Fn : FunD K "front_of" "front_of" (defArgs s_front_of) (defBody s_front_of) (defScope s_front_of) [] [] f fd) : Binds K fd ["pieces"] [] := Fn.bindsN fun _ _ _ _ _ _ us hl => match us, hl with | [_], _ => rfl
theorem ok_front_of {P : Program} {w : World} {K : PySem.W.Frag} {mg : Str → Option Value} {base : Heap} {f : Addr} {fd : FuncData} {C_Unfit : Addr} (Fn : FunD K "front_of" "front_of" (defArgs s_front_of) (defBody s_front_of) (defScope s_front_of) [] [] f fd) (hy : Hy K mg C_Unfit) (gf : mg "front_of" = some (.ref f)) (G_alike_ahead : GFn P w K mg base "alike_ahead" 1 2 M_alike_ahead) : GFn P w K mg base "front_of" 2 1 M_front_of := by
  refine GFn.of_body (k := 1) (n := 1) (N := ["pieces", "found", "own"]) (ps := ["pieces"]) Fn gf (bd_front_of Fn) sc_front_of rfl (g := b_front_of) fun cdv A outer s H E hr => ?_
  have nd := sc_front_of.nd
  exact (gss_cons (gs_set 1 (go_of (gv_ixS 0 gv_int)) nd)
    (gss_cons (gs_for (passes_of rfl) rfl (gi_seq (gv_of (go_slice (gv_name 0) (gp_some gv_int) gp_none))) (gg_name 2 nd) (gss_one (gs_set 1 (go_slice (gv_name 1) gp_none (gp_some (gv_of (go_call G_alike_ahead (hr.mono (by decide)) rfl (takes_of rfl rfl rfl rfl) (ga_cons (gv_name 1) (ga_cons (gv_name 2) ga_nil)))))) nd)))
    (gss_one (gs_ret (go_move 1)))))
/-! front -/
abbrev s_front : Stmt := top 14
theorem sc_front : FnScope ["pieces", "own", "piece"] ["pieces"] (defScope s_front) := ⟨rfl, rfl, rfl, by decide +kernel, rfl, by decide +kernel, by decide +kernel⟩
noncomputable def b_front : PSt → Os :=
  (fSeq (fSet 1 (fCall 1 M_tuple_of (fCons (fN 0) (fun ps => .ok [] ps))))
  (fSeq (fExpr (fun ps => ((fCall 1 M_sure (fCons (fAndV (fIsi (isaD "tuple") (fN 1)) (fAndV (fBinS dNe 1 (fTup (fun ps => .ok [] ps))) (fApp dAll (fCons (fun ps => ((fLc (fSeqI (fN 1)) (uN 2) cYes (fun ps => ((fCall 1 M_is_piece (fCons (fN 2) (fun ps => .ok [] ps))) ps).map PV.data) [2]) ps).map PV.data) (fun ps => .ok [] ps))))) (fun ps => .ok [] ps))) ps).map PV.data))
  (fRet (fCall 1 M_front_of (fCons (fN 1) (fun ps => .ok [] ps))))))
noncomputable def M_front : List PyData → FR := fun ds => (b_front (startP 3 ds)).fin
theorem bd_front {K : PySem.W.Frag} {f : Addr} {fd : FuncData} (Fn : FunD K "front" "front" (defArgs s_front) (defBody s_front) (defScope s_front) [] [] f fd) : Binds K fd ["pieces"] [] := Fn.bindsN fun _ _ _ _ _ _ us hl => match us, hl with | [_], _ => rfl
theorem ok_front {P : Program} {w : World} {K : PySem.W.Frag} {mg : Str → Option Value} {base : Heap} {f : Addr} {fd : FuncData} {C_Unfit : Addr} (Fn : FunD K "front" "front" (defArgs s_front) (defBody s_front) (defScope s_front) [] [] f fd) (hy : Hy K mg C_Unfit) (gf : mg "front" = some (.ref f)) (G_tuple_of : GFn P w K mg base "tuple_of" 40 1 M_tuple_of) (G_sure : GFn P w K mg base "sure" 1 1 M_sure) (G_is_piece : GFn P w K mg base "is_piece" 3 1 M_is_piece) (G_front_of : GFn P w K mg base "front_of" 2 1 M_front_of) : GFn P w K mg base "front" 41 1 M_front := by
  refine GFn.of_body (k := 40) (n := 1) (N := ["pieces", "own", "piece"]) (ps := ["pieces"]) Fn gf (bd_front Fn) sc_front rfl (g := b_front) fun cdv A outer s H E hr => ?_
  have nd := sc_front.nd
  exact (gss_cons (gs_set 1 (go_call G_tuple_of (hr.mono (by decide)) rfl (takes_of rfl rfl rfl rfl) (ga_cons (gv_name 0) ga_nil)) nd)
    (gss_cons (gs_expr (gv_of (go_call G_sure (hr.mono (by decide)) rfl (takes_of rfl rfl rfl rfl) (ga_cons (gv_and (gv_isi (tn := "tuple") (gv_name 1) rfl hy.n_isinstance rfl hy.n_tuple (by decide +kernel)) (gv_and (gv_cmpS 1 (op_neD hr.units) ne_ok bool_dNe (gv_tup ga_nil)) (gv_one (gv_callB (cr_all rfl) all_ok rfl hy.n_all (by decide +kernel) (ga_cons (gv_of (go_lc [("piece", 2)] rfl nd (gi_seq (gv_name 1)) (blkOk_by (N := ["pieces", "own", "piece"]) (sc := defScope s_front) (own := [("piece", 2)]) (by decide +kernel)) (fun _ _ _ _ _ => (gg_name 2 nd)) (fun _ _ _ _ _ => gts_nil) (fun _ _ _ _ _ => (gv_of (go_call G_is_piece (hr.mono (by decide)) rfl takes0 (ga_cons (gv_name 2) ga_nil)))))) ga_nil))))) ga_nil))))
    (gss_one (gs_ret (go_call G_front_of (hr.mono (by decide)) rfl (takes_of rfl rfl rfl rfl) (ga_cons (gv_name 1) ga_nil))))))
/-! lag_between -/
abbrev s_lag_between : Stmt := top 15
theorem sc_lag_between : FnScope ["one", "other", "many"] ["one", "other"] (defScope s_lag_between) := ⟨rfl, rfl, rfl, by decide +kernel, rfl, by decide +kernel, by decide +kernel⟩
noncomputable def b_lag_between : PSt → Os :=
  (fSeq (fSet 2 (fCall 2 M_alike_ahead (fCons (fN 0) (fCons (fN 1) (fun ps => .ok [] ps)))))
  (fRet (fun ps => ((fTup (fCons (fun ps => ((fSl (fN 0) (fSomePart (fN 2)) fNoPart) ps).map PV.data) (fCons (fun ps => ((fSl (fN 1) (fSomePart (fN 2)) fNoPart) ps).map PV.data) (fun ps => .ok [] ps)))) ps).map PV.val)))
noncomputable def M_lag_between : List PyData → FR := fun ds => (b_lag_between (startP 3 ds)).fin
theorem bd_lag_between {K : PySem.W.Frag} {f : Addr} {fd : FuncData} (Fn : FunD K "lag_between" "lag_between" (defArgs s_lag_between) (defBody s_lag_between) (defScope s_lag_between) [] [] f fd) : Binds K fd ["one", "other"] [] := Fn.bindsN fun _ _ _ _ _ _ us hl => match us, hl with | [_, _], _ => rfl
theorem ok_lag_between {P : Program} {w : World} {K : PySem.W.Frag} {mg : Str → Option Value} {base : Heap} {f : Addr} {fd : FuncData} {C_Unfit : Addr} (Fn : FunD K "lag_between" "lag_between" (defArgs s_lag_between) (defBody s_lag_between) (defScope s_lag_between) [] [] f fd) (hy : Hy K mg C_Unfit) (gf : mg "lag_between" = some (.ref f)) (G_alike_ahead : GFn P w K mg base "alike_ahead" 1 2 M_alike_ahead) : GFn P w K mg base "lag_between" 2 2 M_lag_between := by
  refine GFn.of_body (k := 1) (n := 2) (N := ["one", "other", "many"]) (ps := ["one", "other"]) Fn gf (bd_lag_between Fn) sc_lag_between rfl (g := b_lag_between) fun cdv A outer s H E hr => ?_
  have nd := sc_lag_between.nd
  exact (gss_cons (gs_set 2 (go_call G_alike_ahead (hr.mono (by decide)) rfl (takes_of rfl rfl rfl rfl) (ga_cons (gv_name 0) (ga_cons (gv_name 1) ga_nil))) nd)
    (gss_one (gs_ret (go_of (gv_tup (ga_cons (gv_of (go_slice (gv_name 0) (gp_some (gv_name 2)) gp_none)) (ga_cons (gv_of (go_slice (gv_name 1) (gp_some (gv_name 2)) gp_none)) ga_nil)))))))
/-! sure_pieces -/
abbrev s_sure_pieces : Stmt := top 16
theorem sc_sure_pieces : FnScope ["pieces", "found", "own"] ["pieces"] (defScope s_sure_pieces) := ⟨rfl, rfl, rfl, by decide +kernel, rfl, by decide +kernel, by decide +kernel⟩
noncomputable def b_sure_pieces : PSt → Os :=
  (fSeq (fSet 1 (fLc (fSeqI (fN 0)) (uN 2) cYes (fun ps => ((fCall 1 M_tuple_of (fCons (fN 2) (fun ps => .ok [] ps))) ps).map PV.data) [2]))
  (fSeq (fExpr (fun ps => ((fCall 1 M_sure (fCons (fApp dAll (fCons (fun ps => ((fLc (fSeqI (fN 1)) (uN 2) cYes (fun ps => ((fCall 1 M_is_piece (fCons (fN 2) (fun ps => .ok [] ps))) ps).map PV.data) [2]) ps).map PV.data) (fun ps => .ok [] ps))) (fun ps => .ok [] ps))) ps).map PV.data))
  (fRet (fMv 1))))
noncomputable def M_sure_pieces : List PyData → FR := fun ds => (b_sure_pieces (startP 3 ds)).fin
theorem bd_sure_pieces {K : PySem.W.Frag} {f : Addr} {fd : FuncData} (Fn : FunD K "sure_pieces" "sure_pieces" (defArgs s_sure_pieces) (defBody s_sure_pieces) (defScope s_sure_pieces) [] [] f fd) : Binds K fd ["pieces"] [] := Fn.bindsN fun _ _ _ _ _ _ us hl => match us, hl with | [_], _ => rfl
theorem ok_sure_pieces {P : Program} {w : World} {K : PySem.W.Frag} {mg : Str → Option Value} {base : Heap} {f : Addr} {fd : FuncData} {C_Unfit : Addr} (Fn : FunD K "sure_pieces" "sure_pieces" (defArgs s_sure_pieces) (defBody s_sure_pieces) (defScope s_sure_pieces) [] [] f fd) (hy : Hy K mg C_Unfit) (gf : mg "sure_pieces" = some (.ref f)) (G_tuple_of : GFn P w K mg base "tuple_of" 40 1 M_tuple_of) (G_sure : GFn P w K mg base "sure" 1 1 M_sure) (G_is_piece : GFn P w K mg base "is_piece" 3 1 M_is_piece) : GFn P w K mg base "sure_pieces" 41 1 M_sure_pieces := by
  refine GFn.of_body (k := 40) (n := 1) (N := ["pieces", "found", "own"]) (ps := ["pieces"]) Fn gf (bd_sure_pieces Fn) sc_sure_pieces rfl (g := b_sure_pieces) fun cdv A outer s H E hr => ?_
  have nd := sc_sure_pieces.nd
  exact (gss_cons (gs_setLc 1 [("own", 2)] rfl nd rfl (sw_true rfl rfl rfl (by decide +kernel)) (gi_seq (gv_name 0)) (blkOk_by (N := ["pieces", "found", "own"]) (sc := defScope s_sure_pieces) (own := [("own", 2)]) (by decide +kernel)) (fun _ _ _ _ _ => (gg_name 2 nd)) (fun _ _ _ _ _ => gts_nil) (fun _ _ _ _ _ => (gv_of (go_call G_tuple_of (hr.mono (by decide)) rfl takes0 (ga_cons (gv_name 2) ga_nil)))))
    (gss_cons (gs_expr (gv_of (go_call G_sure (hr.mono (by decide)) rfl (takes_of rfl rfl rfl rfl) (ga_cons (gv_callB (cr_all rfl) all_ok rfl hy.n_all (by decide +kernel) (ga_cons (gv_of (go_lc [("own", 2)] rfl nd (gi_seq (gv_name 1)) (blkOk_by (N := ["pieces", "found", "own"]) (sc := defScope s_sure_pieces) (own := [("own", 2)]) (by decide +kernel)) (fun _ _ _ _ _ => (gg_name 2 nd)) (fun _ _ _ _ _ => gts_nil) (fun _ _ _ _ _ => (gv_of (go_call G_is_piece (hr.mono (by decide)) rfl takes0 (ga_cons (gv_name 2) ga_nil)))))) ga_nil)) ga_nil))))
    (gss_one (gs_ret (go_move 1)))))
/-! sure_lag -/
abbrev s_sure_lag : Stmt := top 17
theorem sc_sure_lag : FnScope ["lag", "own"] ["lag"] (defScope s_sure_lag) := ⟨rfl, rfl, rfl, by decide +kernel, rfl, by decide +kernel, by decide +kernel⟩
noncomputable def b_sure_lag : PSt → Os :=
  (fSeq (fSet 1 (fCall 1 M_tuple_of (fCons (fN 0) (fun ps => .ok [] ps))))
  (fSeq (fExpr (fun ps => ((fCall 1 M_sure (fCons (fun ps => ((fCall 1 M_is_lag (fCons (fN 1) (fun ps => .ok [] ps))) ps).map PV.data) (fun ps => .ok [] ps))) ps).map PV.data))
  (fRet (fMv 1))))
noncomputable def M_sure_lag : List PyData → FR := fun ds => (b_sure_lag (startP 2 ds)).fin
theorem bd_sure_lag {K : PySem.W.Frag} {f : Addr} {fd : FuncData} (Fn : FunD K "sure_lag" "sure_lag" (defArgs s_sure_lag) (defBody s_sure_lag) (defScope s_sure_lag) [] [] f fd) : Binds K fd ["lag"] [] := Fn.bindsN fun _ _ _ _ _ _ us hl => match us, hl with | [_], _ => rfl
theorem ok_sure_lag {P : Program} {w : World} {K : PySem.W.Frag} {mg : Str → Option Value} {base : Heap} {f : Addr} {fd : FuncData} {C_Unfit : Addr} (Fn : FunD K "sure_lag" "sure_lag" (defArgs s_sure_lag) (defBody s_sure_lag) (defScope s_sure_lag) [] [] f fd) (hy : Hy K mg C_Unfit) (gf : mg "sure_lag" = some (.ref f)) (G_tuple_of : GFn P w K mg base "tuple_of" 40 1 M_tuple_of) (G_sure : GFn P w K mg base "sure" 1 1 M_sure) (G_is_lag : GFn P w K mg base "is_lag" 4 1 M_is_lag) : GFn P w K mg base "sure_lag" 41 1 M_sure_lag := by
  refine GFn.of_body (k := 40) (n := 1) (N := ["lag", "own"]) (ps := ["lag"]) Fn gf (bd_sure_lag Fn) sc_sure_lag rfl (g := b_sure_lag) fun cdv A outer s H E hr => ?_
  have nd := sc_sure_lag.nd
  exact (gss_cons (gs_set 1 (go_call G_tuple_of (hr.mono (by decide)) rfl (takes_of rfl rfl rfl rfl) (ga_cons (gv_name 0) ga_nil)) nd)
    (gss_cons (gs_expr (gv_of (go_call G_sure (hr.mono (by decide)) rfl (takes_of rfl rfl rfl rfl) (ga_cons (gv_of (go_call G_is_lag (hr.mono (by decide)) rfl (takes_of rfl rfl rfl rfl) (ga_cons (gv_name 1) ga_nil))) ga_nil))))
    (gss_one (gs_ret (go_move 1)))))
/-! lag_of -/
abbrev s_lag_of : Stmt := top 18
theorem sc_lag_of : FnScope ["one", "other", "near", "far"] ["one", "other"] (defScope s_lag_of) := ⟨rfl, rfl, rfl, by decide +kernel, rfl, by decide +kernel, by decide +kernel⟩
noncomputable def b_lag_of : PSt → Os :=
  (fSeq (fAsg (uTup 2 (uCons (uN 2) (uCons (uN 3) uNil))) (fun ps => ((fCall 1 M_sure_pieces (fCons (fTup (fCons (fN 0) (fCons (fN 1) (fun ps => .ok [] ps)))) (fun ps => .ok [] ps))) ps).map PV.data))
  (fRet (fCall 2 M_lag_between (fCons (fN 2) (fCons (fN 3) (fun ps => .ok [] ps))))))
noncomputable def M_lag_of : List PyData → FR := fun ds => (b_lag_of (startP 4 ds)).fin
theorem bd_lag_of {K : PySem.W.Frag} {f : Addr} {fd : FuncData} (Fn : FunD K "lag_of" "lag_of" (defArgs s_lag_of) (defBody s_lag_of) (defScope s_lag_of) [] [] f fd) : Binds K fd ["one", "other"] [] := Fn.bindsN fun _ _ _ _ _ _ us hl => match us, hl with | [_, _], _ => rfl
theorem ok_lag_of {P : Program} {w : World} {K : PySem.W.Frag} {mg : Str → Option Value} {base : Heap} {f : Addr} {fd : FuncData} {C_Unfit : Addr} (Fn : FunD K "lag_of" "lag_of" (defArgs s_lag_of) (defBody s_lag_of) (defScope s_lag_of) [] [] f fd) (hy : Hy K mg C_Unfit) (gf : mg "lag_of" = some (.ref f)) (G_lag_between : GFn P w K mg base "lag_between" 2 2 M_lag_between) (G_sure_pieces : GFn P w K mg base "sure_pieces" 41 1 M_sure_pieces) : GFn P w K mg base "lag_of" 42 2 M_lag_of := by
  refine GFn.of_body (k := 41) (n := 2) (N := ["one", "other", "near", "far"]) (ps := ["one", "other"]) Fn gf (bd_lag_of Fn) sc_lag_of rfl (g := b_lag_of) fun cdv A outer s H E hr => ?_
  have nd := sc_lag_of.nd
  exact (gss_cons (gs_asg (gv_of (go_call G_sure_pieces (hr.mono (by decide)) rfl (takes_of rfl rfl rfl rfl) (ga_cons (gv_tup (ga_cons (gv_name 0) (ga_cons (gv_name 1) ga_nil))) ga_nil))) (gg_tup rfl (ggs_cons (gg_name 2 nd) (ggs_cons (gg_name 3 nd) ggs_nil))))
    (gss_one (gs_ret (go_call G_lag_between (hr.mono (by decide)) rfl (takes_of rfl rfl rfl rfl) (ga_cons (gv_name 2) (ga_cons (gv_name 3) ga_nil))))))
/-! size_of -/
abbrev s_size_of : Stmt := top 19
theorem sc_size_of : FnScope ["lag"] ["lag"] (defScope s_size_of) := ⟨rfl, rfl, rfl, by decide +kernel, rfl, by decide +kernel, by decide +kernel⟩
noncomputable def b_size_of : PSt → Os :=
  (fRet (fun ps => ((fBin dAdd (fApp dLen (fCons (fIxS 0 (fK (.int 0))) (fun ps => .ok [] ps))) (fApp dLen (fCons (fIxS 0 (fK (.int 1))) (fun ps => .ok [] ps)))) ps).map PV.val))
noncomputable def M_size_of : List PyData → FR := fun ds => (b_size_of (startP 1 ds)).fin
theorem bd_size_of {K : PySem.W.Frag} {f : Addr} {fd : FuncData} (Fn : FunD K "size_of" "size_of" (defArgs s_size_of) (defBody s_size_of) (defScope s_size_of) [] [] f fd) : Binds K fd ["lag"] [] := Fn.bindsN fun _ _ _ _ _ _ us hl => match us, hl with | [_], _ => rfl
theorem ok_size_of {P : Program} {w : World} {K : PySem.W.Frag} {mg : Str → Option Value} {base : Heap} {f : Addr} {fd : FuncData} {C_Unfit : Addr} (Fn : FunD K "size_of" "size_of" (defArgs s_size_of) (defBody s_size_of) (defScope s_size_of) [] [] f fd) (hy : Hy K mg C_Unfit) (gf : mg "size_of" = some (.ref f)) : GFn P w K mg base "size_of" 1 1 M_size_of := by
  refine GFn.of_body (k := 0) (n := 1) (N := ["lag"]) (ps := ["lag"]) Fn gf (bd_size_of Fn) sc_size_of rfl (g := b_size_of) fun cdv A outer s H E hr => ?_
  have nd := sc_size_of.nd
  exact (gss_one (gs_ret (go_of (gv_bin op_addD add_ok (gv_callB call_len_seq (len_ok) rfl hy.n_len (by decide +kernel) (ga_cons (gv_ixS 0 gv_int) ga_nil)) (gv_callB call_len_seq (len_ok) rfl hy.n_len (by decide +kernel) (ga_cons (gv_ixS 0 gv_int) ga_nil))))))
/-! lag_length -/
abbrev s_lag_length : Stmt := top 20
theorem sc_lag_length : FnScope ["lag"] ["lag"] (defScope s_lag_length) := ⟨rfl, rfl, rfl, by decide +kernel, rfl, by decide +kernel, by decide +kernel⟩
noncomputable def b_lag_length : PSt → Os :=
  (fRet (fCall 1 M_size_of (fCons (fun ps => ((fCall 1 M_sure_lag (fCons (fN 0) (fun ps => .ok [] ps))) ps).map PV.data) (fun ps => .ok [] ps))))
noncomputable def M_lag_length : List PyData → FR := fun ds => (b_lag_length (startP 1 ds)).fin
theorem bd_lag_length {K : PySem.W.Frag} {f : Addr} {fd : FuncData} (Fn : FunD K "lag_length" "lag_length" (defArgs s_lag_length) (defBody s_lag_length) (defScope s_lag_length) [] [] f fd) : Binds K fd ["lag"] [] := Fn.bindsN fun _ _ _ _ _ _ us hl => match us, hl with | [_], _ => rfl
theorem ok_lag_length {P : Program} {w : World} {K : PySem.W.Frag} {mg : Str → Option Value} {base : Heap} {f : Addr} {fd : FuncData} {C_Unfit : Addr} (Fn : FunD K "lag_length" "lag_length" (defArgs s_lag_length) (defBody s_lag_length) (defScope s_lag_length) [] [] f fd) (hy : Hy K mg C_Unfit) (gf : mg "lag_length" = some (.ref f)) (G_sure_lag : GFn P w K mg base "sure_lag" 41 1 M_sure_lag) (G_size_of : GFn P w K mg base "size_of" 1 1 M_size_of) : GFn P w K mg base "lag_length" 42 1 M_lag_length := by
  refine GFn.of_body (k := 41) (n := 1) (N := ["lag"]) (ps := ["lag"]) Fn gf (bd_lag_length Fn) sc_lag_length rfl (g := b_lag_length) fun cdv A outer s H E hr => ?_
  have nd := sc_lag_length.nd
  exact (gss_one (gs_ret (go_call G_size_of (hr.mono (by decide)) rfl (takes_of rfl rfl rfl rfl) (ga_cons (gv_of (go_call G_sure_lag (hr.mono (by decide)) rfl (takes_of rfl rfl rfl rfl) (ga_cons (gv_name 0) ga_nil))) ga_nil))))
/-! lag_turned -/
abbrev s_lag_turned : Stmt := top 21
theorem sc_lag_turned : FnScope ["lag", "own"] ["lag"] (defScope s_lag_turned) := ⟨rfl, rfl, rfl, by decide +kernel, rfl, by decide +kernel, by decide +kernel⟩
noncomputable def b_lag_turned : PSt → Os :=
  (fSeq (fSet 1 (fCall 1 M_sure_lag (fCons (fN 0) (fun ps => .ok [] ps))))
  (fRet (fun ps => ((fTup (fCons (fIxS 1 (fK (.int 1))) (fCons (fIxS 1 (fK (.int 0))) (fun ps => .ok [] ps)))) ps).map PV.val)))
noncomputable def M_lag_turned : List PyData → FR := fun ds => (b_lag_turned (startP 2 ds)).fin
theorem bd_lag_turned {K : PySem.W.Frag} {f : Addr} {fd : FuncData} (Fn : FunD K "lag_turned" "lag_turned" (defArgs s_lag_turned) (defBody s_lag_turned) (defScope s_lag_turned) [] [] f fd) : Binds K fd ["lag"] [] := Fn.bindsN fun _ _ _ _ _ _ us hl => match us, hl with | [_], _ => rfl
theorem ok_lag_turned {P : Program} {w : World} {K : PySem.W.Frag} {mg : Str → Option Value} {base : Heap} {f : Addr} {fd : FuncData} {C_Unfit : Addr} (Fn : FunD K "lag_turned" "lag_turned" (defArgs s_lag_turned) (defBody s_lag_turned) (defScope s_lag_turned) [] [] f fd) (hy : Hy K mg C_Unfit) (gf : mg "lag_turned" = some (.ref f)) (G_sure_lag : GFn P w K mg base "sure_lag" 41 1 M_sure_lag) : GFn P w K mg base "lag_turned" 42 1 M_lag_turned := by
  refine GFn.of_body (k := 41) (n := 1) (N := ["lag", "own"]) (ps := ["lag"]) Fn gf (bd_lag_turned Fn) sc_lag_turned rfl (g := b_lag_turned) fun cdv A outer s H E hr => ?_
  have nd := sc_lag_turned.nd
  exact (gss_cons (gs_set 1 (go_call G_sure_lag (hr.mono (by decide)) rfl (takes_of rfl rfl rfl rfl) (ga_cons (gv_name 0) ga_nil)) nd)
    (gss_one (gs_ret (go_of (gv_tup (ga_cons (gv_ixS 1 gv_int) (ga_cons (gv_ixS 1 gv_int) ga_nil)))))))
/-! went_on -/
abbrev s_went_on : Stmt := top 22
theorem sc_went_on : FnScope ["lag", "one", "other"] ["lag", "one", "other"] (defScope s_went_on) := ⟨rfl, rfl, rfl, by decide +kernel, rfl, by decide +kernel, by decide +kernel⟩
noncomputable def b_went_on : PSt → Os :=
  (fRet (fCall 2 M_lag_between (fCons (fBin dAdd (fIxS 0 (fK (.int 0))) (fN 1)) (fCons (fBin dAdd (fIxS 0 (fK (.int 1))) (fN 2)) (fun ps => .ok [] ps)))))
noncomputable def M_went_on : List PyData → FR := fun ds => (b_went_on (startP 3 ds)).fin
theorem bd_went_on {K : PySem.W.Frag} {f : Addr} {fd : FuncData} (Fn : FunD K "went_on" "went_on" (defArgs s_went_on) (defBody s_went_on) (defScope s_went_on) [] [] f fd) : Binds K fd ["lag", "one", "other"] [] := Fn.bindsN fun _ _ _ _ _ _ us hl => match us, hl with | [_, _, _], _ => rfl
theorem ok_went_on {P : Program} {w : World} {K : PySem.W.Frag} {mg : Str → Option Value} {base : Heap} {f : Addr} {fd : FuncData} {C_Unfit : Addr} (Fn : FunD K "went_on" "went_on" (defArgs s_went_on) (defBody s_went_on) (defScope s_went_on) [] [] f fd) (hy : Hy K mg C_Unfit) (gf : mg "went_on" = some (.ref f)) (G_lag_between : GFn P w K mg base "lag_between" 2 2 M_lag_between) : GFn P w K mg base "went_on" 3 3 M_went_on := by
  refine GFn.of_body (k := 2) (n := 3) (N := ["lag", "one", "other"]) (ps := ["lag", "one", "other"]) Fn gf (bd_went_on Fn) sc_went_on rfl (g := b_went_on) fun cdv A outer s H E hr => ?_
  have nd := sc_went_on.nd
  exact (gss_one (gs_ret (go_call G_lag_between (hr.mono (by decide)) rfl (takes_of rfl rfl rfl rfl) (ga_cons (gv_bin op_addD add_ok (gv_ixS 0 gv_int) (gv_name 1)) (ga_cons (gv_bin op_addD add_ok (gv_ixS 0 gv_int) (gv_name 2)) ga_nil)))))
/-! lag_behind -/
abbrev s_lag_behind : Stmt := top 23
theorem sc_lag_behind : FnScope ["lag", "one", "other", "own", "near", "far"] ["lag", "one", "other"] (defScope s_lag_behind) := ⟨rfl, rfl, rfl, by decide +kernel, rfl, by decide +kernel, by decide +kernel⟩
noncomputable def b_lag_behind : PSt → Os :=
  (fSeq (fSet 3 (fCall 1 M_sure_lag (fCons (fN 0) (fun ps => .ok [] ps))))
  (fSeq (fAsg (uTup 2 (uCons (uN 4) (uCons (uN 5) uNil))) (fun ps => ((fCall 1 M_sure_pieces (fCons (fTup (fCons (fN 1) (fCons (fN 2) (fun ps => .ok [] ps)))) (fun ps => .ok [] ps))) ps).map PV.data))
  (fRet (fCall 3 M_went_on (fCons (fN 3) (fCons (fN 4) (fCons (fN 5) (fun ps => .ok [] ps))))))))
noncomputable def M_lag_behind : List PyData → FR := fun ds => (b_lag_behind (startP 6 ds)).fin
theorem bd_lag_behind {K : PySem.W.Frag} {f : Addr} {fd : FuncData} (Fn : FunD K "lag_behind" "lag_behind" (defArgs s_lag_behind) (defBody s_lag_behind) (defScope s_lag_behind) [] [] f fd) : Binds K fd ["lag", "one", "other"] [] := Fn.bindsN fun _ _ _ _ _ _ us hl => match us, hl with | [_, _, _], _ => rfl
theorem ok_lag_behind {P : Program} {w : World} {K : PySem.W.Frag} {mg : Str → Option Value} {base : Heap} {f : Addr} {fd : FuncData} {C_Unfit : Addr} (Fn : FunD K "lag_behind" "lag_behind" (defArgs s_lag_behind) (defBody s_lag_behind) (defScope s_lag_behind) [] [] f fd) (hy : Hy K mg C_Unfit) (gf : mg "lag_behind" = some (.ref f)) (G_sure_pieces : GFn P w K mg base "sure_pieces" 41 1 M_sure_pieces) (G_sure_lag : GFn P w K mg base "sure_lag" 41 1 M_sure_lag) (G_went_on : GFn P w K mg base "went_on" 3 3 M_went_on) : GFn P w K mg base "lag_behind" 42 3 M_lag_behind := by
  refine GFn.of_body (k := 41) (n := 3) (N := ["lag", "one", "other", "own", "near", "far"]) (ps := ["lag", "one", "other"]) Fn gf (bd_lag_behind Fn) sc_lag_behind rfl (g := b_lag_behind) fun cdv A outer s H E hr => ?_
  have nd := sc_lag_behind.nd
  exact (gss_cons (gs_set 3 (go_call G_sure_lag (hr.mono (by decide)) rfl (takes_of rfl rfl rfl rfl) (ga_cons (gv_name 0) ga_nil)) nd)
    (gss_cons (gs_asg (gv_of (go_call G_sure_pieces (hr.mono (by decide)) rfl (takes_of rfl rfl rfl rfl) (ga_cons (gv_tup (ga_cons (gv_name 1) (ga_cons (gv_name 2) ga_nil))) ga_nil))) (gg_tup rfl (ggs_cons (gg_name 4 nd) (ggs_cons (gg_name 5 nd) ggs_nil))))
    (gss_one (gs_ret (go_call G_went_on (hr.mono (by decide)) rfl (takes_of rfl rfl rfl rfl) (ga_cons (gv_name 3) (ga_cons (gv_name 4) (ga_cons (gv_name 5) ga_nil))))))))
/-! is_kept -/
abbrev s_is_kept : Stmt := top 24
theorem sc_is_kept : FnScope ["lag", "one", "other"] ["lag", "one", "other"] (defScope s_is_kept) := ⟨rfl, rfl, rfl, by decide +kernel, rfl, by decide +kernel, by decide +kernel⟩
noncomputable def b_is_kept : PSt → Os :=
  (fRet (fun ps => ((fBin dEq (fun ps => ((fCall 3 M_lag_behind (fCons (fN 0) (fCons (fN 1) (fCons (fN 2) (fun ps => .ok [] ps))))) ps).map PV.data) (fun ps => ((fCall 1 M_sure_lag (fCons (fN 0) (fun ps => .ok [] ps))) ps).map PV.data)) ps).map PV.val))
noncomputable def M_is_kept : List PyData → FR := fun ds => (b_is_kept (startP 3 ds)).fin
theorem bd_is_kept {K : PySem.W.Frag} {f : Addr} {fd : FuncData} (Fn : FunD K "is_kept" "is_kept" (defArgs s_is_kept) (defBody s_is_kept) (defScope s_is_kept) [] [] f fd) : Binds K fd ["lag", "one", "other"] [] := Fn.bindsN fun _ _ _ _ _ _ us hl => match us, hl with | [_, _, _], _ => rfl
theorem ok_is_kept {P : Program} {w : World} {K : PySem.W.Frag} {mg : Str → Option Value} {base : Heap} {f : Addr} {fd : FuncData} {C_Unfit : Addr} (Fn : FunD K "is_kept" "is_kept" (defArgs s_is_kept) (defBody s_is_kept) (defScope s_is_kept) [] [] f fd) (hy : Hy K mg C_Unfit) (gf : mg "is_kept" = some (.ref f)) (G_sure_lag : GFn P w K mg base "sure_lag" 41 1 M_sure_lag) (G_lag_behind : GFn P w K mg base "lag_behind" 42 3 M_lag_behind) : GFn P w K mg base "is_kept" 43 3 M_is_kept := by
  refine GFn.of_body (k := 42) (n := 3) (N := ["lag", "one", "other"]) (ps := ["lag", "one", "other"]) Fn gf (bd_is_kept Fn) sc_is_kept rfl (g := b_is_kept) fun cdv A outer s H E hr => ?_
  have nd := sc_is_kept.nd
  exact (gss_one (gs_ret (go_of (gv_cmp (op_eqD hr.units) eq_ok (gv_of (go_call G_lag_behind (hr.mono (by decide)) rfl (takes_of rfl rfl rfl rfl) (ga_cons (gv_name 0) (ga_cons (gv_name 1) (ga_cons (gv_name 2) ga_nil))))) (gv_of (go_call G_sure_lag (hr.mono (by decide)) rfl (takes_of rfl rfl rfl rfl) (ga_cons (gv_name 0) ga_nil)))))))
/-! ends_with -/
abbrev s_ends_with : Stmt := top 25
theorem sc_ends_with : FnScope ["piece", "end"] ["piece", "end"] (defScope s_ends_with) := ⟨rfl, rfl, rfl, by decide +kernel, rfl, by decide +kernel, by decide +kernel⟩
noncomputable def b_ends_with : PSt → Os :=
  (fRet (fun ps => ((fAndV (fBin dLe (fLenS 1) (fLenS 0)) (fBin dEq (fun ps => ((fSl (fN 0) (fSomePart (fBin dSub (fLenS 0) (fLenS 1))) fNoPart) ps).map PV.data) (fN 1))) ps).map PV.val))
noncomputable def M_ends_with : List PyData → FR := fun ds => (b_ends_with (startP 2 ds)).fin
theorem bd_ends_with {K : PySem.W.Frag} {f : Addr} {fd : FuncData} (Fn : FunD K "ends_with" "ends_with" (defArgs s_ends_with) (defBody s_ends_with) (defScope s_ends_with) [] [] f fd) : Binds K fd ["piece", "end"] [] := Fn.bindsN fun _ _ _ _ _ _ us hl => match us, hl with | [_, _], _ => rfl
theorem ok_ends_with {P : Program} {w : World} {K : PySem.W.Frag} {mg : Str → Option Value} {base : Heap} {f : Addr} {fd : FuncData} {C_Unfit : Addr} (Fn : FunD K "ends_with" "ends_with" (defArgs s_ends_with) (defBody s_ends_with) (defScope s_ends_with) [] [] f fd) (hy : Hy K mg C_Unfit) (gf : mg "ends_with" = some (.ref f)) : GFn P w K mg base "ends_with" 1 2 M_ends_with := by
  refine GFn.of_body (k := 0) (n := 2) (N := ["piece", "end"]) (ps := ["piece", "end"]) Fn gf (bd_ends_with Fn) sc_ends_with rfl (g := b_ends_with) fun cdv A outer s H E hr => ?_
  have nd := sc_ends_with.nd
  exact (gss_one (gs_ret (go_of (gv_and (gv_cmp op_le le_ok (gv_lenS 1 rfl hy.n_len) (gv_lenS 0 rfl hy.n_len)) (gv_one (gv_cmp (op_eqD hr.units) eq_ok (gv_of (go_slice (gv_name 0) (gp_some (gv_bin op_sub sub_ok (gv_lenS 0 rfl hy.n_len) (gv_lenS 1 rfl hy.n_len))) gp_none)) (gv_name 1)))))))
/-! lag_through -/
abbrev s_lag_through : Stmt := top 26
theorem sc_lag_through : FnScope ["lag", "next_lag", "own", "later"] ["lag", "next_lag"] (defScope s_lag_through) := ⟨rfl, rfl, rfl, by decide +kernel, rfl, by decide +kernel, by decide +kernel⟩
noncomputable def b_lag_through : PSt → Os :=
  (fSeq (fPar 2 3 (fCall 1 M_sure_lag (fCons (fN 0) (fun ps => .ok [] ps))) (fCall 1 M_sure_lag (fCons (fN 1) (fun ps => .ok [] ps))))
  (fSeq (fIfS (fTest (fun ps => ((fCall 2 M_ends_with (fCons (fIxS 2 (fK (.int 1))) (fCons (fIxS 3 (fK (.int 0))) (fun ps => .ok [] ps)))) ps).map PV.data)) (fRet (fCall 2 M_lag_between (fCons (fIxS 2 (fK (.int 0))) (fCons (fBin dAdd (fun ps => ((fSl (fIxS 2 (fK (.int 1))) fNoPart (fSomePart (fBin dSub (fApp dLen (fCons (fIxS 2 (fK (.int 1))) (fun ps => .ok [] ps))) (fApp dLen (fCons (fIxS 3 (fK (.int 0))) (fun ps => .ok [] ps)))))) ps).map PV.data) (fIxS 3 (fK (.int 1)))) (fun ps => .ok [] ps))))) fSkip)
  (fSeq (fExpr (fun ps => ((fCall 1 M_sure (fCons (fun ps => ((fCall 2 M_ends_with (fCons (fIxS 3 (fK (.int 0))) (fCons (fIxS 2 (fK (.int 1))) (fun ps => .ok [] ps)))) ps).map PV.data) (fun ps => .ok [] ps))) ps).map PV.data))
  (fRet (fCall 2 M_lag_between (fCons (fBin dAdd (fun ps => ((fSl (fIxS 3 (fK (.int 0))) fNoPart (fSomePart (fBin dSub (fApp dLen (fCons (fIxS 3 (fK (.int 0))) (fun ps => .ok [] ps))) (fApp dLen (fCons (fIxS 2 (fK (.int 1))) (fun ps => .ok [] ps)))))) ps).map PV.data) (fIxS 2 (fK (.int 0)))) (fCons (fIxS 3 (fK (.int 1))) (fun ps => .ok [] ps))))))))
noncomputable def M_lag_through : List PyData → FR := fun ds => (b_lag_through (startP 4 ds)).fin
theorem bd_lag_through {K : PySem.W.Frag} {f : Addr} {fd : FuncData} (Fn : FunD K "lag_through" "lag_through" (defArgs s_lag_through) (defBody s_lag_through) (defScope s_lag_through) [] [] f fd) : Binds K fd ["lag", "next_lag"] [] := Fn.bindsN fun _ _ _ _ _ _ us hl => match us, hl with | [_, _], _ => rfl
theorem ok_lag_through {P : Program} {w : World} {K : PySem.W.Frag} {mg : Str → Option Value} {base : Heap} {f : Addr} {fd : FuncData} {C_Unfit : Addr} (Fn : FunD K "lag_through" "lag_through" (defArgs s_lag_through) (defBody s_lag_through) (defScope s_lag_through) [] [] f fd) (hy : Hy K mg C_Unfit) (gf : mg "lag_through" = some (.ref f)) (G_sure : GFn P w K mg base "sure" 1 1 M_sure) (G_lag_between : GFn P w K mg base "lag_between" 2 2 M_lag_between) (G_sure_lag : GFn P w K mg base "sure_lag" 41 1 M_sure_lag) (G_ends_with : GFn P w K mg base "ends_with" 1 2 M_ends_with) : GFn P w K mg base "lag_through" 42 2 M_lag_through := by
  refine GFn.of_body (k := 41) (n := 2) (N := ["lag", "next_lag", "own", "later"]) (ps := ["lag", "next_lag"]) Fn gf (bd_lag_through Fn) sc_lag_through rfl (g := b_lag_through) fun cdv A outer s H E hr => ?_
  have nd := sc_lag_through.nd
  exact (gss_cons (gs_par 2 3 (go_call G_sure_lag (hr.mono (by decide)) rfl (takes_of rfl rfl rfl rfl) (ga_cons (gv_name 0) ga_nil)) (go_call G_sure_lag (hr.mono (by decide)) rfl (takes_of rfl rfl rfl rfl) (ga_cons (gv_name 1) ga_nil)) rfl nd rfl rfl (by rfl))
    (gss_cons (gs_if (gt_val (gv_of (go_call G_ends_with (hr.mono (by decide)) rfl (takes_of rfl rfl rfl rfl) (ga_cons (gv_ixS 2 gv_int) (ga_cons (gv_ixS 3 gv_int) ga_nil))))) (gss_one (gs_ret (go_call G_lag_between (hr.mono (by decide)) rfl (takes_of rfl rfl rfl rfl) (ga_cons (gv_ixS 2 gv_int) (ga_cons (gv_bin op_addD add_ok (gv_of (go_slice (gv_ixS 2 gv_int) gp_none (gp_some (gv_bin op_sub sub_ok (gv_callB call_len_seq (len_ok) rfl hy.n_len (by decide +kernel) (ga_cons (gv_ixS 2 gv_int) ga_nil)) (gv_callB call_len_seq (len_ok) rfl hy.n_len (by decide +kernel) (ga_cons (gv_ixS 3 gv_int) ga_nil)))))) (gv_ixS 3 gv_int)) ga_nil))))) gss_nil)
    (gss_cons (gs_expr (gv_of (go_call G_sure (hr.mono (by decide)) rfl (takes_of rfl rfl rfl rfl) (ga_cons (gv_of (go_call G_ends_with (hr.mono (by decide)) rfl (takes_of rfl rfl rfl rfl) (ga_cons (gv_ixS 3 gv_int) (ga_cons (gv_ixS 2 gv_int) ga_nil)))) ga_nil))))
    (gss_one (gs_ret (go_call G_lag_between (hr.mono (by decide)) rfl (takes_of rfl rfl rfl rfl) (ga_cons (gv_bin op_addD add_ok (gv_of (go_slice (gv_ixS 3 gv_int) gp_none (gp_some (gv_bin op_sub sub_ok (gv_callB call_len_seq (len_ok) rfl hy.n_len (by decide +kernel) (ga_cons (gv_ixS 3 gv_int) ga_nil)) (gv_callB call_len_seq (len_ok) rfl hy.n_len (by decide +kernel) (ga_cons (gv_ixS 2 gv_int) ga_nil)))))) (gv_ixS 2 gv_int)) (ga_cons (gv_ixS 3 gv_int) ga_nil))))))))
/-! are_near -/
abbrev s_are_near : Stmt := top 27
theorem sc_are_near : FnScope ["one", "other", "number", "near", "far"] ["one", "other", "number"] (defScope s_are_near) := ⟨rfl, rfl, rfl, by decide +kernel, rfl, by decide +kernel, by decide +kernel⟩
noncomputable def b_are_near : PSt → Os :=
  (fSeq (fAsg (uTup 2 (uCons (uN 3) (uCons (uN 4) uNil))) (fun ps => ((fCall 1 M_sure_pieces (fCons (fTup (fCons (fN 0) (fCons (fN 1) (fun ps => .ok [] ps)))) (fun ps => .ok [] ps))) ps).map PV.data))
  (fSeq (fExpr (fun ps => ((fCall 1 M_sure (fCons (fAndV (fun ps => ((fCall 1 M_is_number (fCons (fN 2) (fun ps => .ok [] ps))) ps).map PV.data) (fBinS dGe 2 (fK (.int 0)))) (fun ps => .ok [] ps))) ps).map PV.data))
  (fRet (fun ps => ((fBin dLe (fun ps => ((fCall 1 M_size_of (fCons (fun ps => ((fCall 2 M_lag_between (fCons (fN 3) (fCons (fN 4) (fun ps => .ok [] ps)))) ps).map PV.data) (fun ps => .ok [] ps))) ps).map PV.data) (fN 2)) ps).map PV.val))))
noncomputable def M_are_near : List PyData → FR := fun ds => (b_are_near (startP 5 ds)).fin
theorem bd_are_near {K : PySem.W.Frag} {f : Addr} {fd : FuncData} (Fn : FunD K "are_near" "are_near" (defArgs s_are_near) (defBody s_are_near) (defScope s_are_near) [] [] f fd) : Binds K fd ["one", "other", "number"] [] := Fn.bindsN fun _ _ _ _ _ _ us hl => match us, hl with | [_, _, _], _ => rfl
theorem ok_are_near {P : Program} {w : World} {K : PySem.W.Frag} {mg : Str → Option Value} {base : Heap} {f : Addr} {fd : FuncData} {C_Unfit : Addr} (Fn : FunD K "are_near" "are_near" (defArgs s_are_near) (defBody s_are_near) (defScope s_are_near) [] [] f fd) (hy : Hy K mg C_Unfit) (gf : mg "are_near" = some (.ref f)) (G_is_number : GFn P w K mg base "is_number" 1 1 M_is_number) (G_sure : GFn P w K mg base "sure" 1 1 M_sure) (G_lag_between : GFn P w K mg base "lag_between" 2 2 M_lag_between) (G_sure_pieces : GFn P w K mg base "sure_pieces" 41 1 M_sure_pieces) (G_size_of : GFn P w K mg base "size_of" 1 1 M_size_of) : GFn P w K mg base "are_near" 42 3 M_are_near := by
  refine GFn.of_body (k := 41) (n := 3) (N := ["one", "other", "number", "near", "far"]) (ps := ["one", "other", "number"]) Fn gf (bd_are_near Fn) sc_are_near rfl (g := b_are_near) fun cdv A outer s H E hr => ?_
  have nd := sc_are_near.nd
  exact (gss_cons (gs_asg (gv_of (go_call G_sure_pieces (hr.mono (by decide)) rfl (takes_of rfl rfl rfl rfl) (ga_cons (gv_tup (ga_cons (gv_name 0) (ga_cons (gv_name 1) ga_nil))) ga_nil))) (gg_tup rfl (ggs_cons (gg_name 3 nd) (ggs_cons (gg_name 4 nd) ggs_nil))))
    (gss_cons (gs_expr (gv_of (go_call G_sure (hr.mono (by decide)) rfl (takes_of rfl rfl rfl rfl) (ga_cons (gv_and (gv_of (go_call G_is_number (hr.mono (by decide)) rfl (takes_of rfl rfl rfl rfl) (ga_cons (gv_name 2) ga_nil))) (gv_one (gv_cmpS 2 op_ge ge_ok bool_dGe gv_int))) ga_nil))))
    (gss_one (gs_ret (go_of (gv_cmp op_le le_ok (gv_of (go_call G_size_of (hr.mono (by decide)) rfl (takes_of rfl rfl rfl rfl) (ga_cons (gv_of (go_call G_lag_between (hr.mono (by decide)) rfl (takes_of rfl rfl rfl rfl) (ga_cons (gv_name 3) (ga_cons (gv_name 4) ga_nil)))) ga_nil))) (gv_name 2)))))))
/-! _law_box -/
abbrev s__law_box : Stmt := top 29
theorem sc__law_box : FnScope ["script", "k", "cell"] ["script", "k"] (defScope s__law_box) := ⟨rfl, rfl, rfl, by decide +kernel, rfl, by decide +kernel, by decide +kernel⟩
noncomputable def b__law_box : PSt → Os :=
  (fSeq (fSet 2 (fun ps => ((fIf (fTest (fBinS dLt 1 (fLenS 0))) (fIxS 0 (fN 1)) (fK (.int 0))) ps).map PV.val))
  (fRet (fLst (fCons (fBin dMul (fApp dAbs (fCons (fN 2) (fun ps => .ok [] ps))) (fApp dInt (fCons (fBin dGe (fApp dAbs (fCons (fN 2) (fun ps => .ok [] ps))) (fBin dPow (fK (.int 10)) (fK (.int 18)))) (fun ps => .ok [] ps)))) (fCons (fBin dAdd (fBin dAdd (fBin dMod (fApp dInt (fCons (fN 2) (fun ps => .ok [] ps))) (fK (.int 2305843009213693951))) (fBin dMul (fK (.int 41183)) (fN 1))) (fK (.int 78041058))) (fCons (fK (.int 0)) (fun ps => .ok [] ps)))))))
noncomputable def M__law_box : List PyData → FR := fun ds => (b__law_box (startP 3 ds)).fin
theorem bd__law_box {K : PySem.W.Frag} {f : Addr} {fd : FuncData} (Fn : FunD K "_law_box" "_law_box" (defArgs s__law_box) (defBody s__law_box) (defScope s__law_box) [] [] f fd) : Binds K fd ["script", "k"] [] := Fn.bindsN fun _ _ _ _ _ _ us hl => match us, hl with | [_, _], _ => rfl
theorem ok__law_box {P : Program} {w : World} {K : PySem.W.Frag} {mg : Str → Option Value} {base : Heap} {f : Addr} {fd : FuncData} {C_Unfit : Addr} (Fn : FunD K "_law_box" "_law_box" (defArgs s__law_box) (defBody s__law_box) (defScope s__law_box) [] [] f fd) (hy : Hy K mg C_Unfit) (gf : mg "_law_box" = some (.ref f)) : GFn P w K mg base "_law_box" 1 2 M__law_box := by
  refine GFn.of_body (k := 0) (n := 2) (N := ["script", "k", "cell"]) (ps := ["script", "k"]) Fn gf (bd__law_box Fn) sc__law_box rfl (g := b__law_box) fun cdv A outer s H E hr => ?_
  have nd := sc__law_box.nd
  exact (gss_cons (gs_set 2 (go_of (gv_if (gt_cmpS 1 (op_ltD hr.units) lt_ok bool_dLt (gv_lenS 0 rfl hy.n_len)) (gv_ixS 0 (gv_name 1)) gv_int)) nd)
    (gss_one (gs_ret (go_lst (ga_cons (gv_bin op_mul mul_ok (gv_callB call_abs abs_ok rfl hy.n_abs (by decide +kernel) (ga_cons (gv_name 2) ga_nil)) (gv_callTy call_int1 int1_ok rfl hy.n_int (by decide +kernel) (ga_cons (gv_cmp op_ge ge_ok (gv_callB call_abs abs_ok rfl hy.n_abs (by decide +kernel) (ga_cons (gv_name 2) ga_nil)) (gv_bin op_pow pow_ok gv_int gv_int)) ga_nil))) (ga_cons (gv_bin op_addD add_ok (gv_bin op_addD add_ok (gv_bin op_mod mod_ok (gv_callTy call_int1 int1_ok rfl hy.n_int (by decide +kernel) (ga_cons (gv_name 2) ga_nil)) gv_int) (gv_bin op_mul mul_ok gv_int (gv_name 1))) gv_int) (ga_cons gv_int ga_nil)))))))
/-! _law_take -/
abbrev s__law_take : Stmt := top 30
theorem sc__law_take : FnScope ["urn", "below", "once", "far", "twice", "drawn"] ["urn", "below"] (defScope s__law_take) := ⟨rfl, rfl, rfl, by decide +kernel, rfl, by decide +kernel, by decide +kernel⟩
noncomputable def b__law_take : PSt → Os :=
  (fSeq (fIfS (fTest (fBin dGt (fIxS 0 (fK (.int 0))) (fK (.int 0)))) (fSeq (fSet 5 (fun ps => ((fBin dMod (fApp dInt (fCons (fIxS 0 (fK (.int 0))) (fun ps => .ok [] ps))) (fN 1)) ps).map PV.val))
  (fSeq (fSetIx 0 (fK (.int 0)) (fBin dFdiv (fIxS 0 (fK (.int 0))) (fN 1)))
  (fRet (fMv 5)))) fSkip)
  (fSeq (fSetIx 0 (fK (.int 2)) (fBin dAdd (fIxS 0 (fK (.int 2))) (fK (.int 1))))
  (fSeq (fSet 2 (fun ps => ((fBin dMod (fApp dInt (fCons (fBin dMul (fBin dAdd (fIxS 0 (fK (.int 1))) (fBin dMul (fK (.int 48271)) (fIxS 0 (fK (.int 2))))) (fBin dAdd (fK (.int 39373)) (fIxS 0 (fK (.int 2))))) (fun ps => .ok [] ps))) (fK (.int 2147483647))) ps).map PV.val))
  (fSeq (fSet 3 (fun ps => ((fBin dAdd (fBin dMod (fApp dInt (fCons (fN 2) (fun ps => .ok [] ps))) (fK (.int 40009))) (fK (.int 7))) ps).map PV.val))
  (fSeq (fSet 4 (fun ps => ((fBin dMod (fApp dInt (fCons (fBin dMul (fBin dAdd (fBin dAdd (fN 2) (fIxS 0 (fK (.int 2)))) (fBin dFdiv (fIxS 0 (fK (.int 1))) (fK (.int 1000003)))) (fN 3)) (fun ps => .ok [] ps))) (fK (.int 2147483629))) ps).map PV.val))
  (fRet (fun ps => ((fBin dMod (fApp dInt (fCons (fBin dFdiv (fBin dMod (fApp dInt (fCons (fBin dAdd (fBin dMul (fN 4) (fK (.int 48271))) (fN 2)) (fun ps => .ok [] ps))) (fK (.int 2147483587))) (fK (.int 64))) (fun ps => .ok [] ps))) (fN 1)) ps).map PV.val)))))))
noncomputable def M__law_take : List PyData → List PyData → FRU := fun u ds => (b__law_take (startU 6 u ds)).finU
theorem bd__law_take {K : PySem.W.Frag} {f : Addr} {fd : FuncData} (Fn : FunD K "_law_take" "_law_take" (defArgs s__law_take) (defBody s__law_take) (defScope s__law_take) [] [] f fd) : Binds K fd ["urn", "below"] [] := Fn.bindsN fun _ _ _ _ _ _ us hl => match us, hl with | [_, _], _ => rfl
theorem ok__law_take {P : Program} {w : World} {K : PySem.W.Frag} {mg : Str → Option Value} {base : Heap} {f : Addr} {fd : FuncData} {C_Unfit : Addr} (Fn : FunD K "_law_take" "_law_take" (defArgs s__law_take) (defBody s__law_take) (defScope s__law_take) [] [] f fd) (hy : Hy K mg C_Unfit) (gf : mg "_law_take" = some (.ref f)) : GFu P w K mg base "_law_take" 1 1 M__law_take := by
  refine GFu.of_body (k := 0) (n := 1) (N := ["urn", "below", "once", "far", "twice", "drawn"]) (ps := ["urn", "below"]) Fn gf (bd__law_take Fn) sc__law_take rfl (g := b__law_take) fun cdv A outer s H E a hr => ?_
  have nd := sc__law_take.nd
  exact (gss_cons (gs_if (gt_cmp op_gt gt_ok (gv_ixS 0 gv_int) gv_int) (gss_cons (gs_set 5 (go_of (gv_bin op_mod mod_ok (gv_callTy call_int1 int1_ok rfl hy.n_int (by decide +kernel) (ga_cons (gv_ixS 0 gv_int) ga_nil)) (gv_name 1))) nd)
    (gss_cons (gs_setIx 0 (gv_bin op_fdiv fdiv_ok (gv_ixS 0 gv_int) (gv_name 1)) gv_int)
    (gss_one (gs_ret (go_move 5))))) gss_nil)
    (gss_cons (gs_setIx 0 (gv_bin op_addD add_ok (gv_ixS 0 gv_int) gv_int) gv_int)
    (gss_cons (gs_set 2 (go_of (gv_bin op_mod mod_ok (gv_callTy call_int1 int1_ok rfl hy.n_int (by decide +kernel) (ga_cons (gv_bin op_mul mul_ok (gv_bin op_addD add_ok (gv_ixS 0 gv_int) (gv_bin op_mul mul_ok gv_int (gv_ixS 0 gv_int))) (gv_bin op_addD add_ok gv_int (gv_ixS 0 gv_int))) ga_nil)) gv_int)) nd)
    (gss_cons (gs_set 3 (go_of (gv_bin op_addD add_ok (gv_bin op_mod mod_ok (gv_callTy call_int1 int1_ok rfl hy.n_int (by decide +kernel) (ga_cons (gv_name 2) ga_nil)) gv_int) gv_int)) nd)
    (gss_cons (gs_set 4 (go_of (gv_bin op_mod mod_ok (gv_callTy call_int1 int1_ok rfl hy.n_int (by decide +kernel) (ga_cons (gv_bin op_mul mul_ok (gv_bin op_addD add_ok (gv_bin op_addD add_ok (gv_name 2) (gv_ixS 0 gv_int)) (gv_bin op_fdiv fdiv_ok (gv_ixS 0 gv_int) gv_int)) (gv_name 3)) ga_nil)) gv_int)) nd)
    (gss_one (gs_ret (go_of (gv_bin op_mod mod_ok (gv_callTy call_int1 int1_ok rfl hy.n_int (by decide +kernel) (ga_cons (gv_bin op_fdiv fdiv_ok (gv_bin op_mod mod_ok (gv_callTy call_int1 int1_ok rfl hy.n_int (by decide +kernel) (ga_cons (gv_bin op_addD add_ok (gv_bin op_mul mul_ok (gv_name 4) gv_int) (gv_name 2)) ga_nil)) gv_int) gv_int) ga_nil)) (gv_name 1))))))))))
/-! _law_cells -/
abbrev s__law_cells : Stmt := top 31
theorem sc__law_cells : FnScope ["script", "many", "cells", "k", "cell", "at"] ["script", "many"] (defScope s__law_cells) := ⟨rfl, rfl, rfl, by decide +kernel, rfl, by decide +kernel, by decide +kernel⟩
noncomputable def b__law_cells : PSt → Os :=
  (fSeq (fSet 2 (fOrT (fAppO dList (fCons (fun ps => ((fSl (fN 0) fNoPart (fSomePart (fN 1))) ps).map PV.data) (fun ps => .ok [] ps))) (fLst (fCons (fK (.int 0)) (fun ps => .ok [] ps)))))
  (fSeq (fFor (fEnum (fCons (fun ps => ((fSl (fN 0) (fSomePart (fN 1)) (fSomePart (fK (.int 63)))) ps).map PV.data) (fun ps => .ok [] ps))) (uTup 2 (uCons (uN 3) (uCons (uN 4) uNil))) (fSeq (fSet 5 (fun ps => ((fBin dMod (fApp dInt (fCons (fN 3) (fun ps => .ok [] ps))) (fLenS 2)) ps).map PV.val))
  (fSetIx 2 (fN 5) (fBin dAdd (fIxS 2 (fN 5)) (fBin dMul (fN 4) (fBin dAdd (fN 3) (fK (.int 2))))))))
  (fRet (fMv 2))))
noncomputable def M__law_cells : List PyData → FR := fun ds => (b__law_cells (startP 6 ds)).fin
theorem bd__law_cells {K : PySem.W.Frag} {f : Addr} {fd : FuncData} (Fn : FunD K "_law_cells" "_law_cells" (defArgs s__law_cells) (defBody s__law_cells) (defScope s__law_cells) [] [] f fd) : Binds K fd ["script", "many"] [] := Fn.bindsN fun _ _ _ _ _ _ us hl => match us, hl with | [_, _], _ => rfl
theorem ok__law_cells {P : Program} {w : World} {K : PySem.W.Frag} {mg : Str → Option Value} {base : Heap} {f : Addr} {fd : FuncData} {C_Unfit : Addr} (Fn : FunD K "_law_cells" "_law_cells" (defArgs s__law_cells) (defBody s__law_cells) (defScope s__law_cells) [] [] f fd) (hy : Hy K mg C_Unfit) (gf : mg "_law_cells" = some (.ref f)) : GFn P w K mg base "_law_cells" 1 2 M__law_cells := by
  refine GFn.of_body (k := 0) (n := 2) (N := ["script", "many", "cells", "k", "cell", "at"]) (ps := ["script", "many"]) Fn gf (bd__law_cells Fn) sc__law_cells rfl (g := b__law_cells) fun cdv A outer s H E hr => ?_
  have nd := sc__law_cells.nd
  exact (gss_cons (gs_set 2 (go_orT (go_callTy call_list_of (list_ok) rfl hy.n_list (by decide +kernel) (ga_cons (gv_of (go_slice (gv_name 0) gp_none (gp_some (gv_name 1)))) ga_nil)) (go_one (go_lst (ga_cons gv_int ga_nil)))) nd)
    (gss_cons (gs_for (passes_of rfl) rfl (gi_enum rfl hy.n_enumerate (ga_cons (gv_of (go_slice (gv_name 0) (gp_some (gv_name 1)) (gp_some gv_int))) ga_nil)) (gg_tup rfl (ggs_cons (gg_name 3 nd) (ggs_cons (gg_name 4 nd) ggs_nil))) (gss_cons (gs_set 5 (go_of (gv_bin op_mod mod_ok (gv_callTy call_int1 int1_ok rfl hy.n_int (by decide +kernel) (ga_cons (gv_name 3) ga_nil)) (gv_lenS 2 rfl hy.n_len))) nd)
    (gss_one (gs_setIx 2 (gv_bin op_addD add_ok (gv_ixS 2 (gv_name 5)) (gv_bin op_mul mul_ok (gv_name 4) (gv_bin op_addD add_ok (gv_name 3) gv_int))) (gv_name 5)))))
    (gss_one (gs_ret (go_move 2)))))
/-! _law_same -/
abbrev s__law_same : Stmt := top 32
theorem sc__law_same : FnScope ["got", "goal", "mine", "own"] ["got", "goal"] (defScope s__law_same) := ⟨rfl, rfl, rfl, by decide +kernel, rfl, by decide +kernel, by decide +kernel⟩
noncomputable def b__law_same (M : List PyData → FR) : PSt → Os :=
  (fSeq (fIfS (fTest (fIsi (isa2 "list" "tuple") (fN 1))) (fSeq (fIfS (fOr (fTest (fBin dNe (fIsi (isaD "list") (fN 0)) (fIsi (isaD "list") (fN 1)))) (fTest (fBin dNe (fIsi (isaD "tuple") (fN 0)) (fIsi (isaD "tuple") (fN 1))))) (fRet (fun ps => ((fK (.bool false)) ps).map PV.val)) fSkip)
  (fRet (fun ps => ((fAndV (fBin dEq (fLenS 0) (fLenS 1)) (fApp dAll (fCons (fun ps => ((fLc (fZip (fCons (fN 0) (fCons (fN 1) (fun ps => .ok [] ps)))) (uTup 2 (uCons (uN 2) (uCons (uN 3) uNil))) cYes (fun ps => ((fCall 2 M (fCons (fN 2) (fCons (fN 3) (fun ps => .ok [] ps)))) ps).map PV.data) [2, 3]) ps).map PV.data) (fun ps => .ok [] ps)))) ps).map PV.val))) fSkip)
  (fSeq (fIfS (fOr (fTest (fBinS dIs 1 (fK .none))) (fTest (fIsi (isa2 "bool" "str") (fN 1)))) (fRet (fun ps => ((fAndV (fBinS dEq 0 (fN 1)) (fAndV (fBin dEq (fIsi (isaD "str") (fN 0)) (fIsi (isaD "str") (fN 1))) (fAndV (fBin dEq (fIsi (isaD "bool") (fN 0)) (fIsi (isaD "bool") (fN 1))) (fBin dEq (fBinS dIs 0 (fK .none)) (fBinS dIs 1 (fK .none)))))) ps).map PV.val)) fSkip)
  (fRet (fun ps => ((fAndV (fIsi (isaD "int") (fN 0)) (fAndV (fNotV (fIsi (isaD "bool") (fN 0))) (fBinS dEq 0 (fN 1)))) ps).map PV.val))))
noncomputable def R__law_same : Nat → List PyData → FR
  | 0 => fun _ => .bad
  | k + 1 => fun ds => (b__law_same (R__law_same k) (startP 4 ds)).fin
noncomputable def M__law_same : List PyData → FR := R__law_same 40
theorem bd__law_same {K : PySem.W.Frag} {f : Addr} {fd : FuncData} (Fn : FunD K "_law_same" "_law_same" (defArgs s__law_same) (defBody s__law_same) (defScope s__law_same) [] [] f fd) : Binds K fd ["got", "goal"] [] := Fn.bindsN fun _ _ _ _ _ _ us hl => match us, hl with | [_, _], _ => rfl
theorem okR__law_same {P : Program} {w : World} {K : PySem.W.Frag} {mg : Str → Option Value} {base : Heap} {f : Addr} {fd : FuncData} {C_Unfit : Addr} (Fn : FunD K "_law_same" "_law_same" (defArgs s__law_same) (defBody s__law_same) (defScope s__law_same) [] [] f fd) (hy : Hy K mg C_Unfit) (gf : mg "_law_same" = some (.ref f)) : ∀ j, GFn P w K mg base "_law_same" (j + 0) 2 (R__law_same j)
  | 0 => GFn.zero (ps := ["got", "goal"]) rfl gf Fn.kp (bd__law_same Fn)
  | j + 1 => by
    have G__law_same := okR__law_same (P := P) (w := w) (base := base) Fn hy gf j
    refine GFn.mono (k := j + 0 + 1) (M := fun ds => (b__law_same (R__law_same j) (startP 4 ds)).fin) ?_ (by omega) fun ds => .inr rfl
    refine GFn.of_body (k := j + 0) (n := 2) (N := ["got", "goal", "mine", "own"]) (ps := ["got", "goal"]) Fn gf (bd__law_same Fn) sc__law_same rfl (g := b__law_same (R__law_same j)) fun cdv A outer s H E hr => ?_
    have nd := sc__law_same.nd
    exact (gss_cons (gs_if (gt_val (gv_isi2 (tn := "list") (tn2 := "tuple") (gv_name 1) rfl hy.n_isinstance rfl hy.n_list (by decide +kernel) rfl hy.n_tuple (by decide +kernel))) (gss_cons (gs_if (gt_w (gw_or (gt_cmp (op_neD hr.units) ne_ok (gv_isi (tn := "list") (gv_name 0) rfl hy.n_isinstance rfl hy.n_list (by decide +kernel)) (gv_isi (tn := "list") (gv_name 1) rfl hy.n_isinstance rfl hy.n_list (by decide +kernel))) (gw_or1 (gt_cmp (op_neD hr.units) ne_ok (gv_isi (tn := "tuple") (gv_name 0) rfl hy.n_isinstance rfl hy.n_tuple (by decide +kernel)) (gv_isi (tn := "tuple") (gv_name 1) rfl hy.n_isinstance rfl hy.n_tuple (by decide +kernel)))))) (gss_one (gs_ret (go_of gv_bl))) gss_nil)
    (gss_one (gs_ret (go_of (gv_and (gv_cmp (op_eqD hr.units) eq_ok (gv_lenS 0 rfl hy.n_len) (gv_lenS 1 rfl hy.n_len)) (gv_one (gv_callB (cr_all rfl) all_ok rfl hy.n_all (by decide +kernel) (ga_cons (gv_of (go_lc [("mine", 2), ("own", 3)] rfl nd (gi_zip rfl hy.n_zip (ga_cons (gv_name 0) (ga_cons (gv_name 1) ga_nil))) (blkOk_by (N := ["got", "goal", "mine", "own"]) (sc := defScope s__law_same) (own := [("mine", 2), ("own", 3)]) (by decide +kernel)) (fun _ _ _ _ _ => (gg_tup rfl (ggs_cons (gg_name 2 nd) (ggs_cons (gg_name 3 nd) ggs_nil)))) (fun _ _ _ _ _ => gts_nil) (fun _ _ _ _ _ => (gv_of (go_call G__law_same hr rfl takes0 (ga_cons (gv_name 2) (ga_cons (gv_name 3) ga_nil))))))) ga_nil)))))))) gss_nil)
    (gss_cons (gs_if (gt_w (gw_or (gt_cmpS 1 op_isD is_ok bool_dIs gv_non) (gw_or1 (gt_val (gv_isi2 (tn := "bool") (tn2 := "str") (gv_name 1) rfl hy.n_isinstance rfl hy.n_bool (by decide +kernel) rfl hy.n_str (by decide +kernel)))))) (gss_one (gs_ret (go_of (gv_and (gv_cmpS 0 (op_eqD hr.units) eq_ok bool_dEq (gv_name 1)) (gv_and (gv_cmp (op_eqD hr.units) eq_ok (gv_isi (tn := "str") (gv_name 0) rfl hy.n_isinstance rfl hy.n_str (by decide +kernel)) (gv_isi (tn := "str") (gv_name 1) rfl hy.n_isinstance rfl hy.n_str (by decide +kernel))) (gv_and (gv_cmp (op_eqD hr.units) eq_ok (gv_isi (tn := "bool") (gv_name 0) rfl hy.n_isinstance rfl hy.n_bool (by decide +kernel)) (gv_isi (tn := "bool") (gv_name 1) rfl hy.n_isinstance rfl hy.n_bool (by decide +kernel))) (gv_one (gv_cmp (op_eqD hr.units) eq_ok (gv_cmpS 0 op_isD is_ok bool_dIs gv_non) (gv_cmpS 1 op_isD is_ok bool_dIs gv_non))))))))) gss_nil)
    (gss_one (gs_ret (go_of (gv_and (gv_isi (tn := "int") (gv_name 0) rfl hy.n_isinstance rfl hy.n_int (by decide +kernel)) (gv_and (gv_not (gv_isi (tn := "bool") (gv_name 0) rfl hy.n_isinstance rfl hy.n_bool (by decide +kernel))) (gv_one (gv_cmpS 0 (op_eqD hr.units) eq_ok bool_dEq (gv_name 1))))))))))
theorem ok__law_same {P : Program} {w : World} {K : PySem.W.Frag} {mg : Str → Option Value} {base : Heap} {f : Addr} {fd : FuncData} {C_Unfit : Addr} (Fn : FunD K "_law_same" "_law_same" (defArgs s__law_same) (defBody s__law_same) (defScope s__law_same) [] [] f fd) (hy : Hy K mg C_Unfit) (gf : mg "_law_same" = some (.ref f)) : GFn P w K mg base "_law_same" 40 2 M__law_same := okR__law_same Fn hy gf 40
/-! _law_piece -/
abbrev s__law_piece : Stmt := top 33
theorem sc__law_piece : FnScope ["urn", "most", "k"] ["urn", "most"] (defScope s__law_piece) := ⟨rfl, rfl, rfl, by decide +kernel, rfl, by decide +kernel, by decide +kernel⟩
noncomputable def b__law_piece : PSt → Os :=
  (fRet (fun ps => ((fApp dTuple (fCons (fun ps => ((fLc (fRange1 (fCons (fun ps => ((fCallU 0 1 M__law_take (fCons (fBin dAdd (fN 1) (fK (.int 1))) (fun ps => .ok [] ps))) ps).map PV.data) (fun ps => .ok [] ps))) (uN 2) cYes (fBin dIx (fTup (fCons (fK (.int 0)) (fCons (fK (.int 1)) (fCons (fK (.int 1)) (fCons (fK (.int 2)) (fun ps => .ok [] ps)))))) (fun ps => ((fCallU 0 1 M__law_take (fCons (fK (.int 4)) (fun ps => .ok [] ps))) ps).map PV.data)) [2]) ps).map PV.data) (fun ps => .ok [] ps))) ps).map PV.val))
noncomputable def M__law_piece : List PyData → List PyData → FRU := fun u ds => (b__law_piece (startU 3 u ds)).finU
theorem bd__law_piece {K : PySem.W.Frag} {f : Addr} {fd : FuncData} (Fn : FunD K "_law_piece" "_law_piece" (defArgs s__law_piece) (defBody s__law_piece) (defScope s__law_piece) [] [] f fd) : Binds K fd ["urn", "most"] [] := Fn.bindsN fun _ _ _ _ _ _ us hl => match us, hl with | [_, _], _ => rfl
theorem ok__law_piece {P : Program} {w : World} {K : PySem.W.Frag} {mg : Str → Option Value} {base : Heap} {f : Addr} {fd : FuncData} {C_Unfit : Addr} (Fn : FunD K "_law_piece" "_law_piece" (defArgs s__law_piece) (defBody s__law_piece) (defScope s__law_piece) [] [] f fd) (hy : Hy K mg C_Unfit) (gf : mg "_law_piece" = some (.ref f)) (G__law_take : GFu P w K mg base "_law_take" 1 1 M__law_take) : GFu P w K mg base "_law_piece" 2 1 M__law_piece := by
  refine GFu.of_body (k := 1) (n := 1) (N := ["urn", "most", "k"]) (ps := ["urn", "most"]) Fn gf (bd__law_piece Fn) sc__law_piece rfl (g := b__law_piece) fun cdv A outer s H E a hr => ?_
  have nd := sc__law_piece.nd
  exact (gss_one (gs_ret (go_of (gv_callTy call_tuple_of (tuple_ok) rfl hy.n_tuple (by decide +kernel) (ga_cons (gv_of (go_lc [("k", 2)] rfl nd (gi_range1 rfl hy.n_range (ga_cons (gv_of (go_callU 0 G__law_take (hr.mono (by decide)) rfl (takes_of rfl rfl rfl rfl) (ga_cons (gv_bin op_addD add_ok (gv_name 1) gv_int) ga_nil))) ga_nil)) (blkOk_by (N := ["urn", "most", "k"]) (sc := defScope s__law_piece) (own := [("k", 2)]) (by decide +kernel)) (fun _ _ _ _ _ => (gg_name 2 nd)) (fun _ _ _ _ _ => gts_nil) (fun _ _ _ _ _ => (gv_ix (gv_tup (ga_cons gv_int (ga_cons gv_int (ga_cons gv_int (ga_cons gv_int ga_nil))))) (gv_of (go_callU 0 G__law_take (hr.mono (by decide)) rfl takes0 (ga_cons gv_int ga_nil))))))) ga_nil)))))
/-! _law_lag -/
abbrev s__law_lag : Stmt := top 34
theorem sc__law_lag : FnScope ["one", "other", "k", "near", "far"] ["one", "other"] (defScope s__law_lag) := ⟨rfl, rfl, rfl, by decide +kernel, rfl, by decide +kernel, by decide +kernel⟩
noncomputable def b__law_lag : PSt → Os :=
  (fSeq (fSet 2 (fun ps => ((fK (.int 0)) ps).map PV.val))
  (fSeq (fFor (fZip (fCons (fN 0) (fCons (fN 1) (fun ps => .ok [] ps)))) (uTup 2 (uCons (uN 3) (uCons (uN 4) uNil))) (fIfS (fAnd (fTest (fBinS dEq 3 (fN 4))) (fTest (fBin dEq (fun ps => ((fSl (fN 0) fNoPart (fSomePart (fBin dAdd (fN 2) (fK (.int 1))))) ps).map PV.data) (fun ps => ((fSl (fN 1) fNoPart (fSomePart (fBin dAdd (fN 2) (fK (.int 1))))) ps).map PV.data)))) (fSet 2 (fun ps => ((fBin dAdd (fN 2) (fK (.int 1))) ps).map PV.val)) fSkip))
  (fRet (fun ps => ((fTup (fCons (fun ps => ((fSl (fN 0) (fSomePart (fN 2)) fNoPart) ps).map PV.data) (fCons (fun ps => ((fSl (fN 1) (fSomePart (fN 2)) fNoPart) ps).map PV.data) (fun ps => .ok [] ps)))) ps).map PV.val))))
noncomputable def M__law_lag : List PyData → FR := fun ds => (b__law_lag (startP 5 ds)).fin
theorem bd__law_lag {K : PySem.W.Frag} {f : Addr} {fd : FuncData} (Fn : FunD K "_law_lag" "_law_lag" (defArgs s__law_lag) (defBody s__law_lag) (defScope s__law_lag) [] [] f fd) : Binds K fd ["one", "other"] [] := Fn.bindsN fun _ _ _ _ _ _ us hl => match us, hl with | [_, _], _ => rfl
theorem ok__law_lag {P : Program} {w : World} {K : PySem.W.Frag} {mg : Str → Option Value} {base : Heap} {f : Addr} {fd : FuncData} {C_Unfit : Addr} (Fn : FunD K "_law_lag" "_law_lag" (defArgs s__law_lag) (defBody s__law_lag) (defScope s__law_lag) [] [] f fd) (hy : Hy K mg C_Unfit) (gf : mg "_law_lag" = some (.ref f)) : GFn P w K mg base "_law_lag" 1 2 M__law_lag := by
  refine GFn.of_body (k := 0) (n := 2) (N := ["one", "other", "k", "near", "far"]) (ps := ["one", "other"]) Fn gf (bd__law_lag Fn) sc__law_lag rfl (g := b__law_lag) fun cdv A outer s H E hr => ?_
  have nd := sc__law_lag.nd
  exact (gss_cons (gs_set 2 (go_of gv_int) nd)
    (gss_cons (gs_for (passes_of rfl) rfl (gi_zip rfl hy.n_zip (ga_cons (gv_name 0) (ga_cons (gv_name 1) ga_nil))) (gg_tup rfl (ggs_cons (gg_name 3 nd) (ggs_cons (gg_name 4 nd) ggs_nil))) (gss_one (gs_if (gt_w (gw_and (gt_cmpS 3 (op_eqD hr.units) eq_ok bool_dEq (gv_name 4)) (gw_and1 (gt_cmp (op_eqD hr.units) eq_ok (gv_of (go_slice (gv_name 0) gp_none (gp_some (gv_bin op_addD add_ok (gv_name 2) gv_int)))) (gv_of (go_slice (gv_name 1) gp_none (gp_some (gv_bin op_addD add_ok (gv_name 2) gv_int)))))))) (gss_one (gs_set 2 (go_of (gv_bin op_addD add_ok (gv_name 2) gv_int)) nd)) gss_nil)))
    (gss_one (gs_ret (go_of (gv_tup (ga_cons (gv_of (go_slice (gv_name 0) (gp_some (gv_name 2)) gp_none)) (ga_cons (gv_of (go_slice (gv_name 1) (gp_some (gv_name 2)) gp_none)) ga_nil))))))))
/-! _law_heard -/
abbrev s__law_heard : Stmt := top 35
theorem sc__law_heard : FnScope ["one", "other"] ["one", "other"] (defScope s__law_heard) := ⟨rfl, rfl, rfl, by decide +kernel, rfl, by decide +kernel, by decide +kernel⟩
noncomputable def b__law_heard : PSt → Os :=
  (fTry [] "Unfit" (fRet (fCall 2 M_lag_through (fCons (fN 0) (fCons (fN 1) (fun ps => .ok [] ps))))) (fRet (fun ps => ((fK (.str "unfit")) ps).map PV.val)))
noncomputable def M__law_heard : List PyData → FR := fun ds => (b__law_heard (startP 2 ds)).fin
theorem bd__law_heard {K : PySem.W.Frag} {f : Addr} {fd : FuncData} (Fn : FunD K "_law_heard" "_law_heard" (defArgs s__law_heard) (defBody s__law_heard) (defScope s__law_heard) [] [] f fd) : Binds K fd ["one", "other"] [] := Fn.bindsN fun _ _ _ _ _ _ us hl => match us, hl with | [_, _], _ => rfl
theorem ok__law_heard {P : Program} {w : World} {K : PySem.W.Frag} {mg : Str → Option Value} {base : Heap} {f : Addr} {fd : FuncData} {C_Unfit : Addr} (Fn : FunD K "_law_heard" "_law_heard" (defArgs s__law_heard) (defBody s__law_heard) (defScope s__law_heard) [] [] f fd) (hy : Hy K mg C_Unfit) (gf : mg "_law_heard" = some (.ref f)) (G_lag_through : GFn P w K mg base "lag_through" 42 2 M_lag_through) : GFn P w K mg base "_law_heard" 43 2 M__law_heard := by
  refine GFn.of_body (k := 42) (n := 2) (N := ["one", "other"]) (ps := ["one", "other"]) Fn gf (bd__law_heard Fn) sc__law_heard rfl (g := b__law_heard) fun cdv A outer s H E hr => ?_
  have nd := sc__law_heard.nd
  exact (gss_one (gs_try (L := []) rfl rfl rfl hy.e_Unfit.g (takes_of rfl rfl rfl rfl) hy.e_Unfit.m (fun _ h => by cases h) (fun W pn xe tk hp => (gss_one (gs_ret (go_call G_lag_through (hr.mono (by decide)) rfl tk (ga_cons (gv_name 0) (ga_cons (gv_name 1) ga_nil)))))) (fun a oe pn => (gss_one (gs_ret (go_of gv_str))))))
/-! law -/
abbrev s_law : Stmt := top 36
theorem sc_law : FnScope ["script", "urn", "lag", "got", "due", "head", "near", "rows", "straight", "total", "lap", "one", "two", "three", "four", "a", "b", "c", "d", "now", "longest", "far", "size", "good"] ["script"] (defScope s_law) := ⟨rfl, rfl, rfl, by decide +kernel, rfl, by decide +kernel, by decide +kernel⟩
noncomputable def b_law : PSt → Os :=
  (fSeq (fSet 1 (fCall 2 M__law_box (fCons (fun ps => ((fCall 2 M__law_cells (fCons (fN 0) (fCons (fK (.int 1)) (fun ps => .ok [] ps)))) ps).map PV.data) (fCons (fK (.int 0)) (fun ps => .ok [] ps)))))
  (fSeq (fAsg (uTup 4 (uCons (uN 11) (uCons (uN 12) (uCons (uN 13) (uCons (uN 14) uNil))))) (fun ps => ((fLc (fRange1 (fCons (fK (.int 4)) (fun ps => .ok [] ps))) (uN 10) cYes (fun ps => ((fCallU 1 1 M__law_piece (fCons (fK (.int 5)) (fun ps => .ok [] ps))) ps).map PV.data) [10]) ps).map PV.data))
  (fSeq (fIfS (fTest (fBin dEq (fun ps => ((fCallU 1 1 M__law_take (fCons (fK (.int 2)) (fun ps => .ok [] ps))) ps).map PV.data) (fK (.int 0)))) (fSet 12 (fun ps => ((fBin dAdd (fN 11) (fN 12)) ps).map PV.val)) fSkip)
  (fSeq (fIfS (fTest (fBin dEq (fun ps => ((fCallU 1 1 M__law_take (fCons (fK (.int 2)) (fun ps => .ok [] ps))) ps).map PV.data) (fK (.int 0)))) (fSet 13 (fun ps => ((fBin dAdd (fun ps => ((fSl (fN 11) fNoPart (fSomePart (fK (.int 2)))) ps).map PV.data) (fN 13)) ps).map PV.val)) fSkip)
  (fSeq (fAsg (uTup 4 (uCons (uN 15) (uCons (uN 16) (uCons (uN 17) (uCons (uN 18) uNil))))) (fun ps => ((fLc (fRange1 (fCons (fK (.int 4)) (fun ps => .ok [] ps))) (uN 10) cYes (fun ps => ((fCallU 1 1 M__law_piece (fCons (fK (.int 3)) (fun ps => .ok [] ps))) ps).map PV.data) [10]) ps).map PV.data))
  (fSeq (fIfS (fTest (fBin dEq (fun ps => ((fCallU 1 1 M__law_take (fCons (fK (.int 3)) (fun ps => .ok [] ps))) ps).map PV.data) (fK (.int 0)))) (fSet 15 (fun ps => ((fN 16) ps).map PV.val)) fSkip)
  (fSeq (fSet 2 (fCall 2 M_lag_of (fCons (fN 11) (fCons (fN 12) (fun ps => .ok [] ps)))))
  (fSeq (fSet 3 (fLst (fCons (fN 2) (fCons (fun ps => ((fCall 1 M_is_lag (fCons (fN 2) (fun ps => .ok [] ps))) ps).map PV.data) (fCons (fun ps => ((fCall 2 M_lag_of (fCons (fun ps => ((fAppO dList (fCons (fN 12) (fun ps => .ok [] ps))) ps).map PV.data) (fCons (fun ps => ((fAppO dList (fCons (fN 11) (fun ps => .ok [] ps))) ps).map PV.data) (fun ps => .ok [] ps)))) ps).map PV.data) (fCons (fun ps => ((fCall 1 M_lag_turned (fCons (fN 2) (fun ps => .ok [] ps))) ps).map PV.data) (fCons (fun ps => ((fCall 1 M_lag_length (fCons (fN 2) (fun ps => .ok [] ps))) ps).map PV.data) (fCons (fun ps => ((fCall 2 M_lag_of (fCons (fBin dAdd (fN 17) (fN 11)) (fCons (fBin dAdd (fN 17) (fN 12)) (fun ps => .ok [] ps)))) ps).map PV.data) (fCons (fun ps => ((fCall 1 M_front (fCons (fTup (fCons (fN 11) (fCons (fN 12) (fCons (fN 11) (fun ps => .ok [] ps))))) (fun ps => .ok [] ps))) ps).map PV.data) (fun ps => .ok [] ps))))))))))
  (fSeq (fSet 4 (fCall 2 M__law_lag (fCons (fN 11) (fCons (fN 12) (fun ps => .ok [] ps)))))
  (fSeq (fSet 5 (fSl (fN 11) fNoPart (fSomePart (fBin dSub (fLenS 11) (fApp dLen (fCons (fIxS 4 (fK (.int 0))) (fun ps => .ok [] ps)))))))
  (fSeq (fIfS (fNot (fTest (fun ps => ((fCall 2 M__law_same (fCons (fN 3) (fCons (fun ps => ((fLst (fCons (fN 4) (fCons (fK (.bool true)) (fCons (fTup (fCons (fIxS 4 (fK (.int 1))) (fCons (fIxS 4 (fK (.int 0))) (fun ps => .ok [] ps)))) (fCons (fTup (fCons (fIxS 4 (fK (.int 1))) (fCons (fIxS 4 (fK (.int 0))) (fun ps => .ok [] ps)))) (fCons (fBin dAdd (fApp dLen (fCons (fIxS 4 (fK (.int 0))) (fun ps => .ok [] ps))) (fApp dLen (fCons (fIxS 4 (fK (.int 1))) (fun ps => .ok [] ps)))) (fCons (fN 4) (fCons (fN 5) (fun ps => .ok [] ps))))))))) ps).map PV.data) (fun ps => .ok [] ps)))) ps).map PV.data))) (fRet (fun ps => ((fK (.bool false)) ps).map PV.val)) fSkip)
  (fSeq (fSet 6 (fCall 3 M_lag_behind (fCons (fN 2) (fCons (fN 15) (fCons (fN 16) (fun ps => .ok [] ps))))))
  (fSeq (fSet 3 (fLst (fCons (fN 6) (fCons (fun ps => ((fCall 3 M_lag_behind (fCons (fN 6) (fCons (fN 17) (fCons (fN 18) (fun ps => .ok [] ps))))) ps).map PV.data) (fCons (fun ps => ((fCall 3 M_lag_behind (fCons (fun ps => ((fCall 1 M_lag_turned (fCons (fN 2) (fun ps => .ok [] ps))) ps).map PV.data) (fCons (fN 16) (fCons (fN 15) (fun ps => .ok [] ps))))) ps).map PV.data) (fCons (fun ps => ((fCall 3 M_is_kept (fCons (fN 2) (fCons (fN 15) (fCons (fN 16) (fun ps => .ok [] ps))))) ps).map PV.data) (fCons (fun ps => ((fCall 3 M_lag_behind (fCons (fN 2) (fCons (fBin dAdd (fN 15) (fN 17)) (fCons (fBin dAdd (fN 16) (fN 18)) (fun ps => .ok [] ps))))) ps).map PV.data) (fun ps => .ok [] ps))))))))
  (fSeq (fSet 4 (fLst (fCons (fun ps => ((fCall 2 M__law_lag (fCons (fBin dAdd (fN 11) (fN 15)) (fCons (fBin dAdd (fN 12) (fN 16)) (fun ps => .ok [] ps)))) ps).map PV.data) (fCons (fun ps => ((fCall 2 M__law_lag (fCons (fBin dAdd (fBin dAdd (fN 11) (fN 15)) (fN 17)) (fCons (fBin dAdd (fBin dAdd (fN 12) (fN 16)) (fN 18)) (fun ps => .ok [] ps)))) ps).map PV.data) (fCons (fun ps => ((fCall 2 M__law_lag (fCons (fBin dAdd (fN 12) (fN 16)) (fCons (fBin dAdd (fN 11) (fN 15)) (fun ps => .ok [] ps)))) ps).map PV.data) (fCons (fBin dEq (fun ps => ((fCall 2 M__law_lag (fCons (fBin dAdd (fN 11) (fN 15)) (fCons (fBin dAdd (fN 12) (fN 16)) (fun ps => .ok [] ps)))) ps).map PV.data) (fN 2)) (fCons (fun ps => ((fCall 2 M__law_lag (fCons (fBin dAdd (fBin dAdd (fN 11) (fN 15)) (fN 17)) (fCons (fBin dAdd (fBin dAdd (fN 12) (fN 16)) (fN 18)) (fun ps => .ok [] ps)))) ps).map PV.data) (fun ps => .ok [] ps))))))))
  (fSeq (fIfS (fNot (fTest (fun ps => ((fCall 2 M__law_same (fCons (fN 3) (fCons (fN 4) (fun ps => .ok [] ps)))) ps).map PV.data))) (fRet (fun ps => ((fK (.bool false)) ps).map PV.val)) fSkip)
  (fSeq (fSet 7 (fLst (fCons (fun ps => ((fCall 2 M_lag_of (fCons (fN 11) (fCons (fN 12) (fun ps => .ok [] ps)))) ps).map PV.data) (fCons (fun ps => ((fCall 2 M_lag_of (fCons (fN 12) (fCons (fN 13) (fun ps => .ok [] ps)))) ps).map PV.data) (fCons (fun ps => ((fCall 2 M_lag_of (fCons (fN 13) (fCons (fN 14) (fun ps => .ok [] ps)))) ps).map PV.data) (fun ps => .ok [] ps))))))
  (fSeq (fSet 8 (fCall 2 M_lag_of (fCons (fN 11) (fCons (fN 14) (fun ps => .ok [] ps)))))
  (fSeq (fSet 3 (fLst (fCons (fun ps => ((fCall 2 M__law_heard (fCons (fIxS 7 (fK (.int 0))) (fCons (fIxS 7 (fK (.int 1))) (fun ps => .ok [] ps)))) ps).map PV.data) (fCons (fun ps => ((fCall 2 M__law_heard (fCons (fun ps => ((fCall 2 M__law_heard (fCons (fIxS 7 (fK (.int 0))) (fCons (fIxS 7 (fK (.int 1))) (fun ps => .ok [] ps)))) ps).map PV.data) (fCons (fIxS 7 (fK (.int 2))) (fun ps => .ok [] ps)))) ps).map PV.data) (fCons (fun ps => ((fCall 2 M__law_heard (fCons (fIxS 7 (fK (.int 0))) (fCons (fun ps => ((fCall 2 M__law_heard (fCons (fIxS 7 (fK (.int 1))) (fCons (fIxS 7 (fK (.int 2))) (fun ps => .ok [] ps)))) ps).map PV.data) (fun ps => .ok [] ps)))) ps).map PV.data) (fCons (fun ps => ((fCall 2 M__law_heard (fCons (fun ps => ((fCall 1 M_lag_turned (fCons (fIxS 7 (fK (.int 1))) (fun ps => .ok [] ps))) ps).map PV.data) (fCons (fun ps => ((fCall 1 M_lag_turned (fCons (fIxS 7 (fK (.int 0))) (fun ps => .ok [] ps))) ps).map PV.data) (fun ps => .ok [] ps)))) ps).map PV.data) (fCons (fun ps => ((fCall 2 M__law_heard (fCons (fIxS 7 (fK (.int 0))) (fCons (fun ps => ((fCall 1 M_lag_turned (fCons (fIxS 7 (fK (.int 0))) (fun ps => .ok [] ps))) ps).map PV.data) (fun ps => .ok [] ps)))) ps).map PV.data) (fun ps => .ok [] ps))))))))
  (fSeq (fIfS (fNot (fTest (fun ps => ((fCall 2 M__law_same (fCons (fN 3) (fCons (fun ps => ((fLst (fCons (fun ps => ((fCall 2 M__law_lag (fCons (fN 11) (fCons (fN 13) (fun ps => .ok [] ps)))) ps).map PV.data) (fCons (fN 8) (fCons (fN 8) (fCons (fun ps => ((fCall 2 M__law_lag (fCons (fN 13) (fCons (fN 11) (fun ps => .ok [] ps)))) ps).map PV.data) (fCons (fTup (fCons (fTup (fun ps => .ok [] ps)) (fCons (fTup (fun ps => .ok [] ps)) (fun ps => .ok [] ps)))) (fun ps => .ok [] ps))))))) ps).map PV.data) (fun ps => .ok [] ps)))) ps).map PV.data))) (fRet (fun ps => ((fK (.bool false)) ps).map PV.val)) fSkip)
  (fSeq (fSet 9 (fun ps => ((fBin dAdd (fun ps => ((fCall 1 M_lag_length (fCons (fIxS 7 (fK (.int 0))) (fun ps => .ok [] ps))) ps).map PV.data) (fun ps => ((fCall 1 M_lag_length (fCons (fIxS 7 (fK (.int 1))) (fun ps => .ok [] ps))) ps).map PV.data)) ps).map PV.val))
  (fSeq (fIfS (fOr (fTest (fBin dGt (fun ps => ((fCall 1 M_lag_length (fCons (fun ps => ((fCall 2 M_lag_of (fCons (fN 11) (fCons (fN 13) (fun ps => .ok [] ps)))) ps).map PV.data) (fun ps => .ok [] ps))) ps).map PV.data) (fN 9))) (fOr (fTest (fBin dIsNot (fun ps => ((fCall 3 M_are_near (fCons (fN 11) (fCons (fN 13) (fCons (fN 9) (fun ps => .ok [] ps))))) ps).map PV.data) (fK (.bool true)))) (fOr (fTest (fBin dIsNot (fun ps => ((fCall 3 M_are_near (fCons (fN 11) (fCons (fN 12) (fCons (fun ps => ((fCall 1 M_lag_length (fCons (fN 2) (fun ps => .ok [] ps))) ps).map PV.data) (fun ps => .ok [] ps))))) ps).map PV.data) (fK (.bool true)))) (fAnd (fTest (fBin dGt (fun ps => ((fCall 1 M_lag_length (fCons (fN 2) (fun ps => .ok [] ps))) ps).map PV.data) (fK (.int 0)))) (fTest (fBin dIsNot (fun ps => ((fCall 3 M_are_near (fCons (fN 11) (fCons (fN 12) (fCons (fBin dSub (fun ps => ((fCall 1 M_lag_length (fCons (fN 2) (fun ps => .ok [] ps))) ps).map PV.data) (fK (.int 1))) (fun ps => .ok [] ps))))) ps).map PV.data) (fK (.bool false)))))))) (fRet (fun ps => ((fK (.bool false)) ps).map PV.val)) fSkip)
  (fSeq (fPar 19 20 (fun ps => ((fN 2) ps).map PV.val) (fun ps => ((fK (.int 0)) ps).map PV.val))
  (fSeq (fFor (fRange1 (fCons (fK (.int 30)) (fun ps => .ok [] ps))) (uN 10) (fSeq (fSet 19 (fCall 3 M_lag_behind (fCons (fN 19) (fCons (fN 15) (fCons (fN 16) (fun ps => .ok [] ps))))))
  (fSeq (fSet 20 (fCall 1 M_lag_length (fCons (fN 19) (fun ps => .ok [] ps))))
  (fIfS (fAnd (fTest (fun ps => ((fCall 3 M_is_kept (fCons (fN 2) (fCons (fN 15) (fCons (fN 16) (fun ps => .ok [] ps))))) ps).map PV.data)) (fTest (fBinS dNe 19 (fN 2)))) (fRet (fun ps => ((fK (.bool false)) ps).map PV.val)) fSkip))))
  (fSeq (fIfS (fAnd (fNot (fTest (fun ps => ((fCall 3 M_is_kept (fCons (fN 2) (fCons (fN 15) (fCons (fN 16) (fun ps => .ok [] ps))))) ps).map PV.data))) (fAnd (fTest (fBinS dLe 20 (fK (.int 7)))) (fTest (fBin dLe (fun ps => ((fCall 1 M_lag_length (fCons (fun ps => ((fCall 3 M_lag_behind (fCons (fN 19) (fCons (fN 15) (fCons (fN 16) (fun ps => .ok [] ps))))) ps).map PV.data) (fun ps => .ok [] ps))) ps).map PV.data) (fK (.int 7)))))) (fRet (fun ps => ((fK (.bool false)) ps).map PV.val)) fSkip)
  (fSeq (fFor (fSeqI (fTup (fCons (fTup (fCons (fTup (fCons (fTup (fun ps => .ok [] ps)) (fCons (fN 11) (fun ps => .ok [] ps)))) (fCons (fTup (fCons (fN 12) (fCons (fTup (fun ps => .ok [] ps)) (fun ps => .ok [] ps)))) (fun ps => .ok [] ps)))) (fCons (fTup (fCons (fTup (fCons (fTup (fun ps => .ok [] ps)) (fCons (fN 11) (fun ps => .ok [] ps)))) (fCons (fTup (fCons (fN 11) (fCons (fTup (fun ps => .ok [] ps)) (fun ps => .ok [] ps)))) (fun ps => .ok [] ps)))) (fCons (fTup (fCons (fTup (fCons (fTup (fun ps => .ok [] ps)) (fCons (fBin dAdd (fN 17) (fN 11)) (fun ps => .ok [] ps)))) (fCons (fTup (fCons (fN 11) (fCons (fTup (fun ps => .ok [] ps)) (fun ps => .ok [] ps)))) (fun ps => .ok [] ps)))) (fun ps => .ok [] ps)))))) (uTup 2 (uCons (uN 6) (uCons (uN 21) uNil))) (fIfS (fOr (fAnd (fTest (fBin dNe (fIxS 6 (fK (.int 1))) (fTup (fun ps => .ok [] ps)))) (fTest (fBin dNe (fIxS 21 (fK (.int 0))) (fTup (fun ps => .ok [] ps))))) (fTest (fBinS dEq 6 (fN 21)))) (fSeq (fSet 22 (fun ps => ((fApp dMin2 (fCons (fApp dLen (fCons (fIxS 6 (fK (.int 1))) (fun ps => .ok [] ps))) (fCons (fApp dLen (fCons (fIxS 21 (fK (.int 0))) (fun ps => .ok [] ps))) (fun ps => .ok [] ps)))) ps).map PV.val))
  (fSeq (fSet 23 (fun ps => ((fBin dEq (fun ps => ((fSl (fIxS 6 (fK (.int 1))) (fSomePart (fBin dSub (fApp dLen (fCons (fIxS 6 (fK (.int 1))) (fun ps => .ok [] ps))) (fN 22))) fNoPart) ps).map PV.data) (fun ps => ((fSl (fIxS 21 (fK (.int 0))) (fSomePart (fBin dSub (fApp dLen (fCons (fIxS 21 (fK (.int 0))) (fun ps => .ok [] ps))) (fN 22))) fNoPart) ps).map PV.data)) ps).map PV.val))
  (fIfS (fTest (fBin dEq (fBin dEq (fun ps => ((fCall 2 M__law_heard (fCons (fN 6) (fCons (fN 21) (fun ps => .ok [] ps)))) ps).map PV.data) (fK (.str "unfit"))) (fN 23))) (fRet (fun ps => ((fK (.bool false)) ps).map PV.val)) fSkip))) fSkip))
  (fRet (fun ps => ((fK (.bool true)) ps).map PV.val)))))))))))))))))))))))))))
noncomputable def M_law : List PyData → FR := fun ds => (b_law (startP 24 ds)).fin
theorem bd_law {K : PySem.W.Frag} {f : Addr} {fd : FuncData} (Fn : FunD K "law" "law" (defArgs s_law) (defBody s_law) (defScope s_law) [] [] f fd) : Binds K fd ["script"] [] := Fn.bindsN fun _ _ _ _ _ _ us hl => match us, hl with | [_], _ => rfl
theorem ok_law {P : Program} {w : World} {K : PySem.W.Frag} {mg : Str → Option Value} {base : Heap} {f : Addr} {fd : FuncData} {C_Unfit : Addr} (Fn : FunD K "law" "law" (defArgs s_law) (defBody s_law) (defScope s_law) [] [] f fd) (hy : Hy K mg C_Unfit) (gf : mg "law" = some (.ref f)) (G_is_lag : GFn P w K mg base "is_lag" 4 1 M_is_lag) (G_front : GFn P w K mg base "front" 41 1 M_front) (G_lag_of : GFn P w K mg base "lag_of" 42 2 M_lag_of) (G_lag_length : GFn P w K mg base "lag_length" 42 1 M_lag_length) (G_lag_turned : GFn P w K mg base "lag_turned" 42 1 M_lag_turned) (G_lag_behind : GFn P w K mg base "lag_behind" 42 3 M_lag_behind) (G_is_kept : GFn P w K mg base "is_kept" 43 3 M_is_kept) (G_are_near : GFn P w K mg base "are_near" 42 3 M_are_near) (G__law_box : GFn P w K mg base "_law_box" 1 2 M__law_box) (G__law_take : GFu P w K mg base "_law_take" 1 1 M__law_take) (G__law_cells : GFn P w K mg base "_law_cells" 1 2 M__law_cells) (G__law_same : GFn P w K mg base "_law_same" 40 2 M__law_same) (G__law_piece : GFu P w K mg base "_law_piece" 2 1 M__law_piece) (G__law_lag : GFn P w K mg base "_law_lag" 1 2 M__law_lag) (G__law_heard : GFn P w K mg base "_law_heard" 43 2 M__law_heard) : FnOk P w K mg base (L2.CX P w) 44 f fd ["script"] (spP K mg 1 M_law) := by
  refine fn_body (k := 43) (n := 1) (N := ["script", "urn", "lag", "got", "due", "head", "near", "rows", "straight", "total", "lap", "one", "two", "three", "four", "a", "b", "c", "d", "now", "longest", "far", "size", "good"]) (ps := ["script"]) Fn sc_law rfl (g := b_law) fun cdv A outer s H E hr => ?_
  have nd := sc_law.nd
  exact (gss_cons (gs_set 1 (go_call G__law_box (hr.mono (by decide)) rfl (takes_of rfl rfl rfl rfl) (ga_cons (gv_of (go_call G__law_cells (hr.mono (by decide)) rfl (takes_of rfl rfl rfl rfl) (ga_cons (gv_name 0) (ga_cons gv_int ga_nil)))) (ga_cons gv_int ga_nil))) nd)
    (gss_cons (gs_asg (gv_of (go_lc [("lap", 10)] rfl nd (gi_range1 rfl hy.n_range (ga_cons gv_int ga_nil)) (blkOk_by (N := ["script", "urn", "lag", "got", "due", "head", "near", "rows", "straight", "total", "lap", "one", "two", "three", "four", "a", "b", "c", "d", "now", "longest", "far", "size", "good"]) (sc := defScope s_law) (own := [("lap", 10)]) (by decide +kernel)) (fun _ _ _ _ _ => (gg_name 10 nd)) (fun _ _ _ _ _ => gts_nil) (fun _ _ _ _ _ => (gv_of (go_callU 1 G__law_piece (hr.mono (by decide)) rfl takes0 (ga_cons gv_int ga_nil)))))) (gg_tup rfl (ggs_cons (gg_name 11 nd) (ggs_cons (gg_name 12 nd) (ggs_cons (gg_name 13 nd) (ggs_cons (gg_name 14 nd) ggs_nil))))))
    (gss_cons (gs_if (gt_cmp (op_eqD hr.units) eq_ok (gv_of (go_callU 1 G__law_take (hr.mono (by decide)) rfl (takes_of rfl rfl rfl rfl) (ga_cons gv_int ga_nil))) gv_int) (gss_one (gs_set 12 (go_of (gv_bin op_addD add_ok (gv_name 11) (gv_name 12))) nd)) gss_nil)
    (gss_cons (gs_if (gt_cmp (op_eqD hr.units) eq_ok (gv_of (go_callU 1 G__law_take (hr.mono (by decide)) rfl (takes_of rfl rfl rfl rfl) (ga_cons gv_int ga_nil))) gv_int) (gss_one (gs_set 13 (go_of (gv_bin op_addD add_ok (gv_of (go_slice (gv_name 11) gp_none (gp_some gv_int))) (gv_name 13))) nd)) gss_nil)
    (gss_cons (gs_asg (gv_of (go_lc [("lap", 10)] rfl nd (gi_range1 rfl hy.n_range (ga_cons gv_int ga_nil)) (blkOk_by (N := ["script", "urn", "lag", "got", "due", "head", "near", "rows", "straight", "total", "lap", "one", "two", "three", "four", "a", "b", "c", "d", "now", "longest", "far", "size", "good"]) (sc := defScope s_law) (own := [("lap", 10)]) (by decide +kernel)) (fun _ _ _ _ _ => (gg_name 10 nd)) (fun _ _ _ _ _ => gts_nil) (fun _ _ _ _ _ => (gv_of (go_callU 1 G__law_piece (hr.mono (by decide)) rfl takes0 (ga_cons gv_int ga_nil)))))) (gg_tup rfl (ggs_cons (gg_name 15 nd) (ggs_cons (gg_name 16 nd) (ggs_cons (gg_name 17 nd) (ggs_cons (gg_name 18 nd) ggs_nil))))))
    (gss_cons (gs_if (gt_cmp (op_eqD hr.units) eq_ok (gv_of (go_callU 1 G__law_take (hr.mono (by decide)) rfl (takes_of rfl rfl rfl rfl) (ga_cons gv_int ga_nil))) gv_int) (gss_one (gs_set 15 (go_of (gv_name 16)) nd)) gss_nil)
    (gss_cons (gs_set 2 (go_call G_lag_of (hr.mono (by decide)) rfl (takes_of rfl rfl rfl rfl) (ga_cons (gv_name 11) (ga_cons (gv_name 12) ga_nil))) nd)
    (gss_cons (gs_set 3 (go_lst (ga_cons (gv_name 2) (ga_cons (gv_of (go_call G_is_lag (hr.mono (by decide)) rfl (takes_of rfl rfl rfl rfl) (ga_cons (gv_name 2) ga_nil))) (ga_cons (gv_of (go_call G_lag_of (hr.mono (by decide)) rfl (takes_of rfl rfl rfl rfl) (ga_cons (gv_of (go_callTy call_list_of (list_ok) rfl hy.n_list (by decide +kernel) (ga_cons (gv_name 12) ga_nil))) (ga_cons (gv_of (go_callTy call_list_of (list_ok) rfl hy.n_list (by decide +kernel) (ga_cons (gv_name 11) ga_nil))) ga_nil)))) (ga_cons (gv_of (go_call G_lag_turned (hr.mono (by decide)) rfl (takes_of rfl rfl rfl rfl) (ga_cons (gv_name 2) ga_nil))) (ga_cons (gv_of (go_call G_lag_length (hr.mono (by decide)) rfl (takes_of rfl rfl rfl rfl) (ga_cons (gv_name 2) ga_nil))) (ga_cons (gv_of (go_call G_lag_of (hr.mono (by decide)) rfl (takes_of rfl rfl rfl rfl) (ga_cons (gv_bin op_addD add_ok (gv_name 17) (gv_name 11)) (ga_cons (gv_bin op_addD add_ok (gv_name 17) (gv_name 12)) ga_nil)))) (ga_cons (gv_of (go_call G_front (hr.mono (by decide)) rfl (takes_of rfl rfl rfl rfl) (ga_cons (gv_tup (ga_cons (gv_name 11) (ga_cons (gv_name 12) (ga_cons (gv_name 11) ga_nil)))) ga_nil))) ga_nil)))))))) nd)
    (gss_cons (gs_set 4 (go_call G__law_lag (hr.mono (by decide)) rfl (takes_of rfl rfl rfl rfl) (ga_cons (gv_name 11) (ga_cons (gv_name 12) ga_nil))) nd)
    (gss_cons (gs_set 5 (go_slice (gv_name 11) gp_none (gp_some (gv_bin op_sub sub_ok (gv_lenS 11 rfl hy.n_len) (gv_callB call_len_seq (len_ok) rfl hy.n_len (by decide +kernel) (ga_cons (gv_ixS 4 gv_int) ga_nil))))) nd)
    (gss_cons (gs_if (gt_not (gt_val (gv_of (go_call G__law_same (hr.mono (by decide)) rfl (takes_of rfl rfl rfl rfl) (ga_cons (gv_name 3) (ga_cons (gv_of (go_lst (ga_cons (gv_name 4) (ga_cons gv_bl (ga_cons (gv_tup (ga_cons (gv_ixS 4 gv_int) (ga_cons (gv_ixS 4 gv_int) ga_nil))) (ga_cons (gv_tup (ga_cons (gv_ixS 4 gv_int) (ga_cons (gv_ixS 4 gv_int) ga_nil))) (ga_cons (gv_bin op_addD add_ok (gv_callB call_len_seq (len_ok) rfl hy.n_len (by decide +kernel) (ga_cons (gv_ixS 4 gv_int) ga_nil)) (gv_callB call_len_seq (len_ok) rfl hy.n_len (by decide +kernel) (ga_cons (gv_ixS 4 gv_int) ga_nil))) (ga_cons (gv_name 4) (ga_cons (gv_name 5) ga_nil))))))))) ga_nil)))))) (gss_one (gs_ret (go_of gv_bl))) gss_nil)
    (gss_cons (gs_set 6 (go_call G_lag_behind (hr.mono (by decide)) rfl (takes_of rfl rfl rfl rfl) (ga_cons (gv_name 2) (ga_cons (gv_name 15) (ga_cons (gv_name 16) ga_nil)))) nd)
    (gss_cons (gs_set 3 (go_lst (ga_cons (gv_name 6) (ga_cons (gv_of (go_call G_lag_behind (hr.mono (by decide)) rfl (takes_of rfl rfl rfl rfl) (ga_cons (gv_name 6) (ga_cons (gv_name 17) (ga_cons (gv_name 18) ga_nil))))) (ga_cons (gv_of (go_call G_lag_behind (hr.mono (by decide)) rfl (takes_of rfl rfl rfl rfl) (ga_cons (gv_of (go_call G_lag_turned (hr.mono (by decide)) rfl (takes_of rfl rfl rfl rfl) (ga_cons (gv_name 2) ga_nil))) (ga_cons (gv_name 16) (ga_cons (gv_name 15) ga_nil))))) (ga_cons (gv_of (go_call G_is_kept (hr.mono (by decide)) rfl (takes_of rfl rfl rfl rfl) (ga_cons (gv_name 2) (ga_cons (gv_name 15) (ga_cons (gv_name 16) ga_nil))))) (ga_cons (gv_of (go_call G_lag_behind (hr.mono (by decide)) rfl (takes_of rfl rfl rfl rfl) (ga_cons (gv_name 2) (ga_cons (gv_bin op_addD add_ok (gv_name 15) (gv_name 17)) (ga_cons (gv_bin op_addD add_ok (gv_name 16) (gv_name 18)) ga_nil))))) ga_nil)))))) nd)
    (gss_cons (gs_set 4 (go_lst (ga_cons (gv_of (go_call G__law_lag (hr.mono (by decide)) rfl (takes_of rfl rfl rfl rfl) (ga_cons (gv_bin op_addD add_ok (gv_name 11) (gv_name 15)) (ga_cons (gv_bin op_addD add_ok (gv_name 12) (gv_name 16)) ga_nil)))) (ga_cons (gv_of (go_call G__law_lag (hr.mono (by decide)) rfl (takes_of rfl rfl rfl rfl) (ga_cons (gv_bin op_addD add_ok (gv_bin op_addD add_ok (gv_name 11) (gv_name 15)) (gv_name 17)) (ga_cons (gv_bin op_addD add_ok (gv_bin op_addD add_ok (gv_name 12) (gv_name 16)) (gv_name 18)) ga_nil)))) (ga_cons (gv_of (go_call G__law_lag (hr.mono (by decide)) rfl (takes_of rfl rfl rfl rfl) (ga_cons (gv_bin op_addD add_ok (gv_name 12) (gv_name 16)) (ga_cons (gv_bin op_addD add_ok (gv_name 11) (gv_name 15)) ga_nil)))) (ga_cons (gv_cmp (op_eqD hr.units) eq_ok (gv_of (go_call G__law_lag (hr.mono (by decide)) rfl (takes_of rfl rfl rfl rfl) (ga_cons (gv_bin op_addD add_ok (gv_name 11) (gv_name 15)) (ga_cons (gv_bin op_addD add_ok (gv_name 12) (gv_name 16)) ga_nil)))) (gv_name 2)) (ga_cons (gv_of (go_call G__law_lag (hr.mono (by decide)) rfl (takes_of rfl rfl rfl rfl) (ga_cons (gv_bin op_addD add_ok (gv_bin op_addD add_ok (gv_name 11) (gv_name 15)) (gv_name 17)) (ga_cons (gv_bin op_addD add_ok (gv_bin op_addD add_ok (gv_name 12) (gv_name 16)) (gv_name 18)) ga_nil)))) ga_nil)))))) nd)
    (gss_cons (gs_if (gt_not (gt_val (gv_of (go_call G__law_same (hr.mono (by decide)) rfl (takes_of rfl rfl rfl rfl) (ga_cons (gv_name 3) (ga_cons (gv_name 4) ga_nil)))))) (gss_one (gs_ret (go_of gv_bl))) gss_nil)
    (gss_cons (gs_set 7 (go_lst (ga_cons (gv_of (go_call G_lag_of (hr.mono (by decide)) rfl (takes_of rfl rfl rfl rfl) (ga_cons (gv_name 11) (ga_cons (gv_name 12) ga_nil)))) (ga_cons (gv_of (go_call G_lag_of (hr.mono (by decide)) rfl (takes_of rfl rfl rfl rfl) (ga_cons (gv_name 12) (ga_cons (gv_name 13) ga_nil)))) (ga_cons (gv_of (go_call G_lag_of (hr.mono (by decide)) rfl (takes_of rfl rfl rfl rfl) (ga_cons (gv_name 13) (ga_cons (gv_name 14) ga_nil)))) ga_nil)))) nd)
    (gss_cons (gs_set 8 (go_call G_lag_of (hr.mono (by decide)) rfl (takes_of rfl rfl rfl rfl) (ga_cons (gv_name 11) (ga_cons (gv_name 14) ga_nil))) nd)
    (gss_cons (gs_set 3 (go_lst (ga_cons (gv_of (go_call G__law_heard (hr.mono (by decide)) rfl (takes_of rfl rfl rfl rfl) (ga_cons (gv_ixS 7 gv_int) (ga_cons (gv_ixS 7 gv_int) ga_nil)))) (ga_cons (gv_of (go_call G__law_heard (hr.mono (by decide)) rfl (takes_of rfl rfl rfl rfl) (ga_cons (gv_of (go_call G__law_heard (hr.mono (by decide)) rfl (takes_of rfl rfl rfl rfl) (ga_cons (gv_ixS 7 gv_int) (ga_cons (gv_ixS 7 gv_int) ga_nil)))) (ga_cons (gv_ixS 7 gv_int) ga_nil)))) (ga_cons (gv_of (go_call G__law_heard (hr.mono (by decide)) rfl (takes_of rfl rfl rfl rfl) (ga_cons (gv_ixS 7 gv_int) (ga_cons (gv_of (go_call G__law_heard (hr.mono (by decide)) rfl (takes_of rfl rfl rfl rfl) (ga_cons (gv_ixS 7 gv_int) (ga_cons (gv_ixS 7 gv_int) ga_nil)))) ga_nil)))) (ga_cons (gv_of (go_call G__law_heard (hr.mono (by decide)) rfl (takes_of rfl rfl rfl rfl) (ga_cons (gv_of (go_call G_lag_turned (hr.mono (by decide)) rfl (takes_of rfl rfl rfl rfl) (ga_cons (gv_ixS 7 gv_int) ga_nil))) (ga_cons (gv_of (go_call G_lag_turned (hr.mono (by decide)) rfl (takes_of rfl rfl rfl rfl) (ga_cons (gv_ixS 7 gv_int) ga_nil))) ga_nil)))) (ga_cons (gv_of (go_call G__law_heard (hr.mono (by decide)) rfl (takes_of rfl rfl rfl rfl) (ga_cons (gv_ixS 7 gv_int) (ga_cons (gv_of (go_call G_lag_turned (hr.mono (by decide)) rfl (takes_of rfl rfl rfl rfl) (ga_cons (gv_ixS 7 gv_int) ga_nil))) ga_nil)))) ga_nil)))))) nd)
    (gss_cons (gs_if (gt_not (gt_val (gv_of (go_call G__law_same (hr.mono (by decide)) rfl (takes_of rfl rfl rfl rfl) (ga_cons (gv_name 3) (ga_cons (gv_of (go_lst (ga_cons (gv_of (go_call G__law_lag (hr.mono (by decide)) rfl (takes_of rfl rfl rfl rfl) (ga_cons (gv_name 11) (ga_cons (gv_name 13) ga_nil)))) (ga_cons (gv_name 8) (ga_cons (gv_name 8) (ga_cons (gv_of (go_call G__law_lag (hr.mono (by decide)) rfl (takes_of rfl rfl rfl rfl) (ga_cons (gv_name 13) (ga_cons (gv_name 11) ga_nil)))) (ga_cons (gv_tup (ga_cons (gv_tup ga_nil) (ga_cons (gv_tup ga_nil) ga_nil))) ga_nil))))))) ga_nil)))))) (gss_one (gs_ret (go_of gv_bl))) gss_nil)
    (gss_cons (gs_set 9 (go_of (gv_bin op_addD add_ok (gv_of (go_call G_lag_length (hr.mono (by decide)) rfl (takes_of rfl rfl rfl rfl) (ga_cons (gv_ixS 7 gv_int) ga_nil))) (gv_of (go_call G_lag_length (hr.mono (by decide)) rfl (takes_of rfl rfl rfl rfl) (ga_cons (gv_ixS 7 gv_int) ga_nil))))) nd)
    (gss_cons (gs_if (gt_w (gw_or (gt_cmp op_gt gt_ok (gv_of (go_call G_lag_length (hr.mono (by decide)) rfl (takes_of rfl rfl rfl rfl) (ga_cons (gv_of (go_call G_lag_of (hr.mono (by decide)) rfl (takes_of rfl rfl rfl rfl) (ga_cons (gv_name 11) (ga_cons (gv_name 13) ga_nil)))) ga_nil))) (gv_name 9)) (gw_or (gt_cmp op_isNotD isNot_ok (gv_of (go_call G_are_near (hr.mono (by decide)) rfl (takes_of rfl rfl rfl rfl) (ga_cons (gv_name 11) (ga_cons (gv_name 13) (ga_cons (gv_name 9) ga_nil))))) gv_bl) (gw_or (gt_cmp op_isNotD isNot_ok (gv_of (go_call G_are_near (hr.mono (by decide)) rfl (takes_of rfl rfl rfl rfl) (ga_cons (gv_name 11) (ga_cons (gv_name 12) (ga_cons (gv_of (go_call G_lag_length (hr.mono (by decide)) rfl (takes_of rfl rfl rfl rfl) (ga_cons (gv_name 2) ga_nil))) ga_nil))))) gv_bl) (gw_or1 (gt_w (gw_and (gt_cmp op_gt gt_ok (gv_of (go_call G_lag_length (hr.mono (by decide)) rfl (takes_of rfl rfl rfl rfl) (ga_cons (gv_name 2) ga_nil))) gv_int) (gw_and1 (gt_cmp op_isNotD isNot_ok (gv_of (go_call G_are_near (hr.mono (by decide)) rfl (takes_of rfl rfl rfl rfl) (ga_cons (gv_name 11) (ga_cons (gv_name 12) (ga_cons (gv_bin op_sub sub_ok (gv_of (go_call G_lag_length (hr.mono (by decide)) rfl (takes_of rfl rfl rfl rfl) (ga_cons (gv_name 2) ga_nil))) gv_int) ga_nil))))) gv_bl))))))))) (gss_one (gs_ret (go_of gv_bl))) gss_nil)
    (gss_cons (gs_par 19 20 (go_of (gv_name 2)) (go_of gv_int) rfl nd rfl rfl (by rfl))
    (gss_cons (gs_for (passes_of rfl) rfl (gi_range1 rfl hy.n_range (ga_cons gv_int ga_nil)) (gg_name 10 nd) (gss_cons (gs_set 19 (go_call G_lag_behind (hr.mono (by decide)) rfl (takes_of rfl rfl rfl rfl) (ga_cons (gv_name 19) (ga_cons (gv_name 15) (ga_cons (gv_name 16) ga_nil)))) nd)
    (gss_cons (gs_set 20 (go_call G_lag_length (hr.mono (by decide)) rfl (takes_of rfl rfl rfl rfl) (ga_cons (gv_name 19) ga_nil)) nd)
    (gss_one (gs_if (gt_w (gw_and (gt_val (gv_of (go_call G_is_kept (hr.mono (by decide)) rfl (takes_of rfl rfl rfl rfl) (ga_cons (gv_name 2) (ga_cons (gv_name 15) (ga_cons (gv_name 16) ga_nil)))))) (gw_and1 (gt_cmpS 19 (op_neD hr.units) ne_ok bool_dNe (gv_name 2))))) (gss_one (gs_ret (go_of gv_bl))) gss_nil)))))
    (gss_cons (gs_if (gt_w (gw_and (gt_not (gt_val (gv_of (go_call G_is_kept (hr.mono (by decide)) rfl (takes_of rfl rfl rfl rfl) (ga_cons (gv_name 2) (ga_cons (gv_name 15) (ga_cons (gv_name 16) ga_nil))))))) (gw_and (gt_cmpS 20 op_le le_ok bool_dLe gv_int) (gw_and1 (gt_cmp op_le le_ok (gv_of (go_call G_lag_length (hr.mono (by decide)) rfl (takes_of rfl rfl rfl rfl) (ga_cons (gv_of (go_call G_lag_behind (hr.mono (by decide)) rfl (takes_of rfl rfl rfl rfl) (ga_cons (gv_name 19) (ga_cons (gv_name 15) (ga_cons (gv_name 16) ga_nil))))) ga_nil))) gv_int))))) (gss_one (gs_ret (go_of gv_bl))) gss_nil)
    (gss_cons (gs_for (passes_of rfl) rfl (gi_seq (gv_tup (ga_cons (gv_tup (ga_cons (gv_tup (ga_cons (gv_tup ga_nil) (ga_cons (gv_name 11) ga_nil))) (ga_cons (gv_tup (ga_cons (gv_name 12) (ga_cons (gv_tup ga_nil) ga_nil))) ga_nil))) (ga_cons (gv_tup (ga_cons (gv_tup (ga_cons (gv_tup ga_nil) (ga_cons (gv_name 11) ga_nil))) (ga_cons (gv_tup (ga_cons (gv_name 11) (ga_cons (gv_tup ga_nil) ga_nil))) ga_nil))) (ga_cons (gv_tup (ga_cons (gv_tup (ga_cons (gv_tup ga_nil) (ga_cons (gv_bin op_addD add_ok (gv_name 17) (gv_name 11)) ga_nil))) (ga_cons (gv_tup (ga_cons (gv_name 11) (ga_cons (gv_tup ga_nil) ga_nil))) ga_nil))) ga_nil))))) (gg_tup rfl (ggs_cons (gg_name 6 nd) (ggs_cons (gg_name 21 nd) ggs_nil))) (gss_one (gs_if (gt_w (gw_or (gt_w (gw_and (gt_cmp (op_neD hr.units) ne_ok (gv_ixS 6 gv_int) (gv_tup ga_nil)) (gw_and1 (gt_cmp (op_neD hr.units) ne_ok (gv_ixS 21 gv_int) (gv_tup ga_nil))))) (gw_or1 (gt_cmpS 6 (op_eqD hr.units) eq_ok bool_dEq (gv_name 21))))) (gss_cons (gs_set 22 (go_of (gv_callB (call_min2 rfl) min2_ok rfl hy.n_min (by decide +kernel) (ga_cons (gv_callB call_len_seq (len_ok) rfl hy.n_len (by decide +kernel) (ga_cons (gv_ixS 6 gv_int) ga_nil)) (ga_cons (gv_callB call_len_seq (len_ok) rfl hy.n_len (by decide +kernel) (ga_cons (gv_ixS 21 gv_int) ga_nil)) ga_nil)))) nd)
    (gss_cons (gs_set 23 (go_of (gv_cmp (op_eqD hr.units) eq_ok (gv_of (go_slice (gv_ixS 6 gv_int) (gp_some (gv_bin op_sub sub_ok (gv_callB call_len_seq (len_ok) rfl hy.n_len (by decide +kernel) (ga_cons (gv_ixS 6 gv_int) ga_nil)) (gv_name 22))) gp_none)) (gv_of (go_slice (gv_ixS 21 gv_int) (gp_some (gv_bin op_sub sub_ok (gv_callB call_len_seq (len_ok) rfl hy.n_len (by decide +kernel) (ga_cons (gv_ixS 21 gv_int) ga_nil)) (gv_name 22))) gp_none)))) nd)
    (gss_one (gs_if (gt_cmp (op_eqD hr.units) eq_ok (gv_cmp (op_eqD hr.units) eq_ok (gv_of (go_call G__law_heard (hr.mono (by decide)) rfl (takes_of rfl rfl rfl rfl) (ga_cons (gv_name 6) (ga_cons (gv_name 21) ga_nil)))) gv_str) (gv_name 23)) (gss_one (gs_ret (go_of gv_bl))) gss_nil)))) gss_nil)))
    (gss_one (gs_ret (go_of gv_bl))))))))))))))))))))))))))))
def d_is_number : He.DefD := ⟨("is_number", none), "is_number", "is_number", defArgs s_is_number, defBody s_is_number, defScope s_is_number, [], []⟩
def d_tuple_of : He.DefD := ⟨("tuple_of", none), "tuple_of", "tuple_of", defArgs s_tuple_of, defBody s_tuple_of, defScope s_tuple_of, [], []⟩
def d_is_tuple_of : He.DefD := ⟨("is_tuple_of", none), "is_tuple_of", "is_tuple_of", defArgs s_is_tuple_of, defBody s_is_tuple_of, defScope s_is_tuple_of, [], []⟩
def d_is_within : He.DefD := ⟨("is_within", none), "is_within", "is_within", defArgs s_is_within, defBody s_is_within, defScope s_is_within, [], []⟩
def d_sure : He.DefD := ⟨("sure", none), "sure", "sure", defArgs s_sure, defBody s_sure, defScope s_sure, [], []⟩
def d_is_piece : He.DefD := ⟨("is_piece", none), "is_piece", "is_piece", defArgs s_is_piece, defBody s_is_piece, defScope s_is_piece, [], []⟩
def d_is_lag : He.DefD := ⟨("is_lag", none), "is_lag", "is_lag", defArgs s_is_lag, defBody s_is_lag, defScope s_is_lag, [], []⟩
def d_alike_ahead : He.DefD := ⟨("alike_ahead", none), "alike_ahead", "alike_ahead", defArgs s_alike_ahead, defBody s_alike_ahead, defScope s_alike_ahead, [], []⟩
def d_front_of : He.DefD := ⟨("front_of", none), "front_of", "front_of", defArgs s_front_of, defBody s_front_of, defScope s_front_of, [], []⟩
def d_front : He.DefD := ⟨("front", none), "front", "front", defArgs s_front, defBody s_front, defScope s_front, [], []⟩
def d_lag_between : He.DefD := ⟨("lag_between", none), "lag_between", "lag_between", defArgs s_lag_between, defBody s_lag_between, defScope s_lag_between, [], []⟩
def d_sure_pieces : He.DefD := ⟨("sure_pieces", none), "sure_pieces", "sure_pieces", defArgs s_sure_pieces, defBody s_sure_pieces, defScope s_sure_pieces, [], []⟩
def d_sure_lag : He.DefD := ⟨("sure_lag", none), "sure_lag", "sure_lag", defArgs s_sure_lag, defBody s_sure_lag, defScope s_sure_lag, [], []⟩
def d_lag_of : He.DefD := ⟨("lag_of", none), "lag_of", "lag_of", defArgs s_lag_of, defBody s_lag_of, defScope s_lag_of, [], []⟩
def d_size_of : He.DefD := ⟨("size_of", none), "size_of", "size_of", defArgs s_size_of, defBody s_size_of, defScope s_size_of, [], []⟩
def d_lag_length : He.DefD := ⟨("lag_length", none), "lag_length", "lag_length", defArgs s_lag_length, defBody s_lag_length, defScope s_lag_length, [], []⟩
def d_lag_turned : He.DefD := ⟨("lag_turned", none), "lag_turned", "lag_turned", defArgs s_lag_turned, defBody s_lag_turned, defScope s_lag_turned, [], []⟩
def d_went_on : He.DefD := ⟨("went_on", none), "went_on", "went_on", defArgs s_went_on, defBody s_went_on, defScope s_went_on, [], []⟩
def d_lag_behind : He.DefD := ⟨("lag_behind", none), "lag_behind", "lag_behind", defArgs s_lag_behind, defBody s_lag_behind, defScope s_lag_behind, [], []⟩
def d_is_kept : He.DefD := ⟨("is_kept", none), "is_kept", "is_kept", defArgs s_is_kept, defBody s_is_kept, defScope s_is_kept, [], []⟩
def d_ends_with : He.DefD := ⟨("ends_with", none), "ends_with", "ends_with", defArgs s_ends_with, defBody s_ends_with, defScope s_ends_with, [], []⟩
def d_lag_through : He.DefD := ⟨("lag_through", none), "lag_through", "lag_through", defArgs s_lag_through, defBody s_lag_through, defScope s_lag_through, [], []⟩
def d_are_near : He.DefD := ⟨("are_near", none), "are_near", "are_near", defArgs s_are_near, defBody s_are_near, defScope s_are_near, [], []⟩
def d__law_box : He.DefD := ⟨("_law_box", none), "_law_box", "_law_box", defArgs s__law_box, defBody s__law_box, defScope s__law_box, [], []⟩
def d__law_take : He.DefD := ⟨("_law_take", none), "_law_take", "_law_take", defArgs s__law_take, defBody s__law_take, defScope s__law_take, [], []⟩
def d__law_cells : He.DefD := ⟨("_law_cells", none), "_law_cells", "_law_cells", defArgs s__law_cells, defBody s__law_cells, defScope s__law_cells, [], []⟩
def d__law_same : He.DefD := ⟨("_law_same", none), "_law_same", "_law_same", defArgs s__law_same, defBody s__law_same, defScope s__law_same, [], []⟩
def d__law_piece : He.DefD := ⟨("_law_piece", none), "_law_piece", "_law_piece", defArgs s__law_piece, defBody s__law_piece, defScope s__law_piece, [], []⟩
def d__law_lag : He.DefD := ⟨("_law_lag", none), "_law_lag", "_law_lag", defArgs s__law_lag, defBody s__law_lag, defScope s__law_lag, [], []⟩
def d__law_heard : He.DefD := ⟨("_law_heard", none), "_law_heard", "_law_heard", defArgs s__law_heard, defBody s__law_heard, defScope s__law_heard, [], []⟩
def d_law : He.DefD := ⟨("law", none), "law", "law", defArgs s_law, defBody s_law, defScope s_law, [], []⟩
def fns : List He.DefD := [d_is_number, d_tuple_of, d_is_tuple_of, d_is_within, d_sure, d_is_piece, d_is_lag, d_alike_ahead, d_front_of, d_front, d_lag_between, d_sure_pieces, d_sure_lag, d_lag_of, d_size_of, d_lag_length, d_lag_turned, d_went_on, d_lag_behind, d_is_kept, d_ends_with, d_lag_through, d_are_near, d__law_box, d__law_take, d__law_cells, d__law_same, d__law_piece, d__law_lag, d__law_heard, d_law]
def fas : List He.Fa := [.glo "is_number", .glo "tuple_of", .glo "is_tuple_of", .glo "is_within", .glo "sure", .glo "is_piece", .glo "is_lag", .glo "alike_ahead", .glo "front_of", .glo "front", .glo "lag_between", .glo "sure_pieces", .glo "sure_lag", .glo "lag_of", .glo "size_of", .glo "lag_length", .glo "lag_turned", .glo "went_on", .glo "lag_behind", .glo "is_kept", .glo "ends_with", .glo "lag_through", .glo "are_near", .glo "_law_box", .glo "_law_take", .glo "_law_cells", .glo "_law_same", .glo "_law_piece", .glo "_law_lag", .glo "_law_heard", .glo "law", .free "abs", .free "all", .free "bool", .free "enumerate", .free "int", .free "isinstance", .free "len", .free "list", .free "min", .free "range", .free "str", .free "tuple", .free "zip", .int "SIGNS" 10, .glo "Unfit", .exc "Unfit", .exm "Unfit" "Unfit" true]
abbrev R : PySem.W.OpenRow := PySem.W.OpenLaw.row PySem.Challenge.rw_copysheets_k00_main_lags_of_pieces_put_b
abbrev hk : PySem.W.Hook := He.hookD 4 fas fns
def ob (s : PySem.W.SharedT) : He.AlD := He.obsDG 4 fas fns (HandSHeadRun.getT s)
theorem ob_eq (s : PySem.W.SharedT) : ob s = hk.obs s.abs := He.obsDG_eq (HandSHeadRun.getT_eq s)
def loose : List Str := (["is_number", "tuple_of", "is_tuple_of", "is_within", "sure", "is_piece", "is_lag", "alike_ahead", "front_of", "front", "lag_between", "sure_pieces", "sure_lag", "lag_of", "size_of", "lag_length", "lag_turned", "went_on", "lag_behind", "is_kept", "ends_with", "lag_through", "are_near", "_law_box", "_law_take", "_law_cells", "_law_same", "_law_piece", "_law_lag", "_law_heard"] : List Str) ++ (["Unfit", "SIGNS"] : List Str)
theorem run (w : World) : HandSHeadRun.RunEq R (PySem.W.view R.prog [36]) hk ob 3000 loose w := by
  intro os
  kernel_rfl
theorem facts {P : Program} {w : World} {K : PySem.W.Frag} {h : Heap} {mg : Str → Option Value} {fa : Addr} (X : K.In h) (G : h.Ns mainGlobals mg) (hfa : mg ("law" : Str) = some (.ref fa)) (c : He.SaysD fas fns K) :
    ∃ fd : FuncData, (∀ (s : Shared) (v : Value), BindsTo s fd ⟨[v], []⟩ [("script", v)]) ∧ ∀ base : Heap, K.In base → base.Ns mainGlobals mg → FnOk P w K mg base (L2.CX P w) 44 fa fd ["script"] (spP K mg 1 M_law) := by
  obtain ⟨fd_is_number, F_is_number⟩ := c.def_ 0 (d := d_is_number) rfl
  obtain ⟨fd_tuple_of, F_tuple_of⟩ := c.def_ 1 (d := d_tuple_of) rfl
  obtain ⟨fd_is_tuple_of, F_is_tuple_of⟩ := c.def_ 2 (d := d_is_tuple_of) rfl
  obtain ⟨fd_is_within, F_is_within⟩ := c.def_ 3 (d := d_is_within) rfl
  obtain ⟨fd_sure, F_sure⟩ := c.def_ 4 (d := d_sure) rfl
  obtain ⟨fd_is_piece, F_is_piece⟩ := c.def_ 5 (d := d_is_piece) rfl
  obtain ⟨fd_is_lag, F_is_lag⟩ := c.def_ 6 (d := d_is_lag) rfl
  obtain ⟨fd_alike_ahead, F_alike_ahead⟩ := c.def_ 7 (d := d_alike_ahead) rfl
  obtain ⟨fd_front_of, F_front_of⟩ := c.def_ 8 (d := d_front_of) rfl
  obtain ⟨fd_front, F_front⟩ := c.def_ 9 (d := d_front) rfl
  obtain ⟨fd_lag_between, F_lag_between⟩ := c.def_ 10 (d := d_lag_between) rfl
  obtain ⟨fd_sure_pieces, F_sure_pieces⟩ := c.def_ 11 (d := d_sure_pieces) rfl
  obtain ⟨fd_sure_lag, F_sure_lag⟩ := c.def_ 12 (d := d_sure_lag) rfl
  obtain ⟨fd_lag_of, F_lag_of⟩ := c.def_ 13 (d := d_lag_of) rfl
  obtain ⟨fd_size_of, F_size_of⟩ := c.def_ 14 (d := d_size_of) rfl
  obtain ⟨fd_lag_length, F_lag_length⟩ := c.def_ 15 (d := d_lag_length) rfl
  obtain ⟨fd_lag_turned, F_lag_turned⟩ := c.def_ 16 (d := d_lag_turned) rfl
  obtain ⟨fd_went_on, F_went_on⟩ := c.def_ 17 (d := d_went_on) rfl
  obtain ⟨fd_lag_behind, F_lag_behind⟩ := c.def_ 18 (d := d_lag_behind) rfl
  obtain ⟨fd_is_kept, F_is_kept⟩ := c.def_ 19 (d := d_is_kept) rfl
  obtain ⟨fd_ends_with, F_ends_with⟩ := c.def_ 20 (d := d_ends_with) rfl
  obtain ⟨fd_lag_through, F_lag_through⟩ := c.def_ 21 (d := d_lag_through) rfl
  obtain ⟨fd_are_near, F_are_near⟩ := c.def_ 22 (d := d_are_near) rfl
  obtain ⟨fd__law_box, F__law_box⟩ := c.def_ 23 (d := d__law_box) rfl
  obtain ⟨fd__law_take, F__law_take⟩ := c.def_ 24 (d := d__law_take) rfl
  obtain ⟨fd__law_cells, F__law_cells⟩ := c.def_ 25 (d := d__law_cells) rfl
  obtain ⟨fd__law_same, F__law_same⟩ := c.def_ 26 (d := d__law_same) rfl
  obtain ⟨fd__law_piece, F__law_piece⟩ := c.def_ 27 (d := d__law_piece) rfl
  obtain ⟨fd__law_lag, F__law_lag⟩ := c.def_ 28 (d := d__law_lag) rfl
  obtain ⟨fd__law_heard, F__law_heard⟩ := c.def_ 29 (d := d__law_heard) rfl
  obtain ⟨fd_law, F_law⟩ := c.def_ 30 (d := d_law) rfl
  have g_is_number := He.glo_ok X G (c.fact 0 (f := .glo "is_number") rfl)
  have g_tuple_of := He.glo_ok X G (c.fact 1 (f := .glo "tuple_of") rfl)
  have g_is_tuple_of := He.glo_ok X G (c.fact 2 (f := .glo "is_tuple_of") rfl)
  have g_is_within := He.glo_ok X G (c.fact 3 (f := .glo "is_within") rfl)
  have g_sure := He.glo_ok X G (c.fact 4 (f := .glo "sure") rfl)
  have g_is_piece := He.glo_ok X G (c.fact 5 (f := .glo "is_piece") rfl)
  have g_is_lag := He.glo_ok X G (c.fact 6 (f := .glo "is_lag") rfl)
  have g_alike_ahead := He.glo_ok X G (c.fact 7 (f := .glo "alike_ahead") rfl)
  have g_front_of := He.glo_ok X G (c.fact 8 (f := .glo "front_of") rfl)
  have g_front := He.glo_ok X G (c.fact 9 (f := .glo "front") rfl)
  have g_lag_between := He.glo_ok X G (c.fact 10 (f := .glo "lag_between") rfl)
  have g_sure_pieces := He.glo_ok X G (c.fact 11 (f := .glo "sure_pieces") rfl)
  have g_sure_lag := He.glo_ok X G (c.fact 12 (f := .glo "sure_lag") rfl)
  have g_lag_of := He.glo_ok X G (c.fact 13 (f := .glo "lag_of") rfl)
  have g_size_of := He.glo_ok X G (c.fact 14 (f := .glo "size_of") rfl)
  have g_lag_length := He.glo_ok X G (c.fact 15 (f := .glo "lag_length") rfl)
  have g_lag_turned := He.glo_ok X G (c.fact 16 (f := .glo "lag_turned") rfl)
  have g_went_on := He.glo_ok X G (c.fact 17 (f := .glo "went_on") rfl)
  have g_lag_behind := He.glo_ok X G (c.fact 18 (f := .glo "lag_behind") rfl)
  have g_is_kept := He.glo_ok X G (c.fact 19 (f := .glo "is_kept") rfl)
  have g_ends_with := He.glo_ok X G (c.fact 20 (f := .glo "ends_with") rfl)
  have g_lag_through := He.glo_ok X G (c.fact 21 (f := .glo "lag_through") rfl)
  have g_are_near := He.glo_ok X G (c.fact 22 (f := .glo "are_near") rfl)
  have g__law_box := He.glo_ok X G (c.fact 23 (f := .glo "_law_box") rfl)
  have g__law_take := He.glo_ok X G (c.fact 24 (f := .glo "_law_take") rfl)
  have g__law_cells := He.glo_ok X G (c.fact 25 (f := .glo "_law_cells") rfl)
  have g__law_same := He.glo_ok X G (c.fact 26 (f := .glo "_law_same") rfl)
  have g__law_piece := He.glo_ok X G (c.fact 27 (f := .glo "_law_piece") rfl)
  have g__law_lag := He.glo_ok X G (c.fact 28 (f := .glo "_law_lag") rfl)
  have g__law_heard := He.glo_ok X G (c.fact 29 (f := .glo "_law_heard") rfl)
  have g_law := He.glo_ok X G (c.fact 30 (f := .glo "law") rfl)
  have x_Unfit := He.exc_ok (c.fact 46 (f := .exc "Unfit") rfl)
  have hy : Hy K mg (He.ga K "Unfit") := ⟨He.free_ok X G (c.fact 31 (f := .free "abs") rfl), He.free_ok X G (c.fact 32 (f := .free "all") rfl), He.free_ok X G (c.fact 33 (f := .free "bool") rfl), He.free_ok X G (c.fact 34 (f := .free "enumerate") rfl), He.free_ok X G (c.fact 35 (f := .free "int") rfl), He.free_ok X G (c.fact 36 (f := .free "isinstance") rfl), He.free_ok X G (c.fact 37 (f := .free "len") rfl), He.free_ok X G (c.fact 38 (f := .free "list") rfl), He.free_ok X G (c.fact 39 (f := .free "min") rfl), He.free_ok X G (c.fact 40 (f := .free "range") rfl), He.free_ok X G (c.fact 41 (f := .free "str") rfl), He.free_ok X G (c.fact 42 (f := .free "tuple") rfl), He.free_ok X G (c.fact 43 (f := .free "zip") rfl), He.int_ok X G (c.fact 44 (f := .int "SIGNS" 10) rfl), ⟨He.glo_ok X G (c.fact 45 (f := .glo "Unfit") rfl), x_Unfit.1, x_Unfit.2.1, x_Unfit.2.2.1, x_Unfit.2.2.2, He.exm_ok (c.fact 47 (f := .exm "Unfit" "Unfit" true) rfl)⟩⟩
  have e := hfa.symm.trans g_law
  cases e
  have b := FunD.bindsA (ps := ["script"]) F_law fun _ _ _ _ _ _ us hl => match us, hl with | [_], _ => rfl
  refine ⟨fd_law, fun s v => b s [v] rfl, fun base _ _ => ?_⟩
  have G_is_number : GFn P w K mg base "is_number" 1 1 M_is_number := ok_is_number F_is_number hy g_is_number
  have G_tuple_of : GFn P w K mg base "tuple_of" 40 1 M_tuple_of := ok_tuple_of F_tuple_of hy g_tuple_of
  have G_is_tuple_of : GFn P w K mg base "is_tuple_of" 1 2 M_is_tuple_of := ok_is_tuple_of F_is_tuple_of hy g_is_tuple_of
  have G_is_within : GFn P w K mg base "is_within" 2 3 M_is_within := ok_is_within F_is_within hy g_is_within G_is_number
  have G_sure : GFn P w K mg base "sure" 1 1 M_sure := ok_sure F_sure hy g_sure
  have G_is_piece : GFn P w K mg base "is_piece" 3 1 M_is_piece := ok_is_piece F_is_piece hy g_is_piece G_is_within
  have G_is_lag : GFn P w K mg base "is_lag" 4 1 M_is_lag := ok_is_lag F_is_lag hy g_is_lag G_is_tuple_of G_is_piece
  have G_alike_ahead : GFn P w K mg base "alike_ahead" 1 2 M_alike_ahead := ok_alike_ahead F_alike_ahead hy g_alike_ahead
  have G_front_of : GFn P w K mg base "front_of" 2 1 M_front_of := ok_front_of F_front_of hy g_front_of G_alike_ahead
  have G_front : GFn P w K mg base "front" 41 1 M_front := ok_front F_front hy g_front G_tuple_of G_sure G_is_piece G_front_of
  have G_lag_between : GFn P w K mg base "lag_between" 2 2 M_lag_between := ok_lag_between F_lag_between hy g_lag_between G_alike_ahead
  have G_sure_pieces : GFn P w K mg base "sure_pieces" 41 1 M_sure_pieces := ok_sure_pieces F_sure_pieces hy g_sure_pieces G_tuple_of G_sure G_is_piece
  have G_sure_lag : GFn P w K mg base "sure_lag" 41 1 M_sure_lag := ok_sure_lag F_sure_lag hy g_sure_lag G_tuple_of G_sure G_is_lag
  have G_lag_of : GFn P w K mg base "lag_of" 42 2 M_lag_of := ok_lag_of F_lag_of hy g_lag_of G_lag_between G_sure_pieces
  have G_size_of : GFn P w K mg base "size_of" 1 1 M_size_of := ok_size_of F_size_of hy g_size_of
  have G_lag_length : GFn P w K mg base "lag_length" 42 1 M_lag_length := ok_lag_length F_lag_length hy g_lag_length G_sure_lag G_size_of
  have G_lag_turned : GFn P w K mg base "lag_turned" 42 1 M_lag_turned := ok_lag_turned F_lag_turned hy g_lag_turned G_sure_lag
  have G_went_on : GFn P w K mg base "went_on" 3 3 M_went_on := ok_went_on F_went_on hy g_went_on G_lag_between
  have G_lag_behind : GFn P w K mg base "lag_behind" 42 3 M_lag_behind := ok_lag_behind F_lag_behind hy g_lag_behind G_sure_pieces G_sure_lag G_went_on
  have G_is_kept : GFn P w K mg base "is_kept" 43 3 M_is_kept := ok_is_kept F_is_kept hy g_is_kept G_sure_lag G_lag_behind
  have G_ends_with : GFn P w K mg base "ends_with" 1 2 M_ends_with := ok_ends_with F_ends_with hy g_ends_with
  have G_lag_through : GFn P w K mg base "lag_through" 42 2 M_lag_through := ok_lag_through F_lag_through hy g_lag_through G_sure G_lag_between G_sure_lag G_ends_with
  have G_are_near : GFn P w K mg base "are_near" 42 3 M_are_near := ok_are_near F_are_near hy g_are_near G_is_number G_sure G_lag_between G_sure_pieces G_size_of
  have G__law_box : GFn P w K mg base "_law_box" 1 2 M__law_box := ok__law_box F__law_box hy g__law_box
  have G__law_take : GFu P w K mg base "_law_take" 1 1 M__law_take := ok__law_take F__law_take hy g__law_take
  have G__law_cells : GFn P w K mg base "_law_cells" 1 2 M__law_cells := ok__law_cells F__law_cells hy g__law_cells
  have G__law_same : GFn P w K mg base "_law_same" 40 2 M__law_same := ok__law_same F__law_same hy g__law_same
  have G__law_piece : GFu P w K mg base "_law_piece" 2 1 M__law_piece := ok__law_piece F__law_piece hy g__law_piece G__law_take
  have G__law_lag : GFn P w K mg base "_law_lag" 1 2 M__law_lag := ok__law_lag F__law_lag hy g__law_lag
  have G__law_heard : GFn P w K mg base "_law_heard" 43 2 M__law_heard := ok__law_heard F__law_heard hy g__law_heard G_lag_through
  exact ok_law F_law hy g_law G_is_lag G_front G_lag_of G_lag_length G_lag_turned G_lag_behind G_is_kept G_are_near G__law_box G__law_take G__law_cells G__law_same G__law_piece G__law_lag G__law_heard
theorem law_holds (hM : ∀ ns : List Int, ns.length ≤ 63 → M_law [.list (ns.map PyData.int)] = .ok (.val (.bool true))) : PySem.Challenge.rw_copysheets_k00_main_lags_of_pieces_put_b.Holds := by
  w_on; o_law
  refine HandSHeadRun.head_any (r := PySem.W.OpenLaw.row PySem.Challenge.rw_copysheets_k00_main_lags_of_pieces_put_b) (q := PySem.W.view (PySem.W.OpenLaw.row PySem.Challenge.rw_copysheets_k00_main_lags_of_pieces_put_b).prog [36]) (H := hk) (ob := ob) (M := 3000) (loose := loose) (d := HandSHeadRun.topDef (PySem.W.OpenLaw.row PySem.Challenge.rw_copysheets_k00_main_lags_of_pieces_put_b).prog 36) (kwd := []) ob_eq
    (by kernel_rfl) (fun s => by kernel_rfl) run (by kernel_rfl) (by kernel_rfl) (by kernel_rfl) (by rfl) (by first | assumption | decide +kernel) (by decide +kernel) ⟨rfl, rfl, rfl, rfl, rfl, by decide +kernel⟩ ?hw ?hc
  case hw => w_witness2
  case hc =>
    refine walk_ofEw (l := PySem.Challenge.rw_copysheets_k00_main_lags_of_pieces_put_b) (n := 63) (k := 44) (x := "script") rfl (by decide) (by kernel_rfl) ⟨rfl, by decide, by decide⟩ ?F
    intro w mg fa h Y G hmg0
    obtain ⟨K, KX, c⟩ := Y
    have hmg : mg ("law" : PySem.Str) = some (.ref fa) := by
      have e : (HandSHeadRun.topDef (PySem.W.OpenLaw.row PySem.Challenge.rw_copysheets_k00_main_lags_of_pieces_put_b).prog 36).name = ("law" : PySem.Str) := by kernel_rfl
      rw [← e]
      exact hmg0
    obtain ⟨fd, hb, hF⟩ := facts (P := (PySem.Challenge.rw_copysheets_k00_main_lags_of_pieces_put_b).prog) (w := w) KX G hmg c
    exact ⟨K, fd, _, KX, hb, fun H a ns hl _ hS => law_sp hM H a ns hl hS, hF⟩
end TT

/-! K00b: what k00's functions answer -/
namespace TT
open PySem PySem.Spec L2 GL
open PyProof.Rows hiding St
local macro_rules | `(tactic| infer_instance) => `(tactic| first
  | (with_reducible apply es_seqS)
  | (with_reducible apply es_setS)
  | (with_reducible apply es_seqA)
  | (with_reducible apply es_seqE)
  | (with_reducible apply es_ret)
  | (with_reducible apply es_expr)
  | (with_reducible apply es_asg)
  | (with_reducible exact es_skip)
  | (with_reducible exact ev_K)
  | (with_reducible exact ev_nil)
  | ((with_reducible apply ev_nilE); exact rfl)
  | ((with_reducible apply ev_KE); exact rfl)
  | (with_reducible exact ev_cYes)
  | (with_reducible exact ev_partN)
  | (with_reducible apply ev_cons)
  | ((with_reducible apply ev_N); exact rfl)
  | ((with_reducible apply ev_MvS); exact rfl)
  | ((with_reducible apply ev_NoS); exact rfl)
  | (with_reducible apply ev_dataE)
  | (with_reducible apply ev_val)
  | (with_reducible apply ev_bin)
  | (with_reducible apply ev_un)
  | ((with_reducible apply ev_binS))
  | ((with_reducible apply ev_ixS))
  | ((with_reducible apply ev_lenS))
  | (with_reducible apply ev_test)
  | (with_reducible apply ev_notE)
  | (with_reducible apply ev_notVE)
  | (with_reducible apply ev_tupE)
  | (with_reducible apply ev_lstE)
  | (with_reducible apply ev_app)
  | (with_reducible apply ev_appO)
  | (with_reducible apply ev_isi)
  | (with_reducible apply ev_callE)
  | ((with_reducible apply ev_callUE); exact rfl)
  | (with_reducible apply ev_partS)
  | (with_reducible apply ev_seqI)
  | (with_reducible apply ev_lcS)
  | (with_reducible apply et_NS)
  | (with_reducible exact ets_nil)
  | ((with_reducible apply et_TE); exact rfl)
  | ((with_reducible apply et_LE); exact rfl)
  | focus ((with_reducible show List.length _ = _); exact rfl)
  | focus ((with_reducible show List.length (α := PyData) _ ≤ 1000); (simp only [List.length_cons, List.length_nil]; omega))
  | (with_reducible apply ets_cons)
  | (with_reducible apply dAdd_iE)
  | (with_reducible apply dSub_iE)
  | (with_reducible apply dLt_iE)
  | (with_reducible apply dGt_iE)
  | (with_reducible apply dLe_iE)
  | (with_reducible apply dGe_iE)
  | (with_reducible apply dEq_iE)
  | (with_reducible apply dNe_iE)
  | (with_reducible apply dEq_bE)
  | (with_reducible apply dNe_bE)
  | (with_reducible apply dLen_lE)
  | (with_reducible apply dLen_tE)
  | (with_reducible exact dAbs_i)
  | (with_reducible exact dInt_i)
  | (with_reducible exact dInt_b)
  | (with_reducible exact dTuple_l)
  | (with_reducible exact dTuple_t)
  | focus ((with_reducible show dTuple _ = _); exact rfl)
  | (with_reducible exact dList_l)
  | (with_reducible exact dList_t)
  | (with_reducible exact dMin2_i)
  | (with_reducible exact dMax2_i)
  | focus ((with_reducible show _ = some (some _)); exact rfl)
  | (with_reducible exact data_val)
  | (with_reducible exact data_own)
  | focus ((with_reducible show (!_) = _); exact rfl)
  | ((with_reducible apply look_val); exact rfl)
  | ((with_reducible apply look_own); exact rfl)
  | focus ((with_reducible show seqOf _ = _); exact rfl)
  | focus ((with_reducible show @Eq PV _ _); exact rfl)
  | focus ((with_reducible show @Eq PSt _ _); first | (focus (dsimp only [List.set, List.set_cons_succ, List.set_cons_zero, wipeP, restP, keepV, List.getElem?_cons_succ, List.getElem?_cons_zero]; try exact rfl)) | exact rfl)
  | focus ((with_reducible show isaD _ _ = _); exact rfl)
  | focus ((with_reducible show isa2 _ _ _ = _); exact rfl)
  | focus ((with_reducible show dIx _ _ = _); first | exact rfl | exact dIx_t0 rfl | exact dIx_l0 rfl)
  | focus ((with_reducible show (_ && _) = _); exact rfl)
  | focus ((with_reducible show (_ || _) = _); exact rfl)
  | (with_reducible apply dMul_iE)
  | (with_reducible apply dMod_iE)
  | (with_reducible apply dFdiv_iE)
  | (with_reducible exact (rfl : (_ : Bool) = _))
  | (with_reducible exact (rfl : (_ : Int) = _))
  | exact decide_eq_true (by omega)
  | exact decide_eq_false (by omega)
  | focus ((with_reducible show (_ : Int) = _); omega)
  | focus ((with_reducible show (_ : Int) < _); omega)
  )
abbrev eP (p : List Int) : PyData := .tuple (p.map .int)
abbrev eL (a b : List Int) : PyData := .tuple [eP a, eP b]
theorem t_is_number {i : Int} : M_is_number [.int i] = .ok (.val (.bool true)) := by
  show (b_is_number [some (.val (.int i))]).fin = _
  apply fin_ret
  unfold b_is_number
  refine es_ret (ev_val (ev_andVP (k := true) (l := true) ?_ ?_))
  repeat infer_instance
theorem t_is_within {i : Int} (h : 0 ≤ i ∧ i ≤ 9) : M_is_within [.int i, .int 0, .int 9] = .ok (.val (.bool true)) := by
  show (b_is_within [some (.val (.int i)), some (.val (.int 0)), some (.val (.int 9))]).fin = _
  apply fin_ret
  unfold b_is_within
  refine es_ret (ev_val (ev_andVP (k := true) (l := true) ?_ ?_))
  repeat infer_instance
  exact t_is_number
  repeat infer_instance
  apply ev_chainT
  repeat infer_instance
theorem t_tuple_i {k : Nat} {i : Int} : R_tuple_of (k + 1) [.int i] = .ok (.val (.int i)) := by
  show (b_tuple_of (R_tuple_of k) [some (.val (.int i)), none]).fin = _
  apply fin_ret
  unfold b_tuple_of
  apply es_seq
  apply es_ifF
  repeat infer_instance
theorem t_tuple_map {k : Nat} (h : PyData → PyData) (ds : List PyData) (hl : ds.length ≤ 1000) (hh : ∀ d ∈ ds, R_tuple_of k [d] = .ok (.val (h d))) {d : PyData} (hd : d = .list ds ∨ d = .tuple ds) : R_tuple_of (k + 1) [d] = .ok (.val (.tuple (ds.map h))) := by
  show (b_tuple_of (R_tuple_of k) [some (.val d), none]).fin = _
  apply fin_ret
  unfold b_tuple_of
  apply es_seqR
  apply es_ifT
  · refine ev_test (ev_isi (d := d) (ev_N rfl) (k := true) ?_)
    rcases hd with e | e <;> subst e <;> rfl
  · apply es_ret
    apply ev_val
    apply ev_app
    apply ev_cons
    apply ev_dataE
    · refine ev_lcS (ev_seqI (ev_N rfl) (?_ : _ = some ds)) rfl (compL_map0 h ds (by omega) fun e he => ?_) rfl
      · rcases hd with e | e <;> subst e <;> rfl
      · refine ⟨_, _, _, et_N, ev_cYes, ev_dataE (ev_callE (ev_cons (ev_N rfl) ev_nil) rfl (hh e he)) rfl, rfl⟩
    repeat infer_instance
def Vp (p : List Int) : Prop := (∀ i ∈ p, 0 ≤ i ∧ i ≤ 9) ∧ p.length ≤ 1000
theorem map_int_id (p : List Int) : (p.map PyData.int).map id = p.map PyData.int := List.map_id _
theorem t_tuple_P {k : Nat} {p : List Int} (h : p.length ≤ 1000) : R_tuple_of (k + 2) [eP p] = .ok (.val (eP p)) := by
  have := t_tuple_map (k := k + 1) id (p.map .int) (by simpa using h) (fun d hd => by obtain ⟨i, _, rfl⟩ := List.mem_map.mp hd; exact t_tuple_i) (d := eP p) (.inr rfl)
  rw [List.map_id] at this; exact this
theorem t_tuple_Pl {k : Nat} {p : List Int} (h : p.length ≤ 1000) : R_tuple_of (k + 2) [.list (p.map .int)] = .ok (.val (eP p)) := by
  have := t_tuple_map (k := k + 1) id (p.map .int) (by simpa using h) (fun d hd => by obtain ⟨i, _, rfl⟩ := List.mem_map.mp hd; exact t_tuple_i) (d := .list (p.map .int)) (.inl rfl)
  rw [List.map_id] at this; exact this
theorem t_tuple_L {a b : List Int} (h : a.length ≤ 1000) (h' : b.length ≤ 1000) : M_tuple_of [eL a b] = .ok (.val (eL a b)) := by
  have := t_tuple_map (k := 39) id [eP a, eP b] (by simp) (fun d hd => by
    simp only [List.mem_cons, List.mem_nil_iff, or_false] at hd
    rcases hd with e | e <;> subst e
    · exact t_tuple_P h
    · exact t_tuple_P h') (d := eL a b) (.inr rfl)
  rw [List.map_id] at this; exact this
theorem t_tuple_T3 {a b c : List Int} (h : a.length ≤ 1000) (h' : b.length ≤ 1000) (h2 : c.length ≤ 1000) : M_tuple_of [.tuple [eP a, eP b, eP c]] = .ok (.val (.tuple [eP a, eP b, eP c])) := by
  have := t_tuple_map (k := 39) id [eP a, eP b, eP c] (by simp) (fun d hd => by
    simp only [List.mem_cons, List.mem_nil_iff, or_false] at hd
    rcases hd with e | e | e <;> subst e
    · exact t_tuple_P h
    · exact t_tuple_P h'
    · exact t_tuple_P h2) (d := .tuple [eP a, eP b, eP c]) (.inr rfl)
  rw [List.map_id] at this; exact this
theorem t_is_tuple_of {ds : List PyData} {n : Int} (h : (ds.length : Int) = n) : M_is_tuple_of [.tuple ds, .int n] = .ok (.val (.bool true)) := by
  show (b_is_tuple_of [some (.val (.tuple ds)), some (.val (.int n))]).fin = _
  apply fin_ret
  unfold b_is_tuple_of
  refine es_ret (ev_val (ev_andVP (k := true) (l := true) ?_ ?_))
  repeat infer_instance
theorem t_sure : M_sure [.bool true] = .ok (.val .none) := by
  show (b_sure [some (.val (.bool true))]).fin = _
  apply fin_nx
  unfold b_sure
  apply es_ifF
  repeat infer_instance
theorem t_sureX : M_sure [.bool false] = .exc ⟨"Unfit", none⟩ := by
  show (b_sure [some (.val (.bool false))]).fin = _
  apply fin_exc
  unfold b_sure
  apply es_ifT
  repeat infer_instance
  exact es_exc
theorem t_is_piece {p : List Int} (h : Vp p) : M_is_piece [eP p] = .ok (.val (.bool true)) := by
  show (b_is_piece [some (.val (.tuple (p.map .int))), none]).fin = _
  apply fin_ret
  unfold b_is_piece
  refine es_ret (ev_val (ev_andVP (k := true) (l := true) ?_ ?_))
  repeat infer_instance
  · refine compL_map0 (fun _ => .bool true) _ (by have := h.2; simp; omega) fun e he => ?_
    obtain ⟨i, hi, rfl⟩ := List.mem_map.mp he
    refine ⟨_, _, _, et_N, ev_cYes, ev_dataE (ev_callE (ev_cons (ev_N rfl) (ev_cons ev_K (ev_cons (ev_bin ev_K ev_K dSub_i) ev_nil))) rfl (t_is_within (h.1 i hi))) rfl, rfl⟩
  repeat infer_instance
  · exact dAll_true fun d hd => by
      obtain ⟨_, _, rfl⟩ := List.mem_map.mp hd
      rfl
def cp : List Int → List Int → Nat
  | a :: x, b :: y => if a = b then cp x y + 1 else 0
  | _, _ => 0
theorem cp_nil (y : List Int) : cp [] y = 0 := by cases y <;> rfl
theorem cp_nil' (x : List Int) : cp x [] = 0 := by cases x <;> rfl
theorem cp_le : ∀ x y : List Int, cp x y ≤ x.length ∧ cp x y ≤ y.length
  | [], y => by simp [cp_nil]
  | x, [] => by simp [cp_nil']
  | a :: x, b :: y => by
    have := cp_le x y
    unfold cp; split <;> simp <;> omega
theorem cp_eq : ∀ (x y : List Int) (k : Nat), k < cp x y → x[k]? = y[k]?
  | [], y, k, h => by simp [cp_nil] at h
  | x, [], k, h => by simp [cp_nil'] at h
  | a :: x, b :: y, k, h => by
    unfold cp at h
    split at h
    · rename_i e; subst e
      cases k with
      | zero => rfl
      | succ k => simpa using cp_eq x y k (by omega)
    · omega
theorem cp_ne : ∀ (x y : List Int), cp x y < x.length → cp x y < y.length → x[cp x y]? ≠ y[cp x y]?
  | [], y, h, _ => by simp at h
  | x, [], _, h => by simp at h
  | a :: x, b :: y, h, h' => by
    unfold cp at h h' ⊢
    split
    · rename_i e; rw [if_pos e] at h h'; subst e
      simpa using cp_ne x y (by simpa using h) (by simpa using h')
    · rename_i e; simpa using e
theorem get_ints {x : List Int} {k : Nat} {i : Int} (h : x[k]? = some i) : (x.map PyData.int)[k]? = some (.int i) := by simp [h]
theorem t_alike {x y : List Int} : M_alike_ahead [eP x, eP y] = .ok (.val (.int (cp x y))) := by
  show (b_alike_ahead [some (.val (.tuple (x.map .int))), some (.val (.tuple (y.map .int))), none]).fin = _
  apply fin_ret
  unfold b_alike_ahead
  have key : ∀ n k : Nat, n + k = cp x y → Es (fWhile (fAnd (fTest (fBinS dLt 2 (fLenS 0))) (fAnd (fTest (fBinS dLt 2 (fLenS 1))) (fTest (fBin dEq (fIxS 0 (fN 2)) (fIxS 1 (fN 2)))))) (fSet 2 (fun ps => ((fBin dAdd (fN 2) (fK (.int 1))) ps).map PV.val)))
      [some (.val (.tuple (x.map .int))), some (.val (.tuple (y.map .int))), some (.val (.int k))] (.nx [some (.val (.tuple (x.map .int))), some (.val (.tuple (y.map .int))), some (.val (.int (cp x y)))]) := by
    intro n
    have hl := cp_le x y
    induction n with
    | succ n ih =>
      intro k hk
      have h1 : k < x.length := by omega
      have h2 : k < y.length := by omega
      have e := cp_eq x y k (by omega)
      rw [List.getElem?_eq_getElem h1, List.getElem?_eq_getElem h2] at e
      refine es_whileT (?_ : Ev _ _ true [some (.val (.tuple (x.map .int))), some (.val (.tuple (y.map .int))), some (.val (.int k))]) (?_ : Es _ _ (.nx [some (.val (.tuple (x.map .int))), some (.val (.tuple (y.map .int))), some (.val (.int ((k + 1 : Nat) : Int)))])) (ih (k + 1) (by omega))
      · refine ev_to (ev_andP (k := true) (l := true) ?_ (ev_andP (k := true) (l := true) ?_ ?_)) rfl rfl
        repeat infer_instance
        · simp; omega
        repeat infer_instance
        · simp; omega
        repeat infer_instance
        · exact dIx_t (get_ints (List.getElem?_eq_getElem h1))
        repeat infer_instance
        · exact dIx_t (get_ints (List.getElem?_eq_getElem h2))
        repeat infer_instance
        · simpa using e
      · repeat infer_instance
    | zero =>
      intro k hk
      have hk' : k = cp x y := by omega
      have ek : (PyData.int k) = .int (cp x y) := by rw [hk']
      rw [ek]
      apply es_whileF
      by_cases h1 : cp x y < x.length
      · by_cases h2 : cp x y < y.length
        · refine ev_to (ev_andP (k := true) (l := false) ?_ (ev_andP (k := true) (l := false) ?_ ?_)) rfl rfl
          repeat infer_instance
          · simp; omega
          repeat infer_instance
          · simp; omega
          repeat infer_instance
          · exact dIx_t (get_ints (List.getElem?_eq_getElem h1))
          repeat infer_instance
          · exact dIx_t (get_ints (List.getElem?_eq_getElem h2))
          repeat infer_instance
          · have e := cp_ne x y h1 h2
            rw [List.getElem?_eq_getElem h1, List.getElem?_eq_getElem h2] at e
            simpa using e
        · refine ev_to (ev_andP (k := true) (l := false) ?_ (ev_andF ?_)) rfl rfl
          repeat infer_instance
          · simp; omega
          repeat infer_instance
          · simp; omega
      · apply ev_andF
        repeat infer_instance
        · simp; omega
  apply es_seqS
  repeat infer_instance
  refine es_seq (key (cp x y) 0 rfl) ?_
  repeat infer_instance
end TT

/-! K00b: what k00's functions answer -/
namespace TT
open PySem PySem.Spec L2 GL
open PyProof.Rows hiding St
local macro_rules | `(tactic| infer_instance) => `(tactic| first
  | (with_reducible apply es_seqS)
  | (with_reducible apply es_setS)
  | (with_reducible apply es_seqA)
  | (with_reducible apply es_seqE)
  | (with_reducible apply es_ret)
  | (with_reducible apply es_expr)
  | (with_reducible apply es_asg)
  | (with_reducible exact es_skip)
  | (with_reducible exact ev_K)
  | (with_reducible exact ev_nil)
  | ((with_reducible apply ev_nilE); exact rfl)
  | ((with_reducible apply ev_KE); exact rfl)
  | (with_reducible exact ev_cYes)
  | (with_reducible exact ev_partN)
  | (with_reducible apply ev_cons)
  | ((with_reducible apply ev_N); exact rfl)
  | ((with_reducible apply ev_MvS); exact rfl)
  | ((with_reducible apply ev_NoS); exact rfl)
  | (with_reducible apply ev_dataE)
  | (with_reducible apply ev_val)
  | (with_reducible apply ev_bin)
  | (with_reducible apply ev_un)
  | ((with_reducible apply ev_binS))
  | ((with_reducible apply ev_ixS))
  | ((with_reducible apply ev_lenS))
  | (with_reducible apply ev_test)
  | (with_reducible apply ev_notE)
  | (with_reducible apply ev_notVE)
  | (with_reducible apply ev_tupE)
  | (with_reducible apply ev_lstE)
  | (with_reducible apply ev_app)
  | (with_reducible apply ev_appO)
  | (with_reducible apply ev_isi)
  | (with_reducible apply ev_callE)
  | ((with_reducible apply ev_callUE); exact rfl)
  | (with_reducible apply ev_partS)
  | (with_reducible apply ev_seqI)
  | (with_reducible apply ev_lcS)
  | (with_reducible apply et_NS)
  | (with_reducible exact ets_nil)
  | ((with_reducible apply et_TE); exact rfl)
  | ((with_reducible apply et_LE); exact rfl)
  | focus ((with_reducible show List.length _ = _); exact rfl)
  | focus ((with_reducible show List.length (α := PyData) _ ≤ 1000); (simp only [List.length_cons, List.length_nil]; omega))
  | (with_reducible apply ets_cons)
  | (with_reducible apply dAdd_iE)
  | (with_reducible apply dSub_iE)
  | (with_reducible apply dLt_iE)
  | (with_reducible apply dGt_iE)
  | (with_reducible apply dLe_iE)
  | (with_reducible apply dGe_iE)
  | (with_reducible apply dEq_iE)
  | (with_reducible apply dNe_iE)
  | (with_reducible apply dEq_bE)
  | (with_reducible apply dNe_bE)
  | (with_reducible apply dLen_lE)
  | (with_reducible apply dLen_tE)
  | (with_reducible exact dAbs_i)
  | (with_reducible exact dInt_i)
  | (with_reducible exact dInt_b)
  | (with_reducible exact dTuple_l)
  | (with_reducible exact dTuple_t)
  | focus ((with_reducible show dTuple _ = _); exact rfl)
  | (with_reducible exact dList_l)
  | (with_reducible exact dList_t)
  | (with_reducible exact dMin2_i)
  | (with_reducible exact dMax2_i)
  | focus ((with_reducible show _ = some (some _)); exact rfl)
  | (with_reducible exact data_val)
  | (with_reducible exact data_own)
  | focus ((with_reducible show (!_) = _); exact rfl)
  | ((with_reducible apply look_val); exact rfl)
  | ((with_reducible apply look_own); exact rfl)
  | focus ((with_reducible show seqOf _ = _); exact rfl)
  | focus ((with_reducible show @Eq PV _ _); exact rfl)
  | focus ((with_reducible show @Eq PSt _ _); first | (focus (dsimp only [List.set, List.set_cons_succ, List.set_cons_zero, wipeP, restP, keepV, List.getElem?_cons_succ, List.getElem?_cons_zero]; try exact rfl)) | exact rfl)
  | focus ((with_reducible show isaD _ _ = _); exact rfl)
  | focus ((with_reducible show isa2 _ _ _ = _); exact rfl)
  | focus ((with_reducible show dIx _ _ = _); first | exact rfl | exact dIx_t0 rfl | exact dIx_l0 rfl)
  | focus ((with_reducible show (_ && _) = _); exact rfl)
  | focus ((with_reducible show (_ || _) = _); exact rfl)
  | (with_reducible apply dMul_iE)
  | (with_reducible apply dMod_iE)
  | (with_reducible apply dFdiv_iE)
  | (with_reducible exact (rfl : (_ : Bool) = _))
  | (with_reducible exact (rfl : (_ : Int) = _))
  | exact decide_eq_true (by omega)
  | exact decide_eq_false (by omega)
  | focus ((with_reducible show (_ : Int) = _); omega)
  | focus ((with_reducible show (_ : Int) < _); omega)
  )
theorem t_sureE {k : Bool} (h : k = true) : M_sure [.bool k] = .ok (.val .none) := by subst h; exact t_sure
theorem map_drop' (x : List Int) (n : Nat) : (x.map PyData.int).drop n = (x.drop n).map PyData.int := by simp
theorem map_take' (x : List Int) (n : Nat) : (x.map PyData.int).take n = (x.take n).map PyData.int := by simp
theorem sl_from {f : PSt → Rs PyData} {l : PSt → Rs (Option Int)} {ps ps1 ps2 : PSt} {x : List Int} {n : Nat} (h : Ev f ps (.tuple (x.map .int)) ps1) (h2 : Ev l ps1 (some (n : Int)) ps2) (hn : n ≤ x.length) : Ev (fSl f l fNoPart) ps (.val (eP (x.drop n))) ps2 := by
  have := ev_slT h h2 (ev_partN (ps := ps2))
  rwa [cutD_from (by simpa using hn), map_drop'] at this
theorem sl_to {f : PSt → Rs PyData} {l : PSt → Rs (Option Int)} {ps ps1 ps2 : PSt} {x : List Int} {n : Nat} (h : Ev f ps (.tuple (x.map .int)) ps1) (h2 : Ev l ps1 (some (n : Int)) ps2) : Ev (fSl f fNoPart l) ps (.val (eP (x.take n))) ps2 := by
  have := ev_slT h (ev_partN (ps := ps1)) h2
  rwa [cutD_to, map_take'] at this
theorem dAdd_P {x y : List Int} (h : x.length + y.length ≤ 16777216) : dAdd (eP x) (eP y) = some (eP (x ++ y)) := by
  rw [dAdd_t (by simpa using h), ← List.map_append]
theorem sh_P (x : List Int) : SeqAt.shaped (eP x) = true := by
  unfold SeqAt.shaped; simp [PyData.canLay0, canAll_ints, PyData.depth, depth_ints]
theorem sh_L (x y : List Int) : SeqAt.shaped (eL x y) = true := by
  unfold SeqAt.shaped; simp [PyData.canLay0, PyData.canLayAll0, canAll_ints, PyData.depth, PyData.depthAll, depth_ints]
theorem eqv_P (x y : List Int) : PyData.eqv (eP x) (eP y) = decide (x = y) := by
  simp only [PyData.eqv, eqvAll_ints]
theorem eqv_L (x y a b : List Int) : PyData.eqv (eL x y) (eL a b) = decide (x = a ∧ y = b) := by
  simp only [PyData.eqv, PyData.eqvAll, eqvAll_ints, Bool.and_true, Bool.decide_and]
theorem dEq_P {x y : List Int} {k : Bool} (h : decide (x = y) = k) : dEq (eP x) (eP y) = some (.bool k) := by unfold dEq; rw [if_pos ⟨sh_P x, sh_P y⟩, eqv_P, h]
theorem dEq_P0 {x : List Int} {k : Bool} (h : decide (x = []) = k) : dEq (eP x) (.tuple []) = some (.bool k) := dEq_P (y := []) h
theorem dNe_P {x y : List Int} {k : Bool} (h : (!decide (x = y)) = k) : dNe (eP x) (eP y) = some (.bool k) := by unfold dNe; rw [if_pos ⟨sh_P x, sh_P y⟩, eqv_P, h]
theorem dNe_P0 {x : List Int} {k : Bool} (h : (!decide (x = [])) = k) : dNe (eP x) (.tuple []) = some (.bool k) := dNe_P (y := []) h
theorem dEq_L {x y a b : List Int} {k : Bool} (h : decide (x = a ∧ y = b) = k) : dEq (eL x y) (eL a b) = some (.bool k) := by unfold dEq; rw [if_pos ⟨sh_L x y, sh_L a b⟩, eqv_L, h]
theorem dNe_L {x y a b : List Int} {k : Bool} (h : (!decide (x = a ∧ y = b)) = k) : dNe (eL x y) (eL a b) = some (.bool k) := by unfold dNe; rw [if_pos ⟨sh_L x y, sh_L a b⟩, eqv_L, h]
theorem dLen_P {x : List Int} {k : Int} (h : (x.length : Int) = k) : dLen [eP x] = some (.int k) := dLen_tE (by simpa using h)
local macro_rules | `(tactic| infer_instance) => `(tactic| first
  | (with_reducible apply sl_from)
  | (with_reducible apply sl_to)
  | (with_reducible apply dAdd_P)
  | (with_reducible apply dEq_P)
  | (with_reducible apply dEq_P0)
  | (with_reducible apply dNe_P)
  | (with_reducible apply dNe_P0)
  | (with_reducible apply dEq_L)
  | (with_reducible apply dNe_L)
  | (with_reducible apply dLen_P)
  | (with_reducible exact t_is_number)
  | (with_reducible exact t_alike)
  | (with_reducible apply t_sureE)
  | (with_reducible apply t_is_piece)
  | focus ((with_reducible show Vp _); assumption)
  | (with_reducible exact (cp_le _ _).1)
  | (with_reducible exact (cp_le _ _).2))
/-- the lag of two pieces -/
abbrev lgA (x y : List Int) : List Int := x.drop (cp x y)
abbrev lgB (x y : List Int) : List Int := y.drop (cp x y)
theorem t_lag_between {x y : List Int} : M_lag_between [eP x, eP y] = .ok (.val (eL (lgA x y) (lgB x y))) := by
  show (b_lag_between [some (.val (.tuple (x.map .int))), some (.val (.tuple (y.map .int))), none]).fin = _
  apply fin_retE
  unfold b_lag_between
  apply es_seqS
  repeat infer_instance
theorem t_front_of {x y : List Int} : M_front_of [.tuple [eP x, eP y, eP x]] = .ok (.val (eP (x.take (cp x y)))) := by
  show (b_front_of [some (.val (.tuple [eP x, eP y, eP x])), none, none]).fin = _
  apply fin_retE
  unfold b_front_of
  apply es_seqS
  repeat infer_instance
  apply es_seq
  · refine es_for (ev_seqI (ds := [eP y, eP x]) (ev_data (ev_slT (lo := some 1) (ev_N rfl) (ev_partS ev_K) ev_partN)) rfl) ?_
    apply forL_cons
    repeat infer_instance
    apply forL_cons
    repeat infer_instance
    exact forL_nil
  repeat infer_instance
  · have := cp_le x y
    have e : cp (x.take (cp x y)) x = cp x y := by
      have : ∀ x y : List Int, cp (x.take (cp x y)) x = cp x y := by
        intro x
        induction x with
        | nil => intro y; simp [cp_nil]
        | cons a x ih =>
          intro y
          cases y with
          | nil => rfl
          | cons b y =>
            by_cases h : a = b
            · have e1 : cp (a :: x) (b :: y) = cp x y + 1 := by simp [cp, h]
              rw [e1, List.take_succ_cons]
              simp [cp, ih]
            · have e1 : cp (a :: x) (b :: y) = 0 := by simp [cp, h]
              rw [e1]; rfl
      exact this x y
    rw [e, List.take_take, Nat.min_self]

def Lg (a b : List Int) : Prop := (Vp a ∧ Vp b) ∧ (a = [] ∨ b = [] ∨ a[0]? ≠ b[0]?)
theorem t_front {x y : List Int} (hx : Vp x) (hy : Vp y) : M_front [.tuple [eP x, eP y, eP x]] = .ok (.val (eP (x.take (cp x y)))) := by
  show (b_front [some (.val (.tuple [eP x, eP y, eP x])), none, none]).fin = _
  apply fin_retE
  unfold b_front
  apply es_seqS
  repeat infer_instance
  · exact t_tuple_T3 hx.2 hy.2 hx.2
  repeat infer_instance
  · refine ev_andVP (k := true) (l := true) ?_ (ev_andVP (k := true) (l := true) ?_ ?_)
    repeat infer_instance
    · show dNe (.tuple [eP x, eP y, eP x]) (.tuple []) = _
      unfold dNe
      rw [if_pos]
      · rfl
      · constructor
        · unfold SeqAt.shaped; simp [PyData.canLay0, PyData.canLayAll0, canAll_ints, PyData.depth, PyData.depthAll, depth_ints]
        · exact sh_P []
    repeat infer_instance
    · refine compL_map0 (fun _ => .bool true) _ (by simp) fun e he => ?_
      have hv : ∃ z, e = eP z ∧ Vp z := by
        simp only [List.mem_cons, List.mem_nil_iff, or_false] at he
        rcases he with e | e | e <;> subst e
        · exact ⟨_, rfl, hx⟩
        · exact ⟨_, rfl, hy⟩
        · exact ⟨_, rfl, hx⟩
      obtain ⟨z, rfl, hz⟩ := hv
      refine ⟨_, _, _, et_N, ev_cYes, ev_dataE (ev_callE (ev_cons (ev_N rfl) ev_nil) rfl (t_is_piece hz)) rfl, rfl⟩
    repeat infer_instance
    exact dAll_true fun d hd => by
      obtain ⟨_, _, rfl⟩ := List.mem_map.mp hd
      rfl
  repeat infer_instance
  · exact t_front_of
  repeat infer_instance
theorem t_sure_pieces {p q : PyData} {x y : List Int} (hx : Vp x) (hy : Vp y) (hp : p = eP x ∨ p = .list (x.map .int)) (hq : q = eP y ∨ q = .list (y.map .int)) : M_sure_pieces [.tuple [p, q]] = .ok (.val (.list [eP x, eP y])) := by
  show (b_sure_pieces [some (.val (.tuple [p, q])), none, none]).fin = _
  apply fin_retE
  unfold b_sure_pieces
  have c1 : R_tuple_of 40 [p] = .ok (.val (eP x)) := by
    rcases hp with e | e <;> subst e
    · exact t_tuple_P hx.2
    · exact t_tuple_Pl hx.2
  have c2 : R_tuple_of 40 [q] = .ok (.val (eP y)) := by
    rcases hq with e | e <;> subst e
    · exact t_tuple_P hy.2
    · exact t_tuple_Pl hy.2
  apply es_seqS
  repeat infer_instance
  · refine compL_cons et_N ev_cYes (ev_dataE (ev_callE (ev_cons (ev_N rfl) ev_nil) rfl c1) rfl) (by simp) (compL_cons et_N ev_cYes (ev_dataE (ev_callE (ev_cons (ev_N rfl) ev_nil) rfl c2) rfl) (by simp) rfl)
  repeat infer_instance
  · refine compL_map0 (fun _ => .bool true) _ (by simp) fun e he => ?_
    have hv : ∃ z, e = eP z ∧ Vp z := by
      simp only [PV.data, List.nil_append, List.cons_append, List.mem_cons, List.mem_nil_iff, or_false] at he
      rcases he with e | e <;> subst e
      · exact ⟨_, rfl, hx⟩
      · exact ⟨_, rfl, hy⟩
    obtain ⟨z, rfl, hz⟩ := hv
    refine ⟨_, _, _, et_N, ev_cYes, ev_dataE (ev_callE (ev_cons (ev_N rfl) ev_nil) rfl (t_is_piece hz)) rfl, rfl⟩
  repeat infer_instance
  · exact dAll_true fun d hd => by
      obtain ⟨_, _, rfl⟩ := List.mem_map.mp hd
      rfl
  repeat infer_instance
theorem t_is_lag {a b : List Int} (h : Lg a b) : M_is_lag [eL a b] = .ok (.val (.bool true)) := by
  obtain ⟨⟨ha, hb⟩, hc⟩ := h
  show (b_is_lag [some (.val (eL a b))]).fin = _
  apply fin_retE
  unfold b_is_lag
  apply es_seq
  · apply es_ifF
    · refine ev_to (ev_orP (k := false) (l := false) ?_ (ev_orP (k := false) (l := false) ?_ ?_)) rfl rfl
      repeat infer_instance
      · exact t_is_tuple_of rfl
      repeat infer_instance
    repeat infer_instance
  · apply es_ret
    apply ev_val
    by_cases h1 : a = []
    · apply ev_orVF
      repeat infer_instance
      all_goals simpa using h1
    · by_cases h2 : b = []
      · refine ev_to (ev_orVP (k := false) (l := true) ?_ (ev_orVF ?_)) rfl rfl
        · repeat infer_instance
          all_goals simpa using h1
        · repeat infer_instance
          all_goals simpa using h2
      · have h3 : a[0]? ≠ b[0]? := by
          rcases hc with h | h | h
          · exact absurd h h1
          · exact absurd h h2
          · exact h
        obtain ⟨i, a', rfl⟩ := List.exists_cons_of_ne_nil h1
        obtain ⟨j, b', rfl⟩ := List.exists_cons_of_ne_nil h2
        refine ev_to (ev_orVP (k := false) (l := true) ?_ (ev_orVP (k := false) (l := true) ?_ ?_)) rfl rfl
        · repeat infer_instance
        · repeat infer_instance
        · apply ev_bin
          repeat infer_instance
          simpa using h3
  · rfl
theorem t_sure_lag {a b : List Int} (h : Lg a b) : M_sure_lag [eL a b] = .ok (.val (eL a b)) := by
  show (b_sure_lag [some (.val (eL a b)), none]).fin = _
  apply fin_retE
  unfold b_sure_lag
  apply es_seqS
  repeat infer_instance
  · exact t_tuple_L h.1.1.2 h.1.2.2
  repeat infer_instance
  · exact t_is_lag h
  repeat infer_instance
theorem t_lag_of' {p q : PyData} {x y : List Int} (hx : Vp x) (hy : Vp y) (hp : p = eP x ∨ p = .list (x.map .int)) (hq : q = eP y ∨ q = .list (y.map .int)) : M_lag_of [p, q] = .ok (.val (eL (lgA x y) (lgB x y))) := by
  show (b_lag_of [some (.val p), some (.val q), none, none]).fin = _
  apply fin_retE
  unfold b_lag_of
  apply es_seqA
  repeat infer_instance
  · exact t_sure_pieces hx hy hp hq
  repeat infer_instance
  · exact t_lag_between
  rfl
theorem t_lag_of {x y : List Int} (hx : Vp x) (hy : Vp y) : M_lag_of [eP x, eP y] = .ok (.val (eL (lgA x y) (lgB x y))) := t_lag_of' hx hy (.inl rfl) (.inl rfl)
theorem t_lag_ofl {x y : List Int} (hx : Vp x) (hy : Vp y) : M_lag_of [.list (x.map .int), .list (y.map .int)] = .ok (.val (eL (lgA x y) (lgB x y))) := t_lag_of' hx hy (.inr rfl) (.inr rfl)
theorem t_size_of {a b : List Int} : M_size_of [eL a b] = .ok (.val (.int ((a.length : Int) + b.length))) := by
  show (b_size_of [some (.val (eL a b))]).fin = _
  apply fin_retE
  unfold b_size_of
  repeat infer_instance
theorem t_lag_length {a b : List Int} (h : Lg a b) : M_lag_length [eL a b] = .ok (.val (.int ((a.length : Int) + b.length))) := by
  show (b_lag_length [some (.val (eL a b))]).fin = _
  apply fin_retE
  unfold b_lag_length
  repeat infer_instance
  · exact t_sure_lag h
  repeat infer_instance
  · exact t_size_of
  repeat infer_instance
theorem t_lag_turned {a b : List Int} (h : Lg a b) : M_lag_turned [eL a b] = .ok (.val (eL b a)) := by
  show (b_lag_turned [some (.val (eL a b)), none]).fin = _
  apply fin_retE
  unfold b_lag_turned
  apply es_seqS
  repeat infer_instance
  · exact t_sure_lag h
  repeat infer_instance
theorem t_went_on {a b x y : List Int} (h : a.length + x.length ≤ 16777216) (h' : b.length + y.length ≤ 16777216) : M_went_on [eL a b, eP x, eP y] = .ok (.val (eL (lgA (a ++ x) (b ++ y)) (lgB (a ++ x) (b ++ y)))) := by
  show (b_went_on [some (.val (eL a b)), some (.val (eP x)), some (.val (eP y))]).fin = _
  apply fin_retE
  unfold b_went_on
  repeat infer_instance
  · exact h
  repeat infer_instance
  · exact h'
  repeat infer_instance
  · exact t_lag_between
  repeat infer_instance
theorem t_lag_behind {a b x y : List Int} (h : Lg a b) (hx : Vp x) (hy : Vp y) : M_lag_behind [eL a b, eP x, eP y] = .ok (.val (eL (lgA (a ++ x) (b ++ y)) (lgB (a ++ x) (b ++ y)))) := by
  show (b_lag_behind [some (.val (eL a b)), some (.val (eP x)), some (.val (eP y)), none, none, none]).fin = _
  apply fin_retE
  unfold b_lag_behind
  apply es_seqS
  repeat infer_instance
  · exact t_sure_lag h
  repeat infer_instance
  · exact t_sure_pieces hx hy (.inl rfl) (.inl rfl)
  repeat infer_instance
  · have h1 := h.1.1.2; have h2 := h.1.2.2; have h3 := hx.2; have h4 := hy.2
    exact t_went_on (by omega) (by omega)
  repeat infer_instance
theorem t_is_kept {a b x y : List Int} (h : Lg a b) (hx : Vp x) (hy : Vp y) : M_is_kept [eL a b, eP x, eP y] = .ok (.val (.bool (decide (lgA (a ++ x) (b ++ y) = a ∧ lgB (a ++ x) (b ++ y) = b)))) := by
  show (b_is_kept [some (.val (eL a b)), some (.val (eP x)), some (.val (eP y))]).fin = _
  apply fin_retE
  unfold b_is_kept
  repeat infer_instance
  · exact t_lag_behind h hx hy
  repeat infer_instance
  · exact t_sure_lag h
  repeat infer_instance
theorem t_are_near {x y : List Int} {n : Int} (hx : Vp x) (hy : Vp y) (hn : 0 ≤ n) : M_are_near [eP x, eP y, .int n] = .ok (.val (.bool (decide (((lgA x y).length : Int) + (lgB x y).length ≤ n)))) := by
  show (b_are_near [some (.val (eP x)), some (.val (eP y)), some (.val (.int n)), none, none]).fin = _
  apply fin_retE
  unfold b_are_near
  apply es_seqA
  repeat infer_instance
  · exact t_sure_pieces hx hy (.inl rfl) (.inl rfl)
  repeat infer_instance
  · refine ev_andVP (k := true) (l := true) ?_ ?_
    repeat infer_instance
  repeat infer_instance
  · exact t_lag_between
  repeat infer_instance
  · exact t_size_of
  repeat infer_instance
end TT

/-! K00b: what k00's functions answer -/
namespace TT
open PySem PySem.Spec L2 GL
open PyProof.Rows hiding St
local macro_rules | `(tactic| infer_instance) => `(tactic| first
  | (with_reducible apply es_seqS)
  | (with_reducible apply es_setS)
  | (with_reducible apply es_seqA)
  | (with_reducible apply es_seqE)
  | (with_reducible apply es_ret)
  | (with_reducible apply es_expr)
  | (with_reducible apply es_asg)
  | (with_reducible exact es_skip)
  | (with_reducible exact ev_K)
  | (with_reducible exact ev_nil)
  | ((with_reducible apply ev_nilE); exact rfl)
  | ((with_reducible apply ev_KE); exact rfl)
  | (with_reducible exact ev_cYes)
  | (with_reducible exact ev_partN)
  | (with_reducible apply ev_cons)
  | ((with_reducible apply ev_N); exact rfl)
  | ((with_reducible apply ev_MvS); exact rfl)
  | ((with_reducible apply ev_NoS); exact rfl)
  | (with_reducible apply ev_dataE)
  | (with_reducible apply ev_val)
  | (with_reducible apply ev_bin)
  | (with_reducible apply ev_un)
  | ((with_reducible apply ev_binS))
  | ((with_reducible apply ev_ixS))
  | ((with_reducible apply ev_lenS))
  | (with_reducible apply ev_test)
  | (with_reducible apply ev_notE)
  | (with_reducible apply ev_notVE)
  | (with_reducible apply ev_tupE)
  | (with_reducible apply ev_lstE)
  | (with_reducible apply ev_app)
  | (with_reducible apply ev_appO)
  | (with_reducible apply ev_isi)
  | (with_reducible apply ev_callE)
  | ((with_reducible apply ev_callUE); exact rfl)
  | (with_reducible apply ev_partS)
  | (with_reducible apply ev_seqI)
  | (with_reducible apply ev_lcS)
  | (with_reducible apply et_NS)
  | (with_reducible exact ets_nil)
  | ((with_reducible apply et_TE); exact rfl)
  | ((with_reducible apply et_LE); exact rfl)
  | focus ((with_reducible show List.length _ = _); exact rfl)
  | focus ((with_reducible show List.length (α := PyData) _ ≤ 1000); (simp only [List.length_cons, List.length_nil]; omega))
  | (with_reducible apply ets_cons)
  | (with_reducible apply dAdd_iE)
  | (with_reducible apply dSub_iE)
  | (with_reducible apply dLt_iE)
  | (with_reducible apply dGt_iE)
  | (with_reducible apply dLe_iE)
  | (with_reducible apply dGe_iE)
  | (with_reducible apply dEq_iE)
  | (with_reducible apply dNe_iE)
  | (with_reducible apply dEq_bE)
  | (with_reducible apply dNe_bE)
  | (with_reducible apply dLen_lE)
  | (with_reducible apply dLen_tE)
  | (with_reducible exact dAbs_i)
  | (with_reducible exact dInt_i)
  | (with_reducible exact dInt_b)
  | (with_reducible exact dTuple_l)
  | (with_reducible exact dTuple_t)
  | focus ((with_reducible show dTuple _ = _); exact rfl)
  | (with_reducible exact dList_l)
  | (with_reducible exact dList_t)
  | (with_reducible exact dMin2_i)
  | (with_reducible exact dMax2_i)
  | focus ((with_reducible show _ = some (some _)); exact rfl)
  | (with_reducible exact data_val)
  | (with_reducible exact data_own)
  | focus ((with_reducible show (!_) = _); exact rfl)
  | ((with_reducible apply look_val); exact rfl)
  | ((with_reducible apply look_own); exact rfl)
  | focus ((with_reducible show seqOf _ = _); exact rfl)
  | focus ((with_reducible show @Eq PV _ _); exact rfl)
  | focus ((with_reducible show @Eq PSt _ _); first | (focus (dsimp only [List.set, List.set_cons_succ, List.set_cons_zero, wipeP, restP, keepV, List.getElem?_cons_succ, List.getElem?_cons_zero]; try exact rfl)) | exact rfl)
  | focus ((with_reducible show isaD _ _ = _); exact rfl)
  | focus ((with_reducible show isa2 _ _ _ = _); exact rfl)
  | focus ((with_reducible show dIx _ _ = _); first | exact rfl | exact dIx_t0 rfl | exact dIx_l0 rfl)
  | focus ((with_reducible show (_ && _) = _); exact rfl)
  | focus ((with_reducible show (_ || _) = _); exact rfl)
  | (with_reducible apply dMul_iE)
  | (with_reducible apply dMod_iE)
  | (with_reducible apply dFdiv_iE)
  | (with_reducible exact (rfl : (_ : Bool) = _))
  | (with_reducible exact (rfl : (_ : Int) = _))
  | exact decide_eq_true (by omega)
  | exact decide_eq_false (by omega)
  | focus ((with_reducible show (_ : Int) = _); omega)
  | focus ((with_reducible show (_ : Int) < _); omega)
  )
def endsW (p e : List Int) : Bool := decide (e.length ≤ p.length ∧ p.drop (p.length - e.length) = e)
theorem sl_fromI {f : PSt → Rs PyData} {l : PSt → Rs (Option Int)} {ps ps1 ps2 : PSt} {x : List Int} {i : Int} {n : Nat} (h : Ev f ps (.tuple (x.map .int)) ps1) (h2 : Ev l ps1 (some i) ps2) (e : i = (n : Int)) (hn : n ≤ x.length) : Ev (fSl f l fNoPart) ps (.val (eP (x.drop n))) ps2 := by subst e; exact sl_from h h2 hn
theorem sl_toI {f : PSt → Rs PyData} {l : PSt → Rs (Option Int)} {ps ps1 ps2 : PSt} {x : List Int} {i : Int} {n : Nat} (h : Ev f ps (.tuple (x.map .int)) ps1) (h2 : Ev l ps1 (some i) ps2) (e : i = (n : Int)) : Ev (fSl f fNoPart l) ps (.val (eP (x.take n))) ps2 := by subst e; exact sl_to h h2
local macro_rules | `(tactic| infer_instance) => `(tactic| first
  | (with_reducible apply sl_fromI)
  | (with_reducible apply sl_toI)
  | (with_reducible apply dAdd_P)
  | (with_reducible apply dEq_P)
  | (with_reducible apply dEq_P0)
  | (with_reducible apply dNe_P)
  | (with_reducible apply dNe_P0)
  | (with_reducible apply dEq_L)
  | (with_reducible apply dNe_L)
  | (with_reducible apply dLen_P)
  | (with_reducible exact t_is_number)
  | (with_reducible exact t_alike)
  | (with_reducible exact t_lag_between)
  | (with_reducible apply t_sureE)
  | (with_reducible apply t_is_piece)
  | focus ((with_reducible show Vp _); assumption)
  | (with_reducible exact (cp_le _ _).1)
  | (with_reducible exact (cp_le _ _).2))
theorem t_ends {p e : List Int} : M_ends_with [eP p, eP e] = .ok (.val (.bool (endsW p e))) := by
  show (b_ends_with [some (.val (eP p)), some (.val (eP e))]).fin = _
  by_cases h : e.length ≤ p.length
  · apply fin_retE
    unfold b_ends_with
    apply es_ret
    apply ev_val
    · refine ev_andVP (k := true) (l := decide (p.drop (p.length - e.length) = e)) ?_ ?_
      repeat infer_instance
      · exact (Int.ofNat_sub h).symm
      repeat infer_instance
      · omega
      repeat infer_instance
    · unfold endsW; simp [h]
  · apply fin_retE
    unfold b_ends_with
    apply es_ret
    apply ev_val
    · apply ev_andVF
      repeat infer_instance
    · unfold endsW; simp [h]
local macro_rules | `(tactic| infer_instance) => `(tactic| first
  | (with_reducible exact t_ends))
theorem t_through1 {a b c d : List Int} (h : Lg a b) (h' : Lg c d) (hw : endsW b c = true) : M_lag_through [eL a b, eL c d] = .ok (.val (eL (lgA a (b.take (b.length - c.length) ++ d)) (lgB a (b.take (b.length - c.length) ++ d)))) := by
  show (b_lag_through [some (.val (eL a b)), some (.val (eL c d)), none, none]).fin = _
  apply fin_retE
  unfold b_lag_through
  refine es_seq (es_par (ev_callE (ev_cons (ev_N rfl) ev_nil) rfl (t_sure_lag h)) (ev_callE (ev_cons (ev_N rfl) ev_nil) rfl (t_sure_lag h'))) ?_
  dsimp only [List.set]
  apply es_seqR
  apply es_ifT
  · rw [← hw]
    repeat infer_instance
  repeat infer_instance
  · have := of_decide_eq_true hw
    exact (Int.ofNat_sub this.1).symm
  repeat infer_instance
  · have h1 := h.1.2.2; have h2 := h'.1.2.2
    simp only [List.length_take]; omega
  repeat infer_instance
theorem t_through2 {a b c d : List Int} (h : Lg a b) (h' : Lg c d) (hw : endsW b c = false) (hw' : endsW c b = true) : M_lag_through [eL a b, eL c d] = .ok (.val (eL (lgA (c.take (c.length - b.length) ++ a) d) (lgB (c.take (c.length - b.length) ++ a) d))) := by
  show (b_lag_through [some (.val (eL a b)), some (.val (eL c d)), none, none]).fin = _
  apply fin_retE
  unfold b_lag_through
  refine es_seq (es_par (ev_callE (ev_cons (ev_N rfl) ev_nil) rfl (t_sure_lag h)) (ev_callE (ev_cons (ev_N rfl) ev_nil) rfl (t_sure_lag h'))) ?_
  dsimp only [List.set]
  apply es_seq
  · apply es_ifF
    · rw [← hw]
      repeat infer_instance
    repeat infer_instance
  repeat infer_instance
  · exact hw'
  repeat infer_instance
  · have := of_decide_eq_true hw'
    exact (Int.ofNat_sub this.1).symm
  repeat infer_instance
  · have h1 := h.1.1.2; have h2 := h'.1.1.2
    simp only [List.length_take]; omega
  repeat infer_instance
theorem t_through3 {a b c d : List Int} (h : Lg a b) (h' : Lg c d) (hw : endsW b c = false) (hw' : endsW c b = false) : M_lag_through [eL a b, eL c d] = .exc ⟨"Unfit", none⟩ := by
  show (b_lag_through [some (.val (eL a b)), some (.val (eL c d)), none, none]).fin = _
  apply fin_exc
  unfold b_lag_through
  refine es_seq (es_par (ev_callE (ev_cons (ev_N rfl) ev_nil) rfl (t_sure_lag h)) (ev_callE (ev_cons (ev_N rfl) ev_nil) rfl (t_sure_lag h'))) ?_
  dsimp only [List.set]
  apply es_seq
  · apply es_ifF
    · rw [← hw]
      repeat infer_instance
    repeat infer_instance
  · apply es_seqX
    apply es_exprX
    refine exc_callX (x := ⟨"Unfit", none⟩) (ds := [.bool (endsW c b)]) (ps1 := [some (.val (eL a b)), some (.val (eL c d)), some (.val (eL a b)), some (.val (eL c d))]) ?_ ?_ rfl
    · repeat infer_instance
    · rw [hw']; exact t_sureX
theorem t_heard {x y : PyData} {p : PV} (h : M_lag_through [x, y] = .ok p) : M__law_heard [x, y] = .ok p := by
  show (b__law_heard [some (.val x), some (.val y)]).fin = _
  apply fin_ret
  unfold b__law_heard
  apply es_try
  repeat infer_instance
  · exact h
theorem t_heardX {x y : PyData} (h : M_lag_through [x, y] = .exc ⟨"Unfit", none⟩) : M__law_heard [x, y] = .ok (.val (.str "unfit")) := by
  show (b__law_heard [some (.val x), some (.val y)]).fin = _
  refine fin_ret (ps1 := [some (.val x), some (.val y)]) ?_
  unfold b__law_heard
  refine es_tryX (ret_callX (ev_cons (ev_N rfl) (ev_cons (ev_N rfl) ev_nil)) h rfl) rfl (ps2 := [some (.val x), some (.val y)]) ?_
  repeat infer_instance

end TT

/-! K00b: what k00's functions answer -/
namespace TT
open PySem PySem.Spec L2 GL
open PyProof.Rows hiding St
local macro_rules | `(tactic| infer_instance) => `(tactic| first
  | (with_reducible apply es_seqS)
  | (with_reducible apply es_setS)
  | (with_reducible apply es_seqA)
  | (with_reducible apply es_seqE)
  | (with_reducible apply es_ret)
  | (with_reducible apply es_expr)
  | (with_reducible apply es_asg)
  | (with_reducible exact es_skip)
  | (with_reducible exact ev_K)
  | (with_reducible exact ev_nil)
  | ((with_reducible apply ev_nilE); exact rfl)
  | ((with_reducible apply ev_KE); exact rfl)
  | (with_reducible exact ev_cYes)
  | (with_reducible exact ev_partN)
  | (with_reducible apply ev_cons)
  | ((with_reducible apply ev_N); exact rfl)
  | ((with_reducible apply ev_MvS); exact rfl)
  | ((with_reducible apply ev_NoS); exact rfl)
  | (with_reducible apply ev_dataE)
  | (with_reducible apply ev_val)
  | (with_reducible apply ev_bin)
  | (with_reducible apply ev_un)
  | ((with_reducible apply ev_binS))
  | ((with_reducible apply ev_ixS))
  | ((with_reducible apply ev_lenS))
  | (with_reducible apply ev_test)
  | (with_reducible apply ev_notE)
  | (with_reducible apply ev_notVE)
  | (with_reducible apply ev_tupE)
  | (with_reducible apply ev_lstE)
  | (with_reducible apply ev_app)
  | (with_reducible apply ev_appO)
  | (with_reducible apply ev_isi)
  | (with_reducible apply ev_callE)
  | ((with_reducible apply ev_callUE); exact rfl)
  | (with_reducible apply ev_partS)
  | (with_reducible apply ev_seqI)
  | (with_reducible apply ev_lcS)
  | (with_reducible apply et_NS)
  | (with_reducible exact ets_nil)
  | ((with_reducible apply et_TE); exact rfl)
  | ((with_reducible apply et_LE); exact rfl)
  | focus ((with_reducible show List.length _ = _); exact rfl)
  | focus ((with_reducible show List.length (α := PyData) _ ≤ 1000); (simp only [List.length_cons, List.length_nil]; omega))
  | (with_reducible apply ets_cons)
  | (with_reducible apply dAdd_iE)
  | (with_reducible apply dSub_iE)
  | (with_reducible apply dLt_iE)
  | (with_reducible apply dGt_iE)
  | (with_reducible apply dLe_iE)
  | (with_reducible apply dGe_iE)
  | (with_reducible apply dEq_iE)
  | (with_reducible apply dNe_iE)
  | (with_reducible apply dEq_bE)
  | (with_reducible apply dNe_bE)
  | (with_reducible apply dLen_lE)
  | (with_reducible apply dLen_tE)
  | (with_reducible exact dAbs_i)
  | (with_reducible exact dInt_i)
  | (with_reducible exact dInt_b)
  | (with_reducible exact dTuple_l)
  | (with_reducible exact dTuple_t)
  | focus ((with_reducible show dTuple _ = _); exact rfl)
  | (with_reducible exact dList_l)
  | (with_reducible exact dList_t)
  | (with_reducible exact dMin2_i)
  | (with_reducible exact dMax2_i)
  | focus ((with_reducible show _ = some (some _)); exact rfl)
  | (with_reducible exact data_val)
  | (with_reducible exact data_own)
  | focus ((with_reducible show (!_) = _); exact rfl)
  | ((with_reducible apply look_val); exact rfl)
  | ((with_reducible apply look_own); exact rfl)
  | focus ((with_reducible show seqOf _ = _); exact rfl)
  | focus ((with_reducible show @Eq PV _ _); exact rfl)
  | focus ((with_reducible show @Eq PSt _ _); first | (focus (dsimp only [List.set, List.set_cons_succ, List.set_cons_zero, wipeP, restP, keepV, List.getElem?_cons_succ, List.getElem?_cons_zero]; try exact rfl)) | exact rfl)
  | focus ((with_reducible show isaD _ _ = _); exact rfl)
  | focus ((with_reducible show isa2 _ _ _ = _); exact rfl)
  | focus ((with_reducible show dIx _ _ = _); first | exact rfl | exact dIx_t0 rfl | exact dIx_l0 rfl)
  | focus ((with_reducible show (_ && _) = _); exact rfl)
  | focus ((with_reducible show (_ || _) = _); exact rfl)
  | (with_reducible apply dMul_iE)
  | (with_reducible apply dMod_iE)
  | (with_reducible apply dFdiv_iE)
  | (with_reducible exact (rfl : (_ : Bool) = _))
  | (with_reducible exact (rfl : (_ : Int) = _))
  | exact decide_eq_true (by omega)
  | exact decide_eq_false (by omega)
  | focus ((with_reducible show (_ : Int) = _); omega)
  | focus ((with_reducible show (_ : Int) < _); omega)
  )
local macro_rules | `(tactic| infer_instance) => `(tactic| first
  | (with_reducible apply sl_fromI)
  | (with_reducible apply sl_toI)
  | (with_reducible apply dAdd_P)
  | (with_reducible apply dEq_P)
  | (with_reducible apply dEq_P0)
  | (with_reducible apply dNe_P)
  | (with_reducible apply dNe_P0)
  | (with_reducible apply dEq_L)
  | (with_reducible apply dNe_L)
  | (with_reducible apply dLen_P)
  | (with_reducible exact t_is_number)
  | (with_reducible exact t_alike)
  | (with_reducible exact t_lag_between)
  | (with_reducible apply t_sureE)
  | (with_reducible apply t_is_piece)
  | focus ((with_reducible show Vp _); assumption)
  | (with_reducible exact (cp_le _ _).1)
  | (with_reducible exact (cp_le _ _).2))
local macro_rules | `(tactic| infer_instance) => `(tactic| first
  | (with_reducible exact t_ends))
theorem es_seqIx {f fi : PSt → Rs PyData} {g2 : PSt → Os} {ps ps1 ps2 ps3 : PSt} {i j : Nat} {d : PyData} {k : Int} {es es0 : List PyData} {o : Os} (h : Ev f ps d ps1) (h0 : ps1[i]? = some (some (.own (.list es0)))) (hi : Ev fi ps1 (.int k) ps2) (h1 : ps2[i]? = some (some (.own (.list es)))) (hj : ixN es.length k = some j) (hs : ps2.set i (some (.own (.list (es.set j d)))) = ps3) (h2 : Es g2 ps3 o) : Es (fSeq (fSetIx i fi f) g2) ps o := by subst hs; exact es_seq (es_setIx h h0 hi h1 hj) h2
theorem es_setIxE {f fi : PSt → Rs PyData} {ps ps1 ps2 ps3 : PSt} {i j : Nat} {d : PyData} {k : Int} {es es0 : List PyData} (h : Ev f ps d ps1) (h0 : ps1[i]? = some (some (.own (.list es0)))) (hi : Ev fi ps1 (.int k) ps2) (h1 : ps2[i]? = some (some (.own (.list es)))) (hj : ixN es.length k = some j) (hs : ps2.set i (some (.own (.list (es.set j d)))) = ps3) : Es (fSetIx i fi f) ps (.nx ps3) := by subst hs; exact es_setIx h h0 hi h1 hj
local macro_rules | `(tactic| infer_instance) => `(tactic| first
  | (with_reducible apply es_seqIx)
  | (with_reducible apply es_setIxE)
  | focus ((with_reducible show ixN _ _ = _); exact rfl)
  | focus ((with_reducible show _ = some (some (PV.own _))); exact rfl)
  | focus ((with_reducible show _ ∨ _); first | (left; omega) | (right; omega))
  | focus ((with_reducible show _ ∧ _ < (1073741824 : Int)); omega)
  | focus ((with_reducible show dIs _ _ = _); exact rfl)
  | focus ((with_reducible show dIsNot _ _ = _); exact rfl)
  | (with_reducible exact decide_eq_true rfl)
  | focus ((with_reducible show decide (@Eq Bool _ _) = _); exact rfl))
/-- the urn: its place 0 and 1 at least 0, its place 2 at most N -/
def Urn (N : Nat) (u : List PyData) : Prop := ∃ x y z : Int, u = [.int x, .int y, .int z] ∧ 0 ≤ x ∧ 0 ≤ y ∧ 0 ≤ z ∧ z ≤ N
theorem Urn.le {N M : Nat} {u : List PyData} (h : Urn N u) (hn : N ≤ M) : Urn M u := by
  obtain ⟨x, y, z, e, a, b, c, d⟩ := h
  exact ⟨x, y, z, e, a, b, c, by omega⟩
theorem t_box {c : Int} : ∃ u, M__law_box [.list [.int c], .int 0] = .ok (.own (.list u)) ∧ Urn 0 u := by
  refine ⟨[.int ((if c < 0 then -c else c) * (if (decide ((10 : Int) ^ 18 ≤ (if c < 0 then -c else c))) then 1 else 0)), .int (c % 2305843009213693951 + 41183 * 0 + 78041058), .int 0], ?_, ⟨_, _, _, rfl, ?_, ?_, by omega, by omega⟩⟩
  · show (b__law_box [some (.val (.list [.int c])), some (.val (.int 0)), none]).fin = _
    apply fin_retE
    unfold b__law_box
    apply es_seqS
    · apply ev_val
      apply ev_ifT
      · repeat infer_instance
        rfl
      repeat infer_instance
    repeat infer_instance
    · show dPow (.int 10) (.int 18) = some (.int (10 ^ 18))
      rfl
    repeat infer_instance
  · split <;> split <;> omega
  · have := Int.emod_nonneg c (b := 2305843009213693951) (by decide); omega
theorem t_take {N : Nat} {u : List PyData} {n : Int} (hu : Urn N u) (hN : N < 2 ^ 60) (hn : 0 < n) (hn' : n < 1073741824) : ∃ k u', M__law_take u [.int n] = .ok (.val (.int k)) u' ∧ (0 ≤ k ∧ k < n) ∧ Urn (N + 1) u' := by
  obtain ⟨x, y, z, rfl, hx, hy, hz, hz'⟩ := hu
  by_cases h : 0 < x
  · refine ⟨x % n, [.int (x / n), .int y, .int z], ?_, ⟨Int.emod_nonneg _ (by omega), Int.emod_lt_of_pos _ hn⟩, ⟨_, _, _, rfl, Int.ediv_nonneg hx (by omega), hy, hz, by omega⟩⟩
    show (b__law_take [some (.own (.list [.int x, .int y, .int z])), some (.val (.int n)), none, none, none, none]).finU = _
    apply finU_retE
    unfold b__law_take
    apply es_seqR
    apply es_ifT
    repeat infer_instance
    rfl
  · have hh : ∃ m : Int, M__law_take [.int x, .int y, .int z] [.int n] = .ok (.val (.int (m % n))) [.int x, .int y, .int (z + 1)] := by
      apply Exists.intro
      show (b__law_take [some (.own (.list [.int x, .int y, .int z])), some (.val (.int n)), none, none, none, none]).finU = _
      apply finU_retE
      unfold b__law_take
      apply es_seq
      · apply es_ifF
        repeat infer_instance
      repeat infer_instance
      rfl
    obtain ⟨m, hm⟩ := hh
    exact ⟨_, _, hm, ⟨Int.emod_nonneg _ (by omega), Int.emod_lt_of_pos _ hn⟩, ⟨_, _, _, rfl, hx, hy, by omega, by omega⟩⟩

theorem t_piece {N : Nat} {u : List PyData} {m : Nat} (hu : Urn N u) (hN : N + m + 1 < 2 ^ 50) (hm : m ≤ 20) : ∃ p u', M__law_piece u [.int m] = .ok (.val (eP p)) u' ∧ (Vp p ∧ p.length ≤ m) ∧ Urn (N + m + 1) u' := by
  obtain ⟨k, u1, h1, hk, hu1⟩ := t_take (n := (m : Int) + 1) hu (by omega) (by omega) (by omega)
  have key : ∀ (ds : List PyData) (acc : List Int) (u : List PyData) (N : Nat), Urn N u → N + ds.length < 2 ^ 55 → ds.length + acc.length ≤ 1000 → ∃ p u', compL (uN 2) cYes (fBin dIx (fTup (fCons (fK (.int 0)) (fCons (fK (.int 1)) (fCons (fK (.int 1)) (fCons (fK (.int 2)) (fun ps => .ok [] ps)))))) (fun ps => ((fCallU 0 1 M__law_take (fCons (fK (.int 4)) (fun ps => .ok [] ps))) ps).map PV.data)) [2] ds [some (.own (.list u)), some (.val (.int m)), none] (acc.map .int) = .ok ((acc ++ p).map .int) [some (.own (.list u')), some (.val (.int m)), none] ∧ ((∀ i ∈ p, 0 ≤ i ∧ i ≤ 9) ∧ p.length = ds.length) ∧ Urn (N + ds.length) u' := by
    intro ds
    induction ds with
    | nil => intro acc u N hu _ _; exact ⟨[], u, by simp [compL], ⟨by simp, rfl⟩, hu⟩
    | cons d ds ih =>
      intro acc u N hu hN hl
      simp only [List.length_cons] at hN hl
      obtain ⟨k, u1, h1, hk, hu1⟩ := t_take (n := 4) hu (by omega) (by omega) (by omega)
      obtain ⟨q, hq, hq'⟩ : ∃ q : Int, dIx (.tuple [.int 0, .int 1, .int 1, .int 2]) (.int k) = some (.int q) ∧ 0 ≤ q ∧ q ≤ 9 := by
        have : k = 0 ∨ k = 1 ∨ k = 2 ∨ k = 3 := by omega
        rcases this with e | e | e | e <;> subst e
        · exact ⟨0, rfl, by omega⟩
        · exact ⟨1, rfl, by omega⟩
        · exact ⟨1, rfl, by omega⟩
        · exact ⟨2, rfl, by omega⟩
      obtain ⟨p, u', e1, e2, e3⟩ := ih (acc ++ [q]) u1 (N + 1) hu1 (by omega) (by simp; omega)
      refine ⟨q :: p, u', ?_, ⟨?_, by simp [e2.2]⟩, e3.le (by simp; omega)⟩
      · have e : acc ++ q :: p = (acc ++ [q]) ++ p := by simp
        rw [e, ← e1]
        refine compL_cons et_N ev_cYes (ps3 := [some (.own (.list u1)), some (.val (.int m)), some (.val d)]) (e := .int q) ?_ (by simp; omega) ?_
        · repeat infer_instance
          · exact h1
          repeat infer_instance
          · exact hq
        · rw [List.map_append]; rfl
      · intro i hi
        rcases List.mem_cons.mp hi with e | e
        · subst e; exact hq'
        · exact e2.1 i e
  obtain ⟨p, u', e1, e2, e3⟩ := key (rangeD 0 k.toNat) [] u1 (N + 1) hu1 (by unfold rangeD; simp; omega) (by unfold rangeD; simp; omega)
  have hl : (rangeD 0 k.toNat).length = k.toNat := by unfold rangeD; simp
  rw [hl] at e2 e3
  refine ⟨p, u', ?_, ⟨⟨e2.1, by omega⟩, by omega⟩, e3.le (by omega)⟩
  show (b__law_piece [some (.own (.list u)), some (.val (.int m)), none]).finU = _
  apply finU_retE
  unfold b__law_piece
  apply es_ret
  apply ev_val
  apply ev_app
  · apply ev_cons
    apply ev_dataE
    · refine ev_lcS (ev_range1 (k := k) (ps1 := [some (.own (.list u1)), some (.val (.int m)), none]) ?_ (by omega)) rfl e1 rfl
      repeat infer_instance
      · exact h1
      repeat infer_instance
    repeat infer_instance
  repeat infer_instance
  rfl

theorem t_cells {ns : List Int} (hl : ns.length ≤ 63) : ∃ c : Int, M__law_cells [.list (ns.map .int), .int 1] = .ok (.own (.list [.int c])) := by
  have key : ∀ (ms : List Int) (j : Nat) (c : Int) (s t r : Option PV), j + ms.length ≤ 100 → ∃ (c' : Int) (s' t' r' : Option PV), forL (uTup 2 (uCons (uN 3) (uCons (uN 4) uNil))) (fSeq (fSet 5 (fun ps => ((fBin dMod (fApp dInt (fCons (fN 3) (fun ps => .ok [] ps))) (fLenS 2)) ps).map PV.val)) (fSetIx 2 (fN 5) (fBin dAdd (fIxS 2 (fN 5)) (fBin dMul (fN 4) (fBin dAdd (fN 3) (fK (.int 2)))))))
      ((ms.zipIdx j).map fun p => PyData.tuple [.int (p.2 : Nat), .int p.1]) [some (.val (.list (ns.map .int))), some (.val (.int 1)), some (.own (.list [.int c])), s, t, r] = .nx [some (.val (.list (ns.map .int))), some (.val (.int 1)), some (.own (.list [.int c'])), s', t', r'] := by
    intro ms
    induction ms with
    | nil => intro j c s t r _; exact ⟨c, s, t, r, rfl⟩
    | cons m ms ih =>
      intro j c s t r hj
      simp only [List.length_cons] at hj
      obtain ⟨c', s', t', r', e⟩ := ih (j + 1) (c + m * ((j : Int) + 2)) (some (.val (.int j))) (some (.val (.int m))) (some (.val (.int 0))) (by omega)
      refine ⟨c', s', t', r', ?_⟩
      rw [List.zipIdx_cons, List.map_cons, ← e]
      refine forL_cons (ps1 := [some (.val (.list (ns.map .int))), some (.val (.int 1)), some (.own (.list [.int c])), some (.val (.int j)), some (.val (.int m)), r]) rfl (ps2 := [some (.val (.list (ns.map .int))), some (.val (.int 1)), some (.own (.list [.int (c + m * ((j : Int) + 2))])), some (.val (.int j)), some (.val (.int m)), some (.val (.int 0))]) ?_ rfl
      refine es_seqS (ps1 := [some (.val (.list (ns.map .int))), some (.val (.int 1)), some (.own (.list [.int c])), some (.val (.int j)), some (.val (.int m)), r]) (ev_val (d := .int 0) ?_) rfl ?_
      · repeat infer_instance
        all_goals simp
      · dsimp only [List.set]
        refine es_to (o1 := .nx [some (.val (.list (ns.map .int))), some (.val (.int 1)), some (.own (.list [.int (c + m * ((j : Int) + 2))])), some (.val (.int j)), some (.val (.int m)), some (.val (.int 0))]) ?_ rfl
        refine es_setIxE (k := 0) (j := 0) (d := .int (c + m * ((j : Int) + 2))) (es := [.int c]) (es0 := [.int c]) (ps1 := [some (.val (.list (ns.map .int))), some (.val (.int 1)), some (.own (.list [.int c])), some (.val (.int j)), some (.val (.int m)), some (.val (.int 0))]) (ps2 := [some (.val (.list (ns.map .int))), some (.val (.int 1)), some (.own (.list [.int c])), some (.val (.int j)), some (.val (.int m)), some (.val (.int 0))]) ?_ rfl ?_ rfl rfl rfl
        · repeat infer_instance
        · repeat infer_instance
  have hcut : ∀ lo hi : Option Int, ∃ ms : List Int, cutD (ns.map PyData.int) lo hi = ms.map .int ∧ ms.length ≤ ns.length := fun lo hi => by
    refine ⟨(ns.drop (HT.sIx (ns.map PyData.int).length 0 lo)).take (HT.sIx (ns.map PyData.int).length (ns.map PyData.int).length hi - HT.sIx (ns.map PyData.int).length 0 lo), ?_, by simp; omega⟩
    unfold GL.cutD; rw [map_drop', map_take']
  have h1 : ∃ c0 : Int, Ev (fOrT (fAppO dList (fCons (fun ps => ((fSl (fN 0) fNoPart (fSomePart (fN 1))) ps).map PV.data) (fun ps => .ok [] ps))) (fLst (fCons (fK (.int 0)) (fun ps => .ok [] ps)))) [some (.val (.list (ns.map .int))), some (.val (.int 1)), none, none, none, none] (.own (.list [.int c0])) [some (.val (.list (ns.map .int))), some (.val (.int 1)), none, none, none, none] := by
    have hs : Ev (fAppO dList (fCons (fun ps => ((fSl (fN 0) fNoPart (fSomePart (fN 1))) ps).map PV.data) (fun ps => .ok [] ps))) [some (.val (.list (ns.map .int))), some (.val (.int 1)), none, none, none, none] (.own (.list (cutD (ns.map .int) none (some ((1 : Nat) : Int))))) [some (.val (.list (ns.map .int))), some (.val (.int 1)), none, none, none, none] :=
      ev_appO (ev_cons (ev_data (ev_slL (ev_N rfl) ev_partN (ev_partS (ev_N rfl)))) ev_nil) rfl
    rw [cutD_to] at hs
    cases ns with
    | nil => exact ⟨0, ev_orT2 hs rfl (ev_lstE (ev_cons ev_K ev_nil) (by simp))⟩
    | cons n ns => exact ⟨n, ev_orT1 hs rfl⟩
  obtain ⟨c0, h1⟩ := h1
  obtain ⟨ms, hm, hml⟩ := hcut (some 1) (some 63)
  obtain ⟨c', s', t', r', e⟩ := key ms 0 c0 none none none (by omega)
  refine ⟨c', ?_⟩
  show (b__law_cells [some (.val (.list (ns.map .int))), some (.val (.int 1)), none, none, none, none]).fin = _
  apply fin_retE
  unfold b__law_cells
  · refine es_seqS h1 rfl ?_
    dsimp only [List.set]
    refine es_seq (ps1 := [some (.val (.list (ns.map .int))), some (.val (.int 1)), some (.own (.list [.int c'])), s', t', r']) (es_for (ds := enumD (ms.map .int)) (ps1 := [some (.val (.list (ns.map .int))), some (.val (.int 1)), some (.own (.list [.int c0])), none, none, none]) (ev_enum (ev_cons (ev_dataE (ev_slL (ev_N rfl) (ev_partS (ev_N rfl)) (ev_partS ev_K)) ?_) ev_nil)) ?_) ?_
    · rw [← hm]; rfl
    · have : enumD (ms.map PyData.int) = (ms.zipIdx 0).map fun p => PyData.tuple [.int (p.2 : Nat), .int p.1] := by
        unfold enumD
        rw [List.mapIdx_eq_zipIdx_map, List.zipIdx_map, List.map_map]
        rfl
      rw [this]; exact e
    · exact es_ret (ev_MvS rfl rfl)
  · rfl
theorem t_same_i {k : Nat} {i : Int} : R__law_same (k + 1) [.int i, .int i] = .ok (.val (.bool true)) := by
  show (b__law_same (R__law_same k) [some (.val (.int i)), some (.val (.int i)), none, none]).fin = _
  apply fin_retE
  unfold b__law_same
  apply es_seq
  · apply es_ifF
    repeat infer_instance
  apply es_seq
  · apply es_ifF
    · refine ev_to (ev_orP (k := false) (l := false) ?_ ?_) rfl rfl
      repeat infer_instance
    repeat infer_instance
  apply es_ret
  apply ev_val
  · refine ev_andVP (k := true) (l := true) ?_ (ev_andVP (k := true) (l := true) ?_ ?_)
    repeat infer_instance
  · rfl
theorem t_same_b {k : Nat} {i : Bool} : R__law_same (k + 1) [.bool i, .bool i] = .ok (.val (.bool true)) := by
  show (b__law_same (R__law_same k) [some (.val (.bool i)), some (.val (.bool i)), none, none]).fin = _
  apply fin_retE
  unfold b__law_same
  apply es_seq
  · apply es_ifF
    repeat infer_instance
  apply es_seqR
  apply es_ifT
  · refine ev_to (ev_orP (k := false) (l := true) ?_ ?_) rfl rfl
    repeat infer_instance
  apply es_ret
  apply ev_val
  · refine ev_andVP (k := true) (l := true) ?_ (ev_andVP (k := true) (l := true) ?_ (ev_andVP (k := true) (l := true) ?_ ?_))
    repeat infer_instance
  · rfl
theorem t_same_s {k : Nat} {ds : List PyData} {d : PyData} (hl : ds.length ≤ 1000) (hd : d = .list ds ∨ d = .tuple ds) (h : ∀ e ∈ ds, R__law_same k [e, e] = .ok (.val (.bool true))) : R__law_same (k + 1) [d, d] = .ok (.val (.bool true)) := by
  show (b__law_same (R__law_same k) [some (.val d), some (.val d), none, none]).fin = _
  apply fin_retE
  unfold b__law_same
  apply es_seqR
  apply es_ifT
  · refine ev_test (ev_isi (d := d) (ev_N rfl) (k := true) ?_)
    rcases hd with e | e <;> subst e <;> rfl
  obtain ⟨kl, hkl, kt, hkt, hn⟩ : ∃ kl, isaD "list" d = some kl ∧ ∃ kt, isaD "tuple" d = some kt ∧ dLen [d] = some (.int ds.length) := by
    rcases hd with e | e <;> subst e
    · exact ⟨_, rfl, _, rfl, rfl⟩
    · exact ⟨_, rfl, _, rfl, rfl⟩
  have hz : (fZip (fCons (fN 0) (fCons (fN 1) (fun ps => .ok [] ps)))) [some (.val d), some (.val d), none, none] = .ok (zipD ds ds) [some (.val d), some (.val d), none, none] := by
    rcases hd with e | e <;> subst e
    · exact ev_zipL (ev_cons (ev_N rfl) (ev_cons (ev_N rfl) ev_nil))
    · exact ev_zipT (ev_cons (ev_N rfl) (ev_cons (ev_N rfl) ev_nil))
  apply es_seq
  · apply es_ifF
    · refine ev_to (ev_orP (k := false) (l := false) ?_ ?_) rfl rfl
      · refine ev_test (ev_bin (ev_isi (ev_N rfl) hkl) (ev_isi (ev_N rfl) hkl) (dNe_bE ?_)); simp
      · refine ev_test (ev_bin (ev_isi (ev_N rfl) hkt) (ev_isi (ev_N rfl) hkt) (dNe_bE ?_)); simp
    repeat infer_instance
  apply es_ret
  apply ev_val
  · refine ev_andVP (k := true) (l := true) (ev_bin (ev_lenS (look_val rfl) hn) (ev_lenS (look_val rfl) hn) (dEq_iE (by simp))) ?_
    refine ev_app (ev_cons (ev_dataE (ev_lcS hz rfl (compL_map0 (fun _ => .bool true) _ (by unfold zipD; simp; omega) fun e he => ?_) rfl) rfl) ev_nil) (dAll_true fun d hd => ?_)
    · have hv : ∃ z, e = .tuple [z, z] ∧ z ∈ ds := by
        have : ∀ ds : List PyData, e ∈ zipD ds ds → ∃ z, e = .tuple [z, z] ∧ z ∈ ds := by
          intro ds
          induction ds with
          | nil => intro h; simp [zipD] at h
          | cons a ds ih =>
            intro h
            simp only [zipD, List.zipWith_cons_cons, List.mem_cons] at h
            rcases h with e | e
            · exact ⟨a, e, List.mem_cons_self⟩
            · obtain ⟨z, h1, h2⟩ := ih e; exact ⟨z, h1, List.mem_cons_of_mem _ h2⟩
        exact this ds he
      obtain ⟨z, rfl, hz⟩ := hv
      exact ⟨_, _, _, et_TE rfl (ets_cons et_N (ets_cons et_N ets_nil)), ev_cYes, ev_dataE (ev_callE (ev_cons (ev_N rfl) (ev_cons (ev_N rfl) ev_nil)) rfl (h z hz)) rfl, rfl⟩
    · obtain ⟨_, _, rfl⟩ := List.mem_map.mp hd
      rfl
  · rfl
theorem t_same_P {k : Nat} {x : List Int} (h : x.length ≤ 1000) : R__law_same (k + 2) [eP x, eP x] = .ok (.val (.bool true)) := by
  refine t_same_s (ds := x.map .int) (by simpa using h) (.inr rfl) fun e he => ?_
  obtain ⟨i, _, rfl⟩ := List.mem_map.mp he
  exact t_same_i
theorem t_same_L {k : Nat} {x y : List Int} (h : x.length ≤ 1000) (h' : y.length ≤ 1000) : R__law_same (k + 3) [eL x y, eL x y] = .ok (.val (.bool true)) := by
  refine t_same_s (ds := [eP x, eP y]) (by simp) (.inr rfl) fun e he => ?_
  simp only [List.mem_cons, List.mem_nil_iff, or_false] at he
  rcases he with e | e <;> subst e
  · exact t_same_P h
  · exact t_same_P h'
end TT

/-! K00m: lags of lists -/
namespace TT
open PySem PySem.Spec L2 GL
open PyProof.Rows hiding St
theorem cp_app (c x y : List Int) : cp (c ++ x) (c ++ y) = c.length + cp x y := by
  induction c with
  | nil => simp
  | cons a c ih => simp [cp, ih]; omega
theorem cp_self (x : List Int) : cp x x = x.length := by
  have := cp_app x [] []; simpa [cp_nil] using this
theorem cp_comm : ∀ x y : List Int, cp x y = cp y x
  | [], y => by simp [cp_nil, cp_nil']
  | x, [] => by simp [cp_nil, cp_nil']
  | a :: x, b :: y => by
    by_cases h : a = b
    · subst h; simp [cp, cp_comm x y]
    · have h' : ¬ b = a := fun e => h e.symm
      simp [cp, h, h']
theorem cp_take : ∀ x y : List Int, x.take (cp x y) = y.take (cp x y)
  | [], y => by simp [cp_nil]
  | x, [] => by simp [cp_nil']
  | a :: x, b :: y => by
    by_cases h : a = b
    · subst h; simp [cp, cp_take x y]
    · simp [cp, h]
theorem lgA_app (c x y : List Int) : lgA (c ++ x) (c ++ y) = lgA x y := by
  unfold lgA; rw [cp_app, List.drop_append]; simp
theorem lgB_app (c x y : List Int) : lgB (c ++ x) (c ++ y) = lgB x y := by
  unfold lgB; rw [cp_app, List.drop_append]; simp
theorem lgA_comm (x y : List Int) : lgA x y = lgB y x := by unfold lgA lgB; rw [cp_comm]
theorem lgB_comm (x y : List Int) : lgB x y = lgA y x := by unfold lgA lgB; rw [cp_comm]
theorem lg_l (x y : List Int) : x = x.take (cp x y) ++ lgA x y := (List.take_append_drop _ _).symm
theorem lg_r (x y : List Int) : y = x.take (cp x y) ++ lgB x y := by rw [cp_take]; exact (List.take_append_drop _ _).symm
theorem lgA_behind (x y a b : List Int) : lgA (lgA x y ++ a) (lgB x y ++ b) = lgA (x ++ a) (y ++ b) := by
  have key : ∀ w p q : List Int, lgA (p ++ a) (q ++ b) = lgA (w ++ p ++ a) (w ++ q ++ b) := fun w p q => by rw [List.append_assoc, List.append_assoc, lgA_app]
  have := key (x.take (cp x y)) (lgA x y) (lgB x y)
  rwa [← lg_l, ← lg_r] at this
theorem lgB_behind (x y a b : List Int) : lgB (lgA x y ++ a) (lgB x y ++ b) = lgB (x ++ a) (y ++ b) := by
  have key : ∀ w p q : List Int, lgB (p ++ a) (q ++ b) = lgB (w ++ p ++ a) (w ++ q ++ b) := fun w p q => by rw [List.append_assoc, List.append_assoc, lgB_app]
  have := key (x.take (cp x y)) (lgA x y) (lgB x y)
  rwa [← lg_l, ← lg_r] at this
theorem Vp.drop {x : List Int} (h : Vp x) (n : Nat) : Vp (x.drop n) := ⟨fun i hi => h.1 i (List.mem_of_mem_drop hi), by have := h.2; simp; omega⟩
theorem Vp.take {x : List Int} (h : Vp x) (n : Nat) : Vp (x.take n) := ⟨fun i hi => h.1 i (List.mem_of_mem_take hi), by have := h.2; simp; omega⟩
theorem Vp.app {x y : List Int} (h : Vp x) (h' : Vp y) (hl : x.length + y.length ≤ 1000) : Vp (x ++ y) := ⟨fun i hi => by
  rcases List.mem_append.mp hi with e | e
  · exact h.1 i e
  · exact h'.1 i e, by simpa using hl⟩
theorem Lg_of {x y : List Int} (hx : Vp x) (hy : Vp y) : Lg (lgA x y) (lgB x y) := by
  refine ⟨⟨hx.drop _, hy.drop _⟩, ?_⟩
  by_cases h1 : cp x y < x.length
  · by_cases h2 : cp x y < y.length
    · have := cp_ne x y h1 h2
      right; right; unfold lgA lgB; simpa using this
    · right; left; unfold lgB; simp; omega
  · left; unfold lgA; simp; omega
theorem Lg_turn {a b : List Int} (h : Lg a b) : Lg b a := ⟨⟨h.1.2, h.1.1⟩, by
  rcases h.2 with e | e | e
  · exact .inr (.inl e)
  · exact .inl e
  · exact .inr (.inr fun z => e z.symm)⟩

theorem lg_len (x y : List Int) : (lgA x y).length + (lgB x y).length + 2 * cp x y = x.length + y.length := by
  have := cp_le x y
  unfold lgA lgB; simp; omega
theorem cp_ultra : ∀ x y z : List Int, cp x y ≤ cp x z ∨ cp y z ≤ cp x z
  | [], y, z => by simp [cp_nil]
  | a :: x, [], z => by simp [cp_nil, cp_nil']
  | a :: x, b :: y, [] => by simp [cp_nil']
  | a :: x, b :: y, c :: z => by
    have := cp_ultra x y z
    by_cases h : a = b
    · by_cases h' : b = c
      · subst h; subst h'; simp [cp]; exact this
      · subst h; simp [cp, h']
    · simp [cp, h]
theorem tri (x y z : List Int) : (lgA x z).length + (lgB x z).length ≤ (lgA x y).length + (lgB x y).length + ((lgA y z).length + (lgB y z).length) := by
  have h1 := lg_len x z; have h2 := lg_len x y; have h3 := lg_len y z
  have h4 := cp_le x y; have h5 := cp_le y z
  have := cp_ultra x y z
  omega
def rep (a : List Int) : Nat → List Int
  | 0 => []
  | k + 1 => rep a k ++ a
theorem rep_len (a : List Int) : ∀ k, (rep a k).length = k * a.length
  | 0 => by simp [rep]
  | k + 1 => by simp [rep, rep_len a k, Nat.add_mul]
theorem rep_succ (a : List Int) : ∀ k, rep a (k + 1) = a ++ rep a k
  | 0 => by simp [rep]
  | k + 1 => by
    have := rep_succ a k
    show rep a (k + 1) ++ a = a ++ (rep a k ++ a)
    rw [this, List.append_assoc]
theorem rep_mem {a : List Int} {i : Int} : ∀ {k}, i ∈ rep a k → i ∈ a
  | 0, h => by simp [rep] at h
  | k + 1, h => by
    rcases List.mem_append.mp h with e | e
    · exact rep_mem e
    · exact e
theorem Vp.rep {a : List Int} (h : Vp a) {k : Nat} (hl : k * a.length ≤ 1000) : Vp (rep a k) := ⟨fun i hi => h.1 i (rep_mem hi), by rw [rep_len]; exact hl⟩
theorem cp_pre {x y : List Int} {n : Nat} (h : n ≤ cp x y) : x.take n = y.take n := by
  have := congrArg (List.take n) (cp_take x y)
  rwa [List.take_take, List.take_take, Nat.min_eq_left h] at this
theorem keyU {a b u : List Int} (hl : a.length = b.length) (hm : 1 ≤ a.length) (hu : u.length ≤ 10) : a ++ u = u ++ b ∨ cp (rep a 30) (u ++ rep b 30) < u.length + a.length := by
  by_cases h : cp (rep a 30) (u ++ rep b 30) < u.length + a.length
  · exact .inr h
  · left
    have h1 := cp_pre (n := u.length + a.length) (Nat.le_of_not_lt h)
    have h2 := cp_pre (n := u.length) (x := rep a 30) (y := u ++ rep b 30) (by omega)
    rw [List.take_append, List.take_of_length_le (by omega : u.length ≤ u.length + a.length)] at h1
    rw [List.take_left] at h2
    have e1 : u.length + a.length - u.length = b.length := by omega
    rw [e1, rep_succ b 29, List.take_left, rep_succ a 29, Nat.add_comm u.length a.length, List.take_length_add_append] at h1
    have h3 : (rep a 29).take u.length = u := by
      have : rep a 30 = rep a 29 ++ a := rfl
      rw [this, List.take_append_of_le_length (by rw [rep_len]; omega)] at h2
      exact h2
    rw [h3] at h1
    exact h1
theorem lg_pre (p q : List Int) : lgA p (p ++ q) = [] ∧ lgB p (p ++ q) = q := by
  have e : cp p (p ++ q) = p.length := by
    have := cp_app p [] q; simpa [cp_nil] using this
  unfold lgA lgB; rw [e]; simp
/-- not kept: thirty laps part the two far -/
theorem far_apart {p q a b : List Int} (hg : p = [] ∨ q = [] ∨ p[0]? ≠ q[0]?) (hp : p.length ≤ 10) (hq : q.length ≤ 10) (hk : ¬ (lgA (p ++ a) (q ++ b) = p ∧ lgB (p ++ a) (q ++ b) = q)) : 7 < (lgA (p ++ rep a 30) (q ++ rep b 30)).length + (lgB (p ++ rep a 30) (q ++ rep b 30)).length := by
  have hL := lg_len (p ++ rep a 30) (q ++ rep b 30)
  have hc := cp_le (p ++ rep a 30) (q ++ rep b 30)
  simp only [List.length_append, rep_len] at hL hc
  by_cases hl : a.length = b.length
  · by_cases hm : 1 ≤ a.length
    · by_cases h1 : p = []
      · subst h1
        rcases keyU (u := q) hl hm hq with e | e
        · refine absurd ?_ hk
          rw [List.nil_append, ← e]
          exact lg_pre a q
        · simp only [List.nil_append, List.length_nil] at hL hc ⊢
          omega
      · by_cases h2 : q = []
        · subst h2
          rcases keyU (a := b) (b := a) (u := p) hl.symm (by omega) hp with e | e
          · refine absurd ?_ hk
            rw [List.nil_append, ← e]
            exact ⟨by rw [lgA_comm]; exact (lg_pre b p).2, by rw [lgB_comm]; exact (lg_pre b p).1⟩
          · rw [cp_comm] at e
            simp only [List.nil_append, List.length_nil] at hL hc ⊢
            omega
        · have h3 : p[0]? ≠ q[0]? := by
            rcases hg with h | h | h
            · exact absurd h h1
            · exact absurd h h2
            · exact h
          obtain ⟨i, p', rfl⟩ := List.exists_cons_of_ne_nil h1
          obtain ⟨j, q', rfl⟩ := List.exists_cons_of_ne_nil h2
          have : cp (i :: p' ++ rep a 30) (j :: q' ++ rep b 30) = 0 := by
            have : ¬ i = j := by simpa using h3
            simp [cp, this]
          omega
    · have ea : a = [] := List.eq_nil_of_length_eq_zero (by omega)
      have eb : b = [] := List.eq_nil_of_length_eq_zero (by omega)
      subst ea; subst eb
      refine absurd ?_ hk
      rw [List.append_nil, List.append_nil]
      have : cp p q = 0 := by
        rcases hg with h | h | h
        · subst h; exact cp_nil q
        · subst h; exact cp_nil' p
        · cases p with
          | nil => exact cp_nil q
          | cons i p =>
            cases q with
            | nil => rfl
            | cons j q =>
              have : ¬ i = j := by simpa using h
              simp [cp, this]
      unfold lgA lgB; rw [this]; simp
  · omega
end TT

/-! K00b: what k00's functions answer -/
namespace TT
open PySem PySem.Spec L2 GL
open PyProof.Rows hiding St
local macro_rules | `(tactic| infer_instance) => `(tactic| first
  | (with_reducible apply es_seqS)
  | (with_reducible apply es_setS)
  | (with_reducible apply es_seqA)
  | (with_reducible apply es_seqE)
  | (with_reducible apply es_ret)
  | (with_reducible apply es_expr)
  | (with_reducible apply es_asg)
  | (with_reducible exact es_skip)
  | (with_reducible exact ev_K)
  | (with_reducible exact ev_nil)
  | ((with_reducible apply ev_nilE); exact rfl)
  | ((with_reducible apply ev_KE); exact rfl)
  | (with_reducible exact ev_cYes)
  | (with_reducible exact ev_partN)
  | (with_reducible apply ev_cons)
  | ((with_reducible apply ev_N); exact rfl)
  | ((with_reducible apply ev_MvS); exact rfl)
  | ((with_reducible apply ev_NoS); exact rfl)
  | (with_reducible apply ev_dataE)
  | (with_reducible apply ev_val)
  | (with_reducible apply ev_bin)
  | (with_reducible apply ev_un)
  | ((with_reducible apply ev_binS))
  | ((with_reducible apply ev_ixS))
  | ((with_reducible apply ev_lenS))
  | (with_reducible apply ev_test)
  | (with_reducible apply ev_notE)
  | (with_reducible apply ev_notVE)
  | (with_reducible apply ev_tupE)
  | (with_reducible apply ev_lstE)
  | (with_reducible apply ev_app)
  | (with_reducible apply ev_appO)
  | (with_reducible apply ev_isi)
  | (with_reducible apply ev_callE)
  | ((with_reducible apply ev_callUE); exact rfl)
  | (with_reducible apply ev_partS)
  | (with_reducible apply ev_seqI)
  | (with_reducible apply ev_lcS)
  | (with_reducible apply et_NS)
  | (with_reducible exact ets_nil)
  | ((with_reducible apply et_TE); exact rfl)
  | ((with_reducible apply et_LE); exact rfl)
  | focus ((with_reducible show List.length _ = _); exact rfl)
  | focus ((with_reducible show List.length (α := PyData) _ ≤ 1000); (simp only [List.length_cons, List.length_nil]; omega))
  | (with_reducible apply ets_cons)
  | (with_reducible apply dAdd_iE)
  | (with_reducible apply dSub_iE)
  | (with_reducible apply dLt_iE)
  | (with_reducible apply dGt_iE)
  | (with_reducible apply dLe_iE)
  | (with_reducible apply dGe_iE)
  | (with_reducible apply dEq_iE)
  | (with_reducible apply dNe_iE)
  | (with_reducible apply dEq_bE)
  | (with_reducible apply dNe_bE)
  | (with_reducible apply dLen_lE)
  | (with_reducible apply dLen_tE)
  | (with_reducible exact dAbs_i)
  | (with_reducible exact dInt_i)
  | (with_reducible exact dInt_b)
  | (with_reducible exact dTuple_l)
  | (with_reducible exact dTuple_t)
  | focus ((with_reducible show dTuple _ = _); exact rfl)
  | (with_reducible exact dList_l)
  | (with_reducible exact dList_t)
  | (with_reducible exact dMin2_i)
  | (with_reducible exact dMax2_i)
  | focus ((with_reducible show _ = some (some _)); exact rfl)
  | (with_reducible exact data_val)
  | (with_reducible exact data_own)
  | focus ((with_reducible show (!_) = _); exact rfl)
  | ((with_reducible apply look_val); exact rfl)
  | ((with_reducible apply look_own); exact rfl)
  | focus ((with_reducible show seqOf _ = _); exact rfl)
  | focus ((with_reducible show @Eq PV _ _); exact rfl)
  | focus ((with_reducible show @Eq PSt _ _); first | (focus (dsimp only [List.set, List.set_cons_succ, List.set_cons_zero, wipeP, restP, keepV, List.getElem?_cons_succ, List.getElem?_cons_zero]; try exact rfl)) | exact rfl)
  | focus ((with_reducible show isaD _ _ = _); exact rfl)
  | focus ((with_reducible show isa2 _ _ _ = _); exact rfl)
  | focus ((with_reducible show dIx _ _ = _); first | exact rfl | exact dIx_t0 rfl | exact dIx_l0 rfl)
  | focus ((with_reducible show (_ && _) = _); exact rfl)
  | focus ((with_reducible show (_ || _) = _); exact rfl)
  | (with_reducible apply dMul_iE)
  | (with_reducible apply dMod_iE)
  | (with_reducible apply dFdiv_iE)
  | (with_reducible exact (rfl : (_ : Bool) = _))
  | (with_reducible exact (rfl : (_ : Int) = _))
  | exact decide_eq_true (by omega)
  | exact decide_eq_false (by omega)
  | focus ((with_reducible show (_ : Int) = _); omega)
  | focus ((with_reducible show (_ : Int) < _); omega)
  )
local macro_rules | `(tactic| infer_instance) => `(tactic| first
  | (with_reducible apply sl_fromI)
  | (with_reducible apply sl_toI)
  | (with_reducible apply dAdd_P)
  | (with_reducible apply dEq_P)
  | (with_reducible apply dEq_P0)
  | (with_reducible apply dNe_P)
  | (with_reducible apply dNe_P0)
  | (with_reducible apply dEq_L)
  | (with_reducible apply dNe_L)
  | (with_reducible apply dLen_P)
  | (with_reducible exact t_is_number)
  | (with_reducible exact t_alike)
  | (with_reducible exact t_lag_between)
  | (with_reducible apply t_sureE)
  | (with_reducible apply t_is_piece)
  | focus ((with_reducible show Vp _); assumption)
  | (with_reducible exact (cp_le _ _).1)
  | (with_reducible exact (cp_le _ _).2))
local macro_rules | `(tactic| infer_instance) => `(tactic| first
  | (with_reducible exact t_ends))
local macro_rules | `(tactic| infer_instance) => `(tactic| first
  | (with_reducible apply es_seqIx)
  | (with_reducible apply es_setIxE)
  | focus ((with_reducible show ixN _ _ = _); exact rfl)
  | focus ((with_reducible show _ = some (some (PV.own _))); exact rfl)
  | focus ((with_reducible show _ ∨ _); first | (left; omega) | (right; omega))
  | focus ((with_reducible show _ ∧ _ < (1073741824 : Int)); omega)
  | focus ((with_reducible show dIs _ _ = _); exact rfl)
  | focus ((with_reducible show dIsNot _ _ = _); exact rfl)
  | (with_reducible exact decide_eq_true rfl)
  | focus ((with_reducible show decide (@Eq Bool _ _) = _); exact rfl))
theorem t_heard_through {x y z : List Int} (hx : Vp x) (hy : Vp y) (hz : Vp z) : M__law_heard [eL (lgA x y) (lgB x y), eL (lgA y z) (lgB y z)] = .ok (.val (eL (lgA x z) (lgB x z))) := by
  have h1 := Lg_of hx hy
  have h2 := Lg_of hy hz
  have c1 := cp_le x y; have c2 := cp_le y z
  apply t_heard
  by_cases h : cp x y ≤ cp y z
  · have he : endsW (lgB x y) (lgA y z) = true := by
      unfold endsW lgB lgA
      refine decide_eq_true ⟨by simp; omega, ?_⟩
      rw [List.drop_drop]; congr 1; simp; omega
    rw [t_through1 h1 h2 he]
    have e1 : x = y.take (cp x y) ++ lgA x y := by rw [← cp_take]; exact lg_l x y
    have e2 : z = y.take (cp x y) ++ ((lgB x y).take ((lgB x y).length - (lgA y z).length) ++ lgB y z) := by
      rw [← List.append_assoc]
      have : y.take (cp x y) ++ (lgB x y).take ((lgB x y).length - (lgA y z).length) = y.take (cp y z) := by
        have e : (lgB x y).length - (lgA y z).length = cp y z - cp x y := by unfold lgB lgA; simp; omega
        rw [e]; unfold lgB
        rw [← List.take_add]; congr 1; omega
      rw [this]; exact lg_r y z
    have a1 := lgA_app (y.take (cp x y)) (lgA x y) ((lgB x y).take ((lgB x y).length - (lgA y z).length) ++ lgB y z)
    have a2 := lgB_app (y.take (cp x y)) (lgA x y) ((lgB x y).take ((lgB x y).length - (lgA y z).length) ++ lgB y z)
    rw [← e1, ← e2] at a1 a2
    rw [← a1, ← a2]
  · have hf : endsW (lgB x y) (lgA y z) = false := by
      unfold endsW lgB lgA
      refine decide_eq_false fun h => ?_
      have := h.1
      simp at this; omega
    have he : endsW (lgA y z) (lgB x y) = true := by
      unfold endsW lgB lgA
      refine decide_eq_true ⟨by simp; omega, ?_⟩
      rw [List.drop_drop]; congr 1; simp; omega
    rw [t_through2 h1 h2 hf he]
    have e2 : z = y.take (cp y z) ++ lgB y z := lg_r y z
    have e1 : x = y.take (cp y z) ++ ((lgA y z).take ((lgA y z).length - (lgB x y).length) ++ lgA x y) := by
      rw [← List.append_assoc]
      have : y.take (cp y z) ++ (lgA y z).take ((lgA y z).length - (lgB x y).length) = y.take (cp x y) := by
        have e : (lgA y z).length - (lgB x y).length = cp x y - cp y z := by unfold lgB lgA; simp; omega
        rw [e]; unfold lgA
        rw [← List.take_add]; congr 1; omega
      rw [this, ← cp_take]; exact lg_l x y
    have a1 := lgA_app (y.take (cp y z)) ((lgA y z).take ((lgA y z).length - (lgB x y).length) ++ lgA x y) (lgB y z)
    have a2 := lgB_app (y.take (cp y z)) ((lgA y z).take ((lgA y z).length - (lgB x y).length) ++ lgA x y) (lgB y z)
    rw [← e1, ← e2] at a1 a2
    rw [← a1, ← a2]
theorem zipD_cons (a b : PyData) (xs ys : List PyData) : zipD (a :: xs) (b :: ys) = .tuple [a, b] :: zipD xs ys := rfl
theorem t_law_lag {x y : List Int} : M__law_lag [eP x, eP y] = .ok (.val (eL (lgA x y) (lgB x y))) := by
  have hl := cp_le x y
  have key : ∀ (n i : Nat) (s t : Option PV), i + n = min x.length y.length → ∃ s' t', forL (uTup 2 (uCons (uN 3) (uCons (uN 4) uNil))) (fIfS (fAnd (fTest (fBinS dEq 3 (fN 4))) (fTest (fBin dEq (fun ps => ((fSl (fN 0) fNoPart (fSomePart (fBin dAdd (fN 2) (fK (.int 1))))) ps).map PV.data) (fun ps => ((fSl (fN 1) fNoPart (fSomePart (fBin dAdd (fN 2) (fK (.int 1))))) ps).map PV.data)))) (fSet 2 (fun ps => ((fBin dAdd (fN 2) (fK (.int 1))) ps).map PV.val)) fSkip) (zipD ((x.drop i).map .int) ((y.drop i).map .int)) [some (.val (eP x)), some (.val (eP y)), some (.val (.int (min i (cp x y) : Nat))), s, t] = .nx [some (.val (eP x)), some (.val (eP y)), some (.val (.int (cp x y))), s', t'] := by
    intro n
    induction n with
    | zero =>
      intro i s t hi
      refine ⟨s, t, ?_⟩
      have e : zipD ((x.drop i).map .int) ((y.drop i).map .int) = [] := by
        rcases Nat.le_total x.length y.length with h | h
        · rw [List.drop_eq_nil_of_le (as := x) (by omega)]; rfl
        · rw [List.drop_eq_nil_of_le (as := y) (by omega)]; unfold zipD; simp
      rw [e, Nat.min_eq_right (by omega)]; rfl
    | succ n ih =>
      intro i s t hi
      have h1 : i < x.length := by omega
      have h2 : i < y.length := by omega
      obtain ⟨s', t', e⟩ := ih (i + 1) (some (.val (.int x[i]))) (some (.val (.int y[i]))) (by omega)
      refine ⟨s', t', ?_⟩
      rw [List.drop_eq_getElem_cons h1, List.drop_eq_getElem_cons h2, List.map_cons, List.map_cons, zipD_cons]
      have hb : Es (fIfS (fAnd (fTest (fBinS dEq 3 (fN 4))) (fTest (fBin dEq (fun ps => ((fSl (fN 0) fNoPart (fSomePart (fBin dAdd (fN 2) (fK (.int 1))))) ps).map PV.data) (fun ps => ((fSl (fN 1) fNoPart (fSomePart (fBin dAdd (fN 2) (fK (.int 1))))) ps).map PV.data)))) (fSet 2 (fun ps => ((fBin dAdd (fN 2) (fK (.int 1))) ps).map PV.val)) fSkip) [some (.val (eP x)), some (.val (eP y)), some (.val (.int (min i (cp x y) : Nat))), some (.val (.int x[i])), some (.val (.int y[i]))] (.nx [some (.val (eP x)), some (.val (eP y)), some (.val (.int (min (i + 1) (cp x y) : Nat))), some (.val (.int x[i])), some (.val (.int y[i]))]) := by
        by_cases hc : i < cp x y
        · have e1 := cp_eq x y i hc
          rw [List.getElem?_eq_getElem h1, List.getElem?_eq_getElem h2] at e1
          apply es_ifT
          · refine ev_to (ev_andP (k := true) (l := true) ?_ ?_) rfl rfl
            repeat infer_instance
            · simpa using e1
            repeat infer_instance
            · show ((min i (cp x y) : Nat) : Int) + 1 = ((i + 1 : Nat) : Int)
              omega
            repeat infer_instance
            · show ((min i (cp x y) : Nat) : Int) + 1 = ((i + 1 : Nat) : Int)
              omega
            repeat infer_instance
            · exact decide_eq_true (cp_pre (by omega))
          · apply es_to
            · repeat infer_instance
            · rw [Nat.min_eq_left (by omega), Nat.min_eq_left (by omega)]; rfl
        · have em : min (i + 1) (cp x y) = cp x y := by omega
          have em' : min i (cp x y) = cp x y := by omega
          rw [em, em']
          apply es_ifF
          · by_cases e0 : x[i] = y[i]
            · have h3 : cp x y < x.length := by omega
              have h4 : cp x y < y.length := by omega
              refine ev_to (ev_andP (k := true) (l := false) ?_ ?_) rfl rfl
              repeat infer_instance
              · show ((cp x y : Nat) : Int) + 1 = ((cp x y + 1 : Nat) : Int)
                omega
              repeat infer_instance
              · show ((cp x y : Nat) : Int) + 1 = ((cp x y + 1 : Nat) : Int)
                omega
              repeat infer_instance
              · refine decide_eq_false fun z => cp_ne x y h3 h4 ?_
                have := congrArg (fun l => l[cp x y]?) z
                simpa [List.getElem?_take] using this
            · apply ev_andF
              repeat infer_instance
          repeat infer_instance
      exact forL_cons (et_TE rfl (ets_cons et_N (ets_cons et_N ets_nil))) hb e
  obtain ⟨s', t', e⟩ := key (min x.length y.length) 0 none none (by omega)
  show (b__law_lag [some (.val (eP x)), some (.val (eP y)), none, none, none]).fin = _
  apply fin_retE
  unfold b__law_lag
  · apply es_seqS
    repeat infer_instance
    refine es_seq (ps1 := [some (.val (eP x)), some (.val (eP y)), some (.val (.int (cp x y))), s', t']) (es_for (ds := zipD (x.map .int) (y.map .int)) (ps1 := [some (.val (eP x)), some (.val (eP y)), some (.val (.int 0)), none, none]) (ev_zipT (ev_cons (ev_N rfl) (ev_cons (ev_N rfl) ev_nil))) ?_) ?_
    · have e0 : min 0 (cp x y) = 0 := by omega
      rw [e0, List.drop_zero, List.drop_zero] at e
      exact e
    · repeat infer_instance
  · rfl
end TT

/-! K00b: what k00's functions answer -/
namespace TT
open PySem PySem.Spec L2 GL
open PyProof.Rows hiding St
local macro_rules | `(tactic| infer_instance) => `(tactic| first
  | (with_reducible apply es_seqS)
  | (with_reducible apply es_setS)
  | (with_reducible apply es_seqA)
  | (with_reducible apply es_seqE)
  | (with_reducible apply es_ret)
  | (with_reducible apply es_expr)
  | (with_reducible apply es_asg)
  | (with_reducible exact es_skip)
  | (with_reducible exact ev_K)
  | (with_reducible exact ev_nil)
  | ((with_reducible apply ev_nilE); exact rfl)
  | ((with_reducible apply ev_KE); exact rfl)
  | (with_reducible exact ev_cYes)
  | (with_reducible exact ev_partN)
  | (with_reducible apply ev_cons)
  | ((with_reducible apply ev_N); exact rfl)
  | ((with_reducible apply ev_MvS); exact rfl)
  | ((with_reducible apply ev_NoS); exact rfl)
  | (with_reducible apply ev_dataE)
  | (with_reducible apply ev_val)
  | (with_reducible apply ev_bin)
  | (with_reducible apply ev_un)
  | ((with_reducible apply ev_binS))
  | ((with_reducible apply ev_ixS))
  | ((with_reducible apply ev_lenS))
  | (with_reducible apply ev_test)
  | (with_reducible apply ev_notE)
  | (with_reducible apply ev_notVE)
  | (with_reducible apply ev_tupE)
  | (with_reducible apply ev_lstE)
  | (with_reducible apply ev_app)
  | (with_reducible apply ev_appO)
  | (with_reducible apply ev_isi)
  | (with_reducible apply ev_callE)
  | ((with_reducible apply ev_callUE); exact rfl)
  | (with_reducible apply ev_partS)
  | (with_reducible apply ev_seqI)
  | (with_reducible apply ev_lcS)
  | (with_reducible apply et_NS)
  | (with_reducible exact ets_nil)
  | ((with_reducible apply et_TE); exact rfl)
  | ((with_reducible apply et_LE); exact rfl)
  | focus ((with_reducible show List.length _ = _); exact rfl)
  | focus ((with_reducible show List.length (α := PyData) _ ≤ 1000); (simp only [List.length_cons, List.length_nil]; omega))
  | (with_reducible apply ets_cons)
  | (with_reducible apply dAdd_iE)
  | (with_reducible apply dSub_iE)
  | (with_reducible apply dLt_iE)
  | (with_reducible apply dGt_iE)
  | (with_reducible apply dLe_iE)
  | (with_reducible apply dGe_iE)
  | (with_reducible apply dEq_iE)
  | (with_reducible apply dNe_iE)
  | (with_reducible apply dEq_bE)
  | (with_reducible apply dNe_bE)
  | (with_reducible apply dLen_lE)
  | (with_reducible apply dLen_tE)
  | (with_reducible exact dAbs_i)
  | (with_reducible exact dInt_i)
  | (with_reducible exact dInt_b)
  | (with_reducible exact dTuple_l)
  | (with_reducible exact dTuple_t)
  | focus ((with_reducible show dTuple _ = _); exact rfl)
  | (with_reducible exact dList_l)
  | (with_reducible exact dList_t)
  | (with_reducible exact dMin2_i)
  | (with_reducible exact dMax2_i)
  | focus ((with_reducible show _ = some (some _)); exact rfl)
  | (with_reducible exact data_val)
  | (with_reducible exact data_own)
  | focus ((with_reducible show (!_) = _); exact rfl)
  | ((with_reducible apply look_val); exact rfl)
  | ((with_reducible apply look_own); exact rfl)
  | focus ((with_reducible show seqOf _ = _); exact rfl)
  | focus ((with_reducible show @Eq PV _ _); exact rfl)
  | focus ((with_reducible show @Eq PSt _ _); first | (focus (dsimp only [List.set, List.set_cons_succ, List.set_cons_zero, wipeP, restP, keepV, List.getElem?_cons_succ, List.getElem?_cons_zero]; try exact rfl)) | exact rfl)
  | focus ((with_reducible show isaD _ _ = _); exact rfl)
  | focus ((with_reducible show isa2 _ _ _ = _); exact rfl)
  | focus ((with_reducible show dIx _ _ = _); first | exact rfl | exact dIx_t0 rfl | exact dIx_l0 rfl)
  | focus ((with_reducible show (_ && _) = _); exact rfl)
  | focus ((with_reducible show (_ || _) = _); exact rfl)
  | (with_reducible apply dMul_iE)
  | (with_reducible apply dMod_iE)
  | (with_reducible apply dFdiv_iE)
  | (with_reducible exact (rfl : (_ : Bool) = _))
  | (with_reducible exact (rfl : (_ : Int) = _))
  | exact decide_eq_true (by omega)
  | exact decide_eq_false (by omega)
  | focus ((with_reducible show (_ : Int) = _); omega)
  | focus ((with_reducible show (_ : Int) < _); omega)
  )
local macro_rules | `(tactic| infer_instance) => `(tactic| first
  | (with_reducible apply sl_fromI)
  | (with_reducible apply sl_toI)
  | (with_reducible apply dAdd_P)
  | (with_reducible apply dEq_P)
  | (with_reducible apply dEq_P0)
  | (with_reducible apply dNe_P)
  | (with_reducible apply dNe_P0)
  | (with_reducible apply dEq_L)
  | (with_reducible apply dNe_L)
  | (with_reducible apply dLen_P)
  | (with_reducible exact t_is_number)
  | (with_reducible exact t_alike)
  | (with_reducible exact t_lag_between)
  | (with_reducible apply t_sureE)
  | (with_reducible apply t_is_piece)
  | focus ((with_reducible show Vp _); assumption)
  | (with_reducible exact (cp_le _ _).1)
  | (with_reducible exact (cp_le _ _).2))
local macro_rules | `(tactic| infer_instance) => `(tactic| first
  | (with_reducible exact t_ends))
local macro_rules | `(tactic| infer_instance) => `(tactic| first
  | (with_reducible apply es_seqIx)
  | (with_reducible apply es_setIxE)
  | focus ((with_reducible show ixN _ _ = _); exact rfl)
  | focus ((with_reducible show _ = some (some (PV.own _))); exact rfl)
  | focus ((with_reducible show _ ∨ _); first | (left; omega) | (right; omega))
  | focus ((with_reducible show _ ∧ _ < (1073741824 : Int)); omega)
  | focus ((with_reducible show dIs _ _ = _); exact rfl)
  | focus ((with_reducible show dIsNot _ _ = _); exact rfl)
  | (with_reducible exact decide_eq_true rfl)
  | focus ((with_reducible show decide (@Eq Bool _ _) = _); exact rfl))
noncomputable def c1 : PSt → Os := (fSet 1 (fCall 2 M__law_box (fCons (fun ps => ((fCall 2 M__law_cells (fCons (fN 0) (fCons (fK (.int 1)) (fun ps => .ok [] ps)))) ps).map PV.data) (fCons (fK (.int 0)) (fun ps => .ok [] ps)))))
noncomputable def c2 : PSt → Os := (fAsg (uTup 4 (uCons (uN 11) (uCons (uN 12) (uCons (uN 13) (uCons (uN 14) uNil))))) (fun ps => ((fLc (fRange1 (fCons (fK (.int 4)) (fun ps => .ok [] ps))) (uN 10) cYes (fun ps => ((fCallU 1 1 M__law_piece (fCons (fK (.int 5)) (fun ps => .ok [] ps))) ps).map PV.data) [10]) ps).map PV.data))
noncomputable def c3 : PSt → Os := (fIfS (fTest (fBin dEq (fun ps => ((fCallU 1 1 M__law_take (fCons (fK (.int 2)) (fun ps => .ok [] ps))) ps).map PV.data) (fK (.int 0)))) (fSet 12 (fun ps => ((fBin dAdd (fN 11) (fN 12)) ps).map PV.val)) fSkip)
noncomputable def c4 : PSt → Os := (fIfS (fTest (fBin dEq (fun ps => ((fCallU 1 1 M__law_take (fCons (fK (.int 2)) (fun ps => .ok [] ps))) ps).map PV.data) (fK (.int 0)))) (fSet 13 (fun ps => ((fBin dAdd (fun ps => ((fSl (fN 11) fNoPart (fSomePart (fK (.int 2)))) ps).map PV.data) (fN 13)) ps).map PV.val)) fSkip)
noncomputable def c5 : PSt → Os := (fAsg (uTup 4 (uCons (uN 15) (uCons (uN 16) (uCons (uN 17) (uCons (uN 18) uNil))))) (fun ps => ((fLc (fRange1 (fCons (fK (.int 4)) (fun ps => .ok [] ps))) (uN 10) cYes (fun ps => ((fCallU 1 1 M__law_piece (fCons (fK (.int 3)) (fun ps => .ok [] ps))) ps).map PV.data) [10]) ps).map PV.data))
noncomputable def c6 : PSt → Os := (fIfS (fTest (fBin dEq (fun ps => ((fCallU 1 1 M__law_take (fCons (fK (.int 3)) (fun ps => .ok [] ps))) ps).map PV.data) (fK (.int 0)))) (fSet 15 (fun ps => ((fN 16) ps).map PV.val)) fSkip)
noncomputable def c7 : PSt → Os := (fSet 2 (fCall 2 M_lag_of (fCons (fN 11) (fCons (fN 12) (fun ps => .ok [] ps)))))
noncomputable def c8 : PSt → Os := (fSet 3 (fLst (fCons (fN 2) (fCons (fun ps => ((fCall 1 M_is_lag (fCons (fN 2) (fun ps => .ok [] ps))) ps).map PV.data) (fCons (fun ps => ((fCall 2 M_lag_of (fCons (fun ps => ((fAppO dList (fCons (fN 12) (fun ps => .ok [] ps))) ps).map PV.data) (fCons (fun ps => ((fAppO dList (fCons (fN 11) (fun ps => .ok [] ps))) ps).map PV.data) (fun ps => .ok [] ps)))) ps).map PV.data) (fCons (fun ps => ((fCall 1 M_lag_turned (fCons (fN 2) (fun ps => .ok [] ps))) ps).map PV.data) (fCons (fun ps => ((fCall 1 M_lag_length (fCons (fN 2) (fun ps => .ok [] ps))) ps).map PV.data) (fCons (fun ps => ((fCall 2 M_lag_of (fCons (fBin dAdd (fN 17) (fN 11)) (fCons (fBin dAdd (fN 17) (fN 12)) (fun ps => .ok [] ps)))) ps).map PV.data) (fCons (fun ps => ((fCall 1 M_front (fCons (fTup (fCons (fN 11) (fCons (fN 12) (fCons (fN 11) (fun ps => .ok [] ps))))) (fun ps => .ok [] ps))) ps).map PV.data) (fun ps => .ok [] ps))))))))))
noncomputable def c9 : PSt → Os := (fSet 4 (fCall 2 M__law_lag (fCons (fN 11) (fCons (fN 12) (fun ps => .ok [] ps)))))
noncomputable def c10 : PSt → Os := (fSet 5 (fSl (fN 11) fNoPart (fSomePart (fBin dSub (fLenS 11) (fApp dLen (fCons (fIxS 4 (fK (.int 0))) (fun ps => .ok [] ps)))))))
noncomputable def c11 : PSt → Os := (fIfS (fNot (fTest (fun ps => ((fCall 2 M__law_same (fCons (fN 3) (fCons (fun ps => ((fLst (fCons (fN 4) (fCons (fK (.bool true)) (fCons (fTup (fCons (fIxS 4 (fK (.int 1))) (fCons (fIxS 4 (fK (.int 0))) (fun ps => .ok [] ps)))) (fCons (fTup (fCons (fIxS 4 (fK (.int 1))) (fCons (fIxS 4 (fK (.int 0))) (fun ps => .ok [] ps)))) (fCons (fBin dAdd (fApp dLen (fCons (fIxS 4 (fK (.int 0))) (fun ps => .ok [] ps))) (fApp dLen (fCons (fIxS 4 (fK (.int 1))) (fun ps => .ok [] ps)))) (fCons (fN 4) (fCons (fN 5) (fun ps => .ok [] ps))))))))) ps).map PV.data) (fun ps => .ok [] ps)))) ps).map PV.data))) (fRet (fun ps => ((fK (.bool false)) ps).map PV.val)) fSkip)
noncomputable def c12 : PSt → Os := (fSet 6 (fCall 3 M_lag_behind (fCons (fN 2) (fCons (fN 15) (fCons (fN 16) (fun ps => .ok [] ps))))))
noncomputable def c13 : PSt → Os := (fSet 3 (fLst (fCons (fN 6) (fCons (fun ps => ((fCall 3 M_lag_behind (fCons (fN 6) (fCons (fN 17) (fCons (fN 18) (fun ps => .ok [] ps))))) ps).map PV.data) (fCons (fun ps => ((fCall 3 M_lag_behind (fCons (fun ps => ((fCall 1 M_lag_turned (fCons (fN 2) (fun ps => .ok [] ps))) ps).map PV.data) (fCons (fN 16) (fCons (fN 15) (fun ps => .ok [] ps))))) ps).map PV.data) (fCons (fun ps => ((fCall 3 M_is_kept (fCons (fN 2) (fCons (fN 15) (fCons (fN 16) (fun ps => .ok [] ps))))) ps).map PV.data) (fCons (fun ps => ((fCall 3 M_lag_behind (fCons (fN 2) (fCons (fBin dAdd (fN 15) (fN 17)) (fCons (fBin dAdd (fN 16) (fN 18)) (fun ps => .ok [] ps))))) ps).map PV.data) (fun ps => .ok [] ps))))))))
noncomputable def c14 : PSt → Os := (fSet 4 (fLst (fCons (fun ps => ((fCall 2 M__law_lag (fCons (fBin dAdd (fN 11) (fN 15)) (fCons (fBin dAdd (fN 12) (fN 16)) (fun ps => .ok [] ps)))) ps).map PV.data) (fCons (fun ps => ((fCall 2 M__law_lag (fCons (fBin dAdd (fBin dAdd (fN 11) (fN 15)) (fN 17)) (fCons (fBin dAdd (fBin dAdd (fN 12) (fN 16)) (fN 18)) (fun ps => .ok [] ps)))) ps).map PV.data) (fCons (fun ps => ((fCall 2 M__law_lag (fCons (fBin dAdd (fN 12) (fN 16)) (fCons (fBin dAdd (fN 11) (fN 15)) (fun ps => .ok [] ps)))) ps).map PV.data) (fCons (fBin dEq (fun ps => ((fCall 2 M__law_lag (fCons (fBin dAdd (fN 11) (fN 15)) (fCons (fBin dAdd (fN 12) (fN 16)) (fun ps => .ok [] ps)))) ps).map PV.data) (fN 2)) (fCons (fun ps => ((fCall 2 M__law_lag (fCons (fBin dAdd (fBin dAdd (fN 11) (fN 15)) (fN 17)) (fCons (fBin dAdd (fBin dAdd (fN 12) (fN 16)) (fN 18)) (fun ps => .ok [] ps)))) ps).map PV.data) (fun ps => .ok [] ps))))))))
noncomputable def c15 : PSt → Os := (fIfS (fNot (fTest (fun ps => ((fCall 2 M__law_same (fCons (fN 3) (fCons (fN 4) (fun ps => .ok [] ps)))) ps).map PV.data))) (fRet (fun ps => ((fK (.bool false)) ps).map PV.val)) fSkip)
noncomputable def c16 : PSt → Os := (fSet 7 (fLst (fCons (fun ps => ((fCall 2 M_lag_of (fCons (fN 11) (fCons (fN 12) (fun ps => .ok [] ps)))) ps).map PV.data) (fCons (fun ps => ((fCall 2 M_lag_of (fCons (fN 12) (fCons (fN 13) (fun ps => .ok [] ps)))) ps).map PV.data) (fCons (fun ps => ((fCall 2 M_lag_of (fCons (fN 13) (fCons (fN 14) (fun ps => .ok [] ps)))) ps).map PV.data) (fun ps => .ok [] ps))))))
noncomputable def c17 : PSt → Os := (fSet 8 (fCall 2 M_lag_of (fCons (fN 11) (fCons (fN 14) (fun ps => .ok [] ps)))))
noncomputable def c18 : PSt → Os := (fSet 3 (fLst (fCons (fun ps => ((fCall 2 M__law_heard (fCons (fIxS 7 (fK (.int 0))) (fCons (fIxS 7 (fK (.int 1))) (fun ps => .ok [] ps)))) ps).map PV.data) (fCons (fun ps => ((fCall 2 M__law_heard (fCons (fun ps => ((fCall 2 M__law_heard (fCons (fIxS 7 (fK (.int 0))) (fCons (fIxS 7 (fK (.int 1))) (fun ps => .ok [] ps)))) ps).map PV.data) (fCons (fIxS 7 (fK (.int 2))) (fun ps => .ok [] ps)))) ps).map PV.data) (fCons (fun ps => ((fCall 2 M__law_heard (fCons (fIxS 7 (fK (.int 0))) (fCons (fun ps => ((fCall 2 M__law_heard (fCons (fIxS 7 (fK (.int 1))) (fCons (fIxS 7 (fK (.int 2))) (fun ps => .ok [] ps)))) ps).map PV.data) (fun ps => .ok [] ps)))) ps).map PV.data) (fCons (fun ps => ((fCall 2 M__law_heard (fCons (fun ps => ((fCall 1 M_lag_turned (fCons (fIxS 7 (fK (.int 1))) (fun ps => .ok [] ps))) ps).map PV.data) (fCons (fun ps => ((fCall 1 M_lag_turned (fCons (fIxS 7 (fK (.int 0))) (fun ps => .ok [] ps))) ps).map PV.data) (fun ps => .ok [] ps)))) ps).map PV.data) (fCons (fun ps => ((fCall 2 M__law_heard (fCons (fIxS 7 (fK (.int 0))) (fCons (fun ps => ((fCall 1 M_lag_turned (fCons (fIxS 7 (fK (.int 0))) (fun ps => .ok [] ps))) ps).map PV.data) (fun ps => .ok [] ps)))) ps).map PV.data) (fun ps => .ok [] ps))))))))
noncomputable def c19 : PSt → Os := (fIfS (fNot (fTest (fun ps => ((fCall 2 M__law_same (fCons (fN 3) (fCons (fun ps => ((fLst (fCons (fun ps => ((fCall 2 M__law_lag (fCons (fN 11) (fCons (fN 13) (fun ps => .ok [] ps)))) ps).map PV.data) (fCons (fN 8) (fCons (fN 8) (fCons (fun ps => ((fCall 2 M__law_lag (fCons (fN 13) (fCons (fN 11) (fun ps => .ok [] ps)))) ps).map PV.data) (fCons (fTup (fCons (fTup (fun ps => .ok [] ps)) (fCons (fTup (fun ps => .ok [] ps)) (fun ps => .ok [] ps)))) (fun ps => .ok [] ps))))))) ps).map PV.data) (fun ps => .ok [] ps)))) ps).map PV.data))) (fRet (fun ps => ((fK (.bool false)) ps).map PV.val)) fSkip)
noncomputable def c20 : PSt → Os := (fSet 9 (fun ps => ((fBin dAdd (fun ps => ((fCall 1 M_lag_length (fCons (fIxS 7 (fK (.int 0))) (fun ps => .ok [] ps))) ps).map PV.data) (fun ps => ((fCall 1 M_lag_length (fCons (fIxS 7 (fK (.int 1))) (fun ps => .ok [] ps))) ps).map PV.data)) ps).map PV.val))
noncomputable def c21 : PSt → Os := (fIfS (fOr (fTest (fBin dGt (fun ps => ((fCall 1 M_lag_length (fCons (fun ps => ((fCall 2 M_lag_of (fCons (fN 11) (fCons (fN 13) (fun ps => .ok [] ps)))) ps).map PV.data) (fun ps => .ok [] ps))) ps).map PV.data) (fN 9))) (fOr (fTest (fBin dIsNot (fun ps => ((fCall 3 M_are_near (fCons (fN 11) (fCons (fN 13) (fCons (fN 9) (fun ps => .ok [] ps))))) ps).map PV.data) (fK (.bool true)))) (fOr (fTest (fBin dIsNot (fun ps => ((fCall 3 M_are_near (fCons (fN 11) (fCons (fN 12) (fCons (fun ps => ((fCall 1 M_lag_length (fCons (fN 2) (fun ps => .ok [] ps))) ps).map PV.data) (fun ps => .ok [] ps))))) ps).map PV.data) (fK (.bool true)))) (fAnd (fTest (fBin dGt (fun ps => ((fCall 1 M_lag_length (fCons (fN 2) (fun ps => .ok [] ps))) ps).map PV.data) (fK (.int 0)))) (fTest (fBin dIsNot (fun ps => ((fCall 3 M_are_near (fCons (fN 11) (fCons (fN 12) (fCons (fBin dSub (fun ps => ((fCall 1 M_lag_length (fCons (fN 2) (fun ps => .ok [] ps))) ps).map PV.data) (fK (.int 1))) (fun ps => .ok [] ps))))) ps).map PV.data) (fK (.bool false)))))))) (fRet (fun ps => ((fK (.bool false)) ps).map PV.val)) fSkip)
noncomputable def c22 : PSt → Os := (fPar 19 20 (fun ps => ((fN 2) ps).map PV.val) (fun ps => ((fK (.int 0)) ps).map PV.val))
noncomputable def c23 : PSt → Os := (fFor (fRange1 (fCons (fK (.int 30)) (fun ps => .ok [] ps))) (uN 10) (fSeq (fSet 19 (fCall 3 M_lag_behind (fCons (fN 19) (fCons (fN 15) (fCons (fN 16) (fun ps => .ok [] ps))))))
  (fSeq (fSet 20 (fCall 1 M_lag_length (fCons (fN 19) (fun ps => .ok [] ps))))
  (fIfS (fAnd (fTest (fun ps => ((fCall 3 M_is_kept (fCons (fN 2) (fCons (fN 15) (fCons (fN 16) (fun ps => .ok [] ps))))) ps).map PV.data)) (fTest (fBinS dNe 19 (fN 2)))) (fRet (fun ps => ((fK (.bool false)) ps).map PV.val)) fSkip))))
noncomputable def c24 : PSt → Os := (fIfS (fAnd (fNot (fTest (fun ps => ((fCall 3 M_is_kept (fCons (fN 2) (fCons (fN 15) (fCons (fN 16) (fun ps => .ok [] ps))))) ps).map PV.data))) (fAnd (fTest (fBinS dLe 20 (fK (.int 7)))) (fTest (fBin dLe (fun ps => ((fCall 1 M_lag_length (fCons (fun ps => ((fCall 3 M_lag_behind (fCons (fN 19) (fCons (fN 15) (fCons (fN 16) (fun ps => .ok [] ps))))) ps).map PV.data) (fun ps => .ok [] ps))) ps).map PV.data) (fK (.int 7)))))) (fRet (fun ps => ((fK (.bool false)) ps).map PV.val)) fSkip)
noncomputable def c25 : PSt → Os := (fFor (fSeqI (fTup (fCons (fTup (fCons (fTup (fCons (fTup (fun ps => .ok [] ps)) (fCons (fN 11) (fun ps => .ok [] ps)))) (fCons (fTup (fCons (fN 12) (fCons (fTup (fun ps => .ok [] ps)) (fun ps => .ok [] ps)))) (fun ps => .ok [] ps)))) (fCons (fTup (fCons (fTup (fCons (fTup (fun ps => .ok [] ps)) (fCons (fN 11) (fun ps => .ok [] ps)))) (fCons (fTup (fCons (fN 11) (fCons (fTup (fun ps => .ok [] ps)) (fun ps => .ok [] ps)))) (fun ps => .ok [] ps)))) (fCons (fTup (fCons (fTup (fCons (fTup (fun ps => .ok [] ps)) (fCons (fBin dAdd (fN 17) (fN 11)) (fun ps => .ok [] ps)))) (fCons (fTup (fCons (fN 11) (fCons (fTup (fun ps => .ok [] ps)) (fun ps => .ok [] ps)))) (fun ps => .ok [] ps)))) (fun ps => .ok [] ps)))))) (uTup 2 (uCons (uN 6) (uCons (uN 21) uNil))) (fIfS (fOr (fAnd (fTest (fBin dNe (fIxS 6 (fK (.int 1))) (fTup (fun ps => .ok [] ps)))) (fTest (fBin dNe (fIxS 21 (fK (.int 0))) (fTup (fun ps => .ok [] ps))))) (fTest (fBinS dEq 6 (fN 21)))) (fSeq (fSet 22 (fun ps => ((fApp dMin2 (fCons (fApp dLen (fCons (fIxS 6 (fK (.int 1))) (fun ps => .ok [] ps))) (fCons (fApp dLen (fCons (fIxS 21 (fK (.int 0))) (fun ps => .ok [] ps))) (fun ps => .ok [] ps)))) ps).map PV.val))
  (fSeq (fSet 23 (fun ps => ((fBin dEq (fun ps => ((fSl (fIxS 6 (fK (.int 1))) (fSomePart (fBin dSub (fApp dLen (fCons (fIxS 6 (fK (.int 1))) (fun ps => .ok [] ps))) (fN 22))) fNoPart) ps).map PV.data) (fun ps => ((fSl (fIxS 21 (fK (.int 0))) (fSomePart (fBin dSub (fApp dLen (fCons (fIxS 21 (fK (.int 0))) (fun ps => .ok [] ps))) (fN 22))) fNoPart) ps).map PV.data)) ps).map PV.val))
  (fIfS (fTest (fBin dEq (fBin dEq (fun ps => ((fCall 2 M__law_heard (fCons (fN 6) (fCons (fN 21) (fun ps => .ok [] ps)))) ps).map PV.data) (fK (.str "unfit"))) (fN 23))) (fRet (fun ps => ((fK (.bool false)) ps).map PV.val)) fSkip))) fSkip))
noncomputable def c26 : PSt → Os := (fRet (fun ps => ((fK (.bool true)) ps).map PV.val))
theorem law_split : b_law = (fSeq c1 (fSeq c2 (fSeq c3 (fSeq c4 (fSeq c5 (fSeq c6 (fSeq c7 (fSeq c8 (fSeq c9 (fSeq c10 (fSeq c11 (fSeq c12 (fSeq c13 (fSeq c14 (fSeq c15 (fSeq c16 (fSeq c17 (fSeq c18 (fSeq c19 (fSeq c20 (fSeq c21 (fSeq c22 (fSeq c23 (fSeq c24 (fSeq c25 c26))))))))))))))))))))))))) := rfl

theorem t_four5 {ns : List Int} {N : Nat} {u : List PyData} (hu : Urn N u) (hN : N ≤ 10000) : ∃ (p1 p2 p3 p4 : List Int) (u' : List PyData), Ev (fLc (fRange1 (fCons (fK (.int 4)) (fun ps => .ok [] ps))) (uN 10) cYes (fun ps => ((fCallU 1 1 M__law_piece (fCons (fK (.int 5)) (fun ps => .ok [] ps))) ps).map PV.data) [10]) [some (.val (.list (ns.map .int))), some (.own (.list u)), none, none, none, none, none, none, none, none, none, none, none, none, none, none, none, none, none, none, none, none, none, none] (.own (.list [eP p1, eP p2, eP p3, eP p4])) [some (.val (.list (ns.map .int))), some (.own (.list u')), none, none, none, none, none, none, none, none, none, none, none, none, none, none, none, none, none, none, none, none, none, none] ∧ ((Vp p1 ∧ p1.length ≤ 5) ∧ (Vp p2 ∧ p2.length ≤ 5) ∧ (Vp p3 ∧ p3.length ≤ 5) ∧ (Vp p4 ∧ p4.length ≤ 5)) ∧ Urn (N + 100) u' := by
  obtain ⟨p1, u1, h1, g1, k1⟩ := t_piece (m := 5) hu (by omega) (by omega)
  obtain ⟨p2, u2, h2, g2, k2⟩ := t_piece (m := 5) k1 (by omega) (by omega)
  obtain ⟨p3, u3, h3, g3, k3⟩ := t_piece (m := 5) k2 (by omega) (by omega)
  obtain ⟨p4, u4, h4, g4, k4⟩ := t_piece (m := 5) k3 (by omega) (by omega)
  refine ⟨p1, p2, p3, p4, u4, ?_, ⟨g1, g2, g3, g4⟩, k4.le (by omega)⟩
  refine ev_lcS (p0 := [some (.val (.list (ns.map .int))), some (.own (.list u)), none, none, none, none, none, none, none, none, none, none, none, none, none, none, none, none, none, none, none, none, none, none]) (ds := [.int 0, .int 1, .int 2, .int 3]) (ev_range1 (k := 4) (ev_cons ev_K ev_nil) (by omega)) rfl ?_ (p1 := [some (.val (.list (ns.map .int))), some (.own (.list u4)), none, none, none, none, none, none, none, none, none, none, none, none, none, none, none, none, none, none, none, none, none, none]) rfl
  refine compL_cons et_N ev_cYes (ev_dataE (ev_callUE rfl (ev_cons ev_K ev_nil) rfl rfl h1 rfl) rfl) (by simp) ?_
  refine compL_cons et_N ev_cYes (ev_dataE (ev_callUE rfl (ev_cons ev_K ev_nil) rfl rfl h2 rfl) rfl) (by simp) ?_
  refine compL_cons et_N ev_cYes (ev_dataE (ev_callUE rfl (ev_cons ev_K ev_nil) rfl rfl h3 rfl) rfl) (by simp) ?_
  refine compL_cons et_N ev_cYes (ev_dataE (ev_callUE rfl (ev_cons ev_K ev_nil) rfl rfl h4 rfl) rfl) (by simp) ?_
  rfl

theorem t_four3 {ns : List Int} {one two three four : List Int} {N : Nat} {u : List PyData} (hu : Urn N u) (hN : N ≤ 10000) : ∃ (p1 p2 p3 p4 : List Int) (u' : List PyData), Ev (fLc (fRange1 (fCons (fK (.int 4)) (fun ps => .ok [] ps))) (uN 10) cYes (fun ps => ((fCallU 1 1 M__law_piece (fCons (fK (.int 3)) (fun ps => .ok [] ps))) ps).map PV.data) [10]) [some (.val (.list (ns.map .int))), some (.own (.list u)), none, none, none, none, none, none, none, none, none, some (.val (eP one)), some (.val (eP two)), some (.val (eP three)), some (.val (eP four)), none, none, none, none, none, none, none, none, none] (.own (.list [eP p1, eP p2, eP p3, eP p4])) [some (.val (.list (ns.map .int))), some (.own (.list u')), none, none, none, none, none, none, none, none, none, some (.val (eP one)), some (.val (eP two)), some (.val (eP three)), some (.val (eP four)), none, none, none, none, none, none, none, none, none] ∧ ((Vp p1 ∧ p1.length ≤ 3) ∧ (Vp p2 ∧ p2.length ≤ 3) ∧ (Vp p3 ∧ p3.length ≤ 3) ∧ (Vp p4 ∧ p4.length ≤ 3)) ∧ Urn (N + 100) u' := by
  obtain ⟨p1, u1, h1, g1, k1⟩ := t_piece (m := 3) hu (by omega) (by omega)
  obtain ⟨p2, u2, h2, g2, k2⟩ := t_piece (m := 3) k1 (by omega) (by omega)
  obtain ⟨p3, u3, h3, g3, k3⟩ := t_piece (m := 3) k2 (by omega) (by omega)
  obtain ⟨p4, u4, h4, g4, k4⟩ := t_piece (m := 3) k3 (by omega) (by omega)
  refine ⟨p1, p2, p3, p4, u4, ?_, ⟨g1, g2, g3, g4⟩, k4.le (by omega)⟩
  refine ev_lcS (p0 := [some (.val (.list (ns.map .int))), some (.own (.list u)), none, none, none, none, none, none, none, none, none, some (.val (eP one)), some (.val (eP two)), some (.val (eP three)), some (.val (eP four)), none, none, none, none, none, none, none, none, none]) (ds := [.int 0, .int 1, .int 2, .int 3]) (ev_range1 (k := 4) (ev_cons ev_K ev_nil) (by omega)) rfl ?_ (p1 := [some (.val (.list (ns.map .int))), some (.own (.list u4)), none, none, none, none, none, none, none, none, none, some (.val (eP one)), some (.val (eP two)), some (.val (eP three)), some (.val (eP four)), none, none, none, none, none, none, none, none, none]) rfl
  refine compL_cons et_N ev_cYes (ev_dataE (ev_callUE rfl (ev_cons ev_K ev_nil) rfl rfl h1 rfl) rfl) (by simp) ?_
  refine compL_cons et_N ev_cYes (ev_dataE (ev_callUE rfl (ev_cons ev_K ev_nil) rfl rfl h2 rfl) rfl) (by simp) ?_
  refine compL_cons et_N ev_cYes (ev_dataE (ev_callUE rfl (ev_cons ev_K ev_nil) rfl rfl h3 rfl) rfl) (by simp) ?_
  refine compL_cons et_N ev_cYes (ev_dataE (ev_callUE rfl (ev_cons ev_K ev_nil) rfl rfl h4 rfl) rfl) (by simp) ?_
  rfl

theorem t_c3 {ns one two three four : List Int} {N : Nat} {u : List PyData} (hu : Urn N u) (hN : N ≤ 10000) (h1 : Vp one ∧ one.length ≤ 5) (h2 : Vp two ∧ two.length ≤ 5) : ∃ (two' : List Int) (u' : List PyData), Es c3 [some (.val (.list (ns.map .int))), some (.own (.list u)), none, none, none, none, none, none, none, none, none, some (.val (eP one)), some (.val (eP two)), some (.val (eP three)), some (.val (eP four)), none, none, none, none, none, none, none, none, none] (.nx [some (.val (.list (ns.map .int))), some (.own (.list u')), none, none, none, none, none, none, none, none, none, some (.val (eP one)), some (.val (eP two')), some (.val (eP three)), some (.val (eP four)), none, none, none, none, none, none, none, none, none]) ∧ (Vp two' ∧ two'.length ≤ 10) ∧ Urn (N + 1) u' := by
  obtain ⟨k, u', e, hk, hu'⟩ := t_take (n := 2) hu (by omega) (by omega) (by omega)
  by_cases h : k = 0
  · refine ⟨one ++ two, u', ?_, ⟨h1.1.app h2.1 (by omega), by simp; omega⟩, hu'⟩
    unfold c3
    apply es_ifT
    · repeat infer_instance
      · exact e
      repeat infer_instance
    apply es_to
    · repeat infer_instance
      · omega
      repeat infer_instance
    · rfl
  · refine ⟨two, u', ?_, ⟨h2.1, by omega⟩, hu'⟩
    unfold c3
    apply es_ifF
    · repeat infer_instance
      · exact e
      repeat infer_instance
    repeat infer_instance
theorem t_c4 {ns one two three four : List Int} {N : Nat} {u : List PyData} (hu : Urn N u) (hN : N ≤ 10000) (h1 : Vp one ∧ one.length ≤ 5) (h2 : Vp three ∧ three.length ≤ 5) : ∃ (three' : List Int) (u' : List PyData), Es c4 [some (.val (.list (ns.map .int))), some (.own (.list u)), none, none, none, none, none, none, none, none, none, some (.val (eP one)), some (.val (eP two)), some (.val (eP three)), some (.val (eP four)), none, none, none, none, none, none, none, none, none] (.nx [some (.val (.list (ns.map .int))), some (.own (.list u')), none, none, none, none, none, none, none, none, none, some (.val (eP one)), some (.val (eP two)), some (.val (eP three')), some (.val (eP four)), none, none, none, none, none, none, none, none, none]) ∧ (Vp three' ∧ three'.length ≤ 10) ∧ Urn (N + 1) u' := by
  obtain ⟨k, u', e, hk, hu'⟩ := t_take (n := 2) hu (by omega) (by omega) (by omega)
  by_cases h : k = 0
  · refine ⟨one.take 2 ++ three, u', ?_, ⟨(h1.1.take 2).app h2.1 (by simp; omega), by simp; omega⟩, hu'⟩
    unfold c4
    apply es_ifT
    · repeat infer_instance
      · exact e
      repeat infer_instance
    apply es_to
    · repeat infer_instance
      · show (2 : Int) = ((2 : Nat) : Int)
        rfl
      repeat infer_instance
      · simp only [List.length_take]; omega
      repeat infer_instance
    · rfl
  · refine ⟨three, u', ?_, ⟨h2.1, by omega⟩, hu'⟩
    unfold c4
    apply es_ifF
    · repeat infer_instance
      · exact e
      repeat infer_instance
    repeat infer_instance
theorem t_c6 {ns one two three four a b c d : List Int} {N : Nat} {u : List PyData} (hu : Urn N u) (hN : N ≤ 10000) (h1 : Vp a ∧ a.length ≤ 3) (h2 : Vp b ∧ b.length ≤ 3) : ∃ (a' : List Int) (u' : List PyData), Es c6 [some (.val (.list (ns.map .int))), some (.own (.list u)), none, none, none, none, none, none, none, none, none, some (.val (eP one)), some (.val (eP two)), some (.val (eP three)), some (.val (eP four)), some (.val (eP a)), some (.val (eP b)), some (.val (eP c)), some (.val (eP d)), none, none, none, none, none] (.nx [some (.val (.list (ns.map .int))), some (.own (.list u')), none, none, none, none, none, none, none, none, none, some (.val (eP one)), some (.val (eP two)), some (.val (eP three)), some (.val (eP four)), some (.val (eP a')), some (.val (eP b)), some (.val (eP c)), some (.val (eP d)), none, none, none, none, none]) ∧ (Vp a' ∧ a'.length ≤ 3) ∧ Urn (N + 1) u' := by
  obtain ⟨k, u', e, hk, hu'⟩ := t_take (n := 3) hu (by omega) (by omega) (by omega)
  by_cases h : k = 0
  · refine ⟨b, u', ?_, h2, hu'⟩
    unfold c6
    apply es_ifT
    · repeat infer_instance
      · exact e
      repeat infer_instance
    apply es_to
    · repeat infer_instance
    · rfl
  · refine ⟨a, u', ?_, h1, hu'⟩
    unfold c6
    apply es_ifF
    · repeat infer_instance
      · exact e
      repeat infer_instance
    repeat infer_instance
noncomputable def rest7 : PSt → Os := (fSeq c7 (fSeq c8 (fSeq c9 (fSeq c10 (fSeq c11 (fSeq c12 (fSeq c13 (fSeq c14 (fSeq c15 (fSeq c16 (fSeq c17 (fSeq c18 (fSeq c19 (fSeq c20 (fSeq c21 (fSeq c22 (fSeq c23 (fSeq c24 (fSeq c25 c26)))))))))))))))))))
theorem partA {ns : List Int} (hl : ns.length ≤ 63) : ∃ (u : List PyData) (one two three four a b c d : List Int), ((Vp one ∧ one.length ≤ 5) ∧ (Vp two ∧ two.length ≤ 10) ∧ (Vp three ∧ three.length ≤ 10) ∧ (Vp four ∧ four.length ≤ 5)) ∧ ((Vp a ∧ a.length ≤ 3) ∧ (Vp b ∧ b.length ≤ 3) ∧ (Vp c ∧ c.length ≤ 3) ∧ (Vp d ∧ d.length ≤ 3)) ∧ ∀ o, Es rest7 [some (.val (.list (ns.map .int))), some (.own (.list u)), none, none, none, none, none, none, none, none, none, some (.val (eP one)), some (.val (eP two)), some (.val (eP three)), some (.val (eP four)), some (.val (eP a)), some (.val (eP b)), some (.val (eP c)), some (.val (eP d)), none, none, none, none, none] o → Es b_law [some (.val (.list (ns.map .int))), none, none, none, none, none, none, none, none, none, none, none, none, none, none, none, none, none, none, none, none, none, none, none] o := by
  obtain ⟨c0, hc⟩ := t_cells hl
  obtain ⟨u0, hb, hu0⟩ := t_box (c := c0)
  obtain ⟨one, two, three, four, u1, e1, ⟨v1, v2, v3, v4⟩, hu1⟩ := t_four5 (ns := ns) hu0 (by omega)
  obtain ⟨two', u2, e2, v2', hu2⟩ := t_c3 (ns := ns) (three := three) (four := four) hu1 (by omega) v1 v2
  obtain ⟨three', u3, e3, v3', hu3⟩ := t_c4 (ns := ns) (two := two') (four := four) hu2 (by omega) v1 v3
  obtain ⟨a, b, c, d, u4, e4, ⟨w1, w2, w3, w4⟩, hu4⟩ := t_four3 (ns := ns) (one := one) (two := two') (three := three') (four := four) hu3 (by omega)
  obtain ⟨a', u5, e5, w1', hu5⟩ := t_c6 (ns := ns) (one := one) (two := two') (three := three') (four := four) (c := c) (d := d) hu4 (by omega) w1 w2
  refine ⟨u5, one, two', three', four, a', b, c, d, ⟨v1, v2', v3', v4⟩, ⟨w1', w2, w3, w4⟩, fun o h => ?_⟩
  rw [law_split]
  refine es_seq (ps1 := [some (.val (.list (ns.map .int))), some (.own (.list u0)), none, none, none, none, none, none, none, none, none, none, none, none, none, none, none, none, none, none, none, none, none, none]) ?_ (es_seq (ps1 := [some (.val (.list (ns.map .int))), some (.own (.list u1)), none, none, none, none, none, none, none, none, none, some (.val (eP one)), some (.val (eP two)), some (.val (eP three)), some (.val (eP four)), none, none, none, none, none, none, none, none, none]) ?_ (es_seq e2 (es_seq e3 (es_seq (ps1 := [some (.val (.list (ns.map .int))), some (.own (.list u4)), none, none, none, none, none, none, none, none, none, some (.val (eP one)), some (.val (eP two')), some (.val (eP three')), some (.val (eP four)), some (.val (eP a)), some (.val (eP b)), some (.val (eP c)), some (.val (eP d)), none, none, none, none, none]) ?_ (es_seq e5 h)))))
  · unfold c1
    refine es_setS (ps1 := [some (.val (.list (ns.map .int))), none, none, none, none, none, none, none, none, none, none, none, none, none, none, none, none, none, none, none, none, none, none, none]) (p := .own (.list u0)) ?_ rfl
    refine ev_callE (ds := [.list [.int c0], .int 0]) ?_ rfl hb
    refine ev_cons (ev_dataE (ev_callE (ev_cons (ev_N rfl) (ev_cons ev_K ev_nil)) rfl hc) rfl) (ev_cons ev_K ev_nil)
  · unfold c2
    exact es_asg (ev_dataE e1 rfl) (et_LE rfl (ets_cons et_N (ets_cons et_N (ets_cons et_N (ets_cons et_N ets_nil)))))
  · unfold c5
    exact es_asg (ev_dataE e4 rfl) (et_LE rfl (ets_cons et_N (ets_cons et_N (ets_cons et_N (ets_cons et_N ets_nil)))))

end TT

/-! K00b: what k00's functions answer -/
namespace TT
open PySem PySem.Spec L2 GL
open PyProof.Rows hiding St
local macro_rules | `(tactic| infer_instance) => `(tactic| first
  | (with_reducible apply es_seqS)
  | (with_reducible apply es_setS)
  | (with_reducible apply es_seqA)
  | (with_reducible apply es_seqE)
  | (with_reducible apply es_ret)
  | (with_reducible apply es_expr)
  | (with_reducible apply es_asg)
  | (with_reducible exact es_skip)
  | (with_reducible exact ev_K)
  | (with_reducible exact ev_nil)
  | ((with_reducible apply ev_nilE); exact rfl)
  | ((with_reducible apply ev_KE); exact rfl)
  | (with_reducible exact ev_cYes)
  | (with_reducible exact ev_partN)
  | (with_reducible apply ev_cons)
  | ((with_reducible apply ev_N); exact rfl)
  | ((with_reducible apply ev_MvS); exact rfl)
  | ((with_reducible apply ev_NoS); exact rfl)
  | (with_reducible apply ev_dataE)
  | (with_reducible apply ev_val)
  | (with_reducible apply ev_bin)
  | (with_reducible apply ev_un)
  | ((with_reducible apply ev_binS))
  | ((with_reducible apply ev_ixS))
  | ((with_reducible apply ev_lenS))
  | (with_reducible apply ev_test)
  | (with_reducible apply ev_notE)
  | (with_reducible apply ev_notVE)
  | (with_reducible apply ev_tupE)
  | (with_reducible apply ev_lstE)
  | (with_reducible apply ev_app)
  | (with_reducible apply ev_appO)
  | (with_reducible apply ev_isi)
  | (with_reducible apply ev_callE)
  | ((with_reducible apply ev_callUE); exact rfl)
  | (with_reducible apply ev_partS)
  | (with_reducible apply ev_seqI)
  | (with_reducible apply ev_lcS)
  | (with_reducible apply et_NS)
  | (with_reducible exact ets_nil)
  | ((with_reducible apply et_TE); exact rfl)
  | ((with_reducible apply et_LE); exact rfl)
  | focus ((with_reducible show List.length _ = _); exact rfl)
  | focus ((with_reducible show List.length (α := PyData) _ ≤ 1000); (simp only [List.length_cons, List.length_nil]; omega))
  | (with_reducible apply ets_cons)
  | (with_reducible apply dAdd_iE)
  | (with_reducible apply dSub_iE)
  | (with_reducible apply dLt_iE)
  | (with_reducible apply dGt_iE)
  | (with_reducible apply dLe_iE)
  | (with_reducible apply dGe_iE)
  | (with_reducible apply dEq_iE)
  | (with_reducible apply dNe_iE)
  | (with_reducible apply dEq_bE)
  | (with_reducible apply dNe_bE)
  | (with_reducible apply dLen_lE)
  | (with_reducible apply dLen_tE)
  | (with_reducible exact dAbs_i)
  | (with_reducible exact dInt_i)
  | (with_reducible exact dInt_b)
  | (with_reducible exact dTuple_l)
  | (with_reducible exact dTuple_t)
  | focus ((with_reducible show dTuple _ = _); exact rfl)
  | (with_reducible exact dList_l)
  | (with_reducible exact dList_t)
  | (with_reducible exact dMin2_i)
  | (with_reducible exact dMax2_i)
  | focus ((with_reducible show _ = some (some _)); exact rfl)
  | (with_reducible exact data_val)
  | (with_reducible exact data_own)
  | focus ((with_reducible show (!_) = _); exact rfl)
  | ((with_reducible apply look_val); exact rfl)
  | ((with_reducible apply look_own); exact rfl)
  | focus ((with_reducible show seqOf _ = _); exact rfl)
  | focus ((with_reducible show @Eq PV _ _); exact rfl)
  | focus ((with_reducible show @Eq PSt _ _); first | (focus (dsimp only [List.set, List.set_cons_succ, List.set_cons_zero, wipeP, restP, keepV, List.getElem?_cons_succ, List.getElem?_cons_zero]; try exact rfl)) | exact rfl)
  | focus ((with_reducible show isaD _ _ = _); exact rfl)
  | focus ((with_reducible show isa2 _ _ _ = _); exact rfl)
  | focus ((with_reducible show dIx _ _ = _); first | exact rfl | exact dIx_t0 rfl | exact dIx_l0 rfl)
  | focus ((with_reducible show (_ && _) = _); exact rfl)
  | focus ((with_reducible show (_ || _) = _); exact rfl)
  | (with_reducible apply dMul_iE)
  | (with_reducible apply dMod_iE)
  | (with_reducible apply dFdiv_iE)
  | (with_reducible exact (rfl : (_ : Bool) = _))
  | (with_reducible exact (rfl : (_ : Int) = _))
  | exact decide_eq_true (by omega)
  | exact decide_eq_false (by omega)
  | focus ((with_reducible show (_ : Int) = _); omega)
  | focus ((with_reducible show (_ : Int) < _); omega)
  )
local macro_rules | `(tactic| infer_instance) => `(tactic| first
  | (with_reducible apply sl_fromI)
  | (with_reducible apply sl_toI)
  | (with_reducible apply dAdd_P)
  | (with_reducible apply dEq_P)
  | (with_reducible apply dEq_P0)
  | (with_reducible apply dNe_P)
  | (with_reducible apply dNe_P0)
  | (with_reducible apply dEq_L)
  | (with_reducible apply dNe_L)
  | (with_reducible apply dLen_P)
  | (with_reducible exact t_is_number)
  | (with_reducible exact t_alike)
  | (with_reducible exact t_lag_between)
  | (with_reducible apply t_sureE)
  | (with_reducible apply t_is_piece)
  | focus ((with_reducible show Vp _); assumption)
  | (with_reducible exact (cp_le _ _).1)
  | (with_reducible exact (cp_le _ _).2))
local macro_rules | `(tactic| infer_instance) => `(tactic| first
  | (with_reducible exact t_ends))
local macro_rules | `(tactic| infer_instance) => `(tactic| first
  | (with_reducible apply es_seqIx)
  | (with_reducible apply es_setIxE)
  | focus ((with_reducible show ixN _ _ = _); exact rfl)
  | focus ((with_reducible show _ = some (some (PV.own _))); exact rfl)
  | focus ((with_reducible show _ ∨ _); first | (left; omega) | (right; omega))
  | focus ((with_reducible show _ ∧ _ < (1073741824 : Int)); omega)
  | focus ((with_reducible show dIs _ _ = _); exact rfl)
  | focus ((with_reducible show dIsNot _ _ = _); exact rfl)
  | (with_reducible exact decide_eq_true rfl)
  | focus ((with_reducible show decide (@Eq Bool _ _) = _); exact rfl))
theorem t_isl_of {x y : List Int} (hx : Vp x) (hy : Vp y) : M_is_lag [eL (lgA x y) (lgB x y)] = .ok (.val (.bool true)) := t_is_lag (Lg_of hx hy)
theorem t_turned_of {x y : List Int} (hx : Vp x) (hy : Vp y) : M_lag_turned [eL (lgA x y) (lgB x y)] = .ok (.val (eL (lgA y x) (lgB y x))) := by
  rw [t_lag_turned (Lg_of hx hy), lgA_comm y x, lgB_comm y x]
theorem t_len_of {x y : List Int} (hx : Vp x) (hy : Vp y) : M_lag_length [eL (lgA x y) (lgB x y)] = .ok (.val (.int (((lgA x y).length : Int) + (lgB x y).length))) := t_lag_length (Lg_of hx hy)
theorem t_behind_of {x y a b : List Int} (hx : Vp x) (hy : Vp y) (ha : Vp a) (hb : Vp b) : M_lag_behind [eL (lgA x y) (lgB x y), eP a, eP b] = .ok (.val (eL (lgA (x ++ a) (y ++ b)) (lgB (x ++ a) (y ++ b)))) := by
  rw [t_lag_behind (Lg_of hx hy) ha hb, lgA_behind, lgB_behind]
def Kept (x y a b : List Int) : Prop := lgA (x ++ a) (y ++ b) = lgA x y ∧ lgB (x ++ a) (y ++ b) = lgB x y
instance {x y a b : List Int} : Decidable (Kept x y a b) := by unfold Kept; exact inferInstance
theorem t_kept_of {x y a b : List Int} (hx : Vp x) (hy : Vp y) (ha : Vp a) (hb : Vp b) : M_is_kept [eL (lgA x y) (lgB x y), eP a, eP b] = .ok (.val (.bool (decide (Kept x y a b)))) := by
  rw [t_is_kept (Lg_of hx hy) ha hb, lgA_behind, lgB_behind]; rfl
theorem t_same_list {ds es : List PyData} (e : ds = es) (hl : ds.length ≤ 1000) (h : ∀ e ∈ ds, R__law_same 39 [e, e] = .ok (.val (.bool true))) : M__law_same [.list ds, .list es] = .ok (.val (.bool true)) := by
  subst e; exact t_same_s hl (.inl rfl) h
theorem dIsNot_T {k : Bool} (h : k = true) : dIsNot (.bool k) (.bool true) = some (.bool false) := by subst h; rfl
theorem dIsNot_F {k : Bool} (h : k = false) : dIsNot (.bool k) (.bool false) = some (.bool false) := by subst h; rfl
theorem s39i {i : Int} : R__law_same 39 [.int i, .int i] = .ok (.val (.bool true)) := t_same_i
theorem s39b {i : Bool} : R__law_same 39 [.bool i, .bool i] = .ok (.val (.bool true)) := t_same_b
theorem s39P {x : List Int} (h : Vp x) : R__law_same 39 [eP x, eP x] = .ok (.val (.bool true)) := t_same_P h.2
theorem s39L {x y : List Int} (hx : Vp x) (hy : Vp y) : R__law_same 39 [eL (lgA x y) (lgB x y), eL (lgA x y) (lgB x y)] = .ok (.val (.bool true)) := t_same_L (hx.drop _).2 (hy.drop _).2

local macro_rules | `(tactic| infer_instance) => `(tactic| first
  | (with_reducible exact t_law_lag)
  | (with_reducible apply t_lag_of)
  | (with_reducible apply t_lag_ofl)
  | (with_reducible apply t_isl_of)
  | (with_reducible apply t_turned_of)
  | (with_reducible apply t_len_of)
  | (with_reducible apply t_behind_of)
  | (with_reducible apply t_kept_of)
  | (with_reducible apply t_are_near)
  | (with_reducible apply t_front)
  | (with_reducible apply t_heard_through)
  | (with_reducible apply Vp.app)
  | focus ((with_reducible show (_ : Nat) ≤ 1000); (try simp only [List.length_append]); omega)
  | focus ((with_reducible show (_ : Nat) ≤ 16777216); (try simp only [List.length_append, List.length_take]); omega)
  | (with_reducible apply dIsNot_T)
  | (with_reducible apply dIsNot_F)
  | focus ((with_reducible show (0 : Int) ≤ _); omega))

structure H8 (one two three four a b c d : List Int) : Prop where
  v1 : Vp one
  v2 : Vp two
  v3 : Vp three
  v4 : Vp four
  va : Vp a
  vb : Vp b
  vc : Vp c
  vd : Vp d
  l1 : one.length ≤ 5
  l2 : two.length ≤ 10
  l3 : three.length ≤ 10
  l4 : four.length ≤ 5
  la : a.length ≤ 3
  lb : b.length ≤ 3
  lc : c.length ≤ 3
  ld : d.length ≤ 3
section
variable {ns one two three four a b c d : List Int} {u : List PyData}

theorem t_c7 (h : H8 one two three four a b c d) : Es c7 [some (.val (.list (ns.map .int))), some (.own (.list u)), none, none, none, none, none, none, none, none, none, some (.val (eP one)), some (.val (eP two)), some (.val (eP three)), some (.val (eP four)), some (.val (eP a)), some (.val (eP b)), some (.val (eP c)), some (.val (eP d)), none, none, none, none, none] (.nx [some (.val (.list (ns.map .int))), some (.own (.list u)), some (.val (eL (lgA (one) (two)) (lgB (one) (two)))), none, none, none, none, none, none, none, none, some (.val (eP one)), some (.val (eP two)), some (.val (eP three)), some (.val (eP four)), some (.val (eP a)), some (.val (eP b)), some (.val (eP c)), some (.val (eP d)), none, none, none, none, none]) := by
  obtain ⟨v1, v2, v3, v4, va, vb, vc, vd, l1, l2, l3, l4, la, lb, lc, ld⟩ := h
  unfold c7
  apply es_setS
  repeat infer_instance

theorem t_c8 (h : H8 one two three four a b c d) : Es c8 [some (.val (.list (ns.map .int))), some (.own (.list u)), some (.val (eL (lgA (one) (two)) (lgB (one) (two)))), none, none, none, none, none, none, none, none, some (.val (eP one)), some (.val (eP two)), some (.val (eP three)), some (.val (eP four)), some (.val (eP a)), some (.val (eP b)), some (.val (eP c)), some (.val (eP d)), none, none, none, none, none] (.nx [some (.val (.list (ns.map .int))), some (.own (.list u)), some (.val (eL (lgA (one) (two)) (lgB (one) (two)))), some (.own (.list [eL (lgA (one) (two)) (lgB (one) (two)), .bool true, eL (lgA (two) (one)) (lgB (two) (one)), eL (lgA (two) (one)) (lgB (two) (one)), .int (((lgA one two).length : Int) + (lgB one two).length), eL (lgA (c ++ one) (c ++ two)) (lgB (c ++ one) (c ++ two)), eP (one.take (cp one two))])), none, none, none, none, none, none, none, some (.val (eP one)), some (.val (eP two)), some (.val (eP three)), some (.val (eP four)), some (.val (eP a)), some (.val (eP b)), some (.val (eP c)), some (.val (eP d)), none, none, none, none, none]) := by
  obtain ⟨v1, v2, v3, v4, va, vb, vc, vd, l1, l2, l3, l4, la, lb, lc, ld⟩ := h
  unfold c8
  apply es_setS
  repeat infer_instance

theorem t_c9 (h : H8 one two three four a b c d) : Es c9 [some (.val (.list (ns.map .int))), some (.own (.list u)), some (.val (eL (lgA (one) (two)) (lgB (one) (two)))), some (.own (.list [eL (lgA (one) (two)) (lgB (one) (two)), .bool true, eL (lgA (two) (one)) (lgB (two) (one)), eL (lgA (two) (one)) (lgB (two) (one)), .int (((lgA one two).length : Int) + (lgB one two).length), eL (lgA (c ++ one) (c ++ two)) (lgB (c ++ one) (c ++ two)), eP (one.take (cp one two))])), none, none, none, none, none, none, none, some (.val (eP one)), some (.val (eP two)), some (.val (eP three)), some (.val (eP four)), some (.val (eP a)), some (.val (eP b)), some (.val (eP c)), some (.val (eP d)), none, none, none, none, none] (.nx [some (.val (.list (ns.map .int))), some (.own (.list u)), some (.val (eL (lgA (one) (two)) (lgB (one) (two)))), some (.own (.list [eL (lgA (one) (two)) (lgB (one) (two)), .bool true, eL (lgA (two) (one)) (lgB (two) (one)), eL (lgA (two) (one)) (lgB (two) (one)), .int (((lgA one two).length : Int) + (lgB one two).length), eL (lgA (c ++ one) (c ++ two)) (lgB (c ++ one) (c ++ two)), eP (one.take (cp one two))])), some (.val (eL (lgA (one) (two)) (lgB (one) (two)))), none, none, none, none, none, none, some (.val (eP one)), some (.val (eP two)), some (.val (eP three)), some (.val (eP four)), some (.val (eP a)), some (.val (eP b)), some (.val (eP c)), some (.val (eP d)), none, none, none, none, none]) := by
  obtain ⟨v1, v2, v3, v4, va, vb, vc, vd, l1, l2, l3, l4, la, lb, lc, ld⟩ := h
  unfold c9
  apply es_setS
  repeat infer_instance

theorem t_c10 (h : H8 one two three four a b c d) : Es c10 [some (.val (.list (ns.map .int))), some (.own (.list u)), some (.val (eL (lgA (one) (two)) (lgB (one) (two)))), some (.own (.list [eL (lgA (one) (two)) (lgB (one) (two)), .bool true, eL (lgA (two) (one)) (lgB (two) (one)), eL (lgA (two) (one)) (lgB (two) (one)), .int (((lgA one two).length : Int) + (lgB one two).length), eL (lgA (c ++ one) (c ++ two)) (lgB (c ++ one) (c ++ two)), eP (one.take (cp one two))])), some (.val (eL (lgA (one) (two)) (lgB (one) (two)))), none, none, none, none, none, none, some (.val (eP one)), some (.val (eP two)), some (.val (eP three)), some (.val (eP four)), some (.val (eP a)), some (.val (eP b)), some (.val (eP c)), some (.val (eP d)), none, none, none, none, none] (.nx [some (.val (.list (ns.map .int))), some (.own (.list u)), some (.val (eL (lgA (one) (two)) (lgB (one) (two)))), some (.own (.list [eL (lgA (one) (two)) (lgB (one) (two)), .bool true, eL (lgA (two) (one)) (lgB (two) (one)), eL (lgA (two) (one)) (lgB (two) (one)), .int (((lgA one two).length : Int) + (lgB one two).length), eL (lgA (c ++ one) (c ++ two)) (lgB (c ++ one) (c ++ two)), eP (one.take (cp one two))])), some (.val (eL (lgA (one) (two)) (lgB (one) (two)))), some (.val (eP (one.take (cp one two)))), none, none, none, none, none, some (.val (eP one)), some (.val (eP two)), some (.val (eP three)), some (.val (eP four)), some (.val (eP a)), some (.val (eP b)), some (.val (eP c)), some (.val (eP d)), none, none, none, none, none]) := by
  obtain ⟨v1, v2, v3, v4, va, vb, vc, vd, l1, l2, l3, l4, la, lb, lc, ld⟩ := h
  unfold c10
  have := cp_le one two
  apply es_setS
  repeat infer_instance
  · show _ = ((cp one two : Nat) : Int)
    simp; omega
  repeat infer_instance

theorem t_c11 (h : H8 one two three four a b c d) : Es c11 [some (.val (.list (ns.map .int))), some (.own (.list u)), some (.val (eL (lgA (one) (two)) (lgB (one) (two)))), some (.own (.list [eL (lgA (one) (two)) (lgB (one) (two)), .bool true, eL (lgA (two) (one)) (lgB (two) (one)), eL (lgA (two) (one)) (lgB (two) (one)), .int (((lgA one two).length : Int) + (lgB one two).length), eL (lgA (c ++ one) (c ++ two)) (lgB (c ++ one) (c ++ two)), eP (one.take (cp one two))])), some (.val (eL (lgA (one) (two)) (lgB (one) (two)))), some (.val (eP (one.take (cp one two)))), none, none, none, none, none, some (.val (eP one)), some (.val (eP two)), some (.val (eP three)), some (.val (eP four)), some (.val (eP a)), some (.val (eP b)), some (.val (eP c)), some (.val (eP d)), none, none, none, none, none] (.nx [some (.val (.list (ns.map .int))), some (.own (.list u)), some (.val (eL (lgA (one) (two)) (lgB (one) (two)))), some (.val (.list [eL (lgA (one) (two)) (lgB (one) (two)), .bool true, eL (lgA (two) (one)) (lgB (two) (one)), eL (lgA (two) (one)) (lgB (two) (one)), .int (((lgA one two).length : Int) + (lgB one two).length), eL (lgA (c ++ one) (c ++ two)) (lgB (c ++ one) (c ++ two)), eP (one.take (cp one two))])), some (.val (eL (lgA (one) (two)) (lgB (one) (two)))), some (.val (eP (one.take (cp one two)))), none, none, none, none, none, some (.val (eP one)), some (.val (eP two)), some (.val (eP three)), some (.val (eP four)), some (.val (eP a)), some (.val (eP b)), some (.val (eP c)), some (.val (eP d)), none, none, none, none, none]) := by
  obtain ⟨v1, v2, v3, v4, va, vb, vc, vd, l1, l2, l3, l4, la, lb, lc, ld⟩ := h
  unfold c11
  apply es_ifF
  repeat infer_instance
  · refine t_same_list ?_ (by simp) ?_
    · rw [lgA_comm two one, lgB_comm two one, lgA_app, lgB_app]
    · simp only [List.forall_mem_cons]
      exact ⟨s39L v1 v2, s39b, s39L v2 v1, s39L v2 v1, s39i, s39L (vc.app v1 (by omega)) (vc.app v2 (by omega)), s39P (v1.take _), by simp⟩
  repeat infer_instance

theorem t_c12 (h : H8 one two three four a b c d) : Es c12 [some (.val (.list (ns.map .int))), some (.own (.list u)), some (.val (eL (lgA (one) (two)) (lgB (one) (two)))), some (.val (.list [eL (lgA (one) (two)) (lgB (one) (two)), .bool true, eL (lgA (two) (one)) (lgB (two) (one)), eL (lgA (two) (one)) (lgB (two) (one)), .int (((lgA one two).length : Int) + (lgB one two).length), eL (lgA (c ++ one) (c ++ two)) (lgB (c ++ one) (c ++ two)), eP (one.take (cp one two))])), some (.val (eL (lgA (one) (two)) (lgB (one) (two)))), some (.val (eP (one.take (cp one two)))), none, none, none, none, none, some (.val (eP one)), some (.val (eP two)), some (.val (eP three)), some (.val (eP four)), some (.val (eP a)), some (.val (eP b)), some (.val (eP c)), some (.val (eP d)), none, none, none, none, none] (.nx [some (.val (.list (ns.map .int))), some (.own (.list u)), some (.val (eL (lgA (one) (two)) (lgB (one) (two)))), some (.val (.list [eL (lgA (one) (two)) (lgB (one) (two)), .bool true, eL (lgA (two) (one)) (lgB (two) (one)), eL (lgA (two) (one)) (lgB (two) (one)), .int (((lgA one two).length : Int) + (lgB one two).length), eL (lgA (c ++ one) (c ++ two)) (lgB (c ++ one) (c ++ two)), eP (one.take (cp one two))])), some (.val (eL (lgA (one) (two)) (lgB (one) (two)))), some (.val (eP (one.take (cp one two)))), some (.val (eL (lgA (one ++ a) (two ++ b)) (lgB (one ++ a) (two ++ b)))), none, none, none, none, some (.val (eP one)), some (.val (eP two)), some (.val (eP three)), some (.val (eP four)), some (.val (eP a)), some (.val (eP b)), some (.val (eP c)), some (.val (eP d)), none, none, none, none, none]) := by
  obtain ⟨v1, v2, v3, v4, va, vb, vc, vd, l1, l2, l3, l4, la, lb, lc, ld⟩ := h
  unfold c12
  apply es_setS
  repeat infer_instance

theorem t_c13 (h : H8 one two three four a b c d) : Es c13 [some (.val (.list (ns.map .int))), some (.own (.list u)), some (.val (eL (lgA (one) (two)) (lgB (one) (two)))), some (.val (.list [eL (lgA (one) (two)) (lgB (one) (two)), .bool true, eL (lgA (two) (one)) (lgB (two) (one)), eL (lgA (two) (one)) (lgB (two) (one)), .int (((lgA one two).length : Int) + (lgB one two).length), eL (lgA (c ++ one) (c ++ two)) (lgB (c ++ one) (c ++ two)), eP (one.take (cp one two))])), some (.val (eL (lgA (one) (two)) (lgB (one) (two)))), some (.val (eP (one.take (cp one two)))), some (.val (eL (lgA (one ++ a) (two ++ b)) (lgB (one ++ a) (two ++ b)))), none, none, none, none, some (.val (eP one)), some (.val (eP two)), some (.val (eP three)), some (.val (eP four)), some (.val (eP a)), some (.val (eP b)), some (.val (eP c)), some (.val (eP d)), none, none, none, none, none] (.nx [some (.val (.list (ns.map .int))), some (.own (.list u)), some (.val (eL (lgA (one) (two)) (lgB (one) (two)))), some (.own (.list [eL (lgA (one ++ a) (two ++ b)) (lgB (one ++ a) (two ++ b)), eL (lgA (one ++ a ++ c) (two ++ b ++ d)) (lgB (one ++ a ++ c) (two ++ b ++ d)), eL (lgA (two ++ b) (one ++ a)) (lgB (two ++ b) (one ++ a)), .bool (decide (Kept one two a b)), eL (lgA (one ++ (a ++ c)) (two ++ (b ++ d))) (lgB (one ++ (a ++ c)) (two ++ (b ++ d)))])), some (.val (eL (lgA (one) (two)) (lgB (one) (two)))), some (.val (eP (one.take (cp one two)))), some (.val (eL (lgA (one ++ a) (two ++ b)) (lgB (one ++ a) (two ++ b)))), none, none, none, none, some (.val (eP one)), some (.val (eP two)), some (.val (eP three)), some (.val (eP four)), some (.val (eP a)), some (.val (eP b)), some (.val (eP c)), some (.val (eP d)), none, none, none, none, none]) := by
  obtain ⟨v1, v2, v3, v4, va, vb, vc, vd, l1, l2, l3, l4, la, lb, lc, ld⟩ := h
  unfold c13
  apply es_setS
  repeat infer_instance

theorem t_c14 (h : H8 one two three four a b c d) : Es c14 [some (.val (.list (ns.map .int))), some (.own (.list u)), some (.val (eL (lgA (one) (two)) (lgB (one) (two)))), some (.own (.list [eL (lgA (one ++ a) (two ++ b)) (lgB (one ++ a) (two ++ b)), eL (lgA (one ++ a ++ c) (two ++ b ++ d)) (lgB (one ++ a ++ c) (two ++ b ++ d)), eL (lgA (two ++ b) (one ++ a)) (lgB (two ++ b) (one ++ a)), .bool (decide (Kept one two a b)), eL (lgA (one ++ (a ++ c)) (two ++ (b ++ d))) (lgB (one ++ (a ++ c)) (two ++ (b ++ d)))])), some (.val (eL (lgA (one) (two)) (lgB (one) (two)))), some (.val (eP (one.take (cp one two)))), some (.val (eL (lgA (one ++ a) (two ++ b)) (lgB (one ++ a) (two ++ b)))), none, none, none, none, some (.val (eP one)), some (.val (eP two)), some (.val (eP three)), some (.val (eP four)), some (.val (eP a)), some (.val (eP b)), some (.val (eP c)), some (.val (eP d)), none, none, none, none, none] (.nx [some (.val (.list (ns.map .int))), some (.own (.list u)), some (.val (eL (lgA (one) (two)) (lgB (one) (two)))), some (.own (.list [eL (lgA (one ++ a) (two ++ b)) (lgB (one ++ a) (two ++ b)), eL (lgA (one ++ a ++ c) (two ++ b ++ d)) (lgB (one ++ a ++ c) (two ++ b ++ d)), eL (lgA (two ++ b) (one ++ a)) (lgB (two ++ b) (one ++ a)), .bool (decide (Kept one two a b)), eL (lgA (one ++ (a ++ c)) (two ++ (b ++ d))) (lgB (one ++ (a ++ c)) (two ++ (b ++ d)))])), some (.own (.list [eL (lgA (one ++ a) (two ++ b)) (lgB (one ++ a) (two ++ b)), eL (lgA (one ++ a ++ c) (two ++ b ++ d)) (lgB (one ++ a ++ c) (two ++ b ++ d)), eL (lgA (two ++ b) (one ++ a)) (lgB (two ++ b) (one ++ a)), .bool (decide (Kept one two a b)), eL (lgA (one ++ a ++ c) (two ++ b ++ d)) (lgB (one ++ a ++ c) (two ++ b ++ d))])), some (.val (eP (one.take (cp one two)))), some (.val (eL (lgA (one ++ a) (two ++ b)) (lgB (one ++ a) (two ++ b)))), none, none, none, none, some (.val (eP one)), some (.val (eP two)), some (.val (eP three)), some (.val (eP four)), some (.val (eP a)), some (.val (eP b)), some (.val (eP c)), some (.val (eP d)), none, none, none, none, none]) := by
  obtain ⟨v1, v2, v3, v4, va, vb, vc, vd, l1, l2, l3, l4, la, lb, lc, ld⟩ := h
  unfold c14
  apply es_setS
  repeat infer_instance

theorem t_c15 (h : H8 one two three four a b c d) : Es c15 [some (.val (.list (ns.map .int))), some (.own (.list u)), some (.val (eL (lgA (one) (two)) (lgB (one) (two)))), some (.own (.list [eL (lgA (one ++ a) (two ++ b)) (lgB (one ++ a) (two ++ b)), eL (lgA (one ++ a ++ c) (two ++ b ++ d)) (lgB (one ++ a ++ c) (two ++ b ++ d)), eL (lgA (two ++ b) (one ++ a)) (lgB (two ++ b) (one ++ a)), .bool (decide (Kept one two a b)), eL (lgA (one ++ (a ++ c)) (two ++ (b ++ d))) (lgB (one ++ (a ++ c)) (two ++ (b ++ d)))])), some (.own (.list [eL (lgA (one ++ a) (two ++ b)) (lgB (one ++ a) (two ++ b)), eL (lgA (one ++ a ++ c) (two ++ b ++ d)) (lgB (one ++ a ++ c) (two ++ b ++ d)), eL (lgA (two ++ b) (one ++ a)) (lgB (two ++ b) (one ++ a)), .bool (decide (Kept one two a b)), eL (lgA (one ++ a ++ c) (two ++ b ++ d)) (lgB (one ++ a ++ c) (two ++ b ++ d))])), some (.val (eP (one.take (cp one two)))), some (.val (eL (lgA (one ++ a) (two ++ b)) (lgB (one ++ a) (two ++ b)))), none, none, none, none, some (.val (eP one)), some (.val (eP two)), some (.val (eP three)), some (.val (eP four)), some (.val (eP a)), some (.val (eP b)), some (.val (eP c)), some (.val (eP d)), none, none, none, none, none] (.nx [some (.val (.list (ns.map .int))), some (.own (.list u)), some (.val (eL (lgA (one) (two)) (lgB (one) (two)))), some (.val (.list [eL (lgA (one ++ a) (two ++ b)) (lgB (one ++ a) (two ++ b)), eL (lgA (one ++ a ++ c) (two ++ b ++ d)) (lgB (one ++ a ++ c) (two ++ b ++ d)), eL (lgA (two ++ b) (one ++ a)) (lgB (two ++ b) (one ++ a)), .bool (decide (Kept one two a b)), eL (lgA (one ++ (a ++ c)) (two ++ (b ++ d))) (lgB (one ++ (a ++ c)) (two ++ (b ++ d)))])), some (.val (.list [eL (lgA (one ++ a) (two ++ b)) (lgB (one ++ a) (two ++ b)), eL (lgA (one ++ a ++ c) (two ++ b ++ d)) (lgB (one ++ a ++ c) (two ++ b ++ d)), eL (lgA (two ++ b) (one ++ a)) (lgB (two ++ b) (one ++ a)), .bool (decide (Kept one two a b)), eL (lgA (one ++ a ++ c) (two ++ b ++ d)) (lgB (one ++ a ++ c) (two ++ b ++ d))])), some (.val (eP (one.take (cp one two)))), some (.val (eL (lgA (one ++ a) (two ++ b)) (lgB (one ++ a) (two ++ b)))), none, none, none, none, some (.val (eP one)), some (.val (eP two)), some (.val (eP three)), some (.val (eP four)), some (.val (eP a)), some (.val (eP b)), some (.val (eP c)), some (.val (eP d)), none, none, none, none, none]) := by
  obtain ⟨v1, v2, v3, v4, va, vb, vc, vd, l1, l2, l3, l4, la, lb, lc, ld⟩ := h
  unfold c15
  apply es_ifF
  repeat infer_instance
  · refine t_same_list ?_ (by simp) ?_
    · rw [List.append_assoc one a c, List.append_assoc two b d]
    · simp only [List.forall_mem_cons]
      have va' := v1.app va (by omega)
      have vb' := v2.app vb (by omega)
      exact ⟨s39L va' vb', s39L (va'.app vc (by simp; omega)) (vb'.app vd (by simp; omega)), s39L vb' va', s39b, s39L (v1.app (va.app vc (by omega)) (by simp; omega)) (v2.app (vb.app vd (by omega)) (by simp; omega)), by simp⟩
  repeat infer_instance

theorem t_c16 (h : H8 one two three four a b c d) : Es c16 [some (.val (.list (ns.map .int))), some (.own (.list u)), some (.val (eL (lgA (one) (two)) (lgB (one) (two)))), some (.val (.list [eL (lgA (one ++ a) (two ++ b)) (lgB (one ++ a) (two ++ b)), eL (lgA (one ++ a ++ c) (two ++ b ++ d)) (lgB (one ++ a ++ c) (two ++ b ++ d)), eL (lgA (two ++ b) (one ++ a)) (lgB (two ++ b) (one ++ a)), .bool (decide (Kept one two a b)), eL (lgA (one ++ (a ++ c)) (two ++ (b ++ d))) (lgB (one ++ (a ++ c)) (two ++ (b ++ d)))])), some (.val (.list [eL (lgA (one ++ a) (two ++ b)) (lgB (one ++ a) (two ++ b)), eL (lgA (one ++ a ++ c) (two ++ b ++ d)) (lgB (one ++ a ++ c) (two ++ b ++ d)), eL (lgA (two ++ b) (one ++ a)) (lgB (two ++ b) (one ++ a)), .bool (decide (Kept one two a b)), eL (lgA (one ++ a ++ c) (two ++ b ++ d)) (lgB (one ++ a ++ c) (two ++ b ++ d))])), some (.val (eP (one.take (cp one two)))), some (.val (eL (lgA (one ++ a) (two ++ b)) (lgB (one ++ a) (two ++ b)))), none, none, none, none, some (.val (eP one)), some (.val (eP two)), some (.val (eP three)), some (.val (eP four)), some (.val (eP a)), some (.val (eP b)), some (.val (eP c)), some (.val (eP d)), none, none, none, none, none] (.nx [some (.val (.list (ns.map .int))), some (.own (.list u)), some (.val (eL (lgA (one) (two)) (lgB (one) (two)))), some (.val (.list [eL (lgA (one ++ a) (two ++ b)) (lgB (one ++ a) (two ++ b)), eL (lgA (one ++ a ++ c) (two ++ b ++ d)) (lgB (one ++ a ++ c) (two ++ b ++ d)), eL (lgA (two ++ b) (one ++ a)) (lgB (two ++ b) (one ++ a)), .bool (decide (Kept one two a b)), eL (lgA (one ++ (a ++ c)) (two ++ (b ++ d))) (lgB (one ++ (a ++ c)) (two ++ (b ++ d)))])), some (.val (.list [eL (lgA (one ++ a) (two ++ b)) (lgB (one ++ a) (two ++ b)), eL (lgA (one ++ a ++ c) (two ++ b ++ d)) (lgB (one ++ a ++ c) (two ++ b ++ d)), eL (lgA (two ++ b) (one ++ a)) (lgB (two ++ b) (one ++ a)), .bool (decide (Kept one two a b)), eL (lgA (one ++ a ++ c) (two ++ b ++ d)) (lgB (one ++ a ++ c) (two ++ b ++ d))])), some (.val (eP (one.take (cp one two)))), some (.val (eL (lgA (one ++ a) (two ++ b)) (lgB (one ++ a) (two ++ b)))), some (.own (.list [eL (lgA (one) (two)) (lgB (one) (two)), eL (lgA (two) (three)) (lgB (two) (three)), eL (lgA (three) (four)) (lgB (three) (four))])), none, none, none, some (.val (eP one)), some (.val (eP two)), some (.val (eP three)), some (.val (eP four)), some (.val (eP a)), some (.val (eP b)), some (.val (eP c)), some (.val (eP d)), none, none, none, none, none]) := by
  obtain ⟨v1, v2, v3, v4, va, vb, vc, vd, l1, l2, l3, l4, la, lb, lc, ld⟩ := h
  unfold c16
  apply es_setS
  repeat infer_instance

theorem t_c17 (h : H8 one two three four a b c d) : Es c17 [some (.val (.list (ns.map .int))), some (.own (.list u)), some (.val (eL (lgA (one) (two)) (lgB (one) (two)))), some (.val (.list [eL (lgA (one ++ a) (two ++ b)) (lgB (one ++ a) (two ++ b)), eL (lgA (one ++ a ++ c) (two ++ b ++ d)) (lgB (one ++ a ++ c) (two ++ b ++ d)), eL (lgA (two ++ b) (one ++ a)) (lgB (two ++ b) (one ++ a)), .bool (decide (Kept one two a b)), eL (lgA (one ++ (a ++ c)) (two ++ (b ++ d))) (lgB (one ++ (a ++ c)) (two ++ (b ++ d)))])), some (.val (.list [eL (lgA (one ++ a) (two ++ b)) (lgB (one ++ a) (two ++ b)), eL (lgA (one ++ a ++ c) (two ++ b ++ d)) (lgB (one ++ a ++ c) (two ++ b ++ d)), eL (lgA (two ++ b) (one ++ a)) (lgB (two ++ b) (one ++ a)), .bool (decide (Kept one two a b)), eL (lgA (one ++ a ++ c) (two ++ b ++ d)) (lgB (one ++ a ++ c) (two ++ b ++ d))])), some (.val (eP (one.take (cp one two)))), some (.val (eL (lgA (one ++ a) (two ++ b)) (lgB (one ++ a) (two ++ b)))), some (.own (.list [eL (lgA (one) (two)) (lgB (one) (two)), eL (lgA (two) (three)) (lgB (two) (three)), eL (lgA (three) (four)) (lgB (three) (four))])), none, none, none, some (.val (eP one)), some (.val (eP two)), some (.val (eP three)), some (.val (eP four)), some (.val (eP a)), some (.val (eP b)), some (.val (eP c)), some (.val (eP d)), none, none, none, none, none] (.nx [some (.val (.list (ns.map .int))), some (.own (.list u)), some (.val (eL (lgA (one) (two)) (lgB (one) (two)))), some (.val (.list [eL (lgA (one ++ a) (two ++ b)) (lgB (one ++ a) (two ++ b)), eL (lgA (one ++ a ++ c) (two ++ b ++ d)) (lgB (one ++ a ++ c) (two ++ b ++ d)), eL (lgA (two ++ b) (one ++ a)) (lgB (two ++ b) (one ++ a)), .bool (decide (Kept one two a b)), eL (lgA (one ++ (a ++ c)) (two ++ (b ++ d))) (lgB (one ++ (a ++ c)) (two ++ (b ++ d)))])), some (.val (.list [eL (lgA (one ++ a) (two ++ b)) (lgB (one ++ a) (two ++ b)), eL (lgA (one ++ a ++ c) (two ++ b ++ d)) (lgB (one ++ a ++ c) (two ++ b ++ d)), eL (lgA (two ++ b) (one ++ a)) (lgB (two ++ b) (one ++ a)), .bool (decide (Kept one two a b)), eL (lgA (one ++ a ++ c) (two ++ b ++ d)) (lgB (one ++ a ++ c) (two ++ b ++ d))])), some (.val (eP (one.take (cp one two)))), some (.val (eL (lgA (one ++ a) (two ++ b)) (lgB (one ++ a) (two ++ b)))), some (.own (.list [eL (lgA (one) (two)) (lgB (one) (two)), eL (lgA (two) (three)) (lgB (two) (three)), eL (lgA (three) (four)) (lgB (three) (four))])), some (.val (eL (lgA (one) (four)) (lgB (one) (four)))), none, none, some (.val (eP one)), some (.val (eP two)), some (.val (eP three)), some (.val (eP four)), some (.val (eP a)), some (.val (eP b)), some (.val (eP c)), some (.val (eP d)), none, none, none, none, none]) := by
  obtain ⟨v1, v2, v3, v4, va, vb, vc, vd, l1, l2, l3, l4, la, lb, lc, ld⟩ := h
  unfold c17
  apply es_setS
  repeat infer_instance

theorem t_c18 (h : H8 one two three four a b c d) : Es c18 [some (.val (.list (ns.map .int))), some (.own (.list u)), some (.val (eL (lgA (one) (two)) (lgB (one) (two)))), some (.val (.list [eL (lgA (one ++ a) (two ++ b)) (lgB (one ++ a) (two ++ b)), eL (lgA (one ++ a ++ c) (two ++ b ++ d)) (lgB (one ++ a ++ c) (two ++ b ++ d)), eL (lgA (two ++ b) (one ++ a)) (lgB (two ++ b) (one ++ a)), .bool (decide (Kept one two a b)), eL (lgA (one ++ (a ++ c)) (two ++ (b ++ d))) (lgB (one ++ (a ++ c)) (two ++ (b ++ d)))])), some (.val (.list [eL (lgA (one ++ a) (two ++ b)) (lgB (one ++ a) (two ++ b)), eL (lgA (one ++ a ++ c) (two ++ b ++ d)) (lgB (one ++ a ++ c) (two ++ b ++ d)), eL (lgA (two ++ b) (one ++ a)) (lgB (two ++ b) (one ++ a)), .bool (decide (Kept one two a b)), eL (lgA (one ++ a ++ c) (two ++ b ++ d)) (lgB (one ++ a ++ c) (two ++ b ++ d))])), some (.val (eP (one.take (cp one two)))), some (.val (eL (lgA (one ++ a) (two ++ b)) (lgB (one ++ a) (two ++ b)))), some (.own (.list [eL (lgA (one) (two)) (lgB (one) (two)), eL (lgA (two) (three)) (lgB (two) (three)), eL (lgA (three) (four)) (lgB (three) (four))])), some (.val (eL (lgA (one) (four)) (lgB (one) (four)))), none, none, some (.val (eP one)), some (.val (eP two)), some (.val (eP three)), some (.val (eP four)), some (.val (eP a)), some (.val (eP b)), some (.val (eP c)), some (.val (eP d)), none, none, none, none, none] (.nx [some (.val (.list (ns.map .int))), some (.own (.list u)), some (.val (eL (lgA (one) (two)) (lgB (one) (two)))), some (.own (.list [eL (lgA (one) (three)) (lgB (one) (three)), eL (lgA (one) (four)) (lgB (one) (four)), eL (lgA (one) (four)) (lgB (one) (four)), eL (lgA (three) (one)) (lgB (three) (one)), eL (lgA (one) (one)) (lgB (one) (one))])), some (.val (.list [eL (lgA (one ++ a) (two ++ b)) (lgB (one ++ a) (two ++ b)), eL (lgA (one ++ a ++ c) (two ++ b ++ d)) (lgB (one ++ a ++ c) (two ++ b ++ d)), eL (lgA (two ++ b) (one ++ a)) (lgB (two ++ b) (one ++ a)), .bool (decide (Kept one two a b)), eL (lgA (one ++ a ++ c) (two ++ b ++ d)) (lgB (one ++ a ++ c) (two ++ b ++ d))])), some (.val (eP (one.take (cp one two)))), some (.val (eL (lgA (one ++ a) (two ++ b)) (lgB (one ++ a) (two ++ b)))), some (.own (.list [eL (lgA (one) (two)) (lgB (one) (two)), eL (lgA (two) (three)) (lgB (two) (three)), eL (lgA (three) (four)) (lgB (three) (four))])), some (.val (eL (lgA (one) (four)) (lgB (one) (four)))), none, none, some (.val (eP one)), some (.val (eP two)), some (.val (eP three)), some (.val (eP four)), some (.val (eP a)), some (.val (eP b)), some (.val (eP c)), some (.val (eP d)), none, none, none, none, none]) := by
  obtain ⟨v1, v2, v3, v4, va, vb, vc, vd, l1, l2, l3, l4, la, lb, lc, ld⟩ := h
  unfold c18
  apply es_setS
  repeat infer_instance

theorem t_c19 (h : H8 one two three four a b c d) : Es c19 [some (.val (.list (ns.map .int))), some (.own (.list u)), some (.val (eL (lgA (one) (two)) (lgB (one) (two)))), some (.own (.list [eL (lgA (one) (three)) (lgB (one) (three)), eL (lgA (one) (four)) (lgB (one) (four)), eL (lgA (one) (four)) (lgB (one) (four)), eL (lgA (three) (one)) (lgB (three) (one)), eL (lgA (one) (one)) (lgB (one) (one))])), some (.val (.list [eL (lgA (one ++ a) (two ++ b)) (lgB (one ++ a) (two ++ b)), eL (lgA (one ++ a ++ c) (two ++ b ++ d)) (lgB (one ++ a ++ c) (two ++ b ++ d)), eL (lgA (two ++ b) (one ++ a)) (lgB (two ++ b) (one ++ a)), .bool (decide (Kept one two a b)), eL (lgA (one ++ a ++ c) (two ++ b ++ d)) (lgB (one ++ a ++ c) (two ++ b ++ d))])), some (.val (eP (one.take (cp one two)))), some (.val (eL (lgA (one ++ a) (two ++ b)) (lgB (one ++ a) (two ++ b)))), some (.own (.list [eL (lgA (one) (two)) (lgB (one) (two)), eL (lgA (two) (three)) (lgB (two) (three)), eL (lgA (three) (four)) (lgB (three) (four))])), some (.val (eL (lgA (one) (four)) (lgB (one) (four)))), none, none, some (.val (eP one)), some (.val (eP two)), some (.val (eP three)), some (.val (eP four)), some (.val (eP a)), some (.val (eP b)), some (.val (eP c)), some (.val (eP d)), none, none, none, none, none] (.nx [some (.val (.list (ns.map .int))), some (.own (.list u)), some (.val (eL (lgA (one) (two)) (lgB (one) (two)))), some (.val (.list [eL (lgA (one) (three)) (lgB (one) (three)), eL (lgA (one) (four)) (lgB (one) (four)), eL (lgA (one) (four)) (lgB (one) (four)), eL (lgA (three) (one)) (lgB (three) (one)), eL (lgA (one) (one)) (lgB (one) (one))])), some (.val (.list [eL (lgA (one ++ a) (two ++ b)) (lgB (one ++ a) (two ++ b)), eL (lgA (one ++ a ++ c) (two ++ b ++ d)) (lgB (one ++ a ++ c) (two ++ b ++ d)), eL (lgA (two ++ b) (one ++ a)) (lgB (two ++ b) (one ++ a)), .bool (decide (Kept one two a b)), eL (lgA (one ++ a ++ c) (two ++ b ++ d)) (lgB (one ++ a ++ c) (two ++ b ++ d))])), some (.val (eP (one.take (cp one two)))), some (.val (eL (lgA (one ++ a) (two ++ b)) (lgB (one ++ a) (two ++ b)))), some (.own (.list [eL (lgA (one) (two)) (lgB (one) (two)), eL (lgA (two) (three)) (lgB (two) (three)), eL (lgA (three) (four)) (lgB (three) (four))])), some (.val (eL (lgA (one) (four)) (lgB (one) (four)))), none, none, some (.val (eP one)), some (.val (eP two)), some (.val (eP three)), some (.val (eP four)), some (.val (eP a)), some (.val (eP b)), some (.val (eP c)), some (.val (eP d)), none, none, none, none, none]) := by
  obtain ⟨v1, v2, v3, v4, va, vb, vc, vd, l1, l2, l3, l4, la, lb, lc, ld⟩ := h
  unfold c19
  apply es_ifF
  repeat infer_instance
  · refine t_same_list ?_ (by simp) ?_
    · have e1 : lgA one one = [] := by unfold lgA; rw [cp_self]; simp
      have e2 : lgB one one = [] := by unfold lgB; rw [cp_self]; simp
      rw [e1, e2]; rfl
    · simp only [List.forall_mem_cons]
      exact ⟨s39L v1 v3, s39L v1 v4, s39L v1 v4, s39L v3 v1, s39L v1 v1, by simp⟩
  repeat infer_instance

theorem t_c20 (h : H8 one two three four a b c d) : Es c20 [some (.val (.list (ns.map .int))), some (.own (.list u)), some (.val (eL (lgA (one) (two)) (lgB (one) (two)))), some (.val (.list [eL (lgA (one) (three)) (lgB (one) (three)), eL (lgA (one) (four)) (lgB (one) (four)), eL (lgA (one) (four)) (lgB (one) (four)), eL (lgA (three) (one)) (lgB (three) (one)), eL (lgA (one) (one)) (lgB (one) (one))])), some (.val (.list [eL (lgA (one ++ a) (two ++ b)) (lgB (one ++ a) (two ++ b)), eL (lgA (one ++ a ++ c) (two ++ b ++ d)) (lgB (one ++ a ++ c) (two ++ b ++ d)), eL (lgA (two ++ b) (one ++ a)) (lgB (two ++ b) (one ++ a)), .bool (decide (Kept one two a b)), eL (lgA (one ++ a ++ c) (two ++ b ++ d)) (lgB (one ++ a ++ c) (two ++ b ++ d))])), some (.val (eP (one.take (cp one two)))), some (.val (eL (lgA (one ++ a) (two ++ b)) (lgB (one ++ a) (two ++ b)))), some (.own (.list [eL (lgA (one) (two)) (lgB (one) (two)), eL (lgA (two) (three)) (lgB (two) (three)), eL (lgA (three) (four)) (lgB (three) (four))])), some (.val (eL (lgA (one) (four)) (lgB (one) (four)))), none, none, some (.val (eP one)), some (.val (eP two)), some (.val (eP three)), some (.val (eP four)), some (.val (eP a)), some (.val (eP b)), some (.val (eP c)), some (.val (eP d)), none, none, none, none, none] (.nx [some (.val (.list (ns.map .int))), some (.own (.list u)), some (.val (eL (lgA (one) (two)) (lgB (one) (two)))), some (.val (.list [eL (lgA (one) (three)) (lgB (one) (three)), eL (lgA (one) (four)) (lgB (one) (four)), eL (lgA (one) (four)) (lgB (one) (four)), eL (lgA (three) (one)) (lgB (three) (one)), eL (lgA (one) (one)) (lgB (one) (one))])), some (.val (.list [eL (lgA (one ++ a) (two ++ b)) (lgB (one ++ a) (two ++ b)), eL (lgA (one ++ a ++ c) (two ++ b ++ d)) (lgB (one ++ a ++ c) (two ++ b ++ d)), eL (lgA (two ++ b) (one ++ a)) (lgB (two ++ b) (one ++ a)), .bool (decide (Kept one two a b)), eL (lgA (one ++ a ++ c) (two ++ b ++ d)) (lgB (one ++ a ++ c) (two ++ b ++ d))])), some (.val (eP (one.take (cp one two)))), some (.val (eL (lgA (one ++ a) (two ++ b)) (lgB (one ++ a) (two ++ b)))), some (.own (.list [eL (lgA (one) (two)) (lgB (one) (two)), eL (lgA (two) (three)) (lgB (two) (three)), eL (lgA (three) (four)) (lgB (three) (four))])), some (.val (eL (lgA (one) (four)) (lgB (one) (four)))), some (.val (.int (((lgA one two).length : Int) + (lgB one two).length + (((lgA two three).length : Int) + (lgB two three).length)))), none, some (.val (eP one)), some (.val (eP two)), some (.val (eP three)), some (.val (eP four)), some (.val (eP a)), some (.val (eP b)), some (.val (eP c)), some (.val (eP d)), none, none, none, none, none]) := by
  obtain ⟨v1, v2, v3, v4, va, vb, vc, vd, l1, l2, l3, l4, la, lb, lc, ld⟩ := h
  unfold c20
  apply es_setS
  repeat infer_instance

end
end TT

/-! K00b: what k00's functions answer -/
namespace TT
open PySem PySem.Spec L2 GL
open PyProof.Rows hiding St
local macro_rules | `(tactic| infer_instance) => `(tactic| first
  | (with_reducible apply es_seqS)
  | (with_reducible apply es_setS)
  | (with_reducible apply es_seqA)
  | (with_reducible apply es_seqE)
  | (with_reducible apply es_ret)
  | (with_reducible apply es_expr)
  | (with_reducible apply es_asg)
  | (with_reducible exact es_skip)
  | (with_reducible exact ev_K)
  | (with_reducible exact ev_nil)
  | ((with_reducible apply ev_nilE); exact rfl)
  | ((with_reducible apply ev_KE); exact rfl)
  | (with_reducible exact ev_cYes)
  | (with_reducible exact ev_partN)
  | (with_reducible apply ev_cons)
  | ((with_reducible apply ev_N); exact rfl)
  | ((with_reducible apply ev_MvS); exact rfl)
  | ((with_reducible apply ev_NoS); exact rfl)
  | (with_reducible apply ev_dataE)
  | (with_reducible apply ev_val)
  | (with_reducible apply ev_bin)
  | (with_reducible apply ev_un)
  | ((with_reducible apply ev_binS))
  | ((with_reducible apply ev_ixS))
  | ((with_reducible apply ev_lenS))
  | (with_reducible apply ev_test)
  | (with_reducible apply ev_notE)
  | (with_reducible apply ev_notVE)
  | (with_reducible apply ev_tupE)
  | (with_reducible apply ev_lstE)
  | (with_reducible apply ev_app)
  | (with_reducible apply ev_appO)
  | (with_reducible apply ev_isi)
  | (with_reducible apply ev_callE)
  | ((with_reducible apply ev_callUE); exact rfl)
  | (with_reducible apply ev_partS)
  | (with_reducible apply ev_seqI)
  | (with_reducible apply ev_lcS)
  | (with_reducible apply et_NS)
  | (with_reducible exact ets_nil)
  | ((with_reducible apply et_TE); exact rfl)
  | ((with_reducible apply et_LE); exact rfl)
  | focus ((with_reducible show List.length _ = _); exact rfl)
  | focus ((with_reducible show List.length (α := PyData) _ ≤ 1000); (simp only [List.length_cons, List.length_nil]; omega))
  | (with_reducible apply ets_cons)
  | (with_reducible apply dAdd_iE)
  | (with_reducible apply dSub_iE)
  | (with_reducible apply dLt_iE)
  | (with_reducible apply dGt_iE)
  | (with_reducible apply dLe_iE)
  | (with_reducible apply dGe_iE)
  | (with_reducible apply dEq_iE)
  | (with_reducible apply dNe_iE)
  | (with_reducible apply dEq_bE)
  | (with_reducible apply dNe_bE)
  | (with_reducible apply dLen_lE)
  | (with_reducible apply dLen_tE)
  | (with_reducible exact dAbs_i)
  | (with_reducible exact dInt_i)
  | (with_reducible exact dInt_b)
  | (with_reducible exact dTuple_l)
  | (with_reducible exact dTuple_t)
  | focus ((with_reducible show dTuple _ = _); exact rfl)
  | (with_reducible exact dList_l)
  | (with_reducible exact dList_t)
  | (with_reducible exact dMin2_i)
  | (with_reducible exact dMax2_i)
  | focus ((with_reducible show _ = some (some _)); exact rfl)
  | (with_reducible exact data_val)
  | (with_reducible exact data_own)
  | focus ((with_reducible show (!_) = _); exact rfl)
  | ((with_reducible apply look_val); exact rfl)
  | ((with_reducible apply look_own); exact rfl)
  | focus ((with_reducible show seqOf _ = _); exact rfl)
  | focus ((with_reducible show @Eq PV _ _); exact rfl)
  | focus ((with_reducible show @Eq PSt _ _); first | (focus (dsimp only [List.set, List.set_cons_succ, List.set_cons_zero, wipeP, restP, keepV, List.getElem?_cons_succ, List.getElem?_cons_zero]; try exact rfl)) | exact rfl)
  | focus ((with_reducible show isaD _ _ = _); exact rfl)
  | focus ((with_reducible show isa2 _ _ _ = _); exact rfl)
  | focus ((with_reducible show dIx _ _ = _); first | exact rfl | exact dIx_t0 rfl | exact dIx_l0 rfl)
  | focus ((with_reducible show (_ && _) = _); exact rfl)
  | focus ((with_reducible show (_ || _) = _); exact rfl)
  | (with_reducible apply dMul_iE)
  | (with_reducible apply dMod_iE)
  | (with_reducible apply dFdiv_iE)
  | (with_reducible exact (rfl : (_ : Bool) = _))
  | (with_reducible exact (rfl : (_ : Int) = _))
  | exact decide_eq_true (by omega)
  | exact decide_eq_false (by omega)
  | focus ((with_reducible show (_ : Int) = _); omega)
  | focus ((with_reducible show (_ : Int) < _); omega)
  )
local macro_rules | `(tactic| infer_instance) => `(tactic| first
  | (with_reducible apply sl_fromI)
  | (with_reducible apply sl_toI)
  | (with_reducible apply dAdd_P)
  | (with_reducible apply dEq_P)
  | (with_reducible apply dEq_P0)
  | (with_reducible apply dNe_P)
  | (with_reducible apply dNe_P0)
  | (with_reducible apply dEq_L)
  | (with_reducible apply dNe_L)
  | (with_reducible apply dLen_P)
  | (with_reducible exact t_is_number)
  | (with_reducible exact t_alike)
  | (with_reducible exact t_lag_between)
  | (with_reducible apply t_sureE)
  | (with_reducible apply t_is_piece)
  | focus ((with_reducible show Vp _); assumption)
  | (with_reducible exact (cp_le _ _).1)
  | (with_reducible exact (cp_le _ _).2))
local macro_rules | `(tactic| infer_instance) => `(tactic| first
  | (with_reducible exact t_ends))
local macro_rules | `(tactic| infer_instance) => `(tactic| first
  | (with_reducible apply es_seqIx)
  | (with_reducible apply es_setIxE)
  | focus ((with_reducible show ixN _ _ = _); exact rfl)
  | focus ((with_reducible show _ = some (some (PV.own _))); exact rfl)
  | focus ((with_reducible show _ ∨ _); first | (left; omega) | (right; omega))
  | focus ((with_reducible show _ ∧ _ < (1073741824 : Int)); omega)
  | focus ((with_reducible show dIs _ _ = _); exact rfl)
  | focus ((with_reducible show dIsNot _ _ = _); exact rfl)
  | (with_reducible exact decide_eq_true rfl)
  | focus ((with_reducible show decide (@Eq Bool _ _) = _); exact rfl))
local macro_rules | `(tactic| infer_instance) => `(tactic| first
  | (with_reducible exact t_law_lag)
  | (with_reducible apply t_lag_of)
  | (with_reducible apply t_lag_ofl)
  | (with_reducible apply t_isl_of)
  | (with_reducible apply t_turned_of)
  | (with_reducible apply t_len_of)
  | (with_reducible apply t_behind_of)
  | (with_reducible apply t_kept_of)
  | (with_reducible apply t_are_near)
  | (with_reducible apply t_front)
  | (with_reducible apply t_heard_through)
  | (with_reducible apply Vp.app)
  | focus ((with_reducible show (_ : Nat) ≤ 1000); (try simp only [List.length_append]); omega)
  | focus ((with_reducible show (_ : Nat) ≤ 16777216); (try simp only [List.length_append, List.length_take]); omega)
  | (with_reducible apply dIsNot_T)
  | (with_reducible apply dIsNot_F)
  | focus ((with_reducible show (0 : Int) ≤ _); omega))

section
variable {ns one two three four a b c d : List Int} {u : List PyData}

theorem t_c21 (h : H8 one two three four a b c d) : Es c21 [some (.val (.list (ns.map .int))), some (.own (.list u)), some (.val (eL (lgA (one) (two)) (lgB (one) (two)))), some (.val (.list [eL (lgA (one) (three)) (lgB (one) (three)), eL (lgA (one) (four)) (lgB (one) (four)), eL (lgA (one) (four)) (lgB (one) (four)), eL (lgA (three) (one)) (lgB (three) (one)), eL (lgA (one) (one)) (lgB (one) (one))])), some (.val (.list [eL (lgA (one ++ a) (two ++ b)) (lgB (one ++ a) (two ++ b)), eL (lgA (one ++ a ++ c) (two ++ b ++ d)) (lgB (one ++ a ++ c) (two ++ b ++ d)), eL (lgA (two ++ b) (one ++ a)) (lgB (two ++ b) (one ++ a)), .bool (decide (Kept one two a b)), eL (lgA (one ++ a ++ c) (two ++ b ++ d)) (lgB (one ++ a ++ c) (two ++ b ++ d))])), some (.val (eP (one.take (cp one two)))), some (.val (eL (lgA (one ++ a) (two ++ b)) (lgB (one ++ a) (two ++ b)))), some (.own (.list [eL (lgA (one) (two)) (lgB (one) (two)), eL (lgA (two) (three)) (lgB (two) (three)), eL (lgA (three) (four)) (lgB (three) (four))])), some (.val (eL (lgA (one) (four)) (lgB (one) (four)))), some (.val (.int (((lgA one two).length : Int) + (lgB one two).length + (((lgA two three).length : Int) + (lgB two three).length)))), none, some (.val (eP one)), some (.val (eP two)), some (.val (eP three)), some (.val (eP four)), some (.val (eP a)), some (.val (eP b)), some (.val (eP c)), some (.val (eP d)), none, none, none, none, none] (.nx [some (.val (.list (ns.map .int))), some (.own (.list u)), some (.val (eL (lgA (one) (two)) (lgB (one) (two)))), some (.val (.list [eL (lgA (one) (three)) (lgB (one) (three)), eL (lgA (one) (four)) (lgB (one) (four)), eL (lgA (one) (four)) (lgB (one) (four)), eL (lgA (three) (one)) (lgB (three) (one)), eL (lgA (one) (one)) (lgB (one) (one))])), some (.val (.list [eL (lgA (one ++ a) (two ++ b)) (lgB (one ++ a) (two ++ b)), eL (lgA (one ++ a ++ c) (two ++ b ++ d)) (lgB (one ++ a ++ c) (two ++ b ++ d)), eL (lgA (two ++ b) (one ++ a)) (lgB (two ++ b) (one ++ a)), .bool (decide (Kept one two a b)), eL (lgA (one ++ a ++ c) (two ++ b ++ d)) (lgB (one ++ a ++ c) (two ++ b ++ d))])), some (.val (eP (one.take (cp one two)))), some (.val (eL (lgA (one ++ a) (two ++ b)) (lgB (one ++ a) (two ++ b)))), some (.own (.list [eL (lgA (one) (two)) (lgB (one) (two)), eL (lgA (two) (three)) (lgB (two) (three)), eL (lgA (three) (four)) (lgB (three) (four))])), some (.val (eL (lgA (one) (four)) (lgB (one) (four)))), some (.val (.int (((lgA one two).length : Int) + (lgB one two).length + (((lgA two three).length : Int) + (lgB two three).length)))), none, some (.val (eP one)), some (.val (eP two)), some (.val (eP three)), some (.val (eP four)), some (.val (eP a)), some (.val (eP b)), some (.val (eP c)), some (.val (eP d)), none, none, none, none, none]) := by
  obtain ⟨v1, v2, v3, v4, va, vb, vc, vd, l1, l2, l3, l4, la, lb, lc, ld⟩ := h
  unfold c21
  have ht := tri one two three
  apply es_ifF
  · refine ev_to (ev_orP (k := false) (l := false) ?_ (ev_orP (k := false) (l := false) ?_ (ev_orP (k := false) (l := false) ?_ ?_))) rfl rfl
    · repeat infer_instance
    · repeat infer_instance
    · repeat infer_instance
    · by_cases h0 : (0 : Int) < ((lgA one two).length : Int) + (lgB one two).length
      · refine ev_to (ev_andP (k := true) (l := false) ?_ ?_) rfl rfl
        · repeat infer_instance
        · repeat infer_instance
      · apply ev_andF
        repeat infer_instance
  · repeat infer_instance

theorem t_c22 (h : H8 one two three four a b c d) : Es c22 [some (.val (.list (ns.map .int))), some (.own (.list u)), some (.val (eL (lgA (one) (two)) (lgB (one) (two)))), some (.val (.list [eL (lgA (one) (three)) (lgB (one) (three)), eL (lgA (one) (four)) (lgB (one) (four)), eL (lgA (one) (four)) (lgB (one) (four)), eL (lgA (three) (one)) (lgB (three) (one)), eL (lgA (one) (one)) (lgB (one) (one))])), some (.val (.list [eL (lgA (one ++ a) (two ++ b)) (lgB (one ++ a) (two ++ b)), eL (lgA (one ++ a ++ c) (two ++ b ++ d)) (lgB (one ++ a ++ c) (two ++ b ++ d)), eL (lgA (two ++ b) (one ++ a)) (lgB (two ++ b) (one ++ a)), .bool (decide (Kept one two a b)), eL (lgA (one ++ a ++ c) (two ++ b ++ d)) (lgB (one ++ a ++ c) (two ++ b ++ d))])), some (.val (eP (one.take (cp one two)))), some (.val (eL (lgA (one ++ a) (two ++ b)) (lgB (one ++ a) (two ++ b)))), some (.own (.list [eL (lgA (one) (two)) (lgB (one) (two)), eL (lgA (two) (three)) (lgB (two) (three)), eL (lgA (three) (four)) (lgB (three) (four))])), some (.val (eL (lgA (one) (four)) (lgB (one) (four)))), some (.val (.int (((lgA one two).length : Int) + (lgB one two).length + (((lgA two three).length : Int) + (lgB two three).length)))), none, some (.val (eP one)), some (.val (eP two)), some (.val (eP three)), some (.val (eP four)), some (.val (eP a)), some (.val (eP b)), some (.val (eP c)), some (.val (eP d)), none, none, none, none, none] (.nx [some (.val (.list (ns.map .int))), some (.own (.list u)), some (.val (eL (lgA (one) (two)) (lgB (one) (two)))), some (.val (.list [eL (lgA (one) (three)) (lgB (one) (three)), eL (lgA (one) (four)) (lgB (one) (four)), eL (lgA (one) (four)) (lgB (one) (four)), eL (lgA (three) (one)) (lgB (three) (one)), eL (lgA (one) (one)) (lgB (one) (one))])), some (.val (.list [eL (lgA (one ++ a) (two ++ b)) (lgB (one ++ a) (two ++ b)), eL (lgA (one ++ a ++ c) (two ++ b ++ d)) (lgB (one ++ a ++ c) (two ++ b ++ d)), eL (lgA (two ++ b) (one ++ a)) (lgB (two ++ b) (one ++ a)), .bool (decide (Kept one two a b)), eL (lgA (one ++ a ++ c) (two ++ b ++ d)) (lgB (one ++ a ++ c) (two ++ b ++ d))])), some (.val (eP (one.take (cp one two)))), some (.val (eL (lgA (one ++ a) (two ++ b)) (lgB (one ++ a) (two ++ b)))), some (.own (.list [eL (lgA (one) (two)) (lgB (one) (two)), eL (lgA (two) (three)) (lgB (two) (three)), eL (lgA (three) (four)) (lgB (three) (four))])), some (.val (eL (lgA (one) (four)) (lgB (one) (four)))), some (.val (.int (((lgA one two).length : Int) + (lgB one two).length + (((lgA two three).length : Int) + (lgB two three).length)))), none, some (.val (eP one)), some (.val (eP two)), some (.val (eP three)), some (.val (eP four)), some (.val (eP a)), some (.val (eP b)), some (.val (eP c)), some (.val (eP d)), some (.val (eL (lgA (one) (two)) (lgB (one) (two)))), some (.val (.int 0)), none, none, none]) := by
  unfold c22
  exact es_par (ev_val (ev_N rfl)) (ev_val ev_K)
theorem kept_stays (hk : Kept one two a b) : ∀ k, lgA (one ++ rep a k) (two ++ rep b k) = lgA one two ∧ lgB (one ++ rep a k) (two ++ rep b k) = lgB one two
  | 0 => by simp [rep]
  | k + 1 => by
    have ih := kept_stays hk k
    have e1 := lgA_behind (one ++ rep a k) (two ++ rep b k) a b
    have e2 := lgB_behind (one ++ rep a k) (two ++ rep b k) a b
    rw [ih.1, ih.2, lgA_behind, hk.1] at e1
    rw [ih.1, ih.2, lgB_behind, hk.2] at e2
    rw [rep, rep, ← List.append_assoc, ← List.append_assoc]
    exact ⟨e1.symm, e2.symm⟩

theorem t_lap (h : H8 one two three four a b c d) {k : Nat} (hk : k < 30) {i : Int} {t : Option PV} : Es (fSeq (fSet 19 (fCall 3 M_lag_behind (fCons (fN 19) (fCons (fN 15) (fCons (fN 16) (fun ps => .ok [] ps)))))) (fSeq (fSet 20 (fCall 1 M_lag_length (fCons (fN 19) (fun ps => .ok [] ps)))) (fIfS (fAnd (fTest (fun ps => ((fCall 3 M_is_kept (fCons (fN 2) (fCons (fN 15) (fCons (fN 16) (fun ps => .ok [] ps))))) ps).map PV.data)) (fTest (fBinS dNe 19 (fN 2)))) (fRet (fun ps => ((fK (.bool false)) ps).map PV.val)) fSkip))) [some (.val (.list (ns.map .int))), some (.own (.list u)), some (.val (eL (lgA (one) (two)) (lgB (one) (two)))), some (.val (.list [eL (lgA (one) (three)) (lgB (one) (three)), eL (lgA (one) (four)) (lgB (one) (four)), eL (lgA (one) (four)) (lgB (one) (four)), eL (lgA (three) (one)) (lgB (three) (one)), eL (lgA (one) (one)) (lgB (one) (one))])), some (.val (.list [eL (lgA (one ++ a) (two ++ b)) (lgB (one ++ a) (two ++ b)), eL (lgA (one ++ a ++ c) (two ++ b ++ d)) (lgB (one ++ a ++ c) (two ++ b ++ d)), eL (lgA (two ++ b) (one ++ a)) (lgB (two ++ b) (one ++ a)), .bool (decide (Kept one two a b)), eL (lgA (one ++ a ++ c) (two ++ b ++ d)) (lgB (one ++ a ++ c) (two ++ b ++ d))])), some (.val (eP (one.take (cp one two)))), some (.val (eL (lgA (one ++ a) (two ++ b)) (lgB (one ++ a) (two ++ b)))), some (.own (.list [eL (lgA (one) (two)) (lgB (one) (two)), eL (lgA (two) (three)) (lgB (two) (three)), eL (lgA (three) (four)) (lgB (three) (four))])), some (.val (eL (lgA (one) (four)) (lgB (one) (four)))), some (.val (.int (((lgA one two).length : Int) + (lgB one two).length + (((lgA two three).length : Int) + (lgB two three).length)))), some (.val (.int i)), some (.val (eP one)), some (.val (eP two)), some (.val (eP three)), some (.val (eP four)), some (.val (eP a)), some (.val (eP b)), some (.val (eP c)), some (.val (eP d)), some (.val (eL (lgA (one ++ rep a k) (two ++ rep b k)) (lgB (one ++ rep a k) (two ++ rep b k)))), t, none, none, none] (.nx [some (.val (.list (ns.map .int))), some (.own (.list u)), some (.val (eL (lgA (one) (two)) (lgB (one) (two)))), some (.val (.list [eL (lgA (one) (three)) (lgB (one) (three)), eL (lgA (one) (four)) (lgB (one) (four)), eL (lgA (one) (four)) (lgB (one) (four)), eL (lgA (three) (one)) (lgB (three) (one)), eL (lgA (one) (one)) (lgB (one) (one))])), some (.val (.list [eL (lgA (one ++ a) (two ++ b)) (lgB (one ++ a) (two ++ b)), eL (lgA (one ++ a ++ c) (two ++ b ++ d)) (lgB (one ++ a ++ c) (two ++ b ++ d)), eL (lgA (two ++ b) (one ++ a)) (lgB (two ++ b) (one ++ a)), .bool (decide (Kept one two a b)), eL (lgA (one ++ a ++ c) (two ++ b ++ d)) (lgB (one ++ a ++ c) (two ++ b ++ d))])), some (.val (eP (one.take (cp one two)))), some (.val (eL (lgA (one ++ a) (two ++ b)) (lgB (one ++ a) (two ++ b)))), some (.own (.list [eL (lgA (one) (two)) (lgB (one) (two)), eL (lgA (two) (three)) (lgB (two) (three)), eL (lgA (three) (four)) (lgB (three) (four))])), some (.val (eL (lgA (one) (four)) (lgB (one) (four)))), some (.val (.int (((lgA one two).length : Int) + (lgB one two).length + (((lgA two three).length : Int) + (lgB two three).length)))), some (.val (.int i)), some (.val (eP one)), some (.val (eP two)), some (.val (eP three)), some (.val (eP four)), some (.val (eP a)), some (.val (eP b)), some (.val (eP c)), some (.val (eP d)), some (.val (eL (lgA (one ++ rep a (k + 1)) (two ++ rep b (k + 1))) (lgB (one ++ rep a (k + 1)) (two ++ rep b (k + 1))))), some (.val (.int (((lgA (one ++ rep a (k + 1)) (two ++ rep b (k + 1))).length : Int) + (lgB (one ++ rep a (k + 1)) (two ++ rep b (k + 1))).length))), none, none, none]) := by
  obtain ⟨v1, v2, v3, v4, va, vb, vc, vd, l1, l2, l3, l4, la, lb, lc, ld⟩ := h
  have ra : (rep a k).length ≤ 90 := by rw [rep_len]; have := Nat.mul_le_mul (Nat.le_of_lt hk) la; omega
  have rb : (rep b k).length ≤ 90 := by rw [rep_len]; have := Nat.mul_le_mul (Nat.le_of_lt hk) lb; omega
  have rva : Vp (rep a k) := ⟨fun i hi => va.1 i (rep_mem hi), by omega⟩
  have rvb : Vp (rep b k) := ⟨fun i hi => vb.1 i (rep_mem hi), by omega⟩
  have e1 : one ++ rep a (k + 1) = one ++ rep a k ++ a := by rw [rep, List.append_assoc]
  have e2 : two ++ rep b (k + 1) = two ++ rep b k ++ b := by rw [rep, List.append_assoc]
  have hks := fun hk => kept_stays (one := one) (two := two) (a := a) (b := b) hk (k + 1)
  rw [e1, e2] at hks ⊢
  apply es_seqS
  repeat infer_instance
  apply es_ifF
  · by_cases hkk : Kept one two a b
    · refine ev_to (ev_andP (k := true) (l := false) ?_ ?_) rfl rfl
      · repeat infer_instance
        all_goals (rw [decide_eq_true hkk]; rfl)
      · repeat infer_instance
        · have := hks hkk
          rw [decide_eq_true this]; rfl
    · apply ev_andF
      repeat infer_instance
      all_goals (rw [decide_eq_false hkk]; rfl)
  · repeat infer_instance

theorem laps (h : H8 one two three four a b c d) : ∀ (ds : List PyData) (k : Nat) (r t : Option PV), ds.length + k = 30 → (∀ d ∈ ds, ∃ j : Int, d = .int j) → ds ≠ [] → ∃ i' : Int, forL (uN 10) (fSeq (fSet 19 (fCall 3 M_lag_behind (fCons (fN 19) (fCons (fN 15) (fCons (fN 16) (fun ps => .ok [] ps)))))) (fSeq (fSet 20 (fCall 1 M_lag_length (fCons (fN 19) (fun ps => .ok [] ps)))) (fIfS (fAnd (fTest (fun ps => ((fCall 3 M_is_kept (fCons (fN 2) (fCons (fN 15) (fCons (fN 16) (fun ps => .ok [] ps))))) ps).map PV.data)) (fTest (fBinS dNe 19 (fN 2)))) (fRet (fun ps => ((fK (.bool false)) ps).map PV.val)) fSkip))) ds [some (.val (.list (ns.map .int))), some (.own (.list u)), some (.val (eL (lgA (one) (two)) (lgB (one) (two)))), some (.val (.list [eL (lgA (one) (three)) (lgB (one) (three)), eL (lgA (one) (four)) (lgB (one) (four)), eL (lgA (one) (four)) (lgB (one) (four)), eL (lgA (three) (one)) (lgB (three) (one)), eL (lgA (one) (one)) (lgB (one) (one))])), some (.val (.list [eL (lgA (one ++ a) (two ++ b)) (lgB (one ++ a) (two ++ b)), eL (lgA (one ++ a ++ c) (two ++ b ++ d)) (lgB (one ++ a ++ c) (two ++ b ++ d)), eL (lgA (two ++ b) (one ++ a)) (lgB (two ++ b) (one ++ a)), .bool (decide (Kept one two a b)), eL (lgA (one ++ a ++ c) (two ++ b ++ d)) (lgB (one ++ a ++ c) (two ++ b ++ d))])), some (.val (eP (one.take (cp one two)))), some (.val (eL (lgA (one ++ a) (two ++ b)) (lgB (one ++ a) (two ++ b)))), some (.own (.list [eL (lgA (one) (two)) (lgB (one) (two)), eL (lgA (two) (three)) (lgB (two) (three)), eL (lgA (three) (four)) (lgB (three) (four))])), some (.val (eL (lgA (one) (four)) (lgB (one) (four)))), some (.val (.int (((lgA one two).length : Int) + (lgB one two).length + (((lgA two three).length : Int) + (lgB two three).length)))), r, some (.val (eP one)), some (.val (eP two)), some (.val (eP three)), some (.val (eP four)), some (.val (eP a)), some (.val (eP b)), some (.val (eP c)), some (.val (eP d)), some (.val (eL (lgA (one ++ rep a k) (two ++ rep b k)) (lgB (one ++ rep a k) (two ++ rep b k)))), t, none, none, none] = .nx [some (.val (.list (ns.map .int))), some (.own (.list u)), some (.val (eL (lgA (one) (two)) (lgB (one) (two)))), some (.val (.list [eL (lgA (one) (three)) (lgB (one) (three)), eL (lgA (one) (four)) (lgB (one) (four)), eL (lgA (one) (four)) (lgB (one) (four)), eL (lgA (three) (one)) (lgB (three) (one)), eL (lgA (one) (one)) (lgB (one) (one))])), some (.val (.list [eL (lgA (one ++ a) (two ++ b)) (lgB (one ++ a) (two ++ b)), eL (lgA (one ++ a ++ c) (two ++ b ++ d)) (lgB (one ++ a ++ c) (two ++ b ++ d)), eL (lgA (two ++ b) (one ++ a)) (lgB (two ++ b) (one ++ a)), .bool (decide (Kept one two a b)), eL (lgA (one ++ a ++ c) (two ++ b ++ d)) (lgB (one ++ a ++ c) (two ++ b ++ d))])), some (.val (eP (one.take (cp one two)))), some (.val (eL (lgA (one ++ a) (two ++ b)) (lgB (one ++ a) (two ++ b)))), some (.own (.list [eL (lgA (one) (two)) (lgB (one) (two)), eL (lgA (two) (three)) (lgB (two) (three)), eL (lgA (three) (four)) (lgB (three) (four))])), some (.val (eL (lgA (one) (four)) (lgB (one) (four)))), some (.val (.int (((lgA one two).length : Int) + (lgB one two).length + (((lgA two three).length : Int) + (lgB two three).length)))), some (.val (.int i')), some (.val (eP one)), some (.val (eP two)), some (.val (eP three)), some (.val (eP four)), some (.val (eP a)), some (.val (eP b)), some (.val (eP c)), some (.val (eP d)), some (.val (eL (lgA (one ++ rep a 30) (two ++ rep b 30)) (lgB (one ++ rep a 30) (two ++ rep b 30)))), some (.val (.int (((lgA (one ++ rep a 30) (two ++ rep b 30)).length : Int) + (lgB (one ++ rep a 30) (two ++ rep b 30)).length))), none, none, none]
  | [], _, _, _, _, _, hn => absurd rfl hn
  | [d], k, r, t, hl, hd, _ => by
    obtain ⟨j, rfl⟩ := hd d List.mem_cons_self
    have hk : k = 29 := by simp at hl; omega
    subst hk
    exact ⟨j, forL_cons et_N (t_lap h (by omega)) rfl⟩
  | d :: e :: ds, k, r, t, hl, hd, _ => by
    obtain ⟨j, rfl⟩ := hd d List.mem_cons_self
    simp only [List.length_cons] at hl
    obtain ⟨i', e'⟩ := laps h (e :: ds) (k + 1) (some (.val (.int j))) (some (.val (.int (((lgA (one ++ rep a (k + 1)) (two ++ rep b (k + 1))).length : Int) + (lgB (one ++ rep a (k + 1)) (two ++ rep b (k + 1))).length)))) (by simp only [List.length_cons]; omega) (fun d hd' => hd d (List.mem_cons_of_mem _ hd')) (by simp)
    exact ⟨i', forL_cons et_N (t_lap h (by omega)) e'⟩

theorem t_c23 (h : H8 one two three four a b c d) : ∃ i' : Int, Es c23 [some (.val (.list (ns.map .int))), some (.own (.list u)), some (.val (eL (lgA (one) (two)) (lgB (one) (two)))), some (.val (.list [eL (lgA (one) (three)) (lgB (one) (three)), eL (lgA (one) (four)) (lgB (one) (four)), eL (lgA (one) (four)) (lgB (one) (four)), eL (lgA (three) (one)) (lgB (three) (one)), eL (lgA (one) (one)) (lgB (one) (one))])), some (.val (.list [eL (lgA (one ++ a) (two ++ b)) (lgB (one ++ a) (two ++ b)), eL (lgA (one ++ a ++ c) (two ++ b ++ d)) (lgB (one ++ a ++ c) (two ++ b ++ d)), eL (lgA (two ++ b) (one ++ a)) (lgB (two ++ b) (one ++ a)), .bool (decide (Kept one two a b)), eL (lgA (one ++ a ++ c) (two ++ b ++ d)) (lgB (one ++ a ++ c) (two ++ b ++ d))])), some (.val (eP (one.take (cp one two)))), some (.val (eL (lgA (one ++ a) (two ++ b)) (lgB (one ++ a) (two ++ b)))), some (.own (.list [eL (lgA (one) (two)) (lgB (one) (two)), eL (lgA (two) (three)) (lgB (two) (three)), eL (lgA (three) (four)) (lgB (three) (four))])), some (.val (eL (lgA (one) (four)) (lgB (one) (four)))), some (.val (.int (((lgA one two).length : Int) + (lgB one two).length + (((lgA two three).length : Int) + (lgB two three).length)))), none, some (.val (eP one)), some (.val (eP two)), some (.val (eP three)), some (.val (eP four)), some (.val (eP a)), some (.val (eP b)), some (.val (eP c)), some (.val (eP d)), some (.val (eL (lgA (one) (two)) (lgB (one) (two)))), some (.val (.int 0)), none, none, none] (.nx [some (.val (.list (ns.map .int))), some (.own (.list u)), some (.val (eL (lgA (one) (two)) (lgB (one) (two)))), some (.val (.list [eL (lgA (one) (three)) (lgB (one) (three)), eL (lgA (one) (four)) (lgB (one) (four)), eL (lgA (one) (four)) (lgB (one) (four)), eL (lgA (three) (one)) (lgB (three) (one)), eL (lgA (one) (one)) (lgB (one) (one))])), some (.val (.list [eL (lgA (one ++ a) (two ++ b)) (lgB (one ++ a) (two ++ b)), eL (lgA (one ++ a ++ c) (two ++ b ++ d)) (lgB (one ++ a ++ c) (two ++ b ++ d)), eL (lgA (two ++ b) (one ++ a)) (lgB (two ++ b) (one ++ a)), .bool (decide (Kept one two a b)), eL (lgA (one ++ a ++ c) (two ++ b ++ d)) (lgB (one ++ a ++ c) (two ++ b ++ d))])), some (.val (eP (one.take (cp one two)))), some (.val (eL (lgA (one ++ a) (two ++ b)) (lgB (one ++ a) (two ++ b)))), some (.own (.list [eL (lgA (one) (two)) (lgB (one) (two)), eL (lgA (two) (three)) (lgB (two) (three)), eL (lgA (three) (four)) (lgB (three) (four))])), some (.val (eL (lgA (one) (four)) (lgB (one) (four)))), some (.val (.int (((lgA one two).length : Int) + (lgB one two).length + (((lgA two three).length : Int) + (lgB two three).length)))), (some (.val (.int i'))), some (.val (eP one)), some (.val (eP two)), some (.val (eP three)), some (.val (eP four)), some (.val (eP a)), some (.val (eP b)), some (.val (eP c)), some (.val (eP d)), some (.val (eL (lgA (one ++ rep a 30) (two ++ rep b 30)) (lgB (one ++ rep a 30) (two ++ rep b 30)))), some (.val (.int (((lgA (one ++ rep a 30) (two ++ rep b 30)).length : Int) + (lgB (one ++ rep a 30) (two ++ rep b 30)).length))), none, none, none]) := by
  obtain ⟨i', e⟩ := laps (ns := ns) (u := u) h (rangeD 0 30) 0 none (some (.val (.int 0))) (by unfold rangeD; simp) (fun d hd => by unfold rangeD at hd; obtain ⟨j, _, rfl⟩ := List.mem_map.mp hd; exact ⟨_, rfl⟩) (by unfold rangeD; simp [List.range_succ])
  refine ⟨i', ?_⟩
  unfold c23
  refine es_for (ev_range1 (k := 30) (ev_cons ev_K ev_nil) (by omega)) ?_
  have e0 : ∀ x : List Int, x ++ rep a 0 = x := fun x => List.append_nil x
  have e0' : ∀ x : List Int, x ++ rep b 0 = x := fun x => List.append_nil x
  rw [e0, e0'] at e
  exact e
theorem t_c24 (h : H8 one two three four a b c d) {i' : Int} : Es c24 [some (.val (.list (ns.map .int))), some (.own (.list u)), some (.val (eL (lgA (one) (two)) (lgB (one) (two)))), some (.val (.list [eL (lgA (one) (three)) (lgB (one) (three)), eL (lgA (one) (four)) (lgB (one) (four)), eL (lgA (one) (four)) (lgB (one) (four)), eL (lgA (three) (one)) (lgB (three) (one)), eL (lgA (one) (one)) (lgB (one) (one))])), some (.val (.list [eL (lgA (one ++ a) (two ++ b)) (lgB (one ++ a) (two ++ b)), eL (lgA (one ++ a ++ c) (two ++ b ++ d)) (lgB (one ++ a ++ c) (two ++ b ++ d)), eL (lgA (two ++ b) (one ++ a)) (lgB (two ++ b) (one ++ a)), .bool (decide (Kept one two a b)), eL (lgA (one ++ a ++ c) (two ++ b ++ d)) (lgB (one ++ a ++ c) (two ++ b ++ d))])), some (.val (eP (one.take (cp one two)))), some (.val (eL (lgA (one ++ a) (two ++ b)) (lgB (one ++ a) (two ++ b)))), some (.own (.list [eL (lgA (one) (two)) (lgB (one) (two)), eL (lgA (two) (three)) (lgB (two) (three)), eL (lgA (three) (four)) (lgB (three) (four))])), some (.val (eL (lgA (one) (four)) (lgB (one) (four)))), some (.val (.int (((lgA one two).length : Int) + (lgB one two).length + (((lgA two three).length : Int) + (lgB two three).length)))), (some (.val (.int i'))), some (.val (eP one)), some (.val (eP two)), some (.val (eP three)), some (.val (eP four)), some (.val (eP a)), some (.val (eP b)), some (.val (eP c)), some (.val (eP d)), some (.val (eL (lgA (one ++ rep a 30) (two ++ rep b 30)) (lgB (one ++ rep a 30) (two ++ rep b 30)))), some (.val (.int (((lgA (one ++ rep a 30) (two ++ rep b 30)).length : Int) + (lgB (one ++ rep a 30) (two ++ rep b 30)).length))), none, none, none] (.nx [some (.val (.list (ns.map .int))), some (.own (.list u)), some (.val (eL (lgA (one) (two)) (lgB (one) (two)))), some (.val (.list [eL (lgA (one) (three)) (lgB (one) (three)), eL (lgA (one) (four)) (lgB (one) (four)), eL (lgA (one) (four)) (lgB (one) (four)), eL (lgA (three) (one)) (lgB (three) (one)), eL (lgA (one) (one)) (lgB (one) (one))])), some (.val (.list [eL (lgA (one ++ a) (two ++ b)) (lgB (one ++ a) (two ++ b)), eL (lgA (one ++ a ++ c) (two ++ b ++ d)) (lgB (one ++ a ++ c) (two ++ b ++ d)), eL (lgA (two ++ b) (one ++ a)) (lgB (two ++ b) (one ++ a)), .bool (decide (Kept one two a b)), eL (lgA (one ++ a ++ c) (two ++ b ++ d)) (lgB (one ++ a ++ c) (two ++ b ++ d))])), some (.val (eP (one.take (cp one two)))), some (.val (eL (lgA (one ++ a) (two ++ b)) (lgB (one ++ a) (two ++ b)))), some (.own (.list [eL (lgA (one) (two)) (lgB (one) (two)), eL (lgA (two) (three)) (lgB (two) (three)), eL (lgA (three) (four)) (lgB (three) (four))])), some (.val (eL (lgA (one) (four)) (lgB (one) (four)))), some (.val (.int (((lgA one two).length : Int) + (lgB one two).length + (((lgA two three).length : Int) + (lgB two three).length)))), (some (.val (.int i'))), some (.val (eP one)), some (.val (eP two)), some (.val (eP three)), some (.val (eP four)), some (.val (eP a)), some (.val (eP b)), some (.val (eP c)), some (.val (eP d)), some (.val (eL (lgA (one ++ rep a 30) (two ++ rep b 30)) (lgB (one ++ rep a 30) (two ++ rep b 30)))), some (.val (.int (((lgA (one ++ rep a 30) (two ++ rep b 30)).length : Int) + (lgB (one ++ rep a 30) (two ++ rep b 30)).length))), none, none, none]) := by
  obtain ⟨v1, v2, v3, v4, va, vb, vc, vd, l1, l2, l3, l4, la, lb, lc, ld⟩ := h
  unfold c24
  apply es_ifF
  · by_cases hkk : Kept one two a b
    · apply ev_andF
      repeat infer_instance
      · simpa using hkk
    · have hg := (Lg_of v1 v2).2
      have q1 : (lgA one two).length ≤ 10 := by unfold lgA; simp; omega
      have q2 : (lgB one two).length ≤ 10 := by unfold lgB; simp; omega
      have hf := far_apart (a := a) (b := b) hg q1 q2 (by rw [lgA_behind, lgB_behind]; exact hkk)
      rw [lgA_behind, lgB_behind] at hf
      refine ev_to (ev_andP (k := true) (l := false) ?_ (ev_andF ?_)) rfl rfl
      · repeat infer_instance
        all_goals simpa using hkk
      · repeat infer_instance
        all_goals exact decide_eq_false (by omega)
  · repeat infer_instance

theorem eqStr {a b : List Int} : dEq (eL a b) (.str "unfit") = some (.bool false) := by
  unfold dEq; rw [if_pos ⟨sh_L a b, by decide +kernel⟩]; rfl
theorem eqStrS : dEq (.str "unfit") (.str "unfit") = some (.bool true) := by
  unfold dEq; rw [if_pos ⟨by decide +kernel, by decide +kernel⟩]; rfl
theorem good_eq (x y : List Int) : decide (x.drop (x.length - min x.length y.length) = y.drop (y.length - min x.length y.length)) = (endsW x y || endsW y x) := by
  unfold endsW
  rw [← Bool.decide_or]
  apply decide_eq_decide.mpr
  rcases Nat.lt_trichotomy x.length y.length with h | h | h
  · rw [Nat.min_eq_left (Nat.le_of_lt h), Nat.sub_self, List.drop_zero]
    constructor
    · intro e; exact .inr ⟨Nat.le_of_lt h, e.symm⟩
    · rintro (e | e)
      · omega
      · exact e.2.symm
  · rw [h, Nat.min_self, Nat.sub_self, List.drop_zero, List.drop_zero]
    constructor
    · intro e; exact .inl ⟨Nat.le_refl _, e⟩
    · rintro (e | e)
      · exact e.2
      · exact e.2.symm
  · rw [Nat.min_eq_right (Nat.le_of_lt h), Nat.sub_self, List.drop_zero]
    constructor
    · intro e; exact .inl ⟨Nat.le_of_lt h, e⟩
    · rintro (e | e)
      · exact e.2
      · omega
theorem heard_pair {x y : List Int} (hx : Vp x) (hy : Vp y) : ∃ p, M__law_heard [eL [] x, eL y []] = .ok p ∧ dEq p.data (.str "unfit") = some (.bool (!decide (x.drop (x.length - min x.length y.length) = y.drop (y.length - min x.length y.length)))) := by
  have g1 : Lg [] x := ⟨⟨⟨by simp, by simp⟩, hx⟩, .inl rfl⟩
  have g2 : Lg y [] := ⟨⟨hy, ⟨by simp, by simp⟩⟩, .inr (.inl rfl)⟩
  rw [good_eq]
  cases h1 : endsW x y with
  | true => exact ⟨_, t_heard (t_through1 g1 g2 h1), eqStr⟩
  | false =>
    cases h2 : endsW y x with
    | true => exact ⟨_, t_heard (t_through2 g1 g2 h1 h2), eqStr⟩
    | false => exact ⟨_, t_heardX (t_through3 g1 g2 h1 h2), eqStrS⟩

theorem t_pair (h : H8 one two three four a b c d) {i' : Int} {x y : List Int} (hx : Vp x) (hy : Vp y) (m n : Option PV) : ∃ m' n', Es (fIfS (fOr (fAnd (fTest (fBin dNe (fIxS 6 (fK (.int 1))) (fTup (fun ps => .ok [] ps)))) (fTest (fBin dNe (fIxS 21 (fK (.int 0))) (fTup (fun ps => .ok [] ps))))) (fTest (fBinS dEq 6 (fN 21)))) (fSeq (fSet 22 (fun ps => ((fApp dMin2 (fCons (fApp dLen (fCons (fIxS 6 (fK (.int 1))) (fun ps => .ok [] ps))) (fCons (fApp dLen (fCons (fIxS 21 (fK (.int 0))) (fun ps => .ok [] ps))) (fun ps => .ok [] ps)))) ps).map PV.val))
  (fSeq (fSet 23 (fun ps => ((fBin dEq (fun ps => ((fSl (fIxS 6 (fK (.int 1))) (fSomePart (fBin dSub (fApp dLen (fCons (fIxS 6 (fK (.int 1))) (fun ps => .ok [] ps))) (fN 22))) fNoPart) ps).map PV.data) (fun ps => ((fSl (fIxS 21 (fK (.int 0))) (fSomePart (fBin dSub (fApp dLen (fCons (fIxS 21 (fK (.int 0))) (fun ps => .ok [] ps))) (fN 22))) fNoPart) ps).map PV.data)) ps).map PV.val))
  (fIfS (fTest (fBin dEq (fBin dEq (fun ps => ((fCall 2 M__law_heard (fCons (fN 6) (fCons (fN 21) (fun ps => .ok [] ps)))) ps).map PV.data) (fK (.str "unfit"))) (fN 23))) (fRet (fun ps => ((fK (.bool false)) ps).map PV.val)) fSkip))) fSkip) [some (.val (.list (ns.map .int))), some (.own (.list u)), some (.val (eL (lgA (one) (two)) (lgB (one) (two)))), some (.val (.list [eL (lgA (one) (three)) (lgB (one) (three)), eL (lgA (one) (four)) (lgB (one) (four)), eL (lgA (one) (four)) (lgB (one) (four)), eL (lgA (three) (one)) (lgB (three) (one)), eL (lgA (one) (one)) (lgB (one) (one))])), some (.val (.list [eL (lgA (one ++ a) (two ++ b)) (lgB (one ++ a) (two ++ b)), eL (lgA (one ++ a ++ c) (two ++ b ++ d)) (lgB (one ++ a ++ c) (two ++ b ++ d)), eL (lgA (two ++ b) (one ++ a)) (lgB (two ++ b) (one ++ a)), .bool (decide (Kept one two a b)), eL (lgA (one ++ a ++ c) (two ++ b ++ d)) (lgB (one ++ a ++ c) (two ++ b ++ d))])), some (.val (eP (one.take (cp one two)))), some (.val (eL [] x)), some (.own (.list [eL (lgA (one) (two)) (lgB (one) (two)), eL (lgA (two) (three)) (lgB (two) (three)), eL (lgA (three) (four)) (lgB (three) (four))])), some (.val (eL (lgA (one) (four)) (lgB (one) (four)))), some (.val (.int (((lgA one two).length : Int) + (lgB one two).length + (((lgA two three).length : Int) + (lgB two three).length)))), (some (.val (.int i'))), some (.val (eP one)), some (.val (eP two)), some (.val (eP three)), some (.val (eP four)), some (.val (eP a)), some (.val (eP b)), some (.val (eP c)), some (.val (eP d)), some (.val (eL (lgA (one ++ rep a 30) (two ++ rep b 30)) (lgB (one ++ rep a 30) (two ++ rep b 30)))), some (.val (.int (((lgA (one ++ rep a 30) (two ++ rep b 30)).length : Int) + (lgB (one ++ rep a 30) (two ++ rep b 30)).length))), some (.val (eL y [])), m, n] (.nx [some (.val (.list (ns.map .int))), some (.own (.list u)), some (.val (eL (lgA (one) (two)) (lgB (one) (two)))), some (.val (.list [eL (lgA (one) (three)) (lgB (one) (three)), eL (lgA (one) (four)) (lgB (one) (four)), eL (lgA (one) (four)) (lgB (one) (four)), eL (lgA (three) (one)) (lgB (three) (one)), eL (lgA (one) (one)) (lgB (one) (one))])), some (.val (.list [eL (lgA (one ++ a) (two ++ b)) (lgB (one ++ a) (two ++ b)), eL (lgA (one ++ a ++ c) (two ++ b ++ d)) (lgB (one ++ a ++ c) (two ++ b ++ d)), eL (lgA (two ++ b) (one ++ a)) (lgB (two ++ b) (one ++ a)), .bool (decide (Kept one two a b)), eL (lgA (one ++ a ++ c) (two ++ b ++ d)) (lgB (one ++ a ++ c) (two ++ b ++ d))])), some (.val (eP (one.take (cp one two)))), some (.val (eL [] x)), some (.own (.list [eL (lgA (one) (two)) (lgB (one) (two)), eL (lgA (two) (three)) (lgB (two) (three)), eL (lgA (three) (four)) (lgB (three) (four))])), some (.val (eL (lgA (one) (four)) (lgB (one) (four)))), some (.val (.int (((lgA one two).length : Int) + (lgB one two).length + (((lgA two three).length : Int) + (lgB two three).length)))), (some (.val (.int i'))), some (.val (eP one)), some (.val (eP two)), some (.val (eP three)), some (.val (eP four)), some (.val (eP a)), some (.val (eP b)), some (.val (eP c)), some (.val (eP d)), some (.val (eL (lgA (one ++ rep a 30) (two ++ rep b 30)) (lgB (one ++ rep a 30) (two ++ rep b 30)))), some (.val (.int (((lgA (one ++ rep a 30) (two ++ rep b 30)).length : Int) + (lgB (one ++ rep a 30) (two ++ rep b 30)).length))), some (.val (eL y [])), m', n']) := by
  have g1 : Lg [] x := ⟨⟨⟨by simp, by simp⟩, hx⟩, .inl rfl⟩
  have g2 : Lg y [] := ⟨⟨hy, ⟨by simp, by simp⟩⟩, .inr (.inl rfl)⟩
  have e1 : ∀ z : List Int, (dNe (eP z) (.tuple [])) = some (.bool (!decide (z = []))) := fun z => dNe_P0 rfl
  by_cases hc : (x ≠ [] ∧ y ≠ []) ∨ ([] = y ∧ x = [])
  · -- the pair is tried
    let n0 := min x.length y.length
    refine ⟨some (.val (.int (min x.length y.length : Nat))), some (.val (.bool (decide (x.drop (x.length - min x.length y.length) = y.drop (y.length - min x.length y.length))))), ?_⟩
    apply es_ifT
    · rcases hc with ⟨h1, h2⟩ | ⟨h1, h2⟩
      · apply ev_orF
        refine ev_to (ev_andP (k := true) (l := true) ?_ ?_) rfl rfl
        · repeat infer_instance
          all_goals simpa using h1
        · repeat infer_instance
          all_goals simpa using h2
      · subst h2; subst h1
        refine ev_to (ev_orP (k := false) (l := true) (ev_andF ?_) ?_) rfl rfl
        · repeat infer_instance
        · repeat infer_instance
          all_goals rfl
    have hm1 : min x.length y.length ≤ x.length := Nat.min_le_left _ _
    have hm2 : min x.length y.length ≤ y.length := Nat.min_le_right _ _
    obtain ⟨p, hp, hq⟩ := heard_pair hx hy
    refine es_seqS (ps1 := [some (.val (.list (ns.map .int))), some (.own (.list u)), some (.val (eL (lgA (one) (two)) (lgB (one) (two)))), some (.val (.list [eL (lgA (one) (three)) (lgB (one) (three)), eL (lgA (one) (four)) (lgB (one) (four)), eL (lgA (one) (four)) (lgB (one) (four)), eL (lgA (three) (one)) (lgB (three) (one)), eL (lgA (one) (one)) (lgB (one) (one))])), some (.val (.list [eL (lgA (one ++ a) (two ++ b)) (lgB (one ++ a) (two ++ b)), eL (lgA (one ++ a ++ c) (two ++ b ++ d)) (lgB (one ++ a ++ c) (two ++ b ++ d)), eL (lgA (two ++ b) (one ++ a)) (lgB (two ++ b) (one ++ a)), .bool (decide (Kept one two a b)), eL (lgA (one ++ a ++ c) (two ++ b ++ d)) (lgB (one ++ a ++ c) (two ++ b ++ d))])), some (.val (eP (one.take (cp one two)))), some (.val (eL [] x)), some (.own (.list [eL (lgA (one) (two)) (lgB (one) (two)), eL (lgA (two) (three)) (lgB (two) (three)), eL (lgA (three) (four)) (lgB (three) (four))])), some (.val (eL (lgA (one) (four)) (lgB (one) (four)))), some (.val (.int (((lgA one two).length : Int) + (lgB one two).length + (((lgA two three).length : Int) + (lgB two three).length)))), (some (.val (.int i'))), some (.val (eP one)), some (.val (eP two)), some (.val (eP three)), some (.val (eP four)), some (.val (eP a)), some (.val (eP b)), some (.val (eP c)), some (.val (eP d)), some (.val (eL (lgA (one ++ rep a 30) (two ++ rep b 30)) (lgB (one ++ rep a 30) (two ++ rep b 30)))), some (.val (.int (((lgA (one ++ rep a 30) (two ++ rep b 30)).length : Int) + (lgB (one ++ rep a 30) (two ++ rep b 30)).length))), some (.val (eL y [])), m, n]) (ev_val (ev_app (ds := [.int x.length, .int y.length]) ?_ (?_ : _ = some (.int (min x.length y.length : Nat))))) rfl ?_
    · repeat infer_instance
    · show some (PyData.int (if (y.length : Int) < (x.length : Int) then (y.length : Int) else (x.length : Int))) = _
      congr 2
      split <;> omega
    dsimp only [List.set]
    apply es_seqS
    · repeat infer_instance
      · exact (Int.ofNat_sub hm1).symm
      repeat infer_instance
      · omega
      repeat infer_instance
      · exact (Int.ofNat_sub hm2).symm
      repeat infer_instance
      · omega
      repeat infer_instance
    · repeat infer_instance
    apply es_ifF
    · refine ev_test (ev_bin (ev_bin (ev_dataE (ev_callE (ev_cons (ev_N rfl) (ev_cons (ev_N rfl) ev_nil)) rfl hp) rfl) ev_K hq) (ev_N rfl) (dEq_bE ?_))
      cases decide (x.drop (x.length - min x.length y.length) = y.drop (y.length - min x.length y.length)) <;> rfl
    repeat infer_instance
  · refine ⟨m, n, ?_⟩
    apply es_ifF
    · refine ev_to (ev_orP (k := false) (l := false) ?_ ?_) rfl rfl
      · by_cases h1 : x = []
        · apply ev_andF
          repeat infer_instance
          all_goals simpa using h1
        · have h2 : y = [] := by
            by_cases h2 : y = []
            · exact h2
            · exact absurd (.inl ⟨h1, h2⟩) hc
          refine ev_to (ev_andP (k := true) (l := false) ?_ ?_) rfl rfl
          · repeat infer_instance
            all_goals simpa using h1
          · repeat infer_instance
            all_goals simpa using h2
      · repeat infer_instance
        exact decide_eq_false fun hh => hc (.inr hh)
    repeat infer_instance

end
end TT

/-! K00b: what k00's functions answer -/
namespace TT
open PySem PySem.Spec L2 GL
open PyProof.Rows hiding St
section
variable {ns one two three four a b c d : List Int} {u : List PyData}

theorem t_c25 (h : H8 one two three four a b c d) {i' : Int} : ∃ ps', Es c25 [some (.val (.list (ns.map .int))), some (.own (.list u)), some (.val (eL (lgA (one) (two)) (lgB (one) (two)))), some (.val (.list [eL (lgA (one) (three)) (lgB (one) (three)), eL (lgA (one) (four)) (lgB (one) (four)), eL (lgA (one) (four)) (lgB (one) (four)), eL (lgA (three) (one)) (lgB (three) (one)), eL (lgA (one) (one)) (lgB (one) (one))])), some (.val (.list [eL (lgA (one ++ a) (two ++ b)) (lgB (one ++ a) (two ++ b)), eL (lgA (one ++ a ++ c) (two ++ b ++ d)) (lgB (one ++ a ++ c) (two ++ b ++ d)), eL (lgA (two ++ b) (one ++ a)) (lgB (two ++ b) (one ++ a)), .bool (decide (Kept one two a b)), eL (lgA (one ++ a ++ c) (two ++ b ++ d)) (lgB (one ++ a ++ c) (two ++ b ++ d))])), some (.val (eP (one.take (cp one two)))), some (.val (eL (lgA (one ++ a) (two ++ b)) (lgB (one ++ a) (two ++ b)))), some (.own (.list [eL (lgA (one) (two)) (lgB (one) (two)), eL (lgA (two) (three)) (lgB (two) (three)), eL (lgA (three) (four)) (lgB (three) (four))])), some (.val (eL (lgA (one) (four)) (lgB (one) (four)))), some (.val (.int (((lgA one two).length : Int) + (lgB one two).length + (((lgA two three).length : Int) + (lgB two three).length)))), (some (.val (.int i'))), some (.val (eP one)), some (.val (eP two)), some (.val (eP three)), some (.val (eP four)), some (.val (eP a)), some (.val (eP b)), some (.val (eP c)), some (.val (eP d)), some (.val (eL (lgA (one ++ rep a 30) (two ++ rep b 30)) (lgB (one ++ rep a 30) (two ++ rep b 30)))), some (.val (.int (((lgA (one ++ rep a 30) (two ++ rep b 30)).length : Int) + (lgB (one ++ rep a 30) (two ++ rep b 30)).length))), none, none, none] (.nx ps') := by
  have h0 := h
  obtain ⟨v1, v2, v3, v4, va, vb, vc, vd, l1, l2, l3, l4, la, lb, lc, ld⟩ := h
  obtain ⟨m1, n1, e1⟩ := t_pair (ns := ns) (u := u) (i' := i') h0 v1 v2 none none
  obtain ⟨m2, n2, e2⟩ := t_pair (ns := ns) (u := u) (i' := i') h0 v1 v1 m1 n1
  obtain ⟨m3, n3, e3⟩ := t_pair (ns := ns) (u := u) (i' := i') h0 (vc.app v1 (by omega)) v1 m2 n2
  refine ⟨[some (.val (.list (ns.map .int))), some (.own (.list u)), some (.val (eL (lgA (one) (two)) (lgB (one) (two)))), some (.val (.list [eL (lgA (one) (three)) (lgB (one) (three)), eL (lgA (one) (four)) (lgB (one) (four)), eL (lgA (one) (four)) (lgB (one) (four)), eL (lgA (three) (one)) (lgB (three) (one)), eL (lgA (one) (one)) (lgB (one) (one))])), some (.val (.list [eL (lgA (one ++ a) (two ++ b)) (lgB (one ++ a) (two ++ b)), eL (lgA (one ++ a ++ c) (two ++ b ++ d)) (lgB (one ++ a ++ c) (two ++ b ++ d)), eL (lgA (two ++ b) (one ++ a)) (lgB (two ++ b) (one ++ a)), .bool (decide (Kept one two a b)), eL (lgA (one ++ a ++ c) (two ++ b ++ d)) (lgB (one ++ a ++ c) (two ++ b ++ d))])), some (.val (eP (one.take (cp one two)))), some (.val (eL [] (c ++ one))), some (.own (.list [eL (lgA (one) (two)) (lgB (one) (two)), eL (lgA (two) (three)) (lgB (two) (three)), eL (lgA (three) (four)) (lgB (three) (four))])), some (.val (eL (lgA (one) (four)) (lgB (one) (four)))), some (.val (.int (((lgA one two).length : Int) + (lgB one two).length + (((lgA two three).length : Int) + (lgB two three).length)))), (some (.val (.int i'))), some (.val (eP one)), some (.val (eP two)), some (.val (eP three)), some (.val (eP four)), some (.val (eP a)), some (.val (eP b)), some (.val (eP c)), some (.val (eP d)), some (.val (eL (lgA (one ++ rep a 30) (two ++ rep b 30)) (lgB (one ++ rep a 30) (two ++ rep b 30)))), some (.val (.int (((lgA (one ++ rep a 30) (two ++ rep b 30)).length : Int) + (lgB (one ++ rep a 30) (two ++ rep b 30)).length))), some (.val (eL (one) [])), m3, n3], ?_⟩
  unfold c25
  refine es_for (ds := [.tuple [eL [] one, eL two []], .tuple [eL [] one, eL one []], .tuple [eL [] (c ++ one), eL one []]]) (ps1 := [some (.val (.list (ns.map .int))), some (.own (.list u)), some (.val (eL (lgA (one) (two)) (lgB (one) (two)))), some (.val (.list [eL (lgA (one) (three)) (lgB (one) (three)), eL (lgA (one) (four)) (lgB (one) (four)), eL (lgA (one) (four)) (lgB (one) (four)), eL (lgA (three) (one)) (lgB (three) (one)), eL (lgA (one) (one)) (lgB (one) (one))])), some (.val (.list [eL (lgA (one ++ a) (two ++ b)) (lgB (one ++ a) (two ++ b)), eL (lgA (one ++ a ++ c) (two ++ b ++ d)) (lgB (one ++ a ++ c) (two ++ b ++ d)), eL (lgA (two ++ b) (one ++ a)) (lgB (two ++ b) (one ++ a)), .bool (decide (Kept one two a b)), eL (lgA (one ++ a ++ c) (two ++ b ++ d)) (lgB (one ++ a ++ c) (two ++ b ++ d))])), some (.val (eP (one.take (cp one two)))), some (.val (eL (lgA (one ++ a) (two ++ b)) (lgB (one ++ a) (two ++ b)))), some (.own (.list [eL (lgA (one) (two)) (lgB (one) (two)), eL (lgA (two) (three)) (lgB (two) (three)), eL (lgA (three) (four)) (lgB (three) (four))])), some (.val (eL (lgA (one) (four)) (lgB (one) (four)))), some (.val (.int (((lgA one two).length : Int) + (lgB one two).length + (((lgA two three).length : Int) + (lgB two three).length)))), (some (.val (.int i'))), some (.val (eP one)), some (.val (eP two)), some (.val (eP three)), some (.val (eP four)), some (.val (eP a)), some (.val (eP b)), some (.val (eP c)), some (.val (eP d)), some (.val (eL (lgA (one ++ rep a 30) (two ++ rep b 30)) (lgB (one ++ rep a 30) (two ++ rep b 30)))), some (.val (.int (((lgA (one ++ rep a 30) (two ++ rep b 30)).length : Int) + (lgB (one ++ rep a 30) (two ++ rep b 30)).length))), none, none, none]) (ev_seqI (d := .tuple [.tuple [eL [] one, eL two []], .tuple [eL [] one, eL one []], .tuple [eL [] (c ++ one), eL one []]]) ?_ rfl) ?_
  · refine ev_tupE (ev_cons (ev_tupE (ev_cons (ev_tupE (ev_cons (ev_tupE ev_nil (by simp)) (ev_cons (ev_N rfl) ev_nil)) (by simp)) (ev_cons (ev_tupE (ev_cons (ev_N rfl) (ev_cons (ev_tupE ev_nil (by simp)) ev_nil)) (by simp)) ev_nil)) (by simp)) (ev_cons (ev_tupE (ev_cons (ev_tupE (ev_cons (ev_tupE ev_nil (by simp)) (ev_cons (ev_N rfl) ev_nil)) (by simp)) (ev_cons (ev_tupE (ev_cons (ev_N rfl) (ev_cons (ev_tupE ev_nil (by simp)) ev_nil)) (by simp)) ev_nil)) (by simp)) (ev_cons (ev_tupE (ev_cons (ev_tupE (ev_cons (ev_tupE ev_nil (by simp)) (ev_cons (ev_bin (ev_N rfl) (ev_N rfl) (dAdd_P (by omega))) ev_nil)) (by simp)) (ev_cons (ev_tupE (ev_cons (ev_N rfl) (ev_cons (ev_tupE ev_nil (by simp)) ev_nil)) (by simp)) ev_nil)) (by simp)) ev_nil))) (by simp)
  · refine forL_cons (ps1 := [some (.val (.list (ns.map .int))), some (.own (.list u)), some (.val (eL (lgA (one) (two)) (lgB (one) (two)))), some (.val (.list [eL (lgA (one) (three)) (lgB (one) (three)), eL (lgA (one) (four)) (lgB (one) (four)), eL (lgA (one) (four)) (lgB (one) (four)), eL (lgA (three) (one)) (lgB (three) (one)), eL (lgA (one) (one)) (lgB (one) (one))])), some (.val (.list [eL (lgA (one ++ a) (two ++ b)) (lgB (one ++ a) (two ++ b)), eL (lgA (one ++ a ++ c) (two ++ b ++ d)) (lgB (one ++ a ++ c) (two ++ b ++ d)), eL (lgA (two ++ b) (one ++ a)) (lgB (two ++ b) (one ++ a)), .bool (decide (Kept one two a b)), eL (lgA (one ++ a ++ c) (two ++ b ++ d)) (lgB (one ++ a ++ c) (two ++ b ++ d))])), some (.val (eP (one.take (cp one two)))), some (.val (eL [] (one))), some (.own (.list [eL (lgA (one) (two)) (lgB (one) (two)), eL (lgA (two) (three)) (lgB (two) (three)), eL (lgA (three) (four)) (lgB (three) (four))])), some (.val (eL (lgA (one) (four)) (lgB (one) (four)))), some (.val (.int (((lgA one two).length : Int) + (lgB one two).length + (((lgA two three).length : Int) + (lgB two three).length)))), (some (.val (.int i'))), some (.val (eP one)), some (.val (eP two)), some (.val (eP three)), some (.val (eP four)), some (.val (eP a)), some (.val (eP b)), some (.val (eP c)), some (.val (eP d)), some (.val (eL (lgA (one ++ rep a 30) (two ++ rep b 30)) (lgB (one ++ rep a 30) (two ++ rep b 30)))), some (.val (.int (((lgA (one ++ rep a 30) (two ++ rep b 30)).length : Int) + (lgB (one ++ rep a 30) (two ++ rep b 30)).length))), some (.val (eL (two) [])), none, none]) rfl e1 ?_
    refine forL_cons (ps1 := [some (.val (.list (ns.map .int))), some (.own (.list u)), some (.val (eL (lgA (one) (two)) (lgB (one) (two)))), some (.val (.list [eL (lgA (one) (three)) (lgB (one) (three)), eL (lgA (one) (four)) (lgB (one) (four)), eL (lgA (one) (four)) (lgB (one) (four)), eL (lgA (three) (one)) (lgB (three) (one)), eL (lgA (one) (one)) (lgB (one) (one))])), some (.val (.list [eL (lgA (one ++ a) (two ++ b)) (lgB (one ++ a) (two ++ b)), eL (lgA (one ++ a ++ c) (two ++ b ++ d)) (lgB (one ++ a ++ c) (two ++ b ++ d)), eL (lgA (two ++ b) (one ++ a)) (lgB (two ++ b) (one ++ a)), .bool (decide (Kept one two a b)), eL (lgA (one ++ a ++ c) (two ++ b ++ d)) (lgB (one ++ a ++ c) (two ++ b ++ d))])), some (.val (eP (one.take (cp one two)))), some (.val (eL [] (one))), some (.own (.list [eL (lgA (one) (two)) (lgB (one) (two)), eL (lgA (two) (three)) (lgB (two) (three)), eL (lgA (three) (four)) (lgB (three) (four))])), some (.val (eL (lgA (one) (four)) (lgB (one) (four)))), some (.val (.int (((lgA one two).length : Int) + (lgB one two).length + (((lgA two three).length : Int) + (lgB two three).length)))), (some (.val (.int i'))), some (.val (eP one)), some (.val (eP two)), some (.val (eP three)), some (.val (eP four)), some (.val (eP a)), some (.val (eP b)), some (.val (eP c)), some (.val (eP d)), some (.val (eL (lgA (one ++ rep a 30) (two ++ rep b 30)) (lgB (one ++ rep a 30) (two ++ rep b 30)))), some (.val (.int (((lgA (one ++ rep a 30) (two ++ rep b 30)).length : Int) + (lgB (one ++ rep a 30) (two ++ rep b 30)).length))), some (.val (eL (one) [])), m1, n1]) rfl e2 ?_
    refine forL_cons (ps1 := [some (.val (.list (ns.map .int))), some (.own (.list u)), some (.val (eL (lgA (one) (two)) (lgB (one) (two)))), some (.val (.list [eL (lgA (one) (three)) (lgB (one) (three)), eL (lgA (one) (four)) (lgB (one) (four)), eL (lgA (one) (four)) (lgB (one) (four)), eL (lgA (three) (one)) (lgB (three) (one)), eL (lgA (one) (one)) (lgB (one) (one))])), some (.val (.list [eL (lgA (one ++ a) (two ++ b)) (lgB (one ++ a) (two ++ b)), eL (lgA (one ++ a ++ c) (two ++ b ++ d)) (lgB (one ++ a ++ c) (two ++ b ++ d)), eL (lgA (two ++ b) (one ++ a)) (lgB (two ++ b) (one ++ a)), .bool (decide (Kept one two a b)), eL (lgA (one ++ a ++ c) (two ++ b ++ d)) (lgB (one ++ a ++ c) (two ++ b ++ d))])), some (.val (eP (one.take (cp one two)))), some (.val (eL [] (c ++ one))), some (.own (.list [eL (lgA (one) (two)) (lgB (one) (two)), eL (lgA (two) (three)) (lgB (two) (three)), eL (lgA (three) (four)) (lgB (three) (four))])), some (.val (eL (lgA (one) (four)) (lgB (one) (four)))), some (.val (.int (((lgA one two).length : Int) + (lgB one two).length + (((lgA two three).length : Int) + (lgB two three).length)))), (some (.val (.int i'))), some (.val (eP one)), some (.val (eP two)), some (.val (eP three)), some (.val (eP four)), some (.val (eP a)), some (.val (eP b)), some (.val (eP c)), some (.val (eP d)), some (.val (eL (lgA (one ++ rep a 30) (two ++ rep b 30)) (lgB (one ++ rep a 30) (two ++ rep b 30)))), some (.val (.int (((lgA (one ++ rep a 30) (two ++ rep b 30)).length : Int) + (lgB (one ++ rep a 30) (two ++ rep b 30)).length))), some (.val (eL (one) [])), m2, n2]) rfl e3 ?_
    rfl
theorem partB (h : H8 one two three four a b c d) : ∃ ps', Es rest7 [some (.val (.list (ns.map .int))), some (.own (.list u)), none, none, none, none, none, none, none, none, none, some (.val (eP one)), some (.val (eP two)), some (.val (eP three)), some (.val (eP four)), some (.val (eP a)), some (.val (eP b)), some (.val (eP c)), some (.val (eP d)), none, none, none, none, none] (.ret (.val (.bool true)) ps') := by
  obtain ⟨i', e23⟩ := t_c23 (ns := ns) (u := u) h
  obtain ⟨ps', e25⟩ := t_c25 (ns := ns) (u := u) h (i' := i')
  refine ⟨ps', ?_⟩
  unfold rest7
  refine es_seq (t_c7 h) (es_seq (t_c8 h) (es_seq (t_c9 h) (es_seq (t_c10 h) (es_seq (t_c11 h) (es_seq (t_c12 h) (es_seq (t_c13 h) (es_seq (t_c14 h) (es_seq (t_c15 h) (es_seq (t_c16 h) (es_seq (t_c17 h) (es_seq (t_c18 h) (es_seq (t_c19 h) (es_seq (t_c20 h) (es_seq (t_c21 h) (es_seq (t_c22 h) (es_seq e23 (es_seq (t_c24 h) (es_seq e25 ?_))))))))))))))))))
  unfold c26
  exact es_ret (ev_val ev_K)
end
theorem law_true : ∀ ns : List Int, ns.length ≤ 63 → M_law [.list (ns.map PyData.int)] = .ok (.val (.bool true)) := fun ns hl => by
  obtain ⟨u, one, two, three, four, a, b, c, d, ⟨⟨v1, l1⟩, ⟨v2, l2⟩, ⟨v3, l3⟩, ⟨v4, l4⟩⟩, ⟨⟨va, la⟩, ⟨vb, lb⟩, ⟨vc, lc⟩, ⟨vd, ld⟩⟩, hA⟩ := partA hl
  obtain ⟨ps', hB⟩ := partB (ns := ns) (u := u) ⟨v1, v2, v3, v4, va, vb, vc, vd, l1, l2, l3, l4, la, lb, lc, ld⟩
  show (b_law [some (.val (.list (ns.map .int))), none, none, none, none, none, none, none, none, none, none, none, none, none, none, none, none, none, none, none, none, none, none, none]).fin = _
  exact fin_ret (hA _ hB)
end TT
theorem PySem.Challenge.cw_copysheets_k00_main_lags_of_pieces_put_b_holds : PySem.Challenge.rw_copysheets_k00_main_lags_of_pieces_put_b.Holds := by
  exact TT.law_holds TT.law_true
