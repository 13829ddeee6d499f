import PyProof.Rows.All
import Wide.All
import OpenK.AllK
import Wide.FinOn
import HandS.ForMost
import HandS.ForExc
import HandS.Flow
import HandS.TupAny
import HandS.IsInst
import HandS.Small
import HandS.Deep
import HandS.Zip
import HandS.TryMany
import HandS.Defaults
import KE.LtData
import HandS.Style
import HandS.HeadEnd
import HandS.HeadHook2
import HandS.Head2
import HandS.TupSets
import KE.KeyNested
import KE.SortData
import HandS.TupMul
import PySem.Challenge.RW_copysheets_k01_main_lots_of_near_pieces
set_option Elab.async false
set_option linter.all false
set_option maxRecDepth 100000
set_option autoImplicit false
set_option maxHeartbeats 400000
/-! GLa: pure states, what reads as data, steps, the judgements by functions -/
namespace L2
open PySem PySem.Spec
section
variable {K : PySem.W.Frag} {H H' : Hp}
theorem same_sqt {a : Addr} {xs : List V} (e : Same H H') (h : SqT K H a xs) : SqT K H' a xs := by
  rcases h with (h | ⟨o, h⟩) | h
  · exact .inl (.inl (e _ _ h))
  · exact .inl (.inr ⟨o, e _ _ h⟩)
  · exact .inr h
mutual
theorem Dp.mono (e : Same H H') : ∀ {v : V} {d : PyData}, Dp K H v d → Dp K H' v d
  | _, _, .non => .non
  | _, _, .bl b => .bl b
  | _, _, .int i => .int i
  | _, _, .str x => .str x
  | _, _, .lst s a => .lst (e.seq s) (DpAll.mono e a)
  | _, _, .tup s a => .tup (same_sqt e s) (DpAll.mono e a)
theorem DpAll.mono (e : Same H H') : ∀ {vs : List V} {ds : List PyData}, DpAll K H vs ds → DpAll K H' vs ds
  | _, _, .nil => .nil
  | _, _, .cons h t => .cons (Dp.mono e h) (DpAll.mono e t)
end
theorem DpAll.length : ∀ {vs : List V} {ds : List PyData}, DpAll K H vs ds → vs.length = ds.length
  | _, _, .nil => rfl
  | _, _, .cons _ t => by simp [DpAll.length t]
theorem DpAll.get : ∀ {vs : List V} {ds : List PyData} {i : Nat} {d : PyData}, DpAll K H vs ds → ds[i]? = some d → ∃ v, vs[i]? = some v ∧ Dp K H v d
  | _, _, _, _, .nil, e => by simp at e
  | _, _, 0, _, .cons h _, e => by simp at e; subst e; exact ⟨_, rfl, h⟩
  | _, _, i + 1, d, .cons _ t, e => by
    obtain ⟨v, h1, h2⟩ := DpAll.get (i := i) (d := d) t (by simpa using e)
    exact ⟨v, by simpa using h1, h2⟩
theorem DpAll.getV : ∀ {vs : List V} {ds : List PyData} {i : Nat} {v : V}, DpAll K H vs ds → vs[i]? = some v → ∃ d, ds[i]? = some d ∧ Dp K H v d
  | _, _, _, _, .nil, e => by simp at e
  | _, _, 0, _, .cons h _, e => by simp at e; subst e; exact ⟨_, rfl, h⟩
  | _, _, i + 1, d, .cons _ t, e => by
    obtain ⟨v, h1, h2⟩ := DpAll.getV (i := i) (v := d) t (by simpa using e)
    exact ⟨v, by simpa using h1, h2⟩
theorem DpAll.append : ∀ {xs ys : List V} {ds es : List PyData}, DpAll K H xs ds → DpAll K H ys es → DpAll K H (xs ++ ys) (ds ++ es)
  | _, _, _, _, .nil, s => s
  | _, _, _, _, .cons r t, s => .cons r (DpAll.append t s)
theorem DpAll.take : ∀ {xs : List V} {ds : List PyData} (n : Nat), DpAll K H xs ds → DpAll K H (xs.take n) (ds.take n)
  | _, _, 0, _ => .nil
  | _, _, _ + 1, .nil => .nil
  | _, _, n + 1, .cons r t => .cons r (DpAll.take n t)
theorem DpAll.drop : ∀ {xs : List V} {ds : List PyData} (n : Nat), DpAll K H xs ds → DpAll K H (xs.drop n) (ds.drop n)
  | _, _, 0, r => r
  | _, _, _ + 1, .nil => .nil
  | _, _, n + 1, .cons _ t => DpAll.drop n t
theorem DpAll.set : ∀ {xs : List V} {ds : List PyData} (i : Nat) {v : V} {d : PyData}, Dp K H v d → DpAll K H xs ds → DpAll K H (xs.set i v) (ds.set i d)
  | _, _, _, _, _, _, .nil => .nil
  | _, _, 0, _, _, h, .cons _ t => .cons h t
  | _, _, i + 1, _, _, h, .cons q t => .cons q (DpAll.set i h t)
theorem DpAll.reverse {xs : List V} {ds : List PyData} (h : DpAll K H xs ds) : DpAll K H xs.reverse ds.reverse := by
  induction xs generalizing ds with
  | nil => cases h; exact .nil
  | cons x xs ih => cases h with | cons a b => rw [List.reverse_cons, List.reverse_cons]; exact (ih b).append (.cons a .nil)
theorem DpAll.dropLast {xs : List V} {ds : List PyData} (h : DpAll K H xs ds) : DpAll K H xs.dropLast ds.dropLast := by
  rw [List.dropLast_eq_take, List.dropLast_eq_take, ← h.length]; exact h.take _
theorem DpAll.eraseIdx : ∀ {xs : List V} {ds : List PyData} (i : Nat), DpAll K H xs ds → DpAll K H (xs.eraseIdx i) (ds.eraseIdx i)
  | _, _, _, .nil => .nil
  | _, _, 0, .cons _ t => t
  | _, _, i + 1, .cons h t => .cons h (DpAll.eraseIdx i t)
end
end L2
namespace GL
open PySem PySem.Spec L2
open PyProof.Rows hiding St

/-- what a slot holds: data that nobody changes, or a list that the slot alone holds -/
inductive PV where
  | val (d : PyData)
  | own (d : PyData)
abbrev PSt := List (Option PV)
structure Exn where
  cls : Str
  fld : Option (Str × PyData) := none
inductive Rs (α : Type) where
  | ok (a : α) (ps : PSt)
  | exc (x : Exn) (ps : PSt)
  | bad
def Rs.bind {α β : Type} (r : Rs α) (g : α → PSt → Rs β) : Rs β := match r with
  | .ok a ps => g a ps
  | .exc x ps => .exc x ps
  | .bad => .bad
def Rs.map {α β : Type} (r : Rs α) (g : α → β) : Rs β := match r with
  | .ok a ps => .ok (g a) ps
  | .exc x ps => .exc x ps
  | .bad => .bad
def opt {α : Type} (o : Option α) (ps : PSt) : Rs α := match o with
  | some a => .ok a ps
  | none => .bad
inductive Os where
  | nx (ps : PSt) | ret (v : PV) (ps : PSt) | brk (ps : PSt) | ct (ps : PSt) | exc (x : Exn) (ps : PSt) | bad

section
variable {K : PySem.W.Frag} {F F' H H' H'' : Hp}
theorem same_upd {p : Addr} {o : HO} (h : H p = none) : Same H (upd H p o) := fun b u e => by rw [upd_ne (ne_of_none e h)]; exact e

/-- an operation's end: what was stands, new data may have come -/
structure Gr (F H F' H' : Hp) : Prop where
  grow : Same F F'
  fresh : ∀ b o, F' b = some o → F b = some o ∨ H b = none
  keep : Same H H'
  le : Same F' H'
theorem Gr.refl (h : Same F H) : Gr F H F H := ⟨.refl _, fun _ _ e => .inl e, .refl _, h⟩
theorem Gr.new (h : Same F H) {p : Addr} {o : HO} (hp : H p = none) : Gr F H (upd F p o) (upd H p o) where
  grow := same_upd (h.free hp)
  fresh := fun b u e => by
    by_cases hb : b = p
    · exact .inr (hb ▸ hp)
    · rw [upd_ne hb] at e; exact .inl e
  keep := same_upd hp
  le := fun b u e => by
    by_cases hb : b = p
    · subst hb; rw [upd_same] at e ⊢; exact e
    · rw [upd_ne hb] at e ⊢; exact h b u e

/-! ### slots -/
def OwnAt (K : PySem.W.Frag) (F H : Hp) (a : Addr) (d : PyData) : Prop := F a = none ∧ ∃ xs ds, d = .list ds ∧ H a = some (.lst xs) ∧ DpAll K F xs ds
def SlotR (K : PySem.W.Frag) (F H : Hp) (x : Option V) : Option PV → Prop
  | none => True
  | some (.val d) => ∃ v, x = some v ∧ Dp K F v d
  | some (.own d) => ∃ a, x = some (.ref a) ∧ OwnAt K F H a d
def Owned (σ : St) (ps : PSt) (b : Addr) : Prop := ∃ (i : Nat) (d : PyData), ps[i]? = some (some (PV.own d)) ∧ σ[i]? = some (some (V.ref b))
structure SR (K : PySem.W.Frag) (Bo : Option Addr) (F H : Hp) (σ : St) (ps : PSt) : Prop where
  le : Same F H
  len : ps.length = σ.length
  sl : ∀ (i : Nat) x p, σ[i]? = some x → ps[i]? = some p → SlotR K F H x p
  apart : ∀ (i j : Nat) (a : Addr) (d e : PyData), ps[i]? = some (some (PV.own d)) → ps[j]? = some (some (PV.own e)) → σ[i]? = some (some (V.ref a)) → σ[j]? = some (some (V.ref a)) → i = j
  bo : ∀ a, Bo = some a → σ[0]? = some (some (V.ref a)) ∧ ∃ d, ps[0]? = some (some (PV.own d))
structure Step (F H : Hp) (σ : St) (ps : PSt) (F' H' : Hp) (σ' : St) (ps' : PSt) : Prop where
  grow : Same F F'
  fresh : ∀ b o, F' b = some o → F b = some o ∨ H b = none ∨ Owned σ ps b
  keep : ∀ b o, H b = some o → ¬ Owned σ ps b → H' b = some o
  own : ∀ b, Owned σ' ps' b → Owned σ ps b ∨ H b = none
end
section
variable {K : PySem.W.Frag} {Bo : Option Addr} {F F1 F2 H H1 H2 : Hp} {σ σ1 σ2 : St} {ps ps1 ps2 : PSt}
theorem Step.refl : Step F H σ ps F H σ ps := ⟨.refl _, fun _ _ e => .inl e, fun _ _ e _ => e, fun _ h => .inl h⟩
theorem Step.trans (a : Step F H σ ps F1 H1 σ1 ps1) (b : Step F1 H1 σ1 ps1 F2 H2 σ2 ps2) : Step F H σ ps F2 H2 σ2 ps2 := by
  have gone : ∀ b, H1 b = none → H b = none ∨ Owned σ ps b := fun b e => by
    by_cases ho : Owned σ ps b
    · exact .inr ho
    · refine .inl ?_
      cases q : H b with
      | none => rfl
      | some o => have := a.keep b o q ho; rw [e] at this; cases this
  refine ⟨a.grow.trans b.grow, fun c o e => ?_, fun c o e n => ?_, fun c h => ?_⟩
  · rcases b.fresh c o e with q | q | q
    · exact a.fresh c o q
    · exact .inr (gone c q)
    · rcases a.own c q with z | z
      · exact .inr (.inr z)
      · exact .inr (.inl z)
  · refine b.keep c o (a.keep c o e n) fun z => ?_
    rcases a.own c z with y | y
    · exact n y
    · rw [e] at y; cases y
  · rcases b.own c h with z | z
    · exact a.own c z
    · exact (gone c z).symm
theorem Step.of_gr (g : Gr F H F1 H1) : Step F H σ ps F1 H1 σ ps :=
  ⟨g.grow, fun b o e => (g.fresh b o e).elim .inl fun z => .inr (.inl z), fun b o e _ => g.keep b o e, fun _ h => .inl h⟩
theorem OwnAt.gr {a : Addr} {d : PyData} (g : Gr F H F1 H1) (h : OwnAt K F H a d) : OwnAt K F1 H1 a d := by
  obtain ⟨n, xs, ds, e, h1, h2⟩ := h
  refine ⟨?_, xs, ds, e, g.keep _ _ h1, h2.mono g.grow⟩
  cases q : F1 a with
  | none => rfl
  | some o =>
    rcases g.fresh a o q with z | z
    · rw [n] at z; cases z
    · rw [h1] at z; cases z
theorem SR.gr (s : SR K Bo F H σ ps) (g : Gr F H F1 H1) : SR K Bo F1 H1 σ ps := by
  refine ⟨g.le, s.len, fun i x p e1 e2 => ?_, s.apart, s.bo⟩
  have q := s.sl i x p e1 e2
  match p, q with
  | none, _ => trivial
  | some (.val d), ⟨v, e, h⟩ => exact ⟨v, e, h.mono g.grow⟩
  | some (.own d), ⟨a, e, h⟩ => exact ⟨a, e, h.gr g⟩
theorem SR.at (s : SR K Bo F H σ ps) {i : Nat} {p : Option PV} (e : ps[i]? = some p) : ∃ x, σ[i]? = some x ∧ SlotR K F H x p := by
  have hi : i < σ.length := by rw [← s.len]; exact (List.getElem?_eq_some_iff.mp e).1
  exact ⟨σ[i], by simp [hi], s.sl i _ p (by simp [hi]) e⟩
theorem SR.val (s : SR K Bo F H σ ps) {i : Nat} {d : PyData} (e : ps[i]? = some (some (.val d))) : ∃ v, σ[i]? = some (some v) ∧ Dp K F v d := by
  obtain ⟨x, h1, v, rfl, h2⟩ := s.at e
  exact ⟨v, h1, h2⟩
theorem SR.own (s : SR K Bo F H σ ps) {i : Nat} {d : PyData} (e : ps[i]? = some (some (.own d))) : ∃ a, σ[i]? = some (some (.ref a)) ∧ OwnAt K F H a d := by
  obtain ⟨x, h1, v, rfl, h2⟩ := s.at e
  exact ⟨v, h1, h2⟩
theorem SR.unowned (s : SR K Bo F H σ ps) {b : Addr} {o : HO} (e : F b = some o) : ¬ Owned σ ps b := by
  rintro ⟨i, d, h1, h2⟩
  obtain ⟨a, h3, h4, _⟩ := s.own h1
  rw [h2] at h3; cases h3
  rw [e] at h4; cases h4

/-- a slot (not the lent one) gets new data, or is forgotten -/
theorem owned_set {i : Nat} {x : Option V} {p : Option PV} (hp : ∀ d, p ≠ some (.own d)) {b : Addr} (h : Owned (σ.set i x) (ps.set i p) b) : Owned σ ps b := by
  obtain ⟨j, d, h1, h2⟩ := h
  by_cases hj : i = j
  · subst hj
    by_cases hl : i < ps.length
    · rw [List.getElem?_set_self hl] at h1; exact absurd (Option.some.inj h1) (hp d)
    · rw [List.getElem?_eq_none (by simpa using hl)] at h1; cases h1
  · rw [List.getElem?_set_ne hj] at h1 h2
    exact ⟨j, d, h1, h2⟩
theorem SR.setV (s : SR K Bo F H σ ps) {i : Nat} {v : V} {d : PyData} (hb : Bo = none ∨ i ≠ 0) (h : Dp K F v d) : SR K Bo F H (σ.set i (some v)) (ps.set i (some (.val d))) := by
  refine ⟨s.le, by simp [s.len], fun j x p e1 e2 => ?_, fun j k a d e h1 h2 h3 h4 => ?_, fun a e => ?_⟩
  · by_cases hj : i = j
    · subst hj
      have l1 : i < σ.length := by have := (List.getElem?_eq_some_iff.mp e1).1; simpa using this
      have l2 : i < ps.length := by rw [s.len]; exact l1
      rw [List.getElem?_set_self l1] at e1
      rw [List.getElem?_set_self l2] at e2
      cases e1; cases e2
      exact ⟨v, rfl, h⟩
    · rw [List.getElem?_set_ne hj] at e1 e2
      exact s.sl j x p e1 e2
  · have f : ∀ {j : Nat} {d : PyData}, (ps.set i (some (.val d)))[j]? = some (some (.own e)) → True := fun _ => trivial
    have ne : ∀ {j : Nat} {d' d'' : PyData}, (ps.set i (some (.val d'')))[j]? = some (some (.own d')) → i ≠ j := fun {j d' d''} q z => by
      subst z
      by_cases hl : i < ps.length
      · rw [List.getElem?_set_self hl] at q; cases q
      · rw [List.getElem?_eq_none (by simpa using hl)] at q; cases q
    have n1 := ne h1
    have n2 := ne h2
    rw [List.getElem?_set_ne n1] at h1 h3
    rw [List.getElem?_set_ne n2] at h2 h4
    exact s.apart j k a _ _ h1 h2 h3 h4
  · obtain ⟨h1, d', h2⟩ := s.bo a e
    have n : i ≠ 0 := hb.resolve_left (by rw [e]; simp)
    exact ⟨by rw [List.getElem?_set_ne n]; exact h1, d', by rw [List.getElem?_set_ne n]; exact h2⟩
theorem Step.setV {i : Nat} {v : V} {d : PyData} : Step F H σ ps F H (σ.set i (some v)) (ps.set i (some (.val d))) :=
  ⟨.refl _, fun _ _ e => .inl e, fun _ _ e _ => e, fun _ h => .inl (owned_set (fun _ q => by cases q) h)⟩
/-- a slot is forgotten by the pure state -/
theorem owned_kill {i : Nat} {b : Addr} (h : Owned σ (ps.set i none) b) : Owned σ ps b := by
  obtain ⟨j, d, h1, h2⟩ := h
  by_cases hj : i = j
  · subst hj
    by_cases hl : i < ps.length
    · rw [List.getElem?_set_self hl] at h1; cases h1
    · rw [List.getElem?_eq_none (by simpa using hl)] at h1; cases h1
  · rw [List.getElem?_set_ne hj] at h1
    exact ⟨j, d, h1, h2⟩
theorem SR.kill (s : SR K Bo F H σ ps) {i : Nat} (hb : Bo = none ∨ i ≠ 0) : SR K Bo F H σ (ps.set i none) := by
  have un : ∀ {j : Nat} {p : PV}, (ps.set i none)[j]? = some (some p) → ps[j]? = some (some p) := fun {j p} q => by
    by_cases hj : i = j
    · subst hj
      by_cases hl : i < ps.length
      · rw [List.getElem?_set_self hl] at q; cases q
      · rw [List.getElem?_eq_none (by simpa using hl)] at q; cases q
    · rw [List.getElem?_set_ne hj] at q; exact q
  refine ⟨s.le, by simp [s.len], fun j x p e1 e2 => ?_, fun j k a d e h1 h2 => s.apart j k a d e (un h1) (un h2), fun a e => ?_⟩
  · cases p with
    | none => trivial
    | some p => exact s.sl j x _ e1 (un e2)
  · obtain ⟨h1, d', h2⟩ := s.bo a e
    have n : i ≠ 0 := hb.resolve_left (by rw [e]; simp)
    exact ⟨h1, d', by rw [List.getElem?_set_ne n]; exact h2⟩
theorem Step.kill {i : Nat} : Step F H σ ps F H σ (ps.set i none) := ⟨.refl _, fun _ _ e => .inl e, fun _ _ e _ => e, fun _ h => .inl (owned_kill h)⟩
/-- the list of a slot is given out for good: nobody changes it any more -/
theorem SR.freeze (s : SR K Bo F H σ ps) {i : Nat} {ds : List PyData} (hb : Bo = none ∨ i ≠ 0) (e : ps[i]? = some (some (.own (.list ds)))) : ∃ a xs, σ[i]? = some (some (.ref a)) ∧ H a = some (.lst xs) ∧
    SR K Bo (upd F a (.lst xs)) H σ (ps.set i (some (.val (.list ds)))) ∧ Step F H σ ps (upd F a (.lst xs)) H σ (ps.set i (some (.val (.list ds)))) ∧ Dp K (upd F a (.lst xs)) (.ref a) (.list ds) := by
  obtain ⟨a, h1, hn, xs, ds', e', h2, h3⟩ := s.own e
  cases e'
  have g : Same F (upd F a (.lst xs)) := same_upd hn
  have dp : Dp K (upd F a (.lst xs)) (.ref a) (.list ds) := .lst (SqL.of upd_same) (h3.mono g)
  have hi : i < ps.length := (List.getElem?_eq_some_iff.mp e).1
  refine ⟨a, xs, h1, h2, ⟨fun b o q => ?_, by simp [s.len], fun j x p e1 e2 => ?_, fun j k c d d2 q1 q2 q3 q4 => ?_, fun c e => ?_⟩, ⟨g, fun b o q => ?_, fun _ _ q _ => q, fun b q => ?_⟩, dp⟩
  · by_cases hb : b = a
    · subst hb; rw [upd_same] at q; cases q; exact h2
    · rw [upd_ne hb] at q; exact s.le b o q
  · by_cases hj : i = j
    · subst hj
      rw [List.getElem?_set_self hi] at e2; cases e2
      rw [h1] at e1; cases e1
      exact ⟨_, rfl, dp⟩
    · rw [List.getElem?_set_ne hj] at e2
      have q := s.sl j x p e1 e2
      match p, q with
      | none, _ => trivial
      | some (.val d), ⟨v, z, h⟩ => exact ⟨v, z, h.mono g⟩
      | some (.own d), ⟨c, z, n, ys, es, r1, r2, r3⟩ =>
        refine ⟨c, z, ?_, ys, es, r1, r2, r3.mono g⟩
        have : c ≠ a := fun w => by
          subst w; subst z
          exact hj (s.apart i j c _ _ e e2 h1 e1)
        rw [upd_ne this]; exact n
  · have ne : ∀ {j : Nat} {d' : PyData}, (ps.set i (some (.val (.list ds))))[j]? = some (some (.own d')) → i ≠ j := fun {j d'} q z => by
      subst z
      rw [List.getElem?_set_self hi] at q; cases q
    have n1 := ne q1
    have n2 := ne q2
    rw [List.getElem?_set_ne n1] at q1
    rw [List.getElem?_set_ne n2] at q2
    exact s.apart j k c _ _ q1 q2 q3 q4
  · obtain ⟨r1, d', r2⟩ := s.bo c e
    have n : i ≠ 0 := hb.resolve_left (by rw [e]; simp)
    exact ⟨r1, d', by rw [List.getElem?_set_ne n]; exact r2⟩
  · by_cases hb : b = a
    · subst hb; exact .inr (.inr ⟨i, _, e, h1⟩)
    · rw [upd_ne hb] at q; exact .inl q
  · obtain ⟨j, d, q1, q2⟩ := q
    by_cases hj : i = j
    · subst hj; rw [List.getElem?_set_self hi] at q1; cases q1
    · rw [List.getElem?_set_ne hj] at q1; exact .inl ⟨j, d, q1, q2⟩
end
end GL

/-! GLb: the judgements by functions; expressions -/
namespace GL
open PySem PySem.Spec L2
open PyProof.Rows hiding St

/-- how an exception of the pure world lies in the heap -/
def ExR (K : PySem.W.Frag) (mg : Str → Option Value) (x : Exn) (cls : Value) (dd : Option Addr) (F H : Hp) : Prop :=
  ∃ C, mg x.cls = some (.ref C) ∧ cls = .ref C ∧ match x.fld with
    | none => dd = none
    | some (n, d) => ∃ a v, dd = some a ∧ H a = some (.xd [(n, v)]) ∧ Dp K F v d

abbrev RT (β α : Type) := St → Hp → Hp → PSt → Hp → Hp → PSt → β → α → Prop
def Rebase {β α : Type} (R : RT β α) : Prop := ∀ σ F H ps F1 H1 ps1 F' H' ps' v a, Step F H σ ps F1 H1 σ ps1 → R σ F1 H1 ps1 F' H' ps' v a → R σ F H ps F' H' ps' v a
def Goal {β α : Type} (K : PySem.W.Frag) (mg : Str → Option Value) (Bo : Option Addr) (W : WX) (R : RT β α) (r : Rs α) (F H : Hp) (σ : St) (ps : PSt) (Q : β → Hp → Prop) : Prop := match r with
  | .ok d ps' => ∀ v F' H', Step F H σ ps F' H' σ ps' → SR K Bo F' H' σ ps' → R σ F H ps F' H' ps' v d → Q v H'
  | .exc x ps' => ∀ cls dd F' H', Step F H σ ps F' H' σ ps' → SR K Bo F' H' σ ps' → ExR K mg x cls dd F' H' → W cls dd σ H'
  | .bad => False
def tR {β α : Type} (K : PySem.W.Frag) (mg : Str → Option Value) (Bo : Option Addr) (W : WX) (R : RT β α) (f : PSt → Rs α) : St → Hp → (β → Hp → Prop) → Prop :=
  fun σ H Q => ∃ F ps, SR K Bo F H σ ps ∧ Goal K mg Bo W R (f ps) F H σ ps Q
def RV (K : PySem.W.Frag) : RT V PyData := fun _ _ _ _ F' _ _ v d => Dp K F' v d
def RA (K : PySem.W.Frag) : RT (List V) (List PyData) := fun _ _ _ _ F' _ _ v d => DpAll K F' v d
def RB : RT Bool Bool := fun _ _ _ _ _ _ _ b c => b = c
def RO (K : PySem.W.Frag) : RT V PV := fun σ F H ps F' H' ps' v p => match p with
  | .val d => Dp K F' v d
  | .own d => ∃ a, v = .ref a ∧ OwnAt K F' H' a d ∧ ¬ Owned σ ps' a ∧ (Owned σ ps a ∨ H a = none)
theorem RV.rb {K : PySem.W.Frag} : Rebase (RV K) := fun _ _ _ _ _ _ _ _ _ _ _ _ _ h => h
theorem RA.rb {K : PySem.W.Frag} : Rebase (RA K) := fun _ _ _ _ _ _ _ _ _ _ _ _ _ h => h
theorem RB.rb : Rebase RB := fun _ _ _ _ _ _ _ _ _ _ _ _ _ h => h
theorem Step.new {F H F1 H1 : Hp} {σ σ1 : St} {ps ps1 : PSt} (s : Step F H σ ps F1 H1 σ1 ps1) {a : Addr} (h : Owned σ1 ps1 a ∨ H1 a = none) : Owned σ ps a ∨ H a = none := by
  rcases h with h | h
  · exact s.own a h
  · by_cases ho : Owned σ ps a
    · exact .inl ho
    · refine .inr ?_
      cases q : H a with
      | none => rfl
      | some o => have := s.keep a o q ho; rw [h] at this; cases this
theorem RO.rb {K : PySem.W.Frag} : Rebase (RO K) := fun σ F H ps F1 H1 ps1 F' H' ps' v p st h => by
  match p, h with
  | .val d, h => exact h
  | .own d, ⟨a, h1, h2, h3, h4⟩ => exact ⟨a, h1, h2, h3, st.new h4⟩

section
variable {K : PySem.W.Frag} {mg : Str → Option Value} {Bo : Option Addr} {W : WX} {F H F1 H1 : Hp} {σ : St} {ps ps1 : PSt}
theorem Goal.rebase {β α : Type} {R : RT β α} (hR : Rebase R) {r : Rs α} {Q : β → Hp → Prop} (h : Goal K mg Bo W R r F H σ ps Q) (st : Step F H σ ps F1 H1 σ ps1) : Goal K mg Bo W R r F1 H1 σ ps1 Q := by
  cases r with
  | ok d ps' => exact fun v F' H' s2 sr hv => h v F' H' (st.trans s2) sr (hR _ _ _ _ _ _ _ _ _ _ _ _ st hv)
  | exc x ps' => exact fun cls dd F' H' s2 sr hv => h cls dd F' H' (st.trans s2) sr hv
  | bad => exact h
/-- first f1, then what g makes of it -/
theorem go_bind {β α γ δ : Type} {R1 : RT β α} {R2 : RT γ δ} (hR : Rebase R2) {f1 : PSt → Rs α} {g : α → PSt → Rs δ} {Q : γ → Hp → Prop} {K1 : β → Hp → Prop} (sr : SR K Bo F H σ ps) (h : Goal K mg Bo W R2 ((f1 ps).bind g) F H σ ps Q)
    (k : ∀ v a F1 H1 ps1, SR K Bo F1 H1 σ ps1 → Step F H σ ps F1 H1 σ ps1 → R1 σ F H ps F1 H1 ps1 v a → Goal K mg Bo W R2 (g a ps1) F1 H1 σ ps1 Q → K1 v H1) : tR K mg Bo W R1 f1 σ H K1 := by
  refine ⟨F, ps, sr, ?_⟩
  cases e : f1 ps with
  | ok a ps1 =>
    rw [e] at h
    exact fun v F1 H1 st s1 hv => k v a F1 H1 ps1 s1 st hv (Goal.rebase hR h st)
  | exc x ps1 => rw [e] at h; exact h
  | bad => rw [e] at h; exact h
theorem tR_bind {β α γ δ : Type} {R1 : RT β α} {R2 : RT γ δ} (hR : Rebase R2) {f1 : PSt → Rs α} {g : α → PSt → Rs δ} {Q : γ → Hp → Prop} {K1 : β → Hp → Prop} (h : tR K mg Bo W R2 (fun ps => (f1 ps).bind g) σ H Q)
    (k : ∀ v a F F1 H1 ps ps1, SR K Bo F1 H1 σ ps1 → Step F H σ ps F1 H1 σ ps1 → R1 σ F H ps F1 H1 ps1 v a → Goal K mg Bo W R2 (g a ps1) F1 H1 σ ps1 Q → K1 v H1) : tR K mg Bo W R1 f1 σ H K1 := by
  obtain ⟨F, ps, sr, h⟩ := h
  exact go_bind hR sr h fun v a F1 H1 ps1 => k v a F F1 H1 ps ps1
/-- an operation at the end -/
theorem go_end {Q : V → Hp → Prop} {o : Option PyData} (sr : SR K Bo F H σ ps) (h : Goal K mg Bo W (RV K) (opt o ps) F H σ ps Q) : ∃ d, o = some d ∧ ∀ v F' H', Gr F H F' H' → Dp K F' v d → Q v H' := by
  cases o with
  | none => exact h.elim
  | some d => exact ⟨d, rfl, fun v F' H' g hv => h v F' H' (Step.of_gr g) (sr.gr g) hv⟩
end

end GL
namespace L2
open PySem PySem.Spec
theorem PE.imp {X : Cx} {e : Expr} {t t' : TE} (h : PE X e t) (i : ∀ σ H Q, t' σ H Q → t σ H Q) : PE X e t' := ⟨fun pins s σ H Q I q => h.run pins s σ H Q I (i _ _ _ q)⟩
theorem PT.imp {X : Cx} {e : Expr} {t t' : TT} (h : PT X e t) (i : ∀ σ H Q, t' σ H Q → t σ H Q) : PT X e t' := ⟨fun pins s σ H Q I q => h.run pins s σ H Q I (i _ _ _ q)⟩
theorem PW.imp {X : Cx} {e : Expr} {t t' : TT} (h : PW X e t) (i : ∀ σ H Q, t' σ H Q → t σ H Q) : PW X e t' := ⟨fun wh pins s σ H Q I q => h.run wh pins s σ H Q I (i _ _ _ q)⟩
theorem PA.imp {X : Cx} {e : List Expr} {t t' : TA} (h : PA X e t) (i : ∀ σ H Q, t' σ H Q → t σ H Q) : PA X e t' := ⟨fun pos pins s σ H Q I q => h.run pos pins s σ H Q I (i _ _ _ q)⟩
theorem PS.imp {X : Cx} {e : Stmt} {t t' : TS} (h : PS X e t) (i : ∀ D σ H, t' D σ H → t D σ H) : PS X e t' := ⟨fun pins s σ H D I q => h.run pins s σ H D I (i _ _ _ q)⟩
theorem PSs.imp {X : Cx} {e : List Stmt} {t t' : TS} (h : PSs X e t) (i : ∀ D σ H, t' D σ H → t D σ H) : PSs X e t' := ⟨fun pins s σ H D I q => h.run pins s σ H D I (i _ _ _ q)⟩

end L2
namespace GL
open PySem PySem.Spec L2
open PyProof.Rows hiding St
/-! ### the judgements -/
def GV (X : Cx) (Bo : Option Addr) (W : WX) (e : Expr) (f : PSt → Rs PyData) : Prop := PE X e (tR X.K X.mg Bo W (RV X.K) f)
def GO (X : Cx) (Bo : Option Addr) (W : WX) (e : Expr) (f : PSt → Rs PV) : Prop := PE X e (tR X.K X.mg Bo W (RO X.K) f)
def GA (X : Cx) (Bo : Option Addr) (W : WX) (es : List Expr) (f : PSt → Rs (List PyData)) : Prop := PA X es (tR X.K X.mg Bo W (RA X.K) f)
def GT (X : Cx) (Bo : Option Addr) (W : WX) (e : Expr) (f : PSt → Rs Bool) : Prop := PT X e (tR X.K X.mg Bo W RB f)
def GW (X : Cx) (Bo : Option Addr) (W : WX) (e : Expr) (f : PSt → Rs Bool) : Prop := PW X e (tR X.K X.mg Bo W RB f)

def PV.data : PV → PyData
  | .val d => d
  | .own d => d
section
variable {X : Cx} {Bo : Option Addr} {W : WX} {e e1 e2 e3 : Expr} {es : List Expr} {f f1 f2 f3 : PSt → Rs PyData} {fa : PSt → Rs (List PyData)} {fo : PSt → Rs PV} {c1 c2 : PSt → Rs Bool} {pos : Pos}

theorem freeze1 {K : PySem.W.Frag} {F H : Hp} {σ : St} {ps : PSt} {a : Addr} {ds : List PyData} {xs : List V} (s : SR K Bo F H σ ps) (hn : F a = none) (h2 : H a = some (.lst xs)) (h3 : DpAll K F xs ds) (no : ¬ Owned σ ps a) :
    SR K Bo (upd F a (.lst xs)) H σ ps ∧ Dp K (upd F a (.lst xs)) (.ref a) (.list ds) := by
  have g : Same F (upd F a (.lst xs)) := same_upd hn
  refine ⟨⟨fun b o q => ?_, s.len, fun j x p e1 e2 => ?_, s.apart, s.bo⟩, .lst (SqL.of upd_same) (h3.mono g)⟩
  · by_cases hb : b = a
    · subst hb; rw [upd_same] at q; cases q; exact h2
    · rw [upd_ne hb] at q; exact s.le b o q
  · have q := s.sl j x p e1 e2
    match p, q with
    | none, _ => trivial
    | some (.val d), ⟨v, z, h⟩ => exact ⟨v, z, h.mono g⟩
    | some (.own d), ⟨c, z, n, ys, es, r1, r2, r3⟩ =>
      refine ⟨c, z, ?_, ys, es, r1, r2, r3.mono g⟩
      have : c ≠ a := fun w => by
        subst w; subst z
        exact no ⟨j, d, e2, e1⟩
      rw [upd_ne this]; exact n

/-- a value that one alone holds is given out -/
theorem gv_of (h : GO X Bo W e fo) : GV X Bo W e (fun ps => (fo ps).map PV.data) := by
  refine h.imp fun σ H Q ⟨F, ps, sr, q⟩ => ⟨F, ps, sr, ?_⟩
  dsimp only at q
  cases e : fo ps with
  | bad => rw [e] at q; exact q
  | exc x ps' => rw [e] at q; exact q
  | ok p ps' =>
    rw [e] at q
    intro v F' H' st sr' hv
    match p, hv with
    | .val d, hv => exact q v F' H' st sr' hv
    | .own d, hv =>
      obtain ⟨a, rfl, ⟨hn, xs, ds, ed, h2, h3⟩, no, nw⟩ := hv
      obtain ⟨s2, dp⟩ := freeze1 sr' hn h2 h3 no
      refine q (.ref a) (upd F' a (.lst xs)) H' ⟨st.grow.trans (same_upd hn), fun b o z => ?_, st.keep, st.own⟩ s2 (by cases ed; exact dp)
      by_cases hb : b = a
      · subst hb; exact .inr nw.symm
      · rw [upd_ne hb] at z; exact st.fresh b o z
theorem go_of (h : GV X Bo W e f) : GO X Bo W e (fun ps => (f ps).map PV.val) := by
  refine h.imp fun σ H Q ⟨F, ps, sr, q⟩ => ⟨F, ps, sr, ?_⟩
  dsimp only at q
  cases e : f ps with
  | bad => rw [e] at q; exact q
  | exc x ps' => rw [e] at q; exact q
  | ok d ps' => rw [e] at q; exact q

/-! ### constants, names -/
def fK (d : PyData) : PSt → Rs PyData := fun ps => .ok d ps
theorem gv_const {v : V} {d : PyData} (h : PE X e (tC v)) (hd : ∀ F, Dp X.K F v d) : GV X Bo W e (fK d) :=
  h.imp fun σ H Q ⟨F, ps, sr, q⟩ => q v F H .refl sr (hd F)
theorem gv_int {i j pos} : GV X Bo W (.Constant (.int i) j pos) (fK (.int i)) := gv_const pe_int fun _ => .int i
theorem gv_bl {b j pos} : GV X Bo W (.Constant (.bool b) j pos) (fK (.bool b)) := gv_const pe_bl fun _ => .bl b
theorem gv_non {j pos} : GV X Bo W (.Constant .none j pos) (fK .none) := gv_const pe_non fun _ => .non
theorem gv_str {x j pos} : GV X Bo W (.Constant (.str x) j pos) (fK (.str x)) := gv_const pe_str fun _ => .str x
/-- a module's constant that is a number -/
theorem gv_gint {x : Str} {i : Int} {t : Tok} (hg : Gl X x) (hm : X.mg x = some (.int i t)) (hd : (x == ("__debug__" : Str)) = false := by decide) : GV X Bo W (.Name x pos) (fK (.int i)) := gv_const (pe_glob (v := .int i) hg hm ⟨t, rfl⟩ hd) fun _ => .int i
/-- a name: a list that its slot alone held is given out by this -/
def fN (i : Nat) : PSt → Rs PyData := fun ps => match ps[i]? with
  | some (some (.val d)) => .ok d ps
  | some (some (.own (.list ds))) => .ok (.list ds) (ps.set i (some (.val (.list ds))))
  | _ => .bad
theorem gv_name (i : Nat) {x : Str} {pos : Pos} (hb : Bo = none ∨ i ≠ 0 := by first | exact .inl rfl | exact .inr (by decide)) (hN : X.N[i]? = some x := by rfl) (hv : Vis X.env.scope x := by first | exact Or.inl rfl | exact Or.inr (Or.inl rfl) | exact Or.inr (Or.inr rfl)) (hd : (x == ("__debug__" : Str)) = false := by decide)
    (hcd : (x == ("__classdict__" : Str)) = false := by decide) : GV X Bo W (.Name x pos) (fN i) := by
  refine (pe_var hN hv hd hcd).imp fun σ H Q ⟨F, ps, sr, q⟩ => ?_
  unfold fN at q
  match e : ps[i]?, q with
  | some (some (.val d)), q =>
    obtain ⟨v, h1, h2⟩ := sr.val e
    exact ⟨v, h1, q v F H .refl sr h2⟩
  | some (some (.own (.list ds))), q =>
    obtain ⟨a, xs, h1, h2, s2, st, dp⟩ := sr.freeze hb e
    exact ⟨.ref a, h1, q (.ref a) _ H st s2 dp⟩
  | none, q => exact q.elim
  | some none, q => exact q.elim
  | some (some (.own .none)), q => exact q.elim
  | some (some (.own (.bool _))), q => exact q.elim
  | some (some (.own (.int _))), q => exact q.elim
  | some (some (.own (.str _))), q => exact q.elim
  | some (some (.own (.tuple _))), q => exact q.elim
  | some (some (.own (.dict _))), q => exact q.elim
/-- a name whose slot gives up what it holds -/
def fMv (i : Nat) : PSt → Rs PV := fun ps => match ps[i]? with
  | some (some p) => .ok p (ps.set i none)
  | _ => .bad
theorem go_move (i : Nat) {x : Str} {pos : Pos} (hb : Bo = none ∨ i ≠ 0 := by first | exact .inl rfl | exact .inr (by decide)) (hN : X.N[i]? = some x := by rfl) (hv : Vis X.env.scope x := by first | exact Or.inl rfl | exact Or.inr (Or.inl rfl) | exact Or.inr (Or.inr rfl)) (hd : (x == ("__debug__" : Str)) = false := by decide)
    (hcd : (x == ("__classdict__" : Str)) = false := by decide) : GO X Bo W (.Name x pos) (fMv i) := by
  refine (pe_var hN hv hd hcd).imp fun σ H Q ⟨F, ps, sr, q⟩ => ?_
  unfold fMv at q
  match e : ps[i]?, q with
  | some (some (.val d)), q =>
    obtain ⟨v, h1, h2⟩ := sr.val e
    exact ⟨v, h1, q v F H .kill (sr.kill hb) h2⟩
  | some (some (.own d)), q =>
    obtain ⟨a, h1, h2⟩ := sr.own e
    have hi : i < ps.length := (List.getElem?_eq_some_iff.mp e).1
    refine ⟨.ref a, h1, q (.ref a) F H .kill (sr.kill hb) ⟨a, rfl, h2, ?_, .inl ⟨i, d, e, h1⟩⟩⟩
    rintro ⟨j, d', q1, q2⟩
    by_cases hj : i = j
    · subst hj; rw [List.getElem?_set_self hi] at q1; cases q1
    · rw [List.getElem?_set_ne hj] at q1
      exact hj (sr.apart i j a _ _ e q1 h1 q2)
  | none, q => exact q.elim
  | some none, q => exact q.elim
/-- what a slot holds, only looked at -/
def look (i : Nat) : PSt → Option PyData := fun ps => match ps[i]? with
  | some (some p) => some p.data
  | _ => none
theorem SR.look {K : PySem.W.Frag} {F H : Hp} {σ : St} {ps : PSt} (sr : SR K Bo F H σ ps) {i : Nat} {d : PyData} (h : look i ps = some d) : ∃ v, σ[i]? = some (some v) ∧ Dp K H v d ∧
    (∀ ds, d = .list ds → ∃ a xs, v = .ref a ∧ SqL K H a xs ∧ DpAll K F xs ds) ∧ (∀ ds, d = .tuple ds → ∃ a xs, v = .ref a ∧ SqT K H a xs ∧ DpAll K F xs ds) := by
  unfold GL.look at h
  match e : ps[i]?, h with
  | some (some (.val d')), h =>
    cases h
    obtain ⟨v, h1, h2⟩ := sr.val e
    refine ⟨v, h1, h2.mono sr.le, fun ds ed => ?_, fun ds ed => ?_⟩
    · have ed : d' = .list ds := ed
      subst ed
      cases h2 with
      | lst s a => exact ⟨_, _, rfl, sr.le.seq s, a⟩
    · have ed : d' = .tuple ds := ed
      subst ed
      cases h2 with
      | tup s a => exact ⟨_, _, rfl, same_sqt sr.le s, a⟩
  | some (some (.own d')), h =>
    cases h
    obtain ⟨a, h1, hn, xs, ds, ed, h2, h3⟩ := sr.own e
    subst ed
    refine ⟨.ref a, h1, .lst (SqL.of h2) (h3.mono sr.le), fun ds' ed => ?_, fun ds ed => by cases ed⟩
    cases ed
    exact ⟨a, xs, rfl, SqL.of h2, h3⟩

/-! ### arguments -/
theorem ga_nil : GA X Bo W [] (fun ps => .ok [] ps) := pa_nil.imp fun σ H Q ⟨F, ps, sr, q⟩ => q [] F H .refl sr .nil
def fCons (f : PSt → Rs PyData) (g : PSt → Rs (List PyData)) : PSt → Rs (List PyData) := fun ps => (f ps).bind fun d ps1 => (g ps1).bind fun ds ps2 => .ok (d :: ds) ps2
theorem ga_cons (h : GV X Bo W e f) (t : GA X Bo W es fa) (hs : starEach (e :: es) X.env = (false, eval e X.env) :: starEach es X.env := by rfl) : GA X Bo W (e :: es) (fCons f fa) := by
  refine (pa_cons h t hs).imp fun σ H Q q => ?_
  refine tR_bind RA.rb q fun v d F F1 H1 ps ps1 sr st hv q => ?_
  refine go_bind RA.rb sr q fun vs ds F2 H2 ps2 sr2 st2 hvs q => ?_
  exact q (v :: vs) F2 H2 .refl sr2 (.cons (hv.mono st2.grow) hvs)

/-! ### operators -/
def fBin (D : PyData → PyData → Option PyData) (f1 f2 : PSt → Rs PyData) : PSt → Rs PyData := fun ps => (f1 ps).bind fun a ps1 => (f2 ps1).bind fun b ps2 => opt (D a b) ps2
/-- an operator by data -/
def OpD (K : PySem.W.Frag) (r : R2) (D : PyData → PyData → Option PyData) : Prop := ∀ F H x y a b d Q, Same F H → Dp K F x a → Dp K F y b → D a b = some d → (∀ v F' H', Gr F H F' H' → Dp K F' v d → Q v H') → r x y H Q
theorem op_data {r : R2} {D : PyData → PyData → Option PyData} (hr : OpD X.K r D) (h1 : GV X Bo W e1 f1) (h2 : GV X Bo W e2 f2) : ∀ σ H Q, tR X.K X.mg Bo W (RV X.K) (fBin D f1 f2) σ H Q →
    tOp r (tR X.K X.mg Bo W (RV X.K) f1) (tR X.K X.mg Bo W (RV X.K) f2) σ H Q := fun σ H Q q => by
  refine tR_bind RV.rb q fun v a F F1 H1 ps ps1 sr st hv q => ?_
  refine go_bind RV.rb sr q fun u b F2 H2 ps2 sr2 st2 hu q => ?_
  obtain ⟨d, ed, k⟩ := go_end sr2 q
  exact hr F2 H2 v u a b d Q sr2.le (hv.mono st2.grow) hu ed k
theorem gv_bin {op : Operator} {r : R2} {D : PyData → PyData → Option PyData} (ho : OpR X (binaryOp op) r) (hr : OpD X.K r D) (h1 : GV X Bo W e1 f1) (h2 : GV X Bo W e2 f2) : GV X Bo W (.BinOp e1 op e2 pos) (fBin D f1 f2) :=
  (pe_op ho h1 h2).imp (op_data hr h1 h2)
theorem gv_cmp {op : CmpOp} {r : R2} {D : PyData → PyData → Option PyData} (ho : OpR X (compareOp op) r) (hr : OpD X.K r D) (h1 : GV X Bo W e1 f1) (h2 : GV X Bo W e2 f2) (hm : behindInMarks op e2 = false := by first | exact nomark _ | rfl) :
    GV X Bo W (.Compare e1 [op] [e2] pos) (fBin D f1 f2) := (pe_cmpR ho h1 h2 hm).imp (op_data hr h1 h2)
def fTest (f : PSt → Rs PyData) : PSt → Rs Bool := fun ps => (f ps).bind fun d ps1 => match d with
  | .bool b => .ok b ps1
  | _ => .bad
theorem test_data {t : TE} {f : PSt → Rs PyData} (h : ∀ σ H Q, tR X.K X.mg Bo W (RV X.K) f σ H Q → t σ H Q) : ∀ σ H Q, tR X.K X.mg Bo W RB (fTest f) σ H Q → tTest t σ H Q := fun σ H Q q => by
  refine h σ H _ ?_
  refine tR_bind RB.rb q fun v a F F1 H1 ps ps1 sr st hv q => ?_
  match a, hv, q with
  | .bool b, hv, q =>
    cases hv
    exact ⟨b, rfl, q b F1 H1 .refl sr rfl⟩
  | .none, hv, q => exact q.elim
  | .int _, hv, q => exact q.elim
  | .str _, hv, q => exact q.elim
  | .list _, hv, q => exact q.elim
  | .tuple _, hv, q => exact q.elim
  | .dict _, hv, q => exact q.elim
theorem gt_cmp {op : CmpOp} {r : R2} {D : PyData → PyData → Option PyData} (ho : OpR X (compareOp op) r) (hr : OpD X.K r D) (h1 : GV X Bo W e1 f1) (h2 : GV X Bo W e2 f2) (hm : behindInMarks op e2 = false := by first | exact nomark _ | rfl) :
    GT X Bo W (.Compare e1 [op] [e2] pos) (fTest (fBin D f1 f2)) := (pt_cmpR ho h1 h2 hm).imp (test_data (op_data hr h1 h2))
theorem gt_val (h : GV X Bo W e f) (he : ∀ whole, isTrue e X.env whole = (do let v ← whole; standAt e.pos; holding [v] (truthy v)) := by intro _; rfl) : GT X Bo W e (fTest f) := (pt_val h he).imp (test_data fun _ _ _ q => q)
def fUn (D : PyData → Option PyData) (f : PSt → Rs PyData) : PSt → Rs PyData := fun ps => (f ps).bind fun a ps1 => opt (D a) ps1
def dNeg : PyData → Option PyData
  | .int i => some (.int (-i))
  | _ => none
theorem gv_neg (h : GV X Bo W e f) : GV X Bo W (.UnaryOp .USub e pos) (fUn dNeg f) := by
  refine (pe_un un_neg h).imp fun σ H Q q => ?_
  refine tR_bind RV.rb q fun v a F F1 H1 ps ps1 sr st hv q => ?_
  obtain ⟨d, ed, k⟩ := go_end sr q
  cases hv <;> simp only [dNeg] at ed <;> first | cases ed | skip
  exact ⟨_, rfl, k _ F1 H1 (.refl sr.le) (.int _)⟩

/-! ### and, or, not -/
def fAnd (c1 c2 : PSt → Rs Bool) : PSt → Rs Bool := fun ps => (c1 ps).bind fun b ps1 => if b = true then c2 ps1 else .ok false ps1
def fOr (c1 c2 : PSt → Rs Bool) : PSt → Rs Bool := fun ps => (c1 ps).bind fun b ps1 => if b = true then .ok true ps1 else c2 ps1
def fNot (c : PSt → Rs Bool) : PSt → Rs Bool := fun ps => (c ps).bind fun b ps1 => .ok (!b) ps1
theorem gt_not (h : GT X Bo W e c1) : GT X Bo W (.UnaryOp .Not e pos) (fNot c1) := by
  refine (pt_not h).imp fun σ H Q q => ?_
  refine tR_bind RB.rb q fun b c F F1 H1 ps ps1 sr st hb q => ?_
  subst hb
  exact q (!b) F1 H1 .refl sr rfl
theorem gw_and1 (h : GT X Bo W e c1) : GW X Bo W (.BoolOp .And [e] pos) c1 := pw_and1 h
theorem gw_or1 (h : GT X Bo W e c1) : GW X Bo W (.BoolOp .Or [e] pos) c1 := pw_or1 h
theorem gw_and (h : GT X Bo W e c1) (t : GW X Bo W (.BoolOp .And (e2 :: es) pos) c2) : GW X Bo W (.BoolOp .And (e :: e2 :: es) pos) (fAnd c1 c2) := by
  refine (pw_and h t).imp fun σ H Q q => ?_
  refine tR_bind RB.rb q fun b c F F1 H1 ps ps1 sr st hb q => ?_
  subst hb
  cases b with
  | true => exact ⟨F1, ps1, sr, q⟩
  | false => exact q false F1 H1 .refl sr rfl
theorem gw_or (h : GT X Bo W e c1) (t : GW X Bo W (.BoolOp .Or (e2 :: es) pos) c2) : GW X Bo W (.BoolOp .Or (e :: e2 :: es) pos) (fOr c1 c2) := by
  refine (pw_or h t).imp fun σ H Q q => ?_
  refine tR_bind RB.rb q fun b c F F1 H1 ps ps1 sr st hb q => ?_
  subst hb
  cases b with
  | true => exact q true F1 H1 .refl sr rfl
  | false => exact ⟨F1, ps1, sr, q⟩
theorem gt_w (h : GW X Bo W e c1) : GT X Bo W e c1 := PW.pt h
/-- as values -/
def fAndV (f1 f2 : PSt → Rs PyData) : PSt → Rs PyData := fun ps => (fTest f1 ps).bind fun b ps1 => if b = true then f2 ps1 else .ok (.bool false) ps1
def fOrV (f1 f2 : PSt → Rs PyData) : PSt → Rs PyData := fun ps => (fTest f1 ps).bind fun b ps1 => if b = true then .ok (.bool true) ps1 else f2 ps1
def fNotV (f : PSt → Rs PyData) : PSt → Rs PyData := fun ps => (fTest f ps).bind fun b ps1 => .ok (.bool (!b)) ps1
theorem gv_one {op} (h : GV X Bo W e f) : GV X Bo W (.BoolOp op [e] pos) f := pe_one h
theorem gv_and (h : GV X Bo W e f1) (t : GV X Bo W (.BoolOp .And (e2 :: es) pos) f2) : GV X Bo W (.BoolOp .And (e :: e2 :: es) pos) (fAndV f1 f2) := by
  refine (pe_and h t).imp fun σ H Q q => ?_
  refine test_data (t := tR X.K X.mg Bo W (RV X.K) f1) (Q := fun c H1 => if c = true then tR X.K X.mg Bo W (RV X.K) f2 σ H1 Q else Q (.bl false) H1) (fun _ _ _ q => q) σ H ?_
  refine tR_bind RV.rb q fun b c F F1 H1 ps ps1 sr st hb q => ?_
  subst hb
  cases b with
  | true => exact ⟨F1, ps1, sr, q⟩
  | false => exact q (.bl false) F1 H1 .refl sr (.bl false)
theorem gv_or (h : GV X Bo W e f1) (t : GV X Bo W (.BoolOp .Or (e2 :: es) pos) f2) : GV X Bo W (.BoolOp .Or (e :: e2 :: es) pos) (fOrV f1 f2) := by
  refine (pe_or h t).imp fun σ H Q q => ?_
  refine test_data (t := tR X.K X.mg Bo W (RV X.K) f1) (Q := fun c H1 => if c = true then Q (.bl true) H1 else tR X.K X.mg Bo W (RV X.K) f2 σ H1 Q) (fun _ _ _ q => q) σ H ?_
  refine tR_bind RV.rb q fun b c F F1 H1 ps ps1 sr st hb q => ?_
  subst hb
  cases b with
  | true => exact q (.bl true) F1 H1 .refl sr (.bl true)
  | false => exact ⟨F1, ps1, sr, q⟩
theorem gv_not (h : GV X Bo W e f) : GV X Bo W (.UnaryOp .Not e pos) (fNotV f) := by
  refine (pe_not h).imp fun σ H Q q => ?_
  refine test_data (t := tR X.K X.mg Bo W (RV X.K) f) (Q := fun c H1 => Q (.bl (!c)) H1) (fun _ _ _ q => q) σ H ?_
  refine tR_bind RV.rb q fun b c F F1 H1 ps ps1 sr st hb q => ?_
  subst hb
  exact q (.bl (!b)) F1 H1 .refl sr (.bl _)
def fIf (c : PSt → Rs Bool) (f1 f2 : PSt → Rs PyData) : PSt → Rs PyData := fun ps => (c ps).bind fun b ps1 => if b = true then f1 ps1 else f2 ps1
theorem gv_if (h : GT X Bo W e c1) (h1 : GV X Bo W e1 f1) (h2 : GV X Bo W e2 f2) : GV X Bo W (.IfExp e e1 e2 pos) (fIf c1 f1 f2) := by
  refine (pe_ifExp h h1 h2).imp fun σ H Q q => ?_
  refine tR_bind RV.rb q fun b c F F1 H1 ps ps1 sr st hb q => ?_
  subst hb
  cases b with
  | true => exact ⟨F1, ps1, sr, q⟩
  | false => exact ⟨F1, ps1, sr, q⟩

/-! ### displays -/
def fTup (fa : PSt → Rs (List PyData)) : PSt → Rs PyData := fun ps => (fa ps).bind fun ds ps1 => if ds.length ≤ sizeLine then .ok (.tuple ds) ps1 else .bad
theorem gv_tup {k} (h : GA X Bo W es fa) : GV X Bo W (.Tuple es k pos) (fTup fa) := by
  refine (pe_tup h).imp fun σ H Q q => ?_
  refine tR_bind RV.rb q fun vs ds F F1 H1 ps ps1 sr st hv q => ?_
  by_cases hz : ds.length ≤ sizeLine
  · rw [if_pos hz] at q
    refine ⟨by rw [L2.DpAll.length hv]; exact hz, fun p hp => ?_⟩
    have g : Gr F1 H1 (upd F1 p (.tup vs)) (upd H1 p (.tup vs)) := .new sr.le hp
    exact q (.ref p) _ _ (.of_gr g) (sr.gr g) (.tup (SqT.of upd_same) (L2.DpAll.mono g.grow hv))
  · rw [if_neg hz] at q; exact q.elim
/-- a new list, its own holder's -/
theorem new_own {K : PySem.W.Frag} {F H : Hp} {σ : St} {ps : PSt} {p : Addr} {xs : List V} {ds : List PyData} (sr : SR K Bo F H σ ps) (hp : H p = none) (h : DpAll K F xs ds) :
    Gr F H F (upd H p (.lst xs)) ∧ SR K Bo F (upd H p (.lst xs)) σ ps ∧ RO K σ F H ps F (upd H p (.lst xs)) ps (.ref p) (.own (.list ds)) := by
  have g : Gr F H F (upd H p (.lst xs)) := ⟨.refl _, fun _ _ e => .inl e, same_upd hp, sr.le.trans (same_upd hp)⟩
  refine ⟨g, sr.gr g, p, rfl, ⟨sr.le.free hp, xs, ds, rfl, upd_same, h⟩, ?_, .inr hp⟩
  rintro ⟨i, d, h1, h2⟩
  obtain ⟨a, h3, _, ys, _, _, h4, _⟩ := sr.own h1
  rw [h2] at h3; cases h3
  rw [hp] at h4; cases h4
def fLst (fa : PSt → Rs (List PyData)) : PSt → Rs PV := fun ps => (fa ps).bind fun ds ps1 => if ds.length ≤ sizeLine then .ok (.own (.list ds)) ps1 else .bad
theorem go_lst (h : GA X Bo W es fa) : GO X Bo W (.List es pos) (fLst fa) := by
  refine (pe_lst h).imp fun σ H Q q => ?_
  refine tR_bind RO.rb q fun vs ds F F1 H1 ps ps1 sr st hv q => ?_
  by_cases hz : ds.length ≤ sizeLine
  · rw [if_pos hz] at q
    refine ⟨by rw [L2.DpAll.length hv]; exact hz, fun p hp => ?_⟩
    obtain ⟨g, s2, r⟩ := new_own sr hp hv
    exact q (.ref p) _ _ (.of_gr g) s2 r
  · rw [if_neg hz] at q; exact q.elim
end
end GL

/-! GLc: statements, targets, loops -/
namespace GL
open PySem PySem.Spec L2
open PyProof.Rows hiding St

/-- what is given back: data, or a new list of its own -/
def RF (K : PySem.W.Frag) (F' H H' : Hp) (σ : St) (ps : PSt) (σ' : St) (ps' : PSt) (v : V) : PV → Prop
  | .val d => Dp K F' v d
  | .own d => ∃ a, v = .ref a ∧ OwnAt K F' H' a d ∧ ¬ Owned σ' ps' a ∧ (Owned σ ps a ∨ H a = none)
def GoalS (K : PySem.W.Frag) (mg : Str → Option Value) (Bo : Option Addr) (W : WX) (o : Os) (F H : Hp) (σ : St) (ps : PSt) (D : Ends) : Prop := match o with
  | .nx ps' => ∀ σ' F' H', Step F H σ ps F' H' σ' ps' → SR K Bo F' H' σ' ps' → D.nx σ' H'
  | .brk ps' => ∀ σ' F' H', Step F H σ ps F' H' σ' ps' → SR K Bo F' H' σ' ps' → D.bk σ' H'
  | .ct ps' => ∀ σ' F' H', Step F H σ ps F' H' σ' ps' → SR K Bo F' H' σ' ps' → D.ct σ' H'
  | .ret p ps' => ∀ v σ' F' H', Step F H σ ps F' H' σ' ps' → SR K Bo F' H' σ' ps' → RF K F' H H' σ ps σ' ps' v p → D.rt v H'
  | .exc x ps' => ∀ cls dd σ' F' H', Step F H σ ps F' H' σ' ps' → SR K Bo F' H' σ' ps' → ExR K mg x cls dd F' H' → W cls dd σ' H'
  | .bad => False
def tS (K : PySem.W.Frag) (mg : Str → Option Value) (Bo : Option Addr) (W : WX) (f : PSt → Os) : TS := fun D σ H => ∃ F ps, SR K Bo F H σ ps ∧ GoalS K mg Bo W (f ps) F H σ ps D
def GS (X : Cx) (Bo : Option Addr) (W : WX) (st : Stmt) (f : PSt → Os) : Prop := PS X st (tS X.K X.mg Bo W f)
def GSs (X : Cx) (Bo : Option Addr) (W : WX) (st : List Stmt) (f : PSt → Os) : Prop := PSs X st (tS X.K X.mg Bo W f)

section
variable {K : PySem.W.Frag} {mg : Str → Option Value} {Bo : Option Addr} {W : WX} {F H F1 H1 F2 H2 : Hp} {σ σ1 : St} {ps ps1 ps2 : PSt}
theorem RF.rb {F' H' : Hp} {v : V} {p : PV} {σ' : St} {ps' : PSt} (st : Step F H σ ps F1 H1 σ1 ps1) (h : RF K F' H1 H' σ1 ps1 σ' ps' v p) : RF K F' H H' σ ps σ' ps' v p := by
  match p, h with
  | .val d, h => exact h
  | .own d, h =>
    obtain ⟨a, h1, h2, h3, h4⟩ := h
    exact ⟨a, h1, h2, h3, st.new h4⟩
theorem GoalS.rebase {o : Os} {D : Ends} (h : GoalS K mg Bo W o F H σ ps D) (st : Step F H σ ps F1 H1 σ1 ps1) : GoalS K mg Bo W o F1 H1 σ1 ps1 D := by
  cases o with
  | nx ps' => exact fun σ' F' H' s2 sr => h σ' F' H' (st.trans s2) sr
  | brk ps' => exact fun σ' F' H' s2 sr => h σ' F' H' (st.trans s2) sr
  | ct ps' => exact fun σ' F' H' s2 sr => h σ' F' H' (st.trans s2) sr
  | ret p ps' => exact fun v σ' F' H' s2 sr r => h v σ' F' H' (st.trans s2) sr (r.rb st)
  | exc x ps' => exact fun cls dd σ' F' H' s2 sr r => h cls dd σ' F' H' (st.trans s2) sr r
  | bad => exact h
/-- another end -/
theorem GoalS.mono {o : Os} {D D' : Ends} (h : GoalS K mg Bo W o F H σ ps D) (h1 : ∀ ps', o = .nx ps' → ∀ σ' F' H', Step F H σ ps F' H' σ' ps' → SR K Bo F' H' σ' ps' → D.nx σ' H' → D'.nx σ' H') (h2 : D.bk = D'.bk) (h3 : D.ct = D'.ct) (h4 : D.rt = D'.rt) :
    GoalS K mg Bo W o F H σ ps D' := by
  cases o with
  | nx ps' => exact fun σ' F' H' s2 sr => h1 ps' rfl σ' F' H' s2 sr (h σ' F' H' s2 sr)
  | brk ps' => exact fun σ' F' H' s2 sr => h2 ▸ h σ' F' H' s2 sr
  | ct ps' => exact fun σ' F' H' s2 sr => h3 ▸ h σ' F' H' s2 sr
  | ret p ps' => exact fun v σ' F' H' s2 sr r => h4 ▸ h v σ' F' H' s2 sr r
  | exc x ps' => exact h
  | bad => exact h
/-- an expression first, then what the statement makes of it -/
def Rs.st {α : Type} (r : Rs α) (g : α → PSt → Os) : Os := match r with
  | .ok a ps => g a ps
  | .exc x ps => .exc x ps
  | .bad => .bad
theorem gos_bind {β α : Type} {R1 : RT β α} {f1 : PSt → Rs α} {g : α → PSt → Os} {D : Ends} {K1 : β → Hp → Prop} (sr : SR K Bo F H σ ps) (h : GoalS K mg Bo W ((f1 ps).st g) F H σ ps D)
    (k : ∀ v a F1 H1 ps1, SR K Bo F1 H1 σ ps1 → Step F H σ ps F1 H1 σ ps1 → R1 σ F H ps F1 H1 ps1 v a → GoalS K mg Bo W (g a ps1) F1 H1 σ ps1 D → K1 v H1) : tR K mg Bo W R1 f1 σ H K1 := by
  refine ⟨F, ps, sr, ?_⟩
  cases e : f1 ps with
  | ok a ps1 =>
    rw [e] at h
    exact fun v F1 H1 st s1 hv => k v a F1 H1 ps1 s1 st hv (GoalS.rebase h st)
  | exc x ps1 =>
    rw [e] at h
    exact fun cls dd F' H' st s1 r => h cls dd σ F' H' st s1 r
  | bad => rw [e] at h; exact h
theorem tS_bind {β α : Type} {R1 : RT β α} {f1 : PSt → Rs α} {g : α → PSt → Os} {D : Ends} {K1 : β → Hp → Prop} (h : tS K mg Bo W (fun ps => (f1 ps).st g) D σ H)
    (k : ∀ v a F F1 H1 ps ps1, SR K Bo F H σ ps → SR K Bo F1 H1 σ ps1 → Step F H σ ps F1 H1 σ ps1 → R1 σ F H ps F1 H1 ps1 v a → GoalS K mg Bo W (g a ps1) F1 H1 σ ps1 D → K1 v H1) : tR K mg Bo W R1 f1 σ H K1 := by
  obtain ⟨F, ps, sr, h⟩ := h
  exact gos_bind sr h fun v a F1 H1 ps1 => k v a F F1 H1 ps ps1 sr
/-- the goal as it was at the beginning -/
theorem tS_bind0 {β α : Type} {R1 : RT β α} {f1 : PSt → Rs α} {g : α → PSt → Os} {D : Ends} {K1 : β → Hp → Prop} (h : tS K mg Bo W (fun ps => (f1 ps).st g) D σ H)
    (k : ∀ v a F F1 H1 ps ps1, SR K Bo F H σ ps → SR K Bo F1 H1 σ ps1 → Step F H σ ps F1 H1 σ ps1 → R1 σ F H ps F1 H1 ps1 v a → GoalS K mg Bo W (g a ps1) F H σ ps D → K1 v H1) : tR K mg Bo W R1 f1 σ H K1 := by
  obtain ⟨F, ps, sr, h⟩ := h
  refine ⟨F, ps, sr, ?_⟩
  dsimp only at h
  cases e : f1 ps with
  | ok a ps1 =>
    rw [e] at h
    exact fun v F1 H1 st s1 hv => k v a F F1 H1 ps ps1 sr s1 st hv h
  | exc x ps1 =>
    rw [e] at h
    exact fun cls dd F' H' st s1 r => h cls dd σ F' H' st s1 r
  | bad => rw [e] at h; exact h
/-- what one alone holds stays while something else goes on -/
theorem RO.keep {v : V} {p : PV} (h : RO K σ F H ps F1 H1 ps1 v p) (st : Step F1 H1 σ ps1 F2 H2 σ ps2) : RO K σ F H ps F2 H2 ps2 v p := by
  match p, h with
  | .val d, h =>
    have h : Dp K F1 v d := h
    exact h.mono st.grow
  | .own d, h =>
    obtain ⟨a, h1, ⟨hn, xs, ds, e, h2, h3⟩, h4, h5⟩ := h
    refine ⟨a, h1, ⟨?_, xs, ds, e, st.keep _ _ h2 h4, h3.mono st.grow⟩, fun q => ?_, h5⟩
    · cases q : F2 a with
      | none => rfl
      | some o =>
        rcases st.fresh a o q with z | z | z
        · rw [hn] at z; cases z
        · rw [h2] at z; cases z
        · exact (h4 z).elim
    · rcases st.own a q with z | z
      · exact h4 z
      · rw [h2] at z; cases z
/-- a slot gets a list of its own -/
theorem SR.setO (s : SR K Bo F H σ ps) {i : Nat} {a : Addr} {d : PyData} (hb : Bo = none ∨ i ≠ 0) (h : OwnAt K F H a d) (no : ¬ Owned σ ps a) : SR K Bo F H (σ.set i (some (.ref a))) (ps.set i (some (.own d))) := by
  have un : ∀ {j : Nat} {e : PyData} {b : Addr}, (ps.set i (some (.own d)))[j]? = some (some (.own e)) → (σ.set i (some (.ref a)))[j]? = some (some (.ref b)) → (j = i ∧ b = a) ∨ (i ≠ j ∧ ps[j]? = some (some (.own e)) ∧ σ[j]? = some (some (.ref b))) := fun {j e b} h1 h2 => by
    by_cases hj : i = j
    · subst hj
      by_cases hl : i < σ.length
      · rw [List.getElem?_set_self hl] at h2; cases h2; exact .inl ⟨rfl, rfl⟩
      · rw [List.getElem?_eq_none (by simpa using hl)] at h2; cases h2
    · rw [List.getElem?_set_ne hj] at h1 h2; exact .inr ⟨hj, h1, h2⟩
  refine ⟨s.le, by simp [s.len], fun j x p e1 e2 => ?_, fun j k b d1 d2 h1 h2 h3 h4 => ?_, fun c e => ?_⟩
  · by_cases hj : i = j
    · subst hj
      have l1 : i < σ.length := by have := (List.getElem?_eq_some_iff.mp e1).1; simpa using this
      have l2 : i < ps.length := by rw [s.len]; exact l1
      rw [List.getElem?_set_self l1] at e1
      rw [List.getElem?_set_self l2] at e2
      cases e1; cases e2
      exact ⟨a, rfl, h⟩
    · rw [List.getElem?_set_ne hj] at e1 e2
      exact s.sl j x p e1 e2
  · rcases un h1 h3 with ⟨z1, z2⟩ | ⟨z1, z2, z3⟩ <;> rcases un h2 h4 with ⟨y1, y2⟩ | ⟨y1, y2, y3⟩
    · rw [z1, y1]
    · subst z2; exact (no ⟨k, _, y2, y3⟩).elim
    · subst y2; exact (no ⟨j, _, z2, z3⟩).elim
    · exact s.apart j k b _ _ z2 y2 z3 y3
  · obtain ⟨r1, d', r2⟩ := s.bo c e
    have n : i ≠ 0 := hb.resolve_left (by rw [e]; simp)
    exact ⟨by rw [List.getElem?_set_ne n]; exact r1, d', by rw [List.getElem?_set_ne n]; exact r2⟩
theorem owned_setO {i : Nat} {a b : Addr} {d : PyData} (h : Owned (σ.set i (some (.ref a))) (ps.set i (some (.own d))) b) : b = a ∨ Owned σ ps b := by
  obtain ⟨j, e, h1, h2⟩ := h
  by_cases hj : i = j
  · subst hj
    by_cases hl : i < σ.length
    · rw [List.getElem?_set_self hl] at h2; cases h2; exact .inl rfl
    · rw [List.getElem?_eq_none (by simpa using hl)] at h2; cases h2
  · rw [List.getElem?_set_ne hj] at h1 h2; exact .inr ⟨j, e, h1, h2⟩
/-- a value is stored -/
theorem store_pv {v : V} {p : PV} {i : Nat} (hb : Bo = none ∨ i ≠ 0) (s1 : SR K Bo F1 H1 σ ps1) (st : Step F H σ ps F1 H1 σ ps1) (h : RO K σ F H ps F1 H1 ps1 v p) :
    SR K Bo F1 H1 (σ.set i (some v)) (ps1.set i (some p)) ∧ Step F H σ ps F1 H1 (σ.set i (some v)) (ps1.set i (some p)) := by
  match p, h with
  | .val d, h => exact ⟨s1.setV hb h, st.trans .setV⟩
  | .own d, h =>
    obtain ⟨a, rfl, h2, h3, h4⟩ := h
    refine ⟨s1.setO hb h2 h3, st.grow, st.fresh, st.keep, fun b q => ?_⟩
    rcases owned_setO q with z | z
    · subst z; exact h4
    · exact st.own b z
/-- a slot's own list is changed -/
theorem SR.mut (s : SR K Bo F H σ ps) {i : Nat} {a : Addr} {d d' : PyData} {xs : List V} {ds : List PyData} (e : ps[i]? = some (some (.own d))) (ea : σ[i]? = some (some (.ref a))) (hn : F a = none) (ed : d' = .list ds) (h : DpAll K F xs ds) :
    SR K Bo F (upd H a (.lst xs)) σ (ps.set i (some (.own d'))) ∧ Step F H σ ps F (upd H a (.lst xs)) σ (ps.set i (some (.own d'))) := by
  have hi : i < ps.length := (List.getElem?_eq_some_iff.mp e).1
  have ow : Owned σ ps a := ⟨i, d, e, ea⟩
  refine ⟨⟨fun b o q => ?_, by simp [s.len], fun j x p e1 e2 => ?_, fun j k b d1 d2 h1 h2 h3 h4 => ?_, fun c z => ?_⟩, .refl _, fun _ _ q => .inl q, fun b o q n => ?_, fun b q => ?_⟩
  · have : b ≠ a := fun w => by subst w; rw [hn] at q; cases q
    rw [upd_ne this]; exact s.le b o q
  · by_cases hj : i = j
    · subst hj
      rw [List.getElem?_set_self hi] at e2; cases e2
      rw [ea] at e1; cases e1
      exact ⟨a, rfl, hn, xs, ds, ed, upd_same, h⟩
    · rw [List.getElem?_set_ne hj] at e2
      have q := s.sl j x p e1 e2
      match p, q with
      | none, _ => trivial
      | some (.val d), q => exact q
      | some (.own d1), q =>
        obtain ⟨c, z, n, ys, es, r1, r2, r3⟩ := q
        refine ⟨c, z, n, ys, es, r1, ?_, r3⟩
        have : c ≠ a := fun w => by
          subst w; subst z
          exact hj (s.apart i j c _ _ e e2 ea e1)
        rw [upd_ne this]; exact r2
  · have old : ∀ {j : Nat} {e : PyData}, (ps.set i (some (.own d')))[j]? = some (some (.own e)) → ∃ e', ps[j]? = some (some (.own e')) := fun {j e1} q => by
      by_cases hj : i = j
      · subst hj; exact ⟨d, e⟩
      · rw [List.getElem?_set_ne hj] at q; exact ⟨_, q⟩
    obtain ⟨_, o1⟩ := old h1
    obtain ⟨_, o2⟩ := old h2
    exact s.apart j k b _ _ o1 o2 h3 h4
  · obtain ⟨r1, d1, r2⟩ := s.bo c z
    refine ⟨r1, ?_⟩
    by_cases hj : i = 0
    · subst hj; exact ⟨d', List.getElem?_set_self hi⟩
    · exact ⟨d1, by rw [List.getElem?_set_ne hj]; exact r2⟩
  · have : b ≠ a := fun w => by subst w; exact n ow
    rw [upd_ne this]; exact q
  · obtain ⟨j, e1, q1, q2⟩ := q
    by_cases hj : i = j
    · subst hj; exact .inl ⟨i, d, e, q2⟩
    · rw [List.getElem?_set_ne hj] at q1; exact .inl ⟨j, e1, q1, q2⟩
end

section
variable {X : Cx} {Bo : Option Addr} {W : WX} {e e1 e2 : Expr} {st : Stmt} {sts rest : List Stmt} {f f1 f2 : PSt → Rs PyData} {fo fo1 fo2 : PSt → Rs PV} {c : PSt → Rs Bool} {g g1 g2 : PSt → Os} {pos : Pos}
/-! ### blocks -/
def fSkip : PSt → Os := .nx
def fSeq (g1 g2 : PSt → Os) : PSt → Os := fun ps => match g1 ps with
  | .nx ps1 => g2 ps1
  | .ret p ps1 => .ret p ps1
  | .brk ps1 => .brk ps1
  | .ct ps1 => .ct ps1
  | .exc x ps1 => .exc x ps1
  | .bad => .bad
theorem gss_nil : GSs X Bo W [] fSkip := pss_nil.imp fun D σ H ⟨F, ps, sr, q⟩ => q σ F H .refl sr
theorem seq_data {t u : TS} (h : ∀ D σ H, tS X.K X.mg Bo W g1 D σ H → t D σ H) (k : ∀ D σ H, tS X.K X.mg Bo W g2 D σ H → u D σ H) : ∀ D σ H, tS X.K X.mg Bo W (fSeq g1 g2) D σ H → tSeq t u D σ H := fun D σ H ⟨F, ps, sr, q⟩ => by
  refine h { D with nx := u D } σ H ⟨F, ps, sr, ?_⟩
  unfold fSeq at q
  cases e : g1 ps with
  | nx ps1 =>
    rw [e] at q
    exact fun σ' F' H' st s1 => k D σ' H' ⟨F', ps1, s1, GoalS.rebase q st⟩
  | ret p ps1 => rw [e] at q; exact q
  | brk ps1 => rw [e] at q; exact q
  | ct ps1 => rw [e] at q; exact q
  | exc x ps1 => rw [e] at q; exact q
  | bad => rw [e] at q; exact q
theorem gss_cons (h : GS X Bo W st g1) (t : GSs X Bo W rest g2) : GSs X Bo W (st :: rest) (fSeq g1 g2) := (pss_cons h t).imp (seq_data (fun _ _ _ q => q) fun _ _ _ q => q)
theorem gss_one (h : GS X Bo W st g) : GSs X Bo W [st] g := pss_one h
/-- slots that nobody reads any more are forgotten -/
def fKill (l : List Nat) (g : PSt → Os) : PSt → Os := fun ps => match g ps with
  | .nx ps1 => .nx (l.foldl (fun q i => q.set i none) ps1)
  | o => o
theorem SR.kills {K : PySem.W.Frag} {F H : Hp} {σ : St} : ∀ {l : List Nat} {ps : PSt}, (Bo = none ∨ 0 ∉ l) → SR K Bo F H σ ps → SR K Bo F H σ (l.foldl (fun q i => q.set i none) ps) ∧ Step F H σ ps F H σ (l.foldl (fun q i => q.set i none) ps)
  | [], ps, _, s => ⟨s, .refl⟩
  | i :: l, ps, hb, s => by
    have h1 : Bo = none ∨ i ≠ 0 := hb.imp_right fun q z => q (by rw [z]; exact List.mem_cons_self)
    obtain ⟨s2, st⟩ := SR.kills (l := l) (hb.imp_right fun q z => q (List.mem_cons_of_mem _ z)) (s.kill h1)
    exact ⟨s2, Step.kill.trans st⟩
theorem gs_kill (l : List Nat) (h : GS X Bo W st g) (hb : Bo = none ∨ 0 ∉ l := by first | exact .inl rfl | exact .inr (by decide)) : GS X Bo W st (fKill l g) := by
  refine h.imp fun D σ H ⟨F, ps, sr, q⟩ => ⟨F, ps, sr, ?_⟩
  unfold fKill at q
  cases e : g ps with
  | nx ps1 =>
    rw [e] at q
    intro σ' F' H' st s1
    obtain ⟨s2, st2⟩ := s1.kills hb
    exact q σ' F' H' (st.trans st2) s2
  | ret p ps1 => rw [e] at q; exact q
  | brk ps1 => rw [e] at q; exact q
  | ct ps1 => rw [e] at q; exact q
  | exc x ps1 => rw [e] at q; exact q
  | bad => rw [e] at q; exact q

/-! ### small statements -/
def fExpr (f : PSt → Rs PyData) : PSt → Os := fun ps => (f ps).st fun _ ps1 => .nx ps1
theorem gs_expr (h : GV X Bo W e f) (hs : swapsWith e none pos.line X.env = pure false := by rfl) : GS X Bo W (.Expr e pos) (fExpr f) := by
  refine (ps_expr h hs).imp fun D σ H q => ?_
  exact tS_bind q fun v a F F1 H1 ps ps1 sr s1 st hv q => q σ F1 H1 .refl s1
def fRet (fo : PSt → Rs PV) : PSt → Os := fun ps => (fo ps).st fun p ps1 => .ret p ps1
theorem gs_ret (h : GO X Bo W e fo) : GS X Bo W (.Return (some e) pos) (fRet fo) := by
  refine (ps_ret h).imp fun D σ H ⟨F, ps, sr, q⟩ => ⟨F, ps, sr, ?_⟩
  unfold fRet at q
  cases e : fo ps with
  | bad => rw [e] at q; exact q
  | exc x ps1 => rw [e] at q; exact fun cls dd F' H' st s1 r => q cls dd σ F' H' st s1 r
  | ok p ps1 =>
    rw [e] at q
    intro v F' H' st s1 r
    refine q v σ F' H' st s1 ?_
    match p, r with
    | .val d, r => exact r
    | .own d, r =>
      exact r
theorem gs_retN : GS X Bo W (.Return none pos) (fun ps => .ret (.val .none) ps) := ps_retN.imp fun D σ H ⟨F, ps, sr, q⟩ => q .non σ F H .refl sr .non
theorem gs_pass : GS X Bo W (.Pass pos) fSkip := ps_pass.imp fun D σ H ⟨F, ps, sr, q⟩ => q σ F H .refl sr
theorem gs_break : GS X Bo W (.Break pos) (fun ps => .brk ps) := ps_break.imp fun D σ H ⟨F, ps, sr, q⟩ => q σ F H .refl sr
def fSet (i : Nat) (fo : PSt → Rs PV) : PSt → Os := fun ps => (fo ps).st fun p ps1 => .nx (ps1.set i (some p))
theorem gs_set (i : Nat) {x : Str} {pos' : Pos} (h : GO X Bo W e fo) (hN : X.N.Nodup) (hb : Bo = none ∨ i ≠ 0 := by first | exact .inl rfl | exact .inr (by decide)) (hi : X.N[i]? = some x := by rfl) (hx : Loc X.env.scope x := by first | exact .inl rfl | exact .inr rfl)
    (hs : swapsWith e (some (.Name x pos')) pos.line X.env = pure false := by rfl) (hf : X.fn x = true ∨ X.env.scope.names.lookup x = some .local := by first | exact .inl rfl | exact .inr rfl) : GS X Bo W (.Assign [.Name x pos'] e pos) (fSet i fo) := by
  refine (ps_set hN hi hx h hs hf).imp fun D σ H q => ?_
  refine tS_bind0 q fun v p F F1 H1 ps ps1 sr s1 st hv q => ?_
  obtain ⟨s2, st2⟩ := store_pv hb s1 st hv
  exact q _ F1 H1 st2 s2
def fIfS (c : PSt → Rs Bool) (g1 g2 : PSt → Os) : PSt → Os := fun ps => (c ps).st fun b ps1 => if b = true then g1 ps1 else g2 ps1
theorem gs_if {e : Expr} {a b : List Stmt} (h : GT X Bo W e c) (ha : GSs X Bo W a g1) (hb : GSs X Bo W b g2) : GS X Bo W (.If e a b pos) (fIfS c g1 g2) := by
  refine (ps_if h ha hb).imp fun D σ H q => ?_
  refine tS_bind q fun b b' F F1 H1 ps ps1 sr s1 st hb q => ?_
  subst hb
  cases b with
  | true => exact ⟨F1, ps1, s1, q⟩
  | false => exact ⟨F1, ps1, s1, q⟩

/-! ### targets -/
def Only (T : List Nat) (σ σ' : St) : Prop := σ'.length = σ.length ∧ ∀ i : Nat, i ∉ T → σ'[i]? = σ[i]?
def tG (K : PySem.W.Frag) (Bo : Option Addr) (T : List Nat) (g : PyData → PSt → Option PSt) : TG := fun v σ H Q => ∃ F ps d ps', SR K Bo F H σ ps ∧ Dp K F v d ∧ g d ps = some ps' ∧ ∀ σ', Only T σ σ' → Step F H σ ps F H σ' ps' → SR K Bo F H σ' ps' → Q σ' H
def GG (X : Cx) (Bo : Option Addr) (tg : Expr) (T : List Nat) (g : PyData → PSt → Option PSt) : Prop := PG X tg (tG X.K Bo T g)
def tGs (K : PySem.W.Frag) (Bo : Option Addr) (T : List Nat) (g : List PyData → PSt → Option PSt) : TGs := fun vs σ H Q => ∃ F ps ds ps', SR K Bo F H σ ps ∧ DpAll K F vs ds ∧ g ds ps = some ps' ∧ ∀ σ', Only T σ σ' → Step F H σ ps F H σ' ps' → SR K Bo F H σ' ps' → Q σ' H
def GGs (X : Cx) (Bo : Option Addr) (ts : List Expr) (T : List Nat) (g : List PyData → PSt → Option PSt) : Prop := PGs X ts (tGs X.K Bo T g)
def uN (i : Nat) : PyData → PSt → Option PSt := fun d ps => some (ps.set i (some (.val d)))
def uNil : List PyData → PSt → Option PSt := fun ds ps => match ds with
  | [] => some ps
  | _ => none
def uCons (g : PyData → PSt → Option PSt) (gs : List PyData → PSt → Option PSt) : List PyData → PSt → Option PSt := fun ds ps => match ds with
  | d :: ds => (g d ps).bind (gs ds)
  | [] => none
def uTup (n : Nat) (gs : List PyData → PSt → Option PSt) : PyData → PSt → Option PSt := fun d ps => match d with
  | .tuple ds => if ds.length = n then gs ds ps else none
  | .list ds => if ds.length = n then gs ds ps else none
  | _ => none
variable {tg : Expr} {tgs : List Expr} {u : PyData → PSt → Option PSt} {us : List PyData → PSt → Option PSt} {T T1 T2 : List Nat}
theorem _root_.L2.PG.imp {X : Cx} {e : Expr} {t t' : TG} (h : PG X e t) (i : ∀ v σ H Q, t' v σ H Q → t v σ H Q) : PG X e t' := ⟨fun pins s σ H v u Q I r q => h.run pins s σ H v u Q I r (i _ _ _ _ q)⟩
theorem _root_.L2.PGs.imp {X : Cx} {e : List Expr} {t t' : TGs} (h : PGs X e t) (i : ∀ v σ H Q, t' v σ H Q → t v σ H Q) : PGs X e t' := ⟨fun pins s σ H v u Q I r q => h.run pins s σ H v u Q I r (i _ _ _ _ q)⟩
theorem gg_name (i : Nat) {x : Str} (hN : X.N.Nodup) (hb : Bo = none ∨ i ≠ 0 := by first | exact .inl rfl | exact .inr (by decide)) (hi : X.N[i]? = some x := by rfl) (hx : Loc X.env.scope x := by first | exact .inl rfl | exact .inr rfl)
    (hf : X.fn x = true ∨ X.env.scope.names.lookup x = some .local := by first | exact .inl rfl | exact .inr rfl) : GG X Bo (.Name x pos) [i] (uN i) := by
  refine (pg_name hN hi hx hf).imp fun v σ H Q ⟨F, ps, d, ps', sr, hd, e, q⟩ => ?_
  cases e
  exact q _ ⟨by simp, fun j hj => List.getElem?_set_ne fun z => hj (by simp [z])⟩ .setV (sr.setV hb hd)
theorem ggs_nil : GGs X Bo [] [] uNil := by
  refine pgs_nil.imp fun vs σ H Q ⟨F, ps, ds, ps', sr, hd, e, q⟩ => ?_
  cases hd with
  | nil => cases e; exact ⟨rfl, q σ ⟨rfl, fun _ _ => rfl⟩ .refl sr⟩
  | cons _ _ => cases e
theorem ggs_cons (h : GG X Bo tg T1 u) (t : GGs X Bo tgs T2 us) (hs : (assignEach (tg :: tgs) X.env).map (·.2) = assign tg X.env :: (assignEach tgs X.env).map (·.2) := by rfl) : GGs X Bo (tg :: tgs) (T1 ++ T2) (uCons u us) := by
  refine (pgs_cons h t hs).imp fun vs σ H Q ⟨F, ps, ds, ps', sr, hd, e, q⟩ => ?_
  cases hd with
  | nil => cases e
  | @cons v vs d ds h1 h2 =>
    have e : (u d ps).bind (us ds) = some ps' := e
    cases e1 : u d ps with
    | none => rw [e1] at e; cases e
    | some ps1 =>
      rw [e1] at e
      refine ⟨v, vs, rfl, F, ps, d, ps1, sr, h1, e1, fun σ1 on st s1 => ?_⟩
      exact ⟨F, ps1, ds, ps', s1, h2, e, fun σ2 on2 st2 s2 => q σ2 ⟨on2.1.trans on.1, fun i hi => (on2.2 i fun z => hi (List.mem_append_right _ z)).trans (on.2 i fun z => hi (List.mem_append_left _ z))⟩ (st.trans st2) s2⟩
theorem gg_tup {es : List Expr} {k : Nat} {n : Nat} (hc : X.calm = true) (h : GGs X Bo es T us) (hn : (assignEach es X.env).length = n := by rfl) (hst : (assignEach es X.env).findIdx? (·.1) = none := by rfl) : GG X Bo (.Tuple es k pos) T (uTup n us) := by
  refine ⟨fun pins s σ H v w Q I r q => ?_⟩
  obtain ⟨F, ps, d, ps', sr, hd, e, q⟩ := q
  match d, hd, e with
  | .tuple ds, hd, e =>
    cases hd with
    | @tup a xs _ hs ha =>
      have e : (if ds.length = n then us ds ps else none) = some ps' := e
      split at e
      · rename_i hl
        exact (pg_tup hc h hn hst).run pins s σ H _ w Q I r ⟨a, xs, rfl, same_sqt sr.le hs, by rw [ha.length, hl], F, ps, ds, ps', sr, ha, e, q⟩
      · cases e
  | .list ds, hd, e =>
    cases hd with
    | @lst a xs _ hs ha =>
      have e : (if ds.length = n then us ds ps else none) = some ps' := e
      split at e
      · rename_i hl
        exact (pg_lst hc h hn hst).run pins s σ H _ w Q I r ⟨a, xs, rfl, sr.le.seq hs, by rw [ha.length, hl], F, ps, ds, ps', sr, ha, e, q⟩
      · cases e
  | .none, _, e => cases e
  | .bool _, _, e => cases e
  | .int _, _, e => cases e
  | .str _, _, e => cases e
  | .dict _, _, e => cases e
/-- target = value -/
def fAsg (u : PyData → PSt → Option PSt) (f : PSt → Rs PyData) : PSt → Os := fun ps => (f ps).st fun d ps1 => match u d ps1 with
  | some ps2 => .nx ps2
  | none => .bad
theorem gs_asg (he : GV X Bo W e f) (hg : GG X Bo tg T u) (hs : swapsWithSole [tg] e pos.line X.env = pure false := by rfl) (hw : swappedStores [tg] e X.env = pure none := by rfl)
    (h1 : (assignEach [tg] X.env).map (·.2) = [assign tg X.env] := by rfl) : GS X Bo W (.Assign [tg] e pos) (fAsg u f) := by
  refine (ps_asg he hg hs hw h1).imp fun D σ H q => ?_
  refine tS_bind q fun v d F F1 H1 ps ps1 sr s1 st hv q => ?_
  cases e1 : u d ps1 with
  | none => rw [e1] at q; exact q.elim
  | some ps2 =>
    rw [e1] at q
    exact ⟨F1, ps1, d, ps2, s1, hv, e1, fun σ2 _ st2 s2 => q σ2 F1 H1 st2 s2⟩

/-! ### loops -/
/-- what is walked: ds, one after the other -/
structure ItOk (K : PySem.W.Frag) (J : It) (F : Hp) (ds : List PyData) : Prop where
  go : ∀ F1 H1 (i : Nat), Same F F1 → Same F1 H1 → i < ds.length → J.go i H1
  stop : ∀ F1 H1, Same F F1 → Same F1 H1 → J.stop ds.length H1
  yld : ∀ F1 H1 (i : Nat) d x H2, Same F F1 → Same F1 H1 → ds[i]? = some d → J.yld i H1 x H2 → ∃ F2, Gr F1 H1 F2 H2 ∧ Dp K F2 x d
def tI (K : PySem.W.Frag) (mg : Str → Option Value) (Bo : Option Addr) (W : WX) (f : PSt → Rs (List PyData)) : TI := fun σ H R => tR (β := It) K mg Bo W (fun _ _ _ _ F' _ _ J ds => ItOk K J F' ds) f σ H R
def GI (X : Cx) (Bo : Option Addr) (W : WX) (tg iter : Expr) (f : PSt → Rs (List PyData)) : Prop := PI X tg iter (tI X.K X.mg Bo W f)
theorem _root_.L2.PI.imp {X : Cx} {tg e : Expr} {t t' : TI} (h : PI X tg e t) (i : ∀ σ H R, t' σ H R → t σ H R) : PI X tg e t' := ⟨fun pins s σ H R I q => h.run pins s σ H R I (i _ _ _ q)⟩
def forL (u : PyData → PSt → Option PSt) (g : PSt → Os) : List PyData → PSt → Os
  | [], ps => .nx ps
  | d :: ds, ps => match u d ps with
    | none => .bad
    | some ps1 => match g ps1 with
      | .nx ps2 => forL u g ds ps2
      | .ct ps2 => forL u g ds ps2
      | .brk ps2 => .nx ps2
      | .ret p ps2 => .ret p ps2
      | .exc x ps2 => .exc x ps2
      | .bad => .bad
def fFor (fi : PSt → Rs (List PyData)) (u : PyData → PSt → Option PSt) (g : PSt → Os) : PSt → Os := fun ps => (fi ps).st fun ds ps1 => forL u g ds ps1
theorem gs_for {iter : Expr} {body : List Stmt} {fi : PSt → Rs (List PyData)} (hp : PassesOwn (model X.prog X.w) X.A X.env X.xe) (hc : X.calm = true) (hi : GI X Bo W tg iter fi) (hg : GG X Bo tg T u) (hb : GSs X Bo W body g)
    (hs : ∀ x, foldedSetIterable iter X.env x = pure x := by intro _; rfl) : GS X Bo W (.For tg iter body [] pos) (fFor fi u g) := by
  refine (ps_for hp hc hi hg hb hs).imp fun D σ H q => ?_
  refine tS_bind q fun J ds F F1 H1 ps ps1 sr s1 st hJ q => ?_
  have hJ : ItOk X.K J F1 ds := hJ
  refine ⟨fun i m σ' H' => m = ds.length - i ∧ i ≤ ds.length ∧ ∃ F' ps', Same F1 F' ∧ SR X.K Bo F' H' σ' ps' ∧ GoalS X.K X.mg Bo W (forL u g (ds.drop i) ps') F' H' σ' ps' D,
    ⟨ds.length, by simp, Nat.zero_le _, F1, ps1, .refl _, s1, by simpa using q⟩, ?_⟩
  rintro i m σ' H' ⟨rfl, hi, F', ps', gr, s', q'⟩
  by_cases hlt : i < ds.length
  · refine .inr ⟨hJ.go F' H' i gr s'.le hlt, fun σ2 H2 => ∃ F2 ps2, Same F1 F2 ∧ SR X.K Bo F2 H2 σ2 ps2 ∧ GoalS X.K X.mg Bo W (forL u g (ds.drop (i + 1)) ps2) F2 H2 σ2 ps2 D, fun σ2 H2 ⟨F2, ps2, a, b, c⟩ => ⟨ds.length - (i + 1), by omega, rfl, hlt, F2, ps2, a, b, c⟩, fun x H2 y => ?_⟩
    obtain ⟨F2, gr2, hx⟩ := hJ.yld F' H' i ds[i] x H2 gr s'.le (by simp [hlt]) y
    rw [List.drop_eq_getElem_cons hlt] at q'
    have s2 := s'.gr gr2
    have q2 := GoalS.rebase q' (Step.of_gr gr2)
    unfold forL at q2
    cases e1 : u ds[i] ps' with
    | none => rw [e1] at q2; exact q2.elim
    | some ps3 =>
      rw [e1] at q2
      dsimp only at q2
      refine ⟨F2, ps', ds[i], ps3, s2, hx, e1, fun σ3 _ st3 s3 => ⟨F2, ps3, s3, ?_⟩⟩
      have q3 := GoalS.rebase q2 st3
      have g2 : Same F1 F2 := gr.trans gr2.grow
      cases e2 : g ps3 with
      | nx ps4 =>
        rw [e2] at q3
        exact fun σ4 F4 H4 st4 s4 => ⟨F4, ps4, g2.trans st4.grow, s4, GoalS.rebase q3 st4⟩
      | ct ps4 =>
        rw [e2] at q3
        exact fun σ4 F4 H4 st4 s4 => ⟨F4, ps4, g2.trans st4.grow, s4, GoalS.rebase q3 st4⟩
      | brk ps4 => rw [e2] at q3; exact q3
      | ret p ps4 => rw [e2] at q3; exact q3
      | exc x ps4 => rw [e2] at q3; exact q3
      | bad => rw [e2] at q3; exact q3
  · have e : i = ds.length := by omega
    subst e
    rw [List.drop_length] at q'
    exact .inl ⟨hJ.stop F' H' gr s'.le, q' σ' F' H' .refl s'⟩

def whileN (c : PSt → Rs Bool) (g : PSt → Os) : Nat → PSt → Os
  | 0, _ => .bad
  | n + 1, ps => (c ps).st fun b ps1 => if b = true then (match g ps1 with
      | .nx ps2 => whileN c g n ps2
      | .ct ps2 => whileN c g n ps2
      | .brk ps2 => .nx ps2
      | .ret p ps2 => .ret p ps2
      | .exc x ps2 => .exc x ps2
      | .bad => .bad) else .nx ps1
theorem whileN_more {c : PSt → Rs Bool} {g : PSt → Os} : ∀ {n : Nat} {ps : PSt}, whileN c g n ps ≠ .bad → whileN c g (n + 1) ps = whileN c g n ps
  | 0, ps, h => absurd rfl h
  | n + 1, ps, h => by
    unfold whileN
    unfold whileN at h
    cases e : c ps with
    | bad => rfl
    | exc x p => rfl
    | ok b ps1 =>
      rw [e] at h
      simp only [Rs.st] at h ⊢
      cases b with
      | false => rfl
      | true =>
        simp only [if_true] at h ⊢
        cases e2 : g ps1 with
        | nx ps2 => rw [e2] at h; exact whileN_more h
        | ct ps2 => rw [e2] at h; exact whileN_more h
        | brk ps2 => rfl
        | ret p ps2 => rfl
        | exc x ps2 => rfl
        | bad => rfl
theorem whileN_le {c : PSt → Rs Bool} {g : PSt → Os} {n m : Nat} {ps : PSt} (h : whileN c g n ps ≠ .bad) (hm : n ≤ m) : whileN c g m ps = whileN c g n ps := by
  induction m with
  | zero => have : n = 0 := by omega
            rw [this]
  | succ m ih =>
    by_cases e : n = m + 1
    · rw [e]
    · have h2 := ih (by omega)
      rw [whileN_more (by rw [h2]; exact h), h2]
open Classical in
/-- a while loop: as often as it takes -/
noncomputable def fWhile (c : PSt → Rs Bool) (g : PSt → Os) : PSt → Os := fun ps => if h : ∃ n, whileN c g n ps ≠ .bad then whileN c g h.choose ps else .bad
theorem fWhile_of {c : PSt → Rs Bool} {g : PSt → Os} {n : Nat} {ps : PSt} {o : Os} (e : whileN c g n ps = o) (h : o ≠ .bad) : fWhile c g ps = o := by
  have hx : ∃ n, whileN c g n ps ≠ .bad := ⟨n, by rw [e]; exact h⟩
  unfold fWhile
  rw [dif_pos hx]
  have h1 := hx.choose_spec
  by_cases l : hx.choose ≤ n
  · rw [← e]; exact (whileN_le h1 l).symm
  · rw [← e]; exact whileN_le (by rw [e]; exact h) (by omega)
theorem fWhile_ex {c : PSt → Rs Bool} {g : PSt → Os} {ps : PSt} (h : fWhile c g ps ≠ .bad) : ∃ n, whileN c g n ps = fWhile c g ps := by
  unfold fWhile at h ⊢
  split at h
  · rename_i hx
    exact ⟨hx.choose, by rw [dif_pos hx]⟩
  · exact absurd rfl h
/-- one turn at a time -/
theorem fWhile_eq (c : PSt → Rs Bool) (g : PSt → Os) (ps : PSt) : fWhile c g ps = (c ps).st fun b ps1 => if b = true then (match g ps1 with
      | .nx ps2 => fWhile c g ps2
      | .ct ps2 => fWhile c g ps2
      | .brk ps2 => .nx ps2
      | .ret p ps2 => .ret p ps2
      | .exc x ps2 => .exc x ps2
      | .bad => .bad) else .nx ps1 := by
  by_cases h : fWhile c g ps = .bad
  · -- no number of turns is enough
    have no : ∀ n, whileN c g n ps = .bad := fun n => by
      by_cases q : whileN c g n ps = .bad
      · exact q
      · exact absurd ((fWhile_of rfl q).symm.trans h) q
    rw [h]
    have n1 := no 1
    unfold whileN at n1
    cases e : c ps with
    | bad => rfl
    | exc x p => rw [e] at n1; cases n1
    | ok b ps1 =>
      rw [e] at n1
      simp only [Rs.st] at n1 ⊢
      cases b with
      | false => simp at n1
      | true =>
        simp only [if_true] at n1 ⊢
        have step : ∀ n, whileN c g (n + 1) ps = .bad := fun n => no (n + 1)
        cases e2 : g ps1 with
        | nx ps2 =>
          by_cases q : fWhile c g ps2 = .bad
          · exact q.symm
          · obtain ⟨n, hn⟩ := fWhile_ex q
            have s := step n
            unfold whileN at s
            rw [e] at s
            simp only [Rs.st, if_true, e2] at s
            exact absurd (hn.symm.trans s) q
        | ct ps2 =>
          by_cases q : fWhile c g ps2 = .bad
          · exact q.symm
          · obtain ⟨n, hn⟩ := fWhile_ex q
            have s := step n
            unfold whileN at s
            rw [e] at s
            simp only [Rs.st, if_true, e2] at s
            exact absurd (hn.symm.trans s) q
        | brk ps2 => rw [e2] at n1; cases n1
        | ret p ps2 => rw [e2] at n1; cases n1
        | exc x ps2 => rw [e2] at n1; cases n1
        | bad => rfl
  · obtain ⟨n, hn⟩ := fWhile_ex h
    cases n with
    | zero => exact absurd hn.symm h
    | succ n =>
      rw [← hn]
      rw [← hn] at h
      unfold whileN at h ⊢
      cases e : c ps with
      | bad => rfl
      | exc x p => rfl
      | ok b ps1 =>
        rw [e] at h
        simp only [Rs.st] at h ⊢
        cases b with
        | false => rfl
        | true =>
          simp only [if_true] at h ⊢
          cases e2 : g ps1 with
          | nx ps2 => rw [e2] at h; exact (fWhile_of rfl h).symm
          | ct ps2 => rw [e2] at h; exact (fWhile_of rfl h).symm
          | brk ps2 => rfl
          | ret p ps2 => rfl
          | exc x ps2 => rfl
          | bad => rfl
theorem gs_while {e : Expr} {body : List Stmt} (hp : PassesOwn (model X.prog X.w) X.A X.env X.xe) (hc : GT X Bo W e c) (hb : GSs X Bo W body g) : GS X Bo W (.While e body [] pos) (fWhile c g) := by
  refine (ps_while hp hc hb).imp fun D σ H ⟨F, ps, sr, q⟩ => ?_
  have nb : fWhile c g ps ≠ .bad := fun z => by rw [z] at q; exact q
  obtain ⟨n, hn⟩ := fWhile_ex nb
  rw [← hn] at q
  refine ⟨fun m σ' H' => ∃ F' ps', SR X.K Bo F' H' σ' ps' ∧ GoalS X.K X.mg Bo W (whileN c g m ps') F' H' σ' ps' D, ⟨n, F, ps, sr, q⟩, ?_⟩
  rintro m σ' H' ⟨F', ps', s', q'⟩
  cases m with
  | zero => exact q'.elim
  | succ m =>
    refine gos_bind (R1 := RB) s' q' fun b b' F1 H1 ps1 s1 st1 hb q1 => ?_
    subst hb
    cases b with
    | false => exact q1 σ' F1 H1 .refl s1
    | true =>
      refine ⟨fun σ2 H2 => ∃ F2 ps2, SR X.K Bo F2 H2 σ2 ps2 ∧ GoalS X.K X.mg Bo W (whileN c g m ps2) F2 H2 σ2 ps2 D, fun σ2 H2 z => ⟨m, Nat.lt_succ_self _, z⟩, F1, ps1, s1, ?_⟩
      simp only [if_true] at q1
      cases e2 : g ps1 with
      | nx ps4 =>
        rw [e2] at q1
        exact fun σ4 F4 H4 st4 s4 => ⟨F4, ps4, s4, GoalS.rebase q1 st4⟩
      | ct ps4 =>
        rw [e2] at q1
        exact fun σ4 F4 H4 st4 s4 => ⟨F4, ps4, s4, GoalS.rebase q1 st4⟩
      | brk ps4 => rw [e2] at q1; exact q1
      | ret p ps4 => rw [e2] at q1; exact q1
      | exc x ps4 => rw [e2] at q1; exact q1
      | bad => rw [e2] at q1; exact q1
end
end GL

/-! GLd: defs, calls, raise, try, comprehensions -/
namespace GL
open PySem PySem.Spec L2
open PyProof.Rows hiding St

inductive FR where
  | ok (p : PV) | exc (x : Exn) | bad
def Os.fin : Os → FR
  | .nx _ => .ok (.val .none)
  | .ret p _ => .ok p
  | .exc x _ => .exc x
  | _ => .bad
def RF0 (K : PySem.W.Frag) (F' H H' : Hp) (v : V) : PV → Prop
  | .val d => Dp K F' v d
  | .own d => ∃ a, v = .ref a ∧ OwnAt K F' H' a d ∧ H a = none
def FGoal (K : PySem.W.Frag) (mg : Str → Option Value) (r : FR) (F H : Hp) (Q : VK) (E : XK) : Prop := match r with
  | .ok p => ∀ v F' H', Gr F H F' H' → RF0 K F' H H' v p → Q v H'
  | .exc x => ∀ cls dd F' H', Gr F H F' H' → ExR K mg x cls dd F' H' → E cls dd H'
  | .bad => False
/-- what a def promises that changes none of its arguments -/
def spP (K : PySem.W.Frag) (mg : Str → Option Value) (n : Nat) (M : List PyData → FR) : Sp := fun vs H Q E => vs.length = n ∧ ∃ F ds, Same F H ∧ DpAll K F vs ds ∧ FGoal K mg (M ds) F H Q E
structure GFn (P : Program) (w : World) (K : PySem.W.Frag) (mg : Str → Option Value) (base : Heap) (x : Str) (k n : Nat) (M : List PyData → FR) : Prop where
  ex : ∃ f fd ps, FnOk P w K mg base (L2.CX P w) k f fd ps (spP K mg n M) ∧ mg x = some (.ref f) ∧ PySem.W.keepIn K (.ref f) = true ∧ Binds K fd ps []
/-- the same with an argument that it changes, the first one: a list that its caller holds -/
inductive FRU where
  | ok (p : PV) (u : List PyData) | exc (x : Exn) (u : List PyData) | bad
structure GrB (a : Addr) (F H F' H' : Hp) : Prop where
  grow : Same F F'
  fresh : ∀ b o, F' b = some o → F b = some o ∨ H b = none
  keep : ∀ b o, b ≠ a → H b = some o → H' b = some o
  le : Same F' H'
def FGoalU (K : PySem.W.Frag) (mg : Str → Option Value) (r : FRU) (a : Addr) (F H : Hp) (Q : VK) (E : XK) : Prop := match r with
  | .ok p u => ∀ v F' H' us, GrB a F H F' H' → H' a = some (.lst us) → DpAll K F' us u → RF0 K F' H H' v p → Q v H'
  | .exc x u => ∀ cls dd F' H' us, GrB a F H F' H' → H' a = some (.lst us) → DpAll K F' us u → ExR K mg x cls dd F' H' → E cls dd H'
  | .bad => False
def spU (K : PySem.W.Frag) (mg : Str → Option Value) (n : Nat) (M : List PyData → List PyData → FRU) : Sp := fun vs H Q E => vs.length = n + 1 ∧ ∃ a us vs' F u ds, vs = .ref a :: vs' ∧ H a = some (.lst us) ∧ F a = none ∧ Same F H ∧ DpAll K F us u ∧ DpAll K F vs' ds ∧ FGoalU K mg (M u ds) a F H Q E
structure GFu (P : Program) (w : World) (K : PySem.W.Frag) (mg : Str → Option Value) (base : Heap) (x : Str) (k n : Nat) (M : List PyData → List PyData → FRU) : Prop where
  ex : ∃ f fd ps, FnOk P w K mg base (L2.CX P w) k f fd ps (spU K mg n M) ∧ mg x = some (.ref f) ∧ PySem.W.keepIn K (.ref f) = true ∧ Binds K fd ps []

/-- a function that says at most as much -/
def FR.le (r s : FR) : Prop := r = .bad ∨ r = s
def FRU.le (r s : FRU) : Prop := r = .bad ∨ r = s
section
variable {P : Program} {w : World} {K : PySem.W.Frag} {mg : Str → Option Value} {base : Heap} {x : Str} {k j n : Nat}
theorem GFn.mono {M M' : List PyData → FR} (G : GFn P w K mg base x k n M) (hk : k ≤ j) (h : ∀ ds, (M' ds).le (M ds)) : GFn P w K mg base x j n M' := by
  obtain ⟨f, fd, ps, h1, h2⟩ := G.ex
  refine ⟨f, fd, ps, (h1.mono hk).imp fun vs H Q E ⟨hl, F, ds, a, b, q⟩ => ⟨hl, F, ds, a, b, ?_⟩, h2⟩
  rcases h ds with e | e
  · rw [e] at q; exact q.elim
  · rw [← e]; exact q
theorem GFu.mono {M M' : List PyData → List PyData → FRU} (G : GFu P w K mg base x k n M) (hk : k ≤ j) (h : ∀ u ds, (M' u ds).le (M u ds)) : GFu P w K mg base x j n M' := by
  obtain ⟨f, fd, ps, h1, h2⟩ := G.ex
  refine ⟨f, fd, ps, (h1.mono hk).imp fun vs H Q E ⟨hl, a, us, vs', F, u, ds, z1, z2, z3, z4, z5, z6, q⟩ => ⟨hl, a, us, vs', F, u, ds, z1, z2, z3, z4, z5, z6, ?_⟩, h2⟩
  rcases h u ds with e | e
  · rw [e] at q; exact q.elim
  · rw [← e]; exact q
/-- nothing is claimed -/
theorem GFn.zero {f : Addr} {fd : FuncData} {ps : List Str} (hl : ps.length = n) (hm : mg x = some (.ref f)) (hk : PySem.W.keepIn K (.ref f) = true) (hb : Binds K fd ps []) : GFn P w K mg base x k n fun _ => .bad :=
  ⟨f, fd, ps, ⟨fun vs H Q E q => q.1.trans hl.symm, fun _ _ _ _ _ _ _ _ _ _ _ _ _ q => by obtain ⟨_, _, _, _, _, q⟩ := q; exact q.elim⟩, hm, hk, hb⟩
end

/-! ### a def's body -/
def startP (n : Nat) (ds : List PyData) : PSt := ds.map (fun d => some (.val d)) ++ List.replicate (n - ds.length) none
theorem start_get {N : List Str} {vs : List V} {i : Nat} : (L2.start N vs)[i]? = if i < vs.length then (vs[i]?).map some else if i < vs.length + (N.length - vs.length) then some none else none := by
  unfold L2.start
  by_cases h : i < vs.length
  · rw [if_pos h, List.getElem?_append_left (by simpa using h), List.getElem?_map]
  · rw [if_neg h, List.getElem?_append_right (by simpa using h), List.getElem?_replicate]
    simp only [List.length_map]
    by_cases h2 : i < vs.length + (N.length - vs.length)
    · rw [if_pos h2, if_pos (by omega)]
    · rw [if_neg h2, if_neg (by omega)]
theorem startP_get {n : Nat} {ds : List PyData} {i : Nat} : (startP n ds)[i]? = if i < ds.length then (ds[i]?).map (fun d => some (.val d)) else if i < ds.length + (n - ds.length) then some none else none := by
  unfold startP
  by_cases h : i < ds.length
  · rw [if_pos h, List.getElem?_append_left (by simpa using h), List.getElem?_map]
  · rw [if_neg h, List.getElem?_append_right (by simpa using h), List.getElem?_replicate]
    simp only [List.length_map]
    by_cases h2 : i < ds.length + (n - ds.length)
    · rw [if_pos h2, if_pos (by omega)]
    · rw [if_neg h2, if_neg (by omega)]
theorem startP_noown {n : Nat} {ds : List PyData} {i : Nat} {d : PyData} : (startP n ds)[i]? ≠ some (some (.own d)) := fun e => by
  rw [startP_get] at e
  split at e
  · cases q : ds[i]? with
    | none => rw [q] at e; cases e
    | some z => rw [q] at e; cases e
  · split at e <;> cases e
theorem sr_start {K : PySem.W.Frag} {F H : Hp} {N : List Str} {vs : List V} {ds : List PyData} (h : Same F H) (hd : DpAll K F vs ds) (hl : vs.length ≤ N.length) : SR K none F H (L2.start N vs) (startP N.length ds) := by
  have hn : vs.length = ds.length := hd.length
  refine ⟨h, ?_, fun i x p e1 e2 => ?_, fun i j a d e h1 => (startP_noown h1).elim, fun a e => by cases e⟩
  · unfold startP L2.start; simp; omega
  · rw [start_get] at e1
    rw [startP_get] at e2
    by_cases hi : i < vs.length
    · rw [if_pos hi] at e1
      rw [if_pos (by omega)] at e2
      cases q : ds[i]? with
      | none => rw [q] at e2; cases e2
      | some d =>
        obtain ⟨v, h1, h2⟩ := hd.get q
        rw [h1] at e1
        rw [q] at e2
        cases e1; cases e2
        exact ⟨v, rfl, h2⟩
    · rw [if_neg (by omega)] at e2
      split at e2
      · cases e2; trivial
      · cases e2
theorem start_unowned {σ : St} {n : Nat} {ds : List PyData} {b : Addr} : ¬ Owned σ (startP n ds) b := fun ⟨_, _, h, _⟩ => startP_noown h
section
variable {P : Program} {w : World} {K : PySem.W.Frag} {mg : Str → Option Value} {base : Heap}
theorem Step.gr {F H F' H' : Hp} {σ σ' : St} {ps ps' : PSt} (st : Step F H σ ps F' H' σ' ps') (no : ∀ b, ¬ Owned σ ps b) (le : Same F' H') : Gr F H F' H' :=
  ⟨st.grow, fun b o e => (st.fresh b o e).elim .inl fun z => z.elim .inr fun z => (no b z).elim, fun b o e => st.keep b o e (no b), le⟩
/-- THE RULE for a def: its body as a function of pure states -/
theorem fn_body {x qual : Str} {st : Stmt} {f : Addr} {fd : FuncData} {N ps : List Str} {k n : Nat} {g : PSt → Os} (Fn : FunD K x qual (defArgs st) (defBody st) (defScope st) [] [] f fd) (S : FnScope N ps (defScope st)) (hn : ps.length = n)
    (hbody : ∀ (cdv : Value) (A : Around) (outer : List Env) (s : Shared) (H : Hp) (E : XK), Room k (A.deeper (envOfC qual (defScope st) s.heap.objs.size f cdv)) →
      GSs (cxOf (L2.CX P w) P w K mg base N qual (defScope st) f cdv A outer s H E) none (fun cls d _ H => E cls d H) (defBody st) g) : FnOk P w K mg base (L2.CX P w) (k + 1) f fd ps (spP K mg n (fun ds => (g (startP N.length ds)).fin)) := by
  refine Fn.ok S (fun vs H Q E q => q.1.trans hn.symm) fun cdv A outer s H vs Q E hr q => ⟨_, hbody cdv A outer s H E hr, ?_⟩
  obtain ⟨hl, F, ds, hs, hd, q⟩ := q
  dsimp only at q
  have hpl : ps.length ≤ N.length := by have := congrArg List.length S.pre; rw [List.length_take] at this; omega
  refine ⟨F, startP N.length ds, sr_start hs hd (by omega), ?_⟩
  show GoalS K mg none (fun cls d _ H => E cls d H) (g (startP N.length ds)) F H _ _ _
  cases e : g (startP N.length ds) with
  | nx ps' =>
    rw [e] at q
    exact fun σ' F' H' st s1 => q .non F' H' (st.gr (fun _ => start_unowned) s1.le) .non
  | ret p ps' =>
    rw [e] at q
    refine fun v σ' F' H' st s1 r => q v F' H' (st.gr (fun _ => start_unowned) s1.le) ?_
    match p, r with
    | .val d, r => exact r
    | .own d, r =>
      obtain ⟨a, h1, h2, _, h3⟩ := r
      exact ⟨a, h1, h2, h3.resolve_left start_unowned⟩
  | exc x ps' =>
    rw [e] at q
    exact fun cls dd σ' F' H' st s1 r => q cls dd F' H' (st.gr (fun _ => start_unowned) s1.le) r
  | brk ps' => rw [e] at q; exact q.elim
  | ct ps' => rw [e] at q; exact q.elim
  | bad => rw [e] at q; exact q.elim

theorem GFn.of_body {x qual : Str} {st : Stmt} {f : Addr} {fd : FuncData} {N ps : List Str} {k n : Nat} {g : PSt → Os} (Fn : FunD K x qual (defArgs st) (defBody st) (defScope st) [] [] f fd) (hm : mg x = some (.ref f)) (hb : Binds K fd ps []) (S : FnScope N ps (defScope st)) (hn : ps.length = n)
    (hbody : ∀ (cdv : Value) (A : Around) (outer : List Env) (s : Shared) (H : Hp) (E : XK), Room k (A.deeper (envOfC qual (defScope st) s.heap.objs.size f cdv)) →
      GSs (cxOf (L2.CX P w) P w K mg base N qual (defScope st) f cdv A outer s H E) none (fun cls d _ H => E cls d H) (defBody st) g) : GFn P w K mg base x (k + 1) n (fun ds => (g (startP N.length ds)).fin) :=
  ⟨f, fd, ps, fn_body Fn S hn hbody, hm, Fn.kp, hb⟩

/-- the start with a lent list -/
def startU (n : Nat) (u ds : List PyData) : PSt := some (.own (.list u)) :: startP (n - 1) ds
def uAt (ps : PSt) : List PyData := match ps[0]? with
  | some (some (PV.own (PyData.list u))) => u
  | _ => []
def Os.finU : Os → FRU
  | .nx ps => .ok (.val .none) (uAt ps)
  | .ret p ps => .ok p (uAt ps)
  | .exc x ps => .exc x (uAt ps)
  | _ => .bad
theorem uAt_of {Bo : Option Addr} {F H : Hp} {σ : St} {ps : PSt} {a : Addr} (s : SR K Bo F H σ ps) (hb : Bo = some a) : F a = none ∧ ∃ us, H a = some (.lst us) ∧ DpAll K F us (uAt ps) := by
  obtain ⟨h1, d, h2⟩ := s.bo a hb
  obtain ⟨b, h3, h4, xs, ds, e, h5, h6⟩ := s.own h2
  rw [h1] at h3; cases h3
  subst e
  refine ⟨h4, xs, h5, ?_⟩
  unfold uAt
  rw [h2]
  exact h6
theorem startU_own {σ : St} {n : Nat} {u ds : List PyData} {a b : Addr} (e : σ[0]? = some (some (.ref a))) (h : Owned σ (startU n u ds) b) : b = a := by
  obtain ⟨i, d, h1, h2⟩ := h
  cases i with
  | zero => rw [e] at h2; cases h2; rfl
  | succ i =>
    unfold startU at h1
    rw [List.getElem?_cons_succ] at h1
    exact (startP_noown h1).elim
theorem GFu.of_body {x qual : Str} {st : Stmt} {f : Addr} {fd : FuncData} {N ps : List Str} {k n : Nat} {g : PSt → Os} (Fn : FunD K x qual (defArgs st) (defBody st) (defScope st) [] [] f fd) (hm : mg x = some (.ref f)) (hb : Binds K fd ps []) (S : FnScope N ps (defScope st)) (hn : ps.length = n + 1)
    (hbody : ∀ (cdv : Value) (A : Around) (outer : List Env) (s : Shared) (H : Hp) (E : XK) (a : Addr), Room k (A.deeper (envOfC qual (defScope st) s.heap.objs.size f cdv)) →
      GSs (cxOf (L2.CX P w) P w K mg base N qual (defScope st) f cdv A outer s H E) (some a) (fun cls d _ H => E cls d H) (defBody st) g) : GFu P w K mg base x (k + 1) n (fun u ds => (g (startU N.length u ds)).finU) := by
  refine ⟨f, fd, ps, ?_, hm, Fn.kp, hb⟩
  refine Fn.ok S (fun vs H Q E q => q.1.trans hn.symm) fun cdv A outer s H vs Q E hr q => ?_
  obtain ⟨hl, a, us, vs', F, u, ds, rfl, ha, hF, hs, hu, hd, q⟩ := q
  dsimp only at q
  refine ⟨_, hbody cdv A outer s H E a hr, ?_⟩
  have hpl : ps.length ≤ N.length := by have := congrArg List.length S.pre; rw [List.length_take] at this; omega
  have hvl : vs'.length = n := by simpa using hl
  have s0 : (L2.start N (.ref a :: vs'))[0]? = some (some (.ref a)) := by unfold L2.start; simp
  have est : start N (.ref a :: vs') = some (.ref a) :: L2.start (N.drop 1) vs' := by
    unfold L2.start
    simp only [List.map_cons, List.cons_append, List.length_cons, List.length_drop]
    congr 3
    omega
  have sr : SR K (some a) F H (L2.start N (.ref a :: vs')) (startU N.length u ds) := by
    have sp : SR K none F H (start (N.drop 1) vs') (startP (N.drop 1).length ds) := sr_start hs hd (by rw [List.length_drop]; omega)
    rw [List.length_drop] at sp
    rw [est]
    refine ⟨hs, by unfold startU; simp only [List.length_cons]; rw [sp.len], fun i z p e1 e2 => ?_, fun i j b d e h1 h2 h3 h4 => ?_, fun c e => ?_⟩
    · cases i with
      | zero =>
        simp only [startU, List.getElem?_cons_zero] at e1 e2
        cases e1; cases e2
        exact ⟨a, rfl, hF, us, u, rfl, ha, hu⟩
      | succ i =>
        unfold startU at e2
        rw [List.getElem?_cons_succ] at e1 e2
        exact sp.sl i z p e1 e2
    · have z : ∀ {i : Nat} {d : PyData}, (startU N.length u ds)[i]? = some (some (.own d)) → i = 0 := fun {i d} q => by
        cases i with
        | zero => rfl
        | succ i =>
          unfold startU at q
          rw [List.getElem?_cons_succ] at q
          exact (startP_noown q).elim
      rw [z h1, z h2]
    · cases e
      exact ⟨by simp, .list u, by simp [startU]⟩
  refine ⟨F, startU N.length u ds, sr, ?_⟩
  have own : ∀ b, Owned (L2.start N (.ref a :: vs')) (startU N.length u ds) b → b = a := fun b h => startU_own s0 h
  have grb : ∀ {F' H' : Hp} {σ' : St} {ps' : PSt}, Step F H (L2.start N (.ref a :: vs')) (startU N.length u ds) F' H' σ' ps' → SR K (some a) F' H' σ' ps' → GrB a F H F' H' := fun {F' H' σ' ps'} st s1 => by
    refine ⟨st.grow, fun b o e => ?_, fun b o ne e => st.keep b o e fun h => ne (own b h), s1.le⟩
    rcases st.fresh b o e with z | z | z
    · exact .inl z
    · exact .inr z
    · have := own b z
      subst this
      obtain ⟨n1, _⟩ := uAt_of s1 rfl
      rw [n1] at e; cases e
  show GoalS K mg (some a) (fun cls d _ H => E cls d H) (g (startU N.length u ds)) F H _ _ _
  cases e : g (startU N.length u ds) with
  | nx ps' =>
    rw [e] at q
    intro σ' F' H' st s1
    obtain ⟨n1, us', h1, h2⟩ := uAt_of s1 rfl
    exact q .non F' H' us' (grb st s1) h1 h2 .non
  | ret p ps' =>
    rw [e] at q
    intro v σ' F' H' st s1 r
    obtain ⟨n1, us', h1, h2⟩ := uAt_of s1 rfl
    refine q v F' H' us' (grb st s1) h1 h2 ?_
    match p, r with
    | .val d, r => exact r
    | .own d, r =>
      obtain ⟨b, z1, z2, zn, z3⟩ := r
      refine ⟨b, z1, z2, z3.resolve_left fun z => zn ?_⟩
      have := own b z
      subst this
      obtain ⟨r1, d', r2⟩ := s1.bo b rfl
      exact ⟨0, d', r2, r1⟩
  | exc x ps' =>
    rw [e] at q
    intro cls dd σ' F' H' st s1 r
    obtain ⟨n1, us', h1, h2⟩ := uAt_of s1 rfl
    exact q cls dd F' H' us' (grb st s1) h1 h2 r
  | brk ps' => rw [e] at q; exact q.elim
  | ct ps' => rw [e] at q; exact q.elim
  | bad => rw [e] at q; exact q.elim
end
end GL

/-! GLe: calls of defs, raise, try, comprehensions, sources of loops, lists changed in place -/
namespace GL
open PySem PySem.Spec L2
open PyProof.Rows hiding St

section
variable {X : Cx} {Bo : Option Addr} {W : WX} {e e1 e2 : Expr} {es : List Expr} {st : Stmt} {f f1 f2 : PSt → Rs PyData} {fa : PSt → Rs (List PyData)} {fo : PSt → Rs PV} {c : PSt → Rs Bool} {g g1 g2 : PSt → Os} {pos p : Pos} {x : Str} {k n : Nat}

/-! ### calls of defs -/
def FR.rs (r : FR) (ps : PSt) : Rs PV := match r with
  | .ok p => .ok p ps
  | .exc x => .exc x ps
  | .bad => .bad
def fCall (n : Nat) (M : List PyData → FR) (fa : PSt → Rs (List PyData)) : PSt → Rs PV := fun ps => (fa ps).bind fun ds ps1 => if ds.length = n then (M ds).rs ps1 else .bad
theorem call_end {K : PySem.W.Frag} {mg : Str → Option Value} {F H : Hp} {σ : St} {ps : PSt} {Q : VK} {r : FR} (sr : SR K Bo F H σ ps) (q : Goal K mg Bo W (RO K) (r.rs ps) F H σ ps Q) : FGoal K mg r F H Q (WE W σ) := by
  cases r with
  | ok p =>
    intro v F' H' gr h
    refine q v F' H' (.of_gr gr) (sr.gr gr) ?_
    match p, h with
    | .val d, h => exact h
    | .own d, h =>
      obtain ⟨a, h1, h2, h3⟩ := h
      refine ⟨a, h1, h2, ?_, .inr h3⟩
      rintro ⟨i, d', q1, q2⟩
      obtain ⟨b, q3, _, xs, ds, _, q4, _⟩ := sr.own q1
      rw [q2] at q3; cases q3
      rw [h3] at q4; cases q4
  | exc x => exact fun cls dd F' H' gr h => q cls dd F' H' (.of_gr gr) (sr.gr gr) h
  | bad => exact q.elim
theorem go_call {M : List PyData → FR} (G : GFn X.prog X.w X.K X.mg X.base x k n M) (hr : Room k X.A) (hg : Gl X x) (tk : Takes X W) (ha : GA X Bo W (e :: es) fa) (hdb : (x == ("__debug__" : Str)) = false := by decide)
    (he : starEach (e :: es) X.env = (false, eval e X.env) :: starEach es X.env := by rfl) (hpl : (backTo pos (starEach es X.env)).any (·.1) = false := by rfl) : GO X Bo W (.Call (.Name x p) (e :: es) [] pos) (fCall n M fa) := by
  obtain ⟨f, fd, ps, h1, h2, h3, h4⟩ := G.ex
  refine (pe_callS h1 hr hg h2 h3 h4 (fun σ => passAt tk σ) ha hdb he hpl).imp fun σ H Q q => ?_
  refine tR_bind RO.rb q fun vs ds F F1 H1 ps ps1 sr st hv q => ?_
  split at q
  · rename_i hl
    exact ⟨by rw [L2.DpAll.length hv, hl], F1, ds, sr.le, hv, call_end sr q⟩
  · exact q.elim
def isOwn (i : Nat) (ps : PSt) : Bool := match ps[i]? with
  | some (some (.own _)) => true
  | _ => false
theorem isOwn_at {i : Nat} {ps : PSt} (h : isOwn i ps = true) : ∃ d, ps[i]? = some (some (.own d)) := by
  unfold isOwn at h
  split at h
  · rename_i d e; exact ⟨d, e⟩
  · cases h
def fCallU (i n : Nat) (M : List PyData → List PyData → FRU) (fa : PSt → Rs (List PyData)) : PSt → Rs PV := fun ps => if isOwn i ps = false then .bad else (fa ps).bind fun ds ps1 => if ds.length = n then (match ps1[i]? with
    | some (some (.own (.list u))) => (match M u ds with
      | .ok p u' => .ok p (ps1.set i (some (.own (.list u'))))
      | .exc x u' => .exc x (ps1.set i (some (.own (.list u'))))
      | .bad => .bad)
    | _ => .bad) else .bad
theorem go_callU (i : Nat) {y : Str} {py : Pos} {M : List PyData → List PyData → FRU} (G : GFu X.prog X.w X.K X.mg X.base x k n M) (hr : Room k X.A) (hg : Gl X x) (tk : Takes X W) (ha : GA X Bo W es fa) (hN : X.N[i]? = some y := by rfl)
    (hv : Vis X.env.scope y := by first | exact Or.inl rfl | exact Or.inr (Or.inl rfl) | exact Or.inr (Or.inr rfl)) (hd : (y == ("__debug__" : Str)) = false := by decide) (hcd : (y == ("__classdict__" : Str)) = false := by decide) (hdb : (x == ("__debug__" : Str)) = false := by decide)
    (he : starEach (.Name y py :: es) X.env = (false, eval (.Name y py) X.env) :: starEach es X.env := by rfl) (hpl : (backTo pos (starEach es X.env)).any (·.1) = false := by rfl) : GO X Bo W (.Call (.Name x p) (.Name y py :: es) [] pos) (fCallU i n M fa) := by
  obtain ⟨f, fd, ps, h1, h2, h3, h4⟩ := G.ex
  refine (pe_callS h1 hr hg h2 h3 h4 (fun σ => passAt tk σ) (pa_cons (pe_var hN hv hd hcd) ha he) hdb he hpl).imp fun σ H Q q => ?_
  obtain ⟨F, ps, sr0, q⟩ := q
  unfold fCallU at q
  split at q
  · exact q.elim
  rename_i ho
  obtain ⟨d0, hd0⟩ := isOwn_at (by simpa using ho)
  obtain ⟨a0, ha0, _⟩ := sr0.own hd0
  -- the slot's address does not change
  have key : ∀ v, σ[i]? = some (some v) → tR X.K X.mg Bo W (RA X.K) fa σ H fun vs H1 => spU X.K X.mg n M (v :: vs) H1 Q (WE W σ) := fun v hi => by
    refine go_bind RO.rb sr0 q fun vs ds F1 H1 ps1 sr st hv q => ?_
    split at q
    · rename_i hl
      match e : ps1[i]?, q with
      | some (some (.own (.list u))), q =>
        obtain ⟨a, ha', hn, us, u', eu, hH, hus⟩ := sr.own e
        cases eu
        rw [hi] at ha'; cases ha'
        refine ⟨by simp [L2.DpAll.length hv, hl], a, us, vs, F1, u, ds, rfl, hH, hn, sr.le, hus, hv, ?_⟩
        have own : Owned σ ps1 a := ⟨i, _, e, hi⟩
        -- behind the call
        have back : ∀ {F' H' : Hp} {us' : List V} {u' : List PyData}, GrB a F1 H1 F' H' → H' a = some (.lst us') → DpAll X.K F' us' u' →
            SR X.K Bo F' H' σ (ps1.set i (some (.own (.list u')))) ∧ Step F1 H1 σ ps1 F' H' σ (ps1.set i (some (.own (.list u')))) := fun {F' H' us' u'} gb h1 h2 => by
          -- first the change, then the rest
          have hFa : F' a = none := by
            cases z : F' a with
            | none => rfl
            | some o =>
              rcases gb.fresh a o z with y | y
              · rw [hn] at y; cases y
              · rw [hH] at y; cases y
          have step1 : Step F1 H1 σ ps1 F' H' σ (ps1.set i (some (.own (.list u')))) := by
            refine ⟨gb.grow, fun b o z => (gb.fresh b o z).imp_right .inl, fun b o z no => gb.keep b o (fun w => by subst w; exact no own) z, fun b z => ?_⟩
            obtain ⟨j, d, q1, q2⟩ := z
            by_cases hj : i = j
            · subst hj; exact .inl ⟨i, _, e, q2⟩
            · rw [List.getElem?_set_ne hj] at q1; exact .inl ⟨j, d, q1, q2⟩
          refine ⟨⟨gb.le, by simp [sr.len], fun j z p e1 e2 => ?_, fun j l b d1 d2 z1 z2 z3 z4 => ?_, fun c z => ?_⟩, step1⟩
          · have hi' : i < ps1.length := (List.getElem?_eq_some_iff.mp e).1
            by_cases hj : i = j
            · subst hj
              rw [List.getElem?_set_self hi'] at e2; cases e2
              rw [hi] at e1; cases e1
              exact ⟨a, rfl, hFa, us', u', rfl, h1, h2⟩
            · rw [List.getElem?_set_ne hj] at e2
              have r := sr.sl j z p e1 e2
              match p, r with
              | none, _ => trivial
              | some (.val d), r =>
                obtain ⟨v, r1, r2⟩ := r
                exact ⟨v, r1, r2.mono gb.grow⟩
              | some (.own d), r =>
                obtain ⟨b, r1, rn, ys, es', r3, r4, r5⟩ := r
                have ne : b ≠ a := fun w => by
                  subst w; subst r1
                  exact hj (sr.apart i j b _ _ e e2 hi e1)
                refine ⟨b, r1, ?_, ys, es', r3, gb.keep b _ ne r4, r5.mono gb.grow⟩
                cases z : F' b with
                | none => rfl
                | some o =>
                  rcases gb.fresh b o z with y | y
                  · rw [rn] at y; cases y
                  · rw [r4] at y; cases y
          · have old : ∀ {j : Nat} {d : PyData}, (ps1.set i (some (.own (.list u'))))[j]? = some (some (.own d)) → ∃ d', ps1[j]? = some (some (.own d')) := fun {j d} q => by
              by_cases hj : i = j
              · subst hj; exact ⟨_, e⟩
              · rw [List.getElem?_set_ne hj] at q; exact ⟨_, q⟩
            obtain ⟨_, o1⟩ := old z1
            obtain ⟨_, o2⟩ := old z2
            exact sr.apart j l b _ _ o1 o2 z3 z4
          · obtain ⟨r1, d1, r2⟩ := sr.bo c z
            refine ⟨r1, ?_⟩
            by_cases hj : i = 0
            · subst hj; exact ⟨_, List.getElem?_set_self (List.getElem?_eq_some_iff.mp e).1⟩
            · exact ⟨d1, by rw [List.getElem?_set_ne hj]; exact r2⟩
        dsimp only at q
        cases eM : M u ds with
        | ok p u' =>
          rw [eM] at q
          intro v F' H' us' gb hu1 hu2 hr0
          obtain ⟨s2, st2⟩ := back gb hu1 hu2
          refine q v F' H' st2 s2 ?_
          match p, hr0 with
          | .val d, hr0 => exact hr0
          | .own d, hr0 =>
            obtain ⟨b, y1, y2, y3⟩ := hr0
            refine ⟨b, y1, y2, ?_, .inr y3⟩
            intro z
            rcases st2.own b z with y | y
            · obtain ⟨j, d', q1, q2⟩ := y
              obtain ⟨b', q3, _, xs, _, _, q4, _⟩ := sr.own q1
              rw [q2] at q3; cases q3
              rw [y3] at q4; cases q4
            · obtain ⟨j, d', q1, q2⟩ := z
              by_cases hj : i = j
              · subst hj
                rw [hi] at q2; cases q2
                rw [hH] at y; cases y
              · rw [List.getElem?_set_ne hj] at q1
                obtain ⟨b', q3, _, xs, _, _, q4, _⟩ := sr.own q1
                rw [q2] at q3; cases q3
                rw [y3] at q4; cases q4
        | exc x u' =>
          rw [eM] at q
          intro cls dd F' H' us' gb hu1 hu2 hx
          obtain ⟨s2, st2⟩ := back gb hu1 hu2
          exact q cls dd F' H' st2 s2 hx
        | bad => rw [eM] at q; exact q.elim
      | none, q => exact q.elim
      | some none, q => exact q.elim
      | some (some (.val _)), q => exact q.elim
      | some (some (.own .none)), q => exact q.elim
      | some (some (.own (.bool _))), q => exact q.elim
      | some (some (.own (.int _))), q => exact q.elim
      | some (some (.own (.str _))), q => exact q.elim
      | some (some (.own (.tuple _))), q => exact q.elim
      | some (some (.own (.dict _))), q => exact q.elim
    · exact q.elim
  exact ⟨_, ha0, key _ ha0⟩
end
end GL

/-! GLf: raise, try, comprehensions, sources of loops, lists changed in place -/
namespace GL
open PySem PySem.Spec L2
open PyProof.Rows hiding St

section
variable {X : Cx} {Bo : Option Addr} {W : WX} {e e1 e2 : Expr} {es : List Expr} {st : Stmt} {f f1 f2 : PSt → Rs PyData} {fa : PSt → Rs (List PyData)} {fo : PSt → Rs PV} {c : PSt → Rs Bool} {g g1 g2 : PSt → Os} {pos p : Pos} {x : Str} {k n : Nat}

/-! ### raise -/
/-- X(), X an own exception class without own __init__ -/
theorem pmk_own0 {C : Addr} {bmB : List Value} {B newId initId : String} {x : Str} {p pos : Pos} (F : ExcBaseFacts B newId initId bmB) (q : PySem.W.excIn X.K C bmB newId = true) (gC : X.mg x = some (.ref C))
    (kC : PySem.W.keepIn X.K (.ref C) = true) (r : Raises X (.ref C)) (hg : Gl X x) (hdb : (x == ("__debug__" : Str)) = false := by decide) :
    PMk X (.Call (.Name x p) [] [] pos) (fun _ H Q => Q (.ref C) none H) := by
  intro pins s σ H Q I h
  refine wpAny_Call_Name_kw (ld_glob I hg gC ?_ hdb)
  refine PySem.W.callWith_K0 I.kIn kC ?_
  show wpAny _ _ (call (.ref C) []) _ _ _
  obtain ⟨bm, N, nm, qn, bs, hdct, sn, sub, ab, col, dd, k0, k1, k2, k3, k5, mN, hC, hN, hni, T⟩ := exc_obj I.kIn q
  refine wpAny_call_exc_subT F T hC hN hni (fun h' e hm => ?_) (by show 0 ≤ sizeLine; exact Nat.zero_le _)
  exact mk_of I hm r h (I.hok.gone hm.new)
theorem gs_raise0 {C : Addr} (gC : X.mg x = some (.ref C)) (hc : X.calm = true) (tk : Takes X W) (hp : PMk X e (fun _ H Q => Q (.ref C) none H)) : GS X Bo W (.Raise (some e) none pos) (fun ps => .exc ⟨x, none⟩ ps) := by
  refine (ps_raise hc tk hp).imp fun D σ H ⟨F, ps, sr, q⟩ => ?_
  exact q (.ref C) none σ F H .refl sr ⟨C, gC, rfl, rfl⟩

/-! ### try .. except x: suite -/
def Os.nox : Os → Os
  | .exc _ _ => .bad
  | o => o
def fTry (L : List Str) (x : Str) (g h : PSt → Os) : PSt → Os := fun ps => match g ps with
  | .exc z ps1 => if z.cls = x then (h ps1).nox else if z.cls ∈ L then .exc z ps1 else .bad
  | .nx ps1 => .nx ps1
  | .ret p ps1 => .ret p ps1
  | .brk ps1 => .brk ps1
  | .ct ps1 => .ct ps1
  | .bad => .bad
theorem gs_try {L : List Str} {S : Addr} {body suite : List Stmt} {b₀ : Stmt} {np pos pos' : Pos} (hs : X.stack = X.env :: X.outer) (hf : X.env.frame = some X.env.locals) (hg : Gl X x) (hm : X.mg x = some (.ref S)) (tk : Takes X W)
    (hyes : PySem.W.exmOne X.K (.ref S) (.ref S) = some true) (hno : ∀ y ∈ L, y ≠ x → ∀ C, X.mg y = some (.ref C) → PySem.W.exmOne X.K (.ref C) (.ref S) = some false)
    (hb : ∀ (W : WX) (pn : List (Addr × Obj)) (xe : Value → Shared → Prop), Takes (X.tr pn xe) W → PassesOwn (model X.prog X.w) X.A X.env xe → GSs (X.tr pn xe) Bo W body g)
    (hsu : ∀ (a : Addr) (oe : Obj) (pn : List (Addr × Obj)), GSs (X.suite a ((a, oe) :: pn)) Bo (fun _ _ _ _ => False) (b₀ :: suite) g1) (hdb : (x == ("__debug__" : Str)) = false := by decide) :
    GS X Bo W (.Try body [.ExceptHandler (some (.Name x np)) none (b₀ :: suite) pos'] [] [] pos) (fTry L x g g1) := by
  refine (ps_try_only (c := .ref S) (Wout := W) (tb := fun W => tS X.K X.mg Bo W g) (ts := fun _ _ _ => tS X.K X.mg Bo (fun _ _ _ _ => False) g1) hs hf ⟨hg, hdb, .inl hm⟩ tk (fun W pn xe tk hp => hb W pn xe tk hp) (fun a oe cls d pn hz hx => hsu a oe pn)).imp fun D σ H ⟨F, ps, sr, q⟩ => ?_
  refine ⟨F, ps, sr, ?_⟩
  unfold fTry at q
  cases e : g ps with
  | exc z ps1 =>
    rw [e] at q
    dsimp only at q
    intro cls dd σ' F' H' st s1 hx
    obtain ⟨C, hC, rfl, hd⟩ := id hx
    by_cases hz : z.cls = x
    · rw [if_pos hz] at q
      rw [hz, hm] at hC
      cases hC
      refine ⟨true, hyes, fun _ a ha => ⟨F', ps1, s1, ?_⟩, fun w => nomatch w⟩
      have q2 := GoalS.rebase q st
      cases e2 : g1 ps1 with
      | exc z2 ps2 => rw [e2] at q2; exact q2.elim
      | nx ps2 => rw [e2] at q2; exact q2
      | ret p ps2 => rw [e2] at q2; exact q2
      | brk ps2 => rw [e2] at q2; exact q2
      | ct ps2 => rw [e2] at q2; exact q2
      | bad => rw [e2] at q2; exact q2
    · rw [if_neg hz] at q
      split at q
      · rename_i hL
        exact ⟨false, hno _ hL hz C hC, fun w => (nomatch w), fun _ => q (.ref C) dd σ' F' H' st s1 hx⟩
      · exact q.elim
  | nx ps2 => rw [e] at q; exact q
  | ret p ps2 => rw [e] at q; exact q
  | brk ps2 => rw [e] at q; exact q
  | ct ps2 => rw [e] at q; exact q
  | bad => rw [e] at q; exact q
end
end GL

/-! GLg: comprehensions, sources of loops, lists changed in place -/
namespace GL
open PySem PySem.Spec L2
open PyProof.Rows hiding St

/-! ### comprehensions -/
def wipeP (ps : PSt) : List Nat → PSt
  | [] => ps
  | v :: vs => (wipeP ps vs).set v none
theorem wipeP_length (ps : PSt) : ∀ vs : List Nat, (wipeP ps vs).length = ps.length
  | [] => rfl
  | v :: vs => by unfold wipeP; rw [List.length_set, wipeP_length ps vs]
theorem wipeP_some {ps : PSt} {i : Nat} {p : PV} : ∀ {vs : List Nat}, (wipeP ps vs)[i]? = some (some p) → ps[i]? = some (some p) ∧ i ∉ vs
  | [], h => ⟨h, by simp⟩
  | v :: vs, h => by
    unfold wipeP at h
    by_cases hi : v = i
    · subst hi
      by_cases hv : v < (wipeP ps vs).length
      · rw [List.getElem?_set_self hv] at h; cases h
      · rw [List.getElem?_eq_none (by simpa using hv)] at h; cases h
    · rw [List.getElem?_set_ne hi] at h
      obtain ⟨h1, h2⟩ := wipeP_some h
      exact ⟨h1, by simp only [List.mem_cons, not_or]; exact ⟨fun e => hi e.symm, h2⟩⟩
theorem wipeP_out {ps : PSt} {i : Nat} : ∀ {vs : List Nat}, i ∉ vs → (wipeP ps vs)[i]? = ps[i]?
  | [], _ => rfl
  | v :: vs, h => by
    have h1 : v ≠ i := fun e => h (by rw [e]; exact List.mem_cons_self)
    have h2 : i ∉ vs := fun m => h (List.mem_cons_of_mem _ m)
    unfold wipeP
    rw [List.getElem?_set_ne h1]
    exact wipeP_out h2
theorem wipe_in {ps : PSt} {i : Nat} : ∀ {vs : List Nat}, i ∈ vs → (wipeP ps vs)[i]? = none ∨ (wipeP ps vs)[i]? = some none
  | v :: vs, h => by
    unfold wipeP
    by_cases hi : v = i
    · subst hi
      by_cases hv : v < (wipeP ps vs).length
      · rw [List.getElem?_set_self hv]; exact .inr rfl
      · rw [List.getElem?_eq_none (by simpa using hv)]; exact .inl rfl
    · rw [List.getElem?_set_ne hi]
      rcases List.mem_cons.mp h with e | h
      · exact absurd e.symm hi
      · exact wipe_in h
section
variable {K : PySem.W.Frag} {mg : Str → Option Value} {Bo : Option Addr} {W : WX} {F H F1 H1 F2 H2 : Hp} {σ σ1 σ2 : St} {ps ps1 ps2 : PSt} {vs : List Nat}
theorem owned_wipe {b : Addr} : Owned (wipe σ vs) (wipeP ps vs) b ↔ Owned σ (wipeP ps vs) b := by
  constructor
  · rintro ⟨i, d, h1, h2⟩
    obtain ⟨_, hi⟩ := wipeP_some h1
    exact ⟨i, d, h1, by rw [wipe_out hi] at h2; exact h2⟩
  · rintro ⟨i, d, h1, h2⟩
    obtain ⟨_, hi⟩ := wipeP_some h1
    exact ⟨i, d, h1, by rw [wipe_out hi]; exact h2⟩
theorem owned_wipeP {b : Addr} (h : Owned σ (wipeP ps vs) b) : Owned σ ps b := by
  obtain ⟨i, d, h1, h2⟩ := h
  exact ⟨i, d, (wipeP_some h1).1, h2⟩
/-- slots that agree but where nothing is known -/
theorem SR.agree (s : SR K Bo F H σ ps) (hl : σ1.length = σ.length) (hb : Bo = none ∨ 0 ∉ vs) (h : ∀ i, i ∉ vs → σ1[i]? = σ[i]?) : SR K Bo F H σ1 (wipeP ps vs) := by
  refine ⟨s.le, by rw [wipeP_length, s.len, hl], fun i x p e1 e2 => ?_, fun i j a d e h1 h2 h3 h4 => ?_, fun a e => ?_⟩
  · cases p with
    | none => trivial
    | some p =>
      obtain ⟨q1, q2⟩ := wipeP_some e2
      rw [h i q2] at e1
      exact s.sl i x _ e1 q1
  · obtain ⟨q1, q2⟩ := wipeP_some h1
    obtain ⟨q3, q4⟩ := wipeP_some h2
    rw [h i q2] at h3
    rw [h j q4] at h4
    exact s.apart i j a d e q1 q3 h3 h4
  · obtain ⟨r1, d, r2⟩ := s.bo a e
    have n : 0 ∉ vs := hb.resolve_left (by rw [e]; simp)
    exact ⟨by rw [h 0 n]; exact r1, d, by rw [wipeP_out n]; exact r2⟩
theorem SR.wipe (s : SR K Bo F H σ ps) (hb : Bo = none ∨ 0 ∉ vs) : SR K Bo F H (wipe σ vs) (wipeP ps vs) := s.agree (wipe_length _ _) hb fun i hi => wipe_out hi
theorem Step.wipe : Step F H σ ps F H (wipe σ vs) (wipeP ps vs) := ⟨.refl _, fun _ _ e => .inl e, fun _ _ e _ => e, fun b h => .inl (owned_wipeP (owned_wipe.mp h))⟩
def compL (u : PyData → PSt → Option PSt) (c : PSt → Rs Bool) (fe : PSt → Rs PyData) (vs : List Nat) : List PyData → PSt → List PyData → Rs (List PyData)
  | [], ps, acc => .ok acc ps
  | d :: ds, ps, acc => match u d ps with
    | none => .bad
    | some ps1 => (c ps1).bind fun b ps2 => if b = true then ((fe ps2).bind fun y ps3 => if acc.length < sizeLine then compL u c fe vs ds (wipeP ps3 vs) (acc ++ [y]) else .bad) else compL u c fe vs ds (wipeP ps2 vs) acc
def Rs.nox {α : Type} : Rs α → Rs α
  | .exc _ _ => .bad
  | r => r
/-- names of the block that the def has too: what they held -/
def keepV : Option (Option PV) → Option PV
  | some (some (.val d)) => some (.val d)
  | _ => none
def restP (ps1 ps2 : PSt) : List Nat → PSt
  | [] => ps2
  | v :: vs => (restP ps1 ps2 vs).set v (keepV ps1[v]?)
def Rs.mapP {α : Type} (r : Rs α) (g : PSt → PSt) : Rs α := match r with
  | .ok a ps => .ok a (g ps)
  | .exc x ps => .exc x ps
  | .bad => .bad
theorem SR.back (s : SR K Bo F H σ ps) {i : Nat} {v : V} {d : PyData} (hb : Bo = none ∨ i ≠ 0) (e : σ[i]? = some (some v)) (h : Dp K F v d) : SR K Bo F H σ (ps.set i (some (.val d))) := by
  have z := s.setV (v := v) hb h
  have : σ.set i (some v) = σ := by
    refine List.ext_getElem? fun j => ?_
    by_cases hj : i = j
    · subst hj
      rw [e, List.getElem?_set_self (List.getElem?_eq_some_iff.mp e).1]
    · rw [List.getElem?_set_ne hj]
  rwa [this] at z
theorem SR.rest (s1 : SR K Bo F1 H1 σ ps1) (g : Same F1 F2) (hb : Bo = none ∨ 0 ∉ vs) (s : SR K Bo F2 H2 σ ps2) : SR K Bo F2 H2 σ (restP ps1 ps2 vs) ∧ ∀ b, Owned σ (restP ps1 ps2 vs) b → Owned σ ps2 b := by
  induction vs with
  | nil => exact ⟨s, fun b h => h⟩
  | cons v vs ih =>
    obtain ⟨a, b⟩ := ih (hb.imp_right fun q z => q (List.mem_cons_of_mem _ z))
    have hv : Bo = none ∨ v ≠ 0 := hb.imp_right fun q z => q (by rw [z]; exact List.mem_cons_self)
    unfold restP
    match e : ps1[v]? with
    | some (some (.val d)) =>
      obtain ⟨x, h1, h2⟩ := s1.val e
      exact ⟨a.back hv h1 (h2.mono g), fun c h => b c (by
        obtain ⟨i, d', q1, q2⟩ := h
        by_cases hi : v = i
        · subst hi
          by_cases hl : v < (restP ps1 ps2 vs).length
          · rw [List.getElem?_set_self hl] at q1; cases q1
          · rw [List.getElem?_eq_none (by simpa using hl)] at q1; cases q1
        · rw [List.getElem?_set_ne hi] at q1; exact ⟨i, d', q1, q2⟩)⟩
    | some (some (.own d)) => exact ⟨a.kill hv, fun c h => b c (owned_kill h)⟩
    | some none => exact ⟨a.kill hv, fun c h => b c (owned_kill h)⟩
    | none => exact ⟨a.kill hv, fun c h => b c (owned_kill h)⟩
def fLc (fi : PSt → Rs (List PyData)) (u : PyData → PSt → Option PSt) (c : PSt → Rs Bool) (fe : PSt → Rs PyData) (vs : List Nat) : PSt → Rs PV := fun ps => (fi ps).bind fun ds ps1 => ((((compL u c fe vs ds (wipeP ps1 vs) []).nox).map fun l => PV.own (.list l)).mapP fun p => restP ps1 p vs)
def cYes : PSt → Rs Bool := .ok true
theorem wipeP_in {ps : PSt} {i : Nat} : ∀ {vs : List Nat}, i ∈ vs → (wipeP ps vs)[i]? = if i < ps.length then some none else none
  | v :: vs, h => by
    unfold wipeP
    by_cases hi : v = i
    · subst hi
      by_cases hv : v < ps.length
      · rw [List.getElem?_set_self (by rw [wipeP_length]; exact hv), if_pos hv]
      · rw [List.getElem?_eq_none (by simpa [wipeP_length] using hv), if_neg hv]
    · rw [List.getElem?_set_ne hi]
      rcases List.mem_cons.mp h with e | h
      · exact absurd e.symm hi
      · exact wipeP_in h
theorem wipeP_idem : wipeP (wipeP ps vs) vs = wipeP ps vs := by
  refine List.ext_getElem? fun i => ?_
  by_cases hi : i ∈ vs
  · rw [wipeP_in hi, wipeP_in hi, wipeP_length]
  · rw [wipeP_out hi]
theorem wipe_in' {σ : St} {i : Nat} : ∀ {vs : List Nat}, i ∈ vs → (wipe σ vs)[i]? = if i < σ.length then some none else none
  | v :: vs, h => by
    unfold wipe
    by_cases hi : v = i
    · subst hi
      by_cases hv : v < σ.length
      · rw [List.getElem?_set_self (by rw [wipe_length]; exact hv), if_pos hv]
      · rw [List.getElem?_eq_none (by simpa [wipe_length] using hv), if_neg hv]
    · rw [List.getElem?_set_ne hi]
      rcases List.mem_cons.mp h with e | h
      · exact absurd e.symm hi
      · exact wipe_in' h
theorem wipe_only {T : List Nat} (h : Only T (L2.wipe σ vs) σ1) (hT : ∀ i ∈ T, i ∈ vs) : L2.wipe σ1 vs = L2.wipe σ vs := by
  refine List.ext_getElem? fun i => ?_
  by_cases hi : i ∈ vs
  · rw [wipe_in' hi, wipe_in' hi, h.1, wipe_length]
  · rw [wipe_out hi, h.2 i fun z => hi (hT i z)]
/-- a list that is nobody's is changed -/
theorem SR.other {D : Addr} {o : HO} (s : SR K Bo F H σ ps) (hF : F D = none) (no : ¬ Owned σ ps D) : SR K Bo F (upd H D o) σ ps := by
  refine ⟨fun b u e => ?_, s.len, fun i x p e1 e2 => ?_, s.apart, s.bo⟩
  · have ne : b ≠ D := fun w => by subst w; rw [hF] at e; cases e
    rw [upd_ne ne]; exact s.le b u e
  · have q := s.sl i x p e1 e2
    match p, q with
    | none, _ => trivial
    | some (.val d), q => exact q
    | some (.own d), q =>
      obtain ⟨b, r1, rn, ys, es, r3, r4, r5⟩ := q
      have ne : b ≠ D := fun w => by subst w; subst r1; exact no ⟨i, d, e2, e1⟩
      exact ⟨b, r1, rn, ys, es, r3, by rw [upd_ne ne]; exact r4, r5⟩
theorem lc_data {T : List Nat} {u : PyData → PSt → Option PSt} {c : PSt → Rs Bool} {fe : PSt → Rs PyData} {fi : PSt → Rs (List PyData)} {Q : VK} (hb : Bo = none ∨ 0 ∉ vs) (hT : ∀ i ∈ T, i ∈ vs)
    (q : tR K mg Bo W (RO K) (fLc fi u c fe vs) σ H Q) : tLc (tI K mg Bo W fi) (tG K Bo T u) (tR K mg Bo (fun _ _ _ _ => False) RB c) (tR K mg Bo (fun _ _ _ _ => False) (RV K) fe) vs σ H Q := by
  refine tR_bind RO.rb q fun J ds F F1 H1 ps ps1 sr st hJ q => ?_
  have hJ : ItOk K J F1 ds := hJ
  intro D hD
  generalize hR : compL u c fe vs ds (wipeP ps1 vs) [] = R at q
  have sw : SR K Bo F1 H1 (L2.wipe σ vs) (wipeP ps1 vs) := sr.wipe hb
  have g0 : Gr F1 H1 F1 (upd H1 D (.lst [])) := ⟨.refl _, fun _ _ e => .inl e, same_upd hD, sr.le.trans (same_upd hD)⟩
  have noD : ¬ Owned (L2.wipe σ vs) (wipeP ps1 vs) D := by
    rintro ⟨i, d, q1, q2⟩
    obtain ⟨b, q3, _, xs, _, _, q4, _⟩ := sw.own q1
    rw [q2] at q3; cases q3
    rw [hD] at q4; cases q4
  refine ⟨fun i m H' => m = ds.length - i ∧ i ≤ ds.length ∧ ∃ F' p' acc xs, SR K Bo F' H' (L2.wipe σ vs) (wipeP p' vs) ∧ Step F1 H1 (L2.wipe σ vs) (wipeP ps1 vs) F' H' (L2.wipe σ vs) (wipeP p' vs) ∧ F' D = none ∧ ¬ Owned (L2.wipe σ vs) (wipeP p' vs) D ∧ H' D = some (.lst xs) ∧ DpAll K F' xs acc ∧
      compL u c fe vs (ds.drop i) (wipeP p' vs) acc = R,
    ⟨ds.length, by simp, Nat.zero_le _, F1, ps1, [], [], sw.gr g0, .of_gr g0, sr.le.free hD, noD, upd_same, .nil, by simpa using hR⟩, ?_⟩
  rintro i m H' ⟨rfl, hi, F', p', acc, xs, s', st', hF', noD', hH', hacc, hc⟩
  by_cases hlt : i < ds.length
  · -- what a turn is to reach
    refine .inr ⟨hJ.go F' H' i st'.grow s'.le hlt, fun H2 => ∃ F2 p2 acc2 xs2, SR K Bo F2 H2 (L2.wipe σ vs) (wipeP p2 vs) ∧ Step F1 H1 (L2.wipe σ vs) (wipeP ps1 vs) F2 H2 (L2.wipe σ vs) (wipeP p2 vs) ∧ F2 D = none ∧ ¬ Owned (L2.wipe σ vs) (wipeP p2 vs) D ∧ H2 D = some (.lst xs2) ∧ DpAll K F2 xs2 acc2 ∧
      compL u c fe vs (ds.drop (i + 1)) (wipeP p2 vs) acc2 = R,
      fun H2 ⟨F2, p2, acc2, xs2, h1, h2, h3, h4, h5, h6, h7⟩ => ⟨ds.length - (i + 1), by omega, rfl, hlt, F2, p2, acc2, xs2, h1, h2, h3, h4, h5, h6, h7⟩, fun x H2 y => ?_⟩
    obtain ⟨F2, gr2, hx⟩ := hJ.yld F' H' i ds[i] x H2 st'.grow s'.le (by simp [hlt]) y
    have s2 := s'.gr gr2
    have st2 := st'.trans (.of_gr gr2)
    have hF2 : F2 D = none := by
      cases z : F2 D with
      | none => rfl
      | some o =>
        rcases gr2.fresh D o z with w | w
        · rw [hF'] at w; cases w
        · rw [hH'] at w; cases w
    have hH2 := gr2.keep _ _ hH'
    rw [List.drop_eq_getElem_cons hlt] at hc
    unfold compL at hc
    cases e1 : u ds[i] (wipeP p' vs) with
    | none =>
      rw [e1] at hc
      dsimp only at hc
      rw [← hc] at q
      exact q.elim
    | some p3 =>
      rw [e1] at hc
      dsimp only at hc
      refine ⟨F2, wipeP p' vs, ds[i], p3, s2, hx, e1, fun σ3 on st3 s3 => ?_⟩
      have ew := wipe_only on hT
      refine ⟨ew, ?_⟩
      have st3' := st2.trans st3
      have noD3 : ¬ Owned σ3 p3 D := fun z => (st3.own D z).elim noD' fun w => by rw [hH2] at w; cases w
      -- the test
      refine ⟨F2, p3, s3, ?_⟩
      cases e2 : c p3 with
      | bad => rw [e2] at hc; rw [← hc] at q; exact q.elim
      | exc x p4 => rw [e2] at hc; rw [← hc] at q; exact q.elim
      | ok b p4 =>
        rw [e2] at hc
        intro b' F4 H4 st4 s4 eb
        have eb : b' = b := eb
        subst eb
        have st4' := st3'.trans st4
        have noD4 : ¬ Owned σ3 p4 D := fun z => (st4.own D z).elim noD3 fun w => by rw [hH2] at w; cases w
        have hH4 := st4.keep _ _ hH2 noD3
        have hF4 : F4 D = none := by
          cases z : F4 D with
          | none => rfl
          | some o =>
            rcases st4.fresh D o z with w | w | w
            · rw [hF2] at w; cases w
            · rw [hH2] at w; cases w
            · exact (noD3 w).elim
        cases b' with
        | false =>
          simp only [Rs.bind] at hc
          refine ⟨F4, p4, acc, xs, ?_, ?_, hF4, ?_, hH4, hacc.mono (gr2.grow.trans st4.grow), by simpa using hc⟩
          · rw [← ew]; exact s4.wipe hb
          · rw [← ew]; rw [← ew] at st4'; exact st4'.trans .wipe
          · rw [← ew]; exact fun z => noD4 (owned_wipeP (owned_wipe.mp z))
        | true =>
          simp only [Rs.bind, if_true] at hc
          refine ⟨F4, p4, s4, ?_⟩
          cases e3 : fe p4 with
          | bad => rw [e3] at hc; rw [← hc] at q; exact q.elim
          | exc x p5 => rw [e3] at hc; rw [← hc] at q; exact q.elim
          | ok yv p5 =>
            rw [e3] at hc
            intro v F5 H5 st5 s5 hv
            have hv : Dp K F5 v yv := hv
            have st5' := st4'.trans st5
            have noD5 : ¬ Owned σ3 p5 D := fun z => (st5.own D z).elim noD4 fun w => by rw [hH4] at w; cases w
            have hH5 := st5.keep _ _ hH4 noD4
            have hF5 : F5 D = none := by
              cases z : F5 D with
              | none => rfl
              | some o =>
                rcases st5.fresh D o z with w | w | w
                · rw [hF4] at w; cases w
                · rw [hH4] at w; cases w
                · exact (noD4 w).elim
            simp only at hc
            by_cases hz : acc.length < sizeLine
            · rw [if_pos hz] at hc
              have lx : xs.length = acc.length := hacc.length
              refine ⟨xs, hH5, by rw [lx]; exact hz, F5, p5, acc ++ [yv], xs ++ [v], ?_, ?_, hF5, ?_, upd_same, (hacc.mono ((gr2.grow.trans st4.grow).trans st5.grow)).append (.cons hv .nil), hc⟩
              · -- the list itself is nobody's
                have s6 := s5.wipe (vs := vs) hb
                rw [ew] at s6
                exact s6.other hF5 (by rw [← ew]; exact fun z => noD5 (owned_wipeP (owned_wipe.mp z)))
              · have st6 : Step F1 H1 (L2.wipe σ vs) (wipeP ps1 vs) F5 H5 (L2.wipe σ vs) (wipeP p5 vs) := by
                  have z := st5'.trans (Step.wipe (vs := vs))
                  rw [ew] at z
                  exact z
                exact ⟨st6.grow, st6.fresh, fun b o e n => by
                  have ne : b ≠ D := fun w => by subst w; rw [hD] at e; cases e
                  rw [upd_ne ne]; exact st6.keep b o e n, st6.own⟩
              · rw [← ew]; exact fun z => noD5 (owned_wipeP (owned_wipe.mp z))
            · rw [if_neg hz] at hc
              rw [← hc] at q; exact q.elim
  · have e : i = ds.length := by omega
    subst e
    rw [List.drop_length] at hc
    unfold compL at hc
    rw [← hc] at q
    refine .inl ⟨hJ.stop F' H' st'.grow s'.le, ?_⟩
    have sF : SR K Bo F' H' σ (wipeP p' vs) := by
      have z := s'.agree (σ1 := σ) (vs := vs) (wipe_length _ _).symm hb fun i hi => (wipe_out hi).symm
      rwa [wipeP_idem] at z
    have own : ∀ b, Owned σ (wipeP p' vs) b → Owned (L2.wipe σ vs) (wipeP p' vs) b := fun b h => owned_wipe.mpr h
    obtain ⟨sR, oR⟩ := sr.rest (vs := vs) st'.grow hb sF
    have stF : Step F1 H1 σ ps1 F' H' σ (restP ps1 (wipeP p' vs) vs) := by
      have z : Step F1 H1 σ ps1 F' H' (L2.wipe σ vs) (wipeP p' vs) := Step.wipe.trans st'
      exact ⟨z.grow, z.fresh, z.keep, fun b h => z.own b (own b (oR b h))⟩
    refine q (.ref D) F' H' stF sR ⟨D, rfl, ⟨hF', xs, acc, rfl, hH', hacc⟩, fun z => noD' (own D (oR D z)), .inr hD⟩
end

section
variable {X : Cx} {Bo : Option Addr} {W : WX} {e e1 e2 : Expr} {es : List Expr} {f f1 f2 : PSt → Rs PyData} {fa : PSt → Rs (List PyData)} {fo : PSt → Rs PV} {c : PSt → Rs Bool} {g : PSt → Os} {pos p : Pos} {x : Str} {k n : Nat} {tg iter elt : Expr} {ifs : List Expr} {u : PyData → PSt → Option PSt} {T : List Nat} {fi : PSt → Rs (List PyData)} {fe : PSt → Rs PyData}
/-- no exception comes out of a comprehension -/
abbrev W0 : WX := fun _ _ _ _ => False
def GTs (X : Cx) (Bo : Option Addr) (W : WX) (ifs : List Expr) (c : PSt → Rs Bool) : Prop := PTs X ifs (tR X.K X.mg Bo W RB c)
theorem gts_nil : GTs X Bo W [] cYes := ⟨fun pins s σ H Q I ⟨F, ps, sr, q⟩ => pts_nil.run pins s σ H Q I (q true F H .refl sr rfl)⟩
theorem gts_one (h : GT X Bo W e c) : GTs X Bo W [e] c := pts_one h
theorem go_lc {scope : Scope} (own : List (Str × Nat)) (hc : X.calm = true) (hN : X.N.Nodup) (hi : GI X Bo W tg iter fi) (ok : BlkOk X.N X.env.scope scope own)
    (hg : ∀ (s : Shared) (H : Hp) (C : Addr) (cl : List (Str × Addr)) (fp : List Addr), GG (X.blk s H scope (compEnvC scope cl C X.env) fp) Bo tg T u) (ht : ∀ (s : Shared) (H : Hp) (C : Addr) (cl : List (Str × Addr)) (fp : List Addr), GTs (X.blk s H scope (compEnvC scope cl C X.env) fp) Bo W0 ifs c)
    (he : ∀ (s : Shared) (H : Hp) (C : Addr) (cl : List (Str × Addr)) (fp : List Addr), GV (X.blk s H scope (compEnvC scope cl C X.env) fp) Bo W0 elt fe) (hb : Bo = none ∨ 0 ∉ own.map (·.2) := by first | exact .inl rfl | exact .inr (by decide)) (hT : ∀ i ∈ T, i ∈ own.map (·.2) := by decide)
    (hs : ∀ x, foldedSetIterable iter X.env x = pure x := by intro _; rfl) : GO X Bo W (.ListComp elt [⟨tg, iter, ifs, 0⟩] scope pos) (fLc fi u c fe (own.map (·.2))) :=
  (pe_lc (g := tG X.K Bo T u) (tt := tR X.K X.mg Bo W0 RB c) (te := tR X.K X.mg Bo W0 (RV X.K) fe) hc hN hi ok hg ht he hs).imp fun σ H Q q => lc_data hb hT q
theorem gs_setLc (i : Nat) {y : Str} {py spos : Pos} {scope : Scope} (own : List (Str × Nat)) (hc : X.calm = true) (hN : X.N.Nodup) (hyl : X.env.scope.names.lookup y = some .local)
    (hsw : swapsWith (.ListComp elt [⟨tg, iter, ifs, 0⟩] scope pos) (some (.Name y py)) spos.line X.env = pure true) (hi : GI X Bo W tg iter fi) (ok : BlkOk X.N X.env.scope scope own)
    (hg : ∀ (s : Shared) (H : Hp) (C : Addr) (cl : List (Str × Addr)) (fp : List Addr), GG (X.blk s H scope (compEnvC scope cl C X.env) fp) Bo tg T u) (ht : ∀ (s : Shared) (H : Hp) (C : Addr) (cl : List (Str × Addr)) (fp : List Addr), GTs (X.blk s H scope (compEnvC scope cl C X.env) fp) Bo W0 ifs c)
    (he : ∀ (s : Shared) (H : Hp) (C : Addr) (cl : List (Str × Addr)) (fp : List Addr), GV (X.blk s H scope (compEnvC scope cl C X.env) fp) Bo W0 elt fe) (hb : Bo = none ∨ 0 ∉ own.map (·.2) := by first | exact .inl rfl | exact .inr (by decide)) (hT : ∀ i ∈ T, i ∈ own.map (·.2) := by decide)
    (hbi : Bo = none ∨ i ≠ 0 := by first | exact .inl rfl | exact .inr (by decide)) (hy : X.N[i]? = some y := by rfl) (hs : ∀ x, foldedSetIterable iter X.env x = pure x := by intro _; rfl) :
    GS X Bo W (.Assign [.Name y py] (.ListComp elt [⟨tg, iter, ifs, 0⟩] scope pos) spos) (fSet i (fLc fi u c fe (own.map (·.2)))) := by
  refine (ps_setLc (g := tG X.K Bo T u) (tt := tR X.K X.mg Bo W0 RB c) (te := tR X.K X.mg Bo W0 (RV X.K) fe) hc hN hy hyl hsw hi ok hg ht he hs).imp fun D σ H q => ?_
  have q2 : tR X.K X.mg Bo W (RO X.K) (fLc fi u c fe (own.map (·.2))) σ H (fun x H1 => gName i x σ H1 D.nx) := by
    refine tS_bind0 q fun v p F F1 H1 ps ps1 sr s1 st hv q => ?_
    obtain ⟨s2, st2⟩ := store_pv hbi s1 st hv
    exact q _ F1 H1 st2 s2
  exact lc_data hb hT q2

/-! ### what is walked -/
theorem pi_seq {l : Expr} {tl : TE} (hl : PE X l tl) : PI X tg l (fun σ H R => tl σ H fun x H1 => (∃ a, x = .ref a ∧ (∃ xs, SqL X.K H1 a xs) ∧ R (Itl X.K a) H1) ∨ (∃ a, x = .ref a ∧ (∃ xs, SqT X.K H1 a xs) ∧ R (Itt X.K a) H1)) := by
  refine ⟨fun pins s σ H R I h => ?_⟩
  refine thn (hl.run pins s σ H _ I h) fun v s1 ⟨x, H1, I1, r1, q1⟩ => ?_
  have pv : PE { X with } l (fun _ H2 Q => Q x H2) → True := fun _ => trivial
  rcases q1 with ⟨a, e, ⟨xs, hq⟩, q⟩ | ⟨a, e, ⟨xs, hq⟩, q⟩
  · subst e
    cases r1
    obtain ⟨its, rv, p, hz⟩ := I1.list hq
    refine wpAny_pyIter_list p.isList ?_
    refine ⟨s1.heap.objs.size, [s1.heap.objs.size], _, _, H1, rfl, I1.kept (t' := s1.toks) fun b o e => Heap.get?_push_of_some _ e, turn_list a _, ⟨_, Heap.get?_push_size _ rfl, rfl, rfl⟩, fun b hb => ?_, q⟩
    have e : b = s1.heap.objs.size := by simpa using hb
    subst e
    exact I1.fpOk (Nat.le_refl _) (I1.hok.fresh (Nat.le_refl _))
  · subst e
    cases r1
    obtain ⟨its, rv, p, hz⟩ := I1.tuple hq
    refine wpAny_pyIter_tuple (show s1.heap.IsTuple a its.toArray from p) ?_
    refine ⟨s1.heap.objs.size, [s1.heap.objs.size], _, _, H1, rfl, I1.kept (t' := s1.toks) fun b o e => Heap.get?_push_of_some _ e, turn_tuple a _, ⟨_, Heap.get?_push_size _ rfl, rfl, rfl⟩, fun b hb => ?_, q⟩
    have e : b = s1.heap.objs.size := by simpa using hb
    subst e
    exact I1.fpOk (Nat.le_refl _) (I1.hok.fresh (Nat.le_refl _))
def seqOf : PyData → Option (List PyData)
  | .list ds => some ds
  | .tuple ds => some ds
  | _ => none
def fSeqI (f : PSt → Rs PyData) : PSt → Rs (List PyData) := fun ps => (f ps).bind fun d ps1 => opt (seqOf d) ps1
theorem itl_ok {K : PySem.W.Frag} {F : Hp} {a : Addr} {xs : List V} {ds : List PyData} (h : SqL K F a xs) (hd : DpAll K F xs ds) : ItOk K (Itl K a) F ds where
  go := fun F1 H1 i g1 g2 hi => by
    have hl : i < xs.length := by rw [hd.length]; exact hi
    exact ⟨xs, xs[i], g2.seq (g1.seq h), by simp [hl]⟩
  stop := fun F1 H1 g1 g2 => ⟨xs, g2.seq (g1.seq h), by rw [hd.length]; exact Nat.le_refl _⟩
  yld := fun F1 H1 i d x H2 g1 g2 hi y => by
    obtain ⟨rfl, y⟩ := y
    obtain ⟨v, hv, hd'⟩ := hd.get hi
    have := y xs (g2.seq (g1.seq h))
    rw [hv] at this; cases this
    exact ⟨F1, .refl g2, hd'.mono g1⟩
theorem itt_ok {K : PySem.W.Frag} {F : Hp} {a : Addr} {xs : List V} {ds : List PyData} (h : SqT K F a xs) (hd : DpAll K F xs ds) : ItOk K (Itt K a) F ds where
  go := fun F1 H1 i g1 g2 hi => by
    have hl : i < xs.length := by rw [hd.length]; exact hi
    exact ⟨xs, xs[i], same_sqt g2 (same_sqt g1 h), by simp [hl]⟩
  stop := fun F1 H1 g1 g2 => ⟨xs, same_sqt g2 (same_sqt g1 h), by rw [hd.length]; exact Nat.le_refl _⟩
  yld := fun F1 H1 i d x H2 g1 g2 hi y => by
    obtain ⟨rfl, y⟩ := y
    obtain ⟨v, hv, hd'⟩ := hd.get hi
    have := y xs (same_sqt g2 (same_sqt g1 h))
    rw [hv] at this; cases this
    exact ⟨F1, .refl g2, hd'.mono g1⟩
theorem gi_seq (h : GV X Bo W e f) : GI X Bo W tg e (fSeqI f) := by
  refine (pi_seq h).imp fun σ H R q => ?_
  refine tR_bind (R2 := fun _ _ _ _ F' _ _ J ds => ItOk X.K J F' ds) (fun _ _ _ _ _ _ _ _ _ _ _ _ _ h => h) q fun v d F F1 H1 ps ps1 sr st hv q => ?_
  match d, hv, q with
  | .list ds, hv, q =>
    cases hv with
    | lst s a => exact .inl ⟨_, rfl, ⟨_, sr.le.seq s⟩, q _ F1 H1 .refl sr (itl_ok s a)⟩
  | .tuple ds, hv, q =>
    cases hv with
    | tup s a => exact .inr ⟨_, rfl, ⟨_, same_sqt sr.le s⟩, q _ F1 H1 .refl sr (itt_ok s a)⟩
  | .none, _, q => exact q.elim
  | .bool _, _, q => exact q.elim
  | .int _, _, q => exact q.elim
  | .str _, _, q => exact q.elim
  | .dict _, _, q => exact q.elim
def rangeD (lo : Int) (n : Nat) : List PyData := (List.range n).map fun (i : Nat) => PyData.int (lo + (i : Int))
theorem itr_ok {K : PySem.W.Frag} {F : Hp} {lo : Int} {n : Nat} : ItOk K (Itr lo n) F (rangeD lo n) where
  go := fun F1 H1 i g1 g2 hi => by
    have hi : i < n := by simpa [rangeD] using hi
    exact hi
  stop := fun F1 H1 g1 g2 => by simp [rangeD, Itr]
  yld := fun F1 H1 i d x H2 g1 g2 hi y => by
    obtain ⟨rfl, rfl⟩ := y
    unfold rangeD at hi
    rw [List.getElem?_map] at hi
    cases e : (List.range n)[i]? with
    | none => rw [e] at hi; cases hi
    | some j =>
      rw [e] at hi
      have : j = i := by
        rw [List.getElem?_range (by have := (List.getElem?_eq_some_iff.mp e).1; simpa using this)] at e
        exact (Option.some.inj e).symm
      subst this
      cases hi
      exact ⟨F1, .refl g2, .int _⟩
def fRange1 (fa : PSt → Rs (List PyData)) : PSt → Rs (List PyData) := fun ps => (fa ps).bind fun ds ps1 => match ds with
  | [.int j] => if j < 2 ^ 62 ∧ -(2 ^ 62) ≤ j then .ok (rangeD 0 j.toNat) ps1 else .bad
  | _ => .bad
def fRange2 (fa : PSt → Rs (List PyData)) : PSt → Rs (List PyData) := fun ps => (fa ps).bind fun ds ps1 => match ds with
  | [.int i, .int j] => if (j < 2 ^ 62 ∧ -(2 ^ 62) ≤ j) ∧ (i < 2 ^ 62 ∧ -(2 ^ 62) ≤ i) then .ok (rangeD i (j - i).toNat) ps1 else .bad
  | _ => .bad
theorem dpall1 {K : PySem.W.Frag} {F : Hp} {vs : List V} {d : PyData} (h : DpAll K F vs [d]) : ∃ v, vs = [v] ∧ Dp K F v d := by
  cases h with
  | cons a b => cases b; exact ⟨_, rfl, a⟩
theorem dpall2 {K : PySem.W.Frag} {F : Hp} {vs : List V} {d d' : PyData} (h : DpAll K F vs [d, d']) : ∃ v v', vs = [v, v'] ∧ Dp K F v d ∧ Dp K F v' d' := by
  cases h with
  | cons a b => obtain ⟨v, rfl, h⟩ := dpall1 b; exact ⟨_, _, rfl, a, h⟩
theorem gi_range1 {a : Expr} {p pos : Pos} (hg : Gl X "range") (hm : X.mg "range" = none) (ha : GA X Bo W [a] fa) (hs : starEach [a] X.env = [(false, eval a X.env)] := by rfl) : GI X Bo W tg (.Call (.Name "range" p) [a] [] pos) (fRange1 fa) := by
  refine (pi_range1 hg hm ha hs).imp fun σ H R q => ?_
  refine tR_bind (R2 := fun _ _ _ _ F' _ _ J ds => ItOk X.K J F' ds) (fun _ _ _ _ _ _ _ _ _ _ _ _ _ h => h) q fun vs ds F F1 H1 ps ps1 sr st hv q => ?_
  split at q
  · rename_i j
    split at q
    · rename_i hj
      obtain ⟨v, rfl, h⟩ := dpall1 hv
      cases h
      exact ⟨j, rfl, hj.2, hj.1, q _ F1 H1 .refl sr itr_ok⟩
    · exact q.elim
  · exact q.elim
theorem gi_range2 {a b : Expr} {p pos : Pos} (hg : Gl X "range") (hm : X.mg "range" = none) (ha : GA X Bo W [a, b] fa) (hs : starEach [a, b] X.env = [(false, eval a X.env), (false, eval b X.env)] := by rfl) (hs2 : starEach [b] X.env = [(false, eval b X.env)] := by rfl) :
    GI X Bo W tg (.Call (.Name "range" p) [a, b] [] pos) (fRange2 fa) := by
  refine (pi_range2 hg hm ha hs hs2).imp fun σ H R q => ?_
  refine tR_bind (R2 := fun _ _ _ _ F' _ _ J ds => ItOk X.K J F' ds) (fun _ _ _ _ _ _ _ _ _ _ _ _ _ h => h) q fun vs ds F F1 H1 ps ps1 sr st hv q => ?_
  split at q
  · rename_i i j
    split at q
    · rename_i hj
      obtain ⟨v, v', rfl, h, h'⟩ := dpall2 hv
      cases h; cases h'
      exact ⟨i, j, rfl, ⟨hj.2.2, hj.2.1, hj.1.2, hj.1.1⟩, q _ F1 H1 .refl sr itr_ok⟩
    · exact q.elim
  · exact q.elim
def enumD (ds : List PyData) : List PyData := ds.mapIdx fun i d => .tuple [.int (i : Int), d]
def fEnum (fa : PSt → Rs (List PyData)) : PSt → Rs (List PyData) := fun ps => (fa ps).bind fun ds ps1 => match ds with
  | [.list ds] => .ok (enumD ds) ps1
  | _ => .bad
theorem pair_new {K : PySem.W.Frag} {F1 H1 : Hp} {Tp : Addr} {a b : V} {d d' : PyData} (g2 : Same F1 H1) (hT : H1 Tp = none) (h1 : Dp K F1 a d) (h2 : Dp K F1 b d') : ∃ F2, Gr F1 H1 F2 (upd H1 Tp (.tup [a, b])) ∧ Dp K F2 (.ref Tp) (.tuple [d, d']) := by
  have g : Gr F1 H1 (upd F1 Tp (.tup [a, b])) (upd H1 Tp (.tup [a, b])) := .new g2 hT
  exact ⟨_, g, .tup (SqT.of upd_same) (.cons (h1.mono g.grow) (.cons (h2.mono g.grow) .nil))⟩
theorem gi_enum {e : Expr} {p pos tpos : Pos} {elts : List Expr} {kk : Nat} (hg : Gl X "enumerate") (hm : X.mg "enumerate" = none) (ha : GA X Bo W [e] fa) (hs : starEach [e] X.env = [(false, eval e X.env)] := by rfl) :
    GI X Bo W (.Tuple elts kk tpos) (.Call (.Name "enumerate" p) [e] [] pos) (fEnum fa) := by
  refine (pi_enum hg hm ha hs).imp fun σ H R q => ?_
  refine tR_bind (R2 := fun _ _ _ _ F' _ _ J ds => ItOk X.K J F' ds) (fun _ _ _ _ _ _ _ _ _ _ _ _ _ h => h) q fun vs ds F F1 H1 ps ps1 sr st hv q => ?_
  split at q
  · rename_i ds
    obtain ⟨v, rfl, h⟩ := dpall1 hv
    cases h with
    | @lst a xs _ s hd =>
      refine ⟨a, xs, rfl, sr.le.seq s, q _ F1 H1 .refl sr ⟨fun F2 H2 i g1 g2 hi => ?_, fun F2 H2 g1 g2 => ⟨xs, g2.seq (g1.seq s), by rw [hd.length]; simp [enumD]⟩, fun F2 H2 i d x H3 g1 g2 hi y => ?_⟩⟩
      · have hl : i < xs.length := by rw [hd.length]; simpa [enumD] using hi
        exact ⟨xs, xs[i], g2.seq (g1.seq s), by simp [hl]⟩
      · obtain ⟨Tp, z, rfl, hT, rfl, y⟩ := y
        have hz := y xs (g2.seq (g1.seq s))
        obtain ⟨d', hd', hp⟩ := hd.getV hz
        unfold enumD at hi
        rw [List.getElem?_mapIdx, hd'] at hi
        cases hi
        exact pair_new g2 hT (.int _) (hp.mono g1)
  · exact q.elim
def zipD (xs ys : List PyData) : List PyData := List.zipWith (fun a b => .tuple [a, b]) xs ys
def fZip (fa : PSt → Rs (List PyData)) : PSt → Rs (List PyData) := fun ps => (fa ps).bind fun ds ps1 => match ds with
  | [.list xs, .list ys] => .ok (zipD xs ys) ps1
  | [.tuple xs, .tuple ys] => .ok (zipD xs ys) ps1
  | _ => .bad
theorem gi_zip {e e2 : Expr} {p pos tpos : Pos} {elts : List Expr} {kk : Nat} (hg : Gl X "zip") (hm : X.mg "zip" = none) (ha : GA X Bo W [e, e2] fa) (hs : starEach [e, e2] X.env = [(false, eval e X.env), (false, eval e2 X.env)] := by rfl) (hs2 : starEach [e2] X.env = [(false, eval e2 X.env)] := by rfl) :
    GI X Bo W (.Tuple elts kk tpos) (.Call (.Name "zip" p) [e, e2] [] pos) (fZip fa) := by
  refine (RZ.pi_zipA hg hm ha (by rw [hs, hs2]) (by rw [hs2]; rfl)).imp fun σ H R q => ?_
  refine tR_bind (R2 := fun _ _ _ _ F' _ _ J ds => ItOk X.K J F' ds) (fun _ _ _ _ _ _ _ _ _ _ _ _ _ h => h) q fun vs ds F F1 H1 ps ps1 sr st hv q => ?_
  split at q
  · rename_i ds es
    obtain ⟨v, v', rfl, h, h'⟩ := dpall2 hv
    cases h with
    | @lst a xs _ s hd =>
      cases h' with
      | @lst b ys _ s' hd' =>
        refine ⟨a, b, xs, ys, rfl, .inl ⟨sr.le.seq s, sr.le.seq s', q _ F1 H1 .refl sr ⟨fun F2 H2 i g1 g2 hi => ?_, fun F2 H2 g1 g2 => ⟨xs, ys, g2.seq (g1.seq s), g2.seq (g1.seq s'), by rw [hd.length, hd'.length]; simp [zipD]; omega⟩, fun F2 H2 i d x H3 g1 g2 hi y => ?_⟩⟩⟩
        · have hl : i < xs.length ∧ i < ys.length := by rw [hd.length, hd'.length]; simp [zipD] at hi; omega
          exact ⟨xs, ys, xs[i], ys[i], g2.seq (g1.seq s), g2.seq (g1.seq s'), by simp [hl.1], by simp [hl.2]⟩
        · obtain ⟨Tp, z, w, rfl, hT, rfl, y1, y2⟩ := y
          obtain ⟨d1, hd1, hp1⟩ := hd.getV (y1 xs (g2.seq (g1.seq s)))
          obtain ⟨d2, hd2, hp2⟩ := hd'.getV (y2 ys (g2.seq (g1.seq s')))
          unfold zipD at hi
          rw [List.getElem?_zipWith, hd1, hd2] at hi
          cases hi
          exact pair_new g2 hT (hp1.mono g1) (hp2.mono g1)
  · rename_i ds es
    obtain ⟨v, v', rfl, h, h'⟩ := dpall2 hv
    cases h with
    | @tup a xs _ s hd =>
      cases h' with
      | @tup b ys _ s' hd' =>
        refine ⟨a, b, xs, ys, rfl, .inr ⟨same_sqt sr.le s, same_sqt sr.le s', q _ F1 H1 .refl sr ⟨fun F2 H2 i g1 g2 hi => ?_, fun F2 H2 g1 g2 => ⟨xs, ys, same_sqt g2 (same_sqt g1 s), same_sqt g2 (same_sqt g1 s'), by rw [hd.length, hd'.length]; simp [zipD]; omega⟩, fun F2 H2 i d x H3 g1 g2 hi y => ?_⟩⟩⟩
        · have hl : i < xs.length ∧ i < ys.length := by rw [hd.length, hd'.length]; simp [zipD] at hi; omega
          exact ⟨xs, ys, xs[i], ys[i], same_sqt g2 (same_sqt g1 s), same_sqt g2 (same_sqt g1 s'), by simp [hl.1], by simp [hl.2]⟩
        · obtain ⟨Tp, z, w, rfl, hT, rfl, y1, y2⟩ := y
          obtain ⟨d1, hd1, hp1⟩ := hd.getV (y1 xs (same_sqt g2 (same_sqt g1 s)))
          obtain ⟨d2, hd2, hp2⟩ := hd'.getV (y2 ys (same_sqt g2 (same_sqt g1 s')))
          unfold zipD at hi
          rw [List.getElem?_zipWith, hd1, hd2] at hi
          cases hi
          exact pair_new g2 hT (hp1.mono g1) (hp2.mono g1)
  · exact q.elim
end
end GL

/-! GLh: operations on data -/
namespace GL
open PySem PySem.Spec L2
open PyProof.Rows hiding St

section
variable {K : PySem.W.Frag} {F H F1 H1 : Hp}
/-! ### arithmetic -/
def dAdd : PyData → PyData → Option PyData
  | .int i, .int j => some (.int (i + j))
  | .tuple xs, .tuple ys => if xs.length + ys.length ≤ sizeLine then some (.tuple (xs ++ ys)) else none
  | .str x, .str y => if x.length + y.length ≤ sizeLine then some (.str (x ++ y)) else none
  | _, _ => none
def rAddD (K : PySem.W.Frag) : R2 := fun x y H Q => rI0 (fun i j => .int (i + j)) x y H Q ∨ rCatA K x y H Q ∨ (fun (x y : V) (H : Hp) (Q : VK) => ∃ i j, x = .str i ∧ y = .str j ∧ i.length + j.length ≤ sizeLine ∧ Q (.str (i ++ j)) H) x y H Q
theorem op_addD {X : Cx} : OpR X (binaryOp .Add) (rAddD X.K) := op_add.or (op_catA.or op_add_str)
theorem add_ok : OpD K (rAddD K) dAdd := by
  intro F H x y a b d Q hs hx hy e k
  match a, b, hx, hy, e with
  | .int i, .int j, hx, hy, e =>
    cases hx; cases hy; cases e
    exact .inl ⟨i, j, rfl, rfl, k _ F H (.refl hs) (.int _)⟩
  | .str i, .str j, hx, hy, e =>
    cases hx; cases hy
    have e : (if i.length + j.length ≤ sizeLine then some (PyData.str (i ++ j)) else none) = some d := e
    split at e
    · rename_i hl; cases e
      exact .inr (.inr ⟨i, j, rfl, rfl, hl, k _ F H (.refl hs) (.str _)⟩)
    · cases e
  | .tuple xs, .tuple ys, hx, hy, e =>
    have e : (if xs.length + ys.length ≤ sizeLine then some (PyData.tuple (xs ++ ys)) else none) = some d := e
    split at e
    · rename_i hl; cases e
      cases hx with
      | @tup a vs _ s1 d1 =>
        cases hy with
        | @tup b ws _ s2 d2 =>
          refine .inr (.inl ⟨a, b, vs, ws, rfl, rfl, same_sqt hs s1, same_sqt hs s2, by rw [d1.length, d2.length]; exact hl, fun z => ?_, fun z1 z2 => ?_, fun z1 z2 p hp => ?_⟩)
          · subst z; cases d1
            exact k _ F H (.refl hs) (.tup s2 d2)
          · subst z2; cases d2
            rw [List.append_nil] at k
            exact k _ F H (.refl hs) (.tup s1 d1)
          · have g : Gr F H (upd F p (.tup (vs ++ ws))) (upd H p (.tup (vs ++ ws))) := .new hs hp
            exact k _ _ _ g (.tup (SqT.of upd_same) ((d1.append d2).mono g.grow))
    · cases e
/-- an operator on ints alone -/
def dI (D : Int → Int → Option PyData) : PyData → PyData → Option PyData
  | .int i, .int j => D i j
  | _, _ => none
theorem int_ok {C : Int → Int → Prop} {g : Int → Int → V} {D : Int → Int → Option PyData} (h : ∀ i j d, D i j = some d → C i j ∧ ∀ F, Dp K F (g i j) d) : OpD K (rI C g) (dI D) := by
  intro F H x y a b d Q hs hx hy e k
  match a, b, hx, hy, e with
  | .int i, .int j, hx, hy, e =>
    cases hx; cases hy
    obtain ⟨h1, h2⟩ := h i j d e
    exact ⟨i, j, rfl, rfl, h1, k _ F H (.refl hs) (h2 F)⟩
theorem int_ok0 {g : Int → Int → V} {D : Int → Int → Option PyData} (h : ∀ i j d, D i j = some d → ∀ F, Dp K F (g i j) d) : OpD K (rI0 g) (dI D) := by
  intro F H x y a b d Q hs hx hy e k
  match a, b, hx, hy, e with
  | .int i, .int j, hx, hy, e =>
    cases hx; cases hy
    exact ⟨i, j, rfl, rfl, k _ F H (.refl hs) (h i j d e F)⟩
def dSub := dI fun i j => some (.int (i - j))
def dMul := dI fun i j => if (-(2 ^ 64) < i ∧ i < 2 ^ 64) ∨ (-(2 ^ 64) < j ∧ j < 2 ^ 64) then some (.int (i * j)) else none
def dMod := dI fun i j => if 0 < j then some (.int (i % j)) else none
def dFdiv := dI fun i j => if 0 < j ∧ j < 1073741824 then some (.int (i / j)) else none
def dPow := dI fun i j => if 0 ≤ j ∧ j ≤ 1000000 ∧ i.natAbs < 2 ^ 64 then some (.int (i ^ j.toNat)) else none
theorem sub_ok : OpD K (rI0 fun i j => .int (i - j)) dSub := int_ok0 fun i j d e F => by cases e; exact .int _
theorem mul_ok : OpD K (rI CMul fun i j => .int (i * j)) dMul := int_ok fun i j d e => by
  split at e
  · rename_i h; cases e; exact ⟨h, fun F => .int _⟩
  · cases e
theorem mod_ok : OpD K (rI (fun _ j => 0 < j) fun i j => .int (i % j)) dMod := int_ok fun i j d e => by
  split at e
  · rename_i h; cases e; exact ⟨h, fun F => .int _⟩
  · cases e
theorem fdiv_ok : OpD K (rI CDiv fun i j => .int (i / j)) dFdiv := int_ok fun i j d e => by
  split at e
  · rename_i h; cases e; exact ⟨h, fun F => .int _⟩
  · cases e
theorem pow_ok : OpD K (rI CPow fun i j => .int (i ^ j.toNat)) dPow := int_ok fun i j d e => by
  split at e
  · rename_i h; cases e; exact ⟨h, fun F => .int _⟩
  · cases e

/-! ### comparisons -/
def dEq (a b : PyData) : Option PyData := if SeqAt.shaped a = true ∧ SeqAt.shaped b = true then some (.bool (PyData.eqv a b)) else none
def dNe (a b : PyData) : Option PyData := if SeqAt.shaped a = true ∧ SeqAt.shaped b = true then some (.bool (!PyData.eqv a b)) else none
theorem eq_ok : OpD K (rEqD K) dEq := fun F H x y a b d Q hs hx hy e k => by
  unfold dEq at e
  split at e
  · rename_i h; cases e
    exact ⟨a, b, hx.mono hs, hy.mono hs, h.1, h.2, k _ F H (.refl hs) (.bl _)⟩
  · cases e
theorem ne_ok : OpD K (rNeD K) dNe := fun F H x y a b d Q hs hx hy e k => by
  unfold dNe at e
  split at e
  · rename_i h; cases e
    exact ⟨a, b, hx.mono hs, hy.mono hs, h.1, h.2, k _ F H (.refl hs) (.bl _)⟩
  · cases e
def intPair : PyData → PyData → Option (Int × Int)
  | .int i, .int j => some (i, j)
  | _, _ => none
def isTup : PyData → Bool
  | .tuple _ => true
  | _ => false
def dLt (a b : PyData) : Option PyData := match intPair a b with
  | some (i, j) => some (.bool (decide (i < j)))
  | none => if PySem.W.alike a b = true ∧ a.depth ≤ 64 ∧ isTup a = true then some (.bool (PySem.W.dataLt a b)) else none
theorem intPair_eq {a b : PyData} {i j : Int} (h : intPair a b = some (i, j)) : a = .int i ∧ b = .int j := by
  unfold intPair at h
  split at h
  · cases h; exact ⟨rfl, rfl⟩
  · cases h
def dGt := dI fun i j => some (.bool (decide (j < i)))
def dLe := dI fun i j => some (.bool (decide (i ≤ j)))
def dGe := dI fun i j => some (.bool (decide (j ≤ i)))
theorem gt_ok : OpD K (rI0 fun i j => .bl (decide (j < i))) dGt := int_ok0 fun i j d e F => by cases e; exact .bl _
theorem le_ok : OpD K (rI0 fun i j => .bl (decide (i ≤ j))) dLe := int_ok0 fun i j d e F => by cases e; exact .bl _
theorem ge_ok : OpD K (rI0 fun i j => .bl (decide (j ≤ i))) dGe := int_ok0 fun i j d e F => by cases e; exact .bl _
/-- < of tuples that can be compared place by place -/
def rLtA (K : PySem.W.Frag) : R2 := fun x y H Q => ∃ d e, Dp K H x d ∧ Dp K H y e ∧ PySem.W.alike d e = true ∧ d.depth ≤ 64 ∧ d ≠ .none ∧ Q (.bl (PySem.W.dataLt d e)) H
theorem op_ltA {X : Cx} (hu : X.A.units + 64 < cLine) : OpR X (compareOp .Lt) (rLtA X.K) := by
  intro pins s σ H x y v u Q I rx ry h
  obtain ⟨d, e, hd, he, ha, hz, hn, q⟩ := h
  obtain ⟨as, r1⟩ := Dp.reads I d x v hd rx
  obtain ⟨bs, r2⟩ := Dp.reads I e y u he ry
  exact PySem.W.rcLt_alike d e X.A s v u as bs r1 r2 ha hn (Nat.lt_of_le_of_lt (Nat.add_le_add_left (Nat.le_trans (Nat.min_le_left _ _) hz) _) hu) _ _ _ _ ⟨.bl _, H, I, rfl, q⟩
def rLtD (K : PySem.W.Frag) : R2 := fun x y H Q => rI0 (fun i j => .bl (decide (i < j))) x y H Q ∨ rLtA K x y H Q
theorem op_ltD {X : Cx} (hu : X.A.units + 64 < cLine) : OpR X (compareOp .Lt) (rLtD X.K) := op_lt.or (op_ltA hu)
theorem lt_ok : OpD K (rLtD K) dLt := fun F H x y a b d Q hs hx hy e k => by
  unfold dLt at e
  cases ep : intPair a b with
  | some p =>
    obtain ⟨i, j⟩ := p
    rw [ep] at e
    obtain ⟨rfl, rfl⟩ := intPair_eq ep
    cases hx; cases hy; cases e
    exact .inl ⟨_, _, rfl, rfl, k _ F H (.refl hs) (.bl _)⟩
  | none =>
    rw [ep] at e
    dsimp only at e
    by_cases h : PySem.W.alike a b = true ∧ a.depth ≤ 64 ∧ isTup a = true
    · rw [if_pos h] at e
      cases e
      refine .inr ⟨a, b, hx.mono hs, hy.mono hs, h.1, h.2.1, fun z => ?_, k _ F H (.refl hs) (.bl _)⟩
      subst z
      exact absurd h.2.2 (by decide)
    · rw [if_neg h] at e; cases e
def isNone : PyData → Bool
  | .none => true
  | _ => false
theorem isNone_v {v : V} {d : PyData} (h : Dp K F v d) : decide (v = .non) = isNone d := by
  cases h <;> simp [isNone]
def dIs : PyData → PyData → Option PyData
  | a, .none => some (.bool (isNone a))
  | .bool a, .bool b => some (.bool (decide (a = b)))
  | _, _ => none
def dIsNot : PyData → PyData → Option PyData
  | a, .none => some (.bool (!isNone a))
  | .bool a, .bool b => some (.bool (!decide (a = b)))
  | _, _ => none
def rIsD : R2 := fun x y H Q => (fun (x y : V) (H : Hp) (Q : VK) => y = .non ∧ Q (.bl (decide (x = .non))) H) x y H Q ∨ rIsB x y H Q
def rIsNotD : R2 := fun x y H Q => (fun (x y : V) (H : Hp) (Q : VK) => y = .non ∧ Q (.bl (!decide (x = .non))) H) x y H Q ∨ rNotB x y H Q
theorem op_isD {X : Cx} : OpR X (compareOp .Is) rIsD := op_isN.or op_isBl
theorem op_isNotD {X : Cx} : OpR X (compareOp .IsNot) rIsNotD := op_notN.or op_notBl
theorem is_ok : OpD K rIsD dIs := fun F H x y a b d Q hs hx hy e k => by
  unfold dIs at e
  split at e
  · cases hy; cases e
    exact .inl ⟨rfl, by rw [isNone_v hx]; exact k _ F H (.refl hs) (.bl _)⟩
  · cases hx; cases hy; cases e
    exact .inr ⟨_, _, rfl, rfl, k _ F H (.refl hs) (.bl _)⟩
  · cases e
theorem isNot_ok : OpD K rIsNotD dIsNot := fun F H x y a b d Q hs hx hy e k => by
  unfold dIsNot at e
  split at e
  · cases hy; cases e
    exact .inl ⟨rfl, by rw [isNone_v hx]; exact k _ F H (.refl hs) (.bl _)⟩
  · cases hx; cases hy; cases e
    exact .inr ⟨_, _, rfl, rfl, k _ F H (.refl hs) (.bl _)⟩
  · cases e
def dIn : PyData → PyData → Option PyData
  | d, .list ds => if SeqAt.shaped d = true ∧ SeqAt.shaped (.list ds) = true then some (.bool (ds.any fun z => PyData.eqv z d)) else none
  | _, _ => none
def dNotIn : PyData → PyData → Option PyData
  | d, .list ds => if SeqAt.shaped d = true ∧ SeqAt.shaped (.list ds) = true then some (.bool (!ds.any fun z => PyData.eqv z d)) else none
  | _, _ => none
theorem in_ok : OpD K (rInD K) dIn := fun F H x y a b d Q hs hx hy e k => by
  unfold dIn at e
  split at e
  · split at e
    · rename_i h; cases e
      exact ⟨_, _, hx.mono hs, hy.mono hs, h.1, h.2, k _ F H (.refl hs) (.bl _)⟩
    · cases e
  · cases e
theorem notIn_ok : OpD K (rNotInD K) dNotIn := fun F H x y a b d Q hs hx hy e k => by
  unfold dNotIn at e
  split at e
  · split at e
    · rename_i h; cases e
      exact ⟨_, _, hx.mono hs, hy.mono hs, h.1, h.2, k _ F H (.refl hs) (.bl _)⟩
    · cases e
  · cases e
end

/-! ### calls of built-ins, by data -/
def CallD (K : PySem.W.Frag) (r : List V → Hp → VK → Prop) (D : List PyData → Option PyData) : Prop := ∀ F H xs ds d Q, Same F H → DpAll K F xs ds → D ds = some d → (∀ v F' H', Gr F H F' H' → Dp K F' v d → Q v H') → r xs H Q
def fApp (D : List PyData → Option PyData) (fa : PSt → Rs (List PyData)) : PSt → Rs PyData := fun ps => (fa ps).bind fun ds ps1 => opt (D ds) ps1
/-- a new list comes out -/
def CallO (K : PySem.W.Frag) (r : List V → Hp → VK → Prop) (D : List PyData → Option (List PyData)) : Prop := ∀ F H xs ds d Q, Same F H → DpAll K F xs ds → D ds = some d → (∀ p us, H p = none → DpAll K F us d → Q (.ref p) (upd H p (.lst us))) → r xs H Q
def fAppO (D : List PyData → Option (List PyData)) (fa : PSt → Rs (List PyData)) : PSt → Rs PV := fun ps => (fa ps).bind fun ds ps1 => match D ds with
  | some d => .ok (.own (.list d)) ps1
  | none => .bad
section
variable {X : Cx} {Bo : Option Addr} {W : WX} {e e1 e2 e3 : Expr} {es : List Expr} {f f1 f2 f3 : PSt → Rs PyData} {fa : PSt → Rs (List PyData)} {fo fo1 fo2 : PSt → Rs PV} {c : PSt → Rs Bool} {pos p : Pos} {x : Str} {id T : String} {r : List V → Hp → VK → Prop} {D : List PyData → Option PyData} {DO : List PyData → Option (List PyData)}
theorem app_data (hr : CallD X.K r D) : ∀ σ H Q, tR X.K X.mg Bo W (RV X.K) (fApp D fa) σ H Q → tCB r (tR X.K X.mg Bo W (RA X.K) fa) σ H Q := fun σ H Q q => by
  refine tR_bind RV.rb q fun vs ds F F1 H1 ps ps1 sr st hv q => ?_
  obtain ⟨d, ed, k⟩ := go_end sr q
  exact hr F1 H1 vs ds d Q sr.le hv ed k
theorem appO_data (hr : CallO X.K r DO) : ∀ σ H Q, tR X.K X.mg Bo W (RO X.K) (fAppO DO fa) σ H Q → tCB r (tR X.K X.mg Bo W (RA X.K) fa) σ H Q := fun σ H Q q => by
  refine tR_bind RO.rb q fun vs ds F F1 H1 ps ps1 sr st hv q => ?_
  split at q
  · rename_i d ed
    refine hr F1 H1 vs ds d Q sr.le hv ed fun p us hp hu => ?_
    obtain ⟨g, s2, ro⟩ := new_own sr hp hu
    exact q (.ref p) _ _ (.of_gr g) s2 ro
  · exact q.elim
theorem gv_callB (hc : CallR X (.builtin id) r) (hr : CallD X.K r D) (hg : Gl X x) (hm : X.mg x = none) (hv : bootBuiltins x = some (.builtin id)) (ha : GA X Bo W (e :: es) fa) (hn : x ≠ "__name__" := by decide) (hdb : (x == ("__debug__" : Str)) = false := by decide)
    (he : starEach (e :: es) X.env = (false, eval e X.env) :: starEach es X.env := by rfl) (hpl : (backTo pos (starEach es X.env)).any (·.1) = false := by rfl) : GV X Bo W (.Call (.Name x p) (e :: es) [] pos) (fApp D fa) :=
  (pe_callB hc hg hm hv ha hn hdb he hpl).imp (app_data hr)
theorem gv_callTy (hc : CallR X (.type T) r) (hr : CallD X.K r D) (hg : Gl X x) (hm : X.mg x = none) (hv : bootBuiltins x = some (.type T)) (ha : GA X Bo W (e :: es) fa) (hn : x ≠ "__name__" := by decide) (hdb : (x == ("__debug__" : Str)) = false := by decide)
    (he : starEach (e :: es) X.env = (false, eval e X.env) :: starEach es X.env := by rfl) (hpl : (backTo pos (starEach es X.env)).any (·.1) = false := by rfl) : GV X Bo W (.Call (.Name x p) (e :: es) [] pos) (fApp D fa) :=
  (pe_callTy hc hg hm hv ha hn hdb he hpl).imp (app_data hr)
theorem go_callTy (hc : CallR X (.type T) r) (hr : CallO X.K r DO) (hg : Gl X x) (hm : X.mg x = none) (hv : bootBuiltins x = some (.type T)) (ha : GA X Bo W (e :: es) fa) (hn : x ≠ "__name__" := by decide) (hdb : (x == ("__debug__" : Str)) = false := by decide)
    (he : starEach (e :: es) X.env = (false, eval e X.env) :: starEach es X.env := by rfl) (hpl : (backTo pos (starEach es X.env)).any (·.1) = false := by rfl) : GO X Bo W (.Call (.Name x p) (e :: es) [] pos) (fAppO DO fa) :=
  (pe_callTy hc hg hm hv ha hn hdb he hpl).imp (appO_data hr)
theorem go_callB (hc : CallR X (.builtin id) r) (hr : CallO X.K r DO) (hg : Gl X x) (hm : X.mg x = none) (hv : bootBuiltins x = some (.builtin id)) (ha : GA X Bo W (e :: es) fa) (hn : x ≠ "__name__" := by decide) (hdb : (x == ("__debug__" : Str)) = false := by decide)
    (he : starEach (e :: es) X.env = (false, eval e X.env) :: starEach es X.env := by rfl) (hpl : (backTo pos (starEach es X.env)).any (·.1) = false := by rfl) : GO X Bo W (.Call (.Name x p) (e :: es) [] pos) (fAppO DO fa) :=
  (pe_callB hc hg hm hv ha hn hdb he hpl).imp (appO_data hr)
end
section
variable {X : Cx} {K : PySem.W.Frag}
def dLen : List PyData → Option PyData
  | [.list ds] => some (.int ds.length)
  | [.tuple ds] => some (.int ds.length)
  | _ => none
theorem len_ok : CallD X.K (fun xs H Q => ∃ p ys, xs = [.ref p] ∧ (SqL X.K H p ys ∨ SqT X.K H p ys) ∧ Q (.int ys.length) H) dLen := fun F H xs ds d Q hs hx e k => by
  unfold dLen at e
  split at e
  · obtain ⟨v, rfl, h⟩ := dpall1 hx
    cases h with
    | lst s a => cases e; exact ⟨_, _, rfl, .inl (hs.seq s), k _ F H (.refl hs) (by rw [a.length]; exact .int _)⟩
  · obtain ⟨v, rfl, h⟩ := dpall1 hx
    cases h with
    | tup s a => cases e; exact ⟨_, _, rfl, .inr (same_sqt hs s), k _ F H (.refl hs) (by rw [a.length]; exact .int _)⟩
  · cases e
def dAbs : List PyData → Option PyData
  | [.int i] => some (.int (if i < 0 then -i else i))
  | _ => none
theorem abs_ok : CallD K (fun xs H Q => ∃ i, xs = [.int i] ∧ Q (.int (if i < 0 then -i else i)) H) dAbs := fun F H xs ds d Q hs hx e k => by
  unfold dAbs at e
  split at e
  · obtain ⟨v, rfl, h⟩ := dpall1 hx
    cases h; cases e
    exact ⟨_, rfl, k _ F H (.refl hs) (.int _)⟩
  · cases e
def dInt : List PyData → Option PyData
  | [.int i] => some (.int i)
  | [.bool b] => some (.int (if b then 1 else 0))
  | _ => none
theorem int1_ok : CallD K (fun xs H Q => (∃ i, xs = [.int i] ∧ Q (.int i) H) ∨ ∃ k, xs = [.bl k] ∧ Q (.int (if k then 1 else 0)) H) dInt := fun F H xs ds d Q hs hx e k => by
  unfold dInt at e
  split at e
  · obtain ⟨v, rfl, h⟩ := dpall1 hx
    cases h; cases e
    exact .inl ⟨_, rfl, k _ F H (.refl hs) (.int _)⟩
  · obtain ⟨v, rfl, h⟩ := dpall1 hx
    cases h; cases e
    exact .inr ⟨_, rfl, k _ F H (.refl hs) (.int _)⟩
  · cases e
def dMin2 : List PyData → Option PyData
  | [.int i, .int j] => some (.int (if j < i then j else i))
  | _ => none
def dMax2 : List PyData → Option PyData
  | [.int i, .int j] => some (.int (if j > i then j else i))
  | _ => none
theorem min2_ok : CallD K (fun xs H Q => ∃ i j, xs = [.int i, .int j] ∧ Q (.int (if j < i then j else i)) H) dMin2 := fun F H xs ds d Q hs hx e k => by
  unfold dMin2 at e
  split at e
  · obtain ⟨v, v', rfl, h, h'⟩ := dpall2 hx
    cases h; cases h'; cases e
    exact ⟨_, _, rfl, k _ F H (.refl hs) (.int _)⟩
  · cases e
theorem max2_ok : CallD K (fun xs H Q => ∃ i j, xs = [.int i, .int j] ∧ Q (.int (if j > i then j else i)) H) dMax2 := fun F H xs ds d Q hs hx e k => by
  unfold dMax2 at e
  split at e
  · obtain ⟨v, v', rfl, h, h'⟩ := dpall2 hx
    cases h; cases h'; cases e
    exact ⟨_, _, rfl, k _ F H (.refl hs) (.int _)⟩
  · cases e
def boolsOf : List PyData → Option (List Bool)
  | [] => some []
  | .bool b :: ds => (boolsOf ds).map (b :: ·)
  | _ :: _ => none
theorem bools_v {F : Hp} : ∀ {ds : List PyData} {vs : List V} {bs : List Bool}, boolsOf ds = some bs → DpAll K F vs ds → vs = bs.map V.bl
  | [], _, _, e, h => by cases h; cases e; rfl
  | .bool b :: ds, _, _, e, h => by
    unfold boolsOf at e
    cases q : boolsOf ds with
    | none => rw [q] at e; cases e
    | some bs =>
      rw [q] at e
      cases e
      cases h with
      | cons a t => cases a; rw [bools_v q t]; rfl
  | .none :: _, _, _, e, _ => by cases e
  | .int _ :: _, _, _, e, _ => by cases e
  | .str _ :: _, _, _, e, _ => by cases e
  | .list _ :: _, _, _, e, _ => by cases e
  | .tuple _ :: _, _, _, e, _ => by cases e
  | .dict _ :: _, _, _, e, _ => by cases e
def dAll : List PyData → Option PyData
  | [.list ds] => (boolsOf ds).map fun bs => .bool (bs.all id)
  | _ => none
def dAny : List PyData → Option PyData
  | [.list ds] => (boolsOf ds).map fun bs => .bool (bs.any id)
  | _ => none
theorem all_ok : CallD K (rAll K) dAll := fun F H xs ds d Q hs hx e k => by
  unfold dAll at e
  split at e
  · rename_i ds
    obtain ⟨v, rfl, h⟩ := dpall1 hx
    cases h with
    | lst s a =>
      cases q : boolsOf ds with
      | none => rw [q] at e; cases e
      | some bs =>
        rw [q] at e
        cases e
        have := bools_v q a
        subst this
        exact ⟨_, bs, rfl, hs.seq s, k _ F H (.refl hs) (.bl _)⟩
  · cases e
theorem any_ok : CallD K (rAny K) dAny := fun F H xs ds d Q hs hx e k => by
  unfold dAny at e
  split at e
  · rename_i ds
    obtain ⟨v, rfl, h⟩ := dpall1 hx
    cases h with
    | lst s a =>
      cases q : boolsOf ds with
      | none => rw [q] at e; cases e
      | some bs =>
        rw [q] at e
        cases e
        have := bools_v q a
        subst this
        exact ⟨_, bs, rfl, hs.seq s, k _ F H (.refl hs) (.bl _)⟩
  · cases e
def dTuple : List PyData → Option PyData
  | [.list ds] => some (.tuple ds)
  | [.tuple ds] => some (.tuple ds)
  | _ => none
theorem tuple_ok : CallD X.K (fun xs H Q => ∃ p ys, xs = [.ref p] ∧ ((SqL X.K H p ys ∧ ∀ l, H l = none → Q (.ref l) (upd H l (.tup ys))) ∨ (SqT X.K H p ys ∧ Q (.ref p) H))) dTuple := fun F H xs ds d Q hs hx e k => by
  unfold dTuple at e
  split at e
  · obtain ⟨v, rfl, h⟩ := dpall1 hx
    cases h with
    | @lst _ xs _ s a =>
      cases e
      refine ⟨_, _, rfl, .inl ⟨hs.seq s, fun l hl => ?_⟩⟩
      have g : Gr F H (upd F l (.tup xs)) (upd H l (.tup xs)) := .new hs hl
      exact k _ _ _ g (.tup (SqT.of upd_same) (a.mono g.grow))
  · obtain ⟨v, rfl, h⟩ := dpall1 hx
    cases h with
    | tup s a => cases e; exact ⟨_, _, rfl, .inr ⟨same_sqt hs s, k _ F H (.refl hs) (.tup s a)⟩⟩
  · cases e
def dList : List PyData → Option (List PyData)
  | [.list ds] => some ds
  | [.tuple ds] => some ds
  | _ => none
theorem list_ok : CallO X.K (fun xs H Q => ∃ p ys, xs = [.ref p] ∧ (SqL X.K H p ys ∨ SqT X.K H p ys) ∧ ∀ l, H l = none → Q (.ref l) (upd H l (.lst ys))) dList := fun F H xs ds d Q hs hx e k => by
  unfold dList at e
  split at e
  · obtain ⟨v, rfl, h⟩ := dpall1 hx
    cases h with
    | lst s a => cases e; exact ⟨_, _, rfl, .inl (hs.seq s), fun l hl => k l _ hl a⟩
  · obtain ⟨v, rfl, h⟩ := dpall1 hx
    cases h with
    | tup s a => cases e; exact ⟨_, _, rfl, .inr (same_sqt hs s), fun l hl => k l _ hl a⟩
  · cases e
end

/-! ### isinstance -/
section
variable {X : Cx} {K : PySem.W.Frag}
def tyName : PyData → String
  | .none => "NoneType"
  | .bool _ => "bool"
  | .int _ => "int"
  | .str _ => "str"
  | .list _ => "list"
  | .tuple _ => "tuple"
  | .dict _ => "dict"
theorem tyx_of {F H : Hp} {v : V} {d : PyData} (hs : Same F H) (h : Dp K F v d) : TyX K H v (.type (tyName d)) := by
  cases h with
  | non => exact .base .non
  | bl b => exact .base (.bl b)
  | int i => exact .base (.int i)
  | str x => exact .base (.str x)
  | @lst a xs ds s _ =>
    rcases s with (s | ⟨o, s⟩) | ⟨o, its, n, hk, hc, _⟩
    · exact .base (.lst (hs _ _ s))
    · exact .base (.frz (hs _ _ s))
    · exact .kList hk hc
  | @tup a xs ds s _ =>
    rcases s with (s | ⟨o, s⟩) | ⟨o, its, n, hk, hc, _⟩
    · exact .base (.tup (hs _ _ s))
    · exact .fTuple (hs _ _ s)
    · exact .kTuple hk hc
def isaD (t : String) (d : PyData) : Option Bool := kitB (tyName d) t
variable {Bo : Option Addr} {W : WX} {e : Expr} {f : PSt → Rs PyData} {pos p p2 p3 p4 p5 : Pos} {T T2 t t2 : Str} {tn tn2 : String}
def fIsi (D : PyData → Option Bool) (f : PSt → Rs PyData) : PSt → Rs PyData := fun ps => (f ps).bind fun d ps1 => match D d with
  | some b => .ok (.bool b) ps1
  | none => .bad
theorem ga_ty {es : List Expr} : True := trivial
/-- isinstance(e, T) -/
theorem gv_isi (h : GV X Bo W e f) (hg : Gl X "isinstance") (hm : X.mg "isinstance" = none) (hgT : Gl X T) (hmT : X.mg T = none) (hvT : bootBuiltins T = some (.type tn)) (hnT : T ≠ "__name__" := by decide) (hdT : (T == ("__debug__" : Str)) = false := by decide)
    (he : starEach (e :: [.Name T p2]) X.env = (false, eval e X.env) :: starEach [.Name T p2] X.env := by rfl) (hpl : (backTo pos (starEach [.Name T p2] X.env)).any (·.1) = false := by rfl) :
    GV X Bo W (.Call (.Name "isinstance" p) [e, .Name T p2] [] pos) (fIsi (isaD tn) f) := by
  refine (pe_callB (call_isi (X := X)) hg hm (by decide +kernel) (pa_cons h (pa_cons (pe_bltn (v := .ty tn) hgT hmT hvT rfl hnT hdT) pa_nil) he) (by decide) (by decide) he hpl).imp fun σ H Q q => ?_
  refine tR_bind RV.rb q fun v d F F1 H1 ps ps1 sr st hv q => ?_
  cases ed : isaD tn d with
  | none => rw [ed] at q; exact q.elim
  | some b =>
    rw [ed] at q
    exact ⟨v, .ty tn, _, .type tn, b, rfl, .ty tn, tyx_of sr.le hv, kit_ty ed, q (.bl b) F1 H1 .refl sr (.bl b)⟩
def isa2 (t t2 : String) (d : PyData) : Option Bool := match isaD t d, isaD t2 d with
  | some a, some b => some (a || b)
  | _, _ => none
/-- isinstance(e, (T, T2)) -/
theorem gv_isi2 {k : Nat} (h : GV X Bo W e f) (hg : Gl X "isinstance") (hm : X.mg "isinstance" = none) (hgT : Gl X T) (hmT : X.mg T = none) (hvT : bootBuiltins T = some (.type tn)) (hgT2 : Gl X T2) (hmT2 : X.mg T2 = none) (hvT2 : bootBuiltins T2 = some (.type tn2))
    (hnT : T ≠ "__name__" := by decide) (hdT : (T == ("__debug__" : Str)) = false := by decide) (hnT2 : T2 ≠ "__name__" := by decide) (hdT2 : (T2 == ("__debug__" : Str)) = false := by decide)
    (he : starEach (e :: [.Tuple [.Name T p2, .Name T2 p3] k p4]) X.env = (false, eval e X.env) :: starEach [.Tuple [.Name T p2, .Name T2 p3] k p4] X.env := by rfl) (hpl : (backTo pos (starEach [.Tuple [.Name T p2, .Name T2 p3] k p4] X.env)).any (·.1) = false := by rfl) :
    GV X Bo W (.Call (.Name "isinstance" p) [e, .Tuple [.Name T p2, .Name T2 p3] k p4] [] pos) (fIsi (isa2 tn tn2) f) := by
  refine (pe_callB (call_isiT (X := X)) hg hm (by decide +kernel) (pa_cons h (pa_cons (pe_tup (pa_cons (pe_bltn (v := .ty tn) hgT hmT hvT rfl hnT hdT) (pa_cons (pe_bltn (v := .ty tn2) hgT2 hmT2 hvT2 rfl hnT2 hdT2) pa_nil))) pa_nil) he) (by decide) (by decide) he hpl).imp fun σ H Q q => ?_
  refine tR_bind RV.rb q fun v d F F1 H1 ps ps1 sr st hv q => ?_
  refine ⟨by show 2 ≤ sizeLine; rw [sizeLine_eq]; decide, fun pt hpt => ?_⟩
  have g : Gr F1 H1 F1 (upd H1 pt (.tup [.ty tn, .ty tn2])) := ⟨.refl _, fun _ _ e => .inl e, same_upd hpt, sr.le.trans (same_upd hpt)⟩
  unfold isa2 at q
  cases e1 : isaD tn d with
  | none => rw [e1] at q; exact q.elim
  | some b1 =>
    cases e2 : isaD tn2 d with
    | none => rw [e1, e2] at q; exact q.elim
    | some b2 =>
      rw [e1, e2] at q
      refine ⟨v, pt, [.ty tn, .ty tn2], _, [.type tn, .type tn2], b1 || b2, rfl, upd_same, .cons (.ty tn) (.cons (.ty tn2) .nil), tyx_of (sr.le.trans (same_upd hpt)) hv, ?_, q (.bl _) F1 _ (.of_gr g) (sr.gr g) (.bl _)⟩
      refine kitAny_cons (kit_ty e1) (fun z => ?_) fun z => by rw [z]; rfl
      subst z
      refine kitAny_cons (kit_ty e2) (fun z => ?_) fun z => by rw [z]; rfl
      subst z
      rfl
end
end GL

/-! GLi: places, slices, chains, or by truth, lists changed in place, looks at slots -/
namespace GL
open PySem PySem.Spec L2
open PyProof.Rows hiding St

section
variable {X : Cx} {Bo : Option Addr} {W : WX} {e e1 e2 e3 : Expr} {es : List Expr} {f f1 f2 f3 : PSt → Rs PyData} {fa : PSt → Rs (List PyData)} {fo fo1 fo2 : PSt → Rs PV} {c : PSt → Rs Bool} {pos p p2 : Pos} {x : Str}
/-! ### places -/
def dIx : PyData → PyData → Option PyData
  | .list ds, .int i => atI ds i
  | .tuple ds, .int i => atI ds i
  | _, _ => none
theorem DpAll.atI {K : PySem.W.Frag} {F : Hp} {xs : List V} {ds : List PyData} {i : Int} {d : PyData} (h : DpAll K F xs ds) (e : L2.atI ds i = some d) : ∃ v, L2.atI xs i = some v ∧ Dp K F v d := by
  unfold L2.atI at e ⊢
  rw [h.length]
  cases q : ixN ds.length i with
  | none => rw [q] at e; cases e
  | some j =>
    rw [q] at e
    exact h.get e
def rIxD2 (K : PySem.W.Frag) : R2 := fun x y H Q => rIxL K x y H Q ∨ rIxT K x y H Q
theorem ix_ok {K : PySem.W.Frag} : OpD K (rIxD2 K) dIx := fun F H x y a b d Q hs hx hy e k => by
  unfold dIx at e
  split at e
  · cases hy
    cases hx with
    | lst s a =>
      obtain ⟨v, h1, h2⟩ := DpAll.atI a e
      exact .inl ⟨_, _, _, v, rfl, rfl, hs.seq s, h1, k v F H (.refl hs) h2⟩
  · cases hy
    cases hx with
    | tup s a =>
      obtain ⟨v, h1, h2⟩ := DpAll.atI a e
      exact .inr ⟨_, _, _, v, rfl, rfl, same_sqt hs s, h1, k v F H (.refl hs) h2⟩
  · cases e
theorem gv_ix (h1 : GV X Bo W e1 f1) (h2 : GV X Bo W e2 f2) (hs : PlainIx e2 := by exact fun _ _ => rfl) : GV X Bo W (.Subscript e1 e2 pos) (fBin dIx f1 f2) := (pe_ix (ix_list.or ix_tup) h1 h2 hs).imp (op_data ix_ok h1 h2)
/-- the name ahead is only looked at -/
def fIxS (i : Nat) (f : PSt → Rs PyData) : PSt → Rs PyData := fun ps => match look i ps with
  | none => .bad
  | some _ => (f ps).bind fun b ps1 => match look i ps1 with
    | none => .bad
    | some a => opt (dIx a b) ps1
theorem gv_ixS (i : Nat) {px : Pos} (h2 : GV X Bo W e2 f2) (hs : PlainIx e2 := by exact fun _ _ => rfl) (hN : X.N[i]? = some x := by rfl) (hv : Vis X.env.scope x := by first | exact Or.inl rfl | exact Or.inr (Or.inl rfl) | exact Or.inr (Or.inr rfl)) (hd : (x == ("__debug__" : Str)) = false := by decide)
    (hcd : (x == ("__classdict__" : Str)) = false := by decide) : GV X Bo W (.Subscript (.Name x px) e2 pos) (fIxS i f2) := by
  refine (pe_ix (ix_list.or ix_tup) (pe_var hN hv hd hcd) h2 hs).imp fun σ H Q ⟨F, ps, sr, q⟩ => ?_
  unfold fIxS at q
  cases e0 : look i ps with
  | none => rw [e0] at q; exact q.elim
  | some d0 =>
    rw [e0] at q
    obtain ⟨v, hv, _⟩ := sr.look e0
    refine ⟨v, hv, ?_⟩
    refine go_bind RV.rb sr q fun y b F2 H2 ps1 s1 st hy q => ?_
    cases e1 : look i ps1 with
    | none => rw [e1] at q; exact q.elim
    | some a =>
      rw [e1] at q
      obtain ⟨v', hv', _, hl, ht⟩ := s1.look e1
      rw [hv] at hv'; cases hv'
      obtain ⟨d, ed, k⟩ := go_end s1 q
      unfold dIx at ed
      split at ed
      · obtain ⟨a', xs, rfl, hq, hd'⟩ := hl _ rfl
        obtain ⟨w, h1, h2⟩ := DpAll.atI hd' ed
        cases hy
        exact .inl ⟨_, _, _, w, rfl, rfl, hq, h1, k w F2 H2 (.refl s1.le) h2⟩
      · obtain ⟨a', xs, rfl, hq, hd'⟩ := ht _ rfl
        obtain ⟨w, h1, h2⟩ := DpAll.atI hd' ed
        cases hy
        exact .inr ⟨_, _, _, w, rfl, rfl, hq, h1, k w F2 H2 (.refl s1.le) h2⟩
      · cases ed
/-- a comparison whose left side is a name, only looked at -/
def fBinS (D : PyData → PyData → Option PyData) (i : Nat) (f : PSt → Rs PyData) : PSt → Rs PyData := fun ps => match look i ps with
  | none => .bad
  | some _ => (f ps).bind fun b ps1 => match look i ps1 with
    | none => .bad
    | some a => opt (D a b) ps1
theorem opS_data {r : R2} {D : PyData → PyData → Option PyData} {i : Nat} (hr : OpD X.K r D) (hD : ∀ a b d, D a b = some d → ∃ k, d = .bool k) : ∀ σ H Q, tR X.K X.mg Bo W (RV X.K) (fBinS D i f2) σ H Q → tOp r (tVar i) (tR X.K X.mg Bo W (RV X.K) f2) σ H Q := fun σ H Q ⟨F, ps, sr, q⟩ => by
  unfold fBinS at q
  cases e0 : look i ps with
  | none => rw [e0] at q; exact q.elim
  | some d0 =>
    rw [e0] at q
    obtain ⟨v, hv, _⟩ := sr.look e0
    refine ⟨v, hv, ?_⟩
    refine go_bind RV.rb sr q fun y b F2 H2 ps1 s1 st hy q => ?_
    cases e1 : look i ps1 with
    | none => rw [e1] at q; exact q.elim
    | some a =>
      rw [e1] at q
      obtain ⟨v', hv', hdp, _⟩ := s1.look e1
      rw [hv] at hv'; cases hv'
      obtain ⟨d, ed, k⟩ := go_end s1 q
      obtain ⟨kb, rfl⟩ := hD _ _ _ ed
      refine hr H2 H2 v y a b _ Q (.refl _) hdp (hy.mono s1.le) ed fun w F' H' g hw => ?_
      cases hw
      exact k _ F2 H' ⟨.refl _, fun _ _ e => .inl e, g.keep, s1.le.trans g.keep⟩ (.bl _)
theorem gv_cmpS (i : Nat) {px : Pos} {op : CmpOp} {r : R2} {D : PyData → PyData → Option PyData} (ho : OpR X (compareOp op) r) (hr : OpD X.K r D) (hD : ∀ a b d, D a b = some d → ∃ k, d = .bool k) (h2 : GV X Bo W e2 f2) (hm : behindInMarks op e2 = false := by first | exact nomark _ | rfl)
    (hN : X.N[i]? = some x := by rfl) (hv : Vis X.env.scope x := by first | exact Or.inl rfl | exact Or.inr (Or.inl rfl) | exact Or.inr (Or.inr rfl)) (hd : (x == ("__debug__" : Str)) = false := by decide) (hcd : (x == ("__classdict__" : Str)) = false := by decide) :
    GV X Bo W (.Compare (.Name x px) [op] [e2] pos) (fBinS D i f2) := (pe_cmpR ho (pe_var hN hv hd hcd) h2 hm).imp (opS_data hr hD)
theorem gt_cmpS (i : Nat) {px : Pos} {op : CmpOp} {r : R2} {D : PyData → PyData → Option PyData} (ho : OpR X (compareOp op) r) (hr : OpD X.K r D) (hD : ∀ a b d, D a b = some d → ∃ k, d = .bool k) (h2 : GV X Bo W e2 f2) (hm : behindInMarks op e2 = false := by first | exact nomark _ | rfl)
    (hN : X.N[i]? = some x := by rfl) (hv : Vis X.env.scope x := by first | exact Or.inl rfl | exact Or.inr (Or.inl rfl) | exact Or.inr (Or.inr rfl)) (hd : (x == ("__debug__" : Str)) = false := by decide) (hcd : (x == ("__classdict__" : Str)) = false := by decide) :
    GT X Bo W (.Compare (.Name x px) [op] [e2] pos) (fTest (fBinS D i f2)) := (pt_cmpR ho (pe_var hN hv hd hcd) h2 hm).imp (test_data (opS_data hr hD))
/-- len(name) -/
def fLenS (i : Nat) : PSt → Rs PyData := fun ps => match look i ps with
  | none => .bad
  | some d => opt (dLen [d]) ps
theorem gv_lenS (i : Nat) {px : Pos} (hg : Gl X "len") (hm : X.mg "len" = none) (hN : X.N[i]? = some x := by rfl) (hv : Vis X.env.scope x := by first | exact Or.inl rfl | exact Or.inr (Or.inl rfl) | exact Or.inr (Or.inr rfl)) (hd : (x == ("__debug__" : Str)) = false := by decide)
    (hcd : (x == ("__classdict__" : Str)) = false := by decide) (he : starEach [.Name x px] X.env = (false, eval (.Name x px) X.env) :: starEach [] X.env := by rfl) (hpl : (backTo pos (starEach [] X.env)).any (·.1) = false := by rfl) :
    GV X Bo W (.Call (.Name "len" p) [.Name x px] [] pos) (fLenS i) := by
  refine (pe_callB call_len_seq hg hm PySem.boot_len (pa_cons (pe_var hN hv hd hcd) pa_nil he) (by decide) (by decide) he hpl).imp fun σ H Q ⟨F, ps, sr, q⟩ => ?_
  unfold fLenS at q
  cases e0 : look i ps with
  | none => rw [e0] at q; exact q.elim
  | some d0 =>
    rw [e0] at q
    obtain ⟨v, hv, hdp, _⟩ := sr.look e0
    obtain ⟨d, ed, k⟩ := go_end sr q
    refine ⟨v, hv, ?_⟩
    refine len_ok (X := X) H H [v] [d0] d Q (.refl _) (.cons hdp .nil) ed fun w F' H' g hw => ?_
    have : ∃ n : Int, d = .int n := by
      unfold dLen at ed
      split at ed <;> first | (cases ed; exact ⟨_, rfl⟩) | cases ed
    obtain ⟨n, rfl⟩ := this
    cases hw
    exact k _ F H' ⟨.refl _, fun _ _ e => .inl e, g.keep, sr.le.trans g.keep⟩ (.int _)

/-! ### slices -/
def cutD (xs : List PyData) (lo hi : Option Int) : List PyData := (xs.drop (HT.sIx xs.length 0 lo)).take (HT.sIx xs.length xs.length hi - HT.sIx xs.length 0 lo)
abbrev fPart := PSt → Rs (Option Int)
def RP : RT (Option Int) (Option Int) := fun _ _ _ _ _ _ _ b c => b = c
def GP (X : Cx) (Bo : Option Addr) (W : WX) (o : Option Expr) (f : PSt → Rs (Option Int)) : Prop := PO X o (tR X.K X.mg Bo W RP f)
def fNoPart : PSt → Rs (Option Int) := .ok none
def fSomePart (f : PSt → Rs PyData) : PSt → Rs (Option Int) := fun ps => (f ps).bind fun d ps1 => match d with
  | .int i => .ok (some i) ps1
  | _ => .bad
theorem gp_none : GP X Bo W none fNoPart := ⟨fun pins s σ H Q I ⟨F, ps, sr, q⟩ => po_none.run pins s σ H Q I (q none F H .refl sr rfl)⟩
theorem gp_some (h : GV X Bo W e f) : GP X Bo W (some e) (fSomePart f) := ⟨fun pins s σ H Q I q => by
  refine (po_some h).run pins s σ H Q I ?_
  refine tR_bind (R2 := RP) (fun _ _ _ _ _ _ _ _ _ _ _ _ _ h => h) q fun v d F F1 H1 ps ps1 sr st hv q => ?_
  match d, hv, q with
  | .int i, hv, q => cases hv; exact ⟨i, rfl, q _ F1 H1 .refl sr rfl⟩
  | .none, _, q => exact q.elim
  | .bool _, _, q => exact q.elim
  | .str _, _, q => exact q.elim
  | .list _, _, q => exact q.elim
  | .tuple _, _, q => exact q.elim
  | .dict _, _, q => exact q.elim⟩
def fSl (f : PSt → Rs PyData) (l h : PSt → Rs (Option Int)) : PSt → Rs PV := fun ps => (f ps).bind fun d ps1 => (l ps1).bind fun lo ps2 => (h ps2).bind fun hi ps3 => match d with
  | .tuple ds => .ok (.val (.tuple (cutD ds lo hi))) ps3
  | .list ds => .ok (.own (.list (cutD ds lo hi))) ps3
  | _ => .bad
theorem cut_ok {K : PySem.W.Frag} {F : Hp} {xs : List V} {ds : List PyData} {lo hi : Option Int} (h : DpAll K F xs ds) : DpAll K F (cutV xs lo hi) (cutD ds lo hi) := by
  unfold cutV cutD
  rw [h.length]
  exact (h.drop _).take _
theorem cut_whole {ds : List PyData} {lo hi : Option Int} (h : HT.sIx ds.length 0 lo = 0 ∧ HT.sIx ds.length ds.length hi = ds.length) : cutD ds lo hi = ds := by
  unfold cutD
  rw [h.1, h.2]
  simp
theorem go_slice {lo₀ hi₀ : Option Expr} {l h : PSt → Rs (Option Int)} (he : GV X Bo W e f) (hl : GP X Bo W lo₀ l) (hh : GP X Bo W hi₀ h) : GO X Bo W (.Subscript e (.Slice lo₀ hi₀ none p2) pos) (fSl f l h) := by
  refine (pe_slice (sl_tupA.or sl_list) he hl hh).imp fun σ H Q q => ?_
  refine tR_bind RO.rb q fun v d F F1 H1 ps ps1 s1 st1 hv q => ?_
  refine go_bind RO.rb s1 q fun lo lo' F2 H2 ps2 s2 st2 e2 q => ?_
  have e2 : lo = lo' := e2
  subst e2
  refine go_bind RO.rb s2 q fun hi hi' F3 H3 ps3 s3 st3 e3 q => ?_
  have e3 : hi = hi' := e3
  subst e3
  have hv := (show Dp X.K F1 v d from hv).mono (st2.grow.trans st3.grow)
  match d, hv, q with
  | .tuple ds, hv, q =>
    cases hv with
    | @tup a xs _ s hd =>
      have hn := hd.length
      refine .inl ⟨a, xs, rfl, same_sqt s3.le s, fun w => ?_, fun w p hp => ?_⟩
      · refine q (.ref a) F3 H3 .refl s3 ?_
        rw [cut_whole (by rw [← hn]; exact w)]
        exact .tup s hd
      · have g : Gr F3 H3 (upd F3 p (.tup (cutV xs lo hi))) (upd H3 p (.tup (cutV xs lo hi))) := .new s3.le hp
        exact q (.ref p) _ _ (.of_gr g) (s3.gr g) (.tup (SqT.of upd_same) (L2.DpAll.mono g.grow (cut_ok hd)))
  | .list ds, hv, q =>
    cases hv with
    | @lst a xs _ s hd =>
      refine .inr ⟨a, xs, rfl, s3.le.seq s, fun p hp => ?_⟩
      obtain ⟨g, s4, ro⟩ := new_own s3 hp (cut_ok (lo := lo) (hi := hi) hd)
      exact q (.ref p) _ _ (.of_gr g) s4 ro
  | .none, _, q => exact q.elim
  | .bool _, _, q => exact q.elim
  | .int _, _, q => exact q.elim
  | .str _, _, q => exact q.elim
  | .dict _, _, q => exact q.elim

/-! ### a < b < c -/
def fChain (D D' : PyData → PyData → Option PyData) (f1 f2 f3 : PSt → Rs PyData) : PSt → Rs PyData := fun ps => (f1 ps).bind fun a ps1 => (f2 ps1).bind fun b ps2 => match D a b with
  | some (.bool true) => (f3 ps2).bind fun c ps3 => opt (D' b c) ps3
  | some (.bool false) => .ok (.bool false) ps2
  | _ => .bad
theorem chain_data {r r' : R2} {D D' : PyData → PyData → Option PyData} (hr : OpD X.K r D) (hr' : OpD X.K r' D') : ∀ σ H Q, tR X.K X.mg Bo W (RV X.K) (fChain D D' f1 f2 f3) σ H Q →
    (tR X.K X.mg Bo W (RV X.K) f1) σ H fun x H1 => (tR X.K X.mg Bo W (RV X.K) f2) σ H1 fun y H2 => r x y H2 fun z H3 => ∃ k, z = .bl k ∧ if k = true then (tR X.K X.mg Bo W (RV X.K) f3) σ H3 fun w H4 => r' y w H4 Q else Q (.bl false) H3 := fun σ H Q q => by
  refine tR_bind RV.rb q fun v a F F1 H1 ps ps1 s1 st1 hv q => ?_
  refine go_bind RV.rb s1 q fun u b F2 H2 ps2 s2 st2 hu q => ?_
  split at q
  · rename_i ed
    refine hr F2 H2 v u a b _ _ s2.le ((show Dp X.K F1 v a from hv).mono st2.grow) hu ed fun w F3 H3 g hw => ?_
    cases hw
    refine ⟨true, rfl, ?_⟩
    rw [if_pos rfl]
    have s3 := s2.gr g
    refine go_bind RV.rb s3 (Goal.rebase RV.rb q (.of_gr g)) fun w c F4 H4 ps4 s4 st4 hw q => ?_
    obtain ⟨d, ed', k⟩ := go_end s4 q
    exact hr' F4 H4 u w b c d Q s4.le ((show Dp X.K F2 u b from hu).mono (g.grow.trans st4.grow)) hw ed' k
  · rename_i ed
    refine hr F2 H2 v u a b _ _ s2.le ((show Dp X.K F1 v a from hv).mono st2.grow) hu ed fun w F3 H3 g hw => ?_
    cases hw
    refine ⟨false, rfl, ?_⟩
    rw [if_neg Bool.false_ne_true]
    exact q (.bl false) F3 H3 (.of_gr g) (s2.gr g) (.bl false)
  · exact q.elim
theorem gv_chain {op op' : CmpOp} {r r' : R2} {D D' : PyData → PyData → Option PyData} (ho : OpR X (compareOp op) r) (ho' : OpR X (compareOp op') r') (hr : OpD X.K r D) (hr' : OpD X.K r' D') (h1 : GV X Bo W e1 f1) (h2 : GV X Bo W e2 f2) (h3 : GV X Bo W e3 f3) (hm : lastMarks [op, op'] [e2, e3] = false := by with_unfolding_all rfl) :
    GV X Bo W (.Compare e1 [op, op'] [e2, e3] pos) (fChain D D' f1 f2 f3) := (pe_chain ho ho' h1 h2 h3 hm).imp (chain_data hr hr')
theorem gt_chain {op op' : CmpOp} {r r' : R2} {D D' : PyData → PyData → Option PyData} (ho : OpR X (compareOp op) r) (ho' : OpR X (compareOp op') r') (hr : OpD X.K r D) (hr' : OpD X.K r' D') (h1 : GV X Bo W e1 f1) (h2 : GV X Bo W e2 f2) (h3 : GV X Bo W e3 f3) (hm : lastMarks [op, op'] [e2, e3] = false := by with_unfolding_all rfl) :
    GT X Bo W (.Compare e1 [op, op'] [e2, e3] pos) (fTest (fChain D D' f1 f2 f3)) := (pt_chain ho ho' h1 h2 h3 hm).imp (test_data (chain_data hr hr'))

/-! ### x or y of lists -/
def truL : PV → Option Bool
  | .val (.list ds) => some (!ds.isEmpty)
  | .own (.list ds) => some (!ds.isEmpty)
  | .val (.tuple ds) => some (!ds.isEmpty)
  | _ => none
def fOrT (f1 f2 : PSt → Rs PV) : PSt → Rs PV := fun ps => (f1 ps).bind fun p ps1 => match truL p with
  | some true => .ok p ps1
  | some false => f2 ps1
  | none => .bad
theorem isEmpty_all {K : PySem.W.Frag} {F : Hp} {xs : List V} {ds : List PyData} (h : DpAll K F xs ds) : (!xs.isEmpty) = !ds.isEmpty := by cases h <;> rfl
theorem go_orT (h1 : GO X Bo W e fo1) (h2 : GO X Bo W (.BoolOp .Or (e2 :: es) pos) fo2) : GO X Bo W (.BoolOp .Or (e :: e2 :: es) pos) (fOrT fo1 fo2) := by
  refine (pe_orT h1 h2).imp fun σ H Q ⟨F, ps, sr, q⟩ => ⟨F, ps, sr, ?_⟩
  unfold fOrT at q
  cases e1 : fo1 ps with
  | bad => rw [e1] at q; exact q
  | exc x ps1 => rw [e1] at q; exact q
  | ok p ps1 =>
    rw [e1] at q
    intro v F1 H1 st s1 hv
    have q : Goal X.K X.mg Bo W (RO X.K) (match truL p with
      | some true => .ok p ps1
      | some false => fo2 ps1
      | none => .bad) F H σ ps Q := q
    cases et : truL p with
    | none => rw [et] at q; exact q.elim
    | some k =>
      rw [et] at q
      have tv : TruV X.K v H1 k := by
        match p, hv, et with
        | .val (.list ds), hv, et =>
          cases et
          cases (show Dp X.K F1 v (.list ds) from hv) with
          | lst s a => exact .inl ⟨_, s1.le.seq s, (isEmpty_all a).symm⟩
        | .val (.tuple ds), hv, et =>
          cases et
          cases (show Dp X.K F1 v (.tuple ds) from hv) with
          | tup s a => exact .inr (.inl ⟨_, same_sqt s1.le s, (isEmpty_all a).symm⟩)
        | .own (.list ds), hv, et =>
          cases et
          obtain ⟨a, rfl, ⟨hn, xs, ds', ed, hH, ha⟩, _⟩ := hv
          cases ed
          exact .inl ⟨xs, SqL.of hH, (isEmpty_all ha).symm⟩
      refine ⟨k, tv, ?_⟩
      cases k with
      | true => exact q v F1 H1 st s1 hv
      | false => exact ⟨F1, ps1, s1, Goal.rebase RO.rb q st⟩
theorem go_one {op} (h : GO X Bo W e fo) : GO X Bo W (.BoolOp op [e] pos) fo := pe_one h

/-! ### lists changed in place -/
def slotL (i : Nat) (ps : PSt) : Option (List PyData) := match ps[i]? with
  | some (some (.own (.list ds))) => some ds
  | _ => none
theorem slotL_at {i : Nat} {ps : PSt} {ds : List PyData} (h : slotL i ps = some ds) : ps[i]? = some (some (.own (.list ds))) := by
  unfold slotL at h
  split at h
  · rename_i d e; cases h; exact e
  · cases h
theorem tyV_list {K : PySem.W.Frag} {H : Hp} {a : Addr} {xs : List V} (h : H a = some (.lst xs)) : tyV K "list" (.ref a) H := .inl ⟨rfl, xs, SqL.of h⟩
/-- a method of the list at slot i that gives None -/
def fMeth (i : Nat) (D : List PyData → List PyData → Option (List PyData)) (fa : PSt → Rs (List PyData)) : PSt → Rs PyData := fun ps => match slotL i ps with
  | none => .bad
  | some _ => (fa ps).bind fun as ps1 => match slotL i ps1 with
    | none => .bad
    | some ds => match D ds as with
      | some ds' => .ok .none (ps1.set i (some (.own (.list ds'))))
      | none => .bad
/-- .. by data: l at a holds xs -/
def MethD (K : PySem.W.Frag) (r : V → List V → Hp → VK → Prop) (D : List PyData → List PyData → Option (List PyData)) : Prop := ∀ F H a xs ds vs as ds' Q, Same F H → F a = none → H a = some (.lst xs) → DpAll K F xs ds → DpAll K F vs as → D ds as = some ds' →
  (∀ xs', DpAll K F xs' ds' → Q .non (upd H a (.lst xs'))) → r (.ref a) vs H Q
theorem meth_data {r : V → List V → Hp → VK → Prop} {D : List PyData → List PyData → Option (List PyData)} {i : Nat} (hr : MethD X.K r D) : ∀ σ H Q, tR X.K X.mg Bo W (RV X.K) (fMeth i D fa) σ H Q → tBM X.K "list" r (tVar i) (tR X.K X.mg Bo W (RA X.K) fa) σ H Q := fun σ H Q ⟨F, ps, sr, q⟩ => by
  unfold fMeth at q
  cases e0 : slotL i ps with
  | none => rw [e0] at q; exact q.elim
  | some d0 =>
    rw [e0] at q
    obtain ⟨a, ha, _, xs0, _, _, hH0, _⟩ := sr.own (slotL_at e0)
    refine ⟨.ref a, ha, tyV_list hH0, ?_⟩
    refine go_bind RV.rb sr q fun vs as F2 H2 ps1 s1 st hvs q => ?_
    cases e1 : slotL i ps1 with
    | none => rw [e1] at q; exact q.elim
    | some ds =>
      rw [e1] at q
      have e1 := slotL_at e1
      obtain ⟨a', ha', hn, xs, ds2, ed, hH, hd⟩ := s1.own e1
      cases ed
      rw [ha] at ha'; cases ha'
      dsimp only at q
      cases e2 : D ds as with
      | none => rw [e2] at q; exact q.elim
      | some ds' =>
        rw [e2] at q
        refine hr F2 H2 a xs ds vs as ds' Q s1.le hn hH hd hvs e2 fun xs' hx' => ?_
        obtain ⟨s2, st2⟩ := s1.mut e1 ha hn (d' := .list ds') rfl hx'
        exact q .non F2 _ st2 s2 .non
def dAppend : List PyData → List PyData → Option (List PyData)
  | ds, [d] => if ds.length < sizeLine then some (ds ++ [d]) else none
  | _, _ => none
theorem append_ok {K : PySem.W.Frag} : MethD K rAppend dAppend := fun F H a xs ds vs as ds' Q hs hn hH hd hv e k => by
  unfold dAppend at e
  split at e
  · rename_i ds d
    split at e
    · rename_i hz
      cases e
      obtain ⟨v, rfl, h⟩ := dpall1 hv
      exact ⟨a, xs, v, rfl, rfl, hH, by rw [hd.length]; exact hz, k _ (hd.append (.cons h .nil))⟩
    · cases e
  · cases e
/-- x.append(e) -/
theorem gv_append (i : Nat) {px apos cpos : Pos} (h : GA X Bo W [e] fa) (hN : X.N[i]? = some x := by rfl) (hv : Vis X.env.scope x := by first | exact Or.inl rfl | exact Or.inr (Or.inl rfl) | exact Or.inr (Or.inr rfl)) (hd : (x == ("__debug__" : Str)) = false := by decide) (hcd : (x == ("__classdict__" : Str)) = false := by decide)
    (hbase : attributeBase (.Name x px) "append" X.env (eval (.Name x px) X.env) = eval (.Name x px) X.env := by rfl)
    (hfew : ((backTo cpos (starEach (e :: []) X.env)).all (fun x => !x.1) && (backToKw cpos (keywordEach [] X.env)).all (fun x => x.1.isSome)
      && decide ((e :: []).length + ([] : List Keyword).length + (if ([] : List Keyword).isEmpty then 0 else 1) < 30)) = true := by rfl)
    (hline : (apos.endLine == cpos.line) = true := by rfl) (hs : starEach (e :: []) X.env = (false, eval e X.env) :: starEach [] X.env := by rfl) (hplain : (backTo cpos (starEach [] X.env)).any (·.1) = false := by rfl) :
    GV X Bo W (.Call (.Attribute (.Name x px) "append" apos) [e] [] cpos) (fMeth i dAppend fa) :=
  (pe_bm PySem.F.plainAttrs_list PySem.F.slot_list_append PySem.F.type_list_append mt_append (pe_var hN hv hd hcd) h hbase hfew hline hs hplain).imp (meth_data append_ok)
/-- x[k] = e, x a slot's own list -/
def fSetIx (i : Nat) (fi f : PSt → Rs PyData) : PSt → Os := fun ps => (f ps).st fun v ps1 => match slotL i ps1 with
  | none => .bad
  | some _ => (fi ps1).st fun k ps2 => match slotL i ps2, k with
    | some ds, .int k => (match ixN ds.length k with
      | some j => .nx (ps2.set i (some (.own (.list (ds.set j v)))))
      | none => .bad)
    | _, _ => .bad
theorem gs_setIx (i : Nat) {px sp : Pos} {ei : Expr} {fi : PSt → Rs PyData} (h : GV X Bo W e f) (hi : GV X Bo W ei fi) (hN : X.N[i]? = some x := by rfl) (hv : Vis X.env.scope x := by first | exact Or.inl rfl | exact Or.inr (Or.inl rfl) | exact Or.inr (Or.inr rfl)) (hd : (x == ("__debug__" : Str)) = false := by decide) (hcd : (x == ("__classdict__" : Str)) = false := by decide)
    (ha : ∀ v, assign (.Subscript (.Name x px) ei sp) X.env v = (do
      let ov ← holding [v] (eval (.Name x px) X.env)
      let iv ← holding [v, ov] (eval ei X.env)
      standAt sp
      holding [v, ov, iv] (setItem ov iv v)
      release [v, ov, iv] []) := by intro _; rfl)
    (hs : swapsWithSole [.Subscript (.Name x px) ei sp] e pos.line X.env = pure false := by rfl) (hw : swappedStores [.Subscript (.Name x px) ei sp] e X.env = pure none := by rfl)
    (h1 : (assignEach [.Subscript (.Name x px) ei sp] X.env).map (·.2) = [assign (.Subscript (.Name x px) ei sp) X.env] := by rfl) : GS X Bo W (.Assign [.Subscript (.Name x px) ei sp] e pos) (fSetIx i fi f) := by
  refine (ps_asg h (pg_sub (pe_var hN hv hd hcd) hi set_list ha) hs hw h1).imp fun D σ H q => ?_
  refine tS_bind q fun v d F F1 H1 ps ps1 sr s1 st hv q => ?_
  have hv : Dp X.K F1 v d := hv
  cases e0 : slotL i ps1 with
  | none => rw [e0] at q; exact q.elim
  | some d0 =>
    rw [e0] at q
    obtain ⟨a, ha, _⟩ := s1.own (slotL_at e0)
    refine ⟨.ref a, ha, ?_⟩
    refine gos_bind (R1 := RV X.K) s1 q fun y k F2 H2 ps2 s2 st2 hy q => ?_
    cases e1 : slotL i ps2 with
    | none => rw [e1] at q; exact q.elim
    | some ds =>
      rw [e1] at q
      match k, hy, q with
      | .int k, hy, q =>
        cases hy
        dsimp only at q
        have e1 := slotL_at e1
        obtain ⟨a', ha', hn, xs, ds2, ed, hH, hd⟩ := s2.own e1
        cases ed
        rw [ha] at ha'; cases ha'
        cases ej : ixN ds.length k with
        | none => rw [ej] at q; exact q.elim
        | some j =>
          rw [ej] at q
          refine ⟨a, xs, k, j, rfl, rfl, hH, by rw [hd.length]; exact ej, ?_⟩
          obtain ⟨s3, st3⟩ := s2.mut e1 ha hn (d' := .list (ds.set j d)) rfl (hd.set j (hv.mono st2.grow))
          exact q σ F2 _ st3 s3
      | .none, _, q => exact q.elim
      | .bool _, _, q => exact q.elim
      | .str _, _, q => exact q.elim
      | .list _, _, q => exact q.elim
      | .tuple _, _, q => exact q.elim
      | .dict _, _, q => exact q.elim
/-- a, b = e1, e2 with plain local names -/
def fPar (i j : Nat) (f1 f2 : PSt → Rs PV) : PSt → Os := fun ps => (f1 ps).st fun p ps1 => (f2 ps1).st fun q ps2 => .nx ((ps2.set i (some p)).set j (some q))
theorem ro2 {K : PySem.W.Frag} {F H F1 H1 F2 H2 : Hp} {σ : St} {ps ps1 ps2 : PSt} {v w : V} {p q : PV} {i j : Nat} (hij : i ≠ j) (hi : Bo = none ∨ i ≠ 0) (hj : Bo = none ∨ j ≠ 0) (s2 : SR K Bo F2 H2 σ ps2) (st1 : Step F H σ ps F1 H1 σ ps1) (st2 : Step F1 H1 σ ps1 F2 H2 σ ps2)
    (h1 : RO K σ F H ps F1 H1 ps1 v p) (h2 : RO K σ F1 H1 ps1 F2 H2 ps2 w q) : SR K Bo F2 H2 ((σ.set i (some v)).set j (some w)) ((ps2.set i (some p)).set j (some q)) ∧ Step F H σ ps F2 H2 ((σ.set i (some v)).set j (some w)) ((ps2.set i (some p)).set j (some q)) := by
  have k1 := h1.keep st2
  obtain ⟨s3, st3⟩ := store_pv hi s2 (st1.trans st2) k1
  match q, h2 with
  | .val d, h2 => exact ⟨s3.setV hj h2, st3.trans .setV⟩
  | .own d, h2 =>
    obtain ⟨b, rfl, h4, h5, h6⟩ := h2
    have no : ¬ Owned (σ.set i (some v)) (ps2.set i (some p)) b := by
      match p, h1, k1 with
      | .val d', _, _ => exact fun z => h5 (owned_set (fun _ q => by cases q) z)
      | .own d', h1, k1 =>
        obtain ⟨a, rfl, ⟨_, _, _, _, ha, _⟩, n1, _⟩ := h1
        intro z
        rcases owned_setO z with y | y
        · subst y
          rcases h6 with y | y
          · exact n1 y
          · rw [ha] at y; cases y
        · exact h5 y
    refine ⟨s3.setO hj h4 no, st3.grow, st3.fresh, st3.keep, fun c z => ?_⟩
    rcases owned_setO z with y | y
    · subst y; exact st1.new h6
    · exact st3.own c y
/-- .. written from the right, but the values do not hang together -/
theorem gs_par (i j : Nat) {x y : Str} {px py pt pt2 : Pos} {kt k2 : Nat} (h1 : GO X Bo W e1 fo1) (h2 : GO X Bo W e2 fo2) (hc : X.calm = true) (hN : X.N.Nodup) (hx : X.env.scope.names.lookup x = some .local) (hy : X.env.scope.names.lookup y = some .local)
    (hw : swappedStores [.Tuple [.Name x px, .Name y py] kt pt] (.Tuple [e1, e2] k2 pt2) X.env = pure (some [x, y])) (hij : i ≠ j := by decide) (hbi : Bo = none ∨ i ≠ 0 := by first | exact .inl rfl | exact .inr (by decide)) (hbj : Bo = none ∨ j ≠ 0 := by first | exact .inl rfl | exact .inr (by decide))
    (hi : X.N[i]? = some x := by rfl) (hj : X.N[j]? = some y := by rfl) (hs1 : starEach (e1 :: [e2]) X.env = (false, eval e1 X.env) :: starEach [e2] X.env := by rfl) (hs2 : starEach (e2 :: []) X.env = (false, eval e2 X.env) :: starEach [] X.env := by rfl)
    (hs : swapsWithSole [.Tuple [.Name x px, .Name y py] kt pt] (.Tuple [e1, e2] k2 pt2) pos.line X.env = pure false := by rfl) :
    GS X Bo W (.Assign [.Tuple [.Name x px, .Name y py] kt pt] (.Tuple [e1, e2] k2 pt2) pos) (fPar i j fo1 fo2) := by
  refine (ps_par hc hN hi hj hij hx hy (pa_cons h1 (pa_cons h2 pa_nil hs2) hs1) hw hs).imp fun D σ H ⟨F, ps, sr, q⟩ => ?_
  show tR X.K X.mg Bo W (RO X.K) fo1 σ H _
  refine ⟨F, ps, sr, ?_⟩
  unfold fPar at q
  cases e1 : fo1 ps with
  | bad => rw [e1] at q; exact q
  | exc x ps1 => rw [e1] at q; exact fun cls dd F' H' st s1 r => q cls dd σ F' H' st s1 r
  | ok p ps1 =>
    rw [e1] at q
    intro v F1 H1 st1 s1 hv
    have q : GoalS X.K X.mg Bo W ((fo2 ps1).st fun q ps2 => .nx ((ps2.set i (some p)).set j (some q))) F H σ ps D := q
    show tR X.K X.mg Bo W (RO X.K) fo2 σ H1 _
    refine ⟨F1, ps1, s1, ?_⟩
    cases e2 : fo2 ps1 with
    | bad => rw [e2] at q; exact q
    | exc x ps2 => rw [e2] at q; exact fun cls dd F' H' st s2 r => q cls dd σ F' H' (st1.trans st) s2 r
    | ok r ps2 =>
      rw [e2] at q
      intro w F2 H2 st2 s2 hw
      obtain ⟨s3, st3⟩ := ro2 hij hbi hbj s2 st1 st2 hv hw
      exact ⟨v, w, rfl, q _ F2 H2 st3 s3⟩
theorem _root_.L2.Room.u65 {k : Nat} {A : Around} (r : Room k A) : A.units + 65 < cLine := by have := r.un; omega
end

theorem bool_if {c : Prop} [Decidable c] {b : Bool} {d : PyData} (h : (if c then some (PyData.bool b) else none) = some d) : ∃ k, d = .bool k := by
  split at h
  · cases h; exact ⟨_, rfl⟩
  · cases h
theorem bool_dEq (a b d : PyData) (h : dEq a b = some d) : ∃ k, d = .bool k := bool_if h
theorem bool_dNe (a b d : PyData) (h : dNe a b = some d) : ∃ k, d = .bool k := bool_if h
theorem bool_dLt (a b d : PyData) (h : dLt a b = some d) : ∃ k, d = .bool k := by
  unfold dLt at h
  cases e : intPair a b with
  | some p => rw [e] at h; cases h; exact ⟨_, rfl⟩
  | none => rw [e] at h; exact bool_if h
theorem bool_dI {D : Int → Int → Bool} (a b d : PyData) (h : dI (fun i j => some (.bool (D i j))) a b = some d) : ∃ k, d = .bool k := by
  unfold dI at h
  split at h
  · cases h; exact ⟨_, rfl⟩
  · cases h
theorem bool_dGt (a b d : PyData) (h : dGt a b = some d) : ∃ k, d = .bool k := bool_dI a b d h
theorem bool_dLe (a b d : PyData) (h : dLe a b = some d) : ∃ k, d = .bool k := bool_dI a b d h
theorem bool_dGe (a b d : PyData) (h : dGe a b = some d) : ∃ k, d = .bool k := bool_dI a b d h
theorem bool_dIs (a b d : PyData) (h : dIs a b = some d) : ∃ k, d = .bool k := by
  unfold dIs at h
  split at h <;> cases h <;> exact ⟨_, rfl⟩
theorem bool_dIsNot (a b d : PyData) (h : dIsNot a b = some d) : ∃ k, d = .bool k := by
  unfold dIsNot at h
  split at h <;> cases h <;> exact ⟨_, rfl⟩
theorem bool_dIn (a b d : PyData) (h : dIn a b = some d) : ∃ k, d = .bool k := by
  unfold dIn at h
  split at h
  · exact bool_if h
  · cases h
theorem bool_dNotIn (a b d : PyData) (h : dNotIn a b = some d) : ∃ k, d = .bool k := by
  unfold dNotIn at h
  split at h
  · exact bool_if h
  · cases h
end GL

/-! GLj: the end of a law -/
namespace GL
open PySem PySem.Spec L2
open PyProof.Rows hiding St
/-- a law over a head by facts, exceptions of the program's own within -/
theorem walk_ofEw {l : PySem.W.OpenLaw} {n k : Nat} {q : Program} {loose : List Str} {XP : (Str → Option Value) → Heap → Prop} {YP : World → Heap → Prop} {d : DefRec} {x : Str}
    (hn : l.most = some n) (hn2 : n ≤ sizeLine) (hdf : d.params.defaults = []) (hr : Room k callerA)
    (F : ∀ (w : World) (mg : Str → Option Value) (fa : Addr) (h : Heap), YP w h → h.Ns mainGlobals mg → mg d.name = some (.ref fa) →
      ∃ (K : PySem.W.Frag) (fd : FuncData) (sp : Sp), K.In h ∧ (∀ (s : Shared) (u : Value), BindsTo s fd ⟨[u], []⟩ [(x, u)]) ∧
        (∀ (H : Hp) (a : Addr) (ns : List Int), ns.length ≤ n → L2.Only H → SqL K H a (ns.map V.int) → sp [.ref a] H (fun v _ => v = .bl true) fun _ _ _ => False) ∧
        ∀ base : Heap, K.In base → base.Ns mainGlobals mg → FnOk l.prog w K mg base (L2.CX l.prog w) k fa fd [x] sp) :
    PySem.W.WalkO q loose XP YP l.row.toRowW d [] (fun f vs => PySem.call f vs) := by
  refine Att.attach_call hn hdf fun w s₀ s₁ mg mb fa o pm cd doc a vs ns G Y ho hd hcd hmg hobj hints hlen hg => ?_
  obtain ⟨K, fd, sp, KX, hb, hsp, hF⟩ := F w mg fa _ Y G.T.g hmg
  refine law_call KX G.T.g G.T.b G.T.builtins G.T.nolimit hg hobj hints (Nat.le_trans hlen hn2) hr hF hb (fun H hO hS => hsp H a ns hlen hO hS) fun H e s' h => ?_
  obtain ⟨_, _, _, _, _, _, _, _, _, _, _, _, z⟩ := h
  exact z.elim
theorem ints_dp {K : PySem.W.Frag} {H : Hp} : ∀ ns : List Int, DpAll K H (ns.map V.int) (ns.map PyData.int)
  | [] => .nil
  | n :: ns => .cons (.int n) (ints_dp ns)
/-- what a law's def promises, from its function -/
theorem law_sp {K : PySem.W.Frag} {mg : Str → Option Value} {M : List PyData → FR} (hM : ∀ ns : List Int, ns.length ≤ 63 → M [.list (ns.map PyData.int)] = .ok (.val (.bool true))) (H : Hp) (a : Addr) (ns : List Int) (hl : ns.length ≤ 63) (hS : SqL K H a (ns.map V.int)) :
    spP K mg 1 M [.ref a] H (fun v _ => v = .bl true) fun _ _ _ => False := by
  refine ⟨rfl, H, [.list (ns.map PyData.int)], .refl _, .cons (.lst hS (ints_dp ns)) .nil, ?_⟩
  rw [hM ns hl]
  intro v F' H' _ h
  have h : Dp K F' v (.bool true) := h
  cases h
  rfl
end GL

/-! GLk: what the functions of pure states give, by rules (Ev: an expression; Es: a statement) -/
namespace GL
open PySem PySem.Spec L2
open PyProof.Rows hiding St

def Ev {α : Type} (f : PSt → Rs α) (ps : PSt) (a : α) (ps' : PSt) : Prop := f ps = .ok a ps'
def Es (g : PSt → Os) (ps : PSt) (o : Os) : Prop := g ps = o
def Et (u : PyData → PSt → Option PSt) (d : PyData) (ps ps' : PSt) : Prop := u d ps = some ps'
def Ets (u : List PyData → PSt → Option PSt) (d : List PyData) (ps ps' : PSt) : Prop := u d ps = some ps'
section
variable {f f1 f2 f3 : PSt → Rs PyData} {fo fo1 fo2 : PSt → Rs PV} {fa : PSt → Rs (List PyData)} {c c1 c2 : PSt → Rs Bool} {g g1 g2 : PSt → Os} {ps ps1 ps2 ps3 ps4 : PSt} {a b d e : PyData} {p q : PV} {ds : List PyData} {i j n : Nat} {o : Os} {D D' : PyData → PyData → Option PyData}
theorem ev_K : Ev (fK d) ps d ps := rfl
theorem ev_N (h : ps[i]? = some (some (.val d))) : Ev (fN i) ps d ps := by unfold Ev fN; rw [h]
theorem ev_No (h : ps[i]? = some (some (.own (.list ds)))) : Ev (fN i) ps (.list ds) (ps.set i (some (.val (.list ds)))) := by unfold Ev fN; rw [h]
theorem ev_Mv (h : ps[i]? = some (some p)) : Ev (fMv i) ps p (ps.set i none) := by unfold Ev fMv; rw [h]
theorem ev_data (h : Ev fo ps p ps1) : Ev (fun ps => (fo ps).map PV.data) ps p.data ps1 := by unfold Ev at *; dsimp only; rw [h]; rfl
theorem ev_val (h : Ev f ps d ps1) : Ev (fun ps => (f ps).map PV.val) ps (.val d) ps1 := by unfold Ev at *; dsimp only; rw [h]; rfl
theorem ev_nil : Ev (fun ps => (.ok [] ps : Rs (List PyData))) ps [] ps := rfl
theorem ev_cons (h : Ev f ps d ps1) (t : Ev fa ps1 ds ps2) : Ev (fCons f fa) ps (d :: ds) ps2 := by unfold Ev at *; unfold fCons; rw [h]; dsimp only [Rs.bind]; rw [t]
theorem ev_bin (h1 : Ev f1 ps a ps1) (h2 : Ev f2 ps1 b ps2) (h : D a b = some d) : Ev (fBin D f1 f2) ps d ps2 := by unfold Ev at *; unfold fBin; rw [h1]; dsimp only [Rs.bind]; rw [h2]; dsimp only; rw [h]; rfl
theorem ev_un {D : PyData → Option PyData} (h1 : Ev f ps a ps1) (h : D a = some d) : Ev (fUn D f) ps d ps1 := by unfold Ev at *; unfold fUn; rw [h1]; dsimp only [Rs.bind]; rw [h]; rfl
theorem ev_binS (h0 : look i ps = some e) (h2 : Ev f2 ps b ps2) (h1 : look i ps2 = some a) (h : D a b = some d) : Ev (fBinS D i f2) ps d ps2 := by unfold Ev at *; unfold fBinS; rw [h0]; dsimp only; rw [h2]; dsimp only [Rs.bind]; rw [h1]; dsimp only; rw [h]; rfl
theorem ev_ixS (h0 : look i ps = some e) (h2 : Ev f2 ps b ps2) (h1 : look i ps2 = some a) (h : dIx a b = some d) : Ev (fIxS i f2) ps d ps2 := by unfold Ev at *; unfold fIxS; rw [h0]; dsimp only; rw [h2]; dsimp only [Rs.bind]; rw [h1]; dsimp only; rw [h]; rfl
theorem ev_lenS (h0 : look i ps = some e) (h : dLen [e] = some d) : Ev (fLenS i) ps d ps := by unfold Ev at *; unfold fLenS; rw [h0]; dsimp only; rw [h]; rfl
theorem ev_test {k : Bool} (h : Ev f ps (.bool k) ps1) : Ev (fTest f) ps k ps1 := by unfold Ev at *; unfold fTest; rw [h]; rfl
theorem ev_not {k : Bool} (h : Ev c ps k ps1) : Ev (fNot c) ps (!k) ps1 := by unfold Ev at *; unfold fNot; rw [h]; rfl
theorem ev_and {k l : Bool} (h1 : Ev c1 ps k ps1) (h2 : k = true → Ev c2 ps1 l ps2) (hp : k = false → ps2 = ps1) : Ev (fAnd c1 c2) ps (k && l) ps2 := by
  unfold Ev at *; unfold fAnd; rw [h1]; cases k with
  | true => dsimp only [Rs.bind]; rw [if_pos rfl, h2 rfl]; rfl
  | false => rw [hp rfl]; rfl
theorem ev_or {k l : Bool} (h1 : Ev c1 ps k ps1) (h2 : k = false → Ev c2 ps1 l ps2) (hp : k = true → ps2 = ps1) : Ev (fOr c1 c2) ps (k || l) ps2 := by
  unfold Ev at *; unfold fOr; rw [h1]; cases k with
  | false => dsimp only [Rs.bind]; rw [if_neg Bool.false_ne_true, h2 rfl]; rfl
  | true => rw [hp rfl]; rfl
theorem ev_andV {k l : Bool} (h1 : Ev f1 ps (.bool k) ps1) (h2 : k = true → Ev f2 ps1 (.bool l) ps2) (hp : k = false → ps2 = ps1) : Ev (fAndV f1 f2) ps (.bool (k && l)) ps2 := by
  have h0 := ev_test h1
  unfold Ev at *; unfold fAndV; rw [h0]; cases k with
  | true => dsimp only [Rs.bind]; rw [if_pos rfl, h2 rfl]; rfl
  | false => rw [hp rfl]; rfl
theorem ev_orV {k l : Bool} (h1 : Ev f1 ps (.bool k) ps1) (h2 : k = false → Ev f2 ps1 (.bool l) ps2) (hp : k = true → ps2 = ps1) : Ev (fOrV f1 f2) ps (.bool (k || l)) ps2 := by
  have h0 := ev_test h1
  unfold Ev at *; unfold fOrV; rw [h0]; cases k with
  | false => dsimp only [Rs.bind]; rw [if_neg Bool.false_ne_true, h2 rfl]; rfl
  | true => rw [hp rfl]; rfl
theorem ev_notV {k : Bool} (h : Ev f ps (.bool k) ps1) : Ev (fNotV f) ps (.bool (!k)) ps1 := by
  have h0 := ev_test h
  unfold Ev at *; unfold fNotV; rw [h0]; rfl
theorem ev_ifT (h : Ev c ps true ps1) (h1 : Ev f1 ps1 d ps2) : Ev (fIf c f1 f2) ps d ps2 := by unfold Ev at *; unfold fIf; rw [h]; dsimp only [Rs.bind]; rw [if_pos rfl, h1]
theorem ev_ifF (h : Ev c ps false ps1) (h1 : Ev f2 ps1 d ps2) : Ev (fIf c f1 f2) ps d ps2 := by unfold Ev at *; unfold fIf; rw [h]; dsimp only [Rs.bind]; rw [if_neg Bool.false_ne_true, h1]
theorem ev_tup (h : Ev fa ps ds ps1) (hz : ds.length ≤ 1000 := by first | decide | (simp only [List.length_cons, List.length_nil]; omega)) : Ev (fTup fa) ps (.tuple ds) ps1 := by
  unfold Ev at *; unfold fTup; rw [h]; dsimp only [Rs.bind]; rw [if_pos (by rw [sizeLine_eq]; omega)]
theorem ev_lst (h : Ev fa ps ds ps1) (hz : ds.length ≤ 1000 := by first | decide | (simp only [List.length_cons, List.length_nil]; omega)) : Ev (fLst fa) ps (.own (.list ds)) ps1 := by
  unfold Ev at *; unfold fLst; rw [h]; dsimp only [Rs.bind]; rw [if_pos (by rw [sizeLine_eq]; omega)]
theorem ev_app {DA : List PyData → Option PyData} (h : Ev fa ps ds ps1) (hd : DA ds = some d) : Ev (fApp DA fa) ps d ps1 := by unfold Ev at *; unfold fApp; rw [h]; dsimp only [Rs.bind]; rw [hd]; rfl
theorem ev_appO {DA : List PyData → Option (List PyData)} {es : List PyData} (h : Ev fa ps ds ps1) (hd : DA ds = some es) : Ev (fAppO DA fa) ps (.own (.list es)) ps1 := by unfold Ev at *; unfold fAppO; rw [h]; dsimp only [Rs.bind]; rw [hd]
theorem ev_isi {DB : PyData → Option Bool} {k : Bool} (h : Ev f ps d ps1) (hd : DB d = some k) : Ev (fIsi DB f) ps (.bool k) ps1 := by unfold Ev at *; unfold fIsi; rw [h]; dsimp only [Rs.bind]; rw [hd]
theorem ev_call {M : List PyData → FR} (h : Ev fa ps ds ps1) (hM : M ds = .ok p) (hn : ds.length = n := by rfl) : Ev (fCall n M fa) ps p ps1 := by unfold Ev at *; unfold fCall; rw [h]; dsimp only [Rs.bind]; rw [if_pos hn, hM]; rfl
theorem ev_callU {M : List PyData → List PyData → FRU} {u u' u0 : List PyData} (h0 : ps[i]? = some (some (.own (.list u0)))) (h : Ev fa ps ds ps1) (h1 : ps1[i]? = some (some (.own (.list u)))) (hM : M u ds = .ok p u') (hn : ds.length = n := by rfl) :
    Ev (fCallU i n M fa) ps p (ps1.set i (some (.own (.list u')))) := by
  unfold Ev at *; unfold fCallU
  have : isOwn i ps = true := by unfold isOwn; rw [h0]
  rw [this]
  rw [if_neg (by decide), h]; dsimp only [Rs.bind]; rw [if_pos hn, h1]; dsimp only; rw [hM]
theorem ev_partN : Ev fNoPart ps none ps := rfl
theorem ev_partS {k : Int} (h : Ev f ps (.int k) ps1) : Ev (fSomePart f) ps (some k) ps1 := by unfold Ev at *; unfold fSomePart; rw [h]; rfl
theorem ev_slT {l h : PSt → Rs (Option Int)} {lo hi : Option Int} (h1 : Ev f ps (.tuple ds) ps1) (h2 : Ev l ps1 lo ps2) (h3 : Ev h ps2 hi ps3) : Ev (fSl f l h) ps (.val (.tuple (cutD ds lo hi))) ps3 := by
  unfold Ev at *; unfold fSl; rw [h1]; dsimp only [Rs.bind]; rw [h2]; dsimp only; rw [h3]
theorem ev_slL {l h : PSt → Rs (Option Int)} {lo hi : Option Int} (h1 : Ev f ps (.list ds) ps1) (h2 : Ev l ps1 lo ps2) (h3 : Ev h ps2 hi ps3) : Ev (fSl f l h) ps (.own (.list (cutD ds lo hi))) ps3 := by
  unfold Ev at *; unfold fSl; rw [h1]; dsimp only [Rs.bind]; rw [h2]; dsimp only; rw [h3]
theorem ev_chainT (h1 : Ev f1 ps a ps1) (h2 : Ev f2 ps1 b ps2) (hd : D a b = some (.bool true)) (h3 : Ev f3 ps2 e ps3) (hd' : D' b e = some d) : Ev (fChain D D' f1 f2 f3) ps d ps3 := by
  unfold Ev at *; unfold fChain; rw [h1]; dsimp only [Rs.bind]; rw [h2]; dsimp only; rw [hd]; dsimp only; rw [h3]; dsimp only; rw [hd']; rfl
theorem ev_chainF (h1 : Ev f1 ps a ps1) (h2 : Ev f2 ps1 b ps2) (hd : D a b = some (.bool false)) : Ev (fChain D D' f1 f2 f3) ps (.bool false) ps2 := by
  unfold Ev at *; unfold fChain; rw [h1]; dsimp only [Rs.bind]; rw [h2]; dsimp only; rw [hd]
theorem ev_orT1 (h : Ev fo1 ps p ps1) (ht : truL p = some true) : Ev (fOrT fo1 fo2) ps p ps1 := by unfold Ev at *; unfold fOrT; rw [h]; dsimp only [Rs.bind]; rw [ht]
theorem ev_orT2 (h : Ev fo1 ps p ps1) (ht : truL p = some false) (h2 : Ev fo2 ps1 q ps2) : Ev (fOrT fo1 fo2) ps q ps2 := by unfold Ev at *; unfold fOrT; rw [h]; dsimp only [Rs.bind]; rw [ht]; dsimp only; rw [h2]
theorem ev_meth {DM : List PyData → List PyData → Option (List PyData)} {as es es0 es' : List PyData} (h0 : ps[i]? = some (some (.own (.list es0)))) (h : Ev fa ps as ps1) (h1 : ps1[i]? = some (some (.own (.list es)))) (hd : DM es as = some es') : Ev (fMeth i DM fa) ps .none (ps1.set i (some (.own (.list es')))) := by
  unfold Ev at *; unfold fMeth
  have z : slotL i ps = some es0 := by unfold slotL; rw [h0]
  have z1 : slotL i ps1 = some es := by unfold slotL; rw [h1]
  rw [z]; dsimp only; rw [h]; dsimp only [Rs.bind]; rw [z1]; dsimp only; rw [hd]

/-! ### walked -/
theorem ev_seqI (h : Ev f ps d ps1) (hd : seqOf d = some ds) : Ev (fSeqI f) ps ds ps1 := by unfold Ev at *; unfold fSeqI; rw [h]; dsimp only [Rs.bind]; rw [hd]; rfl
theorem ev_range1 {k : Int} (h : Ev fa ps [.int k] ps1) (h1 : k < 2 ^ 62 ∧ -(2 ^ 62) ≤ k) : Ev (fRange1 fa) ps (rangeD 0 k.toNat) ps1 := by unfold Ev at *; unfold fRange1; rw [h]; dsimp only [Rs.bind]; rw [if_pos h1]
theorem ev_range2 {k l : Int} (h : Ev fa ps [.int k, .int l] ps1) (h1 : (l < 2 ^ 62 ∧ -(2 ^ 62) ≤ l) ∧ (k < 2 ^ 62 ∧ -(2 ^ 62) ≤ k)) : Ev (fRange2 fa) ps (rangeD k (l - k).toNat) ps1 := by unfold Ev at *; unfold fRange2; rw [h]; dsimp only [Rs.bind]; rw [if_pos h1]
theorem ev_enum (h : Ev fa ps [.list ds] ps1) : Ev (fEnum fa) ps (enumD ds) ps1 := by unfold Ev at *; unfold fEnum; rw [h]; rfl
theorem ev_zipL {es : List PyData} (h : Ev fa ps [.list ds, .list es] ps1) : Ev (fZip fa) ps (zipD ds es) ps1 := by unfold Ev at *; unfold fZip; rw [h]; rfl
theorem ev_zipT {es : List PyData} (h : Ev fa ps [.tuple ds, .tuple es] ps1) : Ev (fZip fa) ps (zipD ds es) ps1 := by unfold Ev at *; unfold fZip; rw [h]; rfl
/-! ### comprehensions -/
theorem ev_lc {fi : PSt → Rs (List PyData)} {u : PyData → PSt → Option PSt} {fe : PSt → Rs PyData} {vs : List Nat} {es : List PyData} {p1 : PSt} (hi : Ev fi ps ds ps1) (hc : compL u c fe vs ds (wipeP ps1 vs) [] = .ok es p1) : Ev (fLc fi u c fe vs) ps (.own (.list es)) (restP ps1 p1 vs) := by
  unfold Ev at *; unfold fLc; rw [hi]; dsimp only [Rs.bind]; rw [hc]; rfl
/-- one item, kept -/
theorem compL_cons {u : PyData → PSt → Option PSt} {fe : PSt → Rs PyData} {vs : List Nat} {acc : List PyData} {r : Rs (List PyData)} (hu : Et u d ps ps1) (hc : Ev c ps1 true ps2) (he : Ev fe ps2 e ps3) (hz : acc.length < 16777216) (h : compL u c fe vs ds (wipeP ps3 vs) (acc ++ [e]) = r) : compL u c fe vs (d :: ds) ps acc = r := by
  unfold Ev Et at *; unfold compL; rw [hu]; dsimp only; rw [hc]; dsimp only [Rs.bind]; rw [if_pos rfl, he]; dsimp only; rw [if_pos (by rw [sizeLine_eq]; exact hz), h]
theorem compL_skip {u : PyData → PSt → Option PSt} {fe : PSt → Rs PyData} {vs : List Nat} {acc : List PyData} {r : Rs (List PyData)} (hu : Et u d ps ps1) (hc : Ev c ps1 false ps2) (h : compL u c fe vs ds (wipeP ps2 vs) acc = r) : compL u c fe vs (d :: ds) ps acc = r := by
  unfold Ev Et at *; unfold compL; rw [hu]; dsimp only; rw [hc]; dsimp only [Rs.bind]; rw [if_neg Bool.false_ne_true, h]
/-- all items, the same state before and behind each -/
theorem compL_map {u : PyData → PSt → Option PSt} {fe : PSt → Rs PyData} {vs : List Nat} (h : PyData → PyData) : ∀ (ds acc : List PyData), acc.length + ds.length ≤ 16777216 → (∀ d ∈ ds, ∃ p1 p2 p3, Et u d ps p1 ∧ Ev c p1 true p2 ∧ Ev fe p2 (h d) p3 ∧ wipeP p3 vs = ps) → compL u c fe vs ds ps acc = .ok (acc ++ ds.map h) ps
  | [], acc, _, _ => by unfold compL; simp
  | d :: ds, acc, hz, hh => by
    obtain ⟨p1, p2, p3, h1, h2, h3, h4⟩ := hh d List.mem_cons_self
    simp only [List.length_cons] at hz
    refine compL_cons h1 h2 h3 (by omega) ?_
    rw [h4, compL_map h ds (acc ++ [h d]) (by simp; omega) fun d hd => hh d (List.mem_cons_of_mem _ hd)]
    simp
theorem ev_cYes : Ev cYes ps true ps := rfl
/-! ### targets -/
theorem et_N : Et (uN i) d ps (ps.set i (some (.val d))) := rfl
theorem ets_nil : Ets uNil [] ps ps := rfl
theorem ets_cons {u : PyData → PSt → Option PSt} {us : List PyData → PSt → Option PSt} (h : Et u d ps ps1) (t : Ets us ds ps1 ps2) : Ets (uCons u us) (d :: ds) ps ps2 := by unfold Et Ets at *; unfold uCons; dsimp only; rw [h]; exact t
theorem et_T {us : List PyData → PSt → Option PSt} (h : Ets us ds ps ps1) (hn : ds.length = n := by rfl) : Et (uTup n us) (.tuple ds) ps ps1 := by unfold Et Ets at *; unfold uTup; dsimp only; rw [if_pos hn, h]
theorem et_L {us : List PyData → PSt → Option PSt} (h : Ets us ds ps ps1) (hn : ds.length = n := by rfl) : Et (uTup n us) (.list ds) ps ps1 := by unfold Et Ets at *; unfold uTup; dsimp only; rw [if_pos hn, h]
/-! ### statements -/
theorem es_skip : Es fSkip ps (.nx ps) := rfl
theorem es_seq (h1 : Es g1 ps (.nx ps1)) (h2 : Es g2 ps1 o) : Es (fSeq g1 g2) ps o := by unfold Es at *; unfold fSeq; rw [h1]; exact h2
theorem es_seqR (h1 : Es g1 ps (.ret p ps1)) : Es (fSeq g1 g2) ps (.ret p ps1) := by unfold Es at *; unfold fSeq; rw [h1]
theorem es_seqX {x : Exn} (h1 : Es g1 ps (.exc x ps1)) : Es (fSeq g1 g2) ps (.exc x ps1) := by unfold Es at *; unfold fSeq; rw [h1]
theorem es_expr (h : Ev f ps d ps1) : Es (fExpr f) ps (.nx ps1) := by unfold Ev Es at *; unfold fExpr; rw [h]; rfl
theorem es_exprX {x : Exn} (h : f ps = .exc x ps1) : Es (fExpr f) ps (.exc x ps1) := by unfold Es at *; unfold fExpr; rw [h]; rfl
theorem es_ret (h : Ev fo ps p ps1) : Es (fRet fo) ps (.ret p ps1) := by unfold Ev Es at *; unfold fRet; rw [h]; rfl
theorem es_set (h : Ev fo ps p ps1) : Es (fSet i fo) ps (.nx (ps1.set i (some p))) := by unfold Ev Es at *; unfold fSet; rw [h]; rfl
theorem es_asg {u : PyData → PSt → Option PSt} (h : Ev f ps d ps1) (hu : Et u d ps1 ps2) : Es (fAsg u f) ps (.nx ps2) := by unfold Ev Et Es at *; unfold fAsg; rw [h]; dsimp only [Rs.st]; rw [hu]
theorem es_par (h1 : Ev fo1 ps p ps1) (h2 : Ev fo2 ps1 q ps2) : Es (fPar i j fo1 fo2) ps (.nx ((ps2.set i (some p)).set j (some q))) := by unfold Ev Es at *; unfold fPar; rw [h1]; dsimp only [Rs.st]; rw [h2]
theorem es_setIx {fi : PSt → Rs PyData} {k : Int} {es es0 : List PyData} (h : Ev f ps d ps1) (h0 : ps1[i]? = some (some (.own (.list es0)))) (hi : Ev fi ps1 (.int k) ps2) (h1 : ps2[i]? = some (some (.own (.list es)))) (hj : ixN es.length k = some j) : Es (fSetIx i fi f) ps (.nx (ps2.set i (some (.own (.list (es.set j d)))))) := by
  unfold Ev Es at *; unfold fSetIx
  have z : slotL i ps1 = some es0 := by unfold slotL; rw [h0]
  have z1 : slotL i ps2 = some es := by unfold slotL; rw [h1]
  rw [h]; dsimp only [Rs.st]; rw [z]; dsimp only; rw [hi]; dsimp only; rw [z1]; dsimp only; rw [hj]
theorem es_ifT (h : Ev c ps true ps1) (h1 : Es g1 ps1 o) : Es (fIfS c g1 g2) ps o := by unfold Ev Es at *; unfold fIfS; rw [h]; dsimp only [Rs.st]; rw [if_pos rfl, h1]
theorem es_ifF (h : Ev c ps false ps1) (h1 : Es g2 ps1 o) : Es (fIfS c g1 g2) ps o := by unfold Ev Es at *; unfold fIfS; rw [h]; dsimp only [Rs.st]; rw [if_neg Bool.false_ne_true, h1]
theorem es_for {fi : PSt → Rs (List PyData)} {u : PyData → PSt → Option PSt} (h : Ev fi ps ds ps1) (h1 : forL u g ds ps1 = o) : Es (fFor fi u g) ps o := by unfold Ev Es at *; unfold fFor; rw [h]; exact h1
theorem forL_nil {u : PyData → PSt → Option PSt} : forL u g [] ps = .nx ps := rfl
theorem forL_cons {u : PyData → PSt → Option PSt} (hu : Et u d ps ps1) (h : Es g ps1 (.nx ps2)) (h2 : forL u g ds ps2 = o) : forL u g (d :: ds) ps = o := by unfold Et Es at *; unfold forL; rw [hu]; dsimp only; rw [h]; exact h2
theorem forL_ret {u : PyData → PSt → Option PSt} (hu : Et u d ps ps1) (h : Es g ps1 (.ret p ps2)) : forL u g (d :: ds) ps = .ret p ps2 := by unfold Et Es at *; unfold forL; rw [hu]; dsimp only; rw [h]
theorem es_whileT (h : Ev c ps true ps1) (h1 : Es g ps1 (.nx ps2)) (h2 : Es (fWhile c g) ps2 o) : Es (fWhile c g) ps o := by unfold Ev Es at *; rw [fWhile_eq, h]; dsimp only [Rs.st]; rw [if_pos rfl, h1]; exact h2
theorem es_whileF (h : Ev c ps false ps1) : Es (fWhile c g) ps (.nx ps1) := by unfold Ev Es at *; rw [fWhile_eq, h]; rfl
theorem es_exc {x : Exn} : Es (fun ps => .exc x ps) ps (.exc x ps) := rfl
theorem es_try {L : List Str} {x : Str} (h : Es g ps (.ret p ps1)) : Es (fTry L x g g1) ps (.ret p ps1) := by unfold Es at *; unfold fTry; rw [h]
theorem es_tryX {L : List Str} {x : Str} {z : Exn} (h : Es g ps (.exc z ps1)) (hz : z.cls = x) (h1 : Es g1 ps1 (.ret p ps2)) : Es (fTry L x g g1) ps (.ret p ps2) := by unfold Es at *; unfold fTry; rw [h]; dsimp only; rw [if_pos hz, h1]; rfl
theorem ret_callX {M : List PyData → FR} {x : Exn} (h : Ev fa ps ds ps1) (hM : M ds = .exc x) (hn : ds.length = n := by rfl) : Es (fRet (fCall n M fa)) ps (.exc x ps1) := by unfold Ev Es at *; unfold fRet fCall; rw [h]; dsimp only [Rs.bind]; rw [if_pos hn, hM]; rfl
theorem exc_callX {M : List PyData → FR} {x : Exn} (h : Ev fa ps ds ps1) (hM : M ds = .exc x) (hn : ds.length = n := by rfl) : (fun ps => ((fCall n M fa) ps).map PV.data) ps = .exc x ps1 := by unfold Ev at *; dsimp only; unfold fCall; rw [h]; dsimp only [Rs.bind]; rw [if_pos hn, hM]; rfl
/-- a def's end -/
theorem fin_ret (h : Es g ps (.ret p ps1)) : (g ps).fin = .ok p := by unfold Es at h; rw [h]; rfl
theorem fin_nx (h : Es g ps (.nx ps1)) : (g ps).fin = .ok (.val .none) := by unfold Es at h; rw [h]; rfl
theorem fin_exc {x : Exn} (h : Es g ps (.exc x ps1)) : (g ps).fin = .exc x := by unfold Es at h; rw [h]; rfl
theorem finU_ret (h : Es g ps (.ret p ps1)) : (g ps).finU = .ok p (uAt ps1) := by unfold Es at h; rw [h]; rfl
end
/-! ### kinds -/
theorem isa_eq {t : String} {d : PyData} {b : Bool} (h : kitB (tyName d) t = some b) : isaD t d = some b := h
theorem isa2_eq {t t2 : String} {d : PyData} {a b : Bool} (h1 : isaD t d = some a) (h2 : isaD t2 d = some b) : isa2 t t2 d = some (a || b) := by unfold isa2; rw [h1, h2]
end GL

/-! GLl: what the operations on data give at shown values; steps -/
namespace GL
open PySem PySem.Spec L2
open PyProof.Rows hiding St
section
variable {f f1 f2 f3 : PSt → Rs PyData} {fo fo1 fo2 : PSt → Rs PV} {fa : PSt → Rs (List PyData)} {c c1 c2 : PSt → Rs Bool} {g g1 g2 : PSt → Os} {ps ps1 ps2 ps3 ps4 : PSt} {a b d e : PyData} {p q : PV} {ds es : List PyData} {i j n : Nat} {o : Os}
theorem es_seqS (h : Ev fo ps p ps1) (hs : ps1.set i (some p) = ps2) (h2 : Es g ps2 o) : Es (fSeq (fSet i fo) g) ps o := by subst hs; exact es_seq (es_set h) h2
theorem es_setS (h : Ev fo ps p ps1) (hs : ps1.set i (some p) = ps2) : Es (fSet i fo) ps (.nx ps2) := by subst hs; exact es_set h
theorem ev_MvS (h : ps[i]? = some (some p)) (hs : ps.set i none = ps1) : Ev (fMv i) ps p ps1 := by subst hs; exact ev_Mv h
theorem ev_NoS (h : ps[i]? = some (some (.own (.list ds)))) (hs : ps.set i (some (.val (.list ds))) = ps1) : Ev (fN i) ps (.list ds) ps1 := by subst hs; exact ev_No h
theorem et_NS (hs : ps.set i (some (.val d)) = ps1) : Et (uN i) d ps ps1 := by subst hs; exact et_N
theorem ev_lcS {fi : PSt → Rs (List PyData)} {u : PyData → PSt → Option PSt} {fe : PSt → Rs PyData} {vs : List Nat} {es : List PyData} {p0 p1 p2 : PSt} (hi : Ev fi ps ds ps1) (hw : wipeP ps1 vs = p0) (hc : compL u c fe vs ds p0 [] = .ok es p1) (hr : restP ps1 p1 vs = p2) : Ev (fLc fi u c fe vs) ps (.own (.list es)) p2 := by subst hw hr; exact ev_lc hi hc
theorem ev_andP {k l : Bool} (h1 : Ev c1 ps k ps) (h2 : Ev c2 ps l ps) : Ev (fAnd c1 c2) ps (k && l) ps := ev_and h1 (fun _ => h2) fun _ => rfl
theorem ev_orP {k l : Bool} (h1 : Ev c1 ps k ps) (h2 : Ev c2 ps l ps) : Ev (fOr c1 c2) ps (k || l) ps := ev_or h1 (fun _ => h2) fun _ => rfl
theorem ev_andVP {k l : Bool} (h1 : Ev f1 ps (.bool k) ps) (h2 : Ev f2 ps (.bool l) ps) : Ev (fAndV f1 f2) ps (.bool (k && l)) ps := ev_andV h1 (fun _ => h2) fun _ => rfl
theorem ev_orVP {k l : Bool} (h1 : Ev f1 ps (.bool k) ps) (h2 : Ev f2 ps (.bool l) ps) : Ev (fOrV f1 f2) ps (.bool (k || l)) ps := ev_orV h1 (fun _ => h2) fun _ => rfl
theorem ev_andF (h1 : Ev c1 ps false ps1) : Ev (fAnd c1 c2) ps false ps1 := by unfold Ev at *; unfold fAnd; rw [h1]; rfl
theorem ev_orF (h1 : Ev c1 ps true ps1) : Ev (fOr c1 c2) ps true ps1 := by unfold Ev at *; unfold fOr; rw [h1]; rfl
theorem ev_andVF (h1 : Ev f1 ps (.bool false) ps1) : Ev (fAndV f1 f2) ps (.bool false) ps1 := by have h0 := ev_test h1; unfold Ev at *; unfold fAndV; rw [h0]; rfl
theorem ev_orVF (h1 : Ev f1 ps (.bool true) ps1) : Ev (fOrV f1 f2) ps (.bool true) ps1 := by have h0 := ev_test h1; unfold Ev at *; unfold fOrV; rw [h0]; rfl
theorem ev_to {α : Type} {f : PSt → Rs α} {a b : α} {ps ps1 ps2 : PSt} (h : Ev f ps a ps1) (ha : a = b) (hp : ps1 = ps2) : Ev f ps b ps2 := by subst ha hp; exact h
theorem es_to {o1 : Os} (h : Es g ps o1) (ho : o1 = o) : Es g ps o := by subst ho; exact h
theorem fin_cv {M : FR} {p q : PV} (h : M = .ok p) (e : p = q) : M = .ok q := by subst e; exact h
end
theorem ev_dataE {f : PSt → Rs PV} {ps ps1 : PSt} {p : PV} {d : PyData} (h : Ev f ps p ps1) (e : p.data = d) : Ev (fun ps => (f ps).map PV.data) ps d ps1 := by subst e; exact ev_data h
theorem ev_notE {c : PSt → Rs Bool} {ps ps1 : PSt} {k l : Bool} (h : Ev c ps k ps1) (e : (!k) = l) : Ev (fNot c) ps l ps1 := by subst e; exact ev_not h
theorem ev_notVE {f : PSt → Rs PyData} {ps ps1 : PSt} {k l : Bool} (h : Ev f ps (.bool k) ps1) (e : (!k) = l) : Ev (fNotV f) ps (.bool l) ps1 := by subst e; exact ev_notV h
section
variable {f f1 f2 f3 : PSt → Rs PyData} {fo fo1 fo2 : PSt → Rs PV} {fa : PSt → Rs (List PyData)} {c c1 c2 : PSt → Rs Bool} {g g1 g2 : PSt → Os} {ps ps1 ps2 ps3 ps4 : PSt} {a b d e : PyData} {p q : PV} {ds es : List PyData} {i j n : Nat} {o : Os}
theorem es_seqA {u : PyData → PSt → Option PSt} (h : Ev f ps d ps1) (hu : Et u d ps1 ps2) (h2 : Es g2 ps2 o) : Es (fSeq (fAsg u f) g2) ps o := es_seq (es_asg h hu) h2
theorem es_seqE (h : Ev f ps d ps1) (h2 : Es g2 ps1 o) : Es (fSeq (fExpr f) g2) ps o := es_seq (es_expr h) h2
theorem ev_tupE (h : Ev fa ps ds ps1) (hz : ds.length ≤ 1000) : Ev (fTup fa) ps (.tuple ds) ps1 := ev_tup h hz
theorem ev_lstE (h : Ev fa ps ds ps1) (hz : ds.length ≤ 1000) : Ev (fLst fa) ps (.own (.list ds)) ps1 := ev_lst h hz
theorem ev_callE {M : List PyData → FR} (h : Ev fa ps ds ps1) (hn : ds.length = n) (hM : M ds = .ok p) : Ev (fCall n M fa) ps p ps1 := ev_call h hM hn
theorem ev_callUE {M : List PyData → List PyData → FRU} {u u' u0 : List PyData} (h0 : ps[i]? = some (some (.own (.list u0)))) (h : Ev fa ps ds ps1) (h1 : ps1[i]? = some (some (.own (.list u)))) (hn : ds.length = n) (hM : M u ds = .ok p u') (hs : ps1.set i (some (.own (.list u'))) = ps2) : Ev (fCallU i n M fa) ps p ps2 := by subst hs; exact ev_callU h0 h h1 hM hn
theorem et_TE {us : List PyData → PSt → Option PSt} (hn : ds.length = n) (h : Ets us ds ps ps1) : Et (uTup n us) (.tuple ds) ps ps1 := et_T h hn
theorem et_LE {us : List PyData → PSt → Option PSt} (hn : ds.length = n) (h : Ets us ds ps ps1) : Et (uTup n us) (.list ds) ps ps1 := et_L h hn
end
/-! ### data -/
section
variable {i j : Int} {xs ys : List PyData} {x y : Str} {a b : Bool}
theorem dAdd_i : dAdd (.int i) (.int j) = some (.int (i + j)) := rfl
theorem dSub_i : dSub (.int i) (.int j) = some (.int (i - j)) := rfl
theorem dMul_i (h : (-(2 ^ 64) < i ∧ i < 2 ^ 64) ∨ (-(2 ^ 64) < j ∧ j < 2 ^ 64)) : dMul (.int i) (.int j) = some (.int (i * j)) := if_pos h
theorem dMod_i (h : 0 < j) : dMod (.int i) (.int j) = some (.int (i % j)) := if_pos h
theorem dFdiv_i (h : 0 < j ∧ j < 1073741824) : dFdiv (.int i) (.int j) = some (.int (i / j)) := if_pos h
theorem dAdd_t (h : xs.length + ys.length ≤ 16777216) : dAdd (.tuple xs) (.tuple ys) = some (.tuple (xs ++ ys)) := by unfold dAdd; dsimp only; rw [sizeLine_eq, if_pos h]
theorem dLt_i : dLt (.int i) (.int j) = some (.bool (decide (i < j))) := rfl
theorem dGt_i : dGt (.int i) (.int j) = some (.bool (decide (j < i))) := rfl
theorem dLe_i : dLe (.int i) (.int j) = some (.bool (decide (i ≤ j))) := rfl
theorem dGe_i : dGe (.int i) (.int j) = some (.bool (decide (j ≤ i))) := rfl
theorem sh_int : SeqAt.shaped (.int i) = true := by unfold SeqAt.shaped; simp [PyData.canLay0, PyData.depth]
theorem sh_bool : SeqAt.shaped (.bool a) = true := by unfold SeqAt.shaped; simp [PyData.canLay0, PyData.depth]
theorem sh_none : SeqAt.shaped .none = true := by unfold SeqAt.shaped; simp [PyData.canLay0, PyData.depth]
theorem canAll_ints : ∀ l : List Int, PyData.canLayAll0 (l.map PyData.int) = true
  | [] => rfl
  | _ :: l => by simp only [List.map_cons, PyData.canLayAll0, canAll_ints l]; rfl
theorem depth_ints : ∀ l : List Int, PyData.depthAll (l.map PyData.int) = 0
  | [] => rfl
  | _ :: l => by simp only [List.map_cons, PyData.depthAll, depth_ints l]; rfl
theorem eqvAll_ints : ∀ l m : List Int, PyData.eqvAll (l.map PyData.int) (m.map PyData.int) = decide (l = m)
  | [], [] => by simp [PyData.eqvAll]
  | [], _ :: _ => by simp [PyData.eqvAll]
  | _ :: _, [] => by simp [PyData.eqvAll]
  | a :: l, b :: m => by
    simp only [List.map_cons, PyData.eqvAll, eqvAll_ints l m, PyData.eqv, List.cons.injEq, Bool.decide_and]
    rfl
theorem eqv_int : PyData.eqv (.int i) (.int j) = decide (i = j) := by simp [PyData.eqv]; rfl
theorem eqv_bool : PyData.eqv (.bool a) (.bool b) = decide (a = b) := by cases a <;> cases b <;> rfl
theorem dEq_i : dEq (.int i) (.int j) = some (.bool (decide (i = j))) := by unfold dEq; rw [if_pos ⟨sh_int, sh_int⟩, eqv_int]
theorem dNe_i : dNe (.int i) (.int j) = some (.bool (!decide (i = j))) := by unfold dNe; rw [if_pos ⟨sh_int, sh_int⟩, eqv_int]
theorem dEq_b : dEq (.bool a) (.bool b) = some (.bool (decide (a = b))) := by unfold dEq; rw [if_pos ⟨sh_bool, sh_bool⟩, eqv_bool]
theorem dNe_b : dNe (.bool a) (.bool b) = some (.bool (!decide (a = b))) := by unfold dNe; rw [if_pos ⟨sh_bool, sh_bool⟩, eqv_bool]
theorem dLen_l : dLen [.list xs] = some (.int xs.length) := rfl
theorem dLen_t : dLen [.tuple xs] = some (.int xs.length) := rfl
theorem dAbs_i : dAbs [.int i] = some (.int (if i < 0 then -i else i)) := rfl
theorem dInt_i : dInt [.int i] = some (.int i) := rfl
theorem dInt_b : dInt [.bool a] = some (.int (if a then 1 else 0)) := rfl
theorem dTuple_l : dTuple [.list xs] = some (.tuple xs) := rfl
theorem dTuple_t : dTuple [.tuple xs] = some (.tuple xs) := rfl
theorem dList_l : dList [.list xs] = some xs := rfl
theorem dList_t : dList [.tuple xs] = some xs := rfl
theorem dMin2_i : dMin2 [.int i, .int j] = some (.int (if j < i then j else i)) := rfl
theorem dMax2_i : dMax2 [.int i, .int j] = some (.int (if j > i then j else i)) := rfl
theorem boolsOf_map : ∀ l : List Bool, boolsOf (l.map PyData.bool) = some l
  | [] => rfl
  | b :: l => by simp only [List.map_cons, boolsOf, boolsOf_map l]; rfl
theorem dAll_bs {l : List Bool} (h : xs = l.map PyData.bool) : dAll [.list xs] = some (.bool (l.all id)) := by subst h; unfold dAll; dsimp only; rw [boolsOf_map]; rfl
theorem dAny_bs {l : List Bool} (h : xs = l.map PyData.bool) : dAny [.list xs] = some (.bool (l.any id)) := by subst h; unfold dAny; dsimp only; rw [boolsOf_map]; rfl
theorem dAll_true (h : ∀ d ∈ xs, d = .bool true) : dAll [.list xs] = some (.bool true) := by
  have e : xs = (List.replicate xs.length true).map PyData.bool := by
    rw [List.map_replicate]; exact List.eq_replicate_iff.mpr ⟨rfl, h⟩
  rw [dAll_bs e]; congr 2; exact List.all_eq_true.mpr fun b hb => by rw [(List.mem_replicate.mp hb).2]; rfl
theorem dIx_t {n : Nat} {d : PyData} (h : xs[n]? = some d) : dIx (.tuple xs) (.int n) = some d := by
  have hn : n < xs.length := (List.getElem?_eq_some_iff.mp h).1
  unfold dIx; dsimp only; unfold L2.atI
  have : ixN xs.length (n : Int) = some n := by
    unfold ixN; simp; omega
  rw [this]; exact h
theorem dIx_l {n : Nat} {d : PyData} (h : xs[n]? = some d) : dIx (.list xs) (.int n) = some d := by
  have hn : n < xs.length := (List.getElem?_eq_some_iff.mp h).1
  unfold dIx; dsimp only; unfold L2.atI
  have : ixN xs.length (n : Int) = some n := by
    unfold ixN; simp; omega
  rw [this]; exact h
theorem cutD_from {n : Nat} (h : n ≤ xs.length) : cutD xs (some (n : Int)) none = xs.drop n := by
  unfold cutD; rw [HT.sIx_nat, HT.sIx_none, Nat.min_eq_left h]
  exact List.take_of_length_le (by simp)
theorem cutD_to {n : Nat} : cutD xs none (some (n : Int)) = xs.take n := by
  unfold cutD; rw [HT.sIx_nat, HT.sIx_none]; simp
theorem dAdd_iE {k : Int} (h : (i + j) = k) : dAdd (.int i) (.int j) = some (.int k) := by subst h; exact dAdd_i
theorem dSub_iE {k : Int} (h : (i - j) = k) : dSub (.int i) (.int j) = some (.int k) := by subst h; exact dSub_i
theorem dLt_iE {k : Bool} (h : (decide (i < j)) = k) : dLt (.int i) (.int j) = some (.bool k) := by subst h; exact dLt_i
theorem dGt_iE {k : Bool} (h : (decide (j < i)) = k) : dGt (.int i) (.int j) = some (.bool k) := by subst h; exact dGt_i
theorem dLe_iE {k : Bool} (h : (decide (i ≤ j)) = k) : dLe (.int i) (.int j) = some (.bool k) := by subst h; exact dLe_i
theorem dGe_iE {k : Bool} (h : (decide (j ≤ i)) = k) : dGe (.int i) (.int j) = some (.bool k) := by subst h; exact dGe_i
theorem dEq_iE {k : Bool} (h : (decide (i = j)) = k) : dEq (.int i) (.int j) = some (.bool k) := by subst h; exact dEq_i
theorem dNe_iE {k : Bool} (h : (!decide (i = j)) = k) : dNe (.int i) (.int j) = some (.bool k) := by subst h; exact dNe_i
theorem dEq_bE {k : Bool} (h : (decide (a = b)) = k) : dEq (.bool a) (.bool b) = some (.bool k) := by subst h; exact dEq_b
theorem dNe_bE {k : Bool} (h : (!decide (a = b)) = k) : dNe (.bool a) (.bool b) = some (.bool k) := by subst h; exact dNe_b
theorem dMul_iE {k : Int} (h : (-(2 ^ 64) < i ∧ i < 2 ^ 64) ∨ (-(2 ^ 64) < j ∧ j < 2 ^ 64)) (e : i * j = k) : dMul (.int i) (.int j) = some (.int k) := by subst e; exact dMul_i h
theorem dMod_iE {k : Int} (h : 0 < j) (e : i % j = k) : dMod (.int i) (.int j) = some (.int k) := by subst e; exact dMod_i h
theorem dFdiv_iE {k : Int} (h : 0 < j ∧ j < 1073741824) (e : i / j = k) : dFdiv (.int i) (.int j) = some (.int k) := by subst e; exact dFdiv_i h
theorem dLen_lE {k : Int} (h : (xs.length : Int) = k) : dLen [.list xs] = some (.int k) := by subst h; rfl
theorem dLen_tE {k : Int} (h : (xs.length : Int) = k) : dLen [.tuple xs] = some (.int k) := by subst h; rfl
theorem look_val {i : Nat} {ps : PSt} {d : PyData} (h : ps[i]? = some (some (.val d))) : look i ps = some d := by unfold look; rw [h]; rfl
theorem look_own {i : Nat} {ps : PSt} {d : PyData} (h : ps[i]? = some (some (.own d))) : look i ps = some d := by unfold look; rw [h]; rfl
theorem data_val {d : PyData} : (PV.val d).data = d := rfl
theorem data_own {d : PyData} : (PV.own d).data = d := rfl
theorem compL_map0 {c : PSt → Rs Bool} {ps : PSt} {u : PyData → PSt → Option PSt} {fe : PSt → Rs PyData} {vs : List Nat} (h : PyData → PyData) (ds : List PyData) (hl : ds.length ≤ 16777216) (hh : ∀ d ∈ ds, ∃ p1 p2 p3, Et u d ps p1 ∧ Ev c p1 true p2 ∧ Ev fe p2 (h d) p3 ∧ wipeP p3 vs = ps) : compL u c fe vs ds ps [] = .ok (ds.map h) ps := by
  have := compL_map h ds [] (by simpa using hl) hh
  simpa using this
theorem ev_KE {d : PyData} {ps ps1 : PSt} (hp : ps = ps1) : Ev (fK d) ps d ps1 := by subst hp; exact ev_K
theorem ev_nilE {ps ps1 : PSt} (hp : ps = ps1) : Ev (fun ps => (.ok [] ps : Rs (List PyData))) ps [] ps1 := by subst hp; exact ev_nil
theorem ev_NE {d : PyData} {i : Nat} {ps ps1 : PSt} (h : ps[i]? = some (some (.val d))) (hp : ps = ps1) : Ev (fN i) ps d ps1 := by subst hp; exact ev_N h
theorem fin_retE {g : PSt → Os} {ps ps1 : PSt} {p q : PV} (h : Es g ps (.ret p ps1)) (e : p = q) : (g ps).fin = .ok q := by subst e; exact fin_ret h
theorem finU_retE {g : PSt → Os} {ps ps1 : PSt} {p q : PV} {u : List PyData} (h : Es g ps (.ret p ps1)) (e : p = q) (eu : uAt ps1 = u) : (g ps).finU = .ok q u := by subst e eu; exact finU_ret h
theorem dIx_t0 {xs : List PyData} {d : PyData} (h : xs[0]? = some d) : dIx (.tuple xs) (.int 0) = some d := dIx_t (n := 0) h
theorem dIx_l0 {xs : List PyData} {d : PyData} (h : xs[0]? = some d) : dIx (.list xs) (.int 0) = some d := dIx_l (n := 0) h
end
end GL

/-! GSa: sets whose items are tuples of any kind of key, fewer than 64 (the probing of tables is HandS.TupSets's) -/
namespace GS
open PySem PySem.Spec PyProof.Rows L2
/-- a kind of key that stands in a set: asking shows nothing, its hash is that of its value alone -/
structure SK (P : Program) (w : World) (K : Type) [DecidableEq K] where
  kd : HeapKind P w K
  cls : ∀ {A : Around} {E : Value → Shared → Prop} {s : Shared} {k : K} {b : Addr} {Q : Bool → Shared → Prop}, kd.is s.heap k b → Q false s → wpAny (model P w) A (ofAClassStatement 8 (.ref b)) Q E s
  byv : ∀ {A : Around} {E : Value → Shared → Prop} {s : Shared} {k : K} {b : Addr} {Q : Bool → Shared → Prop}, kd.is s.heap k b → Q true s → wpAny (model P w) A (hashByValue 8 (.ref b)) Q E s
  keep : ∀ {h h' : Heap} {k : K} {b : Addr}, kd.is h k b → (∀ c o vs n, h.get? c = some o → o.data = .seq vs n → h'.get? c = some o) → kd.is h' k b
section
variable {P : Program} {w : World} {K : Type} [DecidableEq K] (G : SK P w K)
variable {A : Around} {E : Value → Shared → Prop} {s : Shared}
abbrev SK.hs (k : K) : Int := G.kd.hash k
/-- where the search for the hash h stands at its c-th step -/
abbrev at0 (m : Nat) (h : Int) : SetTable.Probe := runAt m (SetTable.bits h % (m + 1)) (SetTable.bits h)
theorem way_eq (m : Nat) (h : Int) (c : Nat) : way m h c = (nth m (at0 m h) c).j := rfl
theorem nth_dummy (m : Nat) : ∀ (n : Nat) (p : SetTable.Probe), p.dummy = none → (nth m p n).dummy = none
  | 0, _, h => h
  | n + 1, p, h => by
    refine nth_dummy m n (adv m p) ?_
    unfold adv; split <;> exact h
include G in
theorem seen_none {k : K} {b : Addr} {Q : Bool → Shared → Prop} (hb : G.kd.is s.heap k b) (h : Q false s) : ∀ {ys : List Value}, (∀ y ∈ ys, ∃ j c, y = Value.ref c ∧ G.kd.is s.heap j c) → wpAny (model P w) A (searchCouldBeSeen (.ref b) ys) Q E s := by
  intro ys hy
  unfold searchCouldBeSeen
  refine wpAny_bind (wpAny_forIn_list _ (fun l (r : Option Bool × Unit) z => r.1 = none ∧ z = s ∧ ∀ y ∈ l, ∃ j c, y = Value.ref c ∧ G.kd.is s.heap j c) _ ?_ ?_ _ _ ⟨rfl, rfl, hy⟩)
  · rintro y l r z ⟨_, rfl, q⟩
    obtain ⟨j, c, rfl, hc⟩ := q y List.mem_cons_self
    have q' := fun u (hu : u ∈ l) => q u (List.mem_cons_of_mem _ hu)
    dsimp only
    by_cases e : (b == c || (carriedByValue (.ref b) && carriedByValue (.ref c))) = true
    · exact wp_if_pos e (wpAny_pure ⟨rfl, rfl, q'⟩)
    · refine wp_if_neg e (wpAny_bind (G.kd.quiet hb ?_))
      simp only [Bool.not_true, Bool.false_eq_true, if_false]
      refine wpAny_bind (G.kd.quiet hc ?_)
      simp only [Bool.not_true, Bool.false_eq_true, if_false]
      refine wpAny_bind (G.cls hb ?_)
      simp only [Bool.false_eq_true, if_false]
      refine wpAny_bind (G.cls hc ?_)
      simp only [Bool.false_eq_true, if_false]
      exact wpAny_pure ⟨rfl, rfl, q'⟩
  · rintro ⟨r1, r2⟩ z ⟨e, rfl, _⟩
    simp only at e
    subst e
    exact wpAny_pure h
/-- the rows of a set with the items L -/
def rws (L : List (Addr × K)) : List (Int × Value) := L.map fun p => (G.kd.hash p.2, .ref p.1)
/-- the set at a, with the items L -/
structure Tb (h : Heap) (a : Addr) (L : List (Addr × K)) (es : Array (Int × Value)) (ep : Nat) (t : SetTable) : Prop where
  obj : ∃ o, h.get? a = some o ∧ o.ExactSet ∧ o.data = .set es ep t
  rw : es.toList = rws G L
  tb : TabOk t (L.map fun p => G.kd.hash p.2)
  dis : (L.map (·.2)).Nodup
  its : ∀ p ∈ L, G.kd.is h p.2 p.1
  pl : t.plain = true
  ld : w.params.followText "set-order" = true ∨ t.led = true
  rm : L.length * 5 < t.mask * 3
  fw : L.length < 64
variable {G} {a : Addr} {L : List (Addr × K)} {es : Array (Int × Value)} {ep : Nat} {t : SetTable}
theorem rws_len (L : List (Addr × K)) : (rws G L).length = L.length := List.length_map ..
theorem Tb.size (T : Tb G s.heap a L es ep t) : es.size = L.length := by rw [← rws_len (G := G), ← T.rw, Array.length_toList]
theorem Tb.psz (T : Tb G s.heap a L es ep t) : t.place.toList.length = L.length := by have := T.tb.sz; rw [List.length_map] at this; rw [Array.length_toList, this]
theorem Tb.fit (T : Tb G s.heap a L es ep t) : t.fits es.size = true := by
  have p := T.psz
  rw [Array.length_toList] at p
  have q := T.size; have r := T.rm
  unfold SetTable.fits SetTable.fill
  rw [T.tb.dm]
  simp
  omega
theorem Tb.get (T : Tb G s.heap a L es ep t) {i : Nat} {p : Addr × K} (h : L[i]? = some p) : es[i]? = some (G.kd.hash p.2, .ref p.1) := by
  rw [← Array.getElem?_toList, T.rw, rws, List.getElem?_map, h]; rfl
theorem Tb.gone (T : Tb G s.heap a L es ep t) : ¬ t.gaveWay = true := by
  unfold SetTable.gaveWay; rw [mask_odd T.tb.mok]; decide
/-- the search for k, from the c-th step of its way on: all that stands before the first empty slot is asked -/
theorem look_from (T : Tb G s.heap a L es ep t) {k : K} {x : Addr} (hx : G.kd.is s.heap k x) (hr : G.kd.room A) {n : Nat} {Q : SetFound → Shared → Prop}
    (hn : n < 10 * SetTable.turns t.mask) (he : (nth t.mask (at0 t.mask (G.kd.hash k)) n).j ∉ t.place.toList) (hf : ∀ c, c < n → (nth t.mask (at0 t.mask (G.kd.hash k)) c).j ∈ t.place.toList)
    (yes : k ∈ L.map (·.2) → Q (.there none) s) (no : k ∉ L.map (·.2) → Q (.free (nth t.mask (at0 t.mask (G.kd.hash k)) n).j false) s) :
    ∀ (u c : Nat) (o : Option SetTable.Probe), o.getD (t.probeStart (G.kd.hash k)) = nth t.mask (at0 t.mask (G.kd.hash k)) c → c ≤ n → n - c < u →
      (∀ (i : Nat) (p : Addr × K), L[i]? = some p → p.2 = k → ∃ d, (c ≤ d ∧ d < n) ∧ t.place.toList[i]? = some (nth t.mask (at0 t.mask (G.kd.hash k)) d).j) →
      wpAny (model P w) A (setSearchFrom a (.ref x) (G.kd.hash k) true u o) Q E s := by
  intro u
  induction u with
  | zero => intro c o _ _ h; omega
  | succ u ih =>
    intro c o ho hc hu ahead
    obtain ⟨ob, g1, g2, g3⟩ := T.obj
    have fit := T.fit
    -- the way from here
    have q0 : (nth t.mask (at0 t.mask (G.kd.hash k)) c).dummy = none := nth_dummy _ _ _ rfl
    have on : ∀ e, nth t.mask (nth t.mask (at0 t.mask (G.kd.hash k)) c) e = nth t.mask (at0 t.mask (G.kd.hash k)) (c + e) := fun e => (nth_add _ c _ e).symm
    have hash_at : ∀ (i : Nat) (p : Addr × K), L[i]? = some p → ((es[i]?.map (·.1)).getD 0) = G.kd.hash p.2 := fun i p h => by rw [T.get h]; rfl
    have met := go_spec t T.tb.ris T.tb.dm (fun i => (es[i]?.map (·.1)).getD 0) (G.kd.hash k) (10 * SetTable.turns t.mask) (n - c) _ q0 (by omega) (fun e h => by rw [on]; exact hf _ (by omega)) (by rw [on, show c + (n - c) = n by omega]; exact he)
    rw [setSearchFrom_succ]
    refine wpAny_bind (wpAny_setState_of g1 g3 fit ?_)
    dsimp only
    refine wp_if_neg T.gone ?_
    try refine wpAny_bind (wpAny_pure ?_)
    rcases met with ⟨e, i, h1, h2, _, h4, h5⟩ | ⟨h4, h5⟩
    · rw [on] at h2
      rw [on, on] at h5
      have hp : t.probe (fun i => (es[i]?.map (·.1)).getD 0) (G.kd.hash k) (o.getD (t.probeStart (G.kd.hash k))) = some (.candidate (nth t.mask (at0 t.mask (G.kd.hash k)) (c + e)).j i (nth t.mask (at0 t.mask (G.kd.hash k)) (c + (e + 1)))) := by rw [ho]; exact h5
      rw [hp]
      dsimp only
      have il : i < L.length := by have := (List.getElem?_eq_some_iff.mp h2).1; rw [T.psz] at this; exact this
      obtain ⟨p, hip⟩ : ∃ p, L[i]? = some p := ⟨_, List.getElem?_eq_getElem il⟩
      have pin : p ∈ L := List.mem_of_getElem? hip
      have live := slot_live T.tb.ris h2
      have body : wpAny (model P w) A (searchRest a (.ref x) (G.kd.hash k) true u es t (nth t.mask (at0 t.mask (G.kd.hash k)) (c + e)).j i (nth t.mask (at0 t.mask (G.kd.hash k)) (c + (e + 1)))) Q E s := by
        unfold searchRest
        rw [T.get hip]
        dsimp only
        refine wpAny_bind (wpAny_holding (G.kd.eqBool hr (T.its p pin) hx (wpAny_bind (wpAny_setState_of g1 g3 fit ?_))))
        dsimp only
        rcases Classical.em (p.2 = k) with z | z
        · exact wp_if_pos (by simp [z]) (wpAny_pure (yes (List.mem_map.mpr ⟨p, pin, z⟩)))
        · refine wp_if_neg (by simp [z]) ?_
          try refine wpAny_bind (wpAny_pure ?_)
          rw [sameMem]
          dsimp only
          simp only [if_true, live, T.get hip]
          refine wpAny_bind (wpAny_isSame_ref_self (wpAny_bind (wpAny_pure ?_)))
          simp only [if_true]
          refine wp_if_neg (by simp [z]) (ih (c + (e + 1)) _ rfl (by omega) (by omega) fun i' p' a1 a2 => ?_)
          obtain ⟨d, ⟨b1, b2⟩, b3⟩ := ahead i' p' a1 a2
          refine ⟨d, ⟨?_, b2⟩, b3⟩
          rcases Nat.lt_trichotomy d (c + e) with y | y | y
          · exact absurd ((hash_at i' p' a1).trans (congrArg G.kd.hash a2)) (h4 (d - c) i' (by omega) (by rw [on, show c + (d - c) = d by omega]; exact b3))
          · rw [y] at b3
            have l2 := slot_live T.tb.ris b3
            rw [live] at l2
            injection l2 with l2
            rw [← l2, hip] at a1
            cases a1
            exact absurd a2 z
          · omega
      cases hl : t.led with
      | true =>
        refine wp_if_neg (by simp) ?_
        try refine wpAny_bind (wpAny_pure ?_)
        exact body
      | false =>
        refine wp_if_pos (by simp) (wpAny_bind (seen_none G hx ?_ fun y hy => ?_))
        · refine wp_if_neg (by decide) ?_
          try refine wpAny_bind (wpAny_pure ?_)
          exact body
        · obtain ⟨r, hr1, hr2⟩ := List.mem_map.mp hy
          have m1 : r ∈ es.toList := by
            have : r ∈ es ∧ r.1 = G.kd.hash k := by simpa using hr1
            simpa using this.1
          rw [T.rw] at m1
          obtain ⟨p', m2, m3⟩ := List.mem_map.mp m1
          exact ⟨p'.2, p'.1, by rw [← hr2, ← m3], T.its p' m2⟩
    · rw [on, show c + (n - c) = n by omega] at h5
      have hp : t.probe (fun i => (es[i]?.map (·.1)).getD 0) (G.kd.hash k) (o.getD (t.probeStart (G.kd.hash k))) = some (.empty (nth t.mask (at0 t.mask (G.kd.hash k)) n).j none) := by rw [ho]; exact h5
      rw [hp]
      dsimp only
      refine wpAny_pure (no fun hm => ?_)
      obtain ⟨p, pin, e⟩ := List.mem_map.mp hm
      obtain ⟨i, il, ei⟩ := List.getElem_of_mem pin
      have hi : L[i]? = some p := by rw [List.getElem?_eq_getElem il, ei]
      obtain ⟨d, ⟨b1, b2⟩, b3⟩ := ahead i p hi e
      exact h4 (d - c) i (by omega) (by rw [on, show c + (d - c) = d by omega]; exact b3) ((hash_at i p hi).trans (congrArg G.kd.hash e))
/-- the search when an item is put in -/
theorem look_at (T : Tb G s.heap a L es ep t) {k : K} {x : Addr} (hx : G.kd.is s.heap k x) (hr : G.kd.room A) {Q : SetFound → Shared → Prop} (yes : k ∈ L.map (·.2) → Q (.there none) s)
    (no : ∀ n, k ∉ L.map (·.2) → way t.mask (G.kd.hash k) n ∉ t.place.toList → (∀ c, c < n → way t.mask (G.kd.hash k) c ∈ t.place.toList) → Q (.free (way t.mask (G.kd.hash k) n) false) s) :
    wpAny (model P w) A (setSearch a (.ref x) (G.kd.hash k) true) Q E s := by
  have rm := T.rm
  obtain ⟨n, n1, n2, n3⟩ := T.tb.first (by rw [List.length_map]; omega) (G.kd.hash k)
  have big : 10 * SetTable.turns t.mask < 100000 := by
    unfold SetTable.turns
    rcases T.tb.mok with e | e | e <;> rw [e] <;> decide
  unfold setSearch
  refine look_from T hx hr n1 n2 n3 yes (fun z => no n z n2 n3) 100000 0 none rfl (Nat.zero_le _) (by omega) fun i p hi e => ?_
  have il : i < t.place.toList.length := by rw [T.psz]; exact (List.getElem?_eq_some_iff.mp hi).1
  obtain ⟨d, d1, d2⟩ := T.tb.before n2 (i := i) (h := G.kd.hash k) (by rw [List.getElem?_map, hi, ← e]; rfl) (List.getElem?_eq_getElem il)
  exact ⟨d, ⟨Nat.zero_le _, d1⟩, by rw [List.getElem?_eq_getElem il, ← d2]⟩
end
end GS

/-! GSb: an item put into the set; set(list) -/
namespace GS
open PySem PySem.Spec PyProof.Rows L2
section
variable {P : Program} {w : World} {K : Type} [DecidableEq K] {G : SK P w K}
variable {A : Around} {E : Value → Shared → Prop} {s : Shared}
variable {a : Addr} {L : List (Addr × K)} {es : Array (Int × Value)} {ep : Nat} {t : SetTable}
theorem fm_map {α β : Type} (f : α → β) (l : List α) (o : List Nat) : o.filterMap (fun i => (l.map f)[i]?) = (o.filterMap fun i => l[i]?).map f := by
  rw [List.map_filterMap]
  congr 1; funext i; rw [List.getElem?_map]
theorem fm_get {α : Type} (l : List α) (d : α) : ∀ (o : List Nat), (∀ i ∈ o, i < l.length) → o.filterMap (fun i => l[i]?) = o.map fun i => l.getD i d
  | [], _ => rfl
  | i :: o, h => by
    have hi := h i List.mem_cons_self
    rw [List.filterMap_cons_some (List.getElem?_eq_getElem hi), List.map_cons, fm_get l d o fun j hj => h j (List.mem_cons_of_mem _ hj)]
    simp [List.getD_eq_getElem?_getD, List.getElem?_eq_getElem hi]
/-- the rows of L in another order -/
theorem relist (o : Array Nat) (hr : es.toList = rws G L) (hp : o.toList.Perm (List.range L.length)) : ∃ M : List (Addr × K), M.Perm L ∧ (o.filterMap (es[·]?)).toList = rws G M ∧ (M.map fun p => G.kd.hash p.2) = o.toList.map fun i => (es.map (·.1)).getD i 0 := by
  refine ⟨o.toList.filterMap fun i => L[i]?, ?_, ?_, ?_⟩
  · have := hp.filterMap fun i => L[i]?
    rwa [List.filterMap_getElem?_range_length] at this
  · have e : ∀ i, es[i]? = (rws G L)[i]? := fun i => by rw [← hr, Array.getElem?_toList]
    rw [Array.toList_filterMap]
    simp only [e]
    exact fm_map _ L o.toList
  · have hes : (es.map (·.1)).toList = L.map fun p => G.kd.hash p.2 := by
      rw [Array.toList_map, hr, rws, List.map_map]; rfl
    have h2 := fm_map (fun p : Addr × K => G.kd.hash p.2) L o.toList
    rw [← h2, fm_get _ 0 _ fun i hi => by rw [List.length_map]; exact List.mem_range.mp (hp.mem_iff.mp hi)]
    refine List.map_congr_left fun i _ => ?_
    rw [← hes]; simp [List.getD_eq_getElem?_getD, Array.getD_eq_getD_getElem?]
theorem is_same {h h' : Heap} {k : K} {b : Addr} {o : Obj} (hb : G.kd.is h k b) (ho : h.get? a = some o) (hd : o.data = .set es ep t) (q : Heap.SameBut a h h') : G.kd.is h' k b :=
  G.keep hb fun c oc vs n hc hs => (q.2 c fun e => by
    subst e
    rw [ho] at hc
    cases hc
    rw [hd] at hs
    cases hs).trans hc
theorem re_table {o : Obj} (ho : s.heap.get? a = some o) (hx : o.ExactSet) (hd : o.data = .set es ep t) (hr : es.toList = rws G L) (hz : t.place.size = es.size) (hdm : t.dummies = #[]) (hfl : es.size ≤ t.mask)
    (nd : (L.map (·.2)).Nodup) (its : ∀ p ∈ L, G.kd.is s.heap p.2 p.1) (pl : t.plain = true) (ld : w.params.followText "set-order" = true ∨ t.led = true) (fw : L.length < 64) {n M : Nat} {Q : Unit → Shared → Prop}
    (e1 : SetTable.sizeAbove n - 1 = M) (e2 : MaskOk M) (e3 : SetTable.sizeAbove n ≤ 128) (e4 : L.length * 5 < M * 3)
    (k : ∀ h' L' es' ep' t', Heap.SameBut a s.heap h' → Tb G h' a L' es' ep' t' → L'.Perm L → Q () { s with heap := h' }) : wpAny (model P w) A (setRelay a n) Q E s := by
  have ez : es.size = L.length := by rw [← rws_len (G := G), ← hr, Array.length_toList]
  have fit : t.fits es.size = true := by
    unfold SetTable.fits SetTable.fill
    rw [hdm]; simp; omega
  obtain ⟨t', o', f1, f2, f3, f4, f5, f6, _⟩ := relaid_ok t (hs := es.map (·.1)) e1 e2 (by rw [Array.size_map, ez]; omega)
  rw [Array.size_map, ez] at f2
  obtain ⟨L2, g1, g2, g3⟩ := relist o' hr f2
  rw [← g3] at f3
  have ez2 : (o'.filterMap (es[·]?)).size = es.size := by rw [← Array.length_toList, g2, rws_len, g1.length_eq, ez]
  rw [setRelay_eq]
  refine wpAny_bind (wpAny_setState_of ho hd fit ?_)
  dsimp only
  refine wp_if_neg (by rw [sizeLine_eq]; omega) ?_
  try refine wpAny_bind (wpAny_pure ?_)
  rw [f1]
  dsimp only
  refine wpAny_bind (wp_if_neg (by rw [ez2]; simp) ?_)
  try refine wpAny_bind (wpAny_pure ?_)
  refine wpAny_pure ?_
  dsimp only
  refine wpAny_storeSet_of ho hd ?_ (by rw [ez2, ez, sizeLine_eq]; omega)
  have sb : Heap.SameBut a s.heap (s.heap.update a (Obj.putSet (o'.filterMap (es[·]?)) t')) := Heap.SameBut.update ..
  exact k _ L2 _ (ep + 1) t' sb ⟨⟨_, store_at ho hd, ⟨hx.1, hx.2.1, hx.2.2⟩, rfl⟩, g2, f3, (g1.map _).nodup_iff.mpr nd, fun p hp => is_same (its p (g1.mem_iff.mp hp)) ho hd sb, by rw [f6]; exact pl, by rw [f5]; exact ld, by rw [g1.length_eq, f4]; exact e4, by rw [g1.length_eq]; exact fw⟩ g1
/-- PUTTING IN -/
theorem put_in (T : Tb G s.heap a L es ep t) {k : K} {x : Addr} (hx : G.kd.is s.heap k x) (hr : G.kd.room A) (hfw : L.length + 1 < 64) {Q : Bool → Shared → Prop}
    (hQ : ∀ b h' L' es' ep' t', Heap.SameBut a s.heap h' → Tb G h' a L' es' ep' t' → (k ∈ L.map (·.2) ∧ L' = L ∨ k ∉ L.map (·.2) ∧ L'.Perm ((x, k) :: L)) → Q b { s with heap := h' }) :
    wpAny (model P w) A (setAddHashed a (.ref x) (G.kd.hash k)) Q E s := by
  obtain ⟨o, ho, hex, hd⟩ := T.obj
  have ez := T.size
  have rm := T.rm
  unfold setAddHashed
  refine wpAny_holding ?_
  rw [show (100000 : Nat) = 99999 + 1 from rfl, setAddHashedIn_succ]
  refine wpAny_bind (wpAny_setState_of ho hd T.fit ?_)
  dsimp only
  refine wp_if_neg (by simp [byScan, Value.scannable]) ?_
  try refine wpAny_bind (wpAny_pure ?_)
  refine wpAny_bind (look_at T hx hr (fun hm => wpAny_pure (hQ false s.heap L es ep t (Heap.SameBut.refl a s.heap) T (.inl ⟨hm, rfl⟩))) fun n hm hK hb => ?_)
  dsimp only
  refine wpAny_bind (wpAny_setState_of ho hd T.fit ?_)
  dsimp only
  obtain ⟨q1, q2, q3, q4, q5, q6, q7, q8, q9⟩ := T.tb.put hK hb
  have pl1 : (t.put (way t.mask (G.kd.hash k) n)).1.plain = true := by rw [q6]; exact T.pl
  generalize t.put (way t.mask (G.kd.hash k) n) = pt at q1 q3 q4 q5 q6 q7 q8 q9 pl1 ⊢
  obtain ⟨t1, p⟩ := pt
  dsimp only at q1 q3 q4 q5 q6 q7 q8 q9 pl1 ⊢
  subst q1
  first
    | exact absurd rfl (by decide : ¬ (0 : Nat) = 0)
    | (refine wpAny_bind ?_; refine wp_if_pos pl1 ?_; refine G.byv hx ?_)
    | refine wp_if_pos pl1 (wpAny_bind (G.byv hx ?_))
  simp only [if_true]
  have hin : (SetTable.insertAt es (SetTable.below t.place (way t.mask (G.kd.hash k) n)) (G.kd.hash k, Value.ref x)).toList = rws G (L.take (SetTable.below t.place (way t.mask (G.kd.hash k) n)) ++ (x, k) :: L.drop (SetTable.below t.place (way t.mask (G.kd.hash k) n))) := by
    rw [SetTable.toList_insertAt, T.rw]; simp [rws]
  generalize SetTable.below t.place (way t.mask (G.kd.hash k) n) = p at q2 q3 hin ⊢
  have pm : (L.take p ++ (x, k) :: L.drop p).Perm ((x, k) :: L) := by
    have := List.perm_middle (a := (x, k)) (l₁ := L.take p) (l₂ := L.drop p)
    rwa [List.take_append_drop] at this
  rw [show (L.map fun p => G.kd.hash p.2).take p ++ G.kd.hash k :: (L.map fun p => G.kd.hash p.2).drop p = (L.take p ++ (x, k) :: L.drop p).map fun p => G.kd.hash p.2 by simp] at q3
  generalize L.take p ++ (x, k) :: L.drop p = L1 at pm q3 hin
  have len1 : L1.length = L.length + 1 := pm.length_eq
  have nd1 : (L1.map (·.2)).Nodup := (pm.map _).nodup_iff.mpr (List.nodup_cons.mpr ⟨hm, T.dis⟩)
  have ez1 : (SetTable.insertAt es p (G.kd.hash k, Value.ref x)).size = L.length + 1 := by rw [← Array.length_toList, hin, rws_len, len1]
  generalize SetTable.insertAt es p (G.kd.hash k, Value.ref x) = es1 at hin ez1 ⊢
  refine wpAny_bind (wpAny_storeSet_of ho hd ?_ (by rw [ez1, sizeLine_eq]; omega))
  have sb : Heap.SameBut a s.heap (s.heap.update a (Obj.putSet es1 t1)) := Heap.SameBut.update ..
  have ho1 := store_at (es' := es1) (t' := t1) ho hd
  generalize s.heap.update a (Obj.putSet es1 t1) = h1 at sb ho1 ⊢
  have its1 : ∀ p ∈ L1, G.kd.is h1 p.2 p.1 := fun p hp => by
    rcases List.mem_cons.mp (pm.mem_iff.mp hp) with e | hp
    · rw [e]; exact is_same hx ho hd sb
    · exact is_same (T.its p hp) ho hd sb
  have ld1 : w.params.followText "set-order" = true ∨ t1.led = true := by rw [q5]; exact T.ld
  have exs : Obj.ExactSet { o with data := .set es1 (ep + 1) t1 } := ⟨hex.1, hex.2.1, hex.2.2⟩
  have fill : t1.tooFull = true ↔ (L.length + 1) * 5 ≥ t1.mask * 3 := by
    unfold SetTable.tooFull
    rw [decide_eq_true_eq, q9, List.length_map]
  by_cases hf : t1.tooFull = true
  · have full := fill.mp hf
    rw [ez]
    have small : L.length = 4 ∧ t.mask = 7 ∨ L.length = 18 ∧ t.mask = 31 := by
      rw [q4] at full
      rcases T.tb.mok with e | e | e <;> rw [e] at rm full <;> omega
    have pz : t1.place.size = es1.size := by rw [q3.sz, List.length_map, len1, ez1]
    first
      | (refine wpAny_bind ?_; refine wp_if_pos (by simp [hf]) ?_)
      | (refine wp_if_pos (by simp [hf]) ?_; refine wpAny_bind ?_)
    rcases small with ⟨e, e'⟩ | ⟨e, e'⟩
    · exact re_table (s := { s with heap := h1 }) (M := 31) ho1 exs rfl hin pz q3.dm (by omega) nd1 its1 pl1 ld1 (by omega) (by rw [e, size_20]) (.inr (.inl rfl)) (by rw [e, size_20]; decide) (by omega) fun h2 L2 es2 ep2 t2 sb2 R2 pm2 =>
        wpAny_pure (hQ true h2 L2 es2 ep2 t2 (sb.trans sb2) R2 (.inr ⟨hm, pm2.trans pm⟩))
    · exact re_table (s := { s with heap := h1 }) (M := 127) ho1 exs rfl hin pz q3.dm (by omega) nd1 its1 pl1 ld1 (by omega) (by rw [e, size_76]) (.inr (.inr rfl)) (by rw [e, size_76]; decide) (by omega) fun h2 L2 es2 ep2 t2 sb2 R2 pm2 =>
        wpAny_pure (hQ true h2 L2 es2 ep2 t2 (sb.trans sb2) R2 (.inr ⟨hm, pm2.trans pm⟩))
  · have lax : (L.length + 1) * 5 < t1.mask * 3 := Nat.lt_of_not_ge fun z => hf (fill.mpr z)
    first
      | refine wp_if_neg (by simp [hf]) ?_
      | (refine wpAny_bind ?_; refine wp_if_neg (by simp [hf]) ?_; refine wpAny_pure ?_)
    exact wpAny_pure (hQ true h1 L1 es1 (ep + 1) t1 sb ⟨⟨_, ho1, exs, rfl⟩, hin, q3, nd1, its1, pl1, ld1, by rw [len1]; exact lax, by rw [len1]; exact hfw⟩ (.inr ⟨hm, pm⟩))
end
end GS

/-! GSc: set(list of tuples) -/
namespace GS
open PySem PySem.Spec PyProof.Rows L2
section
variable {P : Program} {w : World} {K : Type} [DecidableEq K] {G : SK P w K}
variable {A : Around} {E : Value → Shared → Prop} {s : Shared}
variable {a : Addr} {L : List (Addr × K)} {es : Array (Int × Value)} {ep : Nat} {t : SetTable}
/-- an empty set, just made -/
abbrev set0 (w : World) : Obj := { cls := .type "set", dict := none, data := .set #[] 0 (.fresh 0 0 (!w.params.followText "set-order")) }
theorem Tb.empty {h : Heap} (ho : h.get? a = some (set0 w)) : Tb G h a [] #[] 0 (.fresh 0 0 (!w.params.followText "set-order")) := by
  refine ⟨⟨_, ho, ⟨rfl, rfl, rfl⟩, rfl⟩, rfl, ⟨List.Pairwise.nil, rfl, rfl, .inl rfl, fun x hx => (by cases hx), fun i h j hi => (by simp at hi)⟩, List.nodup_nil, fun p hp => (by cases hp), rfl, ?_, (by show 0 * 5 < 7 * 3; decide), (by show 0 < 64; decide)⟩
  show _ ∨ (!w.params.followText "set-order") = true
  cases w.params.followText "set-order" <;> simp
theorem Tb.moved {h h' : Heap} (T : Tb G h a L es ep t) (q : ∀ o, h.get? a = some o → h'.get? a = some o) (i : ∀ p ∈ L, G.kd.is h' p.2 p.1) : Tb G h' a L es ep t := by
  obtain ⟨o, ho, r⟩ := T.obj
  exact ⟨⟨o, q o ho, r⟩, T.rw, T.tb, T.dis, i, T.pl, T.ld, T.rm, T.fw⟩
theorem SK.up {h h' : Heap} {k : K} {b : Addr} (x : G.kd.is h k b) (q : ∀ c o, h.get? c = some o → h'.get? c = some o) : G.kd.is h' k b := G.keep x fun c o _ _ e _ => q c o e
/-- the set holds what the first n items are -/
structure Had (ks : List (Addr × K)) (n : Nat) (L : List (Addr × K)) : Prop where
  of : ∀ p ∈ L, p ∈ ks.take n
  al : ∀ p ∈ ks.take n, p.2 ∈ L.map (·.2)
  le : L.length ≤ n
theorem Had.next {ks L M : List (Addr × K)} {n : Nat} {p : Addr × K} (g : Had ks n L) (h : ks[n]? = some p) (c : p.2 ∈ L.map (·.2) ∧ M = L ∨ p.2 ∉ L.map (·.2) ∧ M.Perm (p :: L)) : Had ks (n + 1) M := by
  have e : ks.take (n + 1) = ks.take n ++ [p] := by rw [List.take_succ, h]; rfl
  rcases c with ⟨c, rfl⟩ | ⟨_, c⟩
  · refine ⟨fun q hq => ?_, fun q hq => ?_, Nat.le_succ_of_le g.le⟩
    · rw [e]; exact List.mem_append_left _ (g.of q hq)
    · rw [e] at hq
      rcases List.mem_append.mp hq with z | z
      · exact g.al q z
      · rw [List.mem_singleton.mp z]; exact c
  · refine ⟨fun q hq => ?_, fun q hq => ?_, ?_⟩
    · rw [e]
      rcases List.mem_cons.mp (c.mem_iff.mp hq) with z | z
      · rw [z]; simp
      · exact List.mem_append_left _ (g.of q z)
    · rw [e] at hq
      rw [(c.map (·.2)).mem_iff, List.map_cons]
      rcases List.mem_append.mp hq with z | z
      · exact List.mem_cons_of_mem _ (g.al q z)
      · rw [List.mem_singleton.mp z]; exact List.mem_cons_self
    · rw [c.length_eq, List.length_cons]; exact Nat.succ_le_succ g.le
/-- the loop that puts in one item after another -/
theorem put_all {I : Addr} {fp wr : List Addr} {GG : Array GenState → Array GenState → Prop} {n : Nat} {Pv : Nat → Value → Prop} {Sn : Nat → Shared → Prop} {R : Result → Shared → Prop} (W : WalksS P w A.in1 I fp wr GG n Pv Sn) (S : Addr) (nf : S ∉ fp)
    (ks : List (Addr × K)) (hn : n = ks.length) (fw : ks.length < 64) (val : ∀ i v, Pv i v → ∃ p, ks[i]? = some p ∧ v = .ref p.1) (h0 : Heap) (hk : ∀ p ∈ ks, G.kd.is h0 p.2 p.1) (hS : h0.get? S = none) (hw : ∀ b ∈ wr, h0.get? b = none) (hr : G.kd.room A.in1) :
    ∀ (m i : Nat) (s : Shared), n - i = m → i ≤ n → Sn i s → (∀ b o, h0.get? b = some o → s.heap.get? b = some o) → (∃ L es ep t, Tb G s.heap S L es ep t ∧ Had ks i L) →
      (∀ s' L es ep t, Moved (S :: wr) GG s s' → Tb G s'.heap S L es ep t → Had ks n L → (∀ b o, h0.get? b = some o → s'.heap.get? b = some o) → R (.ok (.ret .none)) s') → codeAny (model P w) A (.builtin "set.update.loop" ⟨[.ref S, .ref I], []⟩) R s := by
  have nw : S ∉ wr := fun z => nf (W.sub _ z)
  have stay : ∀ {s s' : Shared}, Moved wr GG s s' → (∀ b o, h0.get? b = some o → s.heap.get? b = some o) → ∀ b o, h0.get? b = some o → s'.heap.get? b = some o := fun m q b o e => m.heap b o (fun z => by rw [hw b z] at e; cases e) (q b o e)
  intro m
  induction m with
  | zero =>
    intro i s hm hi st q ⟨L, es, ep, t, T, g⟩ fin
    obtain rfl : i = n := by omega
    refine codeAny_builtin F.entry_set_update_loop ?_
    rw [Around.under_plainId F.plain_set_update_loop _]
    show wpAny _ A.in1 (pyNext (.ref I) >>= _) _ _ s
    refine wpAny_bind (W.done s _ _ st fun s' mv => ?_)
    show wpAny _ A.in1 (ret Value.none) _ _ s'
    have q' := stay mv q
    exact wpAny_pure (fin s' L es ep t (mv.mono fun b z => List.mem_cons_of_mem _ z) (T.moved (fun o e => mv.heap S o nw e) fun p hp => SK.up (hk p (List.mem_of_mem_take (g.of p hp))) q') g q')
  | succ m ih =>
    intro i s hm hi st q ⟨L, es, ep, t, T, g⟩ fin
    have lt : i < n := by omega
    refine codeAny_builtin F.entry_set_update_loop ?_
    rw [Around.under_plainId F.plain_set_update_loop _]
    show wpAny _ A.in1 (pyNext (.ref I) >>= _) _ _ s
    refine wpAny_bind (W.item i s _ _ lt st fun v s' pv st' mv => ?_)
    obtain ⟨p, hp, rfl⟩ := val i v pv
    have q' := stay mv q
    have T' : Tb G s'.heap S L es ep t := T.moved (fun o e => mv.heap S o nw e) fun r hr' => SK.up (hk r (List.mem_of_mem_take (g.of r hr'))) q'
    have x : G.kd.is s'.heap p.2 p.1 := SK.up (hk p (List.mem_of_getElem? hp)) q'
    show wpAny _ A.in1 (holding [Value.ref p.1] (setAdd S (.ref p.1)) >>= _) _ _ s'
    refine wpAny_bind (wpAny_holding ?_)
    unfold setAdd
    refine wpAny_holding (wpAny_bind (G.kd.pyHash hr x ?_))
    refine put_in (s := { s' with toks := s'.toks + G.kd.draws p.2 }) T' x hr (by have := g.le; omega) fun b h' M es' ep' t' sb T2 c => ?_
    have q2 : ∀ b o, h0.get? b = some o → h'.get? b = some o := fun b o e => (sb.2 b (fun z => by rw [z, hS] at e; cases e)).trans (q' b o e)
    refine wpAny_pure ⟨plainId_quiet F.plain_set_update_loop _, ih (i + 1) _ (by omega) lt (W.frame _ s' _ _ st' (Nat.le_add_right _ _) fun b hb o e => ?_) q2 ⟨M, es', ep', t', T2, g.next hp c⟩ fun s2 L2 es2 ep2 t2 mv2 T3 g3 q3 => ?_⟩
    · exact (sb.2 b fun z => nf (z ▸ hb)).trans e
    · refine fin s2 L2 es2 ep2 t2 (Moved.trans W.gtrans ((mv.mono fun b z => List.mem_cons_of_mem _ z).then_heap (Nat.le_add_right _ _) fun b o hb e => ?_) mv2) T3 g3 q3
      exact (sb.2 b fun z => hb (z ▸ List.mem_cons_self)).trans e
set_option maxHeartbeats 3200000 in
/-- set(xs), xs a list of tuples -/
theorem call_set {l : Addr} {vs : Array Value} (ks : List (Addr × K)) {Q : Value → Shared → Prop} (hh : A.handled = none) (hl : s.heap.IsList l vs) (hv : vs.toList = ks.map fun p => Value.ref p.1) (hk : ∀ p ∈ ks, G.kd.is s.heap p.2 p.1) (fw : ks.length < 64) (hu : A.units + 3 < cLine) (hr : G.kd.room A.in1.in1.in1)
    (h : ∀ (h' : Heap) (tk : Nat) (L : List (Addr × K)) es ep t, Tb G h' s.heap.objs.size L es ep t → Had ks ks.length L → (∀ b o, s.heap.get? b = some o → h'.get? b = some o) → Q (.ref s.heap.objs.size) { s with heap := h', toks := tk }) :
    wpAny (model P w) A (call (.type "set") [.ref l]) Q E s := by
  have vsz : vs.size = ks.length := by rw [← Array.length_toList, hv, List.length_map]
  obtain ⟨c, tl, hmro⟩ := F.called_set.mro
  have hmade := F.called_set.made
  have hsub := F.called_set.sub
  refine wpAny_call (codeAny_of_tree ?_)
  show wpAny _ _ (callAny (.type "set") _) _ _ _
  refine wpAny_pure ⟨Code.quiet_builtin _ (by decide +kernel), codeAny_builtin F.entry_type_call ?_⟩
  rw [Around.under_plain (weight_type_call_type "set" [.ref l] []) rfl]
  have h1 := F.called_set.notType
  have h2 := F.called_set.canCreate
  have hct := F.typeCall_set_1 (.ref l)
  repeat (any_goals (first | assumption | wp_step))
  refine codeAny_mono (code_set_led1 (.ref l) (E := E) (Q₁ := fun u z => u = .ref s.heap.objs.size ∧ z = { s with heap := s.heap.push (set0 w) }) ⟨rfl, rfl⟩) fun r s₁ hr₁ => ?_
  cases r with
  | error e => exact hr₁
  | ok fl =>
    cases fl with
    | ret u =>
      obtain ⟨rfl, rfl⟩ := hr₁
      have own : (s.heap.push (set0 w)).get? s.heap.objs.size = some (set0 w) := Heap.get?_push_size _ rfl
      have hT : Shared.TypeIs { s with heap := s.heap.push (set0 w) } (.ref s.heap.objs.size) "set" := ⟨_, own, rfl⟩
      have hli := F.called_set.init.lookup
      have hbi := F.called_set.init.bind (.ref s.heap.objs.size)
      repeat (any_goals (first | assumption | wp_step))
      refine codeAny_mono (codeAny_call_builtin (R := wants (fun r z => r = .none ∧ ∃ (h' : Heap) (tk : Nat) (L : List (Addr × K)) (es : Array (Int × Value)) (ep : Nat) (t : SetTable), z = { s with heap := h', toks := tk } ∧ Tb G h' s.heap.objs.size L es ep t ∧ Had ks ks.length L ∧
          ∀ b o, s.heap.get? b = some o → h'.get? b = some o) E) F.called_set.init.plain F.entry_set_init (check_set_init_1 hT ?_)) fun r₂ s₂ hr₂ => ?_
      · obtain ⟨⟨oc, od, oda, osl⟩, hol, hcl, nl, hdl⟩ := hl
        simp only at hcl hdl
        subst hcl; subst hdl
        have l1 : (s.heap.push (set0 w)).IsList l vs := ⟨_, Heap.get?_push_of_some _ hol, rfl, nl, rfl⟩
        have hol' := Heap.get?_push_of_some (set0 w) hol
        have hsls := F.sub_list_set
        have hslf := F.sub_list_frozenset
        have hne : (Value.type "list" == Value.type "dict") = false := by decide
        unfold Builtin.«set.__init__» noKeywords Builtin.Frozenset.updateFrom
        generalize hPI : pyIter = PI
        wp_walk
        subst hPI
        refine wpAny_pyIter_list l1 (wpAny_bind (wpAny_runValue ?_))
        have old : l < s.heap.objs.size := Heap.lt_size hol
        have sz : (s.heap.push (set0 w)).objs.size = s.heap.objs.size + 1 := Heap.size_push ..
        have ne : l ≠ (s.heap.push (set0 w)).objs.size := by rw [sz]; exact Nat.ne_of_lt (Nat.lt_succ_of_lt old)
        have h3 : A.in1.in1.in1.handled = none := by simp [hh]
        have bare : ∀ b, s.heap.objs.size ≤ b → s.heap.get? b = none := fun b hb => by
          cases q : s.heap.get? b with
          | none => rfl
          | some o => exact absurd (Heap.lt_size q) (Nat.not_lt.mpr hb)
        refine put_all (G := G) ((Walks.list h3 _ l ne vs).toS) s.heap.objs.size ?nf ks vsz fw ?val s.heap hk (bare _ (Nat.le_refl _)) ?wr hr (vs.size - 0) 0 _ (by omega) (Nat.zero_le _) ⟨⟨_, Heap.get?_push_size _ rfl, rfl, rfl⟩, l1.push _⟩ (fun b o e => Heap.get?_push_of_some _ (Heap.get?_push_of_some _ e)) ?em ?fin
        case nf =>
          rw [sz]; simp only [List.mem_cons, List.not_mem_nil, or_false, not_or]
          exact ⟨Nat.ne_of_lt (Nat.lt_succ_self _), Nat.ne_of_gt old⟩
        case val => 
          intro i v hi
          have q : vs.toList[i]? = some v := by rw [Array.getElem?_toList]; exact hi
          rw [hv, List.getElem?_map] at q
          cases z : ks[i]? with
          | none => rw [z] at q; cases q
          | some p => rw [z] at q; exact ⟨p, rfl, (Option.some.inj q).symm⟩
        case wr => intro b hb; rw [List.mem_singleton.mp hb, sz]; exact bare _ (Nat.le_succ _)
        case em => exact ⟨[], #[], 0, _, .empty (Heap.get?_push_of_some _ own), ⟨fun p hp => (by cases hp), fun p hp => (by simp at hp), Nat.le_refl _⟩⟩
        case fin =>
          intro s' L es ep t mv T g q
          obtain ⟨h', g2, d', tk', os'⟩ := s'
          obtain rfl : g2 = s.gens := mv.gens
          obtain rfl : d' = s.drawn := mv.drawn
          obtain rfl : os' = s.os := mv.os
          show wpAny _ _ _ _ _ _
          refine wpAny_pure ?_
          show wpAny _ _ (ret Value.none) _ _ _
          rw [vsz] at g
          exact wpAny_pure ⟨rfl, h', tk', L, es, ep, t, rfl, T, g, q⟩
      · cases r₂ with
        | error e => exact hr₂
        | ok fl₂ =>
          cases fl₂ with
          | ret r =>
            obtain ⟨rfl, h', tk, L, es, ep, t, rfl, T, g, q⟩ := hr₂
            repeat (any_goals (first | assumption | wp_step))
            exact h _ _ _ _ _ _ T g q
          | _ => exact hr₂.elim
    | _ => exact hr₁.elim
end
end GS

/-! GSd: alike data can be sorted, empty tuples among them too -/
namespace GS
open PySem PySem.Calls PyProof.Rows PySem.SeqAt PySem.W
section
variable {prog : Program} {w : World} {A : Around} {E : Value → Shared → Prop} {s : Shared}
/-- tuple's own less-than, as sorting calls it -/
theorem lt_call {Q : Value → Shared → Prop} {x y : Addr} {xs ys : Array Value} {e r : Nat → Bool} (hx : s.heap.IsTuple x xs) (hy : s.heap.IsTuple y ys) (he : ∀ j (h1 : j < xs.size) (h2 : j < ys.size), EqAt A.in1 s xs[j] ys[j] (e j))
    (hr : ∀ j (h1 : j < xs.size) (h2 : j < ys.size), e j = false → RcLt A.in1 s xs[j] ys[j] (r j)) (h : Q (.bool (firstLt e r (decide (xs.size < ys.size)) (List.range (min xs.size ys.size)))) s) : wpAny (model prog w) A (call (.builtin "tuple.__lt__") [.ref x, .ref y]) Q E s := by
  obtain ⟨⟨c1, d1, da1, s1⟩, o1, e1, n1, f1⟩ := id hx
  obtain ⟨⟨c2, d2, da2, s2⟩, o2, e2, n2, f2⟩ := id hy
  simp only at e1 f1 e2 f2
  subst e1 f1 e2 f2
  exact call_meets F.slot_tuple_lt ⟨_, o1, rfl⟩ F.entry_tuple_lt (F.args_tuple_lt_2 _ _) (tuple_ltAt x y xs ys n1 n2 d1 d2 s1 s2 e r) ⟨o1, o2, he, hr, h⟩
/-- two tuples, as keys that are all of one type -/
theorem lt_one {xs ys : List PyData} {a b : Value} {as bs : List Addr} {Q : Bool → Shared → Prop} (ra : Reads s.heap a (.tuple xs) as) (rb : Reads s.heap b (.tuple ys) bs) (hal : alikeAll xs ys = true) (hu : A.units + min (PyData.tuple xs).depth (PyData.tuple ys).depth < cLine)
    (hq : Q (dataLt (.tuple xs) (.tuple ys)) s) : wpAny (model prog w) A (oneLt' true a b) Q E s := by
  cases ra with
  | @tuple l o vs n _ as₁ h1 h2 h3 h4 =>
    cases rb with
    | @tuple l' o' us n' _ bs₁ k1 k2 k3 k4 =>
      have z1 : vs.size = xs.length := by simpa using ReadsAll.length _ _ _ h4
      have z2 : us.size = ys.length := by simpa using ReadsAll.length _ _ _ k4
      rw [dataLt_tuple, ← firstLt_toks xs ys hal, ← z1, ← z2] at hq
      rw [oneLt'_eq]
      simp only [if_true]
      refine wpAny_bind (wpAny_cRoomFor (room_here hu) (wpAny_bind (wpAny_callSpecialIfBound?_slot (T := "tuple") ⟨_, h1, h2⟩ F.slot_tuple_lt (lt_call (e := pairEq xs ys) (r := fun j => dataLt (xs.getD j .none) (ys.getD j .none)) ⟨_, h1, h2, _, h3⟩ ⟨_, k1, k2, _, k3⟩ (fun j j1 j2 => ?_) (fun j j1 j2 hj => ?_) (wpAny_truthy_bool hq)))))
      · have q := eqAt_alikeAll xs ys A.in1 s vs.toList us.toList _ _ h4 k4 hal (room_in hu) j (by simpa using j1) (by simpa using j2)
        simpa using q
      · have q := rcLt_alikeAll xs ys A.in1 s vs.toList us.toList _ _ h4 k4 hal (room_in hu) j (by simpa using j1) (by simpa using j2) hj
        simpa using q
/-- the first items of tuples -/
theorem firsts_of {M : Model} : ∀ {vs : List Value} {ds : List PyData}, EachIs (fun v d => ∃ as, Reads s.heap v d as) vs ds → (∀ d ∈ ds, ∃ xs, d = .tuple xs) →
    ∃ os : List (Option Value), os.map Option.isSome = ds.map (fun d => match d with | .tuple (_ :: _) => true | _ => false) ∧ ∀ (E : Value → Shared → Prop) {Q : List (Option Value) → Shared → Prop}, Q os s → wpAny M A (vs.mapM firstOfTuple') Q E s
  | _, _, .nil, _ => ⟨[], rfl, fun E Q h => by rw [List.mapM_nil]; exact wpAny_pure h⟩
  | _, _, .cons (a := v) (b := d) (as := vs) ⟨as, r⟩ t, ht => by
    obtain ⟨os, h1, h2⟩ := firsts_of (M := M) t fun d hd => ht d (List.mem_cons_of_mem _ hd)
    obtain ⟨xs, rfl⟩ := ht d List.mem_cons_self
    cases r with
    | @tuple l o us n _ _ ho hc hd hr =>
      refine ⟨us[0]? :: os, ?_, fun E {Q} h => ?_⟩
      · rw [List.map_cons, List.map_cons, h1]
        congr 1
        have z : us.size = xs.length := by simpa using ReadsAll.length _ _ _ hr
        cases xs with
        | nil => simp at z; simp [z]
        | cons x xs => simp at z; simp [z]
      · rw [List.mapM_cons]
        refine wpAny_bind ?_
        rw [kas_first_eq]
        refine wpAny_bind (Looks.here (show Looks M s.heap (typeOf (.ref l)) o.cls from (Looks.ld ho).andThen .now) ?_)
        rw [hc, if_neg (by first | decide | simp)]
        refine wpAny_bind (listItems_at ho hd (wpAny_pure ?_))
        exact wpAny_bind (h2 E (wpAny_pure h))
/-- tuples, an empty one among them: how their keys are asked -/
theorem kind_some {vs : List Value} {ds : List PyData} (e : EachIs (fun v d => ∃ as, Reads s.heap v d as) vs ds) (ht : ∀ d ∈ ds, ∃ xs, d = .tuple xs) (hm : PyData.tuple [] ∈ ds) :
    ∃ kd : SortKind, (kd = general' ∨ kd = oneType') ∧ ∀ (E : Value → Shared → Prop) {Q : SortKind → Shared → Prop}, Q kd s → wpAny (model prog w) A (keyKind' vs.toArray) Q E s := by
  obtain ⟨os, h1, run⟩ := firsts_of (M := model prog w) (A := A) e ht
  have hsome : (os.toArray.all fun x => x.isSome) = false := by
    rw [Bool.eq_false_iff]
    intro z
    have z2 : ∀ b ∈ os.map Option.isSome, b = true := by
      intro b hb
      obtain ⟨o, ho, rfl⟩ := List.mem_map.mp hb
      simp only [List.all_toArray, List.all_eq_true] at z
      exact z o ho
    rw [h1] at z2
    have := z2 _ (List.mem_map.mpr ⟨_, hm, rfl⟩)
    cases this
  have types : ∀ (E : Value → Shared → Prop) {Q : List Value → Shared → Prop}, Q (vs.map fun _ => Value.type "tuple") s → wpAny (model prog w) A (vs.mapM typeOf) Q E s := fun E Q hq =>
    kas_mapM (r := Value.type "tuple") _ (fun v hv Q' hq' => by
      obtain ⟨d, hd, as, r⟩ := e.left v hv
      obtain ⟨xs, rfl⟩ := ht d hd
      exact (looks_reads r).here hq') hq
  have pos : 0 < vs.length := by
    rw [e.length]
    exact List.length_pos_of_mem hm
  cases hf : (os.toArray[0]?.bind id).isSome with
  | true =>
    refine ⟨general', .inl rfl, fun E Q hq => ?_⟩
    rw [kat_kind_eq, List.mapM_toArray, map_eq_pure_bind]
    refine wpAny_bind (wpAny_bind (run E (wpAny_pure ?_)))
    rw [if_neg (by rw [hsome]; decide), if_pos hf]
    exact wpAny_pure hq
  | false =>
    refine ⟨oneType', .inr rfl, fun E Q hq => ?_⟩
    rw [kat_kind_eq, List.mapM_toArray, map_eq_pure_bind]
    refine wpAny_bind (wpAny_bind (run E (wpAny_pure ?_)))
    rw [if_neg (by rw [hsome]; decide), if_neg (by rw [hf]; decide), oneTypeOnly'_eq, List.mapM_toArray, map_eq_pure_bind]
    refine wpAny_bind (wpAny_bind (wpAny_bind (types E (wpAny_pure ?_))))
    obtain ⟨v, r, rfl⟩ : ∃ v r, vs = v :: r := by
      cases vs with
      | nil => simp at pos
      | cons v r => exact ⟨v, r, rfl⟩
    have all : ((List.map (fun _ => Value.type "tuple") (v :: r)).toArray.all fun x => x == Value.type "tuple") = true := by
      simp only [List.all_toArray, List.all_map, List.all_eq_true]
      intro _ _
      exact beq_self_eq_true _
    rw [show (List.map (fun _ => Value.type "tuple") (v :: r)).toArray[0]? = some (Value.type "tuple") by simp]
    simp only [all, if_true]
    exact wpAny_pure (wpAny_pure hq)
theorem keyLt_general (x y : Value) : keyLt' general' x y = oneLt' false x y := rfl
/-- data that are alike: sorted, whatever they are -/
def Sorty (ds : List PyData) : Prop := Sortable ds ∨ ∀ d ∈ ds, ∃ xs, d = .tuple xs
theorem sorts {vs : List Value} {ds : List PyData} (e : EachIs (fun v d => ∃ as, Reads s.heap v d as) vs ds) (hal : AllAlike ds) (hk : Sorty ds) (hu : ∀ d, d ∈ ds → A.units + d.depth < cLine) : SortsAt prog w A s (dataKind s.heap ds) vs := by
  rcases hk with hk | ht
  · exact SortsAt.data e hal hk hu
  · by_cases hm : PyData.tuple [] ∈ ds
    · obtain ⟨kd, hkd, run⟩ := kind_some (prog := prog) (w := w) (A := A) e ht hm
      refine ⟨fun v hv => ?_, kd, ?_, fun _ E Q hq => run E hq⟩
      · obtain ⟨d, hd, as, r⟩ := e.left v hv
        exact ⟨_, dataKind_some hal hd r⟩
      · intro E x y a b Q ha hb hq
        obtain ⟨d, as, hd, ra, rfl⟩ := dataKind_inv ha
        obtain ⟨d', as', hd', rb, rfl⟩ := dataKind_inv hb
        have room : A.units + min d.depth d'.depth < cLine := Nat.lt_of_le_of_lt (Nat.add_le_add_left (Nat.min_le_left _ _) _) (hu d hd)
        have hdd := hal d hd d' hd'
        obtain ⟨xs, rfl⟩ := ht d hd
        obtain ⟨ys, rfl⟩ := ht d' hd'
        rcases hkd with rfl | rfl
        · rw [keyLt_general]
          exact oneLt_alike (fun z => absurd z (by decide)) ra rb hdd (by simp) room hq
        · rw [keyLt'_oneType]
          exact lt_one ra rb (by simpa [alike] using hdd) room hq
    · refine SortsAt.data e hal (.inl fun d hd => ?_) hu
      obtain ⟨xs, rfl⟩ := ht d hd
      cases xs with
      | nil => exact absurd hd hm
      | cons x r => exact ⟨x, r, rfl⟩
end
end GS

/-! GSe: whole numbers and tuples of these, nested, as keys of sets -/
namespace GS
open PySem PySem.Calls PyProof.Rows PySem.SeqAt PySem.W
mutual
/-- no text within -/
def nt : NestedKey → Bool
  | .none => true
  | .num _ => true
  | .text _ => false
  | .tup ks => ntAll ks
def ntAll : List NestedKey → Bool
  | [] => true
  | k :: ks => nt k && ntAll ks
end
section
variable {P : Program} {w : World} {s : Shared}
def ClsAt (P : Program) (w : World) (n : Nat) (s : Shared) (v : Value) : Prop := ∀ (A : Around) (E : Value → Shared → Prop) (Q : Bool → Shared → Prop), Q false s → wpAny (model P w) A (ofAClassStatement n v) Q E s
def ByvAt (P : Program) (w : World) (n : Nat) (s : Shared) (v : Value) : Prop := ∀ (A : Around) (E : Value → Shared → Prop) (Q : Bool → Shared → Prop), Q true s → wpAny (model P w) A (hashByValue n v) Q E s
theorem ClsAt.tup {n m : Nat} {b : Addr} {o : Obj} {vs : Array Value} (ho : s.heap.get? b = some o) (hc : o.cls = .type "tuple") (hd : o.data = .seq vs m) (q : ∀ v ∈ vs.toList, ClsAt P w n s v) : ClsAt P w (n + 1) s (.ref b) := fun A E Q h => by
  unfold ofAClassStatement
  refine wpAny_bind (wpAny_typeOf ⟨o, ho, hc⟩ ?_)
  dsimp only
  have e : (("tuple" : String) == "tuple") = true := by decide
  simp only [e, if_true, Bool.not_true, Bool.false_eq_true, if_false]
  try refine wpAny_bind (wpAny_pure ?_)
  try simp only [Bool.not_true, Bool.false_eq_true, if_false]
  show wpAny _ _ (seqItems? (.ref b) >>= _) _ _ s
  refine wpAny_bind (wpAny_seqItems ho hd ?_)
  dsimp only
  refine wpAny_bind ?_
  show wpAny _ _ (forIn vs _ _) _ _ s
  rw [← Array.forIn_toList]
  refine wpAny_forIn_list _ (fun l (r : Option Bool × Unit) z => r.1 = none ∧ z = s ∧ ∀ v ∈ l, ClsAt P w n s v) _ ?_ ?_ _ _ ⟨rfl, rfl, q⟩
  · rintro v l r z ⟨_, rfl, q'⟩
    refine wpAny_bind (q' v List.mem_cons_self _ _ _ ?_)
    simp only [Bool.false_eq_true, if_false]
    exact wpAny_pure ⟨rfl, rfl, fun u hu => q' u (List.mem_cons_of_mem _ hu)⟩
  · rintro ⟨r1, r2⟩ z ⟨e, rfl, _⟩
    simp only at e
    subst e
    exact wpAny_pure h
theorem ByvAt.tup {n m : Nat} {b : Addr} {o : Obj} {vs : Array Value} (ho : s.heap.get? b = some o) (hc : o.cls = .type "tuple") (hd : o.data = .seq vs m) (q : ∀ v ∈ vs.toList, ByvAt P w n s v) : ByvAt P w (n + 1) s (.ref b) := fun A E Q h => by
  unfold hashByValue
  refine wpAny_bind (wpAny_specialOf ⟨o, ho, hc⟩ F.slot_tuple_hash.lookup ?_)
  show wpAny _ _ (seqItems? (.ref b) >>= _) _ _ s
  refine wpAny_bind (wpAny_seqItems ho hd (wpAny_bind ?_))
  show wpAny _ _ (forIn vs _ _) _ _ s
  rw [← Array.forIn_toList]
  refine wpAny_forIn_list _ (fun l (r : Option Bool × Unit) z => r.1 = none ∧ z = s ∧ ∀ v ∈ l, ByvAt P w n s v) _ ?_ ?_ _ _ ⟨rfl, rfl, q⟩
  · rintro v l r z ⟨_, rfl, q'⟩
    refine wpAny_bind (q' v List.mem_cons_self _ _ _ ?_)
    simp only [Bool.not_true, Bool.false_eq_true, if_false]
    exact wpAny_pure ⟨rfl, rfl, fun u hu => q' u (List.mem_cons_of_mem _ hu)⟩
  · rintro ⟨r1, r2⟩ z ⟨e, rfl, _⟩
    simp only at e
    subst e
    exact wpAny_pure h
mutual
theorem asks : ∀ (k : NestedKey) (v : Value) (n : Nat), NestedIs s.heap k v → k.depth ≤ n → nt k = true → ClsAt P w n s v ∧ ByvAt P w n s v
  | .none, _, n, h, _, _ => by
    cases h
    exact ⟨fun A E Q q => by cases n <;> exact wpAny_pure q, fun A E Q q => by cases n <;> exact wpAny_pure q⟩
  | .num _, _, n, h, _, _ => by
    cases h <;> exact ⟨fun A E Q q => by cases n <;> exact wpAny_pure q, fun A E Q q => by cases n <;> exact wpAny_pure q⟩
  | .text _, _, _, _, _, h => by simp [nt] at h
  | .tup ks, _, n, h, hn, ht => by
    cases h with
    | tup ho hc hd ha =>
      cases n with
      | zero => simp [NestedKey.depth] at hn
      | succ n =>
        have q := asksAll ks _ n ha (by simpa [NestedKey.depth] using hn) (by simpa [nt] using ht)
        exact ⟨.tup ho hc hd fun v hv => (q v hv).1, .tup ho hc hd fun v hv => (q v hv).2⟩
theorem asksAll : ∀ (ks : List NestedKey) (vs : List Value) (n : Nat), NestedAll s.heap ks vs → NestedKey.depthAll ks ≤ n → ntAll ks = true → ∀ v ∈ vs, ClsAt P w n s v ∧ ByvAt P w n s v
  | [], _, _, h, _, _, v, hv => by cases h; cases hv
  | k :: ks, _, n, h, hn, ht, v, hv => by
    cases h with
    | cons h1 h2 =>
      have hn' : k.depth ≤ n ∧ NestedKey.depthAll ks ≤ n := by
        simp only [NestedKey.depthAll] at hn; omega
      have ht' : nt k = true ∧ ntAll ks = true := by simpa [ntAll] using ht
      rcases List.mem_cons.mp hv with e | e
      · rw [e]; exact asks k _ n h1 hn'.1 ht'.1
      · exact asksAll ks _ n h2 hn'.2 ht'.2 v e
end
end
/-- the kind: tuples of numbers and of such tuples -/
def numK (P : Program) (w : World) : SK P w NestedKey where
  kd := { nestedKind P w with
    is := fun h k a => (nestedKind P w).is h k a ∧ nt k = true
    inj := fun x y => (nestedKind P w).inj x.1 y.1
    keeps := fun x a b c => ⟨(nestedKind P w).keeps x.1 a b c, x.2⟩
    pyHash := fun a x h => (nestedKind P w).pyHash a x.1 h
    eqBool := fun a x y h => (nestedKind P w).eqBool a x.1 y.1 h
    quiet := fun x h => (nestedKind P w).quiet x.1 h }
  cls := fun x h => (asks _ _ 8 x.1.1 x.1.2 x.2).1 _ _ _ h
  byv := fun x h => (asks _ _ 8 x.1.1 x.1.2 x.2).2 _ _ _ h
  keep := fun x q => ⟨⟨NestedIs.at (fun c o vs n e d => q c o vs n e d) _ _ x.1.1, x.1.2⟩, x.2⟩
/-! ### data as keys -/
mutual
/-- whole numbers and tuples of such -/
def ni : PyData → Bool
  | .int _ => true
  | .tuple ds => niAll ds
  | _ => false
def niAll : List PyData → Bool
  | [] => true
  | d :: ds => ni d && niAll ds
end
mutual
def kof : PyData → NestedKey
  | .int i => .num i
  | .tuple ds => .tup (kofAll ds)
  | _ => .none
def kofAll : List PyData → List NestedKey
  | [] => []
  | d :: ds => kof d :: kofAll ds
end
mutual
theorem data_kof : ∀ d : PyData, ni d = true → (kof d).data = d ∧ nt (kof d) = true ∧ (kof d).depth = d.depth
  | .int i, _ => ⟨rfl, rfl, by simp [kof, NestedKey.depth, PyData.depth]⟩
  | .tuple ds, h => by
    have q := data_kofAll ds (by simpa [ni] using h)
    refine ⟨?_, ?_, ?_⟩
    · simp only [kof, NestedKey.data]; rw [q.1]
    · simpa only [kof, nt] using q.2.1
    · simp only [kof, NestedKey.depth, PyData.depth]; rw [q.2.2]
  | .none, h => by simp [ni] at h
  | .bool _, h => by simp [ni] at h
  | .str _, h => by simp [ni] at h
  | .list _, h => by simp [ni] at h
  | .dict _, h => by simp [ni] at h
theorem data_kofAll : ∀ ds : List PyData, niAll ds = true → NestedKey.datas (kofAll ds) = ds ∧ ntAll (kofAll ds) = true ∧ NestedKey.depthAll (kofAll ds) = PyData.depthAll ds
  | [], _ => ⟨rfl, rfl, by simp [kofAll, NestedKey.depthAll, PyData.depthAll]⟩
  | d :: ds, h => by
    have h' : ni d = true ∧ niAll ds = true := by simpa [niAll] using h
    have a := data_kof d h'.1
    have b := data_kofAll ds h'.2
    refine ⟨?_, ?_, ?_⟩
    · simp only [kofAll, NestedKey.datas]; rw [a.1, b.1]
    · simp only [kofAll, ntAll]; rw [a.2.1, b.2.1]; rfl
    · simp only [kofAll, NestedKey.depthAll, PyData.depthAll]; rw [a.2.2, b.2.2]
end
mutual
theorem is_kof {h : Heap} : ∀ {d : PyData} {v : Value} {as : List Addr}, Reads h v d as → ni d = true → NestedIs h (kof d) v
  | .int i, _, _, r, _ => by cases r; exact .int _ _
  | .tuple ds, _, _, r, h => by
    cases r with
    | tuple ho hc hd hr => exact .tup ho hc hd (is_kofAll hr (by simpa [ni] using h))
  | .none, _, _, _, h => by simp [ni] at h
  | .bool _, _, _, _, h => by simp [ni] at h
  | .str _, _, _, _, h => by simp [ni] at h
  | .list _, _, _, _, h => by simp [ni] at h
  | .dict _, _, _, _, h => by simp [ni] at h
theorem is_kofAll {h : Heap} : ∀ {ds : List PyData} {vs : List Value} {as : List Addr}, ReadsAll h vs ds as → niAll ds = true → NestedAll h (kofAll ds) vs
  | [], _, _, r, _ => by cases r; exact .nil
  | d :: ds, _, _, r, h => by
    have h' : ni d = true ∧ niAll ds = true := by simpa [niAll] using h
    cases r with
    | cons r1 r2 => exact .cons (is_kof r1 h'.1) (is_kofAll r2 h'.2)
end
end GS

/-! GSf: sorted(a set of nested whole numbers) -/
namespace GS
open PySem PySem.Calls PyProof.Rows PySem.SeqAt PySem.W L2
theorem perm_pre {α β : Type} {f : α → β} : ∀ {us ws : List β}, us.Perm ws → ∀ {L : List α}, ws = L.map f → ∃ M : List α, M.Perm L ∧ us = M.map f := by
  intro us ws h
  induction h with
  | nil => intro L e; exact ⟨[], by rw [List.map_eq_nil_iff.mp e.symm], rfl⟩
  | cons x _ ih =>
    intro L e
    obtain ⟨a, l, rfl, e1, e2⟩ := List.map_eq_cons_iff.mp e.symm
    obtain ⟨M, h1, h2⟩ := ih e2.symm
    exact ⟨a :: M, h1.cons a, by rw [List.map_cons, h2, e1]⟩
  | swap x y l =>
    intro L e
    obtain ⟨a, l1, rfl, e1, e2⟩ := List.map_eq_cons_iff.mp e.symm
    obtain ⟨b, l2, rfl, e3, e4⟩ := List.map_eq_cons_iff.mp e2
    exact ⟨b :: a :: l2, List.Perm.swap .., by rw [List.map_cons, List.map_cons, e1, e3, e4]⟩
  | trans _ _ ih1 ih2 =>
    intro L e
    obtain ⟨M, h1, h2⟩ := ih2 e
    obtain ⟨N, h3, h4⟩ := ih1 h2
    exact ⟨N, h3.trans h1, h4⟩
theorem each_of_list {α β : Type} {R : α → β → Prop} (f : β → α) : ∀ (l : List β), (∀ b ∈ l, R (f b) b) → EachIs R (l.map f) l
  | [], _ => .nil
  | b :: l, h => .cons (h b List.mem_cons_self) (each_of_list f l fun x hx => h x (List.mem_cons_of_mem _ hx))
theorem each_map_r {α β γ : Type} {R : α → γ → Prop} {g : β → γ} : ∀ {us : List α} {bs : List β}, EachIs (fun v b => R v (g b)) us bs → EachIs R us (bs.map g)
  | _, _, .nil => .nil
  | _, _, .cons h t => .cons h (each_map_r t)
section
variable {P : Program} {w : World} {A : Around} {E : Value → Shared → Prop} {s : Shared}
variable {a : Addr} {L : List (Addr × NestedKey)} {es : Array (Int × Value)} {ep : Nat} {t : SetTable}
/-- sorted(the set): a new list of the items, in their data's order -/
theorem sorted_set {Q : Value → Shared → Prop} (T : Tb (numK P w) s.heap a L es ep t) (hh : A.handled = none) (rd : ∀ p ∈ L, ∃ as, Reads s.heap (.ref p.1) p.2.data as) (hal : AllAlike (L.map fun p => p.2.data)) (hk : Sorty (L.map fun p => p.2.data)) (hu : ∀ p ∈ L, A.units + 2 + p.2.data.depth < cLine)
    (hQ : ∀ (s' : Shared) (p : Addr) (out : Array Value) (c : Nat) (M : List (Addr × NestedKey)), (∀ b o, s.heap.get? b = some o → s'.heap.get? b = some o) → s'.gens = s.gens → s'.os = s.os → s.heap.objs.size ≤ p → s'.heap.get? p = some (seqObj "list" out c) →
      M.Perm L → EachIs (fun v (q : Addr × NestedKey) => v = .ref q.1) out.toList (M.mergeSort (dataLe false fun q => q.2.data)) → Q (.ref p) s') : wpAny (model P w) A (call (.builtin "sorted") [.ref a]) Q E s := by
  obtain ⟨o, ho, hex, hd⟩ := T.obj
  have ez := T.size; have fw := T.fw
  refine Calls.call_function_entry kind_sorted plain_sorted entry_sorted (args_sorted1 _) ?_
  unfold Builtin.«sorted»
  refine wpAny_bind (m := checkCount "sorted" 1 1 _) (wpAny_pure ?_)
  refine wpAny_bind (collect_set (A := A.in1) hh ⟨o, ho, hex.1, hd⟩ T.fit (by unfold scanBound; omega) T.tb.ris T.ld fun s1 vs k1 hz g1 o1 pm => ?_)
  have e1 : es.toList.map (·.2) = L.map fun q => Value.ref q.1 := by rw [T.rw, rws, List.map_map]; rfl
  rw [e1] at pm
  obtain ⟨M, mp, rfl⟩ := perm_pre pm rfl
  have ml : M.length < 64 := by rw [mp.length_eq]; exact fw
  refine wpAny_bind (wpAny_newList ?_ (by rw [sizeLine_eq]; simp; omega))
  generalize hvs : (M.map fun q => Value.ref q.1) = vs
  have hoL : (s1.heap.push (seqObj "list" vs.toArray 0)).get? s1.heap.objs.size = some (seqObj "list" vs.toArray 0) := Heap.get?_push_size _ rfl
  have each : EachIs (fun v (q : Addr × NestedKey) => v = .ref q.1) vs M := by rw [← hvs]; exact each_of_list _ M fun _ _ => rfl
  have hal' : AllAlike (M.map fun p => p.2.data) := fun d h d' h' => hal d ((mp.map _).mem_iff.mp h) d' ((mp.map _).mem_iff.mp h')
  have er : EachIs (fun v (q : Addr × NestedKey) => ∃ as, Reads (sortingHeap (s1.heap.push (seqObj "list" vs.toArray 0)) s1.heap.objs.size vs) v q.2.data as) vs M := by
    rw [← hvs]
    refine each_of_list _ M fun q hq => ?_
    obtain ⟨as, r⟩ := rd q (mp.mem_iff.mp hq)
    refine ⟨as, PyProof.Rows.Reads.keeps (fun b ob eb => ?_) r⟩
    have lt := Heap.lt_size (k1 b ob eb)
    exact sortingHeap_old (Nat.ne_of_lt lt) (Heap.get?_push_of_some _ (k1 b ob eb))
  refine wpAny_bind (wpAny_holding (wpAny_call_entry (T := "list") slot_list_sort ⟨_, hoL, rfl⟩ entry_list_sort (list_sort_vals (s := { s1 with heap := s1.heap.push (seqObj "list" vs.toArray 0) }) (κ := dataKind (sortingHeap (s1.heap.push (seqObj "list" vs.toArray 0)) s1.heap.objs.size vs) (M.map fun p => p.2.data)) hoL ?_ ?_ ?_) (args_list_sort _)))
  · refine sorts (s := { s1 with heap := sortingHeap (s1.heap.push (seqObj "list" vs.toArray 0)) s1.heap.objs.size vs }) (each_map_r (R := fun v d => ∃ as, Reads (sortingHeap (s1.heap.push (seqObj "list" vs.toArray 0)) s1.heap.objs.size vs) v d as) (g := fun p : Addr × NestedKey => p.2.data) er) hal' ?_ ?_
    · rcases hk with (h | h) | h
      · exact .inl (.inl fun d hd' => h d ((mp.map _).mem_iff.mp hd'))
      · exact .inl (.inr fun d hd' => h d ((mp.map _).mem_iff.mp hd'))
      · exact .inr fun d hd' => h d ((mp.map _).mem_iff.mp hd')
    · intro d hd'
      obtain ⟨q, hq, rfl⟩ := List.mem_map.mp hd'
      have := hu q (mp.mem_iff.mp hq)
      show A.in1.in1.units + _ < _
      simp
      omega
  · rw [← hvs, sizeLine_eq]; simp; omega
  · have out := sortVals_data (h' := sortingHeap (s1.heap.push (seqObj "list" vs.toArray 0)) s1.heap.objs.size vs) (enc := fun q : Addr × NestedKey => q.2.data) false each er hal'
    generalize sortVals (dataKind (sortingHeap (s1.heap.push (seqObj "list" vs.toArray 0)) s1.heap.objs.size vs) (M.map fun p => p.2.data)) false vs vs = ov at out ⊢
    obtain ⟨c, hc⟩ := sortedHeap_at (vs := vs) (out := ov.toArray) hoL
    refine ⟨_, rfl, wpAny_pure ⟨_, rfl, hQ _ s1.heap.objs.size ov.toArray c M (fun b ob eb => ?_) g1 o1 hz hc mp (by simpa using out)⟩⟩
    have lt := Heap.lt_size (k1 b ob eb)
    show (sortedHeap (s1.heap.push (seqObj "list" vs.toArray 0)) s1.heap.objs.size vs ov.toArray).get? b = some ob
    rw [sortedHeap_old (Nat.ne_of_lt lt) (by rw [size_push']; exact Nat.lt_succ_of_lt lt)]
    exact Heap.get?_push_of_some _ (k1 b ob eb)
end
end GS

/-! GSg: sorted(set(e)), as the layer's rule -/
namespace GS
open PySem PySem.Spec L2 GL PySem.W
open PyProof.Rows hiding St
section
variable {P : Program} {w : World} {K : Type} [DecidableEq K] {G : SK P w K}
/-- the set at a, its items aside -/
def Bare (G : SK P w K) (h : Heap) (a : Addr) (L : List (Addr × K)) : Prop := ∃ (es : Array (Int × Value)) (ep : Nat) (t : SetTable), (∃ o, h.get? a = some o ∧ o.ExactSet ∧ o.data = .set es ep t) ∧ es.toList = rws G L ∧ TabOk t (L.map fun p => G.kd.hash p.2) ∧ (L.map (·.2)).Nodup ∧ t.plain = true ∧
  (w.params.followText "set-order" = true ∨ t.led = true) ∧ L.length * 5 < t.mask * 3 ∧ L.length < 64
theorem Bare.full {h : Heap} {a : Addr} {L : List (Addr × K)} (R : Bare G h a L) (i : ∀ p ∈ L, G.kd.is h p.2 p.1) : ∃ es ep t, Tb G h a L es ep t := by
  obtain ⟨es, ep, t, h1, h2, h3, h4, h5, h6, h7, h8⟩ := R
  exact ⟨es, ep, t, h1, h2, h3, h4, i, h5, h6, h7, h8⟩
theorem Tb.bare {h : Heap} {a : Addr} {L : List (Addr × K)} {es : Array (Int × Value)} {ep : Nat} {t : SetTable} (T : Tb G h a L es ep t) : Bare G h a L := ⟨es, ep, t, T.obj, T.rw, T.tb, T.dis, T.pl, T.ld, T.rm, T.fw⟩
def bO (G : SK P w K) (a : Addr) (L : List (Addr × K)) : HO := .ext fun h => Bare G h a L
theorem bO_new {H : Hp} {h : Heap} {a : Addr} {L : List (Addr × K)} (R : Bare G h a L) : ObjOk P w H h a (bO G a L) := by
  have ⟨es, ep, t, ⟨o, ho, r⟩, q⟩ := R
  refine ⟨R, ⟨o, ho⟩, fun h1 h2 p k => ?_⟩
  have ⟨es', ep', t', ⟨o', ho', r'⟩, q'⟩ := (p : Bare G h1 a L)
  exact ⟨es', ep', t', ⟨o', k o' ho', r'⟩, q'⟩
end
/-- what may stand in a set: a tuple of whole numbers, nested, not too deep -/
def okKey : PyData → Bool
  | .tuple ds => niAll ds && decide ((PyData.tuple ds).depth ≤ 8)
  | _ => false
theorem okKey_ni {d : PyData} (h : okKey d = true) : ni d = true ∧ d.depth ≤ 8 ∧ ∃ ds, d = .tuple ds := by
  cases d with
  | tuple ds =>
    have h' : niAll ds = true ∧ (PyData.tuple ds).depth ≤ 8 := by simpa [okKey] using h
    exact ⟨by simpa [ni] using h'.1, h'.2, ds, rfl⟩
  | _ => simp [okKey] at h
section
variable {X : Cx} {pins : List (Addr × Obj)} {σ : St} {H : Hp} {s : Shared}
theorem key_at {F : Hp} (I : Inv X pins σ H s) (hs : Same F H) {d : PyData} {v : V} {u : Value} (hd : Dp X.K F v d) (r : RelV v u) (ok : okKey d = true) : ∃ b, v = .ref b ∧ u = .ref b ∧ (numK X.prog X.w).kd.is s.heap (kof d) b := by
  obtain ⟨h1, h2, ds, rfl⟩ := okKey_ni ok
  obtain ⟨as, rd⟩ := Dp.reads I _ _ _ (hd.mono hs) r
  have q := data_kof _ h1
  cases hd with
  | @tup a xs _ s1 d1 =>
    obtain rfl : u = Value.ref a := r
    exact ⟨a, rfl, rfl, ⟨is_kof rd h1, by rw [q.2.2]; exact h2⟩, q.2.1⟩
theorem keys_at {F : Hp} (I : Inv X pins σ H s) (hs : Same F H) : ∀ {ds : List PyData} {vs : List V} {us : List Value}, DpAll X.K F vs ds → Vals vs us → (∀ d ∈ ds, okKey d = true) →
    ∃ ks : List (Addr × NestedKey), us = (ks.map fun p => Value.ref p.1) ∧ ks.map (·.2) = ds.map kof ∧ (∀ p ∈ ks, (numK X.prog X.w).kd.is s.heap p.2 p.1) ∧ ∀ p ∈ ks, ∃ d ∈ ds, p.2 = kof d ∧ Dp X.K F (.ref p.1) d
  | _, _, _, .nil, .nil, _ => ⟨[], rfl, rfl, fun _ h => (by cases h), fun _ h => (by cases h)⟩
  | _, _, _, .cons (d := d) hd t, .cons r rs, ok => by
    obtain ⟨b, rfl, rfl, hb⟩ := key_at I hs hd r (ok d List.mem_cons_self)
    obtain ⟨ks, e1, e2, h1, h2⟩ := keys_at I hs t rs fun d h => ok d (List.mem_cons_of_mem _ h)
    refine ⟨(b, kof d) :: ks, by rw [List.map_cons, e1], by rw [List.map_cons, List.map_cons, e2], fun p hp => ?_, fun p hp => ?_⟩
    · rcases List.mem_cons.mp hp with e | e
      · rw [e]; exact hb
      · exact h1 p e
    · rcases List.mem_cons.mp hp with e | e
      · rw [e]; exact ⟨d, List.mem_cons_self, rfl, hd⟩
      · obtain ⟨d', m, q⟩ := h2 p e
        exact ⟨d', List.mem_cons_of_mem _ m, q⟩
end
/-- the items of a set of data ds, over the heap F -/
structure Its (K : PySem.W.Frag) (F : Hp) (ds : List PyData) (L : List (Addr × NestedKey)) : Prop where
  dat : ∀ p ∈ L, ∃ d ∈ ds, p.2 = kof d ∧ Dp K F (.ref p.1) d
  all : ∀ d ∈ ds, kof d ∈ L.map (·.2)
  nd : (L.map (·.2)).Nodup
def rSetN (K : PySem.W.Frag) (P : Program) (w : World) : List V → Hp → VK → Prop := fun xs H Q => ∃ F l vs ds, xs = [V.ref l] ∧ Same F H ∧ SqL K H l vs ∧ DpAll K F vs ds ∧ (∀ d ∈ ds, okKey d = true) ∧ ds.length < 64 ∧
  ∀ a L, H a = none → Its K F ds L → Q (.ref a) (upd H a (bO (numK P w) a L))
theorem cr_setN {X : Cx} (hc : X.calm = true) (hu : X.A.units + 64 < cLine) : CallR X (.type "set") (rSetN X.K X.prog X.w) := by
  intro pins s σ H xs us Q I r h
  obtain ⟨F, l, vs, ds, rfl, hs, hl, hd, ok, fw, q⟩ := h
  rw [Vals.ref1 r]
  obtain ⟨its, rv, pl, hz⟩ := I.list hl
  have hn : H s.heap.objs.size = none := I.hok.fresh (Nat.le_refl _)
  obtain ⟨ks, e1, e2, h1, h2⟩ := keys_at I hs hd rv ok
  have kl : ks.length = ds.length := by have := congrArg List.length e2; simpa using this
  refine call_set (G := numK X.prog X.w) ks (I.ok.hd hc) pl.isList (by simpa using e1) h1 (by rw [kl]; exact fw) (by omega) (by show _ + 8 < _; simp; omega) fun h' tk L es ep t T g k => ?_
  refine ⟨.ref s.heap.objs.size, upd H s.heap.objs.size (bO (numK X.prog X.w) s.heap.objs.size L), I.laid (t' := tk) k (Nat.le_refl _) (bO_new T.bare), rfl, q _ L hn ⟨fun p hp => h2 p (List.mem_of_mem_take (g.of p hp)), fun d m => ?_, T.dis⟩⟩
  have : kof d ∈ ks.map (·.2) := by rw [e2]; exact List.mem_map_of_mem m
  obtain ⟨p, hp, e⟩ := List.mem_map.mp this
  rw [← e]
  exact g.al p (by rw [List.take_length]; exact hp)
def rSortedN (K : PySem.W.Frag) (P : Program) (w : World) : List V → Hp → VK → Prop := fun xs H Q => ∃ F a L ds, xs = [V.ref a] ∧ Same F H ∧ H a = some (bO (numK P w) a L) ∧ Its K F ds L ∧ (∀ d ∈ ds, okKey d = true) ∧ AllAlike ds ∧
  ∀ p (M : List (Addr × NestedKey)), H p = none → M.Perm L → Q (.ref p) (upd H p (.lst ((M.mergeSort (dataLe false fun q => q.2.data)).map fun q => V.ref q.1)))
theorem vals_each : ∀ {us : List Value} {M : List (Addr × NestedKey)}, EachIs (fun v (q : Addr × NestedKey) => v = .ref q.1) us M → Vals (M.map fun q => V.ref q.1) us
  | _, _, .nil => .nil
  | _, _, .cons h t => by subst h; exact .cons rfl (vals_each t)
theorem cr_sortedN {X : Cx} (hc : X.calm = true) (hu : X.A.units + 64 < cLine) : CallR X (.builtin "sorted") (rSortedN X.K X.prog X.w) := by
  intro pins s σ H xs us Q I r h
  obtain ⟨F, a, L, ds, rfl, hs, ha, its, ok, al, q⟩ := h
  rw [Vals.ref1 r]
  have R : Bare (numK X.prog X.w) s.heap a L := (I.hok a _ ha).1
  have isk : ∀ p ∈ L, (numK X.prog X.w).kd.is s.heap p.2 p.1 := fun p hp => by
    obtain ⟨d, m, e, hd⟩ := its.dat p hp
    obtain ⟨b, e1, _, h3⟩ := key_at I hs hd rfl (ok d m)
    rw [e]
    cases e1
    exact h3
  have dt : ∀ p ∈ L, ∃ d ∈ ds, p.2.data = d ∧ Dp X.K F (.ref p.1) d := fun p hp => by
    obtain ⟨d, m, e, hd⟩ := its.dat p hp
    exact ⟨d, m, by rw [e]; exact (data_kof d (okKey_ni (ok d m)).1).1, hd⟩
  have inds : ∀ d ∈ L.map (fun p => p.2.data), d ∈ ds := fun d hd => by
    obtain ⟨p, hp, rfl⟩ := List.mem_map.mp hd
    obtain ⟨d, m, e, _⟩ := dt p hp
    rw [e]; exact m
  obtain ⟨es, ep, t, T⟩ := R.full isk
  refine sorted_set T (I.ok.hd hc) (fun p hp => ?_) (fun d h d' h' => al d (inds d h) d' (inds d' h')) (.inr fun d hd => (okKey_ni (ok d (inds d hd))).2.2) (fun p hp => ?_) fun s' p out c M k g o hp ho mp ev => ?_
  · obtain ⟨d, m, e, hd⟩ := dt p hp
    obtain ⟨as, rd⟩ := Dp.reads I _ _ _ (hd.mono hs) (show RelV (V.ref p.1) (Value.ref p.1) from rfl)
    exact ⟨as, by rw [e]; exact rd⟩
  · obtain ⟨d, m, e, hd⟩ := dt p hp
    have := (okKey_ni (ok d m)).2.1
    rw [e]; omega
  have hn : H p = none := I.hok.fresh hp
  have hv := vals_each ev
  have hlen : ((M.mergeSort (dataLe false fun q => q.2.data)).map fun q => V.ref q.1).length ≤ sizeLine := by
    have := T.fw
    rw [List.length_map, (List.mergeSort_perm _ _).length_eq, mp.length_eq, sizeLine_eq]; omega
  have J : Inv X pins σ (upd H p (.lst ((M.mergeSort (dataLe false fun q => q.2.data)).map fun q => V.ref q.1))) { s with heap := s'.heap, gens := s'.gens, drawn := s'.drawn, toks := s'.toks } :=
    I.call (ch := []) (Un.laid k hp hn) (I.hok.laid k hp ⟨hlen, out.toList, c, hv, ho⟩) (by rw [g]; exact I.bare) (fun _ z => nomatch z)
  have e : s' = { s with heap := s'.heap, gens := s'.gens, drawn := s'.drawn, toks := s'.toks } := by
    cases s'; cases s; cases o; rfl
  rw [e]
  exact ⟨.ref p, _, J, rfl, q p M hn mp⟩
end GS

/-! GSh: what sorted(set(e)) gives, as a function of data -/
namespace GS
open PySem PySem.Spec L2 GL PySem.W
open PyProof.Rows hiding St
/-- each item once -/
def once : List NestedKey → List NestedKey
  | [] => []
  | k :: ks => if k ∈ ks then once ks else k :: once ks
theorem mem_once {a : NestedKey} : ∀ {l : List NestedKey}, a ∈ once l ↔ a ∈ l
  | [] => by simp [once]
  | k :: l => by
    unfold once
    split
    · rename_i h
      rw [mem_once, List.mem_cons]
      exact ⟨.inr, fun q => q.elim (fun e => e ▸ h) id⟩
    · rw [List.mem_cons, List.mem_cons, mem_once]
theorem nodup_once : ∀ l : List NestedKey, (once l).Nodup
  | [] => List.nodup_nil
  | k :: l => by
    unfold once
    split
    · exact nodup_once l
    · rename_i h
      exact List.nodup_cons.mpr ⟨fun q => h (mem_once.mp q), nodup_once l⟩
def kLe (a b : NestedKey) : Bool := dataLe false NestedKey.data a b
/-- the items of ds, each once, in order -/
def sortK (ds : List PyData) : List PyData := ((once (ds.map kof)).mergeSort kLe).map NestedKey.data
theorem toks_same {x y : PyData} (h : alike x y = true) (e : keyToks x = keyToks y) : PyData.eqv x y = true := by
  cases q : PyData.eqv x y with
  | true => rfl
  | false =>
    have z := (toks_eqv x y h).2 q [] [.inl 0]
    rw [e, List.append_nil, lex_irrefl] at z
    have z2 := lex_pre (keyToks y) [] [.inl 0]
    rw [List.append_nil, z] at z2
    simp [PyProof.Rows.lexLt] at z2
mutual
theorem eqv_ni : ∀ {x y : PyData}, ni x = true → ni y = true → PyData.eqv x y = true → x = y
  | .int i, y, _, hy, h => by
    cases y with
    | int j =>
      have q : i = j := by simpa [PyData.eqv] using h
      rw [q]
    | tuple _ => simp [PyData.eqv] at h
    | _ => simp [ni] at hy
  | .tuple xs, y, hx, hy, h => by
    cases y with
    | int j => simp [PyData.eqv] at h
    | tuple ys =>
      have q : xs = ys := eqv_niAll (by simpa [ni] using hx) (by simpa [ni] using hy) (by simpa [PyData.eqv] using h)
      rw [q]
    | _ => simp [ni] at hy
  | .none, _, hx, _, _ => by simp [ni] at hx
  | .bool _, _, hx, _, _ => by simp [ni] at hx
  | .str _, _, hx, _, _ => by simp [ni] at hx
  | .list _, _, hx, _, _ => by simp [ni] at hx
  | .dict _, _, hx, _, _ => by simp [ni] at hx
theorem eqv_niAll : ∀ {xs ys : List PyData}, niAll xs = true → niAll ys = true → PyData.eqvAll xs ys = true → xs = ys
  | [], [], _, _, _ => rfl
  | [], _ :: _, _, _, h => by simp [PyData.eqvAll] at h
  | _ :: _, [], _, _, h => by simp [PyData.eqvAll] at h
  | x :: xs, y :: ys, hx, hy, h => by
    have hx' : ni x = true ∧ niAll xs = true := by simpa [niAll] using hx
    have hy' : ni y = true ∧ niAll ys = true := by simpa [niAll] using hy
    have h' : PyData.eqv x y = true ∧ PyData.eqvAll xs ys = true := by simpa [PyData.eqvAll] using h
    rw [eqv_ni hx'.1 hy'.1 h'.1, eqv_niAll hx'.2 hy'.2 h'.2]
end
theorem le_tot (β : Type) (k : β → PyData) : (∀ a b c, dataLe false k a b = true → dataLe false k b c = true → dataLe false k a c = true) ∧ ∀ a b, (dataLe false k a b || dataLe false k b a) = true := ⟨(sortLe_total (listOrd itemOrd) false fun b => keyToks (k b)).trans, fun a b => by
  have := (sortLe_total (listOrd itemOrd) false fun b => keyToks (k b)).total a b
  simpa [dataLe] using this⟩
theorem le_anti {x y : PyData} (hx : ni x = true) (hy : ni y = true) (h : alike x y = true) (h1 : dataLe false id x y = true) (h2 : dataLe false id y x = true) : x = y := by
  have a1 : (listOrd itemOrd).blt (keyToks y) (keyToks x) = false := by
    have : (!(listOrd itemOrd).blt (keyToks y) (keyToks x)) = true := h1
    simpa using this
  have a2 : (listOrd itemOrd).blt (keyToks x) (keyToks y) = false := by
    have : (!(listOrd itemOrd).blt (keyToks x) (keyToks y)) = true := h2
    simpa using this
  exact eqv_ni hx hy (toks_same h ((listOrd itemOrd).total _ _ a2 a1))
/-- what is needed of the items -/
def okSet (ds : List PyData) : Bool := ds.all okKey && decide (ds.length < 64) && ds.all fun a => ds.all fun b => alike a b
theorem okSet_all {ds : List PyData} (h : okSet ds = true) : (∀ d ∈ ds, okKey d = true) ∧ ds.length < 64 ∧ AllAlike ds := by
  unfold okSet at h
  rw [Bool.and_eq_true, Bool.and_eq_true, List.all_eq_true, List.all_eq_true, decide_eq_true_eq] at h
  exact ⟨h.1.1, h.1.2, fun d hd d' hd' => List.all_eq_true.mp (h.2 d hd) d' hd'⟩
/-- rows of a set, sorted, are what sortK says -/
theorem sorted_is {K : PySem.W.Frag} {F : Hp} {ds : List PyData} {L M : List (Addr × NestedKey)} (its : Its K F ds L) (ok : okSet ds = true) (mp : M.Perm L) : (M.mergeSort (dataLe false fun q => q.2.data)).map (·.2) = (once (ds.map kof)).mergeSort kLe := by
  obtain ⟨o1, _, o3⟩ := okSet_all ok
  have inds : ∀ k, k ∈ L.map (·.2) → ∃ d ∈ ds, k = kof d := fun k hk => by
    obtain ⟨p, hp, rfl⟩ := List.mem_map.mp hk
    obtain ⟨d, m, e, _⟩ := its.dat p hp
    exact ⟨d, m, e⟩
  have pm : (M.map (·.2)).Perm (once (ds.map kof)) := by
    refine (List.perm_ext_iff_of_nodup (((mp.map _).nodup_iff).mpr its.nd) (nodup_once _)).mpr fun k => ?_
    rw [mem_once, (mp.map _).mem_iff]
    constructor
    · intro h
      obtain ⟨d, m, rfl⟩ := inds k h
      exact List.mem_map_of_mem m
    · intro h
      obtain ⟨d, m, rfl⟩ := List.mem_map.mp h
      exact its.all d m
  rw [sort_maps (r := dataLe false fun q : Addr × NestedKey => q.2.data) (s := kLe) (fun q : Addr × NestedKey => q.2) fun a _ b _ => rfl]
  have tt := le_tot NestedKey NestedKey.data
  refine List.Perm.eq_of_pairwise (le := fun a b => kLe a b = true) (fun a b ha hb h1 h2 => ?_) (List.pairwise_mergeSort tt.1 tt.2 _) (List.pairwise_mergeSort tt.1 tt.2 _) (((List.mergeSort_perm _ _).trans pm).trans (List.mergeSort_perm _ _).symm)
  have ha' := inds a ((mp.map _).mem_iff.mp ((List.mergeSort_perm _ _).mem_iff.mp ha))
  have hb' := mem_once.mp ((List.mergeSort_perm _ _).mem_iff.mp hb)
  obtain ⟨x, hx, rfl⟩ := ha'
  obtain ⟨y, hy, rfl⟩ := List.mem_map.mp hb'
  have nx := (okKey_ni (o1 x hx)).1
  have ny := (okKey_ni (o1 y hy)).1
  have e1 := (data_kof x nx).1
  have e2 := (data_kof y ny).1
  have q1 : dataLe false id x y = true := by
    have : dataLe false id (kof x).data (kof y).data = true := h1
    rwa [e1, e2] at this
  have q2 : dataLe false id y x = true := by
    have : dataLe false id (kof y).data (kof x).data = true := h2
    rwa [e1, e2] at this
  rw [le_anti nx ny (o3 x hx y hy) q1 q2]
def dSortSet : List PyData → Option (List PyData)
  | [.list ds] => if okSet ds = true then some (sortK ds) else none
  | _ => none
section
variable {X : Cx} {Bo : Option Addr} {W : WX} {e : Expr} {fa : PSt → Rs (List PyData)} {pos pos2 p p2 : Pos}
theorem junk {F H : Hp} (hs : Same F H) {a : Addr} {o : HO} (ha : H a = none) : Gr F H F (upd H a o) := ⟨.refl _, fun _ _ e => .inl e, same_upd ha, fun b u e => same_upd ha _ _ (hs b u e)⟩
theorem sortSet_data : ∀ σ H Q, tR X.K X.mg Bo W (RO X.K) (fAppO dSortSet fa) σ H Q → tCB (rSortedN X.K X.prog X.w) (tCons (tCB (rSetN X.K X.prog X.w) (tR X.K X.mg Bo W (RA X.K) fa)) tNil) σ H Q := fun σ H Q q => by
  refine tR_bind RO.rb q fun vs ds F F1 H1 ps ps1 sr st hv q => ?_
  split at q
  · rename_i es ee
    unfold dSortSet at ee
    split at ee
    · split at ee
      · rename_i ok
        cases ee
        rename_i ds
        obtain ⟨o1, o2, o3⟩ := okSet_all ok
        obtain ⟨v, rfl, hd⟩ := dpall1 hv
        cases hd with
        | lst s1 d1 =>
          refine ⟨F1, _, _, ds, rfl, sr.le, sr.le.seq s1, d1, o1, o2, fun a L ha its => ?_⟩
          have g := junk (o := bO (numK X.prog X.w) a L) sr.le ha
          have sr2 := sr.gr g
          refine ⟨F1, a, L, ds, rfl, sr2.le, upd_same, its, o1, o3, fun p M hp mp => ?_⟩
          have es := sorted_is its ok mp
          have hd : DpAll X.K F1 ((M.mergeSort (dataLe false fun q => q.2.data)).map fun q => V.ref q.1) (sortK ds) := by
            unfold sortK
            rw [← es, List.map_map]
            have key : ∀ N : List (Addr × NestedKey), (∀ q ∈ N, ∃ d ∈ ds, q.2 = kof d ∧ Dp X.K F1 (.ref q.1) d) → DpAll X.K F1 (N.map fun q => V.ref q.1) (N.map (NestedKey.data ∘ fun q => q.2)) := by
              intro N
              induction N with
              | nil => intro _; exact .nil
              | cons n N ih =>
                intro h
                obtain ⟨d, m, e, hd⟩ := h n List.mem_cons_self
                refine .cons ?_ (ih fun q hq => h q (List.mem_cons_of_mem _ hq))
                show Dp X.K F1 (.ref n.1) (NestedKey.data n.2)
                rw [e, (data_kof d (okKey_ni (o1 d m)).1).1]
                exact hd
            exact key _ fun n hn => its.dat n (mp.mem_iff.mp ((List.mergeSort_perm _ _).mem_iff.mp hn))
          obtain ⟨g2, s2, ro⟩ := new_own sr2 hp hd
          exact q (.ref p) _ _ ((Step.of_gr g).trans (.of_gr g2)) s2 (RO.rb _ _ _ _ _ _ _ _ _ _ _ _ (Step.of_gr g) ro)
      · cases ee
    · cases ee
  · exact q.elim
/-- sorted(set(e)) -/
theorem go_sortSet (hc : X.calm = true) (hu : X.A.units + 64 < cLine) (g1 : Gl X "sorted") (m1 : X.mg "sorted" = none) (g2 : Gl X "set") (m2 : X.mg "set" = none) (ha : GA X Bo W [e] fa)
    (he : starEach [e] X.env = (false, eval e X.env) :: starEach [] X.env := by rfl) (hpl : (backTo pos2 (starEach [] X.env)).any (·.1) = false := by rfl)
    (he2 : starEach [Expr.Call (.Name "set" p2) [e] [] pos2] X.env = (false, eval (Expr.Call (.Name "set" p2) [e] [] pos2) X.env) :: starEach [] X.env := by rfl) (hpl2 : (backTo pos (starEach [] X.env)).any (·.1) = false := by rfl) :
    GO X Bo W (.Call (.Name "sorted" p) [.Call (.Name "set" p2) [e] [] pos2] [] pos) (fAppO dSortSet fa) :=
  (pe_callB (cr_sortedN hc hu) g1 m1 (by rfl) (pa_cons (pe_callTy (cr_setN hc hu) g2 m2 (by rfl) ha (by decide) (by decide) he hpl) pa_nil he2) (by decide) (by decide) he2 hpl2).imp sortSet_data
end
end GS

/-! GLn: more of lists: list + list, sorted(list), sum(list) -/
namespace GL
open PySem PySem.Spec L2 GS PySem.W
open PyProof.Rows hiding St
section
variable {X : Cx} {Bo : Option Addr} {W : WX} {e e1 e2 e3 : Expr} {es : List Expr} {f f1 f2 f3 : PSt → Rs PyData} {fa : PSt → Rs (List PyData)} {pos p p2 : Pos}
/-! ### list + list -/
def rCatL (K : PySem.W.Frag) : R2 := fun x y H Q => ∃ a b xs ys, x = .ref a ∧ y = .ref b ∧ SqL K H a xs ∧ SqL K H b ys ∧ xs.length + ys.length ≤ sizeLine ∧ ∀ p, H p = none → Q (.ref p) (upd H p (.lst (xs ++ ys)))
theorem op_catL : OpR X (binaryOp .Add) (rCatL X.K) := by
  intro pins s σ H x y v u Q I rx ry h
  obtain ⟨a, b, xs, ys, rfl, rfl, ha, hb, hz, q⟩ := h
  cases rx
  cases ry
  obtain ⟨its, r1, p1, _⟩ := I.list ha
  obtain ⟨its2, r2, p2, _⟩ := I.list hb
  obtain ⟨⟨c1, d1, da1, s1⟩, n1, o1, e1, _, f1⟩ := id p1
  obtain ⟨⟨c2, d2, da2, s2⟩, n2, o2, e2, _, f2⟩ := id p2
  simp only at e1 f1 e2 f2
  subst e1 f1 e2 f2
  have z : its.length + its2.length ≤ sizeLine := by rw [← r1.length, ← r2.length]; exact hz
  refine concat_meets ⟨_, o1, rfl⟩ ⟨_, o2, rfl⟩ noFill_list_add seq_list_add PySem.F.slot_list_add PySem.F.entry_list_add (PySem.F.args_list_add_2 _ _) (list_addW a b its.toArray its2.toArray n1 n2 d1 d2 s1 s2 (by simpa using z)) ⟨o1, o2, ?_⟩
  rw [show its.toArray ++ its2.toArray = (its ++ its2).toArray by simp]
  exact ⟨.ref _, _, I.lnew (t' := s.toks) (r1.append r2) (by rw [List.length_append]; exact hz), rfl, q _ I.fresh⟩
/-- an operator that makes a new list, by data -/
def OpO (K : PySem.W.Frag) (r : R2) (D : PyData → PyData → Option (List PyData)) : Prop := ∀ F H x y a b d Q, Same F H → Dp K F x a → Dp K F y b → D a b = some d → (∀ p us, H p = none → DpAll K F us d → Q (.ref p) (upd H p (.lst us))) → r x y H Q
def fBinO (D : PyData → PyData → Option (List PyData)) (f1 f2 : PSt → Rs PyData) : PSt → Rs PV := fun ps => (f1 ps).bind fun a ps1 => (f2 ps1).bind fun b ps2 => match D a b with
  | some d => .ok (.own (.list d)) ps2
  | none => .bad
theorem go_bin {op : Operator} {r : R2} {D : PyData → PyData → Option (List PyData)} (ho : OpR X (binaryOp op) r) (hr : OpO X.K r D) (h1 : GV X Bo W e1 f1) (h2 : GV X Bo W e2 f2) : GO X Bo W (.BinOp e1 op e2 pos) (fBinO D f1 f2) :=
  (pe_op ho h1 h2).imp fun σ H Q q => by
    refine tR_bind RO.rb q fun v a F F1 H1 ps ps1 sr st hv q => ?_
    refine go_bind RO.rb sr q fun u b F2 H2 ps2 sr2 st2 hu q => ?_
    split at q
    · rename_i d ed
      refine hr F2 H2 v u a b d Q sr2.le (hv.mono st2.grow) hu ed fun p us hp h => ?_
      obtain ⟨g, s2, ro⟩ := new_own sr2 hp h
      exact q (.ref p) _ _ (.of_gr g) s2 ro
    · exact q.elim
def dCatL : PyData → PyData → Option (List PyData)
  | .list xs, .list ys => if xs.length + ys.length ≤ sizeLine then some (xs ++ ys) else none
  | _, _ => none
theorem catL_ok {K : PySem.W.Frag} : OpO K (rCatL K) dCatL := fun F H x y a b d Q hs hx hy e k => by
  unfold dCatL at e
  split at e
  · split at e
    · rename_i hl
      cases e
      cases hx with
      | lst s1 d1 =>
        cases hy with
        | lst s2 d2 =>
          exact ⟨_, _, _, _, rfl, rfl, hs.seq s1, hs.seq s2, by rw [d1.length, d2.length]; exact hl, fun p hp => k p _ hp (d1.append d2)⟩
    · cases e
  · cases e
theorem go_catL (h1 : GV X Bo W e1 f1) (h2 : GV X Bo W e2 f2) : GO X Bo W (.BinOp e1 .Add e2 pos) (fBinO dCatL f1 f2) := go_bin op_catL catL_ok h1 h2
/-! ### sum of whole numbers -/
def intsOf : List PyData → Option (List Int)
  | [] => some []
  | .int i :: ds => (intsOf ds).map (i :: ·)
  | _ :: _ => none
theorem intsOf_map : ∀ {ds : List PyData} {ns : List Int}, intsOf ds = some ns → ds = ns.map .int
  | [], _, h => by cases h; rfl
  | .int i :: ds, ns, h => by
    unfold intsOf at h
    cases q : intsOf ds with
    | none => rw [q] at h; cases h
    | some ms => rw [q] at h; cases h; rw [intsOf_map q]; rfl
  | .none :: _, _, h => by cases h
  | .bool _ :: _, _, h => by cases h
  | .str _ :: _, _, h => by cases h
  | .list _ :: _, _, h => by cases h
  | .tuple _ :: _, _, h => by cases h
  | .dict _ :: _, _, h => by cases h
theorem dp_ints {K : PySem.W.Frag} {F : Hp} : ∀ {xs : List V} {ns : List Int}, DpAll K F xs (ns.map .int) → xs = ns.map V.int
  | _, [], h => by cases h; rfl
  | _, n :: ns, h => by
    cases h with
    | cons h1 h2 => cases h1; rw [dp_ints h2]; rfl
def dSum : List PyData → Option PyData
  | [.list ds] => (intsOf ds).map fun ns => .int ns.sum
  | _ => none
theorem sum_ok {K : PySem.W.Frag} : CallD K (rSum K) dSum := fun F H xs ds d Q hs hx e k => by
  unfold dSum at e
  split at e
  · rename_i es
    obtain ⟨v, rfl, h⟩ := dpall1 hx
    cases q : intsOf es with
    | none => rw [q] at e; cases e
    | some ns =>
      rw [q] at e; cases e
      rw [intsOf_map q] at h
      cases h with
      | lst s1 d1 => exact ⟨_, ns, rfl, by rw [← dp_ints d1]; exact hs.seq s1, k _ F H (.refl hs) (.int _)⟩
  · cases e
/-! ### sorted(list) -/
def okSort (ds : List PyData) : Bool := ds.all okKey && decide (ds.length ≤ 100000) && ds.all fun a => ds.all fun b => alike a b
def dSorted : List PyData → Option (List PyData)
  | [.list ds] => if okSort ds = true then some (ds.mergeSort (dataLe false id)) else none
  | _ => none
end
/-! ### a statement, an expression that is never come to -/
section
variable {X : Cx} {Bo : Option Addr} {W : WX}
theorem gs_bad {st : Stmt} : GS X Bo W st (fun _ => .bad) := ⟨fun pins s σ H D I h => by
  obtain ⟨F, ps, sr, h⟩ := h
  exact h.elim⟩
theorem gv_bad {e : Expr} : GV X Bo W e (fun _ => .bad) := ⟨fun pins s σ H Q I h => by
  obtain ⟨F, ps, sr, h⟩ := h
  exact h.elim⟩
end
end GL

/-! GLo: sorted(list); list(range(..)) -/
namespace GL
open PySem PySem.Spec L2 GS PySem.W
open PyProof.Rows hiding St
theorem each_out {K : PySem.W.Frag} {F : Hp} : ∀ {us : List Value} {ds : List PyData}, EachIs (fun v d => ∃ x : V, RelV x v ∧ Dp K F x d) us ds → ∃ xs, Vals xs us ∧ DpAll K F xs ds
  | _, _, .nil => ⟨[], .nil, .nil⟩
  | _, _, .cons ⟨x, r, h⟩ t => by
    obtain ⟨xs, h1, h2⟩ := each_out t
    exact ⟨x :: xs, .cons r h1, .cons h h2⟩
theorem each_in {K : PySem.W.Frag} {F : Hp} {R : Value → PyData → Prop} (h : ∀ x v d, RelV x v → Dp K F x d → R v d) : ∀ {xs : List V} {us : List Value} {ds : List PyData}, Vals xs us → DpAll K F xs ds → EachIs R us ds
  | _, _, _, .nil, .nil => .nil
  | _, _, _, .cons r t, .cons d e => .cons (h _ _ _ r d) (each_in h t e)
theorem okSort_all {ds : List PyData} (h : okSort ds = true) : (∀ d ∈ ds, okKey d = true) ∧ ds.length ≤ 100000 ∧ AllAlike ds := by
  unfold okSort at h
  rw [Bool.and_eq_true, Bool.and_eq_true, List.all_eq_true, List.all_eq_true, decide_eq_true_eq] at h
  exact ⟨h.1.1, h.1.2, fun d hd d' hd' => List.all_eq_true.mp (h.2 d hd) d' hd'⟩
def rSortL (K : PySem.W.Frag) : List V → Hp → VK → Prop := fun xs H Q => ∃ F l vs ds, xs = [V.ref l] ∧ Same F H ∧ SqL K H l vs ∧ DpAll K F vs ds ∧ okSort ds = true ∧ ∀ p us, H p = none → DpAll K F us (ds.mergeSort (dataLe false id)) → Q (.ref p) (upd H p (.lst us))
theorem cr_sortL {X : Cx} (hc : X.calm = true) (hu : X.A.units + 64 < cLine) : CallR X (.builtin "sorted") (rSortL X.K) := by
  intro pins s σ H xs us Q I r h
  obtain ⟨F, l, vs, ds, rfl, hs, hl, hd, ok, q⟩ := h
  obtain ⟨o1, o2, o3⟩ := okSort_all ok
  rw [Vals.ref1 r]
  obtain ⟨its, rv, pl, hz⟩ := I.list hl
  have il : its.length = ds.length := by rw [← rv.length, hd.length]
  have er : EachIs (fun v d => ∃ as, Reads s.heap v d as) its ds := each_in (fun x v d hr hdd => Dp.reads I d x v (hdd.mono hs) hr) rv hd
  have er' : EachIs (fun v d => ∃ as, Reads (sortingHeap (copyHeap s.heap its) (s.heap.objs.size + 1) its) v d as) its ds := er.mono fun _ _ ⟨as, r⟩ => ⟨as, PyProof.Rows.Reads.keeps (fun _ _ => sorting_copy_old) r⟩
  have ev : EachIs (fun v d => ∃ x : V, RelV x v ∧ Dp X.K F x d) its ds := each_in (fun x v d hr hdd => ⟨x, hr, hdd⟩) rv hd
  refine sorted_vals (κ := dataKind (sortingHeap (copyHeap s.heap its) (s.heap.objs.size + 1) its) ds) pl.isList (sorts (s := { s with heap := sortingHeap (copyHeap s.heap its) (s.heap.objs.size + 1) its }) er' o3 (.inr fun d hd' => (okKey_ni (o1 d hd')).2.2) fun d hd' => ?_) (by rw [il, sizeLine_eq]; omega) ?_
  · have := (okKey_ni (o1 d hd')).2.1
    show X.A.in1.in1.units + _ < _
    simp
    omega
  · have out := sortVals_data (h' := sortingHeap (copyHeap s.heap its) (s.heap.objs.size + 1) its) (enc := id) false ev (by simpa using er') (by simpa using o3)
    rw [List.map_id] at out
    have ol := sortVals_length (κ := dataKind (sortingHeap (copyHeap s.heap its) (s.heap.objs.size + 1) its) ds) false (rfl : its.length = its.length)
    generalize sortVals (dataKind (sortingHeap (copyHeap s.heap its) (s.heap.objs.size + 1) its) ds) false its its = ov at out ol ⊢
    obtain ⟨ys, h1, h2⟩ := each_out out
    obtain ⟨e, he⟩ := sortedAll_at s.heap its ov.toArray
    have hn : H (s.heap.objs.size + 1) = none := I.hok.fresh (Nat.le_succ _)
    refine ⟨.ref (s.heap.objs.size + 1), _, I.laid (t' := s.toks) (a := s.heap.objs.size + 1) (o := .lst ys) (fun b u eb => sortedAll_old eb) (Nat.le_succ _) ⟨?_, ov, e, h1, he⟩, rfl, q _ ys hn h2⟩
    rw [h1.length, ol, il, sizeLine_eq]; omega
theorem sortL_ok {K : PySem.W.Frag} : CallO K (rSortL K) dSorted := fun F H xs ds d Q hs hx e k => by
  unfold dSorted at e
  split at e
  · split at e
    · rename_i ok
      cases e
      obtain ⟨v, rfl, h⟩ := dpall1 hx
      cases h with
      | lst s1 d1 => exact ⟨F, _, _, _, rfl, hs, hs.seq s1, d1, ok, k⟩
    · cases e
  · cases e
end GL

/-! GSi: set(a tuple of tuples) -/
namespace GS
open PySem PySem.Spec PyProof.Rows L2
theorem sub_tup_set : isSubtype (.type "tuple") (.type "set") = pure false := by rw [isSubtype_type]; kernel_rfl
theorem sub_tup_frz : isSubtype (.type "tuple") (.type "frozenset") = pure false := by rw [isSubtype_type]; kernel_rfl
section
variable {P : Program} {w : World} {K : Type} [DecidableEq K] {G : SK P w K}
variable {A : Around} {E : Value → Shared → Prop} {s : Shared}
set_option maxHeartbeats 3200000 in
/-- set(xs), xs a tuple of tuples -/
theorem call_setT {l : Addr} {vs : Array Value} (ks : List (Addr × K)) {Q : Value → Shared → Prop} (hh : A.handled = none) (hl : s.heap.IsTuple l vs) (hv : vs.toList = ks.map fun p => Value.ref p.1) (hk : ∀ p ∈ ks, G.kd.is s.heap p.2 p.1) (fw : ks.length < 64) (hu : A.units + 3 < cLine) (hr : G.kd.room A.in1.in1.in1)
    (h : ∀ (h' : Heap) (tk : Nat) (L : List (Addr × K)) es ep t, Tb G h' s.heap.objs.size L es ep t → Had ks ks.length L → (∀ b o, s.heap.get? b = some o → h'.get? b = some o) → Q (.ref s.heap.objs.size) { s with heap := h', toks := tk }) :
    wpAny (model P w) A (call (.type "set") [.ref l]) Q E s := by
  have vsz : vs.size = ks.length := by rw [← Array.length_toList, hv, List.length_map]
  obtain ⟨c, tl, hmro⟩ := F.called_set.mro
  have hmade := F.called_set.made
  have hsub := F.called_set.sub
  refine wpAny_call (codeAny_of_tree ?_)
  show wpAny _ _ (callAny (.type "set") _) _ _ _
  refine wpAny_pure ⟨Code.quiet_builtin _ (by decide +kernel), codeAny_builtin F.entry_type_call ?_⟩
  rw [Around.under_plain (weight_type_call_type "set" [.ref l] []) rfl]
  have h1 := F.called_set.notType
  have h2 := F.called_set.canCreate
  have hct := F.typeCall_set_1 (.ref l)
  repeat (any_goals (first | assumption | wp_step))
  refine codeAny_mono (code_set_led1 (.ref l) (E := E) (Q₁ := fun u z => u = .ref s.heap.objs.size ∧ z = { s with heap := s.heap.push (set0 w) }) ⟨rfl, rfl⟩) fun r s₁ hr₁ => ?_
  cases r with
  | error e => exact hr₁
  | ok fl =>
    cases fl with
    | ret u =>
      obtain ⟨rfl, rfl⟩ := hr₁
      have own : (s.heap.push (set0 w)).get? s.heap.objs.size = some (set0 w) := Heap.get?_push_size _ rfl
      have hT : Shared.TypeIs { s with heap := s.heap.push (set0 w) } (.ref s.heap.objs.size) "set" := ⟨_, own, rfl⟩
      have hli := F.called_set.init.lookup
      have hbi := F.called_set.init.bind (.ref s.heap.objs.size)
      repeat (any_goals (first | assumption | wp_step))
      refine codeAny_mono (codeAny_call_builtin (R := wants (fun r z => r = .none ∧ ∃ (h' : Heap) (tk : Nat) (L : List (Addr × K)) (es : Array (Int × Value)) (ep : Nat) (t : SetTable), z = { s with heap := h', toks := tk } ∧ Tb G h' s.heap.objs.size L es ep t ∧ Had ks ks.length L ∧
          ∀ b o, s.heap.get? b = some o → h'.get? b = some o) E) F.called_set.init.plain F.entry_set_init (check_set_init_1 hT ?_)) fun r₂ s₂ hr₂ => ?_
      · obtain ⟨⟨oc, od, oda, osl⟩, hol, hcl, nl, hdl⟩ := hl
        simp only at hcl hdl
        subst hcl; subst hdl
        have l1 : (s.heap.push (set0 w)).IsTuple l vs := ⟨_, Heap.get?_push_of_some _ hol, rfl, nl, rfl⟩
        have hol' := Heap.get?_push_of_some (set0 w) hol
        have hsls := sub_tup_set
        have hslf := sub_tup_frz
        have hne : (Value.type "tuple" == Value.type "dict") = false := by decide
        unfold Builtin.«set.__init__» noKeywords Builtin.Frozenset.updateFrom
        generalize hPI : pyIter = PI
        wp_walk
        subst hPI
        refine wpAny_pyIter_tuple l1 (wpAny_bind (wpAny_runValue ?_))
        have old : l < s.heap.objs.size := Heap.lt_size hol
        have sz : (s.heap.push (set0 w)).objs.size = s.heap.objs.size + 1 := Heap.size_push ..
        have ne : l ≠ (s.heap.push (set0 w)).objs.size := by rw [sz]; exact Nat.ne_of_lt (Nat.lt_succ_of_lt old)
        have h3 : A.in1.in1.in1.handled = none := by simp [hh]
        have bare : ∀ b, s.heap.objs.size ≤ b → s.heap.get? b = none := fun b hb => by
          cases q : s.heap.get? b with
          | none => rfl
          | some o => exact absurd (Heap.lt_size q) (Nat.not_lt.mpr hb)
        refine put_all (G := G) ((Walks.tuple h3 _ l ne vs).toS) s.heap.objs.size ?nf ks vsz fw ?val s.heap hk (bare _ (Nat.le_refl _)) ?wr hr (vs.size - 0) 0 _ (by omega) (Nat.zero_le _) ⟨⟨_, Heap.get?_push_size _ rfl, rfl, rfl⟩, l1.push _⟩ (fun b o e => Heap.get?_push_of_some _ (Heap.get?_push_of_some _ e)) ?em ?fin
        case nf =>
          rw [sz]; simp only [List.mem_cons, List.not_mem_nil, or_false, not_or]
          exact ⟨Nat.ne_of_lt (Nat.lt_succ_self _), Nat.ne_of_gt old⟩
        case val => 
          intro i v hi
          have q : vs.toList[i]? = some v := by rw [Array.getElem?_toList]; exact hi
          rw [hv, List.getElem?_map] at q
          cases z : ks[i]? with
          | none => rw [z] at q; cases q
          | some p => rw [z] at q; exact ⟨p, rfl, (Option.some.inj q).symm⟩
        case wr => intro b hb; rw [List.mem_singleton.mp hb, sz]; exact bare _ (Nat.le_succ _)
        case em => exact ⟨[], #[], 0, _, .empty (Heap.get?_push_of_some _ own), ⟨fun p hp => (by cases hp), fun p hp => (by simp at hp), Nat.le_refl _⟩⟩
        case fin =>
          intro s' L es ep t mv T g q
          obtain ⟨h', g2, d', tk', os'⟩ := s'
          obtain rfl : g2 = s.gens := mv.gens
          obtain rfl : d' = s.drawn := mv.drawn
          obtain rfl : os' = s.os := mv.os
          show wpAny _ _ _ _ _ _
          refine wpAny_pure ?_
          show wpAny _ _ (ret Value.none) _ _ _
          rw [vsz] at g
          exact wpAny_pure ⟨rfl, h', tk', L, es, ep, t, rfl, T, g, q⟩
      · cases r₂ with
        | error e => exact hr₂
        | ok fl₂ =>
          cases fl₂ with
          | ret r =>
            obtain ⟨rfl, h', tk, L, es, ep, t, rfl, T, g, q⟩ := hr₂
            repeat (any_goals (first | assumption | wp_step))
            exact h _ _ _ _ _ _ T g q
          | _ => exact hr₂.elim
    | _ => exact hr₁.elim
end
end GS

/-! GSj: sorted(set(e)), e a list or a tuple -/
namespace GS
open PySem PySem.Spec L2 GL PySem.W
open PyProof.Rows hiding St
def rSetT (K : PySem.W.Frag) (P : Program) (w : World) : List V → Hp → VK → Prop := fun xs H Q => ∃ F l vs ds, xs = [V.ref l] ∧ Same F H ∧ SqT K H l vs ∧ DpAll K F vs ds ∧ (∀ d ∈ ds, okKey d = true) ∧ ds.length < 64 ∧
  ∀ a L, H a = none → Its K F ds L → Q (.ref a) (upd H a (bO (numK P w) a L))
def rSetA (K : PySem.W.Frag) (P : Program) (w : World) : List V → Hp → VK → Prop := fun xs H Q => rSetN K P w xs H Q ∨ rSetT K P w xs H Q
theorem cr_setA {X : Cx} (hc : X.calm = true) (hu : X.A.units + 64 < cLine) : CallR X (.type "set") (rSetA X.K X.prog X.w) := by
  intro pins s σ H xs us Q I r h
  rcases h with h | h
  · exact cr_setN hc hu pins s σ H xs us Q I r h
  obtain ⟨F, l, vs, ds, rfl, hs, hl, hd, ok, fw, q⟩ := h
  rw [Vals.ref1 r]
  obtain ⟨its, rv, pl, hz⟩ := I.tuple hl
  have hn : H s.heap.objs.size = none := I.hok.fresh (Nat.le_refl _)
  obtain ⟨ks, e1, e2, h1, h2⟩ := keys_at I hs hd rv ok
  have kl : ks.length = ds.length := by have := congrArg List.length e2; simpa using this
  refine call_setT (G := numK X.prog X.w) ks (I.ok.hd hc) pl (by simpa using e1) h1 (by rw [kl]; exact fw) (by omega) (by show _ + 8 < _; simp; omega) fun h' tk L es ep t T g k => ?_
  refine ⟨.ref s.heap.objs.size, upd H s.heap.objs.size (bO (numK X.prog X.w) s.heap.objs.size L), I.laid (t' := tk) k (Nat.le_refl _) (bO_new T.bare), rfl, q _ L hn ⟨fun p hp => h2 p (List.mem_of_mem_take (g.of p hp)), fun d m => ?_, T.dis⟩⟩
  have : kof d ∈ ks.map (·.2) := by rw [e2]; exact List.mem_map_of_mem m
  obtain ⟨p, hp, e⟩ := List.mem_map.mp this
  rw [← e]
  exact g.al p (by rw [List.take_length]; exact hp)
def dSortSetA : List PyData → Option (List PyData)
  | [.list ds] => if okSet ds = true then some (sortK ds) else none
  | [.tuple ds] => if okSet ds = true then some (sortK ds) else none
  | _ => none
section
variable {X : Cx} {Bo : Option Addr} {W : WX} {e : Expr} {fa : PSt → Rs (List PyData)} {pos pos2 p p2 : Pos}
theorem sortSet_end {F1 H1 : Hp} {σ : St} {ps1 : PSt} {ds : List PyData} {a : Addr} {L : List (Addr × NestedKey)} {Q : V → Hp → Prop} (sr : SR X.K Bo F1 H1 σ ps1) (ok : okSet ds = true) (ha : H1 a = none) (its : Its X.K F1 ds L)
    (q : ∀ v F' H', Step F1 H1 σ ps1 F' H' σ ps1 → SR X.K Bo F' H' σ ps1 → RO X.K σ F1 H1 ps1 F' H' ps1 v (.own (.list (sortK ds))) → Q v H') : rSortedN X.K X.prog X.w [V.ref a] (upd H1 a (bO (numK X.prog X.w) a L)) Q := by
  obtain ⟨o1, o2, o3⟩ := okSet_all ok
  have g := junk (o := bO (numK X.prog X.w) a L) sr.le ha
  have sr2 := sr.gr g
  refine ⟨F1, a, L, ds, rfl, sr2.le, upd_same, its, o1, o3, fun p M hp mp => ?_⟩
  have es := sorted_is its ok mp
  have hd : DpAll X.K F1 ((M.mergeSort (dataLe false fun q => q.2.data)).map fun q => V.ref q.1) (sortK ds) := by
    unfold sortK
    rw [← es, List.map_map]
    have key : ∀ N : List (Addr × NestedKey), (∀ q ∈ N, ∃ d ∈ ds, q.2 = kof d ∧ Dp X.K F1 (.ref q.1) d) → DpAll X.K F1 (N.map fun q => V.ref q.1) (N.map (NestedKey.data ∘ fun q => q.2)) := by
      intro N
      induction N with
      | nil => intro _; exact .nil
      | cons n N ih =>
        intro h
        obtain ⟨d, m, e, hd⟩ := h n List.mem_cons_self
        refine .cons ?_ (ih fun q hq => h q (List.mem_cons_of_mem _ hq))
        show Dp X.K F1 (.ref n.1) (NestedKey.data n.2)
        rw [e, (data_kof d (okKey_ni (o1 d m)).1).1]
        exact hd
    exact key _ fun n hn => its.dat n (mp.mem_iff.mp ((List.mergeSort_perm _ _).mem_iff.mp hn))
  obtain ⟨g2, s2, ro⟩ := new_own sr2 hp hd
  exact q (.ref p) _ _ ((Step.of_gr g).trans (.of_gr g2)) s2 (RO.rb _ _ _ _ _ _ _ _ _ _ _ _ (Step.of_gr g) ro)
theorem sortSetA_data : ∀ σ H Q, tR X.K X.mg Bo W (RO X.K) (fAppO dSortSetA fa) σ H Q → tCB (rSortedN X.K X.prog X.w) (tCons (tCB (rSetA X.K X.prog X.w) (tR X.K X.mg Bo W (RA X.K) fa)) tNil) σ H Q := fun σ H Q q => by
  refine tR_bind RO.rb q fun vs ds F F1 H1 ps ps1 sr st hv q => ?_
  split at q
  · rename_i es ee
    unfold dSortSetA at ee
    split at ee
    · split at ee
      · rename_i ok
        cases ee
        obtain ⟨v, rfl, hd⟩ := dpall1 hv
        cases hd with
        | lst s1 d1 => exact .inl ⟨F1, _, _, _, rfl, sr.le, sr.le.seq s1, d1, (okSet_all ok).1, (okSet_all ok).2.1, fun a L ha its => sortSet_end sr ok ha its q⟩
      · cases ee
    · split at ee
      · rename_i ok
        cases ee
        obtain ⟨v, rfl, hd⟩ := dpall1 hv
        cases hd with
        | tup s1 d1 => exact .inr ⟨F1, _, _, _, rfl, sr.le, same_sqt sr.le s1, d1, (okSet_all ok).1, (okSet_all ok).2.1, fun a L ha its => sortSet_end sr ok ha its q⟩
      · cases ee
    · cases ee
  · exact q.elim
/-- sorted(set(e)) -/
theorem go_sortSetA (hc : X.calm = true) (hu : X.A.units + 64 < cLine) (g1 : Gl X "sorted") (m1 : X.mg "sorted" = none) (g2 : Gl X "set") (m2 : X.mg "set" = none) (ha : GA X Bo W [e] fa)
    (he : starEach [e] X.env = (false, eval e X.env) :: starEach [] X.env := by rfl) (hpl : (backTo pos2 (starEach [] X.env)).any (·.1) = false := by rfl)
    (he2 : starEach [Expr.Call (.Name "set" p2) [e] [] pos2] X.env = (false, eval (Expr.Call (.Name "set" p2) [e] [] pos2) X.env) :: starEach [] X.env := by rfl) (hpl2 : (backTo pos (starEach [] X.env)).any (·.1) = false := by rfl) :
    GO X Bo W (.Call (.Name "sorted" p) [.Call (.Name "set" p2) [e] [] pos2] [] pos) (fAppO dSortSetA fa) :=
  (pe_callB (cr_sortedN hc hu) g1 m1 (by rfl) (pa_cons (pe_callTy (cr_setA hc hu) g2 m2 (by rfl) ha (by decide) (by decide) he hpl) pa_nil he2) (by decide) (by decide) he2 hpl2).imp sortSetA_data
end
end GS

/-! GLp: x.pop(), x.pop(k) of a slot's own list -/
namespace GL
open PySem PySem.Spec L2
open PyProof.Rows hiding St
section
variable {X : Cx} {Bo : Option Addr} {W : WX} {e : Expr} {fa : PSt → Rs (List PyData)} {x : Str}
def fMethV (i : Nat) (D : List PyData → List PyData → Option (PyData × List PyData)) (fa : PSt → Rs (List PyData)) : PSt → Rs PyData := fun ps => match slotL i ps with
  | none => .bad
  | some _ => (fa ps).bind fun as ps1 => match slotL i ps1 with
    | none => .bad
    | some ds => match D ds as with
      | some (y, ds') => .ok y (ps1.set i (some (.own (.list ds'))))
      | none => .bad
def MethV (K : PySem.W.Frag) (r : V → List V → Hp → VK → Prop) (D : List PyData → List PyData → Option (PyData × List PyData)) : Prop := ∀ F H a xs ds vs as y ds' Q, Same F H → F a = none → H a = some (.lst xs) → DpAll K F xs ds → DpAll K F vs as → D ds as = some (y, ds') →
  (∀ v xs', Dp K F v y → DpAll K F xs' ds' → Q v (upd H a (.lst xs'))) → r (.ref a) vs H Q
theorem methV_data {r : V → List V → Hp → VK → Prop} {D : List PyData → List PyData → Option (PyData × List PyData)} {i : Nat} (hr : MethV X.K r D) : ∀ σ H Q, tR X.K X.mg Bo W (RV X.K) (fMethV i D fa) σ H Q → tBM X.K "list" r (tVar i) (tR X.K X.mg Bo W (RA X.K) fa) σ H Q := fun σ H Q ⟨F, ps, sr, q⟩ => by
  unfold fMethV at q
  cases e0 : slotL i ps with
  | none => rw [e0] at q; exact q.elim
  | some d0 =>
    rw [e0] at q
    obtain ⟨a, ha, _, xs0, _, _, hH0, _⟩ := sr.own (slotL_at e0)
    refine ⟨.ref a, ha, tyV_list hH0, ?_⟩
    refine go_bind RV.rb sr q fun vs as F2 H2 ps1 s1 st hvs q => ?_
    cases e1 : slotL i ps1 with
    | none => rw [e1] at q; exact q.elim
    | some ds =>
      rw [e1] at q
      have e1 := slotL_at e1
      obtain ⟨a', ha', hn, xs, ds2, ed, hH, hd⟩ := s1.own e1
      cases ed
      rw [ha] at ha'; cases ha'
      dsimp only at q
      cases e2 : D ds as with
      | none => rw [e2] at q; exact q.elim
      | some z =>
        obtain ⟨y, ds'⟩ := z
        rw [e2] at q
        refine hr F2 H2 a xs ds vs as y ds' Q s1.le hn hH hd hvs e2 fun v xs' hv hx' => ?_
        obtain ⟨s2, st2⟩ := s1.mut e1 ha hn (d' := .list ds') rfl hx'
        exact q v F2 _ st2 s2 hv
/-- x.pop(k) -/
def dPopAt : List PyData → List PyData → Option (PyData × List PyData)
  | ds, [.int (.ofNat k)] => (ds[k]?).bind fun y => if ds.length ≤ sizeLine then some (y, ds.eraseIdx k) else none
  | _, _ => none
theorem dpall_get {K : PySem.W.Frag} {F : Hp} : ∀ {xs : List V} {ds : List PyData} {k : Nat} {d : PyData}, DpAll K F xs ds → ds[k]? = some d → ∃ v, xs[k]? = some v ∧ Dp K F v d
  | _, _, _, _, .nil, h => by simp at h
  | _, _, 0, _, .cons h _, e => by simp at e; subst e; exact ⟨_, rfl, h⟩
  | _, _, k + 1, _, .cons _ t, e => by simpa using dpall_get t (by simpa using e)
theorem dpall_erase {K : PySem.W.Frag} {F : Hp} : ∀ {xs : List V} {ds : List PyData} (k : Nat), DpAll K F xs ds → DpAll K F (xs.eraseIdx k) (ds.eraseIdx k)
  | _, _, _, .nil => .nil
  | _, _, 0, .cons _ t => t
  | _, _, k + 1, .cons h t => .cons h (dpall_erase k t)
theorem popAt_ok {K : PySem.W.Frag} : MethV K rPopAt dPopAt := fun F H a xs ds vs as y ds' Q hs hn hH hd hv e k => by
  unfold dPopAt at e
  split at e
  · rename_i j
    cases q : ds[j]? with
    | none => rw [q] at e; cases e
    | some d =>
      rw [q] at e
      dsimp only [Option.bind] at e
      split at e
      · rename_i hz
        cases e
        obtain ⟨v, rfl, h⟩ := dpall1 hv
        cases h
        obtain ⟨u, h1, h2⟩ := dpall_get hd q
        have lt : j < xs.length := (List.getElem?_eq_some_iff.mp h1).1
        have hl : xs.length ≤ sizeLine := by rw [hd.length]; exact hz
        rw [sizeLine_eq] at hl
        refine ⟨a, xs, Int.ofNat j, j, u, rfl, rfl, hH, by first | (simp; done) | (simp; omega), by first | (simp; done) | (simp; omega), ?_, h1, k _ _ h2 (dpall_erase j hd)⟩
        unfold seqIndex?
        simp
        omega
      · cases e
  · cases e
theorem gv_popAt (i : Nat) {px apos cpos : Pos} (h : GA X Bo W [e] fa) (hN : X.N[i]? = some x := by rfl) (hv : Vis X.env.scope x := by first | exact Or.inl rfl | exact Or.inr (Or.inl rfl) | exact Or.inr (Or.inr rfl)) (hd : (x == ("__debug__" : Str)) = false := by decide) (hcd : (x == ("__classdict__" : Str)) = false := by decide)
    (hbase : attributeBase (.Name x px) "pop" X.env (eval (.Name x px) X.env) = eval (.Name x px) X.env := by rfl)
    (hfew : ((backTo cpos (starEach (e :: []) X.env)).all (fun x => !x.1) && (backToKw cpos (keywordEach [] X.env)).all (fun x => x.1.isSome)
      && decide ((e :: []).length + ([] : List Keyword).length + (if ([] : List Keyword).isEmpty then 0 else 1) < 30)) = true := by rfl)
    (hline : (apos.endLine == cpos.line) = true := by rfl) (hs : starEach (e :: []) X.env = (false, eval e X.env) :: starEach [] X.env := by rfl) (hplain : (backTo cpos (starEach [] X.env)).any (·.1) = false := by rfl) :
    GV X Bo W (.Call (.Attribute (.Name x px) "pop" apos) [e] [] cpos) (fMethV i dPopAt fa) :=
  (pe_bm PySem.F.plainAttrs_list PySem.F.slot_list_pop PySem.F.type_list_pop mt_popAt (pe_var hN hv hd hcd) h hbase hfew hline hs hplain).imp (methV_data popAt_ok)
/-- x.pop() -/
def dPop : List PyData → Option (PyData × List PyData) := fun ds => (ds[ds.length - 1]?).map fun y => (y, ds.dropLast)
def fPop (i : Nat) : PSt → Rs PyData := fun ps => match slotL i ps with
  | none => .bad
  | some ds => match dPop ds with
    | some (y, ds') => .ok y (ps.set i (some (.own (.list ds'))))
    | none => .bad
theorem dpall_last {K : PySem.W.Frag} {F : Hp} : ∀ {xs : List V} {ds : List PyData}, DpAll K F xs ds → DpAll K F xs.dropLast ds.dropLast
  | _, _, .nil => .nil
  | _, _, .cons _ .nil => .nil
  | _, _, .cons h (.cons h2 t) => by
    simp only [List.dropLast_cons_cons]
    exact .cons h (dpall_last (.cons h2 t))
theorem pop_data {i : Nat} : ∀ σ H Q, tR X.K X.mg Bo W (RV X.K) (fPop i) σ H Q → tBM0 X.K "list" rPop (tVar i) σ H Q := fun σ H Q ⟨F, ps, sr, q⟩ => by
  unfold fPop at q
  cases e0 : slotL i ps with
  | none => rw [e0] at q; exact q.elim
  | some ds =>
    rw [e0] at q
    have e1 := slotL_at e0
    obtain ⟨a, ha, hn, xs, ds2, ed, hH, hd⟩ := sr.own e1
    cases ed
    refine ⟨.ref a, ha, tyV_list hH, ?_⟩
    dsimp only at q
    cases e2 : dPop ds with
    | none => rw [e2] at q; exact q.elim
    | some z =>
      obtain ⟨y, ds'⟩ := z
      rw [e2] at q
      unfold dPop at e2
      cases e3 : ds[ds.length - 1]? with
      | none => rw [e3] at e2; cases e2
      | some y2 =>
        rw [e3] at e2
        cases e2
        obtain ⟨u, h1, h2⟩ := dpall_get hd e3
        rw [← hd.length] at h1
        obtain ⟨s2, st2⟩ := sr.mut e1 ha hn (d' := .list ds.dropLast) rfl (dpall_last hd)
        exact ⟨a, xs, u, rfl, rfl, hH, h1, q u F _ st2 s2 h2⟩
theorem gv_pop (i : Nat) {px apos cpos : Pos} (hN : X.N[i]? = some x := by rfl) (hv : Vis X.env.scope x := by first | exact Or.inl rfl | exact Or.inr (Or.inl rfl) | exact Or.inr (Or.inr rfl)) (hd : (x == ("__debug__" : Str)) = false := by decide) (hcd : (x == ("__classdict__" : Str)) = false := by decide)
    (hbase : attributeBase (.Name x px) "pop" X.env (eval (.Name x px) X.env) = eval (.Name x px) X.env := by rfl) (hline : (apos.endLine == cpos.line) = true := by rfl) :
    GV X Bo W (.Call (.Attribute (.Name x px) "pop" apos) [] [] cpos) (fPop i) :=
  (pe_bm0 PySem.F.plainAttrs_list PySem.F.slot_list_pop PySem.F.type_list_pop mt_pop (pe_var hN hv hd hcd) hbase hline).imp pop_data
end
end GL

/-! GLq: x.extend(e), e a list of its own -/
namespace GL
open PySem PySem.Spec L2
open PyProof.Rows hiding St
section
variable {X : Cx} {Bo : Option Addr} {W : WX} {e : Expr} {fo : PSt → Rs PV} {x : Str}
def fExt (i : Nat) (fo : PSt → Rs PV) : PSt → Rs PyData := fun ps => match slotL i ps with
  | none => .bad
  | some _ => (fo ps).bind fun p ps1 => match slotL i ps1 with
    | none => .bad
    | some ds => match p with
      | .own (.list es) => if ds.length + es.length ≤ sizeLine then .ok .none (ps1.set i (some (.own (.list (ds ++ es))))) else .bad
      | _ => .bad
theorem ext_data {i : Nat} : ∀ σ H Q, tR X.K X.mg Bo W (RV X.K) (fExt i fo) σ H Q → tBM X.K "list" rExtend (tVar i) (tCons (tR X.K X.mg Bo W (RO X.K) fo) tNil) σ H Q := fun σ H Q ⟨F, ps, sr, q⟩ => by
  unfold fExt at q
  cases e0 : slotL i ps with
  | none => rw [e0] at q; exact q.elim
  | some d0 =>
    rw [e0] at q
    obtain ⟨a, ha, _, xs0, _, _, hH0, _⟩ := sr.own (slotL_at e0)
    refine ⟨.ref a, ha, tyV_list hH0, ?_⟩
    refine go_bind RV.rb sr q fun v p F2 H2 ps1 s1 st hv q => ?_
    cases e1 : slotL i ps1 with
    | none => rw [e1] at q; exact q.elim
    | some ds =>
      rw [e1] at q
      have e1 := slotL_at e1
      obtain ⟨a', ha', hn, xs, ds2, ed, hH, hd⟩ := s1.own e1
      cases ed
      rw [ha] at ha'; cases ha'
      dsimp only at q
      split at q
      · rename_i es
        split at q
        · rename_i hz
          obtain ⟨b, rfl, ⟨hb, zs, es2, ed2, hB, hd2⟩, _⟩ := hv
          cases ed2
          obtain ⟨s2, st2⟩ := s1.mut e1 ha hn (d' := .list (ds ++ es)) rfl (hd.append hd2)
          exact ⟨a, b, xs, zs, rfl, rfl, hH, hB, by rw [hd.length, hd2.length]; exact hz, q .non F2 _ st2 s2 .non⟩
        · exact q.elim
      · exact q.elim
theorem gv_extend (i : Nat) {px apos cpos : Pos} (h : GO X Bo W e fo) (hN : X.N[i]? = some x := by rfl) (hv : Vis X.env.scope x := by first | exact Or.inl rfl | exact Or.inr (Or.inl rfl) | exact Or.inr (Or.inr rfl)) (hd : (x == ("__debug__" : Str)) = false := by decide) (hcd : (x == ("__classdict__" : Str)) = false := by decide)
    (hbase : attributeBase (.Name x px) "extend" X.env (eval (.Name x px) X.env) = eval (.Name x px) X.env := by rfl)
    (hfew : ((backTo cpos (starEach (e :: []) X.env)).all (fun x => !x.1) && (backToKw cpos (keywordEach [] X.env)).all (fun x => x.1.isSome)
      && decide ((e :: []).length + ([] : List Keyword).length + (if ([] : List Keyword).isEmpty then 0 else 1) < 30)) = true := by rfl)
    (hline : (apos.endLine == cpos.line) = true := by rfl) (hs : starEach (e :: []) X.env = (false, eval e X.env) :: starEach [] X.env := by rfl) (hplain : (backTo cpos (starEach [] X.env)).any (·.1) = false := by rfl) :
    GV X Bo W (.Call (.Attribute (.Name x px) "extend" apos) [e] [] cpos) (fExt i fo) :=
  (pe_bm PySem.F.plainAttrs_list PySem.F.slot_list_extend PySem.F.type_list_extend mt_extend (pe_var hN hv hd hcd) (pa_cons h pa_nil hs) hbase hfew hline hs hplain).imp ext_data
end
end GL

/-! GLr: x[::-1] of a list -/
namespace GL
open PySem PySem.Spec L2
open PyProof.Rows hiding St
section
variable {X : Cx} {Bo : Option Addr} {W : WX} {e : Expr} {f : PSt → Rs PyData}
def fRev (f : PSt → Rs PyData) : PSt → Rs PV := fun ps => (f ps).bind fun d ps1 => match d with
  | .list ds => .ok (.own (.list ds.reverse)) ps1
  | _ => .bad
theorem dpall_rev {K : PySem.W.Frag} {F : Hp} : ∀ {xs : List V} {ds : List PyData}, DpAll K F xs ds → DpAll K F xs.reverse ds.reverse
  | _, _, .nil => .nil
  | _, _, .cons h t => by
    rw [List.reverse_cons, List.reverse_cons]
    exact (dpall_rev t).append (.cons h .nil)
theorem go_rev {k : Nat} {p1 p2 p3 pos : Pos} (h : GV X Bo W e f) : GO X Bo W (.Subscript e (.Slice none none (some (.UnaryOp .USub (.Constant (.int 1) k p1) p2)) p3) pos) (fRev f) :=
  (pe_revL h).imp fun σ H Q q => by
    refine tR_bind RO.rb q fun v d F F1 H1 ps ps1 sr st hv q => ?_
    split at q
    · rename_i ds
      cases hv with
      | lst s1 d1 =>
        refine ⟨_, _, rfl, sr.le.seq s1, fun p hp => ?_⟩
        obtain ⟨g, s2, ro⟩ := new_own sr hp (dpall_rev d1)
        exact q (.ref p) _ _ (.of_gr g) s2 ro
    · exact q.elim
end
end GL

/-! GLs: len(set(e)), [..] * n, max(list), min(list) -/
namespace GL
open PySem PySem.Spec L2 GS PySem.W
open PyProof.Rows hiding St
/-! ### len(set(e)) -/
def rLenN (K : PySem.W.Frag) (P : Program) (w : World) : List V → Hp → VK → Prop := fun xs H Q => ∃ F a L ds, xs = [V.ref a] ∧ Same F H ∧ H a = some (bO (numK P w) a L) ∧ Its K F ds L ∧ (∀ d ∈ ds, okKey d = true) ∧ Q (.int L.length) H
theorem cr_lenN {X : Cx} : CallR X (.builtin "len") (rLenN X.K X.prog X.w) := by
  intro pins s σ H xs us Q I r h
  obtain ⟨F, a, L, ds, rfl, hs, ha, its, ok, q⟩ := h
  rw [Vals.ref1 r]
  have R : Bare (numK X.prog X.w) s.heap a L := (I.hok a _ ha).1
  have isk : ∀ p ∈ L, (numK X.prog X.w).kd.is s.heap p.2 p.1 := fun p hp => by
    obtain ⟨d, m, e, hd⟩ := its.dat p hp
    obtain ⟨b, e1, _, h3⟩ := key_at I hs hd rfl (ok d m)
    rw [e]
    cases e1
    exact h3
  obtain ⟨es, ep, t, T⟩ := R.full isk
  obtain ⟨o, ho, hex, hd⟩ := T.obj
  have ez := T.size
  have fw := T.fw
  exact call_len_set ho hex hd T.fit (by omega) ⟨.int L.length, H, I.tok _, ⟨_, by rw [ez]⟩, q⟩
def dLenSet : List PyData → Option PyData
  | [.list ds] => if okSet ds = true then some (.int (sortK ds).length) else none
  | [.tuple ds] => if okSet ds = true then some (.int (sortK ds).length) else none
  | _ => none
section
variable {X : Cx} {Bo : Option Addr} {W : WX} {e e1 e2 : Expr} {f f2 : PSt → Rs PyData} {fo : PSt → Rs PV} {fa : PSt → Rs (List PyData)} {pos pos2 p p2 : Pos}
theorem lenSet_end {F1 H1 : Hp} {σ : St} {ps1 : PSt} {ds : List PyData} {a : Addr} {L : List (Addr × NestedKey)} {Q : V → Hp → Prop} (sr : SR X.K Bo F1 H1 σ ps1) (ok : okSet ds = true) (ha : H1 a = none) (its : Its X.K F1 ds L)
    (q : ∀ v F' H', Step F1 H1 σ ps1 F' H' σ ps1 → SR X.K Bo F' H' σ ps1 → RV X.K σ F1 H1 ps1 F' H' ps1 v (.int (sortK ds).length) → Q v H') : rLenN X.K X.prog X.w [V.ref a] (upd H1 a (bO (numK X.prog X.w) a L)) Q := by
  obtain ⟨o1, o2, o3⟩ := okSet_all ok
  have g := junk (o := bO (numK X.prog X.w) a L) sr.le ha
  have sr2 := sr.gr g
  have es := congrArg List.length (sorted_is its ok (List.Perm.refl L))
  have el : L.length = (sortK ds).length := by
    unfold sortK
    rw [List.length_map, (List.mergeSort_perm _ _).length_eq] at es
    rw [List.length_map]
    exact es
  refine ⟨F1, a, L, ds, rfl, sr2.le, upd_same, its, o1, ?_⟩
  rw [el]
  exact q _ _ _ (Step.of_gr g) sr2 (.int _)
theorem lenSet_data : ∀ σ H Q, tR X.K X.mg Bo W (RV X.K) (fApp dLenSet fa) σ H Q → tCB (rLenN X.K X.prog X.w) (tCons (tCB (rSetA X.K X.prog X.w) (tR X.K X.mg Bo W (RA X.K) fa)) tNil) σ H Q := fun σ H Q q => by
  refine tR_bind RV.rb q fun vs ds F F1 H1 ps ps1 sr st hv q => ?_
  obtain ⟨d, ee, q⟩ : ∃ d, dLenSet ds = some d ∧ Goal X.K X.mg Bo W (RV X.K) (.ok d ps1) F1 H1 σ ps1 Q := by
    cases z : dLenSet ds with
    | none => rw [z] at q; exact q.elim
    | some d => rw [z] at q; exact ⟨d, rfl, q⟩
  unfold dLenSet at ee
  split at ee
  · split at ee
    · rename_i ok
      cases ee
      obtain ⟨v, rfl, hd⟩ := dpall1 hv
      cases hd with
      | lst s1 d1 => exact .inl ⟨F1, _, _, _, rfl, sr.le, sr.le.seq s1, d1, (okSet_all ok).1, (okSet_all ok).2.1, fun a L ha its => lenSet_end sr ok ha its q⟩
    · cases ee
  · split at ee
    · rename_i ok
      cases ee
      obtain ⟨v, rfl, hd⟩ := dpall1 hv
      cases hd with
      | tup s1 d1 => exact .inr ⟨F1, _, _, _, rfl, sr.le, same_sqt sr.le s1, d1, (okSet_all ok).1, (okSet_all ok).2.1, fun a L ha its => lenSet_end sr ok ha its q⟩
    · cases ee
  · cases ee
theorem gv_lenSet (hc : X.calm = true) (hu : X.A.units + 64 < cLine) (g1 : Gl X "len") (m1 : X.mg "len" = none) (g2 : Gl X "set") (m2 : X.mg "set" = none) (ha : GA X Bo W [e] fa)
    (he : starEach [e] X.env = (false, eval e X.env) :: starEach [] X.env := by rfl) (hpl : (backTo pos2 (starEach [] X.env)).any (·.1) = false := by rfl)
    (he2 : starEach [Expr.Call (.Name "set" p2) [e] [] pos2] X.env = (false, eval (Expr.Call (.Name "set" p2) [e] [] pos2) X.env) :: starEach [] X.env := by rfl) (hpl2 : (backTo pos (starEach [] X.env)).any (·.1) = false := by rfl) :
    GV X Bo W (.Call (.Name "len" p) [.Call (.Name "set" p2) [e] [] pos2] [] pos) (fApp dLenSet fa) :=
  (pe_callB cr_lenN g1 m1 (by rfl) (pa_cons (pe_callTy (cr_setA hc hu) g2 m2 (by rfl) ha (by decide) (by decide) he hpl) pa_nil he2) (by decide) (by decide) he2 hpl2).imp lenSet_data
/-! ### [..] * n -/
def fRep (fo : PSt → Rs PV) (f2 : PSt → Rs PyData) : PSt → Rs PV := fun ps => (fo ps).bind fun p ps1 => (f2 ps1).bind fun b ps2 => match p, b with
  | .own (.list ds), .int k => if 0 ≤ k ∧ k ≤ 1000 ∧ ds.length ≤ 1000 then .ok (.own (.list (List.replicate k.toNat ds).flatten)) ps2 else .bad
  | _, _ => .bad
theorem dp_rep {K : PySem.W.Frag} {F : Hp} {xs : List V} {ds : List PyData} (h : DpAll K F xs ds) : ∀ n : Nat, DpAll K F (List.replicate n xs).flatten (List.replicate n ds).flatten
  | 0 => .nil
  | n + 1 => by
    rw [List.replicate_succ, List.replicate_succ, List.flatten_cons, List.flatten_cons]
    exact h.append (dp_rep h n)
theorem go_rep (h1 : GO X Bo W e1 fo) (h2 : GV X Bo W e2 f2) : GO X Bo W (.BinOp e1 .Mult e2 pos) (fRep fo f2) :=
  (pe_op op_rep h1 h2).imp fun σ H Q q => by
    refine tR_bind RO.rb q fun v p F F1 H1 ps ps1 sr st hv q0 => ?_
    refine go_bind RO.rb sr q0 fun u b F2 H2 ps2 sr2 st2 hu q1 => ?_
    clear q q0
    split at q1
    · rename_i ds k
      split at q1
      · rename_i hz
        obtain ⟨z1, z2, z3⟩ := hz
        obtain ⟨a, rfl, ⟨hn, xs, ds2, ed, hH, hd⟩, hno, _⟩ := hv
        cases ed
        cases hu
        have hl := hd.length
        refine ⟨a, k, xs, rfl, rfl, st2.keep _ _ hH hno, by omega, by omega, ?_, fun p hp => ?_⟩
        · have a1 : xs.length * k.toNat ≤ 1000 * 1000 := Nat.mul_le_mul (by omega) (by omega)
          rw [sizeLine_eq]; omega
        · obtain ⟨g, s2, ro⟩ := new_own sr2 hp (dp_rep (hd.mono st2.grow) k.toNat)
          exact q1 (.ref p) _ _ (.of_gr g) s2 ro
      · exact q1.elim
    · exact q1.elim
end
/-! ### max, min of a list of whole numbers -/
def maxI : Int → List Int → Int
  | m, [] => m
  | m, n :: ns => maxI (if m < n then n else m) ns
theorem maxI_spec : ∀ (ns : List Int) (m : Int), (maxI m ns = m ∨ maxI m ns ∈ ns) ∧ m ≤ maxI m ns ∧ ∀ n ∈ ns, n ≤ maxI m ns
  | [], m => ⟨.inl rfl, Int.le_refl _, by simp⟩
  | n :: ns, m => by
    obtain ⟨h1, h2, h3⟩ := maxI_spec ns (if m < n then n else m)
    have e : maxI m (n :: ns) = maxI (if m < n then n else m) ns := rfl
    rw [e]
    generalize maxI (if m < n then n else m) ns = M at *
    refine ⟨?_, ?_, fun x hx => ?_⟩
    · split at h1
      · rcases h1 with h | h
        · exact .inr (h ▸ List.mem_cons_self)
        · exact .inr (List.mem_cons_of_mem _ h)
      · rcases h1 with h | h
        · exact .inl h
        · exact .inr (List.mem_cons_of_mem _ h)
    · split at h2 <;> omega
    · rcases List.mem_cons.mp hx with q | q
      · subst q; split at h2 <;> omega
      · exact h3 x q
def dMaxL : List PyData → Option PyData
  | [.list ds] => match intsOf ds with
    | some (n :: ns) => some (.int (maxI n ns))
    | _ => none
  | _ => none
theorem maxL_ok {K : PySem.W.Frag} : CallD K (rMax K) dMaxL := fun F H xs ds d Q hs hx e k => by
  unfold dMaxL at e
  split at e
  · rename_i es
    obtain ⟨v, rfl, h⟩ := dpall1 hx
    split at e
    · rename_i n ns q
      cases e
      rw [intsOf_map q] at h
      obtain ⟨h1, h2, h3⟩ := maxI_spec ns n
      cases h with
      | lst s1 d1 =>
        refine ⟨_, n :: ns, rfl, by rw [← dp_ints d1]; exact hs.seq s1, by simp, fun m hm hmx => ?_⟩
        have e : m = maxI n ns := by
          apply Int.le_antisymm
          · rcases List.mem_cons.mp hm with q | q
            · subst q; exact h2
            · exact h3 m q
          · rcases h1 with q | q
            · rw [q]; exact hmx n List.mem_cons_self
            · exact hmx _ (List.mem_cons_of_mem _ q)
        rw [e]
        exact k _ F H (.refl hs) (.int _)
    · cases e
  · cases e
end GL

/-! GLt: x in a list or a tuple -/
namespace GL
open PySem PySem.Spec L2 GS PySem.W
open PyProof.Rows hiding St
def rInT (K : PySem.W.Frag) : R2 := fun x y H Q => ∃ d ds, Dp K H x d ∧ Dp K H y (.tuple ds) ∧ SeqAt.shaped d = true ∧ SeqAt.shaped (.list ds) = true ∧ Q (.bl (ds.any fun z => PyData.eqv z d)) H
def rNotInT (K : PySem.W.Frag) : R2 := fun x y H Q => ∃ d ds, Dp K H x d ∧ Dp K H y (.tuple ds) ∧ SeqAt.shaped d = true ∧ SeqAt.shaped (.list ds) = true ∧ Q (.bl (!ds.any fun z => PyData.eqv z d)) H
section
variable {X : Cx}
theorem op_inT (hu : X.A.units + 65 < cLine) : OpR X (compareOp .In) (rInT X.K) := by
  intro pins s σ H x y v u Q I rx ry h
  obtain ⟨d, ds, hd, he, sd, se, q⟩ := h
  obtain ⟨as, r1⟩ := Dp.reads I d x v hd rx
  obtain ⟨bs, r2⟩ := Dp.reads I (.tuple ds) y u he ry
  exact SeqAt.in_tuple_reads r2 r1 (SeqAt.canLay_of_shaped se) (SeqAt.canLay_of_shaped sd) (room_in_shaped sd hu) ⟨.bl _, H, I, rfl, q⟩
theorem op_notInT (hu : X.A.units + 65 < cLine) : OpR X (compareOp .NotIn) (rNotInT X.K) := by
  intro pins s σ H x y v u Q I rx ry h
  obtain ⟨d, ds, hd, he, sd, se, q⟩ := h
  obtain ⟨as, r1⟩ := Dp.reads I d x v hd rx
  obtain ⟨bs, r2⟩ := Dp.reads I (.tuple ds) y u he ry
  exact SeqAt.notIn_tuple_reads r2 r1 (SeqAt.canLay_of_shaped se) (SeqAt.canLay_of_shaped sd) (room_in_shaped sd hu) ⟨.bl _, H, I, rfl, q⟩
def rInA (K : PySem.W.Frag) : R2 := fun x y H Q => rInD K x y H Q ∨ rInT K x y H Q
def rNotInA (K : PySem.W.Frag) : R2 := fun x y H Q => rNotInD K x y H Q ∨ rNotInT K x y H Q
theorem op_inA (hu : X.A.units + 65 < cLine) : OpR X (compareOp .In) (rInA X.K) := (op_inD hu).or (op_inT hu)
theorem op_notInA (hu : X.A.units + 65 < cLine) : OpR X (compareOp .NotIn) (rNotInA X.K) := (op_notInD hu).or (op_notInT hu)
def items : PyData → Option (List PyData)
  | .list ds => some ds
  | .tuple ds => some ds
  | _ => none
def dInA (d c : PyData) : Option PyData := match items c with
  | some ds => if SeqAt.shaped d = true ∧ SeqAt.shaped (.list ds) = true then some (.bool (ds.any fun z => PyData.eqv z d)) else none
  | none => none
def dNotInA (d c : PyData) : Option PyData := match items c with
  | some ds => if SeqAt.shaped d = true ∧ SeqAt.shaped (.list ds) = true then some (.bool (!ds.any fun z => PyData.eqv z d)) else none
  | none => none
theorem items_eq {c : PyData} {ds : List PyData} (h : items c = some ds) : c = .list ds ∨ c = .tuple ds := by
  cases c <;> first | (cases h; exact .inl rfl) | (cases h; exact .inr rfl) | cases h
theorem inA_ok {K : PySem.W.Frag} : OpD K (rInA K) dInA := fun F H x y a b d Q hs hx hy e k => by
  unfold dInA at e
  split at e
  · rename_i ds ei
    split at e
    · rename_i h; cases e
      rcases items_eq ei with rfl | rfl
      · exact .inl ⟨_, _, hx.mono hs, hy.mono hs, h.1, h.2, k _ F H (.refl hs) (.bl _)⟩
      · exact .inr ⟨_, _, hx.mono hs, hy.mono hs, h.1, h.2, k _ F H (.refl hs) (.bl _)⟩
    · cases e
  · cases e
theorem notInA_ok {K : PySem.W.Frag} : OpD K (rNotInA K) dNotInA := fun F H x y a b d Q hs hx hy e k => by
  unfold dNotInA at e
  split at e
  · rename_i ds ei
    split at e
    · rename_i h; cases e
      rcases items_eq ei with rfl | rfl
      · exact .inl ⟨_, _, hx.mono hs, hy.mono hs, h.1, h.2, k _ F H (.refl hs) (.bl _)⟩
      · exact .inr ⟨_, _, hx.mono hs, hy.mono hs, h.1, h.2, k _ F H (.refl hs) (.bl _)⟩
    · cases e
  · cases e
theorem bool_dInA (a b d : PyData) (h : dInA a b = some d) : ∃ k, d = .bool k := by
  unfold dInA at h
  split at h
  · split at h
    · cases h; exact ⟨_, rfl⟩
    · cases h
  · cases h
theorem bool_dNotInA (a b d : PyData) (h : dNotInA a b = some d) : ∃ k, d = .bool k := by
  unfold dNotInA at h
  split at h
  · split at h
    · cases h; exact ⟨_, rfl⟩
    · cases h
  · cases h
end
/-! ### a, b = e1, e2, when a or b is also a block's -/
section
variable {X : Cx} {Bo : Option Addr} {W : WX} {e1 e2 : Expr} {fo1 fo2 : PSt → Rs PV} {pos : Pos}
theorem gs_par2 (i j : Nat) {x y : Str} {px py pt pt2 : Pos} {kt k2 : Nat} (h1 : GO X Bo W e1 fo1) (h2 : GO X Bo W e2 fo2) (hc : X.calm = true) (hN : X.N.Nodup)
    (hij : i ≠ j := by decide) (hbi : Bo = none ∨ i ≠ 0 := by first | exact .inl rfl | exact .inr (by decide)) (hbj : Bo = none ∨ j ≠ 0 := by first | exact .inl rfl | exact .inr (by decide))
    (hi : X.N[i]? = some x := by rfl) (hj : X.N[j]? = some y := by rfl) (hx : Loc X.env.scope x := by first | exact .inl rfl | exact .inr rfl) (hy : Loc X.env.scope y := by first | exact .inl rfl | exact .inr rfl)
    (hfx : X.fn x = true ∨ X.env.scope.names.lookup x = some .local := by first | exact .inl rfl | exact .inr rfl) (hfy : X.fn y = true ∨ X.env.scope.names.lookup y = some .local := by first | exact .inl rfl | exact .inr rfl)
    (hs1 : starEach (e1 :: [e2]) X.env = (false, eval e1 X.env) :: starEach [e2] X.env := by rfl) (hs2 : starEach (e2 :: []) X.env = (false, eval e2 X.env) :: starEach [] X.env := by rfl)
    (hs : swapsWithSole [.Tuple [.Name x px, .Name y py] kt pt] (.Tuple [e1, e2] k2 pt2) pos.line X.env = pure false := by rfl) (hw : swappedStores [.Tuple [.Name x px, .Name y py] kt pt] (.Tuple [e1, e2] k2 pt2) X.env = pure none := by rfl)
    (ha : (assignEach [.Tuple [.Name x px, .Name y py] kt pt] X.env).map (·.2) = [assign (.Tuple [.Name x px, .Name y py] kt pt) X.env] := by rfl) :
    GS X Bo W (.Assign [.Tuple [.Name x px, .Name y py] kt pt] (.Tuple [e1, e2] k2 pt2) pos) (fPar i j fo1 fo2) := by
  refine (ps_asg (pe_tup (pa_cons h1 (pa_cons h2 pa_nil hs2) hs1)) (pg_tup hc (pgs_cons (pg_name hN hi hx hfx) (pgs_cons (pg_name hN hj hy hfy) pgs_nil))) hs hw ha).imp fun D σ H ⟨F, ps, sr, q⟩ => ?_
  show tR X.K X.mg Bo W (RO X.K) fo1 σ H _
  refine ⟨F, ps, sr, ?_⟩
  unfold fPar at q
  cases e1 : fo1 ps with
  | bad => rw [e1] at q; exact q
  | exc x ps1 => rw [e1] at q; exact fun cls dd F' H' st s1 r => q cls dd σ F' H' st s1 r
  | ok p ps1 =>
    rw [e1] at q
    intro v F1 H1 st1 s1 hv
    have q : GoalS X.K X.mg Bo W ((fo2 ps1).st fun q ps2 => .nx ((ps2.set i (some p)).set j (some q))) F H σ ps D := q
    show tR X.K X.mg Bo W (RO X.K) fo2 σ H1 _
    refine ⟨F1, ps1, s1, ?_⟩
    cases e2 : fo2 ps1 with
    | bad => rw [e2] at q; exact q
    | exc x ps2 => rw [e2] at q; exact fun cls dd F' H' st s2 r => q cls dd σ F' H' (st1.trans st) s2 r
    | ok r ps2 =>
      rw [e2] at q
      intro w F2 H2 st2 s2 hw
      obtain ⟨s3, st3⟩ := ro2 hij hbi hbj s2 st1 st2 hv hw
      refine ⟨by rw [sizeLine_eq]; simp, fun a ha => ?_⟩
      have g := GS.junk (o := .tup [v, w]) s2.le ha
      exact ⟨a, [v, w], rfl, SqT.of upd_same, rfl, v, [w], rfl, w, [], rfl, rfl, q _ F2 _ (st3.trans (.of_gr g)) (s3.gr g)⟩
end
/-! ### a comparison of two names, only looked at -/
section
variable {X : Cx} {Bo : Option Addr} {W : WX} {x y : Str} {pos : Pos}
def fBinSS (D : PyData → PyData → Option PyData) (i j : Nat) : PSt → Rs PyData := fun ps => match look i ps with
  | none => .bad
  | some a => match look j ps with
    | none => .bad
    | some b => opt (D a b) ps
theorem opSS_data {r : R2} {D : PyData → PyData → Option PyData} {i j : Nat} (hr : OpD X.K r D) (hD : ∀ a b d, D a b = some d → ∃ k, d = .bool k) : ∀ σ H Q, tR X.K X.mg Bo W (RV X.K) (fBinSS D i j) σ H Q → tOp r (tVar i) (tVar j) σ H Q := fun σ H Q ⟨F, ps, sr, q⟩ => by
  unfold fBinSS at q
  cases e0 : look i ps with
  | none => rw [e0] at q; exact q.elim
  | some a =>
    rw [e0] at q
    dsimp only at q
    cases e1 : look j ps with
    | none => rw [e1] at q; exact q.elim
    | some b =>
      rw [e1] at q
      obtain ⟨v, hv, hdp, _⟩ := sr.look e0
      obtain ⟨w, hw, hdw, _⟩ := sr.look e1
      obtain ⟨d, ed, k⟩ := go_end sr q
      obtain ⟨kb, rfl⟩ := hD _ _ _ ed
      refine ⟨v, hv, w, hw, hr H H v w a b _ Q (.refl _) hdp hdw ed fun z F' H' g hz => ?_⟩
      cases hz
      exact k _ F H' ⟨.refl _, fun _ _ e => .inl e, g.keep, sr.le.trans g.keep⟩ (.bl _)
theorem gv_cmpSS (i j : Nat) {px py : Pos} {op : CmpOp} {r : R2} {D : PyData → PyData → Option PyData} (ho : OpR X (compareOp op) r) (hr : OpD X.K r D) (hD : ∀ a b d, D a b = some d → ∃ k, d = .bool k) (hm : behindInMarks op (.Name y py) = false := by first | exact nomark _ | rfl)
    (hN : X.N[i]? = some x := by rfl) (hv : Vis X.env.scope x := by first | exact Or.inl rfl | exact Or.inr (Or.inl rfl) | exact Or.inr (Or.inr rfl)) (hd : (x == ("__debug__" : Str)) = false := by decide) (hcd : (x == ("__classdict__" : Str)) = false := by decide)
    (hN2 : X.N[j]? = some y := by rfl) (hv2 : Vis X.env.scope y := by first | exact Or.inl rfl | exact Or.inr (Or.inl rfl) | exact Or.inr (Or.inr rfl)) (hd2 : (y == ("__debug__" : Str)) = false := by decide) (hcd2 : (y == ("__classdict__" : Str)) = false := by decide) :
    GV X Bo W (.Compare (.Name x px) [op] [.Name y py] pos) (fBinSS D i j) := (pe_cmpR ho (pe_var hN hv hd hcd) (pe_var hN2 hv2 hd2 hcd2) hm).imp (opSS_data hr hD)
theorem gt_cmpSS (i j : Nat) {px py : Pos} {op : CmpOp} {r : R2} {D : PyData → PyData → Option PyData} (ho : OpR X (compareOp op) r) (hr : OpD X.K r D) (hD : ∀ a b d, D a b = some d → ∃ k, d = .bool k) (hm : behindInMarks op (.Name y py) = false := by first | exact nomark _ | rfl)
    (hN : X.N[i]? = some x := by rfl) (hv : Vis X.env.scope x := by first | exact Or.inl rfl | exact Or.inr (Or.inl rfl) | exact Or.inr (Or.inr rfl)) (hd : (x == ("__debug__" : Str)) = false := by decide) (hcd : (x == ("__classdict__" : Str)) = false := by decide)
    (hN2 : X.N[j]? = some y := by rfl) (hv2 : Vis X.env.scope y := by first | exact Or.inl rfl | exact Or.inr (Or.inl rfl) | exact Or.inr (Or.inr rfl)) (hd2 : (y == ("__debug__" : Str)) = false := by decide) (hcd2 : (y == ("__classdict__" : Str)) = false := by decide) :
    GT X Bo W (.Compare (.Name x px) [op] [.Name y py] pos) (fTest (fBinSS D i j)) := (pt_cmpR ho (pe_var hN hv hd hcd) (pe_var hN2 hv2 hd2 hcd2) hm).imp (test_data (opSS_data hr hD))
end
end GL

/-! GTa: kinds of data: values of Lean as data of whole numbers and tuples -/
namespace GT
open PySem PySem.Spec L2 GL GS PySem.W
open PyProof.Rows hiding St
mutual
theorem ni_lay : ∀ {d : PyData}, ni d = true → d.canLay0 = true
  | .int _, _ => rfl
  | .tuple ds, h => by
    have h' : niAll ds = true := by simpa [ni] using h
    simpa [PyData.canLay0] using niAll_lay h'
  | .none, h => by simp [ni] at h
  | .bool _, h => by simp [ni] at h
  | .str _, h => by simp [ni] at h
  | .list _, h => by simp [ni] at h
  | .dict _, h => by simp [ni] at h
theorem niAll_lay : ∀ {ds : List PyData}, niAll ds = true → PyData.canLayAll0 ds = true
  | [], _ => rfl
  | d :: ds, h => by
    have h' : ni d = true ∧ niAll ds = true := by simpa [niAll] using h
    simp [PyData.canLayAll0, ni_lay h'.1, niAll_lay h'.2]
end
mutual
theorem ni_refl : ∀ {d : PyData}, ni d = true → PyData.eqv d d = true
  | .int _, _ => by simp [PyData.eqv]
  | .tuple ds, h => by
    have h' : niAll ds = true := by simpa [ni] using h
    simpa [PyData.eqv] using niAll_refl h'
  | .none, h => by simp [ni] at h
  | .bool _, h => by simp [ni] at h
  | .str _, h => by simp [ni] at h
  | .list _, h => by simp [ni] at h
  | .dict _, h => by simp [ni] at h
theorem niAll_refl : ∀ {ds : List PyData}, niAll ds = true → PyData.eqvAll ds ds = true
  | [], _ => rfl
  | d :: ds, h => by
    have h' : ni d = true ∧ niAll ds = true := by simpa [niAll] using h
    simp [PyData.eqvAll, ni_refl h'.1, niAll_refl h'.2]
end
/-- a kind: what stands for a, as data -/
structure Ty {α : Type} (en : α → PyData) (k : Nat) : Prop where
  inj : ∀ a b, en a = en b → a = b
  ni : ∀ a, GS.ni (en a) = true
  al : ∀ a b, alike (en a) (en b) = true
  dp : ∀ a, (en a).depth ≤ k
def eT {α : Type} (en : α → PyData) (l : List α) : PyData := .tuple (l.map en)
def eP2 {α β : Type} (e1 : α → PyData) (e2 : β → PyData) (p : α × β) : PyData := .tuple [e1 p.1, e2 p.2]
theorem depthAll_le {k : Nat} : ∀ {ds : List PyData}, (∀ d ∈ ds, d.depth ≤ k) → PyData.depthAll ds ≤ k
  | [], _ => Nat.zero_le _
  | d :: ds, h => by
    simp only [PyData.depthAll]
    exact Nat.max_le.mpr ⟨h d List.mem_cons_self, depthAll_le fun e m => h e (List.mem_cons_of_mem _ m)⟩
theorem niAll_of : ∀ {ds : List PyData}, (∀ d ∈ ds, ni d = true) → niAll ds = true
  | [], _ => rfl
  | d :: ds, h => by simp [niAll, h d List.mem_cons_self, niAll_of fun e m => h e (List.mem_cons_of_mem _ m)]
theorem alikeAll_map {α : Type} {en : α → PyData} (h : ∀ a b, alike (en a) (en b) = true) : ∀ l m : List α, alikeAll (l.map en) (m.map en) = true
  | [], _ => by simp [alikeAll]
  | _ :: _, [] => by simp [alikeAll]
  | a :: l, b :: m => by simp [alikeAll, h a b, alikeAll_map h l m]
theorem Ty.le {α : Type} {en : α → PyData} {k m : Nat} (t : Ty en k) (h : k ≤ m) : Ty en m := ⟨t.inj, t.ni, t.al, fun a => Nat.le_trans (t.dp a) h⟩
theorem Ty.int : Ty PyData.int 0 := ⟨fun a b e => by cases e; rfl, fun a => rfl, fun a b => rfl, fun a => Nat.le_refl _⟩
theorem map_inj {α : Type} {en : α → PyData} (h : ∀ a b, en a = en b → a = b) : ∀ {l m : List α}, l.map en = m.map en → l = m
  | [], [], _ => rfl
  | [], _ :: _, e => by cases e
  | _ :: _, [], e => by cases e
  | a :: l, b :: m, e => by
    simp only [List.map_cons, List.cons.injEq] at e
    rw [h _ _ e.1, map_inj h e.2]
theorem Ty.list {α : Type} {en : α → PyData} {k : Nat} (t : Ty en k) : Ty (eT en) (k + 1) where
  inj := fun a b e => by
    have e : PyData.tuple _ = PyData.tuple _ := e
    injection e with e; exact map_inj t.inj e
  ni := fun a => by
    show GS.ni (.tuple _) = true
    simp only [GS.ni]
    exact niAll_of fun d m => by obtain ⟨x, _, rfl⟩ := List.mem_map.mp m; exact t.ni x
  al := fun a b => by show alike (.tuple _) (.tuple _) = true; simp only [alike]; exact alikeAll_map t.al a b
  dp := fun a => by
    show PyData.depth (.tuple _) ≤ _
    simp only [PyData.depth]
    exact Nat.succ_le_succ (depthAll_le fun d m => by obtain ⟨x, _, rfl⟩ := List.mem_map.mp m; exact t.dp x)
theorem Ty.pair {α β : Type} {e1 : α → PyData} {e2 : β → PyData} {k : Nat} (t : Ty e1 k) (u : Ty e2 k) : Ty (eP2 e1 e2) (k + 1) where
  inj := fun a b e => by
    have e : PyData.tuple _ = PyData.tuple _ := e
    injection e with e
    simp only [List.cons.injEq, and_true] at e
    exact Prod.ext (t.inj _ _ e.1) (u.inj _ _ e.2)
  ni := fun a => by
    show GS.ni (.tuple _) = true
    simp [GS.ni, niAll, t.ni, u.ni]
  al := fun a b => by show alike (.tuple _) (.tuple _) = true; simp [alike, alikeAll, t.al, u.al]
  dp := fun a => by
    show PyData.depth (.tuple _) ≤ _
    simp only [PyData.depth]
    exact Nat.succ_le_succ (depthAll_le fun d m => by
      simp only [List.mem_cons, List.not_mem_nil, or_false] at m
      rcases m with rfl | rfl
      · exact t.dp _
      · exact u.dp _)
section
variable {α : Type} {en : α → PyData} {k : Nat} (t : Ty en k)
include t
theorem Ty.shaped (hk : k ≤ 64) (a : α) : SeqAt.shaped (en a) = true := by
  unfold SeqAt.shaped
  rw [ni_lay (t.ni a), Bool.true_and]
  exact decide_eq_true (Nat.le_trans (t.dp a) hk)
theorem Ty.shapedL (hk : k ≤ 63) (l : List α) : SeqAt.shaped (.list (l.map en)) = true := by
  unfold SeqAt.shaped
  have h1 : PyData.canLay0 (.list (l.map en)) = true := by
    simp only [PyData.canLay0]
    exact niAll_lay (niAll_of fun d m => by obtain ⟨x, _, rfl⟩ := List.mem_map.mp m; exact t.ni x)
  rw [h1, Bool.true_and]
  refine decide_eq_true ?_
  simp only [PyData.depth]
  have := depthAll_le (k := k) (ds := l.map en) fun d m => by obtain ⟨x, _, rfl⟩ := List.mem_map.mp m; exact t.dp x
  omega
theorem Ty.eqv [DecidableEq α] (a b : α) : PyData.eqv (en a) (en b) = decide (a = b) := by
  by_cases h : a = b
  · subst h; rw [decide_eq_true rfl]; exact ni_refl (t.ni a)
  · rw [decide_eq_false h]
    cases q : PyData.eqv (en a) (en b) with
    | false => rfl
    | true => exact absurd (t.inj _ _ (eqv_ni (t.ni a) (t.ni b) q)) h
theorem Ty.eqv' (a b : α) : PyData.eqv (en a) (en b) = true ↔ a = b := by
  constructor
  · intro q; exact t.inj _ _ (eqv_ni (t.ni a) (t.ni b) q)
  · rintro rfl; exact ni_refl (t.ni a)
theorem Ty.dEq [DecidableEq α] (hk : k ≤ 64) {a b : α} {c : Bool} (h : decide (a = b) = c) : dEq (en a) (en b) = some (.bool c) := by
  unfold GL.dEq; rw [if_pos ⟨t.shaped hk a, t.shaped hk b⟩, t.eqv, h]
theorem Ty.dNe [DecidableEq α] (hk : k ≤ 64) {a b : α} {c : Bool} (h : (!decide (a = b)) = c) : dNe (en a) (en b) = some (.bool c) := by
  unfold GL.dNe; rw [if_pos ⟨t.shaped hk a, t.shaped hk b⟩, t.eqv, h]
theorem Ty.any [DecidableEq α] (a : α) (l : List α) : ((l.map en).any fun z => PyData.eqv z (en a)) = decide (a ∈ l) := by
  induction l with
  | nil => rfl
  | cons b l ih =>
    rw [List.map_cons, List.any_cons, ih, t.eqv]
    by_cases h : b = a
    · subst h; simp
    · simp [h, show ¬ a = b from fun e => h e.symm]
theorem Ty.dIn [DecidableEq α] (hk : k ≤ 63) {a : α} {l : List α} {c : Bool} {d : PyData} (hd : d = .list (l.map en) ∨ d = .tuple (l.map en)) (h : decide (a ∈ l) = c) : dInA (en a) d = some (.bool c) := by
  have e : items d = some (l.map en) := by rcases hd with rfl | rfl <;> rfl
  unfold GL.dInA; rw [e]; dsimp only; rw [if_pos ⟨t.shaped (by omega) a, t.shapedL hk l⟩, t.any, h]
theorem Ty.dNotIn [DecidableEq α] (hk : k ≤ 63) {a : α} {l : List α} {c : Bool} {d : PyData} (hd : d = .list (l.map en) ∨ d = .tuple (l.map en)) (h : (!decide (a ∈ l)) = c) : dNotInA (en a) d = some (.bool c) := by
  have e : items d = some (l.map en) := by rcases hd with rfl | rfl <;> rfl
  unfold GL.dNotInA; rw [e]; dsimp only; rw [if_pos ⟨t.shaped (by omega) a, t.shapedL hk l⟩, t.any, h]
theorem Ty.dIn' (hk : k ≤ 63) {a : α} {l : List α} {c : Bool} {d : PyData} (hd : d = .list (l.map en) ∨ d = .tuple (l.map en)) (h : c = true ↔ a ∈ l) : dInA (en a) d = some (.bool c) := by
  classical
  exact t.dIn hk hd (by rw [Bool.eq_iff_iff, decide_eq_true_eq, h])
theorem Ty.dNotIn' (hk : k ≤ 63) {a : α} {l : List α} {c : Bool} {d : PyData} (hd : d = .list (l.map en) ∨ d = .tuple (l.map en)) (h : c = true ↔ a ∉ l) : dNotInA (en a) d = some (.bool c) := by
  classical
  exact t.dNotIn hk hd (by rw [Bool.eq_iff_iff, h]; simp)
theorem Ty.dNeL (hk : k ≤ 63) {l : List α} {c : Bool} (h : (!l.isEmpty) = c) : GL.dNe (.list (l.map en)) (.list []) = some (.bool c) := by
  have s0 : SeqAt.shaped (.list []) = true := by unfold SeqAt.shaped; simp [PyData.canLay0, PyData.canLayAll0, PyData.depth, PyData.depthAll]
  unfold GL.dNe; rw [if_pos ⟨t.shapedL hk l, s0⟩]
  cases l with
  | nil => subst h; simp [PyData.eqv, PyData.eqvAll]
  | cons a l => subst h; simp [PyData.eqv, PyData.eqvAll]
theorem Ty.dEqL (hk : k ≤ 63) {l : List α} {c : Bool} (h : l.isEmpty = c) : GL.dEq (.list (l.map en)) (.list []) = some (.bool c) := by
  have s0 : SeqAt.shaped (.list []) = true := by unfold SeqAt.shaped; simp [PyData.canLay0, PyData.canLayAll0, PyData.depth, PyData.depthAll]
  unfold GL.dEq; rw [if_pos ⟨t.shapedL hk l, s0⟩]
  cases l with
  | nil => subst h; simp [PyData.eqv, PyData.eqvAll]
  | cons a l => subst h; simp [PyData.eqv, PyData.eqvAll]
theorem Ty.okSet (hk : k ≤ 8) (hT : ∀ a, ∃ ds, en a = .tuple ds) {l : List α} (h : l.length < 64) : okSet (l.map en) = true := by
  unfold GS.okSet
  rw [Bool.and_eq_true, Bool.and_eq_true, List.all_eq_true, List.all_eq_true, decide_eq_true_eq]
  refine ⟨⟨fun d m => ?_, by simpa using h⟩, fun d m => List.all_eq_true.mpr fun e n => ?_⟩
  · obtain ⟨a, _, rfl⟩ := List.mem_map.mp m
    obtain ⟨ds, e⟩ := hT a
    have h1 := t.ni a; have h2 := t.dp a
    rw [e] at h1 h2 ⊢
    simp only [okKey, Bool.and_eq_true, decide_eq_true_eq]
    exact ⟨by simpa [GS.ni] using h1, Nat.le_trans h2 hk⟩
  · obtain ⟨a, _, rfl⟩ := List.mem_map.mp m
    obtain ⟨b, _, rfl⟩ := List.mem_map.mp n
    exact t.al a b
end
/-! ### sorted sets, as lists of values -/
structure Srt {α : Type} (sp : List α → List α) : Prop where
  mem : ∀ l x, x ∈ sp l ↔ x ∈ l
  nd : ∀ l, (sp l).Nodup
  ext : ∀ l m, (∀ x, x ∈ l ↔ x ∈ m) → sp l = sp m
open Classical in
noncomputable def dec {α : Type} (en : α → PyData) (d : PyData) : Option α := if h : ∃ a, en a = d then some h.choose else none
noncomputable def srt {α : Type} (en : α → PyData) (l : List α) : List α := (sortK (l.map en)).filterMap (dec en)
section
variable {α : Type} {en : α → PyData} {k : Nat} (t : Ty en k)
include t
theorem Ty.dec (a : α) : dec en (en a) = some a := by
  have h : ∃ b, en b = en a := ⟨a, rfl⟩
  unfold GT.dec
  rw [dif_pos h]
  exact congrArg some (t.inj _ _ h.choose_spec)
theorem Ty.decs : ∀ l : List α, (l.map en).filterMap (GT.dec en) = l
  | [] => rfl
  | a :: l => by rw [List.map_cons, List.filterMap_cons, t.dec a]; dsimp only; rw [Ty.decs l]
theorem Ty.kofI {a b : α} (h : kof (en a) = kof (en b)) : a = b := by
  have := congrArg NestedKey.data h
  rw [(data_kof _ (t.ni a)).1, (data_kof _ (t.ni b)).1] at this
  exact t.inj _ _ this
theorem Ty.mem_once {l : List α} {κ : NestedKey} (h : κ ∈ (once ((l.map en).map kof)).mergeSort kLe) : ∃ a ∈ l, κ = kof (en a) := by
  have := GS.mem_once.mp ((List.mergeSort_perm _ _).mem_iff.mp h)
  obtain ⟨d, m, rfl⟩ := List.mem_map.mp this
  obtain ⟨a, ma, rfl⟩ := List.mem_map.mp m
  exact ⟨a, ma, rfl⟩
theorem Ty.srt_eq (l : List α) : sortK (l.map en) = (srt en l).map en := by
  have hm : ∀ d ∈ sortK (l.map en), ∃ a, d = en a := fun d m => by
    obtain ⟨κ, mκ, rfl⟩ := List.mem_map.mp m
    obtain ⟨a, _, rfl⟩ := t.mem_once mκ
    exact ⟨a, (data_kof _ (t.ni a)).1⟩
  unfold srt
  generalize sortK (l.map en) = ds at hm ⊢
  induction ds with
  | nil => rfl
  | cons d ds ih =>
    obtain ⟨a, rfl⟩ := hm d List.mem_cons_self
    rw [List.filterMap_cons, t.dec a]
    dsimp only
    rw [List.map_cons, ← ih fun e m => hm e (List.mem_cons_of_mem _ m)]
theorem Ty.mem_srt (l : List α) (x : α) : x ∈ srt en l ↔ x ∈ l := by
  have h1 : x ∈ srt en l ↔ en x ∈ (srt en l).map en := by
    rw [List.mem_map]
    exact ⟨fun m => ⟨x, m, rfl⟩, fun ⟨y, m, e⟩ => t.inj _ _ e ▸ m⟩
  rw [h1, ← t.srt_eq l]
  constructor
  · intro m
    obtain ⟨κ, mκ, e⟩ := List.mem_map.mp m
    obtain ⟨a, ma, rfl⟩ := t.mem_once mκ
    rw [(data_kof _ (t.ni a)).1] at e
    exact t.inj _ _ e ▸ ma
  · intro m
    refine List.mem_map.mpr ⟨kof (en x), (List.mergeSort_perm _ _).mem_iff.mpr (GS.mem_once.mpr (List.mem_map_of_mem (List.mem_map_of_mem m))), (data_kof _ (t.ni x)).1⟩
theorem Ty.keys (l : List α) : (srt en l).map (fun a => kof (en a)) = (once ((l.map en).map kof)).mergeSort kLe := by
  have h : ∀ κ ∈ (once ((l.map en).map kof)).mergeSort kLe, kof κ.data = κ := fun κ m => by
    obtain ⟨a, _, rfl⟩ := t.mem_once m
    rw [(data_kof _ (t.ni a)).1]
  have e := congrArg (List.map kof) (t.srt_eq l)
  unfold sortK at e
  generalize (once ((l.map en).map kof)).mergeSort kLe = M at h e ⊢
  have e2 : (M.map NestedKey.data).map kof = M := by
    rw [List.map_map]
    conv => rhs; rw [← List.map_id M]
    exact List.map_congr_left h
  rw [e2, List.map_map] at e
  exact e.symm
theorem Ty.nd_srt (l : List α) : (srt en l).Nodup := by
  have h : ((srt en l).map fun a => kof (en a)).Nodup := by
    rw [t.keys]
    exact (List.mergeSort_perm _ _).nodup_iff.mpr (nodup_once _)
  exact (List.pairwise_map.mp h).imp fun h e => h (by rw [e])
theorem Ty.sorted_uniq {l m : List NestedKey} (hl : ∀ κ ∈ l, ∃ a, κ = kof (en a)) (hm : ∀ κ ∈ m, ∃ a, κ = kof (en a)) (p : l.Perm m) : l.mergeSort kLe = m.mergeSort kLe := by
  have tt := le_tot NestedKey NestedKey.data
  refine List.Perm.eq_of_pairwise (le := fun a b => kLe a b = true) (fun a b ha hb h1 h2 => ?_) (List.pairwise_mergeSort tt.1 tt.2 _) (List.pairwise_mergeSort tt.1 tt.2 _) (((List.mergeSort_perm _ _).trans p).trans (List.mergeSort_perm _ _).symm)
  obtain ⟨x, rfl⟩ := hl a ((List.mergeSort_perm _ _).mem_iff.mp ha)
  obtain ⟨y, rfl⟩ := hm b ((List.mergeSort_perm _ _).mem_iff.mp hb)
  have e1 := (data_kof _ (t.ni x)).1
  have e2 := (data_kof _ (t.ni y)).1
  have q1 : dataLe false id (en x) (en y) = true := by
    have : dataLe false id (kof (en x)).data (kof (en y)).data = true := h1
    rwa [e1, e2] at this
  have q2 : dataLe false id (en y) (en x) = true := by
    have : dataLe false id (kof (en y)).data (kof (en x)).data = true := h2
    rwa [e1, e2] at this
  rw [le_anti (t.ni x) (t.ni y) (t.al x y) q1 q2]
theorem Ty.srt : Srt (srt en) := by
  refine ⟨t.mem_srt, t.nd_srt, fun l m h => ?_⟩
  have inl : ∀ l : List α, ∀ κ ∈ once ((l.map en).map kof), ∃ a, κ = kof (en a) := fun l κ mκ => by
    obtain ⟨d, md, rfl⟩ := List.mem_map.mp (GS.mem_once.mp mκ)
    obtain ⟨a, _, rfl⟩ := List.mem_map.mp md
    exact ⟨a, rfl⟩
  have p : (once ((l.map en).map kof)).Perm (once ((m.map en).map kof)) := by
    refine (List.perm_ext_iff_of_nodup (nodup_once _) (nodup_once _)).mpr fun κ => ?_
    rw [GS.mem_once, GS.mem_once, List.map_map, List.map_map, List.mem_map, List.mem_map]
    exact ⟨fun ⟨a, b, c⟩ => ⟨a, (h a).mp b, c⟩, fun ⟨a, b, c⟩ => ⟨a, (h a).mpr b, c⟩⟩
  have e := t.sorted_uniq (inl l) (inl m) p
  unfold GT.srt sortK
  rw [e]
theorem Ty.srt_nil : GT.srt en [] = [] := by
  cases q : GT.srt en [] with
  | nil => rfl
  | cons a l => exact absurd ((t.mem_srt [] a).mp (by rw [q]; simp)) (by simp)
theorem Ty.len_srt {l : List α} (nd : l.Nodup) : (GT.srt en l).length = l.length :=
  ((List.perm_ext_iff_of_nodup (t.nd_srt l) nd).mpr fun a => t.mem_srt l a).length_eq
/-- sorted(set(e)) -/
theorem Ty.dSortSet (hk : k ≤ 8) (hT : ∀ a, ∃ ds, en a = .tuple ds) {l : List α} {d : PyData} (hd : d = .list (l.map en) ∨ d = .tuple (l.map en)) (h : l.length < 64) : dSortSetA [d] = some ((GT.srt en l).map en) := by
  rcases hd with rfl | rfl
  · show (if GS.okSet _ = true then some (sortK _) else none) = _
    rw [if_pos (t.okSet hk hT h), t.srt_eq]
  · show (if GS.okSet _ = true then some (sortK _) else none) = _
    rw [if_pos (t.okSet hk hT h), t.srt_eq]
theorem Ty.dLenSet (hk : k ≤ 8) (hT : ∀ a, ∃ ds, en a = .tuple ds) {l : List α} {d : PyData} (hd : d = .list (l.map en) ∨ d = .tuple (l.map en)) (h : l.length < 64) : dLenSet [d] = some (.int (GT.srt en l).length) := by
  rcases hd with rfl | rfl
  · show (if GS.okSet _ = true then some (PyData.int (sortK _).length) else none) = _
    rw [if_pos (t.okSet hk hT h), t.srt_eq, List.length_map]
  · show (if GS.okSet _ = true then some (PyData.int (sortK _).length) else none) = _
    rw [if_pos (t.okSet hk hT h), t.srt_eq, List.length_map]
/-- sorted(l), each item once -/
theorem Ty.dSorted (hk : k ≤ 8) (hT : ∀ a, ∃ ds, en a = .tuple ds) {l : List α} (nd : l.Nodup) (h : l.length < 64) : dSorted [.list (l.map en)] = some ((GT.srt en l).map en) := by
  have ok : okSort (l.map en) = true := by
    have := t.okSet hk hT h
    unfold GS.okSet at this
    unfold GL.okSort
    rw [Bool.and_eq_true, Bool.and_eq_true] at this ⊢
    exact ⟨⟨this.1.1, decide_eq_true (by simp; omega)⟩, this.2⟩
  show (if okSort _ = true then some _ else none) = _
  rw [if_pos ok]
  congr 1
  -- the same through the keys
  have e1 : (l.map en).mergeSort (dataLe false id) = (((l.map fun a => kof (en a))).mergeSort kLe).map NestedKey.data := by
    rw [sort_maps (r := kLe) (s := dataLe false id) NestedKey.data fun a _ b _ => rfl, List.map_map]
    congr 1
    refine List.map_congr_left fun a _ => ?_
    exact ((data_kof _ (t.ni a)).1).symm
  have nk : (l.map fun a => kof (en a)).Nodup := by
    exact List.pairwise_map.mpr (nd.imp fun h e => h (t.kofI e))
  have e2 := t.sorted_uniq (l := l.map fun a => kof (en a)) (m := once ((l.map en).map kof)) (fun κ m => by obtain ⟨a, _, rfl⟩ := List.mem_map.mp m; exact ⟨a, rfl⟩) (fun κ m => by
    obtain ⟨d, md, rfl⟩ := List.mem_map.mp (GS.mem_once.mp m)
    obtain ⟨a, _, rfl⟩ := List.mem_map.mp md
    exact ⟨a, rfl⟩) ((List.perm_ext_iff_of_nodup nk (nodup_once _)).mpr fun κ => by
      rw [GS.mem_once, List.map_map]; rfl)
  rw [e1, e2, ← t.srt_eq]
  rfl
end
end GT

/-! GTb: rules of evaluation for the newer functions; loops and comprehensions over lists of values -/
namespace GL
open PySem PySem.Spec L2
open PyProof.Rows hiding St
section
variable {f f1 f2 f3 : PSt → Rs PyData} {fo fo1 fo2 : PSt → Rs PV} {fa : PSt → Rs (List PyData)} {c c1 c2 : PSt → Rs Bool} {g g1 g2 : PSt → Os} {ps ps1 ps2 ps3 ps4 : PSt} {a b d e : PyData} {p q : PV} {ds es : List PyData} {i j n : Nat} {o : Os}
theorem ev_binO {D : PyData → PyData → Option (List PyData)} (h1 : Ev f1 ps a ps1) (h2 : Ev f2 ps1 b ps2) (h : D a b = some es) : Ev (fBinO D f1 f2) ps (.own (.list es)) ps2 := by unfold Ev at *; unfold fBinO; rw [h1]; dsimp only [Rs.bind]; rw [h2]; dsimp only; rw [h]
theorem dCatL_l {xs ys : List PyData} (h : xs.length + ys.length ≤ 16777216) : dCatL (.list xs) (.list ys) = some (xs ++ ys) := by unfold dCatL; dsimp only; rw [sizeLine_eq, if_pos h]
theorem ev_rep {k : Int} (h1 : Ev fo ps (.own (.list ds)) ps1) (h2 : Ev f2 ps1 (.int k) ps2) (hz : 0 ≤ k ∧ k ≤ 1000 ∧ ds.length ≤ 1000) : Ev (fRep fo f2) ps (.own (.list (List.replicate k.toNat ds).flatten)) ps2 := by
  unfold Ev at *; unfold fRep; rw [h1]; dsimp only [Rs.bind]; rw [h2]; dsimp only; rw [if_pos hz]
theorem ev_rev (h : Ev f ps (.list ds) ps1) : Ev (fRev f) ps (.own (.list ds.reverse)) ps1 := by unfold Ev at *; unfold fRev; rw [h]; rfl
theorem ev_ext {ds0 : List PyData} (h0 : ps[i]? = some (some (.own (.list ds0)))) (h : Ev fo ps (.own (.list es)) ps1) (h1 : ps1[i]? = some (some (.own (.list ds)))) (hz : ds.length + es.length ≤ 16777216) : Ev (fExt i fo) ps .none (ps1.set i (some (.own (.list (ds ++ es))))) := by
  unfold Ev at *; unfold fExt
  have z : slotL i ps = some ds0 := by unfold slotL; rw [h0]
  have z1 : slotL i ps1 = some ds := by unfold slotL; rw [h1]
  rw [z]; dsimp only; rw [h]; dsimp only [Rs.bind]; rw [z1]; dsimp only; rw [sizeLine_eq, if_pos hz]
theorem ev_pop (h : ps[i]? = some (some (.own (.list (ds ++ [d]))))) : Ev (fPop i) ps d (ps.set i (some (.own (.list ds)))) := by
  unfold Ev; unfold fPop
  have z : slotL i ps = some (ds ++ [d]) := by unfold slotL; rw [h]
  have e : dPop (ds ++ [d]) = some (d, ds) := by unfold dPop; simp
  rw [z]; dsimp only; rw [e]
theorem ev_binSS {D : PyData → PyData → Option PyData} (h0 : look i ps = some a) (h1 : look j ps = some b) (h : D a b = some d) : Ev (fBinSS D i j) ps d ps := by unfold Ev at *; unfold fBinSS; rw [h0]; dsimp only; rw [h1]; dsimp only; rw [h]; rfl
theorem ev_methV {DM : List PyData → List PyData → Option (PyData × List PyData)} {as es' ds0 : List PyData} (h0 : ps[i]? = some (some (.own (.list ds0)))) (h : Ev fa ps as ps1) (h1 : ps1[i]? = some (some (.own (.list ds)))) (hd : DM ds as = some (d, es')) : Ev (fMethV i DM fa) ps d (ps1.set i (some (.own (.list es')))) := by
  unfold Ev at *; unfold fMethV
  have z : slotL i ps = some ds0 := by unfold slotL; rw [h0]
  have z1 : slotL i ps1 = some ds := by unfold slotL; rw [h1]
  rw [z]; dsimp only; rw [h]; dsimp only [Rs.bind]; rw [z1]; dsimp only; rw [hd]
theorem es_expr' {ps2 : PSt} (h : Ev f ps d ps1) (e : ps1 = ps2) : Es (fExpr f) ps (.nx ps2) := by subst e; exact es_expr h
theorem forL_ct {u : PyData → PSt → Option PSt} (hu : Et u d ps ps1) (h : Es g ps1 (.ct ps2)) (h2 : forL u g ds ps2 = o) : forL u g (d :: ds) ps = o := by unfold Et Es at *; unfold forL; rw [hu]; dsimp only; rw [h]; exact h2
/-- a loop over values: the state is given by s -/
theorem forL_fold {α σ : Type} {en : α → PyData} {u : PyData → PSt → Option PSt} (st : σ → PSt) (P : σ → Prop) (step : σ → α → σ) : ∀ (l : List α) (s : σ), P s → (∀ s a, P s → a ∈ l → P (step s a) ∧ ∃ p1, Et u (en a) (st s) p1 ∧ Es g p1 (.nx (st (step s a)))) → forL u g (l.map en) (st s) = .nx (st (l.foldl step s)) ∧ P (l.foldl step s)
  | [], s, hP, _ => ⟨rfl, hP⟩
  | a :: l, s, hP, h => by
    obtain ⟨hP', p1, h1, h2⟩ := h s a hP List.mem_cons_self
    obtain ⟨r1, r2⟩ := forL_fold st P step l (step s a) hP' fun s b q m => h s b q (List.mem_cons_of_mem _ m)
    exact ⟨forL_cons h1 h2 r1, r2⟩
/-- a comprehension over values -/
theorem compL_tyA {α β : Type} {en : α → PyData} {en' : β → PyData} {u : PyData → PSt → Option PSt} {fe : PSt → Rs PyData} {vs : List Nat} (kp : α → Bool) (gg : α → β) : ∀ (l : List α) (acc : List PyData), acc.length + l.length ≤ 16777216 →
    (∀ a ∈ l, ∃ p1 p2, Et u (en a) ps p1 ∧ Ev c p1 (kp a) p2 ∧ (kp a = true → ∃ p3, Ev fe p2 (en' (gg a)) p3 ∧ wipeP p3 vs = ps) ∧ (kp a = false → wipeP p2 vs = ps)) → compL u c fe vs (l.map en) ps acc = .ok (acc ++ ((l.filter kp).map gg).map en') ps
  | [], acc, _, _ => by show compL u c fe vs [] ps acc = _; unfold compL; simp
  | a :: l, acc, hz, hh => by
    obtain ⟨p1, p2, h1, h2, h3, h4⟩ := hh a List.mem_cons_self
    simp only [List.length_cons] at hz
    cases q : kp a with
    | true =>
      obtain ⟨p3, h5, h6⟩ := h3 q
      rw [q] at h2
      refine compL_cons h1 h2 h5 (by omega) ?_
      rw [h6, compL_tyA kp gg l (acc ++ [en' (gg a)]) (by simp; omega) fun b m => hh b (List.mem_cons_of_mem _ m), List.filter_cons, if_pos q]
      simp
    | false =>
      rw [q] at h2
      refine compL_skip h1 h2 ?_
      rw [h4 q, compL_tyA kp gg l acc (by omega) fun b m => hh b (List.mem_cons_of_mem _ m), List.filter_cons, if_neg (by rw [q]; decide)]
theorem compL_ty {α β : Type} {en : α → PyData} {en' : β → PyData} {u : PyData → PSt → Option PSt} {fe : PSt → Rs PyData} {vs : List Nat} (kp : α → Bool) (gg : α → β) (l : List α) (hz : l.length ≤ 16777216)
    (hh : ∀ a ∈ l, ∃ p1 p2, Et u (en a) ps p1 ∧ Ev c p1 (kp a) p2 ∧ (kp a = true → ∃ p3, Ev fe p2 (en' (gg a)) p3 ∧ wipeP p3 vs = ps) ∧ (kp a = false → wipeP p2 vs = ps)) : compL u c fe vs (l.map en) ps [] = .ok (((l.filter kp).map gg).map en') ps := by
  have := compL_tyA (en := en) (en' := en') (c := c) kp gg l [] (by simpa using hz) hh
  simpa using this
/-- .. each item itself, if kept -/
theorem compL_keep {α : Type} {en : α → PyData} {u : PyData → PSt → Option PSt} {fe : PSt → Rs PyData} {vs : List Nat} (kp : α → Bool) (l : List α) (hz : l.length ≤ 16777216)
    (hh : ∀ a ∈ l, ∃ p1, Et u (en a) ps p1 ∧ Ev c p1 (kp a) p1 ∧ Ev fe p1 (en a) p1 ∧ wipeP p1 vs = ps) : compL u c fe vs (l.map en) ps [] = .ok ((l.filter kp).map en) ps := by
  have := compL_ty (en := en) (en' := en) (c := c) kp id l hz fun a m => by
    obtain ⟨p1, h1, h2, h3, h4⟩ := hh a m
    exact ⟨p1, p1, h1, h2, fun _ => ⟨p1, h3, h4⟩, fun _ => h4⟩
  simpa using this
/-- .. each item's -/
theorem compL_each {α β : Type} {en : α → PyData} {en' : β → PyData} {u : PyData → PSt → Option PSt} {fe : PSt → Rs PyData} {vs : List Nat} (gg : α → β) (l : List α) (hz : l.length ≤ 16777216)
    (hh : ∀ a ∈ l, ∃ p1, Et u (en a) ps p1 ∧ ∃ p3, Ev fe p1 (en' (gg a)) p3 ∧ wipeP p3 vs = ps) : compL u cYes fe vs (l.map en) ps [] = .ok ((l.map gg).map en') ps := by
  have := compL_ty (en := en) (en' := en') (c := cYes) (fun _ => true) gg l hz fun a m => by
    obtain ⟨p1, h1, p3, h3, h4⟩ := hh a m
    exact ⟨p1, p1, h1, ev_cYes, fun _ => ⟨p3, h3, h4⟩, fun q => by cases q⟩
  rwa [List.filter_eq_self.mpr fun _ _ => rfl] at this
end
end GL

/-! GTc: data of small sizes; tuples for lists, lists for tuples -/
namespace GT
open PySem PySem.Spec L2 GL GS PySem.W
open PyProof.Rows hiding St
mutual
def sz : PyData → Bool
  | .list ds => decide (ds.length ≤ 1000) && szAll ds
  | .tuple ds => decide (ds.length ≤ 1000) && szAll ds
  | .dict _ => false
  | .str x => PyData.canLay0 (.str x)
  | _ => true
def szAll : List PyData → Bool
  | [] => true
  | d :: ds => sz d && szAll ds
end
mutual
def tup : PyData → PyData
  | .list ds => .tuple (tupAll ds)
  | .tuple ds => .tuple (tupAll ds)
  | .none => .none
  | .bool b => .bool b
  | .int i => .int i
  | .str x => .str x
  | .dict x => .dict x
def tupAll : List PyData → List PyData
  | [] => []
  | d :: ds => tup d :: tupAll ds
end
mutual
def lis : PyData → PyData
  | .list ds => .list (lisAll ds)
  | .tuple ds => .list (lisAll ds)
  | .none => .none
  | .bool b => .bool b
  | .int i => .int i
  | .str x => .str x
  | .dict x => .dict x
def lisAll : List PyData → List PyData
  | [] => []
  | d :: ds => lis d :: lisAll ds
end
theorem szAll_mem : ∀ {ds : List PyData}, szAll ds = true → ∀ d ∈ ds, sz d = true
  | [], _, _, m => by cases m
  | e :: ds, h, d, m => by
    have h' : sz e = true ∧ szAll ds = true := by simpa [szAll] using h
    rcases List.mem_cons.mp m with q | q
    · rw [q]; exact h'.1
    · exact szAll_mem h'.2 d q
theorem szAll_of : ∀ {ds : List PyData}, (∀ d ∈ ds, sz d = true) → szAll ds = true
  | [], _ => rfl
  | d :: ds, h => by simp [szAll, h d List.mem_cons_self, szAll_of fun e m => h e (List.mem_cons_of_mem _ m)]
theorem tupAll_map : ∀ ds : List PyData, tupAll ds = ds.map tup
  | [] => rfl
  | d :: ds => by rw [tupAll, tupAll_map ds]; rfl
theorem lisAll_map : ∀ ds : List PyData, lisAll ds = ds.map lis
  | [] => rfl
  | d :: ds => by rw [lisAll, lisAll_map ds]; rfl
theorem depth_mem : ∀ {ds : List PyData} {d : PyData}, d ∈ ds → d.depth ≤ PyData.depthAll ds
  | e :: ds, d, m => by
    simp only [PyData.depthAll]
    rcases List.mem_cons.mp m with q | q
    · rw [q]; exact Nat.le_max_left _ _
    · exact Nat.le_trans (depth_mem q) (Nat.le_max_right _ _)
mutual
theorem tup_ni : ∀ {d : PyData}, GS.ni d = true → tup d = d
  | .int _, _ => rfl
  | .tuple ds, h => by
    have h' : GS.niAll ds = true := by simpa [GS.ni] using h
    rw [tup, tup_niAll h']
  | .none, h => by simp [GS.ni] at h
  | .bool _, h => by simp [GS.ni] at h
  | .str _, h => by simp [GS.ni] at h
  | .list _, h => by simp [GS.ni] at h
  | .dict _, h => by simp [GS.ni] at h
theorem tup_niAll : ∀ {ds : List PyData}, GS.niAll ds = true → tupAll ds = ds
  | [], _ => rfl
  | d :: ds, h => by
    have h' : GS.ni d = true ∧ GS.niAll ds = true := by simpa [GS.niAll] using h
    rw [tupAll, tup_ni h'.1, tup_niAll h'.2]
end
mutual
theorem tup_lis : ∀ {d : PyData}, GS.ni d = true → tup (lis d) = d
  | .int _, _ => rfl
  | .tuple ds, h => by
    have h' : GS.niAll ds = true := by simpa [GS.ni] using h
    rw [lis, tup, tup_lisAll h']
  | .none, h => by simp [GS.ni] at h
  | .bool _, h => by simp [GS.ni] at h
  | .str _, h => by simp [GS.ni] at h
  | .list _, h => by simp [GS.ni] at h
  | .dict _, h => by simp [GS.ni] at h
theorem tup_lisAll : ∀ {ds : List PyData}, GS.niAll ds = true → tupAll (lisAll ds) = ds
  | [], _ => rfl
  | d :: ds, h => by
    have h' : GS.ni d = true ∧ GS.niAll ds = true := by simpa [GS.niAll] using h
    rw [lisAll, tupAll, tup_lis h'.1, tup_lisAll h'.2]
end
mutual
theorem sz_lis : ∀ {d : PyData}, sz d = true → sz (lis d) = true ∧ (lis d).depth = d.depth
  | .int _, _ => ⟨rfl, rfl⟩
  | .none, h => ⟨rfl, rfl⟩
  | .bool _, h => ⟨rfl, rfl⟩
  | .str _, h => ⟨h, rfl⟩
  | .list ds, h => by
    have h' : ds.length ≤ 1000 ∧ szAll ds = true := by simpa [sz] using h
    have q := sz_lisAll h'.2
    simp [lis, sz, PyData.depth, q.1, q.2.1, q.2.2, h'.1]
  | .tuple ds, h => by
    have h' : ds.length ≤ 1000 ∧ szAll ds = true := by simpa [sz] using h
    have q := sz_lisAll h'.2
    simp [lis, sz, PyData.depth, q.1, q.2.1, q.2.2, h'.1]
  | .dict _, h => by simp [sz] at h
theorem sz_lisAll : ∀ {ds : List PyData}, szAll ds = true → szAll (lisAll ds) = true ∧ PyData.depthAll (lisAll ds) = PyData.depthAll ds ∧ (lisAll ds).length = ds.length
  | [], _ => ⟨rfl, rfl, rfl⟩
  | d :: ds, h => by
    have h' : sz d = true ∧ szAll ds = true := by simpa [szAll] using h
    have q := sz_lis h'.1
    have r := sz_lisAll h'.2
    simp [lisAll, szAll, PyData.depthAll, q.1, q.2, r.1, r.2.1, r.2.2]
end
end GT

/-! K1m: lots, as sets: what stands together by going from one to another -/
namespace Lt
open GT
inductive Con {α : Type} (r : α → α → Prop) (S : List α) : α → α → Prop
  | refl (x : α) : Con r S x x
  | step {x y z : α} : Con r S x y → z ∈ S → r y z → Con r S x z
section
variable {α : Type} {r : α → α → Prop} {S T : List α} {x y z : α}
theorem Con.trans (h : Con r S x y) (g : Con r S y z) : Con r S x z := by
  induction g with
  | refl => exact h
  | step _ m k ih => exact .step ih m k
theorem Con.one (h : r x y) (m : y ∈ S) : Con r S x y := .step (.refl _) m h
theorem Con.mem (h : Con r S x y) (m : x ∈ S) : y ∈ S := by
  induction h with
  | refl => exact m
  | step _ m _ _ => exact m
theorem Con.symm (hs : ∀ a b, r a b → r b a) (h : Con r S x y) (m : x ∈ S) : Con r S y x := by
  induction h with
  | refl => exact .refl _
  | step h m' k ih => exact (Con.one (hs _ _ k) (h.mem m)).trans ih
theorem Con.mono {q : α → α → Prop} (hr : ∀ a b, r a b → q a b) (hs : ∀ a ∈ S, a ∈ T) (h : Con r S x y) : Con q T x y := by
  induction h with
  | refl => exact .refl _
  | step h m k ih => exact .step ih (hs _ m) (hr _ _ k)
end
open Classical
section
variable {α : Type} (sp : List α → List α) (sl : List (List α) → List (List α)) (r : α → α → Prop) (S : List α)
noncomputable def cls (x : α) : List α := sp (S.filter fun y => decide (Con r S x y))
noncomputable def lots : List (List α) := sl (S.map (cls sp r S))
end
section
variable {α : Type} {sp : List α → List α} {sl : List (List α) → List (List α)} {r : α → α → Prop} {S T : List α} {x y z : α}
theorem mem_cls (h : Srt sp) : y ∈ cls sp r S x ↔ y ∈ S ∧ Con r S x y := by
  unfold cls
  rw [h.mem, List.mem_filter, decide_eq_true_eq]
theorem mem_lots (h : Srt sl) {l : List α} : l ∈ lots sp sl r S ↔ ∃ x ∈ S, l = cls sp r S x := by
  unfold lots
  rw [h.mem, List.mem_map]
  exact ⟨fun ⟨a, b, c⟩ => ⟨a, b, c.symm⟩, fun ⟨a, b, c⟩ => ⟨a, b, c.symm⟩⟩
theorem cls_eq (h : Srt sp) (hs : ∀ a b, r a b → r b a) (hx : x ∈ S) (c : Con r S x y) : cls sp r S x = cls sp r S y := by
  unfold cls
  refine h.ext _ _ fun z => ?_
  rw [List.mem_filter, List.mem_filter, decide_eq_true_eq, decide_eq_true_eq]
  exact ⟨fun ⟨m, k⟩ => ⟨m, (c.symm hs hx).trans k⟩, fun ⟨m, k⟩ => ⟨m, c.trans k⟩⟩
theorem cls_self (h : Srt sp) (hx : x ∈ S) : x ∈ cls sp r S x := (mem_cls h).mpr ⟨hx, .refl _⟩
theorem srt_cls (h : Srt sp) {lot : List α} (e : ∀ y, y ∈ lot ↔ y ∈ S ∧ Con r S x y) : sp lot = cls sp r S x := by
  unfold cls
  refine h.ext _ _ fun y => ?_
  rw [e y, List.mem_filter, decide_eq_true_eq]
theorem lots_found (hl : Srt sl) {found : List (List α)} (h1 : ∀ l ∈ found, ∃ x ∈ S, l = cls sp r S x) (h2 : ∀ x ∈ S, cls sp r S x ∈ found) : sl found = lots sp sl r S := by
  refine hl.ext _ _ fun l => ?_
  rw [List.mem_map]
  constructor
  · intro m
    obtain ⟨x, hx, e⟩ := h1 l m
    exact ⟨x, hx, e.symm⟩
  · rintro ⟨x, hx, rfl⟩
    exact h2 x hx
/-- lots depend on what stands in the list alone -/
theorem lots_ext (h : Srt sp) (hl : Srt sl) (e : ∀ a, a ∈ S ↔ a ∈ T) : lots sp sl r S = lots sp sl r T := by
  have ce : ∀ x, cls sp r S x = cls sp r T x := fun x => h.ext _ _ fun y => by
    rw [List.mem_filter, List.mem_filter, decide_eq_true_eq, decide_eq_true_eq, e y]
    exact ⟨fun ⟨m, k⟩ => ⟨m, k.mono (fun _ _ q => q) fun a q => (e a).mp q⟩, fun ⟨m, k⟩ => ⟨m, k.mono (fun _ _ q => q) fun a q => (e a).mpr q⟩⟩
  refine hl.ext _ _ fun l => ?_
  rw [List.mem_map, List.mem_map]
  constructor
  · rintro ⟨x, hx, rfl⟩; exact ⟨x, (e x).mp hx, (ce x).symm⟩
  · rintro ⟨x, hx, rfl⟩; exact ⟨x, (e x).mpr hx, ce x⟩
/-! ### growing the lots one by one -/
structure Out (sp : List α → List α) (r : α → α → Prop) (S left : List α) (found : List (List α)) : Prop where
  nd : left.Nodup
  sub : ∀ x ∈ left, x ∈ S
  cl : ∀ x ∈ left, ∀ y ∈ S, Con r S x y → y ∈ left
  fd : ∀ l ∈ found, ∃ x ∈ S, x ∉ left ∧ l = cls sp r S x
  al : ∀ x ∈ S, x ∈ left ∨ cls sp r S x ∈ found
  fnd : found.Nodup
theorem Out.start (h : Srt sp) : Out sp r S (sp S) [] :=
  ⟨h.nd S, fun x m => (h.mem S x).mp m, fun x _ y m _ => (h.mem S y).mpr m, fun _ m => (by cases m), fun x m => .inl ((h.mem S x).mpr m), List.nodup_nil⟩
theorem Out.step {left left' : List α} {found : List (List α)} (h : Srt sp) (hs : ∀ a b, r a b → r b a) (o : Out sp r S left found) (hx : x ∈ left) (nd : left'.Nodup) (e : ∀ y, y ∈ left' ↔ y ∈ left ∧ ¬ Con r S x y) : Out sp r S left' (found ++ [cls sp r S x]) := by
  have xs := o.sub x hx
  refine ⟨nd, fun y m => o.sub y ((e y).mp m).1, fun y m z mz c => (e z).mpr ⟨o.cl y ((e y).mp m).1 z mz c, fun k => ((e y).mp m).2 (k.trans (c.symm hs (o.sub y ((e y).mp m).1)))⟩, fun l m => ?_, fun y m => ?_, ?_⟩
  · rcases List.mem_append.mp m with q | q
    · obtain ⟨a, b, c, d⟩ := o.fd l q
      exact ⟨a, b, fun k => c ((e a).mp k).1, d⟩
    · rw [List.mem_singleton.mp q]
      exact ⟨x, xs, fun k => ((e x).mp k).2 (.refl _), rfl⟩
  · rcases o.al y m with q | q
    · by_cases c : Con r S x y
      · refine .inr (List.mem_append_right _ (List.mem_singleton.mpr ?_))
        exact (cls_eq h hs xs c).symm
      · exact .inl ((e y).mpr ⟨q, c⟩)
    · exact .inr (List.mem_append_left _ q)
  · refine List.nodup_append.mpr ⟨o.fnd, List.nodup_cons.mpr ⟨by simp, List.nodup_nil⟩, fun a ha b hb => ?_⟩
    rw [List.mem_singleton.mp hb]
    rintro rfl
    obtain ⟨y, my, ny, e2⟩ := o.fd _ ha
    have : y ∈ cls sp r S x := by rw [e2]; exact cls_self h my
    exact ny (o.cl x hx y my ((mem_cls h).mp this).2)
theorem Out.fin (hl : Srt sl) {found : List (List α)} (o : Out sp r S [] found) : sl found = lots sp sl r S :=
  lots_found hl (fun l m => by obtain ⟨a, b, _, d⟩ := o.fd l m; exact ⟨a, b, d⟩) fun x m => (o.al x m).resolve_left (by simp)
/-- one lot: a line of those to go on from -/
structure Ino (r : α → α → Prop) (S L0 : List α) (x : α) (lot line left : List α) : Prop where
  all : ∀ y, y ∈ L0 ↔ y ∈ lot ∨ y ∈ line ∨ y ∈ left
  nd : (lot ++ line ++ left).Nodup
  con : ∀ y, y ∈ lot ∨ y ∈ line → Con r S x y
  no : ∀ a ∈ lot, ∀ y ∈ left, ¬ r a y
  be : x ∈ lot ∨ x ∈ line
theorem Ino.start {left : List α} (nd : (x :: left).Nodup) : Ino r S (x :: left) x [] [x] left :=
  ⟨fun y => by simp, by simpa using nd, fun y m => by
    have : y = x := by simpa using m
    rw [this]; exact .refl _, fun a m => (by cases m), by simp⟩
theorem Ino.step {L0 lot line left : List α} {own : α} {kr kn : α → Bool} (i : Ino r S L0 x lot (line ++ [own]) left) (sub : ∀ y ∈ L0, y ∈ S) (hr : ∀ y ∈ left, kr y = true ↔ r own y) (hn : ∀ y, kn y = true ↔ y ∉ line ++ left.filter kr) :
    Ino r S L0 x (lot ++ [own]) (line ++ left.filter kr) (left.filter kn) := by
  have e1 : left.filter kr = left.filter fun y => decide (r own y) := List.filter_congr fun y m => by rw [Bool.eq_iff_iff, hr y m, decide_eq_true_eq]
  have e2 : left.filter kn = left.filter fun y => decide (y ∉ line ++ left.filter fun y => decide (r own y)) := List.filter_congr fun y m => by rw [Bool.eq_iff_iff, hn y, decide_eq_true_eq, e1]
  rw [e2, e1]
  have nd := i.nd
  have dis : ∀ y ∈ left, y ∉ line := fun y m k => by
    have := (List.nodup_append.mp nd).2.2 y (by simp [k]) y m
    exact this rfl
  have oe : own ∈ L0 := (i.all own).mpr (by simp)
  have oc : Con r S x own := i.con own (by simp)
  have key : ∀ y, y ∈ (left.filter fun y => decide (y ∉ line ++ left.filter fun y => decide (r own y))) ↔ y ∈ left ∧ ¬ r own y := fun y => by
    simp only [List.mem_filter, List.mem_append, decide_eq_true_eq, not_or, not_and]
    exact ⟨fun ⟨a, b, c⟩ => ⟨a, c a⟩, fun ⟨a, b⟩ => ⟨a, dis y a, fun _ => b⟩⟩
  have key2 : (left.filter fun y => decide (y ∉ line ++ left.filter fun y => decide (r own y))) = left.filter fun y => !decide (r own y) := by
    refine List.filter_congr fun y m => ?_
    have := dis y m
    simp [this, m]
  refine ⟨fun y => ?_, ?_, fun y m => ?_, fun a m y my => ?_, ?_⟩
  · rw [i.all y, key y]
    simp only [List.mem_append, List.mem_filter, decide_eq_true_eq, List.mem_singleton]
    constructor
    · rintro (h | (h | h) | h)
      · exact .inl (.inl h)
      · exact .inr (.inl (.inl h))
      · exact .inl (.inr h)
      · by_cases q : r own y
        · exact .inr (.inl (.inr ⟨h, q⟩))
        · exact .inr (.inr ⟨h, q⟩)
    · rintro ((h | h) | (h | h) | h)
      · exact .inl h
      · exact .inr (.inl (.inr h))
      · exact .inr (.inl (.inl h))
      · exact .inr (.inr h.1)
      · exact .inr (.inr h.1)
  · rw [key2]
    have p : (lot ++ [own] ++ (line ++ left.filter fun y => decide (r own y)) ++ left.filter fun y => !decide (r own y)).Perm (lot ++ (line ++ [own]) ++ left) := by
      have p1 : ((left.filter fun y => decide (r own y)) ++ left.filter fun y => !decide (r own y)).Perm left := List.filter_append_perm _ left
      simp only [List.append_assoc]
      refine List.Perm.append_left lot ?_
      refine List.Perm.trans (l₂ := line ++ ([own] ++ ((left.filter fun y => decide (r own y)) ++ left.filter fun y => !decide (r own y)))) ?_ ?_
      · have e1 : ∀ a b : List α, (own :: (line ++ (a ++ b))).Perm (line ++ (own :: (a ++ b))) := fun a b => List.perm_middle.symm
        simpa using e1 _ _
      · exact List.Perm.append_left line (List.Perm.append_left [own] p1)
    exact p.nodup_iff.mpr nd
  · rcases m with m | m
    · rcases List.mem_append.mp m with q | q
      · exact i.con y (.inl q)
      · rw [List.mem_singleton.mp q]; exact oc
    · rcases List.mem_append.mp m with q | q
      · exact i.con y (.inr (List.mem_append_left _ q))
      · obtain ⟨q1, q2⟩ := List.mem_filter.mp q
        exact .step oc (sub y ((i.all y).mpr (.inr (.inr q1)))) (of_decide_eq_true q2)
  · obtain ⟨q1, q2⟩ := (key y).mp my
    rcases List.mem_append.mp m with q | q
    · exact i.no a q y q1
    · rw [List.mem_singleton.mp q]; exact q2
  · rcases i.be with q | q
    · exact .inl (List.mem_append_left _ q)
    · rcases List.mem_append.mp q with q | q
      · exact .inr (List.mem_append_left _ q)
      · exact .inl (List.mem_append_right _ q)
theorem Ino.len {L0 lot line left : List α} {own : α} {kr kn : α → Bool} (i : Ino r S L0 x lot (line ++ [own]) left) (hr : ∀ y ∈ left, kr y = true ↔ r own y) (hn : ∀ y, kn y = true ↔ y ∉ line ++ left.filter kr) :
    (line ++ left.filter kr).length + (left.filter kn).length = line.length + left.length := by
  have e1 : left.filter kr = left.filter fun y => decide (r own y) := List.filter_congr fun y m => by rw [Bool.eq_iff_iff, hr y m, decide_eq_true_eq]
  have e2 : left.filter kn = left.filter fun y => decide (y ∉ line ++ left.filter fun y => decide (r own y)) := List.filter_congr fun y m => by rw [Bool.eq_iff_iff, hn y, decide_eq_true_eq, e1]
  rw [e2, e1]
  have nd := i.nd
  have dis : ∀ y ∈ left, y ∉ line := fun y m k => by
    have := (List.nodup_append.mp nd).2.2 y (by simp [k]) y m
    exact this rfl
  have key2 : (left.filter fun y => decide (y ∉ line ++ left.filter fun y => decide (r own y))) = left.filter fun y => !decide (r own y) := by
    refine List.filter_congr fun y m => ?_
    have := dis y m
    simp [this, m]
  rw [key2]
  have p1 : ((left.filter fun y => decide (r own y)) ++ left.filter fun y => !decide (r own y)).Perm left := List.filter_append_perm _ left
  have := p1.length_eq
  simp only [List.length_append] at this ⊢
  omega
/-- at the end of the line -/
theorem Ino.fin {L0 lot left : List α} (i : Ino r S L0 x lot [] left) (sub : ∀ y ∈ L0, y ∈ S) (cl : ∀ y ∈ S, Con r S x y → y ∈ L0) :
    (∀ y, y ∈ lot ↔ y ∈ S ∧ Con r S x y) ∧ (∀ y, y ∈ left ↔ y ∈ L0 ∧ ¬ Con r S x y) ∧ left.Nodup ∧ lot.Nodup := by
  have xl : x ∈ lot := i.be.resolve_right (by simp)
  have grow : ∀ y, Con r S x y → y ∈ lot := fun y c => by
    induction c with
    | refl => exact xl
    | step c m k ih =>
      rename_i a z
      have := (i.all z).mp (cl z m (.step c m k))
      rcases this with q | q | q
      · exact q
      · cases q
      · exact absurd k (i.no a ih z q)
  have nd := i.nd
  rw [List.append_nil] at nd
  have n3 := List.nodup_append.mp nd
  refine ⟨fun y => ⟨fun m => ⟨sub y ((i.all y).mpr (.inl m)), i.con y (.inl m)⟩, fun m => grow y m.2⟩, fun y => ⟨fun m => ⟨(i.all y).mpr (.inr (.inr m)), fun c => n3.2.2 y (grow y c) y m rfl⟩, fun ⟨m, c⟩ => ?_⟩, n3.2.1, n3.1⟩
  rcases (i.all y).mp m with q | q | q
  · exact absurd (i.con y (.inl q)) c
  · cases q
  · exact q
/-- one lot: lap by lap -/
noncomputable def lap (r : α → α → Prop) (left lot : List α) : List α := lot ++ left.filter fun y => decide (y ∉ lot ∧ ∃ f ∈ lot, r y f)
structure Lap (r : α → α → Prop) (S left : List α) (x : α) (k : Nat) (lot : List α) : Prop where
  nd : lot.Nodup
  sub : ∀ y ∈ lot, y ∈ left
  con : ∀ y ∈ lot, Con r S x y
  be : x ∈ lot
  big : k < lot.length ∨ ∀ y ∈ left, (∃ f ∈ lot, r y f) → y ∈ lot
theorem Lap.step' {left lot : List α} {k : Nat} (hs : ∀ a b, r a b → r b a) (nl : left.Nodup) (sb : ∀ y ∈ left, y ∈ S) (l : Lap r S left x k lot) : Lap r S left x (k + 1) (lap r left lot) := by
  refine ⟨?_, fun y m => ?_, fun y m => ?_, List.mem_append_left _ l.be, ?_⟩
  · refine List.nodup_append.mpr ⟨l.nd, nl.filter _, fun a ha b hb => ?_⟩
    rintro rfl
    have := (of_decide_eq_true (List.mem_filter.mp hb).2).1
    exact this ha
  · rcases List.mem_append.mp m with q | q
    · exact l.sub y q
    · exact (List.mem_filter.mp q).1
  · rcases List.mem_append.mp m with q | q
    · exact l.con y q
    · obtain ⟨q1, q2⟩ := List.mem_filter.mp q
      obtain ⟨_, f, hf, hr⟩ := of_decide_eq_true q2
      exact .step (l.con f hf) (sb y q1) (hs _ _ hr)
  · by_cases e : (left.filter fun y => decide (y ∉ lot ∧ ∃ f ∈ lot, r y f)) = []
    · refine .inr fun y m => ?_
      unfold lap
      rw [e, List.append_nil]
      intro h
      by_cases q : y ∈ lot
      · exact q
      · have : y ∈ left.filter fun y => decide (y ∉ lot ∧ ∃ f ∈ lot, r y f) := List.mem_filter.mpr ⟨m, decide_eq_true ⟨q, h⟩⟩
        rw [e] at this; cases this
    · rcases l.big with b | b
      · refine .inl ?_
        have := List.length_pos_iff.mpr e
        unfold lap
        rw [List.length_append]; omega
      · exfalso
        obtain ⟨y, hy⟩ := List.exists_mem_of_ne_nil _ e
        obtain ⟨q1, q2⟩ := List.mem_filter.mp hy
        obtain ⟨n, h⟩ := of_decide_eq_true q2
        exact n (b y q1 h)
theorem Lap.start {left : List α} (m : x ∈ left) : Lap r S left x 0 [x] :=
  ⟨by simp, fun y h => by rw [List.mem_singleton.mp h]; exact m, fun y h => by rw [List.mem_singleton.mp h]; exact .refl _, by simp, .inl (by simp)⟩
theorem Lap.step {left lot : List α} {k : Nat} {kl : α → Bool} (hs : ∀ a b, r a b → r b a) (nl : left.Nodup) (sb : ∀ y ∈ left, y ∈ S) (l : Lap r S left x k lot) (hk : ∀ y ∈ left, kl y = true ↔ y ∉ lot ∧ ∃ f ∈ lot, r y f) : Lap r S left x (k + 1) (lot ++ left.filter kl) := by
  have e1 : left.filter kl = left.filter fun y => decide (y ∉ lot ∧ ∃ f ∈ lot, r y f) := List.filter_congr fun y m => by rw [Bool.eq_iff_iff, hk y m, decide_eq_true_eq]
  rw [e1]
  exact l.step' hs nl sb
theorem sub_length : ∀ {l m : List α}, l.Nodup → (∀ y ∈ l, y ∈ m) → l.length ≤ m.length
  | [], _, _, _ => Nat.zero_le _
  | a :: l, m, nd, h => by
    obtain ⟨n1, n2⟩ := List.nodup_cons.mp nd
    have ha := h a List.mem_cons_self
    have := sub_length (m := m.erase a) n2 fun y my => (List.mem_erase_of_ne (by rintro rfl; exact n1 my)).mpr (h y (List.mem_cons_of_mem _ my))
    rw [List.length_erase_of_mem ha] at this
    have := List.length_pos_of_mem ha
    simp only [List.length_cons]; omega
theorem Lap.fin {left lot : List α} {k : Nat} (hs : ∀ a b, r a b → r b a) (sb : ∀ y ∈ left, y ∈ S) (cl : ∀ y ∈ S, Con r S x y → y ∈ left) (l : Lap r S left x k lot) (hk : left.length ≤ k) : ∀ y, y ∈ lot ↔ y ∈ S ∧ Con r S x y := by
  have cl' : ∀ y ∈ left, (∃ f ∈ lot, r y f) → y ∈ lot := by
    rcases l.big with b | b
    · have := sub_length l.nd l.sub
      omega
    · exact b
  have grow : ∀ y, Con r S x y → y ∈ lot := fun y c => by
    induction c with
    | refl => exact l.be
    | step c m' q ih => exact cl' _ (cl _ m' (.step c m' q)) ⟨_, ih, hs _ _ q⟩
  exact fun y => ⟨fun m => ⟨sb y (l.sub y m), l.con y m⟩, fun m => grow y m.2⟩
/-! ### what the law asks -/
theorem lots_mono {q : α → α → Prop} (h : Srt sp) (hl : Srt sl) (hr : ∀ a b, r a b → q a b) {l : List α} (hm : l ∈ lots sp sl r S) : ∃ m ∈ lots sp sl q S, ∀ a ∈ l, a ∈ m := by
  obtain ⟨x, hx, rfl⟩ := (mem_lots hl).mp hm
  refine ⟨_, (mem_lots hl).mpr ⟨x, hx, rfl⟩, fun a ha => ?_⟩
  obtain ⟨m, c⟩ := (mem_cls h).mp ha
  exact (mem_cls h).mpr ⟨m, c.mono hr fun _ k => k⟩
theorem Con.map {f : α → α} (hf : ∀ a b, r a b → r (f a) (f b)) (c : Con r S x y) : Con r (S.map f) (f x) (f y) := by
  induction c with
  | refl => exact .refl _
  | step c m k ih => exact .step ih (List.mem_map_of_mem m) (hf _ _ k)
theorem Con.unmap {f : α → α} (hi : ∀ a b, f a = f b → a = b) (hf : ∀ a b, r (f a) (f b) → r a b) {u : α} (c : Con r (S.map f) (f x) u) (hx : x ∈ S) : ∃ y ∈ S, u = f y ∧ Con r S x y := by
  induction c with
  | refl => exact ⟨x, hx, rfl, .refl _⟩
  | step c m k ih =>
    obtain ⟨y, hy, rfl, cy⟩ := ih
    obtain ⟨z, hz, rfl⟩ := List.mem_map.mp m
    exact ⟨z, hz, rfl, .step cy hz (hf _ _ k)⟩
theorem lots_map {f : α → α} (h : Srt sp) (hl : Srt sl) (hi : ∀ a b, f a = f b → a = b) (hf : ∀ a b, r (f a) (f b) ↔ r a b) : lots sp sl r (S.map f) = sl ((lots sp sl r S).map fun l => sp (l.map f)) := by
  have ce : ∀ x ∈ S, cls sp r (S.map f) (f x) = sp ((cls sp r S x).map f) := fun x hx => by
    refine h.ext _ _ fun u => ?_
    rw [List.mem_filter, decide_eq_true_eq]
    refine Iff.trans ?_ List.mem_map.symm
    constructor
    · rintro ⟨m, c⟩
      obtain ⟨y, hy, rfl, cy⟩ := c.unmap hi (fun a b => (hf a b).mp) hx
      exact ⟨y, (mem_cls h).mpr ⟨hy, cy⟩, rfl⟩
    · rintro ⟨y, hy, rfl⟩
      obtain ⟨m, c⟩ := (mem_cls h).mp hy
      exact ⟨List.mem_map_of_mem m, c.map fun a b => (hf a b).mpr⟩
  refine hl.ext _ _ fun l => ?_
  rw [List.mem_map, List.mem_map]
  constructor
  · rintro ⟨u, hu, rfl⟩
    obtain ⟨x, hx, rfl⟩ := List.mem_map.mp hu
    exact ⟨_, (mem_lots hl).mpr ⟨x, hx, rfl⟩, (ce x hx).symm⟩
  · rintro ⟨m, hm, rfl⟩
    obtain ⟨x, hx, rfl⟩ := (mem_lots hl).mp hm
    exact ⟨f x, List.mem_map_of_mem hx, ce x hx⟩
theorem lots_join {n : α} (h : Srt sp) (hl : Srt sl) (hs : ∀ a b, r a b → r b a) (hn : r n n) {J L : List (List α)} {Fl : List α}
    (hJ : ∀ l, l ∈ J ↔ l ∈ lots sp sl r S ∧ ∃ a ∈ l, r a n) (hF : ∀ a, a ∈ Fl ↔ a = n ∨ ∃ l ∈ J, a ∈ l) (hL : ∀ l, l ∈ L ↔ (l ∈ lots sp sl r S ∧ l ∉ J) ∨ l = sp Fl) : sl L = lots sp sl r (S ++ [n]) := by
  have mS : ∀ {a}, a ∈ S ++ [n] ↔ a ∈ S ∨ a = n := by simp
  -- what is joined is what can be come to from n
  have f1 : ∀ a, Con r (S ++ [n]) n a → a ∈ Fl := fun a c => by
    induction c with
    | refl => exact (hF n).mpr (.inl rfl)
    | step c m k ih =>
      rename_i y z
      rcases mS.mp m with zS | e
      · rcases (hF y).mp ih with e | ⟨l, lJ, yl⟩
        · subst e
          exact (hF z).mpr (.inr ⟨_, (hJ _).mpr ⟨(mem_lots hl).mpr ⟨z, zS, rfl⟩, z, cls_self h zS, hs _ _ k⟩, cls_self h zS⟩)
        · obtain ⟨x, xS, rfl⟩ := (mem_lots hl).mp ((hJ l).mp lJ).1
          obtain ⟨yS, cy⟩ := (mem_cls h).mp yl
          exact (hF z).mpr (.inr ⟨_, lJ, (mem_cls h).mpr ⟨zS, .step cy zS k⟩⟩)
      · subst e; exact (hF _).mpr (.inl rfl)
  have up : ∀ {a b}, Con r S a b → Con r (S ++ [n]) a b := fun c => c.mono (fun _ _ k => k) fun _ k => List.mem_append_left _ k
  have f2 : ∀ a, a ∈ Fl → (a ∈ S ++ [n] ∧ Con r (S ++ [n]) n a) := fun a m => by
    rcases (hF a).mp m with e | ⟨l, lJ, al⟩
    · subst e; exact ⟨by simp, .refl _⟩
    · obtain ⟨lL, b, bl, k⟩ := (hJ l).mp lJ
      obtain ⟨x, xS, rfl⟩ := (mem_lots hl).mp lL
      obtain ⟨bS, cb⟩ := (mem_cls h).mp bl
      obtain ⟨aS, ca⟩ := (mem_cls h).mp al
      refine ⟨List.mem_append_left _ aS, (Con.one (hs _ _ k) (List.mem_append_left _ bS)).trans (up ((cb.symm hs xS).trans ca))⟩
  have eF : sp Fl = cls sp r (S ++ [n]) n := h.ext _ _ fun a => by
    rw [List.mem_filter, decide_eq_true_eq]
    exact ⟨f2 a, fun m => f1 a m.2⟩
  -- the others stay
  have far : ∀ x ∈ S, cls sp r S x ∉ J → cls sp r (S ++ [n]) x = cls sp r S x := fun x xS nJ => by
    have no : ∀ a, Con r (S ++ [n]) x a → a ∈ S ∧ Con r S x a := fun a c => by
      induction c with
      | refl => exact ⟨xS, .refl _⟩
      | step c m k ih =>
        rename_i y z
        rcases mS.mp m with zS | e
        · exact ⟨zS, .step ih.2 zS k⟩
        · subst e
          exact absurd ((hJ _).mpr ⟨(mem_lots hl).mpr ⟨x, xS, rfl⟩, y, (mem_cls h).mpr ih, k⟩) nJ
    refine h.ext _ _ fun a => ?_
    rw [List.mem_filter, List.mem_filter, decide_eq_true_eq, decide_eq_true_eq]
    exact ⟨fun m => no a m.2, fun m => ⟨List.mem_append_left _ m.1, up m.2⟩⟩
  refine lots_found hl (fun l m => ?_) fun x m => ?_
  · rcases (hL l).mp m with ⟨q, k⟩ | q
    · obtain ⟨x, xS, rfl⟩ := (mem_lots hl).mp q
      exact ⟨x, List.mem_append_left _ xS, (far x xS k).symm⟩
    · exact ⟨n, by simp, q.trans eF⟩
  · by_cases c : Con r (S ++ [n]) n x
    · have : cls sp r (S ++ [n]) x = sp Fl := by rw [eF]; exact (cls_eq h hs (by simp) c).symm
      exact (hL _).mpr (.inr this)
    · have xS : x ∈ S := by
        rcases mS.mp m with q | q
        · exact q
        · subst q; exact absurd (.refl _) c
      have nJ : cls sp r S x ∉ J := fun k => c (f2 x ((hF x).mpr (.inr ⟨_, k, cls_self h xS⟩))).2
      rw [far x xS nJ]
      exact (hL _).mpr (.inl ⟨(mem_lots hl).mpr ⟨x, xS, rfl⟩, nJ⟩)
theorem lots_one (h : Srt sp) (hl : Srt sl) (hne : S ≠ []) (hr : ∀ a ∈ S, ∀ b ∈ S, r a b) : (lots sp sl r S).length = 1 := by
  obtain ⟨x, hx⟩ := List.exists_mem_of_ne_nil _ hne
  have e : ∀ y ∈ S, cls sp r S y = cls sp r S x := fun y hy => h.ext _ _ fun z => by
    rw [List.mem_filter, List.mem_filter, decide_eq_true_eq, decide_eq_true_eq]
    exact ⟨fun m => ⟨m.1, .one (hr _ hx _ m.1) m.1⟩, fun m => ⟨m.1, .one (hr _ hy _ m.1) m.1⟩⟩
  have : lots sp sl r S = sl [cls sp r S x] := hl.ext _ _ fun l => by
    rw [List.mem_map, List.mem_singleton]
    exact ⟨fun ⟨y, hy, q⟩ => q ▸ e y hy, fun q => ⟨x, hx, q.symm⟩⟩
  rw [this]
  have n1 := hl.nd [cls sp r S x]
  have m1 := fun l => hl.mem [cls sp r S x] l
  generalize sl [cls sp r S x] = L at n1 m1
  match L, n1, m1 with
  | [], _, m1 => exact absurd ((m1 _).mpr (List.mem_singleton.mpr rfl)) (by simp)
  | [_], _, _ => rfl
  | a :: b :: L, n1, m1 =>
    have ea := List.mem_singleton.mp ((m1 a).mp (by simp))
    have eb := List.mem_singleton.mp ((m1 b).mp (by simp))
    rw [ea, eb] at n1
    simp at n1
end
end Lt

namespace TT
open PySem PySem.Spec L2 GL
open PyProof.Rows hiding St
def top (i : Nat) : Stmt := PySem.Challenge.pw_copysheets_k01_main_lots_of_near_pieces.main.body.getD i (.Pass ⟨0, 0, 0, 0⟩)
structure Ex (K : PySem.W.Frag) (mg : Str → Option Value) (x : Str) (C : Addr) : Prop where
  g : mg x = some (.ref C)
  x : PySem.W.excIn K C He.veBase "ValueError.__new__" = true
  k : PySem.W.keepIn K (.ref C) = true
  s : PySem.W.subIn K (.ref C) (.type "BaseException") = some true
  t : PySem.W.typeIn K (.ref C) = some (.type "type")
  m : PySem.W.exmOne K (.ref C) (.ref C) = some true
structure Hy (K : PySem.W.Frag) (mg : Str → Option Value) (C_Unfit : Addr) : Prop where
  n_abs : mg "abs" = none
  n_all : mg "all" = none
  n_bool : mg "bool" = none
  n_enumerate : mg "enumerate" = none
  n_int : mg "int" = none
  n_isinstance : mg "isinstance" = none
  n_len : mg "len" = none
  n_list : mg "list" = none
  n_max : mg "max" = none
  n_range : mg "range" = none
  n_set : mg "set" = none
  n_sorted : mg "sorted" = none
  n_str : mg "str" = none
  n_sum : mg "sum" = none
  n_tuple : mg "tuple" = none
  n_zip : mg "zip" = none
  c_SIGNS : ∃ t, mg "SIGNS" = some (.int 10 t)
  e_Unfit : Ex K mg "Unfit" C_Unfit
/-! is_number -/
abbrev s_is_number : Stmt := top 3
theorem sc_is_number : FnScope ["thing"] ["thing"] (defScope s_is_number) := ⟨rfl, rfl, rfl, by decide +kernel, rfl, by decide +kernel, by decide +kernel⟩
noncomputable def b_is_number : PSt → Os :=
  (fRet (fun ps => ((fAndV (fIsi (isaD "int") (fN 0)) (fNotV (fIsi (isaD "bool") (fN 0)))) ps).map PV.val))
noncomputable def M_is_number : List PyData → FR := fun ds => (b_is_number (startP 1 ds)).fin
theorem bd_is_number {K : PySem.W.Frag} {f : Addr} {fd : FuncData} (Fn : FunD K "is_number" "is_number" (defArgs s_is_number) (defBody s_is_number) (defScope s_is_number) [] [] f fd) : Binds K fd ["thing"] [] := Fn.bindsN fun _ _ _ _ _ _ us hl => match us, hl with | [_], _ => rfl
theorem ok_is_number {P : Program} {w : World} {K : PySem.W.Frag} {mg : Str → Option Value} {base : Heap} {f : Addr} {fd : FuncData} {C_Unfit : Addr} (Fn : FunD K "is_number" "is_number" (defArgs s_is_number) (defBody s_is_number) (defScope s_is_number) [] [] f fd) (hy : Hy K mg C_Unfit) (gf : mg "is_number" = some (.ref f)) : GFn P w K mg base "is_number" 1 1 M_is_number := by
  refine GFn.of_body (k := 0) (n := 1) (N := ["thing"]) (ps := ["thing"]) Fn gf (bd_is_number Fn) sc_is_number rfl (g := b_is_number) fun cdv A outer s H E hr => ?_
  have nd := sc_is_number.nd
  exact (gss_one (gs_ret (go_of (gv_and (gv_isi (tn := "int") (gv_name 0) rfl hy.n_isinstance rfl hy.n_int (by decide +kernel)) (gv_one (gv_not (gv_isi (tn := "bool") (gv_name 0) rfl hy.n_isinstance rfl hy.n_bool (by decide +kernel))))))))
/-! tuple_of -/
abbrev s_tuple_of : Stmt := top 4
theorem sc_tuple_of : FnScope ["thing", "part"] ["thing"] (defScope s_tuple_of) := ⟨rfl, rfl, rfl, by decide +kernel, rfl, by decide +kernel, by decide +kernel⟩
noncomputable def b_tuple_of (M : List PyData → FR) : PSt → Os :=
  (fSeq (fIfS (fTest (fIsi (isa2 "list" "tuple") (fN 0))) (fRet (fun ps => ((fApp dTuple (fCons (fun ps => ((fLc (fSeqI (fN 0)) (uN 1) cYes (fun ps => ((fCall 1 M (fCons (fN 1) (fun ps => .ok [] ps))) ps).map PV.data) [1]) ps).map PV.data) (fun ps => .ok [] ps))) ps).map PV.val)) fSkip)
  (fRet (fMv 0)))
noncomputable def R_tuple_of : Nat → List PyData → FR
  | 0 => fun _ => .bad
  | k + 1 => fun ds => (b_tuple_of (R_tuple_of k) (startP 2 ds)).fin
noncomputable def M_tuple_of : List PyData → FR := R_tuple_of 40
theorem bd_tuple_of {K : PySem.W.Frag} {f : Addr} {fd : FuncData} (Fn : FunD K "tuple_of" "tuple_of" (defArgs s_tuple_of) (defBody s_tuple_of) (defScope s_tuple_of) [] [] f fd) : Binds K fd ["thing"] [] := Fn.bindsN fun _ _ _ _ _ _ us hl => match us, hl with | [_], _ => rfl
theorem okR_tuple_of {P : Program} {w : World} {K : PySem.W.Frag} {mg : Str → Option Value} {base : Heap} {f : Addr} {fd : FuncData} {C_Unfit : Addr} (Fn : FunD K "tuple_of" "tuple_of" (defArgs s_tuple_of) (defBody s_tuple_of) (defScope s_tuple_of) [] [] f fd) (hy : Hy K mg C_Unfit) (gf : mg "tuple_of" = some (.ref f)) : ∀ j, GFn P w K mg base "tuple_of" (j + 0) 1 (R_tuple_of j)
  | 0 => GFn.zero (ps := ["thing"]) rfl gf Fn.kp (bd_tuple_of Fn)
  | j + 1 => by
    have G_tuple_of := okR_tuple_of (P := P) (w := w) (base := base) Fn hy gf j
    refine GFn.mono (k := j + 0 + 1) (M := fun ds => (b_tuple_of (R_tuple_of j) (startP 2 ds)).fin) ?_ (by omega) fun ds => .inr rfl
    refine GFn.of_body (k := j + 0) (n := 1) (N := ["thing", "part"]) (ps := ["thing"]) Fn gf (bd_tuple_of Fn) sc_tuple_of rfl (g := b_tuple_of (R_tuple_of j)) fun cdv A outer s H E hr => ?_
    have nd := sc_tuple_of.nd
    exact (gss_cons (gs_if (gt_val (gv_isi2 (tn := "list") (tn2 := "tuple") (gv_name 0) rfl hy.n_isinstance rfl hy.n_list (by decide +kernel) rfl hy.n_tuple (by decide +kernel))) (gss_one (gs_ret (go_of (gv_callTy call_tuple_of (tuple_ok) rfl hy.n_tuple (by decide +kernel) (ga_cons (gv_of (go_lc [("part", 1)] rfl nd (gi_seq (gv_name 0)) (blkOk_by (N := ["thing", "part"]) (sc := defScope s_tuple_of) (own := [("part", 1)]) (by decide +kernel)) (fun _ _ _ _ _ => (gg_name 1 nd)) (fun _ _ _ _ _ => gts_nil) (fun _ _ _ _ _ => (gv_of (go_call G_tuple_of hr rfl takes0 (ga_cons (gv_name 1) ga_nil)))))) ga_nil))))) gss_nil)
    (gss_one (gs_ret (go_move 0))))
theorem ok_tuple_of {P : Program} {w : World} {K : PySem.W.Frag} {mg : Str → Option Value} {base : Heap} {f : Addr} {fd : FuncData} {C_Unfit : Addr} (Fn : FunD K "tuple_of" "tuple_of" (defArgs s_tuple_of) (defBody s_tuple_of) (defScope s_tuple_of) [] [] f fd) (hy : Hy K mg C_Unfit) (gf : mg "tuple_of" = some (.ref f)) : GFn P w K mg base "tuple_of" 40 1 M_tuple_of := okR_tuple_of Fn hy gf 40
/-! is_tuple_of -/
abbrev s_is_tuple_of : Stmt := top 5
theorem sc_is_tuple_of : FnScope ["thing", "many"] ["thing", "many"] (defScope s_is_tuple_of) := ⟨rfl, rfl, rfl, by decide +kernel, rfl, by decide +kernel, by decide +kernel⟩
noncomputable def b_is_tuple_of : PSt → Os :=
  (fRet (fun ps => ((fAndV (fIsi (isaD "tuple") (fN 0)) (fBin dEq (fLenS 0) (fN 1))) ps).map PV.val))
noncomputable def M_is_tuple_of : List PyData → FR := fun ds => (b_is_tuple_of (startP 2 ds)).fin
theorem bd_is_tuple_of {K : PySem.W.Frag} {f : Addr} {fd : FuncData} (Fn : FunD K "is_tuple_of" "is_tuple_of" (defArgs s_is_tuple_of) (defBody s_is_tuple_of) (defScope s_is_tuple_of) [] [] f fd) : Binds K fd ["thing", "many"] [] := Fn.bindsN fun _ _ _ _ _ _ us hl => match us, hl with | [_, _], _ => rfl
theorem ok_is_tuple_of {P : Program} {w : World} {K : PySem.W.Frag} {mg : Str → Option Value} {base : Heap} {f : Addr} {fd : FuncData} {C_Unfit : Addr} (Fn : FunD K "is_tuple_of" "is_tuple_of" (defArgs s_is_tuple_of) (defBody s_is_tuple_of) (defScope s_is_tuple_of) [] [] f fd) (hy : Hy K mg C_Unfit) (gf : mg "is_tuple_of" = some (.ref f)) : GFn P w K mg base "is_tuple_of" 1 2 M_is_tuple_of := by
  refine GFn.of_body (k := 0) (n := 2) (N := ["thing", "many"]) (ps := ["thing", "many"]) Fn gf (bd_is_tuple_of Fn) sc_is_tuple_of rfl (g := b_is_tuple_of) fun cdv A outer s H E hr => ?_
  have nd := sc_is_tuple_of.nd
  exact (gss_one (gs_ret (go_of (gv_and (gv_isi (tn := "tuple") (gv_name 0) rfl hy.n_isinstance rfl hy.n_tuple (by decide +kernel)) (gv_one (gv_cmp (op_eqD hr.units) eq_ok (gv_lenS 0 rfl hy.n_len) (gv_name 1)))))))
/-! is_within -/
abbrev s_is_within : Stmt := top 6
theorem sc_is_within : FnScope ["thing", "least", "most"] ["thing", "least", "most"] (defScope s_is_within) := ⟨rfl, rfl, rfl, by decide +kernel, rfl, by decide +kernel, by decide +kernel⟩
noncomputable def b_is_within : PSt → Os :=
  (fRet (fun ps => ((fAndV (fun ps => ((fCall 1 M_is_number (fCons (fN 0) (fun ps => .ok [] ps))) ps).map PV.data) (fChain dLe dLe (fN 1) (fN 0) (fN 2))) ps).map PV.val))
noncomputable def M_is_within : List PyData → FR := fun ds => (b_is_within (startP 3 ds)).fin
theorem bd_is_within {K : PySem.W.Frag} {f : Addr} {fd : FuncData} (Fn : FunD K "is_within" "is_within" (defArgs s_is_within) (defBody s_is_within) (defScope s_is_within) [] [] f fd) : Binds K fd ["thing", "least", "most"] [] := Fn.bindsN fun _ _ _ _ _ _ us hl => match us, hl with | [_, _, _], _ => rfl
theorem ok_is_within {P : Program} {w : World} {K : PySem.W.Frag} {mg : Str → Option Value} {base : Heap} {f : Addr} {fd : FuncData} {C_Unfit : Addr} (Fn : FunD K "is_within" "is_within" (defArgs s_is_within) (defBody s_is_within) (defScope s_is_within) [] [] f fd) (hy : Hy K mg C_Unfit) (gf : mg "is_within" = some (.ref f)) (G_is_number : GFn P w K mg base "is_number" 1 1 M_is_number) : GFn P w K mg base "is_within" 2 3 M_is_within := by
  refine GFn.of_body (k := 1) (n := 3) (N := ["thing", "least", "most"]) (ps := ["thing", "least", "most"]) Fn gf (bd_is_within Fn) sc_is_within rfl (g := b_is_within) fun cdv A outer s H E hr => ?_
  have nd := sc_is_within.nd
  exact (gss_one (gs_ret (go_of (gv_and (gv_of (go_call G_is_number (hr.mono (by decide)) rfl (takes_of rfl rfl rfl rfl) (ga_cons (gv_name 0) ga_nil))) (gv_one (gv_chain op_le op_le le_ok le_ok (gv_name 1) (gv_name 0) (gv_name 2)))))))
/-! sure -/
abbrev s_sure : Stmt := top 7
theorem sc_sure : FnScope ["good"] ["good"] (defScope s_sure) := ⟨rfl, rfl, rfl, by decide +kernel, rfl, by decide +kernel, by decide +kernel⟩
noncomputable def b_sure : PSt → Os :=
  (fIfS (fNot (fTest (fN 0))) (fun ps => .exc ⟨"Unfit", none⟩ ps) fSkip)
noncomputable def M_sure : List PyData → FR := fun ds => (b_sure (startP 1 ds)).fin
theorem bd_sure {K : PySem.W.Frag} {f : Addr} {fd : FuncData} (Fn : FunD K "sure" "sure" (defArgs s_sure) (defBody s_sure) (defScope s_sure) [] [] f fd) : Binds K fd ["good"] [] := Fn.bindsN fun _ _ _ _ _ _ us hl => match us, hl with | [_], _ => rfl
theorem ok_sure {P : Program} {w : World} {K : PySem.W.Frag} {mg : Str → Option Value} {base : Heap} {f : Addr} {fd : FuncData} {C_Unfit : Addr} (Fn : FunD K "sure" "sure" (defArgs s_sure) (defBody s_sure) (defScope s_sure) [] [] f fd) (hy : Hy K mg C_Unfit) (gf : mg "sure" = some (.ref f)) : GFn P w K mg base "sure" 1 1 M_sure := by
  refine GFn.of_body (k := 0) (n := 1) (N := ["good"]) (ps := ["good"]) Fn gf (bd_sure Fn) sc_sure rfl (g := b_sure) fun cdv A outer s H E hr => ?_
  have nd := sc_sure.nd
  exact (gss_one (gs_if (gt_not (gt_val (gv_name 0))) (gss_one (gs_raise0 hy.e_Unfit.g rfl (takes_of rfl rfl rfl rfl) (pmk_own0 PySem.F.excBase_ValueError hy.e_Unfit.x hy.e_Unfit.g hy.e_Unfit.k (raises_own hy.e_Unfit.s hy.e_Unfit.t) rfl))) gss_nil))
/-! is_piece -/
abbrev s_is_piece : Stmt := top 10
theorem sc_is_piece : FnScope ["thing", "own"] ["thing"] (defScope s_is_piece) := ⟨rfl, rfl, rfl, by decide +kernel, rfl, by decide +kernel, by decide +kernel⟩
noncomputable def b_is_piece : PSt → Os :=
  (fRet (fun ps => ((fAndV (fIsi (isaD "tuple") (fN 0)) (fApp dAll (fCons (fun ps => ((fLc (fSeqI (fN 0)) (uN 1) cYes (fun ps => ((fCall 3 M_is_within (fCons (fN 1) (fCons (fK (.int 0)) (fCons (fBin dSub (fK (.int 10)) (fK (.int 1))) (fun ps => .ok [] ps))))) ps).map PV.data) [1]) ps).map PV.data) (fun ps => .ok [] ps)))) ps).map PV.val))
noncomputable def M_is_piece : List PyData → FR := fun ds => (b_is_piece (startP 2 ds)).fin
theorem bd_is_piece {K : PySem.W.Frag} {f : Addr} {fd : FuncData} (Fn : FunD K "is_piece" "is_piece" (defArgs s_is_piece) (defBody s_is_piece) (defScope s_is_piece) [] [] f fd) : Binds K fd ["thing"] [] := Fn.bindsN fun _ _ _ _ _ _ us hl => match us, hl with | [_], _ => rfl
theorem ok_is_piece {P : Program} {w : World} {K : PySem.W.Frag} {mg : Str → Option Value} {base : Heap} {f : Addr} {fd : FuncData} {C_Unfit : Addr} (Fn : FunD K "is_piece" "is_piece" (defArgs s_is_piece) (defBody s_is_piece) (defScope s_is_piece) [] [] f fd) (hy : Hy K mg C_Unfit) (gf : mg "is_piece" = some (.ref f)) (G_is_within : GFn P w K mg base "is_within" 2 3 M_is_within) : GFn P w K mg base "is_piece" 3 1 M_is_piece := by
  refine GFn.of_body (k := 2) (n := 1) (N := ["thing", "own"]) (ps := ["thing"]) Fn gf (bd_is_piece Fn) sc_is_piece rfl (g := b_is_piece) fun cdv A outer s H E hr => ?_
  have nd := sc_is_piece.nd
  exact (gss_one (gs_ret (go_of (gv_and (gv_isi (tn := "tuple") (gv_name 0) rfl hy.n_isinstance rfl hy.n_tuple (by decide +kernel)) (gv_one (gv_callB (cr_all rfl) all_ok rfl hy.n_all (by decide +kernel) (ga_cons (gv_of (go_lc [("own", 1)] rfl nd (gi_seq (gv_name 0)) (blkOk_by (N := ["thing", "own"]) (sc := defScope s_is_piece) (own := [("own", 1)]) (by decide +kernel)) (fun _ _ _ _ _ => (gg_name 1 nd)) (fun _ _ _ _ _ => gts_nil) (fun _ _ _ _ _ => (gv_of (go_call G_is_within (hr.mono (by decide)) rfl takes0 (ga_cons (gv_name 1) (ga_cons gv_int (ga_cons (gv_bin op_sub sub_ok (gv_gint rfl hy.c_SIGNS.choose_spec) gv_int) ga_nil)))))))) ga_nil)))))))
/-! is_lag -/
abbrev s_is_lag : Stmt := top 11
theorem sc_is_lag : FnScope ["thing"] ["thing"] (defScope s_is_lag) := ⟨rfl, rfl, rfl, by decide +kernel, rfl, by decide +kernel, by decide +kernel⟩
noncomputable def b_is_lag : PSt → Os :=
  (fSeq (fIfS (fOr (fNot (fTest (fun ps => ((fCall 2 M_is_tuple_of (fCons (fN 0) (fCons (fK (.int 2)) (fun ps => .ok [] ps)))) ps).map PV.data))) (fOr (fNot (fTest (fun ps => ((fCall 1 M_is_piece (fCons (fIxS 0 (fK (.int 0))) (fun ps => .ok [] ps))) ps).map PV.data))) (fNot (fTest (fun ps => ((fCall 1 M_is_piece (fCons (fIxS 0 (fK (.int 1))) (fun ps => .ok [] ps))) ps).map PV.data))))) (fRet (fun ps => ((fK (.bool false)) ps).map PV.val)) fSkip)
  (fRet (fun ps => ((fOrV (fBin dEq (fIxS 0 (fK (.int 0))) (fTup (fun ps => .ok [] ps))) (fOrV (fBin dEq (fIxS 0 (fK (.int 1))) (fTup (fun ps => .ok [] ps))) (fBin dNe (fBin dIx (fIxS 0 (fK (.int 0))) (fK (.int 0))) (fBin dIx (fIxS 0 (fK (.int 1))) (fK (.int 0)))))) ps).map PV.val)))
noncomputable def M_is_lag : List PyData → FR := fun ds => (b_is_lag (startP 1 ds)).fin
theorem bd_is_lag {K : PySem.W.Frag} {f : Addr} {fd : FuncData} (Fn : FunD K "is_lag" "is_lag" (defArgs s_is_lag) (defBody s_is_lag) (defScope s_is_lag) [] [] f fd) : Binds K fd ["thing"] [] := Fn.bindsN fun _ _ _ _ _ _ us hl => match us, hl with | [_], _ => rfl
theorem ok_is_lag {P : Program} {w : World} {K : PySem.W.Frag} {mg : Str → Option Value} {base : Heap} {f : Addr} {fd : FuncData} {C_Unfit : Addr} (Fn : FunD K "is_lag" "is_lag" (defArgs s_is_lag) (defBody s_is_lag) (defScope s_is_lag) [] [] f fd) (hy : Hy K mg C_Unfit) (gf : mg "is_lag" = some (.ref f)) (G_is_tuple_of : GFn P w K mg base "is_tuple_of" 1 2 M_is_tuple_of) (G_is_piece : GFn P w K mg base "is_piece" 3 1 M_is_piece) : GFn P w K mg base "is_lag" 4 1 M_is_lag := by
  refine GFn.of_body (k := 3) (n := 1) (N := ["thing"]) (ps := ["thing"]) Fn gf (bd_is_lag Fn) sc_is_lag rfl (g := b_is_lag) fun cdv A outer s H E hr => ?_
  have nd := sc_is_lag.nd
  exact (gss_cons (gs_if (gt_w (gw_or (gt_not (gt_val (gv_of (go_call G_is_tuple_of (hr.mono (by decide)) rfl (takes_of rfl rfl rfl rfl) (ga_cons (gv_name 0) (ga_cons gv_int ga_nil)))))) (gw_or (gt_not (gt_val (gv_of (go_call G_is_piece (hr.mono (by decide)) rfl (takes_of rfl rfl rfl rfl) (ga_cons (gv_ixS 0 gv_int) ga_nil))))) (gw_or1 (gt_not (gt_val (gv_of (go_call G_is_piece (hr.mono (by decide)) rfl (takes_of rfl rfl rfl rfl) (ga_cons (gv_ixS 0 gv_int) ga_nil))))))))) (gss_one (gs_ret (go_of gv_bl))) gss_nil)
    (gss_one (gs_ret (go_of (gv_or (gv_cmp (op_eqD hr.units) eq_ok (gv_ixS 0 gv_int) (gv_tup ga_nil)) (gv_or (gv_cmp (op_eqD hr.units) eq_ok (gv_ixS 0 gv_int) (gv_tup ga_nil)) (gv_one (gv_cmp (op_neD hr.units) ne_ok (gv_ix (gv_ixS 0 gv_int) gv_int) (gv_ix (gv_ixS 0 gv_int) gv_int)))))))))
/-! alike_ahead -/
abbrev s_alike_ahead : Stmt := top 12
theorem sc_alike_ahead : FnScope ["one", "other", "many"] ["one", "other"] (defScope s_alike_ahead) := ⟨rfl, rfl, rfl, by decide +kernel, rfl, by decide +kernel, by decide +kernel⟩
noncomputable def b_alike_ahead : PSt → Os :=
  (fSeq (fSet 2 (fun ps => ((fK (.int 0)) ps).map PV.val))
  (fSeq (fWhile (fAnd (fTest (fBinS dLt 2 (fLenS 0))) (fAnd (fTest (fBinS dLt 2 (fLenS 1))) (fTest (fBin dEq (fIxS 0 (fN 2)) (fIxS 1 (fN 2)))))) (fSet 2 (fun ps => ((fBin dAdd (fN 2) (fK (.int 1))) ps).map PV.val)))
  (fRet (fMv 2))))
noncomputable def M_alike_ahead : List PyData → FR := fun ds => (b_alike_ahead (startP 3 ds)).fin
theorem bd_alike_ahead {K : PySem.W.Frag} {f : Addr} {fd : FuncData} (Fn : FunD K "alike_ahead" "alike_ahead" (defArgs s_alike_ahead) (defBody s_alike_ahead) (defScope s_alike_ahead) [] [] f fd) : Binds K fd ["one", "other"] [] := Fn.bindsN fun _ _ _ _ _ _ us hl => match us, hl with | [_, _], _ => rfl
theorem ok_alike_ahead {P : Program} {w : World} {K : PySem.W.Frag} {mg : Str → Option Value} {base : Heap} {f : Addr} {fd : FuncData} {C_Unfit : Addr} (Fn : FunD K "alike_ahead" "alike_ahead" (defArgs s_alike_ahead) (defBody s_alike_ahead) (defScope s_alike_ahead) [] [] f fd) (hy : Hy K mg C_Unfit) (gf : mg "alike_ahead" = some (.ref f)) : GFn P w K mg base "alike_ahead" 1 2 M_alike_ahead := by
  refine GFn.of_body (k := 0) (n := 2) (N := ["one", "other", "many"]) (ps := ["one", "other"]) Fn gf (bd_alike_ahead Fn) sc_alike_ahead rfl (g := b_alike_ahead) fun cdv A outer s H E hr => ?_
  have nd := sc_alike_ahead.nd
  exact (gss_cons (gs_set 2 (go_of gv_int) nd)
    (gss_cons (gs_while (passes_of rfl) (gt_w (gw_and (gt_cmpS 2 (op_ltD hr.units) lt_ok bool_dLt (gv_lenS 0 rfl hy.n_len)) (gw_and (gt_cmpS 2 (op_ltD hr.units) lt_ok bool_dLt (gv_lenS 1 rfl hy.n_len)) (gw_and1 (gt_cmp (op_eqD hr.units) eq_ok (gv_ixS 0 (gv_name 2)) (gv_ixS 1 (gv_name 2))))))) (gss_one (gs_set 2 (go_of (gv_bin op_addD add_ok (gv_name 2) gv_int)) nd)))
    (gss_one (gs_ret (go_move 2)))))
/-! front_of -/
abbrev s_front_of : Stmt := top 13
theorem sc_front_of : FnScope ["pieces", "found", "own"] ["pieces"] (defScope s_front_of) := ⟨rfl, rfl, rfl, by decide +kernel, rfl, by decide +kernel, by decide +kernel⟩
noncomputable def b_front_of : PSt → Os :=
  (fSeq (fSet 1 (fun ps => ((fIxS 0 (fK (.int 0))) ps).map PV.val))
  (fSeq (fFor (fSeqI (fun ps => ((fSl (fN 0) (fSomePart (fK (.int 1))) fNoPart) ps).map PV.data)) (uN 2) (fSet 1 (fSl (fN 1) fNoPart (fSomePart (fun ps => ((fCall 2 M_alike_ahead (fCons (fN 1) (fCons (fN 2) (fun ps => .ok [] ps)))) ps).map PV.data)))))
  (fRet (fMv 1))))
noncomputable def M_front_of : List PyData → FR := fun ds => (b_front_of (startP 3 ds)).fin
theorem bd_front_of {K : PySem.W.Frag} {f : Addr} {fd : FuncData} (Fn : FunD K "front_of" "front_of" (defArgs s_front_of) (defBody s_front_of) (defScope s_front_of) [] [] f fd) : Binds K fd ["pieces"] [] := Fn.bindsN fun _ _ _ _ _ _ us hl => match us, hl with | [_], _ => rfl
theorem ok_front_of {P : Program} {w : World} {K : PySem.W.Frag} {mg : Str → Option Value} {base : Heap} {f : Addr} {fd : FuncData} {C_Unfit : Addr} (Fn : FunD K "front_of" "front_of" (defArgs s_front_of) (defBody s_front_of) (defScope s_front_of) [] [] f fd) (hy : Hy K mg C_Unfit) (gf : mg "front_of" = some (.ref f)) (G_alike_ahead : GFn P w K mg base "alike_ahead" 1 2 M_alike_ahead) : GFn P w K mg base "front_of" 2 1 M_front_of := by
  refine GFn.of_body (k := 1) (n := 1) (N := ["pieces", "found", "own"]) (ps := ["pieces"]) Fn gf (bd_front_of Fn) sc_front_of rfl (g := b_front_of) fun cdv A outer s H E hr => ?_
  have nd := sc_front_of.nd
  exact (gss_cons (gs_set 1 (go_of (gv_ixS 0 gv_int)) nd)
    (gss_cons (gs_for (passes_of rfl) rfl (gi_seq (gv_of (go_slice (gv_name 0) (gp_some gv_int) gp_none))) (gg_name 2 nd) (gss_one (gs_set 1 (go_slice (gv_name 1) gp_none (gp_some (gv_of (go_call G_alike_ahead (hr.mono (by decide)) rfl (takes_of rfl rfl rfl rfl) (ga_cons (gv_name 1) (ga_cons (gv_name 2) ga_nil)))))) nd)))
    (gss_one (gs_ret (go_move 1)))))
/-! front -/
abbrev s_front : Stmt := top 14
theorem sc_front : FnScope ["pieces", "own", "piece"] ["pieces"] (defScope s_front) := ⟨rfl, rfl, rfl, by decide +kernel, rfl, by decide +kernel, by decide +kernel⟩
noncomputable def b_front : PSt → Os :=
  (fSeq (fSet 1 (fCall 1 M_tuple_of (fCons (fN 0) (fun ps => .ok [] ps))))
  (fSeq (fExpr (fun ps => ((fCall 1 M_sure (fCons (fAndV (fIsi (isaD "tuple") (fN 1)) (fAndV (fBinS dNe 1 (fTup (fun ps => .ok [] ps))) (fApp dAll (fCons (fun ps => ((fLc (fSeqI (fN 1)) (uN 2) cYes (fun ps => ((fCall 1 M_is_piece (fCons (fN 2) (fun ps => .ok [] ps))) ps).map PV.data) [2]) ps).map PV.data) (fun ps => .ok [] ps))))) (fun ps => .ok [] ps))) ps).map PV.data))
  (fRet (fCall 1 M_front_of (fCons (fN 1) (fun ps => .ok [] ps))))))
noncomputable def M_front : List PyData → FR := fun ds => (b_front (startP 3 ds)).fin
theorem bd_front {K : PySem.W.Frag} {f : Addr} {fd : FuncData} (Fn : FunD K "front" "front" (defArgs s_front) (defBody s_front) (defScope s_front) [] [] f fd) : Binds K fd ["pieces"] [] := Fn.bindsN fun _ _ _ _ _ _ us hl => match us, hl with | [_], _ => rfl
theorem ok_front {P : Program} {w : World} {K : PySem.W.Frag} {mg : Str → Option Value} {base : Heap} {f : Addr} {fd : FuncData} {C_Unfit : Addr} (Fn : FunD K "front" "front" (defArgs s_front) (defBody s_front) (defScope s_front) [] [] f fd) (hy : Hy K mg C_Unfit) (gf : mg "front" = some (.ref f)) (G_tuple_of : GFn P w K mg base "tuple_of" 40 1 M_tuple_of) (G_sure : GFn P w K mg base "sure" 1 1 M_sure) (G_is_piece : GFn P w K mg base "is_piece" 3 1 M_is_piece) (G_front_of : GFn P w K mg base "front_of" 2 1 M_front_of) : GFn P w K mg base "front" 41 1 M_front := by
  refine GFn.of_body (k := 40) (n := 1) (N := ["pieces", "own", "piece"]) (ps := ["pieces"]) Fn gf (bd_front Fn) sc_front rfl (g := b_front) fun cdv A outer s H E hr => ?_
  have nd := sc_front.nd
  exact (gss_cons (gs_set 1 (go_call G_tuple_of (hr.mono (by decide)) rfl (takes_of rfl rfl rfl rfl) (ga_cons (gv_name 0) ga_nil)) nd)
    (gss_cons (gs_expr (gv_of (go_call G_sure (hr.mono (by decide)) rfl (takes_of rfl rfl rfl rfl) (ga_cons (gv_and (gv_isi (tn := "tuple") (gv_name 1) rfl hy.n_isinstance rfl hy.n_tuple (by decide +kernel)) (gv_and (gv_cmpS 1 (op_neD hr.units) ne_ok bool_dNe (gv_tup ga_nil)) (gv_one (gv_callB (cr_all rfl) all_ok rfl hy.n_all (by decide +kernel) (ga_cons (gv_of (go_lc [("piece", 2)] rfl nd (gi_seq (gv_name 1)) (blkOk_by (N := ["pieces", "own", "piece"]) (sc := defScope s_front) (own := [("piece", 2)]) (by decide +kernel)) (fun _ _ _ _ _ => (gg_name 2 nd)) (fun _ _ _ _ _ => gts_nil) (fun _ _ _ _ _ => (gv_of (go_call G_is_piece (hr.mono (by decide)) rfl takes0 (ga_cons (gv_name 2) ga_nil)))))) ga_nil))))) ga_nil))))
    (gss_one (gs_ret (go_call G_front_of (hr.mono (by decide)) rfl (takes_of rfl rfl rfl rfl) (ga_cons (gv_name 1) ga_nil))))))
/-! lag_between -/
abbrev s_lag_between : Stmt := top 15
theorem sc_lag_between : FnScope ["one", "other", "many"] ["one", "other"] (defScope s_lag_between) := ⟨rfl, rfl, rfl, by decide +kernel, rfl, by decide +kernel, by decide +kernel⟩
noncomputable def b_lag_between : PSt → Os :=
  (fSeq (fSet 2 (fCall 2 M_alike_ahead (fCons (fN 0) (fCons (fN 1) (fun ps => .ok [] ps)))))
  (fRet (fun ps => ((fTup (fCons (fun ps => ((fSl (fN 0) (fSomePart (fN 2)) fNoPart) ps).map PV.data) (fCons (fun ps => ((fSl (fN 1) (fSomePart (fN 2)) fNoPart) ps).map PV.data) (fun ps => .ok [] ps)))) ps).map PV.val)))
noncomputable def M_lag_between : List PyData → FR := fun ds => (b_lag_between (startP 3 ds)).fin
theorem bd_lag_between {K : PySem.W.Frag} {f : Addr} {fd : FuncData} (Fn : FunD K "lag_between" "lag_between" (defArgs s_lag_between) (defBody s_lag_between) (defScope s_lag_between) [] [] f fd) : Binds K fd ["one", "other"] [] := Fn.bindsN fun _ _ _ _ _ _ us hl => match us, hl with | [_, _], _ => rfl
theorem ok_lag_between {P : Program} {w : World} {K : PySem.W.Frag} {mg : Str → Option Value} {base : Heap} {f : Addr} {fd : FuncData} {C_Unfit : Addr} (Fn : FunD K "lag_between" "lag_between" (defArgs s_lag_between) (defBody s_lag_between) (defScope s_lag_between) [] [] f fd) (hy : Hy K mg C_Unfit) (gf : mg "lag_between" = some (.ref f)) (G_alike_ahead : GFn P w K mg base "alike_ahead" 1 2 M_alike_ahead) : GFn P w K mg base "lag_between" 2 2 M_lag_between := by
  refine GFn.of_body (k := 1) (n := 2) (N := ["one", "other", "many"]) (ps := ["one", "other"]) Fn gf (bd_lag_between Fn) sc_lag_between rfl (g := b_lag_between) fun cdv A outer s H E hr => ?_
  have nd := sc_lag_between.nd
  exact (gss_cons (gs_set 2 (go_call G_alike_ahead (hr.mono (by decide)) rfl (takes_of rfl rfl rfl rfl) (ga_cons (gv_name 0) (ga_cons (gv_name 1) ga_nil))) nd)
    (gss_one (gs_ret (go_of (gv_tup (ga_cons (gv_of (go_slice (gv_name 0) (gp_some (gv_name 2)) gp_none)) (ga_cons (gv_of (go_slice (gv_name 1) (gp_some (gv_name 2)) gp_none)) ga_nil)))))))
/-! sure_pieces -/
abbrev s_sure_pieces : Stmt := top 16
theorem sc_sure_pieces : FnScope ["pieces", "found", "own"] ["pieces"] (defScope s_sure_pieces) := ⟨rfl, rfl, rfl, by decide +kernel, rfl, by decide +kernel, by decide +kernel⟩
noncomputable def b_sure_pieces : PSt → Os :=
  (fSeq (fSet 1 (fLc (fSeqI (fN 0)) (uN 2) cYes (fun ps => ((fCall 1 M_tuple_of (fCons (fN 2) (fun ps => .ok [] ps))) ps).map PV.data) [2]))
  (fSeq (fExpr (fun ps => ((fCall 1 M_sure (fCons (fApp dAll (fCons (fun ps => ((fLc (fSeqI (fN 1)) (uN 2) cYes (fun ps => ((fCall 1 M_is_piece (fCons (fN 2) (fun ps => .ok [] ps))) ps).map PV.data) [2]) ps).map PV.data) (fun ps => .ok [] ps))) (fun ps => .ok [] ps))) ps).map PV.data))
  (fRet (fMv 1))))
noncomputable def M_sure_pieces : List PyData → FR := fun ds => (b_sure_pieces (startP 3 ds)).fin
theorem bd_sure_pieces {K : PySem.W.Frag} {f : Addr} {fd : FuncData} (Fn : FunD K "sure_pieces" "sure_pieces" (defArgs s_sure_pieces) (defBody s_sure_pieces) (defScope s_sure_pieces) [] [] f fd) : Binds K fd ["pieces"] [] := Fn.bindsN fun _ _ _ _ _ _ us hl => match us, hl with | [_], _ => rfl
theorem ok_sure_pieces {P : Program} {w : World} {K : PySem.W.Frag} {mg : Str → Option Value} {base : Heap} {f : Addr} {fd : FuncData} {C_Unfit : Addr} (Fn : FunD K "sure_pieces" "sure_pieces" (defArgs s_sure_pieces) (defBody s_sure_pieces) (defScope s_sure_pieces) [] [] f fd) (hy : Hy K mg C_Unfit) (gf : mg "sure_pieces" = some (.ref f)) (G_tuple_of : GFn P w K mg base "tuple_of" 40 1 M_tuple_of) (G_sure : GFn P w K mg base "sure" 1 1 M_sure) (G_is_piece : GFn P w K mg base "is_piece" 3 1 M_is_piece) : GFn P w K mg base "sure_pieces" 41 1 M_sure_pieces := by
  refine GFn.of_body (k := 40) (n := 1) (N := ["pieces", "found", "own"]) (ps := ["pieces"]) Fn gf (bd_sure_pieces Fn) sc_sure_pieces rfl (g := b_sure_pieces) fun cdv A outer s H E hr => ?_
  have nd := sc_sure_pieces.nd
  exact (gss_cons (gs_setLc 1 [("own", 2)] rfl nd rfl (sw_true rfl rfl rfl (by decide +kernel)) (gi_seq (gv_name 0)) (blkOk_by (N := ["pieces", "found", "own"]) (sc := defScope s_sure_pieces) (own := [("own", 2)]) (by decide +kernel)) (fun _ _ _ _ _ => (gg_name 2 nd)) (fun _ _ _ _ _ => gts_nil) (fun _ _ _ _ _ => (gv_of (go_call G_tuple_of (hr.mono (by decide)) rfl takes0 (ga_cons (gv_name 2) ga_nil)))))
    (gss_cons (gs_expr (gv_of (go_call G_sure (hr.mono (by decide)) rfl (takes_of rfl rfl rfl rfl) (ga_cons (gv_callB (cr_all rfl) all_ok rfl hy.n_all (by decide +kernel) (ga_cons (gv_of (go_lc [("own", 2)] rfl nd (gi_seq (gv_name 1)) (blkOk_by (N := ["pieces", "found", "own"]) (sc := defScope s_sure_pieces) (own := [("own", 2)]) (by decide +kernel)) (fun _ _ _ _ _ => (gg_name 2 nd)) (fun _ _ _ _ _ => gts_nil) (fun _ _ _ _ _ => (gv_of (go_call G_is_piece (hr.mono (by decide)) rfl takes0 (ga_cons (gv_name 2) ga_nil)))))) ga_nil)) ga_nil))))
    (gss_one (gs_ret (go_move 1)))))
/-! sure_lag -/
abbrev s_sure_lag : Stmt := top 17
theorem sc_sure_lag : FnScope ["lag", "own"] ["lag"] (defScope s_sure_lag) := ⟨rfl, rfl, rfl, by decide +kernel, rfl, by decide +kernel, by decide +kernel⟩
noncomputable def b_sure_lag : PSt → Os :=
  (fSeq (fSet 1 (fCall 1 M_tuple_of (fCons (fN 0) (fun ps => .ok [] ps))))
  (fSeq (fExpr (fun ps => ((fCall 1 M_sure (fCons (fun ps => ((fCall 1 M_is_lag (fCons (fN 1) (fun ps => .ok [] ps))) ps).map PV.data) (fun ps => .ok [] ps))) ps).map PV.data))
  (fRet (fMv 1))))
noncomputable def M_sure_lag : List PyData → FR := fun ds => (b_sure_lag (startP 2 ds)).fin
theorem bd_sure_lag {K : PySem.W.Frag} {f : Addr} {fd : FuncData} (Fn : FunD K "sure_lag" "sure_lag" (defArgs s_sure_lag) (defBody s_sure_lag) (defScope s_sure_lag) [] [] f fd) : Binds K fd ["lag"] [] := Fn.bindsN fun _ _ _ _ _ _ us hl => match us, hl with | [_], _ => rfl
theorem ok_sure_lag {P : Program} {w : World} {K : PySem.W.Frag} {mg : Str → Option Value} {base : Heap} {f : Addr} {fd : FuncData} {C_Unfit : Addr} (Fn : FunD K "sure_lag" "sure_lag" (defArgs s_sure_lag) (defBody s_sure_lag) (defScope s_sure_lag) [] [] f fd) (hy : Hy K mg C_Unfit) (gf : mg "sure_lag" = some (.ref f)) (G_tuple_of : GFn P w K mg base "tuple_of" 40 1 M_tuple_of) (G_sure : GFn P w K mg base "sure" 1 1 M_sure) (G_is_lag : GFn P w K mg base "is_lag" 4 1 M_is_lag) : GFn P w K mg base "sure_lag" 41 1 M_sure_lag := by
  refine GFn.of_body (k := 40) (n := 1) (N := ["lag", "own"]) (ps := ["lag"]) Fn gf (bd_sure_lag Fn) sc_sure_lag rfl (g := b_sure_lag) fun cdv A outer s H E hr => ?_
  have nd := sc_sure_lag.nd
  exact (gss_cons (gs_set 1 (go_call G_tuple_of (hr.mono (by decide)) rfl (takes_of rfl rfl rfl rfl) (ga_cons (gv_name 0) ga_nil)) nd)
    (gss_cons (gs_expr (gv_of (go_call G_sure (hr.mono (by decide)) rfl (takes_of rfl rfl rfl rfl) (ga_cons (gv_of (go_call G_is_lag (hr.mono (by decide)) rfl (takes_of rfl rfl rfl rfl) (ga_cons (gv_name 1) ga_nil))) ga_nil))))
    (gss_one (gs_ret (go_move 1)))))
/-! lag_of -/
abbrev s_lag_of : Stmt := top 18
theorem sc_lag_of : FnScope ["one", "other", "near", "far"] ["one", "other"] (defScope s_lag_of) := ⟨rfl, rfl, rfl, by decide +kernel, rfl, by decide +kernel, by decide +kernel⟩
noncomputable def b_lag_of : PSt → Os :=
  (fSeq (fAsg (uTup 2 (uCons (uN 2) (uCons (uN 3) uNil))) (fun ps => ((fCall 1 M_sure_pieces (fCons (fTup (fCons (fN 0) (fCons (fN 1) (fun ps => .ok [] ps)))) (fun ps => .ok [] ps))) ps).map PV.data))
  (fRet (fCall 2 M_lag_between (fCons (fN 2) (fCons (fN 3) (fun ps => .ok [] ps))))))
noncomputable def M_lag_of : List PyData → FR := fun ds => (b_lag_of (startP 4 ds)).fin
theorem bd_lag_of {K : PySem.W.Frag} {f : Addr} {fd : FuncData} (Fn : FunD K "lag_of" "lag_of" (defArgs s_lag_of) (defBody s_lag_of) (defScope s_lag_of) [] [] f fd) : Binds K fd ["one", "other"] [] := Fn.bindsN fun _ _ _ _ _ _ us hl => match us, hl with | [_, _], _ => rfl
theorem ok_lag_of {P : Program} {w : World} {K : PySem.W.Frag} {mg : Str → Option Value} {base : Heap} {f : Addr} {fd : FuncData} {C_Unfit : Addr} (Fn : FunD K "lag_of" "lag_of" (defArgs s_lag_of) (defBody s_lag_of) (defScope s_lag_of) [] [] f fd) (hy : Hy K mg C_Unfit) (gf : mg "lag_of" = some (.ref f)) (G_lag_between : GFn P w K mg base "lag_between" 2 2 M_lag_between) (G_sure_pieces : GFn P w K mg base "sure_pieces" 41 1 M_sure_pieces) : GFn P w K mg base "lag_of" 42 2 M_lag_of := by
  refine GFn.of_body (k := 41) (n := 2) (N := ["one", "other", "near", "far"]) (ps := ["one", "other"]) Fn gf (bd_lag_of Fn) sc_lag_of rfl (g := b_lag_of) fun cdv A outer s H E hr => ?_
  have nd := sc_lag_of.nd
  exact (gss_cons (gs_asg (gv_of (go_call G_sure_pieces (hr.mono (by decide)) rfl (takes_of rfl rfl rfl rfl) (ga_cons (gv_tup (ga_cons (gv_name 0) (ga_cons (gv_name 1) ga_nil))) ga_nil))) (gg_tup rfl (ggs_cons (gg_name 2 nd) (ggs_cons (gg_name 3 nd) ggs_nil))))
    (gss_one (gs_ret (go_call G_lag_between (hr.mono (by decide)) rfl (takes_of rfl rfl rfl rfl) (ga_cons (gv_name 2) (ga_cons (gv_name 3) ga_nil))))))
/-! size_of -/
abbrev s_size_of : Stmt := top 19
theorem sc_size_of : FnScope ["lag"] ["lag"] (defScope s_size_of) := ⟨rfl, rfl, rfl, by decide +kernel, rfl, by decide +kernel, by decide +kernel⟩
noncomputable def b_size_of : PSt → Os :=
  (fRet (fun ps => ((fBin dAdd (fApp dLen (fCons (fIxS 0 (fK (.int 0))) (fun ps => .ok [] ps))) (fApp dLen (fCons (fIxS 0 (fK (.int 1))) (fun ps => .ok [] ps)))) ps).map PV.val))
noncomputable def M_size_of : List PyData → FR := fun ds => (b_size_of (startP 1 ds)).fin
theorem bd_size_of {K : PySem.W.Frag} {f : Addr} {fd : FuncData} (Fn : FunD K "size_of" "size_of" (defArgs s_size_of) (defBody s_size_of) (defScope s_size_of) [] [] f fd) : Binds K fd ["lag"] [] := Fn.bindsN fun _ _ _ _ _ _ us hl => match us, hl with | [_], _ => rfl
theorem ok_size_of {P : Program} {w : World} {K : PySem.W.Frag} {mg : Str → Option Value} {base : Heap} {f : Addr} {fd : FuncData} {C_Unfit : Addr} (Fn : FunD K "size_of" "size_of" (defArgs s_size_of) (defBody s_size_of) (defScope s_size_of) [] [] f fd) (hy : Hy K mg C_Unfit) (gf : mg "size_of" = some (.ref f)) : GFn P w K mg base "size_of" 1 1 M_size_of := by
  refine GFn.of_body (k := 0) (n := 1) (N := ["lag"]) (ps := ["lag"]) Fn gf (bd_size_of Fn) sc_size_of rfl (g := b_size_of) fun cdv A outer s H E hr => ?_
  have nd := sc_size_of.nd
  exact (gss_one (gs_ret (go_of (gv_bin op_addD add_ok (gv_callB call_len_seq (len_ok) rfl hy.n_len (by decide +kernel) (ga_cons (gv_ixS 0 gv_int) ga_nil)) (gv_callB call_len_seq (len_ok) rfl hy.n_len (by decide +kernel) (ga_cons (gv_ixS 0 gv_int) ga_nil))))))
/-! lag_length -/
abbrev s_lag_length : Stmt := top 20
theorem sc_lag_length : FnScope ["lag"] ["lag"] (defScope s_lag_length) := ⟨rfl, rfl, rfl, by decide +kernel, rfl, by decide +kernel, by decide +kernel⟩
noncomputable def b_lag_length : PSt → Os :=
  (fRet (fCall 1 M_size_of (fCons (fun ps => ((fCall 1 M_sure_lag (fCons (fN 0) (fun ps => .ok [] ps))) ps).map PV.data) (fun ps => .ok [] ps))))
noncomputable def M_lag_length : List PyData → FR := fun ds => (b_lag_length (startP 1 ds)).fin
theorem bd_lag_length {K : PySem.W.Frag} {f : Addr} {fd : FuncData} (Fn : FunD K "lag_length" "lag_length" (defArgs s_lag_length) (defBody s_lag_length) (defScope s_lag_length) [] [] f fd) : Binds K fd ["lag"] [] := Fn.bindsN fun _ _ _ _ _ _ us hl => match us, hl with | [_], _ => rfl
theorem ok_lag_length {P : Program} {w : World} {K : PySem.W.Frag} {mg : Str → Option Value} {base : Heap} {f : Addr} {fd : FuncData} {C_Unfit : Addr} (Fn : FunD K "lag_length" "lag_length" (defArgs s_lag_length) (defBody s_lag_length) (defScope s_lag_length) [] [] f fd) (hy : Hy K mg C_Unfit) (gf : mg "lag_length" = some (.ref f)) (G_sure_lag : GFn P w K mg base "sure_lag" 41 1 M_sure_lag) (G_size_of : GFn P w K mg base "size_of" 1 1 M_size_of) : GFn P w K mg base "lag_length" 42 1 M_lag_length := by
  refine GFn.of_body (k := 41) (n := 1) (N := ["lag"]) (ps := ["lag"]) Fn gf (bd_lag_length Fn) sc_lag_length rfl (g := b_lag_length) fun cdv A outer s H E hr => ?_
  have nd := sc_lag_length.nd
  exact (gss_one (gs_ret (go_call G_size_of (hr.mono (by decide)) rfl (takes_of rfl rfl rfl rfl) (ga_cons (gv_of (go_call G_sure_lag (hr.mono (by decide)) rfl (takes_of rfl rfl rfl rfl) (ga_cons (gv_name 0) ga_nil))) ga_nil))))
/-! are_near -/
abbrev s_are_near : Stmt := top 21
theorem sc_are_near : FnScope ["one", "other", "number", "near", "far"] ["one", "other", "number"] (defScope s_are_near) := ⟨rfl, rfl, rfl, by decide +kernel, rfl, by decide +kernel, by decide +kernel⟩
noncomputable def b_are_near : PSt → Os :=
  (fSeq (fAsg (uTup 2 (uCons (uN 3) (uCons (uN 4) uNil))) (fun ps => ((fCall 1 M_sure_pieces (fCons (fTup (fCons (fN 0) (fCons (fN 1) (fun ps => .ok [] ps)))) (fun ps => .ok [] ps))) ps).map PV.data))
  (fSeq (fExpr (fun ps => ((fCall 1 M_sure (fCons (fAndV (fun ps => ((fCall 1 M_is_number (fCons (fN 2) (fun ps => .ok [] ps))) ps).map PV.data) (fBinS dGe 2 (fK (.int 0)))) (fun ps => .ok [] ps))) ps).map PV.data))
  (fRet (fun ps => ((fBin dLe (fun ps => ((fCall 1 M_size_of (fCons (fun ps => ((fCall 2 M_lag_between (fCons (fN 3) (fCons (fN 4) (fun ps => .ok [] ps)))) ps).map PV.data) (fun ps => .ok [] ps))) ps).map PV.data) (fN 2)) ps).map PV.val))))
noncomputable def M_are_near : List PyData → FR := fun ds => (b_are_near (startP 5 ds)).fin
theorem bd_are_near {K : PySem.W.Frag} {f : Addr} {fd : FuncData} (Fn : FunD K "are_near" "are_near" (defArgs s_are_near) (defBody s_are_near) (defScope s_are_near) [] [] f fd) : Binds K fd ["one", "other", "number"] [] := Fn.bindsN fun _ _ _ _ _ _ us hl => match us, hl with | [_, _, _], _ => rfl
theorem ok_are_near {P : Program} {w : World} {K : PySem.W.Frag} {mg : Str → Option Value} {base : Heap} {f : Addr} {fd : FuncData} {C_Unfit : Addr} (Fn : FunD K "are_near" "are_near" (defArgs s_are_near) (defBody s_are_near) (defScope s_are_near) [] [] f fd) (hy : Hy K mg C_Unfit) (gf : mg "are_near" = some (.ref f)) (G_is_number : GFn P w K mg base "is_number" 1 1 M_is_number) (G_sure : GFn P w K mg base "sure" 1 1 M_sure) (G_lag_between : GFn P w K mg base "lag_between" 2 2 M_lag_between) (G_sure_pieces : GFn P w K mg base "sure_pieces" 41 1 M_sure_pieces) (G_size_of : GFn P w K mg base "size_of" 1 1 M_size_of) : GFn P w K mg base "are_near" 42 3 M_are_near := by
  refine GFn.of_body (k := 41) (n := 3) (N := ["one", "other", "number", "near", "far"]) (ps := ["one", "other", "number"]) Fn gf (bd_are_near Fn) sc_are_near rfl (g := b_are_near) fun cdv A outer s H E hr => ?_
  have nd := sc_are_near.nd
  exact (gss_cons (gs_asg (gv_of (go_call G_sure_pieces (hr.mono (by decide)) rfl (takes_of rfl rfl rfl rfl) (ga_cons (gv_tup (ga_cons (gv_name 0) (ga_cons (gv_name 1) ga_nil))) ga_nil))) (gg_tup rfl (ggs_cons (gg_name 3 nd) (ggs_cons (gg_name 4 nd) ggs_nil))))
    (gss_cons (gs_expr (gv_of (go_call G_sure (hr.mono (by decide)) rfl (takes_of rfl rfl rfl rfl) (ga_cons (gv_and (gv_of (go_call G_is_number (hr.mono (by decide)) rfl (takes_of rfl rfl rfl rfl) (ga_cons (gv_name 2) ga_nil))) (gv_one (gv_cmpS 2 op_ge ge_ok bool_dGe gv_int))) ga_nil))))
    (gss_one (gs_ret (go_of (gv_cmp op_le le_ok (gv_of (go_call G_size_of (hr.mono (by decide)) rfl (takes_of rfl rfl rfl rfl) (ga_cons (gv_of (go_call G_lag_between (hr.mono (by decide)) rfl (takes_of rfl rfl rfl rfl) (ga_cons (gv_name 3) (ga_cons (gv_name 4) ga_nil)))) ga_nil))) (gv_name 2)))))))
/-! are_close -/
abbrev s_are_close : Stmt := top 22
theorem sc_are_close : FnScope ["one", "other", "number"] ["one", "other", "number"] (defScope s_are_close) := ⟨rfl, rfl, rfl, by decide +kernel, rfl, by decide +kernel, by decide +kernel⟩
noncomputable def b_are_close : PSt → Os :=
  (fRet (fun ps => ((fAndV (fBin dLe (fApp dAbs (fCons (fBin dSub (fLenS 0) (fLenS 1)) (fun ps => .ok [] ps))) (fN 2)) (fBin dLe (fun ps => ((fCall 1 M_size_of (fCons (fun ps => ((fCall 2 M_lag_between (fCons (fN 0) (fCons (fN 1) (fun ps => .ok [] ps)))) ps).map PV.data) (fun ps => .ok [] ps))) ps).map PV.data) (fN 2))) ps).map PV.val))
noncomputable def M_are_close : List PyData → FR := fun ds => (b_are_close (startP 3 ds)).fin
theorem bd_are_close {K : PySem.W.Frag} {f : Addr} {fd : FuncData} (Fn : FunD K "are_close" "are_close" (defArgs s_are_close) (defBody s_are_close) (defScope s_are_close) [] [] f fd) : Binds K fd ["one", "other", "number"] [] := Fn.bindsN fun _ _ _ _ _ _ us hl => match us, hl with | [_, _, _], _ => rfl
theorem ok_are_close {P : Program} {w : World} {K : PySem.W.Frag} {mg : Str → Option Value} {base : Heap} {f : Addr} {fd : FuncData} {C_Unfit : Addr} (Fn : FunD K "are_close" "are_close" (defArgs s_are_close) (defBody s_are_close) (defScope s_are_close) [] [] f fd) (hy : Hy K mg C_Unfit) (gf : mg "are_close" = some (.ref f)) (G_lag_between : GFn P w K mg base "lag_between" 2 2 M_lag_between) (G_size_of : GFn P w K mg base "size_of" 1 1 M_size_of) : GFn P w K mg base "are_close" 3 3 M_are_close := by
  refine GFn.of_body (k := 2) (n := 3) (N := ["one", "other", "number"]) (ps := ["one", "other", "number"]) Fn gf (bd_are_close Fn) sc_are_close rfl (g := b_are_close) fun cdv A outer s H E hr => ?_
  have nd := sc_are_close.nd
  exact (gss_one (gs_ret (go_of (gv_and (gv_cmp op_le le_ok (gv_callB call_abs abs_ok rfl hy.n_abs (by decide +kernel) (ga_cons (gv_bin op_sub sub_ok (gv_lenS 0 rfl hy.n_len) (gv_lenS 1 rfl hy.n_len)) ga_nil)) (gv_name 2)) (gv_one (gv_cmp op_le le_ok (gv_of (go_call G_size_of (hr.mono (by decide)) rfl (takes_of rfl rfl rfl rfl) (ga_cons (gv_of (go_call G_lag_between (hr.mono (by decide)) rfl (takes_of rfl rfl rfl rfl) (ga_cons (gv_name 0) (ga_cons (gv_name 1) ga_nil)))) ga_nil))) (gv_name 2)))))))
/-! lots_of -/
abbrev s_lots_of : Stmt := top 23
theorem sc_lots_of : FnScope ["pieces", "number", "left", "found", "lot", "line", "own", "other"] ["pieces", "number"] (defScope s_lots_of) := ⟨rfl, rfl, rfl, by decide +kernel, rfl, by decide +kernel, by decide +kernel⟩
noncomputable def b_lots_of : PSt → Os :=
  (fSeq (fPar 2 3 (fAppO GS.dSortSetA (fCons (fN 0) (fun ps => .ok [] ps))) (fLst (fun ps => .ok [] ps)))
  (fSeq (fWhile (fTest (fBinS dNe 2 (fun ps => ((fLst (fun ps => .ok [] ps)) ps).map PV.data))) (fSeq (fPar 4 5 (fLst (fun ps => .ok [] ps)) (fLst (fCons (fMethV 2 dPopAt (fCons (fK (.int 0)) (fun ps => .ok [] ps))) (fun ps => .ok [] ps))))
  (fSeq (fWhile (fTest (fBinS dNe 5 (fun ps => ((fLst (fun ps => .ok [] ps)) ps).map PV.data))) (fSeq (fSet 6 (fun ps => ((fPop 5) ps).map PV.val))
  (fSeq (fExpr (fMeth 4 dAppend (fCons (fN 6) (fun ps => .ok [] ps))))
  (fSeq (fExpr (fExt 5 (fLc (fSeqI (fN 2)) (uN 7) (fTest (fun ps => ((fCall 3 M_are_close (fCons (fN 6) (fCons (fN 7) (fCons (fN 1) (fun ps => .ok [] ps))))) ps).map PV.data)) (fN 7) [7])))
  (fSet 2 (fLc (fSeqI (fN 2)) (uN 7) (fTest (fBinSS dNotInA 7 5)) (fN 7) [7]))))))
  (fExpr (fMeth 3 dAppend (fCons (fApp dTuple (fCons (fun ps => ((fAppO dSorted (fCons (fN 4) (fun ps => .ok [] ps))) ps).map PV.data) (fun ps => .ok [] ps))) (fun ps => .ok [] ps)))))))
  (fRet (fun ps => ((fApp dTuple (fCons (fun ps => ((fAppO dSorted (fCons (fN 3) (fun ps => .ok [] ps))) ps).map PV.data) (fun ps => .ok [] ps))) ps).map PV.val))))
noncomputable def M_lots_of : List PyData → FR := fun ds => (b_lots_of (startP 8 ds)).fin
theorem bd_lots_of {K : PySem.W.Frag} {f : Addr} {fd : FuncData} (Fn : FunD K "lots_of" "lots_of" (defArgs s_lots_of) (defBody s_lots_of) (defScope s_lots_of) [] [] f fd) : Binds K fd ["pieces", "number"] [] := Fn.bindsN fun _ _ _ _ _ _ us hl => match us, hl with | [_, _], _ => rfl
theorem ok_lots_of {P : Program} {w : World} {K : PySem.W.Frag} {mg : Str → Option Value} {base : Heap} {f : Addr} {fd : FuncData} {C_Unfit : Addr} (Fn : FunD K "lots_of" "lots_of" (defArgs s_lots_of) (defBody s_lots_of) (defScope s_lots_of) [] [] f fd) (hy : Hy K mg C_Unfit) (gf : mg "lots_of" = some (.ref f)) (G_are_close : GFn P w K mg base "are_close" 3 3 M_are_close) : GFn P w K mg base "lots_of" 4 2 M_lots_of := by
  refine GFn.of_body (k := 3) (n := 2) (N := ["pieces", "number", "left", "found", "lot", "line", "own", "other"]) (ps := ["pieces", "number"]) Fn gf (bd_lots_of Fn) sc_lots_of rfl (g := b_lots_of) fun cdv A outer s H E hr => ?_
  have nd := sc_lots_of.nd
  exact (gss_cons (gs_par 2 3 (GS.go_sortSetA rfl (Nat.lt_of_succ_lt hr.u65) rfl hy.n_sorted rfl hy.n_set (ga_cons (gv_name 0) ga_nil)) (go_lst ga_nil) rfl nd rfl rfl (by rfl))
    (gss_cons (gs_while (passes_of rfl) (gt_cmpS 2 (op_neD hr.units) ne_ok bool_dNe (gv_of (go_lst ga_nil))) (gss_cons (gs_par2 4 5 (go_lst ga_nil) (go_lst (ga_cons (gv_popAt 2 (ga_cons gv_int ga_nil)) ga_nil)) rfl nd)
    (gss_cons (gs_while (passes_of rfl) (gt_cmpS 5 (op_neD hr.units) ne_ok bool_dNe (gv_of (go_lst ga_nil))) (gss_cons (gs_set 6 (go_of (gv_pop 5)) nd)
    (gss_cons (gs_expr (gv_append 4 (ga_cons (gv_name 6) ga_nil)))
    (gss_cons (gs_expr (gv_extend 5 (go_lc [("other", 7)] rfl nd (gi_seq (gv_name 2)) (blkOk_by (N := ["pieces", "number", "left", "found", "lot", "line", "own", "other"]) (sc := defScope s_lots_of) (own := [("other", 7)]) (by decide +kernel)) (fun _ _ _ _ _ => (gg_name 7 nd)) (fun _ _ _ _ _ => (gts_one (gt_val (gv_of (go_call G_are_close (hr.mono (by decide)) rfl takes0 (ga_cons (gv_name 6) (ga_cons (gv_name 7) (ga_cons (gv_name 1) ga_nil)))))))) (fun _ _ _ _ _ => (gv_name 7)))))
    (gss_one (gs_setLc 2 [("other", 7)] rfl nd rfl (sw_true rfl rfl rfl (by decide +kernel)) (gi_seq (gv_name 2)) (blkOk_by (N := ["pieces", "number", "left", "found", "lot", "line", "own", "other"]) (sc := defScope s_lots_of) (own := [("other", 7)]) (by decide +kernel)) (fun _ _ _ _ _ => (gg_name 7 nd)) (fun _ _ _ _ _ => (gts_one (gt_cmpSS 7 5 (op_notInA hr.u65) notInA_ok bool_dNotInA))) (fun _ _ _ _ _ => (gv_name 7))))))))
    (gss_one (gs_expr (gv_append 3 (ga_cons (gv_callTy call_tuple_of (tuple_ok) rfl hy.n_tuple (by decide +kernel) (ga_cons (gv_of (go_callB (cr_sortL rfl (Nat.lt_of_succ_lt hr.u65)) sortL_ok rfl hy.n_sorted (by decide +kernel) (ga_cons (gv_name 4) ga_nil))) ga_nil)) ga_nil)))))))
    (gss_one (gs_ret (go_of (gv_callTy call_tuple_of (tuple_ok) rfl hy.n_tuple (by decide +kernel) (ga_cons (gv_of (go_callB (cr_sortL rfl (Nat.lt_of_succ_lt hr.u65)) sortL_ok rfl hy.n_sorted (by decide +kernel) (ga_cons (gv_name 3) ga_nil))) ga_nil)))))))
/-! lots_near -/
abbrev s_lots_near : Stmt := top 24
theorem sc_lots_near : FnScope ["pieces", "number", "own", "piece"] ["pieces", "number"] (defScope s_lots_near) := ⟨rfl, rfl, rfl, by decide +kernel, rfl, by decide +kernel, by decide +kernel⟩
noncomputable def b_lots_near : PSt → Os :=
  (fSeq (fSet 2 (fCall 1 M_tuple_of (fCons (fN 0) (fun ps => .ok [] ps))))
  (fSeq (fExpr (fun ps => ((fCall 1 M_sure (fCons (fAndV (fIsi (isaD "tuple") (fN 2)) (fAndV (fBinS dNe 2 (fTup (fun ps => .ok [] ps))) (fApp dAll (fCons (fun ps => ((fLc (fSeqI (fN 2)) (uN 3) cYes (fun ps => ((fCall 1 M_is_piece (fCons (fN 3) (fun ps => .ok [] ps))) ps).map PV.data) [3]) ps).map PV.data) (fun ps => .ok [] ps))))) (fun ps => .ok [] ps))) ps).map PV.data))
  (fSeq (fExpr (fun ps => ((fCall 1 M_sure (fCons (fAndV (fun ps => ((fCall 1 M_is_number (fCons (fN 1) (fun ps => .ok [] ps))) ps).map PV.data) (fBinS dGe 1 (fK (.int 0)))) (fun ps => .ok [] ps))) ps).map PV.data))
  (fRet (fCall 2 M_lots_of (fCons (fN 2) (fCons (fN 1) (fun ps => .ok [] ps))))))))
noncomputable def M_lots_near : List PyData → FR := fun ds => (b_lots_near (startP 4 ds)).fin
theorem bd_lots_near {K : PySem.W.Frag} {f : Addr} {fd : FuncData} (Fn : FunD K "lots_near" "lots_near" (defArgs s_lots_near) (defBody s_lots_near) (defScope s_lots_near) [] [] f fd) : Binds K fd ["pieces", "number"] [] := Fn.bindsN fun _ _ _ _ _ _ us hl => match us, hl with | [_, _], _ => rfl
theorem ok_lots_near {P : Program} {w : World} {K : PySem.W.Frag} {mg : Str → Option Value} {base : Heap} {f : Addr} {fd : FuncData} {C_Unfit : Addr} (Fn : FunD K "lots_near" "lots_near" (defArgs s_lots_near) (defBody s_lots_near) (defScope s_lots_near) [] [] f fd) (hy : Hy K mg C_Unfit) (gf : mg "lots_near" = some (.ref f)) (G_is_number : GFn P w K mg base "is_number" 1 1 M_is_number) (G_tuple_of : GFn P w K mg base "tuple_of" 40 1 M_tuple_of) (G_sure : GFn P w K mg base "sure" 1 1 M_sure) (G_is_piece : GFn P w K mg base "is_piece" 3 1 M_is_piece) (G_lots_of : GFn P w K mg base "lots_of" 4 2 M_lots_of) : GFn P w K mg base "lots_near" 41 2 M_lots_near := by
  refine GFn.of_body (k := 40) (n := 2) (N := ["pieces", "number", "own", "piece"]) (ps := ["pieces", "number"]) Fn gf (bd_lots_near Fn) sc_lots_near rfl (g := b_lots_near) fun cdv A outer s H E hr => ?_
  have nd := sc_lots_near.nd
  exact (gss_cons (gs_set 2 (go_call G_tuple_of (hr.mono (by decide)) rfl (takes_of rfl rfl rfl rfl) (ga_cons (gv_name 0) ga_nil)) nd)
    (gss_cons (gs_expr (gv_of (go_call G_sure (hr.mono (by decide)) rfl (takes_of rfl rfl rfl rfl) (ga_cons (gv_and (gv_isi (tn := "tuple") (gv_name 2) rfl hy.n_isinstance rfl hy.n_tuple (by decide +kernel)) (gv_and (gv_cmpS 2 (op_neD hr.units) ne_ok bool_dNe (gv_tup ga_nil)) (gv_one (gv_callB (cr_all rfl) all_ok rfl hy.n_all (by decide +kernel) (ga_cons (gv_of (go_lc [("piece", 3)] rfl nd (gi_seq (gv_name 2)) (blkOk_by (N := ["pieces", "number", "own", "piece"]) (sc := defScope s_lots_near) (own := [("piece", 3)]) (by decide +kernel)) (fun _ _ _ _ _ => (gg_name 3 nd)) (fun _ _ _ _ _ => gts_nil) (fun _ _ _ _ _ => (gv_of (go_call G_is_piece (hr.mono (by decide)) rfl takes0 (ga_cons (gv_name 3) ga_nil)))))) ga_nil))))) ga_nil))))
    (gss_cons (gs_expr (gv_of (go_call G_sure (hr.mono (by decide)) rfl (takes_of rfl rfl rfl rfl) (ga_cons (gv_and (gv_of (go_call G_is_number (hr.mono (by decide)) rfl (takes_of rfl rfl rfl rfl) (ga_cons (gv_name 1) ga_nil))) (gv_one (gv_cmpS 1 op_ge ge_ok bool_dGe gv_int))) ga_nil))))
    (gss_one (gs_ret (go_call G_lots_of (hr.mono (by decide)) rfl (takes_of rfl rfl rfl rfl) (ga_cons (gv_name 2) (ga_cons (gv_name 1) ga_nil))))))))
/-! _law_box -/
abbrev s__law_box : Stmt := top 26
theorem sc__law_box : FnScope ["script", "k", "cell"] ["script", "k"] (defScope s__law_box) := ⟨rfl, rfl, rfl, by decide +kernel, rfl, by decide +kernel, by decide +kernel⟩
noncomputable def b__law_box : PSt → Os :=
  (fSeq (fSet 2 (fun ps => ((fIf (fTest (fBinS dLt 1 (fLenS 0))) (fIxS 0 (fN 1)) (fK (.int 0))) ps).map PV.val))
  (fRet (fLst (fCons (fBin dMul (fApp dAbs (fCons (fN 2) (fun ps => .ok [] ps))) (fApp dInt (fCons (fBin dGe (fApp dAbs (fCons (fN 2) (fun ps => .ok [] ps))) (fBin dPow (fK (.int 10)) (fK (.int 18)))) (fun ps => .ok [] ps)))) (fCons (fBin dAdd (fBin dAdd (fBin dMod (fApp dInt (fCons (fN 2) (fun ps => .ok [] ps))) (fK (.int 2305843009213693951))) (fBin dMul (fK (.int 41183)) (fN 1))) (fK (.int 78772099))) (fCons (fK (.int 0)) (fun ps => .ok [] ps)))))))
noncomputable def M__law_box : List PyData → FR := fun ds => (b__law_box (startP 3 ds)).fin
theorem bd__law_box {K : PySem.W.Frag} {f : Addr} {fd : FuncData} (Fn : FunD K "_law_box" "_law_box" (defArgs s__law_box) (defBody s__law_box) (defScope s__law_box) [] [] f fd) : Binds K fd ["script", "k"] [] := Fn.bindsN fun _ _ _ _ _ _ us hl => match us, hl with | [_, _], _ => rfl
theorem ok__law_box {P : Program} {w : World} {K : PySem.W.Frag} {mg : Str → Option Value} {base : Heap} {f : Addr} {fd : FuncData} {C_Unfit : Addr} (Fn : FunD K "_law_box" "_law_box" (defArgs s__law_box) (defBody s__law_box) (defScope s__law_box) [] [] f fd) (hy : Hy K mg C_Unfit) (gf : mg "_law_box" = some (.ref f)) : GFn P w K mg base "_law_box" 1 2 M__law_box := by
  refine GFn.of_body (k := 0) (n := 2) (N := ["script", "k", "cell"]) (ps := ["script", "k"]) Fn gf (bd__law_box Fn) sc__law_box rfl (g := b__law_box) fun cdv A outer s H E hr => ?_
  have nd := sc__law_box.nd
  exact (gss_cons (gs_set 2 (go_of (gv_if (gt_cmpS 1 (op_ltD hr.units) lt_ok bool_dLt (gv_lenS 0 rfl hy.n_len)) (gv_ixS 0 (gv_name 1)) gv_int)) nd)
    (gss_one (gs_ret (go_lst (ga_cons (gv_bin op_mul mul_ok (gv_callB call_abs abs_ok rfl hy.n_abs (by decide +kernel) (ga_cons (gv_name 2) ga_nil)) (gv_callTy call_int1 int1_ok rfl hy.n_int (by decide +kernel) (ga_cons (gv_cmp op_ge ge_ok (gv_callB call_abs abs_ok rfl hy.n_abs (by decide +kernel) (ga_cons (gv_name 2) ga_nil)) (gv_bin op_pow pow_ok gv_int gv_int)) ga_nil))) (ga_cons (gv_bin op_addD add_ok (gv_bin op_addD add_ok (gv_bin op_mod mod_ok (gv_callTy call_int1 int1_ok rfl hy.n_int (by decide +kernel) (ga_cons (gv_name 2) ga_nil)) gv_int) (gv_bin op_mul mul_ok gv_int (gv_name 1))) gv_int) (ga_cons gv_int ga_nil)))))))
/-! _law_take -/
abbrev s__law_take : Stmt := top 27
theorem sc__law_take : FnScope ["urn", "below", "once", "far", "twice", "drawn"] ["urn", "below"] (defScope s__law_take) := ⟨rfl, rfl, rfl, by decide +kernel, rfl, by decide +kernel, by decide +kernel⟩
noncomputable def b__law_take : PSt → Os :=
  (fSeq (fIfS (fTest (fBin dGt (fIxS 0 (fK (.int 0))) (fK (.int 0)))) (fSeq (fSet 5 (fun ps => ((fBin dMod (fApp dInt (fCons (fIxS 0 (fK (.int 0))) (fun ps => .ok [] ps))) (fN 1)) ps).map PV.val))
  (fSeq (fSetIx 0 (fK (.int 0)) (fBin dFdiv (fIxS 0 (fK (.int 0))) (fN 1)))
  (fRet (fMv 5)))) fSkip)
  (fSeq (fSetIx 0 (fK (.int 2)) (fBin dAdd (fIxS 0 (fK (.int 2))) (fK (.int 1))))
  (fSeq (fSet 2 (fun ps => ((fBin dMod (fApp dInt (fCons (fBin dMul (fBin dAdd (fIxS 0 (fK (.int 1))) (fBin dMul (fK (.int 48271)) (fIxS 0 (fK (.int 2))))) (fBin dAdd (fK (.int 39373)) (fIxS 0 (fK (.int 2))))) (fun ps => .ok [] ps))) (fK (.int 2147483647))) ps).map PV.val))
  (fSeq (fSet 3 (fun ps => ((fBin dAdd (fBin dMod (fApp dInt (fCons (fN 2) (fun ps => .ok [] ps))) (fK (.int 40009))) (fK (.int 7))) ps).map PV.val))
  (fSeq (fSet 4 (fun ps => ((fBin dMod (fApp dInt (fCons (fBin dMul (fBin dAdd (fBin dAdd (fN 2) (fIxS 0 (fK (.int 2)))) (fBin dFdiv (fIxS 0 (fK (.int 1))) (fK (.int 1000003)))) (fN 3)) (fun ps => .ok [] ps))) (fK (.int 2147483629))) ps).map PV.val))
  (fRet (fun ps => ((fBin dMod (fApp dInt (fCons (fBin dFdiv (fBin dMod (fApp dInt (fCons (fBin dAdd (fBin dMul (fN 4) (fK (.int 48271))) (fN 2)) (fun ps => .ok [] ps))) (fK (.int 2147483587))) (fK (.int 64))) (fun ps => .ok [] ps))) (fN 1)) ps).map PV.val)))))))
noncomputable def M__law_take : List PyData → List PyData → FRU := fun u ds => (b__law_take (startU 6 u ds)).finU
theorem bd__law_take {K : PySem.W.Frag} {f : Addr} {fd : FuncData} (Fn : FunD K "_law_take" "_law_take" (defArgs s__law_take) (defBody s__law_take) (defScope s__law_take) [] [] f fd) : Binds K fd ["urn", "below"] [] := Fn.bindsN fun _ _ _ _ _ _ us hl => match us, hl with | [_, _], _ => rfl
theorem ok__law_take {P : Program} {w : World} {K : PySem.W.Frag} {mg : Str → Option Value} {base : Heap} {f : Addr} {fd : FuncData} {C_Unfit : Addr} (Fn : FunD K "_law_take" "_law_take" (defArgs s__law_take) (defBody s__law_take) (defScope s__law_take) [] [] f fd) (hy : Hy K mg C_Unfit) (gf : mg "_law_take" = some (.ref f)) : GFu P w K mg base "_law_take" 1 1 M__law_take := by
  refine GFu.of_body (k := 0) (n := 1) (N := ["urn", "below", "once", "far", "twice", "drawn"]) (ps := ["urn", "below"]) Fn gf (bd__law_take Fn) sc__law_take rfl (g := b__law_take) fun cdv A outer s H E a hr => ?_
  have nd := sc__law_take.nd
  exact (gss_cons (gs_if (gt_cmp op_gt gt_ok (gv_ixS 0 gv_int) gv_int) (gss_cons (gs_set 5 (go_of (gv_bin op_mod mod_ok (gv_callTy call_int1 int1_ok rfl hy.n_int (by decide +kernel) (ga_cons (gv_ixS 0 gv_int) ga_nil)) (gv_name 1))) nd)
    (gss_cons (gs_setIx 0 (gv_bin op_fdiv fdiv_ok (gv_ixS 0 gv_int) (gv_name 1)) gv_int)
    (gss_one (gs_ret (go_move 5))))) gss_nil)
    (gss_cons (gs_setIx 0 (gv_bin op_addD add_ok (gv_ixS 0 gv_int) gv_int) gv_int)
    (gss_cons (gs_set 2 (go_of (gv_bin op_mod mod_ok (gv_callTy call_int1 int1_ok rfl hy.n_int (by decide +kernel) (ga_cons (gv_bin op_mul mul_ok (gv_bin op_addD add_ok (gv_ixS 0 gv_int) (gv_bin op_mul mul_ok gv_int (gv_ixS 0 gv_int))) (gv_bin op_addD add_ok gv_int (gv_ixS 0 gv_int))) ga_nil)) gv_int)) nd)
    (gss_cons (gs_set 3 (go_of (gv_bin op_addD add_ok (gv_bin op_mod mod_ok (gv_callTy call_int1 int1_ok rfl hy.n_int (by decide +kernel) (ga_cons (gv_name 2) ga_nil)) gv_int) gv_int)) nd)
    (gss_cons (gs_set 4 (go_of (gv_bin op_mod mod_ok (gv_callTy call_int1 int1_ok rfl hy.n_int (by decide +kernel) (ga_cons (gv_bin op_mul mul_ok (gv_bin op_addD add_ok (gv_bin op_addD add_ok (gv_name 2) (gv_ixS 0 gv_int)) (gv_bin op_fdiv fdiv_ok (gv_ixS 0 gv_int) gv_int)) (gv_name 3)) ga_nil)) gv_int)) nd)
    (gss_one (gs_ret (go_of (gv_bin op_mod mod_ok (gv_callTy call_int1 int1_ok rfl hy.n_int (by decide +kernel) (ga_cons (gv_bin op_fdiv fdiv_ok (gv_bin op_mod mod_ok (gv_callTy call_int1 int1_ok rfl hy.n_int (by decide +kernel) (ga_cons (gv_bin op_addD add_ok (gv_bin op_mul mul_ok (gv_name 4) gv_int) (gv_name 2)) ga_nil)) gv_int) gv_int) ga_nil)) (gv_name 1))))))))))
/-! _law_cells -/
abbrev s__law_cells : Stmt := top 28
theorem sc__law_cells : FnScope ["script", "many", "cells", "k", "cell", "at"] ["script", "many"] (defScope s__law_cells) := ⟨rfl, rfl, rfl, by decide +kernel, rfl, by decide +kernel, by decide +kernel⟩
noncomputable def b__law_cells : PSt → Os :=
  (fSeq (fSet 2 (fOrT (fAppO dList (fCons (fun ps => ((fSl (fN 0) fNoPart (fSomePart (fN 1))) ps).map PV.data) (fun ps => .ok [] ps))) (fLst (fCons (fK (.int 0)) (fun ps => .ok [] ps)))))
  (fSeq (fFor (fEnum (fCons (fun ps => ((fSl (fN 0) (fSomePart (fN 1)) (fSomePart (fK (.int 63)))) ps).map PV.data) (fun ps => .ok [] ps))) (uTup 2 (uCons (uN 3) (uCons (uN 4) uNil))) (fSeq (fSet 5 (fun ps => ((fBin dMod (fApp dInt (fCons (fN 3) (fun ps => .ok [] ps))) (fLenS 2)) ps).map PV.val))
  (fSetIx 2 (fN 5) (fBin dAdd (fIxS 2 (fN 5)) (fBin dMul (fN 4) (fBin dAdd (fN 3) (fK (.int 2))))))))
  (fRet (fMv 2))))
noncomputable def M__law_cells : List PyData → FR := fun ds => (b__law_cells (startP 6 ds)).fin
theorem bd__law_cells {K : PySem.W.Frag} {f : Addr} {fd : FuncData} (Fn : FunD K "_law_cells" "_law_cells" (defArgs s__law_cells) (defBody s__law_cells) (defScope s__law_cells) [] [] f fd) : Binds K fd ["script", "many"] [] := Fn.bindsN fun _ _ _ _ _ _ us hl => match us, hl with | [_, _], _ => rfl
theorem ok__law_cells {P : Program} {w : World} {K : PySem.W.Frag} {mg : Str → Option Value} {base : Heap} {f : Addr} {fd : FuncData} {C_Unfit : Addr} (Fn : FunD K "_law_cells" "_law_cells" (defArgs s__law_cells) (defBody s__law_cells) (defScope s__law_cells) [] [] f fd) (hy : Hy K mg C_Unfit) (gf : mg "_law_cells" = some (.ref f)) : GFn P w K mg base "_law_cells" 1 2 M__law_cells := by
  refine GFn.of_body (k := 0) (n := 2) (N := ["script", "many", "cells", "k", "cell", "at"]) (ps := ["script", "many"]) Fn gf (bd__law_cells Fn) sc__law_cells rfl (g := b__law_cells) fun cdv A outer s H E hr => ?_
  have nd := sc__law_cells.nd
  exact (gss_cons (gs_set 2 (go_orT (go_callTy call_list_of (list_ok) rfl hy.n_list (by decide +kernel) (ga_cons (gv_of (go_slice (gv_name 0) gp_none (gp_some (gv_name 1)))) ga_nil)) (go_one (go_lst (ga_cons gv_int ga_nil)))) nd)
    (gss_cons (gs_for (passes_of rfl) rfl (gi_enum rfl hy.n_enumerate (ga_cons (gv_of (go_slice (gv_name 0) (gp_some (gv_name 1)) (gp_some gv_int))) ga_nil)) (gg_tup rfl (ggs_cons (gg_name 3 nd) (ggs_cons (gg_name 4 nd) ggs_nil))) (gss_cons (gs_set 5 (go_of (gv_bin op_mod mod_ok (gv_callTy call_int1 int1_ok rfl hy.n_int (by decide +kernel) (ga_cons (gv_name 3) ga_nil)) (gv_lenS 2 rfl hy.n_len))) nd)
    (gss_one (gs_setIx 2 (gv_bin op_addD add_ok (gv_ixS 2 (gv_name 5)) (gv_bin op_mul mul_ok (gv_name 4) (gv_bin op_addD add_ok (gv_name 3) gv_int))) (gv_name 5)))))
    (gss_one (gs_ret (go_move 2)))))
/-! _law_same -/
abbrev s__law_same : Stmt := top 29
theorem sc__law_same : FnScope ["got", "goal", "mine", "own"] ["got", "goal"] (defScope s__law_same) := ⟨rfl, rfl, rfl, by decide +kernel, rfl, by decide +kernel, by decide +kernel⟩
noncomputable def b__law_same (M : List PyData → FR) : PSt → Os :=
  (fSeq (fIfS (fTest (fIsi (isa2 "list" "tuple") (fN 1))) (fSeq (fIfS (fOr (fTest (fBin dNe (fIsi (isaD "list") (fN 0)) (fIsi (isaD "list") (fN 1)))) (fTest (fBin dNe (fIsi (isaD "tuple") (fN 0)) (fIsi (isaD "tuple") (fN 1))))) (fRet (fun ps => ((fK (.bool false)) ps).map PV.val)) fSkip)
  (fRet (fun ps => ((fAndV (fBin dEq (fLenS 0) (fLenS 1)) (fApp dAll (fCons (fun ps => ((fLc (fZip (fCons (fN 0) (fCons (fN 1) (fun ps => .ok [] ps)))) (uTup 2 (uCons (uN 2) (uCons (uN 3) uNil))) cYes (fun ps => ((fCall 2 M (fCons (fN 2) (fCons (fN 3) (fun ps => .ok [] ps)))) ps).map PV.data) [2, 3]) ps).map PV.data) (fun ps => .ok [] ps)))) ps).map PV.val))) fSkip)
  (fSeq (fIfS (fOr (fTest (fBinS dIs 1 (fK .none))) (fTest (fIsi (isa2 "bool" "str") (fN 1)))) (fRet (fun ps => ((fAndV (fBinS dEq 0 (fN 1)) (fAndV (fBin dEq (fIsi (isaD "str") (fN 0)) (fIsi (isaD "str") (fN 1))) (fAndV (fBin dEq (fIsi (isaD "bool") (fN 0)) (fIsi (isaD "bool") (fN 1))) (fBin dEq (fBinS dIs 0 (fK .none)) (fBinS dIs 1 (fK .none)))))) ps).map PV.val)) fSkip)
  (fRet (fun ps => ((fAndV (fIsi (isaD "int") (fN 0)) (fAndV (fNotV (fIsi (isaD "bool") (fN 0))) (fBinS dEq 0 (fN 1)))) ps).map PV.val))))
noncomputable def R__law_same : Nat → List PyData → FR
  | 0 => fun _ => .bad
  | k + 1 => fun ds => (b__law_same (R__law_same k) (startP 4 ds)).fin
noncomputable def M__law_same : List PyData → FR := R__law_same 40
theorem bd__law_same {K : PySem.W.Frag} {f : Addr} {fd : FuncData} (Fn : FunD K "_law_same" "_law_same" (defArgs s__law_same) (defBody s__law_same) (defScope s__law_same) [] [] f fd) : Binds K fd ["got", "goal"] [] := Fn.bindsN fun _ _ _ _ _ _ us hl => match us, hl with | [_, _], _ => rfl
theorem okR__law_same {P : Program} {w : World} {K : PySem.W.Frag} {mg : Str → Option Value} {base : Heap} {f : Addr} {fd : FuncData} {C_Unfit : Addr} (Fn : FunD K "_law_same" "_law_same" (defArgs s__law_same) (defBody s__law_same) (defScope s__law_same) [] [] f fd) (hy : Hy K mg C_Unfit) (gf : mg "_law_same" = some (.ref f)) : ∀ j, GFn P w K mg base "_law_same" (j + 0) 2 (R__law_same j)
  | 0 => GFn.zero (ps := ["got", "goal"]) rfl gf Fn.kp (bd__law_same Fn)
  | j + 1 => by
    have G__law_same := okR__law_same (P := P) (w := w) (base := base) Fn hy gf j
    refine GFn.mono (k := j + 0 + 1) (M := fun ds => (b__law_same (R__law_same j) (startP 4 ds)).fin) ?_ (by omega) fun ds => .inr rfl
    refine GFn.of_body (k := j + 0) (n := 2) (N := ["got", "goal", "mine", "own"]) (ps := ["got", "goal"]) Fn gf (bd__law_same Fn) sc__law_same rfl (g := b__law_same (R__law_same j)) fun cdv A outer s H E hr => ?_
    have nd := sc__law_same.nd
    exact (gss_cons (gs_if (gt_val (gv_isi2 (tn := "list") (tn2 := "tuple") (gv_name 1) rfl hy.n_isinstance rfl hy.n_list (by decide +kernel) rfl hy.n_tuple (by decide +kernel))) (gss_cons (gs_if (gt_w (gw_or (gt_cmp (op_neD hr.units) ne_ok (gv_isi (tn := "list") (gv_name 0) rfl hy.n_isinstance rfl hy.n_list (by decide +kernel)) (gv_isi (tn := "list") (gv_name 1) rfl hy.n_isinstance rfl hy.n_list (by decide +kernel))) (gw_or1 (gt_cmp (op_neD hr.units) ne_ok (gv_isi (tn := "tuple") (gv_name 0) rfl hy.n_isinstance rfl hy.n_tuple (by decide +kernel)) (gv_isi (tn := "tuple") (gv_name 1) rfl hy.n_isinstance rfl hy.n_tuple (by decide +kernel)))))) (gss_one (gs_ret (go_of gv_bl))) gss_nil)
    (gss_one (gs_ret (go_of (gv_and (gv_cmp (op_eqD hr.units) eq_ok (gv_lenS 0 rfl hy.n_len) (gv_lenS 1 rfl hy.n_len)) (gv_one (gv_callB (cr_all rfl) all_ok rfl hy.n_all (by decide +kernel) (ga_cons (gv_of (go_lc [("mine", 2), ("own", 3)] rfl nd (gi_zip rfl hy.n_zip (ga_cons (gv_name 0) (ga_cons (gv_name 1) ga_nil))) (blkOk_by (N := ["got", "goal", "mine", "own"]) (sc := defScope s__law_same) (own := [("mine", 2), ("own", 3)]) (by decide +kernel)) (fun _ _ _ _ _ => (gg_tup rfl (ggs_cons (gg_name 2 nd) (ggs_cons (gg_name 3 nd) ggs_nil)))) (fun _ _ _ _ _ => gts_nil) (fun _ _ _ _ _ => (gv_of (go_call G__law_same hr rfl takes0 (ga_cons (gv_name 2) (ga_cons (gv_name 3) ga_nil))))))) ga_nil)))))))) gss_nil)
    (gss_cons (gs_if (gt_w (gw_or (gt_cmpS 1 op_isD is_ok bool_dIs gv_non) (gw_or1 (gt_val (gv_isi2 (tn := "bool") (tn2 := "str") (gv_name 1) rfl hy.n_isinstance rfl hy.n_bool (by decide +kernel) rfl hy.n_str (by decide +kernel)))))) (gss_one (gs_ret (go_of (gv_and (gv_cmpS 0 (op_eqD hr.units) eq_ok bool_dEq (gv_name 1)) (gv_and (gv_cmp (op_eqD hr.units) eq_ok (gv_isi (tn := "str") (gv_name 0) rfl hy.n_isinstance rfl hy.n_str (by decide +kernel)) (gv_isi (tn := "str") (gv_name 1) rfl hy.n_isinstance rfl hy.n_str (by decide +kernel))) (gv_and (gv_cmp (op_eqD hr.units) eq_ok (gv_isi (tn := "bool") (gv_name 0) rfl hy.n_isinstance rfl hy.n_bool (by decide +kernel)) (gv_isi (tn := "bool") (gv_name 1) rfl hy.n_isinstance rfl hy.n_bool (by decide +kernel))) (gv_one (gv_cmp (op_eqD hr.units) eq_ok (gv_cmpS 0 op_isD is_ok bool_dIs gv_non) (gv_cmpS 1 op_isD is_ok bool_dIs gv_non))))))))) gss_nil)
    (gss_one (gs_ret (go_of (gv_and (gv_isi (tn := "int") (gv_name 0) rfl hy.n_isinstance rfl hy.n_int (by decide +kernel)) (gv_and (gv_not (gv_isi (tn := "bool") (gv_name 0) rfl hy.n_isinstance rfl hy.n_bool (by decide +kernel))) (gv_one (gv_cmpS 0 (op_eqD hr.units) eq_ok bool_dEq (gv_name 1))))))))))
theorem ok__law_same {P : Program} {w : World} {K : PySem.W.Frag} {mg : Str → Option Value} {base : Heap} {f : Addr} {fd : FuncData} {C_Unfit : Addr} (Fn : FunD K "_law_same" "_law_same" (defArgs s__law_same) (defBody s__law_same) (defScope s__law_same) [] [] f fd) (hy : Hy K mg C_Unfit) (gf : mg "_law_same" = some (.ref f)) : GFn P w K mg base "_law_same" 40 2 M__law_same := okR__law_same Fn hy gf 40
/-! _law_lists -/
abbrev s__law_lists : Stmt := top 30
theorem sc__law_lists : FnScope ["matter", "own"] ["matter"] (defScope s__law_lists) := ⟨rfl, rfl, rfl, by decide +kernel, rfl, by decide +kernel, by decide +kernel⟩
noncomputable def b__law_lists (M : List PyData → FR) : PSt → Os :=
  (fRet (fun ps => ((fIf (fTest (fIsi (isa2 "list" "tuple") (fN 0))) (fun ps => ((fLc (fSeqI (fN 0)) (uN 1) cYes (fun ps => ((fCall 1 M (fCons (fN 1) (fun ps => .ok [] ps))) ps).map PV.data) [1]) ps).map PV.data) (fN 0)) ps).map PV.val))
noncomputable def R__law_lists : Nat → List PyData → FR
  | 0 => fun _ => .bad
  | k + 1 => fun ds => (b__law_lists (R__law_lists k) (startP 2 ds)).fin
noncomputable def M__law_lists : List PyData → FR := R__law_lists 40
theorem bd__law_lists {K : PySem.W.Frag} {f : Addr} {fd : FuncData} (Fn : FunD K "_law_lists" "_law_lists" (defArgs s__law_lists) (defBody s__law_lists) (defScope s__law_lists) [] [] f fd) : Binds K fd ["matter"] [] := Fn.bindsN fun _ _ _ _ _ _ us hl => match us, hl with | [_], _ => rfl
theorem okR__law_lists {P : Program} {w : World} {K : PySem.W.Frag} {mg : Str → Option Value} {base : Heap} {f : Addr} {fd : FuncData} {C_Unfit : Addr} (Fn : FunD K "_law_lists" "_law_lists" (defArgs s__law_lists) (defBody s__law_lists) (defScope s__law_lists) [] [] f fd) (hy : Hy K mg C_Unfit) (gf : mg "_law_lists" = some (.ref f)) : ∀ j, GFn P w K mg base "_law_lists" (j + 0) 1 (R__law_lists j)
  | 0 => GFn.zero (ps := ["matter"]) rfl gf Fn.kp (bd__law_lists Fn)
  | j + 1 => by
    have G__law_lists := okR__law_lists (P := P) (w := w) (base := base) Fn hy gf j
    refine GFn.mono (k := j + 0 + 1) (M := fun ds => (b__law_lists (R__law_lists j) (startP 2 ds)).fin) ?_ (by omega) fun ds => .inr rfl
    refine GFn.of_body (k := j + 0) (n := 1) (N := ["matter", "own"]) (ps := ["matter"]) Fn gf (bd__law_lists Fn) sc__law_lists rfl (g := b__law_lists (R__law_lists j)) fun cdv A outer s H E hr => ?_
    have nd := sc__law_lists.nd
    exact (gss_one (gs_ret (go_of (gv_if (gt_val (gv_isi2 (tn := "list") (tn2 := "tuple") (gv_name 0) rfl hy.n_isinstance rfl hy.n_list (by decide +kernel) rfl hy.n_tuple (by decide +kernel))) (gv_of (go_lc [("own", 1)] rfl nd (gi_seq (gv_name 0)) (blkOk_by (N := ["matter", "own"]) (sc := defScope s__law_lists) (own := [("own", 1)]) (by decide +kernel)) (fun _ _ _ _ _ => (gg_name 1 nd)) (fun _ _ _ _ _ => gts_nil) (fun _ _ _ _ _ => (gv_of (go_call G__law_lists hr rfl takes0 (ga_cons (gv_name 1) ga_nil)))))) (gv_name 0)))))
theorem ok__law_lists {P : Program} {w : World} {K : PySem.W.Frag} {mg : Str → Option Value} {base : Heap} {f : Addr} {fd : FuncData} {C_Unfit : Addr} (Fn : FunD K "_law_lists" "_law_lists" (defArgs s__law_lists) (defBody s__law_lists) (defScope s__law_lists) [] [] f fd) (hy : Hy K mg C_Unfit) (gf : mg "_law_lists" = some (.ref f)) : GFn P w K mg base "_law_lists" 40 1 M__law_lists := okR__law_lists Fn hy gf 40
/-! _law_pairs -/
abbrev s__law_pairs : Stmt := top 31
theorem sc__law_pairs : FnScope ["one", "other", "found", "near", "far"] ["one", "other"] (defScope s__law_pairs) := ⟨rfl, rfl, rfl, by decide +kernel, rfl, by decide +kernel, by decide +kernel⟩
noncomputable def b__law_pairs : PSt → Os :=
  (fSeq (fSet 2 (fLst (fun ps => .ok [] ps)))
  (fSeq (fFor (fSeqI (fN 0)) (uN 3) (fSet 2 (fBinO dCatL (fN 2) (fun ps => ((fLc (fSeqI (fN 1)) (uN 4) cYes (fTup (fCons (fN 3) (fCons (fN 4) (fun ps => .ok [] ps)))) [4]) ps).map PV.data))))
  (fRet (fMv 2))))
noncomputable def M__law_pairs : List PyData → FR := fun ds => (b__law_pairs (startP 5 ds)).fin
theorem bd__law_pairs {K : PySem.W.Frag} {f : Addr} {fd : FuncData} (Fn : FunD K "_law_pairs" "_law_pairs" (defArgs s__law_pairs) (defBody s__law_pairs) (defScope s__law_pairs) [] [] f fd) : Binds K fd ["one", "other"] [] := Fn.bindsN fun _ _ _ _ _ _ us hl => match us, hl with | [_, _], _ => rfl
theorem ok__law_pairs {P : Program} {w : World} {K : PySem.W.Frag} {mg : Str → Option Value} {base : Heap} {f : Addr} {fd : FuncData} {C_Unfit : Addr} (Fn : FunD K "_law_pairs" "_law_pairs" (defArgs s__law_pairs) (defBody s__law_pairs) (defScope s__law_pairs) [] [] f fd) (hy : Hy K mg C_Unfit) (gf : mg "_law_pairs" = some (.ref f)) : GFn P w K mg base "_law_pairs" 1 2 M__law_pairs := by
  refine GFn.of_body (k := 0) (n := 2) (N := ["one", "other", "found", "near", "far"]) (ps := ["one", "other"]) Fn gf (bd__law_pairs Fn) sc__law_pairs rfl (g := b__law_pairs) fun cdv A outer s H E hr => ?_
  have nd := sc__law_pairs.nd
  exact (gss_cons (gs_set 2 (go_lst ga_nil) nd)
    (gss_cons (gs_for (passes_of rfl) rfl (gi_seq (gv_name 0)) (gg_name 3 nd) (gss_one (gs_set 2 (go_catL (gv_name 2) (gv_of (go_lc [("far", 4)] rfl nd (gi_seq (gv_name 1)) (blkOk_by (N := ["one", "other", "found", "near", "far"]) (sc := defScope s__law_pairs) (own := [("far", 4)]) (by decide +kernel)) (fun _ _ _ _ _ => (gg_name 4 nd)) (fun _ _ _ _ _ => gts_nil) (fun _ _ _ _ _ => (gv_tup (ga_cons (gv_name 3) (ga_cons (gv_name 4) ga_nil))))))) nd)))
    (gss_one (gs_ret (go_move 2)))))
/-! _law_piece -/
abbrev s__law_piece : Stmt := top 32
theorem sc__law_piece : FnScope ["urn", "most", "k"] ["urn", "most"] (defScope s__law_piece) := ⟨rfl, rfl, rfl, by decide +kernel, rfl, by decide +kernel, by decide +kernel⟩
noncomputable def b__law_piece : PSt → Os :=
  (fRet (fun ps => ((fApp dTuple (fCons (fun ps => ((fLc (fRange1 (fCons (fun ps => ((fCallU 0 1 M__law_take (fCons (fBin dAdd (fN 1) (fK (.int 1))) (fun ps => .ok [] ps))) ps).map PV.data) (fun ps => .ok [] ps))) (uN 2) cYes (fBin dIx (fTup (fCons (fK (.int 0)) (fCons (fK (.int 1)) (fCons (fK (.int 1)) (fCons (fK (.int 2)) (fun ps => .ok [] ps)))))) (fun ps => ((fCallU 0 1 M__law_take (fCons (fK (.int 4)) (fun ps => .ok [] ps))) ps).map PV.data)) [2]) ps).map PV.data) (fun ps => .ok [] ps))) ps).map PV.val))
noncomputable def M__law_piece : List PyData → List PyData → FRU := fun u ds => (b__law_piece (startU 3 u ds)).finU
theorem bd__law_piece {K : PySem.W.Frag} {f : Addr} {fd : FuncData} (Fn : FunD K "_law_piece" "_law_piece" (defArgs s__law_piece) (defBody s__law_piece) (defScope s__law_piece) [] [] f fd) : Binds K fd ["urn", "most"] [] := Fn.bindsN fun _ _ _ _ _ _ us hl => match us, hl with | [_, _], _ => rfl
theorem ok__law_piece {P : Program} {w : World} {K : PySem.W.Frag} {mg : Str → Option Value} {base : Heap} {f : Addr} {fd : FuncData} {C_Unfit : Addr} (Fn : FunD K "_law_piece" "_law_piece" (defArgs s__law_piece) (defBody s__law_piece) (defScope s__law_piece) [] [] f fd) (hy : Hy K mg C_Unfit) (gf : mg "_law_piece" = some (.ref f)) (G__law_take : GFu P w K mg base "_law_take" 1 1 M__law_take) : GFu P w K mg base "_law_piece" 2 1 M__law_piece := by
  refine GFu.of_body (k := 1) (n := 1) (N := ["urn", "most", "k"]) (ps := ["urn", "most"]) Fn gf (bd__law_piece Fn) sc__law_piece rfl (g := b__law_piece) fun cdv A outer s H E a hr => ?_
  have nd := sc__law_piece.nd
  exact (gss_one (gs_ret (go_of (gv_callTy call_tuple_of (tuple_ok) rfl hy.n_tuple (by decide +kernel) (ga_cons (gv_of (go_lc [("k", 2)] rfl nd (gi_range1 rfl hy.n_range (ga_cons (gv_of (go_callU 0 G__law_take (hr.mono (by decide)) rfl (takes_of rfl rfl rfl rfl) (ga_cons (gv_bin op_addD add_ok (gv_name 1) gv_int) ga_nil))) ga_nil)) (blkOk_by (N := ["urn", "most", "k"]) (sc := defScope s__law_piece) (own := [("k", 2)]) (by decide +kernel)) (fun _ _ _ _ _ => (gg_name 2 nd)) (fun _ _ _ _ _ => gts_nil) (fun _ _ _ _ _ => (gv_ix (gv_tup (ga_cons gv_int (ga_cons gv_int (ga_cons gv_int (ga_cons gv_int ga_nil))))) (gv_of (go_callU 0 G__law_take (hr.mono (by decide)) rfl takes0 (ga_cons gv_int ga_nil))))))) ga_nil)))))
/-! _law_set -/
abbrev s__law_set : Stmt := top 33
theorem sc__law_set : FnScope ["things"] ["things"] (defScope s__law_set) := ⟨rfl, rfl, rfl, by decide +kernel, rfl, by decide +kernel, by decide +kernel⟩
noncomputable def b__law_set : PSt → Os :=
  (fRet (fun ps => ((fApp dTuple (fCons (fun ps => ((fAppO GS.dSortSetA (fCons (fN 0) (fun ps => .ok [] ps))) ps).map PV.data) (fun ps => .ok [] ps))) ps).map PV.val))
noncomputable def M__law_set : List PyData → FR := fun ds => (b__law_set (startP 1 ds)).fin
theorem bd__law_set {K : PySem.W.Frag} {f : Addr} {fd : FuncData} (Fn : FunD K "_law_set" "_law_set" (defArgs s__law_set) (defBody s__law_set) (defScope s__law_set) [] [] f fd) : Binds K fd ["things"] [] := Fn.bindsN fun _ _ _ _ _ _ us hl => match us, hl with | [_], _ => rfl
theorem ok__law_set {P : Program} {w : World} {K : PySem.W.Frag} {mg : Str → Option Value} {base : Heap} {f : Addr} {fd : FuncData} {C_Unfit : Addr} (Fn : FunD K "_law_set" "_law_set" (defArgs s__law_set) (defBody s__law_set) (defScope s__law_set) [] [] f fd) (hy : Hy K mg C_Unfit) (gf : mg "_law_set" = some (.ref f)) : GFn P w K mg base "_law_set" 1 1 M__law_set := by
  refine GFn.of_body (k := 0) (n := 1) (N := ["things"]) (ps := ["things"]) Fn gf (bd__law_set Fn) sc__law_set rfl (g := b__law_set) fun cdv A outer s H E hr => ?_
  have nd := sc__law_set.nd
  exact (gss_one (gs_ret (go_of (gv_callTy call_tuple_of (tuple_ok) rfl hy.n_tuple (by decide +kernel) (ga_cons (gv_of (GS.go_sortSetA rfl (Nat.lt_of_succ_lt hr.u65) rfl hy.n_sorted rfl hy.n_set (ga_cons (gv_name 0) ga_nil))) ga_nil)))))
/-! _law_lag -/
abbrev s__law_lag : Stmt := top 34
theorem sc__law_lag : FnScope ["one", "other", "k", "near", "far"] ["one", "other"] (defScope s__law_lag) := ⟨rfl, rfl, rfl, by decide +kernel, rfl, by decide +kernel, by decide +kernel⟩
noncomputable def b__law_lag : PSt → Os :=
  (fSeq (fSet 2 (fun ps => ((fK (.int 0)) ps).map PV.val))
  (fSeq (fFor (fZip (fCons (fN 0) (fCons (fN 1) (fun ps => .ok [] ps)))) (uTup 2 (uCons (uN 3) (uCons (uN 4) uNil))) (fIfS (fAnd (fTest (fBinS dEq 3 (fN 4))) (fTest (fBin dEq (fun ps => ((fSl (fN 0) fNoPart (fSomePart (fBin dAdd (fN 2) (fK (.int 1))))) ps).map PV.data) (fun ps => ((fSl (fN 1) fNoPart (fSomePart (fBin dAdd (fN 2) (fK (.int 1))))) ps).map PV.data)))) (fSet 2 (fun ps => ((fBin dAdd (fN 2) (fK (.int 1))) ps).map PV.val)) fSkip))
  (fRet (fun ps => ((fTup (fCons (fun ps => ((fSl (fN 0) (fSomePart (fN 2)) fNoPart) ps).map PV.data) (fCons (fun ps => ((fSl (fN 1) (fSomePart (fN 2)) fNoPart) ps).map PV.data) (fun ps => .ok [] ps)))) ps).map PV.val))))
noncomputable def M__law_lag : List PyData → FR := fun ds => (b__law_lag (startP 5 ds)).fin
theorem bd__law_lag {K : PySem.W.Frag} {f : Addr} {fd : FuncData} (Fn : FunD K "_law_lag" "_law_lag" (defArgs s__law_lag) (defBody s__law_lag) (defScope s__law_lag) [] [] f fd) : Binds K fd ["one", "other"] [] := Fn.bindsN fun _ _ _ _ _ _ us hl => match us, hl with | [_, _], _ => rfl
theorem ok__law_lag {P : Program} {w : World} {K : PySem.W.Frag} {mg : Str → Option Value} {base : Heap} {f : Addr} {fd : FuncData} {C_Unfit : Addr} (Fn : FunD K "_law_lag" "_law_lag" (defArgs s__law_lag) (defBody s__law_lag) (defScope s__law_lag) [] [] f fd) (hy : Hy K mg C_Unfit) (gf : mg "_law_lag" = some (.ref f)) : GFn P w K mg base "_law_lag" 1 2 M__law_lag := by
  refine GFn.of_body (k := 0) (n := 2) (N := ["one", "other", "k", "near", "far"]) (ps := ["one", "other"]) Fn gf (bd__law_lag Fn) sc__law_lag rfl (g := b__law_lag) fun cdv A outer s H E hr => ?_
  have nd := sc__law_lag.nd
  exact (gss_cons (gs_set 2 (go_of gv_int) nd)
    (gss_cons (gs_for (passes_of rfl) rfl (gi_zip rfl hy.n_zip (ga_cons (gv_name 0) (ga_cons (gv_name 1) ga_nil))) (gg_tup rfl (ggs_cons (gg_name 3 nd) (ggs_cons (gg_name 4 nd) ggs_nil))) (gss_one (gs_if (gt_w (gw_and (gt_cmpS 3 (op_eqD hr.units) eq_ok bool_dEq (gv_name 4)) (gw_and1 (gt_cmp (op_eqD hr.units) eq_ok (gv_of (go_slice (gv_name 0) gp_none (gp_some (gv_bin op_addD add_ok (gv_name 2) gv_int)))) (gv_of (go_slice (gv_name 1) gp_none (gp_some (gv_bin op_addD add_ok (gv_name 2) gv_int)))))))) (gss_one (gs_set 2 (go_of (gv_bin op_addD add_ok (gv_name 2) gv_int)) nd)) gss_nil)))
    (gss_one (gs_ret (go_of (gv_tup (ga_cons (gv_of (go_slice (gv_name 0) (gp_some (gv_name 2)) gp_none)) (ga_cons (gv_of (go_slice (gv_name 1) (gp_some (gv_name 2)) gp_none)) ga_nil))))))))
/-! _law_lots -/
abbrev s__law_lots : Stmt := top 35
theorem sc__law_lots : FnScope ["pieces", "number", "left", "found", "lot", "lap", "own", "far", "part"] ["pieces", "number"] (defScope s__law_lots) := ⟨rfl, rfl, rfl, by decide +kernel, rfl, by decide +kernel, by decide +kernel⟩
noncomputable def b__law_lots : PSt → Os :=
  (fSeq (fPar 2 3 (fAppO dList (fCons (fun ps => ((fCall 1 M__law_set (fCons (fN 0) (fun ps => .ok [] ps))) ps).map PV.data) (fun ps => .ok [] ps))) (fLst (fun ps => .ok [] ps)))
  (fSeq (fWhile (fTest (fBinS dNe 2 (fun ps => ((fLst (fun ps => .ok [] ps)) ps).map PV.data))) (fSeq (fSet 4 (fLst (fCons (fIxS 2 (fK (.int 0))) (fun ps => .ok [] ps))))
  (fSeq (fFor (fSeqI (fN 2)) (uN 5) (fSet 4 (fBinO dCatL (fN 4) (fun ps => ((fLc (fSeqI (fN 2)) (uN 6) (fAnd (fTest (fBinSS dNotInA 6 4)) (fTest (fBin dNe (fun ps => ((fLc (fSeqI (fN 4)) (uN 7) (fTest (fBin dLe (fApp dSum (fCons (fun ps => ((fLc (fSeqI (fun ps => ((fCall 2 M__law_lag (fCons (fN 6) (fCons (fN 7) (fun ps => .ok [] ps)))) ps).map PV.data)) (uN 8) cYes (fLenS 8) [8]) ps).map PV.data) (fun ps => .ok [] ps))) (fN 1))) (fN 7) [7]) ps).map PV.data) (fun ps => ((fLst (fun ps => .ok [] ps)) ps).map PV.data)))) (fN 6) [6]) ps).map PV.data))))
  (fSeq (fExpr (fMeth 3 dAppend (fCons (fun ps => ((fCall 1 M__law_set (fCons (fN 4) (fun ps => .ok [] ps))) ps).map PV.data) (fun ps => .ok [] ps))))
  (fSet 2 (fLc (fSeqI (fN 2)) (uN 6) (fTest (fBinSS dNotInA 6 4)) (fN 6) [6]))))))
  (fRet (fCall 1 M__law_set (fCons (fN 3) (fun ps => .ok [] ps))))))
noncomputable def M__law_lots : List PyData → FR := fun ds => (b__law_lots (startP 9 ds)).fin
theorem bd__law_lots {K : PySem.W.Frag} {f : Addr} {fd : FuncData} (Fn : FunD K "_law_lots" "_law_lots" (defArgs s__law_lots) (defBody s__law_lots) (defScope s__law_lots) [] [] f fd) : Binds K fd ["pieces", "number"] [] := Fn.bindsN fun _ _ _ _ _ _ us hl => match us, hl with | [_, _], _ => rfl
theorem ok__law_lots {P : Program} {w : World} {K : PySem.W.Frag} {mg : Str → Option Value} {base : Heap} {f : Addr} {fd : FuncData} {C_Unfit : Addr} (Fn : FunD K "_law_lots" "_law_lots" (defArgs s__law_lots) (defBody s__law_lots) (defScope s__law_lots) [] [] f fd) (hy : Hy K mg C_Unfit) (gf : mg "_law_lots" = some (.ref f)) (G__law_set : GFn P w K mg base "_law_set" 1 1 M__law_set) (G__law_lag : GFn P w K mg base "_law_lag" 1 2 M__law_lag) : GFn P w K mg base "_law_lots" 2 2 M__law_lots := by
  refine GFn.of_body (k := 1) (n := 2) (N := ["pieces", "number", "left", "found", "lot", "lap", "own", "far", "part"]) (ps := ["pieces", "number"]) Fn gf (bd__law_lots Fn) sc__law_lots rfl (g := b__law_lots) fun cdv A outer s H E hr => ?_
  have nd := sc__law_lots.nd
  exact (gss_cons (gs_par 2 3 (go_callTy call_list_of (list_ok) rfl hy.n_list (by decide +kernel) (ga_cons (gv_of (go_call G__law_set (hr.mono (by decide)) rfl (takes_of rfl rfl rfl rfl) (ga_cons (gv_name 0) ga_nil))) ga_nil)) (go_lst ga_nil) rfl nd rfl rfl (by rfl))
    (gss_cons (gs_while (passes_of rfl) (gt_cmpS 2 (op_neD hr.units) ne_ok bool_dNe (gv_of (go_lst ga_nil))) (gss_cons (gs_set 4 (go_lst (ga_cons (gv_ixS 2 gv_int) ga_nil)) nd)
    (gss_cons (gs_for (passes_of rfl) rfl (gi_seq (gv_name 2)) (gg_name 5 nd) (gss_one (gs_set 4 (go_catL (gv_name 4) (gv_of (go_lc [("own", 6)] rfl nd (gi_seq (gv_name 2)) (blkOk_by (N := ["pieces", "number", "left", "found", "lot", "lap", "own", "far", "part"]) (sc := defScope s__law_lots) (own := [("own", 6)]) (by decide +kernel)) (fun _ _ _ _ _ => (gg_name 6 nd)) (fun _ _ _ _ _ => (gts_one (gt_w (gw_and (gt_cmpSS 6 4 (op_notInA hr.u65) notInA_ok bool_dNotInA) (gw_and1 (gt_cmp (op_neD hr.units) ne_ok (gv_of (go_lc [("far", 7)] rfl nd (gi_seq (gv_name 4)) (blkOk_by (N := ["pieces", "number", "left", "found", "lot", "lap", "own", "far", "part"]) (sc := { kind := .function, names := [(".0", .local), ("own", .cell), ("lot", .cell), ("number", .cell)], isGenerator := false, isCoroutine := false }) (own := [("far", 7)]) (by decide +kernel)) (fun _ _ _ _ _ => (gg_name 7 nd)) (fun _ _ _ _ _ => (gts_one (gt_cmp op_le le_ok (gv_callB (cr_sum rfl) sum_ok rfl hy.n_sum (by decide +kernel) (ga_cons (gv_of (go_lc [("part", 8)] rfl nd (gi_seq (gv_of (go_call G__law_lag (hr.mono (by decide)) rfl takes0 (ga_cons (gv_name 6) (ga_cons (gv_name 7) ga_nil))))) (blkOk_by (N := ["pieces", "number", "left", "found", "lot", "lap", "own", "far", "part"]) (sc := { kind := .function, names := [(".0", .local), ("far", .local), ("sum", .globalImplicit), ("_law_lag", .globalImplicit), ("number", .cell), ("own", .cell)], isGenerator := false, isCoroutine := false }) (own := [("part", 8)]) (by decide +kernel)) (fun _ _ _ _ _ => (gg_name 8 nd)) (fun _ _ _ _ _ => gts_nil) (fun _ _ _ _ _ => (gv_lenS 8 rfl hy.n_len)))) ga_nil)) (gv_name 1)))) (fun _ _ _ _ _ => (gv_name 7)))) (gv_of (go_lst ga_nil)))))))) (fun _ _ _ _ _ => (gv_name 6))))) nd)))
    (gss_cons (gs_expr (gv_append 3 (ga_cons (gv_of (go_call G__law_set (hr.mono (by decide)) rfl (takes_of rfl rfl rfl rfl) (ga_cons (gv_name 4) ga_nil))) ga_nil)))
    (gss_one (gs_setLc 2 [("own", 6)] rfl nd rfl (sw_true rfl rfl rfl (by decide +kernel)) (gi_seq (gv_name 2)) (blkOk_by (N := ["pieces", "number", "left", "found", "lot", "lap", "own", "far", "part"]) (sc := defScope s__law_lots) (own := [("own", 6)]) (by decide +kernel)) (fun _ _ _ _ _ => (gg_name 6 nd)) (fun _ _ _ _ _ => (gts_one (gt_cmpSS 6 4 (op_notInA hr.u65) notInA_ok bool_dNotInA))) (fun _ _ _ _ _ => (gv_name 6))))))))
    (gss_one (gs_ret (go_call G__law_set (hr.mono (by decide)) rfl (takes_of rfl rfl rfl rfl) (ga_cons (gv_name 3) ga_nil))))))
/-! law -/
abbrev s_law : Stmt := top 36
theorem sc_law : FnScope ["script", "urn", "pieces", "before", "number", "far", "top", "longer", "lots", "head", "moved", "new", "joined", "flat", "lot", "due", "lap", "own", "one", "other"] ["script"] (defScope s_law) := ⟨rfl, rfl, rfl, by decide +kernel, rfl, by decide +kernel, by decide +kernel⟩
noncomputable def b_law : PSt → Os :=
  (fSeq (fSet 1 (fCall 2 M__law_box (fCons (fun ps => ((fCall 2 M__law_cells (fCons (fN 0) (fCons (fK (.int 1)) (fun ps => .ok [] ps)))) ps).map PV.data) (fCons (fK (.int 0)) (fun ps => .ok [] ps)))))
  (fSeq (fSet 2 (fLc (fRange1 (fCons (fBin dAdd (fK (.int 1)) (fun ps => ((fCallU 1 1 M__law_take (fCons (fK (.int 7)) (fun ps => .ok [] ps))) ps).map PV.data)) (fun ps => .ok [] ps))) (uN 16) cYes (fun ps => ((fCallU 1 1 M__law_piece (fCons (fK (.int 4)) (fun ps => .ok [] ps))) ps).map PV.data) [16]))
  (fSeq (fIfS (fTest (fBin dEq (fun ps => ((fCallU 1 1 M__law_take (fCons (fK (.int 2)) (fun ps => .ok [] ps))) ps).map PV.data) (fK (.int 0)))) (fSet 2 (fBinO dCatL (fN 2) (fun ps => ((fLst (fCons (fBin dAdd (fIxS 2 (fK (.int 0))) (fun ps => ((fCallU 1 1 M__law_piece (fCons (fK (.int 2)) (fun ps => .ok [] ps))) ps).map PV.data)) (fCons (fIxS 2 (fUn dNeg (fK (.int 1)))) (fun ps => .ok [] ps)))) ps).map PV.data))) fSkip)
  (fSeq (fSet 3 (fun ps => ((fK .none) ps).map PV.val))
  (fSeq (fFor (fRange1 (fCons (fK (.int 8)) (fun ps => .ok [] ps))) (uN 4) (fSeq (fSet 8 (fCall 2 M_lots_near (fCons (fApp dTuple (fCons (fN 2) (fun ps => .ok [] ps))) (fCons (fN 4) (fun ps => .ok [] ps)))))
  (fSeq (fIfS (fNot (fTest (fun ps => ((fCall 2 M__law_same (fCons (fun ps => ((fLst (fCons (fN 8) (fCons (fun ps => ((fCall 2 M_lots_near (fCons (fun ps => ((fCall 1 M__law_lists (fCons (fun ps => ((fRev (fN 2)) ps).map PV.data) (fun ps => .ok [] ps))) ps).map PV.data) (fCons (fN 4) (fun ps => .ok [] ps)))) ps).map PV.data) (fun ps => .ok [] ps)))) ps).map PV.data) (fCons (fun ps => ((fRep (fLst (fCons (fun ps => ((fCall 2 M__law_lots (fCons (fN 2) (fCons (fN 4) (fun ps => .ok [] ps)))) ps).map PV.data) (fun ps => .ok [] ps))) (fK (.int 2))) ps).map PV.data) (fun ps => .ok [] ps)))) ps).map PV.data))) (fRet (fun ps => ((fK (.bool false)) ps).map PV.val)) fSkip)
  (fSeq (fIfS (fAnd (fTest (fBinS dIsNot 3 (fK .none))) (fTest (fBin dNe (fun ps => ((fLc (fSeqI (fN 3)) (uN 14) (fTest (fBin dEq (fun ps => ((fLc (fSeqI (fN 8)) (uN 17) (fTest (fBin dEq (fun ps => ((fLc (fSeqI (fN 14)) (uN 18) (fTest (fBinSS dNotInA 18 17)) (fN 18) [18]) ps).map PV.data) (fun ps => ((fLst (fun ps => .ok [] ps)) ps).map PV.data))) (fN 17) [17]) ps).map PV.data) (fun ps => ((fLst (fun ps => .ok [] ps)) ps).map PV.data))) (fN 14) [14]) ps).map PV.data) (fun ps => ((fLst (fun ps => .ok [] ps)) ps).map PV.data)))) (fRet (fun ps => ((fK (.bool false)) ps).map PV.val)) fSkip)
  (fSeq (fSet 3 (fun ps => ((fN 8) ps).map PV.val))
  (fSeq (fSet 9 (fCallU 1 1 M__law_piece (fCons (fK (.int 3)) (fun ps => .ok [] ps))))
  (fSeq (fSet 10 (fCall 1 M__law_set (fCons (fun ps => ((fLc (fSeqI (fN 8)) (uN 14) cYes (fun ps => ((fCall 1 M__law_set (fCons (fun ps => ((fLc (fSeqI (fN 14)) (uN 17) cYes (fBin dAdd (fN 9) (fN 17)) [17]) ps).map PV.data) (fun ps => .ok [] ps))) ps).map PV.data) [14]) ps).map PV.data) (fun ps => .ok [] ps))))
  (fSeq (fIfS (fNot (fTest (fun ps => ((fCall 2 M__law_same (fCons (fun ps => ((fCall 2 M_lots_near (fCons (fApp dTuple (fCons (fun ps => ((fLc (fSeqI (fN 2)) (uN 17) cYes (fBin dAdd (fN 9) (fN 17)) [17]) ps).map PV.data) (fun ps => .ok [] ps))) (fCons (fN 4) (fun ps => .ok [] ps)))) ps).map PV.data) (fCons (fN 10) (fun ps => .ok [] ps)))) ps).map PV.data))) (fRet (fun ps => ((fK (.bool false)) ps).map PV.val)) fSkip)
  (fSeq (fSet 11 (fCallU 1 1 M__law_piece (fCons (fK (.int 4)) (fun ps => .ok [] ps))))
  (fSeq (fSet 12 (fLc (fSeqI (fN 8)) (uN 14) (fTest (fBin dNe (fun ps => ((fLc (fSeqI (fN 14)) (uN 17) (fTest (fun ps => ((fCall 3 M_are_near (fCons (fN 17) (fCons (fN 11) (fCons (fN 4) (fun ps => .ok [] ps))))) ps).map PV.data)) (fN 17) [17]) ps).map PV.data) (fun ps => ((fLst (fun ps => .ok [] ps)) ps).map PV.data))) (fN 14) [14]))
  (fSeq (fSet 13 (fLst (fCons (fN 11) (fun ps => .ok [] ps))))
  (fSeq (fFor (fSeqI (fN 12)) (uN 14) (fSet 13 (fBinO dCatL (fN 13) (fun ps => ((fAppO dList (fCons (fN 14) (fun ps => .ok [] ps))) ps).map PV.data))))
  (fSeq (fSet 15 (fCall 1 M__law_set (fCons (fun ps => ((fBinO dCatL (fun ps => ((fLc (fSeqI (fN 8)) (uN 14) (fTest (fBinSS dNotInA 14 12)) (fN 14) [14]) ps).map PV.data) (fun ps => ((fLst (fCons (fun ps => ((fCall 1 M__law_set (fCons (fN 13) (fun ps => .ok [] ps))) ps).map PV.data) (fun ps => .ok [] ps))) ps).map PV.data)) ps).map PV.data) (fun ps => .ok [] ps))))
  (fIfS (fNot (fTest (fun ps => ((fCall 2 M__law_same (fCons (fun ps => ((fCall 2 M_lots_near (fCons (fApp dTuple (fCons (fun ps => ((fBinO dCatL (fN 2) (fun ps => ((fLst (fCons (fN 11) (fun ps => .ok [] ps))) ps).map PV.data)) ps).map PV.data) (fun ps => .ok [] ps))) (fCons (fN 4) (fun ps => .ok [] ps)))) ps).map PV.data) (fCons (fN 15) (fun ps => .ok [] ps)))) ps).map PV.data))) (fRet (fun ps => ((fK (.bool false)) ps).map PV.val)) fSkip))))))))))))))
  (fSeq (fSet 5 (fun ps => ((fApp dMaxL (fCons (fun ps => ((fLc (fSeqI (fun ps => ((fCall 2 M__law_pairs (fCons (fN 2) (fCons (fN 2) (fun ps => .ok [] ps)))) ps).map PV.data)) (uTup 2 (uCons (uN 18) (uCons (uN 19) uNil))) cYes (fun ps => ((fCall 1 M_lag_length (fCons (fun ps => ((fCall 2 M_lag_of (fCons (fN 18) (fCons (fN 19) (fun ps => .ok [] ps)))) ps).map PV.data) (fun ps => .ok [] ps))) ps).map PV.data) [18, 19]) ps).map PV.data) (fun ps => .ok [] ps))) ps).map PV.val))
  (fSeq (fSet 6 (fCall 1 M_front (fCons (fApp dTuple (fCons (fN 2) (fun ps => .ok [] ps))) (fun ps => .ok [] ps))))
  (fSeq (fIfS (fOr (fTest (fBin dNe (fApp dLen (fCons (fun ps => ((fCall 2 M_lots_near (fCons (fApp dTuple (fCons (fN 2) (fun ps => .ok [] ps))) (fCons (fN 5) (fun ps => .ok [] ps)))) ps).map PV.data) (fun ps => .ok [] ps))) (fK (.int 1)))) (fTest (fBin dNe (fun ps => ((fLc (fSeqI (fN 2)) (uN 17) (fTest (fBin dNe (fun ps => ((fSl (fN 17) fNoPart (fSomePart (fLenS 6))) ps).map PV.data) (fN 6))) (fN 17) [17]) ps).map PV.data) (fun ps => ((fLst (fun ps => .ok [] ps)) ps).map PV.data)))) (fRet (fun ps => ((fK (.bool false)) ps).map PV.val)) fSkip)
  (fSeq (fSet 7 (fLc (fSeqI (fN 2)) (uN 17) cYes (fun ps => ((fSl (fN 17) fNoPart (fSomePart (fBin dAdd (fLenS 6) (fK (.int 1))))) ps).map PV.data) [17]))
  (fRet (fun ps => ((fOrV (fBin dGt (fApp dLenSet (fCons (fN 7) (fun ps => .ok [] ps))) (fK (.int 1))) (fBin dEq (fIxS 7 (fK (.int 0))) (fN 6))) ps).map PV.val)))))))))))
noncomputable def M_law : List PyData → FR := fun ds => (b_law (startP 20 ds)).fin
theorem bd_law {K : PySem.W.Frag} {f : Addr} {fd : FuncData} (Fn : FunD K "law" "law" (defArgs s_law) (defBody s_law) (defScope s_law) [] [] f fd) : Binds K fd ["script"] [] := Fn.bindsN fun _ _ _ _ _ _ us hl => match us, hl with | [_], _ => rfl
theorem ok_law {P : Program} {w : World} {K : PySem.W.Frag} {mg : Str → Option Value} {base : Heap} {f : Addr} {fd : FuncData} {C_Unfit : Addr} (Fn : FunD K "law" "law" (defArgs s_law) (defBody s_law) (defScope s_law) [] [] f fd) (hy : Hy K mg C_Unfit) (gf : mg "law" = some (.ref f)) (G_front : GFn P w K mg base "front" 41 1 M_front) (G_lag_of : GFn P w K mg base "lag_of" 42 2 M_lag_of) (G_lag_length : GFn P w K mg base "lag_length" 42 1 M_lag_length) (G_are_near : GFn P w K mg base "are_near" 42 3 M_are_near) (G_lots_near : GFn P w K mg base "lots_near" 41 2 M_lots_near) (G__law_box : GFn P w K mg base "_law_box" 1 2 M__law_box) (G__law_take : GFu P w K mg base "_law_take" 1 1 M__law_take) (G__law_cells : GFn P w K mg base "_law_cells" 1 2 M__law_cells) (G__law_same : GFn P w K mg base "_law_same" 40 2 M__law_same) (G__law_lists : GFn P w K mg base "_law_lists" 40 1 M__law_lists) (G__law_pairs : GFn P w K mg base "_law_pairs" 1 2 M__law_pairs) (G__law_piece : GFu P w K mg base "_law_piece" 2 1 M__law_piece) (G__law_set : GFn P w K mg base "_law_set" 1 1 M__law_set) (G__law_lots : GFn P w K mg base "_law_lots" 2 2 M__law_lots) : FnOk P w K mg base (L2.CX P w) 43 f fd ["script"] (spP K mg 1 M_law) := by
  refine fn_body (k := 42) (n := 1) (N := ["script", "urn", "pieces", "before", "number", "far", "top", "longer", "lots", "head", "moved", "new", "joined", "flat", "lot", "due", "lap", "own", "one", "other"]) (ps := ["script"]) Fn sc_law rfl (g := b_law) fun cdv A outer s H E hr => ?_
  have nd := sc_law.nd
  exact (gss_cons (gs_set 1 (go_call G__law_box (hr.mono (by decide)) rfl (takes_of rfl rfl rfl rfl) (ga_cons (gv_of (go_call G__law_cells (hr.mono (by decide)) rfl (takes_of rfl rfl rfl rfl) (ga_cons (gv_name 0) (ga_cons gv_int ga_nil)))) (ga_cons gv_int ga_nil))) nd)
    (gss_cons (gs_setLc 2 [("lap", 16)] rfl nd rfl (sw_true rfl rfl rfl (by decide +kernel)) (gi_range1 rfl hy.n_range (ga_cons (gv_bin op_addD add_ok gv_int (gv_of (go_callU 1 G__law_take (hr.mono (by decide)) rfl (takes_of rfl rfl rfl rfl) (ga_cons gv_int ga_nil)))) ga_nil)) (blkOk_by (N := ["script", "urn", "pieces", "before", "number", "far", "top", "longer", "lots", "head", "moved", "new", "joined", "flat", "lot", "due", "lap", "own", "one", "other"]) (sc := defScope s_law) (own := [("lap", 16)]) (by decide +kernel)) (fun _ _ _ _ _ => (gg_name 16 nd)) (fun _ _ _ _ _ => gts_nil) (fun _ _ _ _ _ => (gv_of (go_callU 1 G__law_piece (hr.mono (by decide)) rfl takes0 (ga_cons gv_int ga_nil)))))
    (gss_cons (gs_if (gt_cmp (op_eqD hr.units) eq_ok (gv_of (go_callU 1 G__law_take (hr.mono (by decide)) rfl (takes_of rfl rfl rfl rfl) (ga_cons gv_int ga_nil))) gv_int) (gss_one (gs_set 2 (go_catL (gv_name 2) (gv_of (go_lst (ga_cons (gv_bin op_addD add_ok (gv_ixS 2 gv_int) (gv_of (go_callU 1 G__law_piece (hr.mono (by decide)) rfl (takes_of rfl rfl rfl rfl) (ga_cons gv_int ga_nil)))) (ga_cons (gv_ixS 2 (gv_neg gv_int)) ga_nil))))) nd)) gss_nil)
    (gss_cons (gs_set 3 (go_of gv_non) nd)
    (gss_cons (gs_for (passes_of rfl) rfl (gi_range1 rfl hy.n_range (ga_cons gv_int ga_nil)) (gg_name 4 nd) (gss_cons (gs_set 8 (go_call G_lots_near (hr.mono (by decide)) rfl (takes_of rfl rfl rfl rfl) (ga_cons (gv_callTy call_tuple_of (tuple_ok) rfl hy.n_tuple (by decide +kernel) (ga_cons (gv_name 2) ga_nil)) (ga_cons (gv_name 4) ga_nil))) nd)
    (gss_cons (gs_if (gt_not (gt_val (gv_of (go_call G__law_same (hr.mono (by decide)) rfl (takes_of rfl rfl rfl rfl) (ga_cons (gv_of (go_lst (ga_cons (gv_name 8) (ga_cons (gv_of (go_call G_lots_near (hr.mono (by decide)) rfl (takes_of rfl rfl rfl rfl) (ga_cons (gv_of (go_call G__law_lists (hr.mono (by decide)) rfl (takes_of rfl rfl rfl rfl) (ga_cons (gv_of (go_rev (gv_name 2))) ga_nil))) (ga_cons (gv_name 4) ga_nil)))) ga_nil)))) (ga_cons (gv_of (go_rep (go_lst (ga_cons (gv_of (go_call G__law_lots (hr.mono (by decide)) rfl (takes_of rfl rfl rfl rfl) (ga_cons (gv_name 2) (ga_cons (gv_name 4) ga_nil)))) ga_nil)) gv_int)) ga_nil)))))) (gss_one (gs_ret (go_of gv_bl))) gss_nil)
    (gss_cons (gs_if (gt_w (gw_and (gt_cmpS 3 op_isNotD isNot_ok bool_dIsNot gv_non) (gw_and1 (gt_cmp (op_neD hr.units) ne_ok (gv_of (go_lc [("lot", 14)] rfl nd (gi_seq (gv_name 3)) (blkOk_by (N := ["script", "urn", "pieces", "before", "number", "far", "top", "longer", "lots", "head", "moved", "new", "joined", "flat", "lot", "due", "lap", "own", "one", "other"]) (sc := defScope s_law) (own := [("lot", 14)]) (by decide +kernel)) (fun _ _ _ _ _ => (gg_name 14 nd)) (fun _ _ _ _ _ => (gts_one (gt_cmp (op_eqD hr.units) eq_ok (gv_of (go_lc [("own", 17)] rfl nd (gi_seq (gv_name 8)) (blkOk_by (N := ["script", "urn", "pieces", "before", "number", "far", "top", "longer", "lots", "head", "moved", "new", "joined", "flat", "lot", "due", "lap", "own", "one", "other"]) (sc := { kind := .function, names := [(".0", .local), ("lot", .cell), ("lots", .cell)], isGenerator := false, isCoroutine := false }) (own := [("own", 17)]) (by decide +kernel)) (fun _ _ _ _ _ => (gg_name 17 nd)) (fun _ _ _ _ _ => (gts_one (gt_cmp (op_eqD hr.units) eq_ok (gv_of (go_lc [("one", 18)] rfl nd (gi_seq (gv_name 14)) (blkOk_by (N := ["script", "urn", "pieces", "before", "number", "far", "top", "longer", "lots", "head", "moved", "new", "joined", "flat", "lot", "due", "lap", "own", "one", "other"]) (sc := { kind := .function, names := [(".0", .local), ("own", .cell), ("lot", .cell)], isGenerator := false, isCoroutine := false }) (own := [("one", 18)]) (by decide +kernel)) (fun _ _ _ _ _ => (gg_name 18 nd)) (fun _ _ _ _ _ => (gts_one (gt_cmpSS 18 17 (op_notInA hr.u65) notInA_ok bool_dNotInA))) (fun _ _ _ _ _ => (gv_name 18)))) (gv_of (go_lst ga_nil))))) (fun _ _ _ _ _ => (gv_name 17)))) (gv_of (go_lst ga_nil))))) (fun _ _ _ _ _ => (gv_name 14)))) (gv_of (go_lst ga_nil)))))) (gss_one (gs_ret (go_of gv_bl))) gss_nil)
    (gss_cons (gs_set 3 (go_of (gv_name 8)) nd)
    (gss_cons (gs_set 9 (go_callU 1 G__law_piece (hr.mono (by decide)) rfl (takes_of rfl rfl rfl rfl) (ga_cons gv_int ga_nil)) nd)
    (gss_cons (gs_set 10 (go_call G__law_set (hr.mono (by decide)) rfl (takes_of rfl rfl rfl rfl) (ga_cons (gv_of (go_lc [("lot", 14)] rfl nd (gi_seq (gv_name 8)) (blkOk_by (N := ["script", "urn", "pieces", "before", "number", "far", "top", "longer", "lots", "head", "moved", "new", "joined", "flat", "lot", "due", "lap", "own", "one", "other"]) (sc := defScope s_law) (own := [("lot", 14)]) (by decide +kernel)) (fun _ _ _ _ _ => (gg_name 14 nd)) (fun _ _ _ _ _ => gts_nil) (fun _ _ _ _ _ => (gv_of (go_call G__law_set (hr.mono (by decide)) rfl takes0 (ga_cons (gv_of (go_lc [("own", 17)] rfl nd (gi_seq (gv_name 14)) (blkOk_by (N := ["script", "urn", "pieces", "before", "number", "far", "top", "longer", "lots", "head", "moved", "new", "joined", "flat", "lot", "due", "lap", "own", "one", "other"]) (sc := { kind := .function, names := [(".0", .local), ("lot", .local), ("_law_set", .globalImplicit), ("head", .cell)], isGenerator := false, isCoroutine := false }) (own := [("own", 17)]) (by decide +kernel)) (fun _ _ _ _ _ => (gg_name 17 nd)) (fun _ _ _ _ _ => gts_nil) (fun _ _ _ _ _ => (gv_bin op_addD add_ok (gv_name 9) (gv_name 17))))) ga_nil)))))) ga_nil)) nd)
    (gss_cons (gs_if (gt_not (gt_val (gv_of (go_call G__law_same (hr.mono (by decide)) rfl (takes_of rfl rfl rfl rfl) (ga_cons (gv_of (go_call G_lots_near (hr.mono (by decide)) rfl (takes_of rfl rfl rfl rfl) (ga_cons (gv_callTy call_tuple_of (tuple_ok) rfl hy.n_tuple (by decide +kernel) (ga_cons (gv_of (go_lc [("own", 17)] rfl nd (gi_seq (gv_name 2)) (blkOk_by (N := ["script", "urn", "pieces", "before", "number", "far", "top", "longer", "lots", "head", "moved", "new", "joined", "flat", "lot", "due", "lap", "own", "one", "other"]) (sc := defScope s_law) (own := [("own", 17)]) (by decide +kernel)) (fun _ _ _ _ _ => (gg_name 17 nd)) (fun _ _ _ _ _ => gts_nil) (fun _ _ _ _ _ => (gv_bin op_addD add_ok (gv_name 9) (gv_name 17))))) ga_nil)) (ga_cons (gv_name 4) ga_nil)))) (ga_cons (gv_name 10) ga_nil)))))) (gss_one (gs_ret (go_of gv_bl))) gss_nil)
    (gss_cons (gs_set 11 (go_callU 1 G__law_piece (hr.mono (by decide)) rfl (takes_of rfl rfl rfl rfl) (ga_cons gv_int ga_nil)) nd)
    (gss_cons (gs_set 12 (go_lc [("lot", 14)] rfl nd (gi_seq (gv_name 8)) (blkOk_by (N := ["script", "urn", "pieces", "before", "number", "far", "top", "longer", "lots", "head", "moved", "new", "joined", "flat", "lot", "due", "lap", "own", "one", "other"]) (sc := defScope s_law) (own := [("lot", 14)]) (by decide +kernel)) (fun _ _ _ _ _ => (gg_name 14 nd)) (fun _ _ _ _ _ => (gts_one (gt_cmp (op_neD hr.units) ne_ok (gv_of (go_lc [("own", 17)] rfl nd (gi_seq (gv_name 14)) (blkOk_by (N := ["script", "urn", "pieces", "before", "number", "far", "top", "longer", "lots", "head", "moved", "new", "joined", "flat", "lot", "due", "lap", "own", "one", "other"]) (sc := { kind := .function, names := [(".0", .local), ("lot", .local), ("new", .cell), ("number", .cell)], isGenerator := false, isCoroutine := false }) (own := [("own", 17)]) (by decide +kernel)) (fun _ _ _ _ _ => (gg_name 17 nd)) (fun _ _ _ _ _ => (gts_one (gt_val (gv_of (go_call G_are_near (hr.mono (by decide)) rfl takes0 (ga_cons (gv_name 17) (ga_cons (gv_name 11) (ga_cons (gv_name 4) ga_nil)))))))) (fun _ _ _ _ _ => (gv_name 17)))) (gv_of (go_lst ga_nil))))) (fun _ _ _ _ _ => (gv_name 14))) nd)
    (gss_cons (gs_set 13 (go_lst (ga_cons (gv_name 11) ga_nil)) nd)
    (gss_cons (gs_for (passes_of rfl) rfl (gi_seq (gv_name 12)) (gg_name 14 nd) (gss_one (gs_set 13 (go_catL (gv_name 13) (gv_of (go_callTy call_list_of (list_ok) rfl hy.n_list (by decide +kernel) (ga_cons (gv_name 14) ga_nil)))) nd)))
    (gss_cons (gs_set 15 (go_call G__law_set (hr.mono (by decide)) rfl (takes_of rfl rfl rfl rfl) (ga_cons (gv_of (go_catL (gv_of (go_lc [("lot", 14)] rfl nd (gi_seq (gv_name 8)) (blkOk_by (N := ["script", "urn", "pieces", "before", "number", "far", "top", "longer", "lots", "head", "moved", "new", "joined", "flat", "lot", "due", "lap", "own", "one", "other"]) (sc := defScope s_law) (own := [("lot", 14)]) (by decide +kernel)) (fun _ _ _ _ _ => (gg_name 14 nd)) (fun _ _ _ _ _ => (gts_one (gt_cmpSS 14 12 (op_notInA hr.u65) notInA_ok bool_dNotInA))) (fun _ _ _ _ _ => (gv_name 14)))) (gv_of (go_lst (ga_cons (gv_of (go_call G__law_set (hr.mono (by decide)) rfl (takes_of rfl rfl rfl rfl) (ga_cons (gv_name 13) ga_nil))) ga_nil))))) ga_nil)) nd)
    (gss_one (gs_if (gt_not (gt_val (gv_of (go_call G__law_same (hr.mono (by decide)) rfl (takes_of rfl rfl rfl rfl) (ga_cons (gv_of (go_call G_lots_near (hr.mono (by decide)) rfl (takes_of rfl rfl rfl rfl) (ga_cons (gv_callTy call_tuple_of (tuple_ok) rfl hy.n_tuple (by decide +kernel) (ga_cons (gv_of (go_catL (gv_name 2) (gv_of (go_lst (ga_cons (gv_name 11) ga_nil))))) ga_nil)) (ga_cons (gv_name 4) ga_nil)))) (ga_cons (gv_name 15) ga_nil)))))) (gss_one (gs_ret (go_of gv_bl))) gss_nil)))))))))))))))
    (gss_cons (gs_set 5 (go_of (gv_callB (cr_max rfl) maxL_ok rfl hy.n_max (by decide +kernel) (ga_cons (gv_of (go_lc [("one", 18), ("other", 19)] rfl nd (gi_seq (gv_of (go_call G__law_pairs (hr.mono (by decide)) rfl (takes_of rfl rfl rfl rfl) (ga_cons (gv_name 2) (ga_cons (gv_name 2) ga_nil))))) (blkOk_by (N := ["script", "urn", "pieces", "before", "number", "far", "top", "longer", "lots", "head", "moved", "new", "joined", "flat", "lot", "due", "lap", "own", "one", "other"]) (sc := defScope s_law) (own := [("one", 18), ("other", 19)]) (by decide +kernel)) (fun _ _ _ _ _ => (gg_tup rfl (ggs_cons (gg_name 18 nd) (ggs_cons (gg_name 19 nd) ggs_nil)))) (fun _ _ _ _ _ => gts_nil) (fun _ _ _ _ _ => (gv_of (go_call G_lag_length (hr.mono (by decide)) rfl takes0 (ga_cons (gv_of (go_call G_lag_of (hr.mono (by decide)) rfl takes0 (ga_cons (gv_name 18) (ga_cons (gv_name 19) ga_nil)))) ga_nil)))))) ga_nil))) nd)
    (gss_cons (gs_set 6 (go_call G_front (hr.mono (by decide)) rfl (takes_of rfl rfl rfl rfl) (ga_cons (gv_callTy call_tuple_of (tuple_ok) rfl hy.n_tuple (by decide +kernel) (ga_cons (gv_name 2) ga_nil)) ga_nil)) nd)
    (gss_cons (gs_if (gt_w (gw_or (gt_cmp (op_neD hr.units) ne_ok (gv_callB call_len_seq (len_ok) rfl hy.n_len (by decide +kernel) (ga_cons (gv_of (go_call G_lots_near (hr.mono (by decide)) rfl (takes_of rfl rfl rfl rfl) (ga_cons (gv_callTy call_tuple_of (tuple_ok) rfl hy.n_tuple (by decide +kernel) (ga_cons (gv_name 2) ga_nil)) (ga_cons (gv_name 5) ga_nil)))) ga_nil)) gv_int) (gw_or1 (gt_cmp (op_neD hr.units) ne_ok (gv_of (go_lc [("own", 17)] rfl nd (gi_seq (gv_name 2)) (blkOk_by (N := ["script", "urn", "pieces", "before", "number", "far", "top", "longer", "lots", "head", "moved", "new", "joined", "flat", "lot", "due", "lap", "own", "one", "other"]) (sc := defScope s_law) (own := [("own", 17)]) (by decide +kernel)) (fun _ _ _ _ _ => (gg_name 17 nd)) (fun _ _ _ _ _ => (gts_one (gt_cmp (op_neD hr.units) ne_ok (gv_of (go_slice (gv_name 17) gp_none (gp_some (gv_lenS 6 rfl hy.n_len)))) (gv_name 6)))) (fun _ _ _ _ _ => (gv_name 17)))) (gv_of (go_lst ga_nil)))))) (gss_one (gs_ret (go_of gv_bl))) gss_nil)
    (gss_cons (gs_setLc 7 [("own", 17)] rfl nd rfl (sw_true rfl rfl rfl (by decide +kernel)) (gi_seq (gv_name 2)) (blkOk_by (N := ["script", "urn", "pieces", "before", "number", "far", "top", "longer", "lots", "head", "moved", "new", "joined", "flat", "lot", "due", "lap", "own", "one", "other"]) (sc := defScope s_law) (own := [("own", 17)]) (by decide +kernel)) (fun _ _ _ _ _ => (gg_name 17 nd)) (fun _ _ _ _ _ => gts_nil) (fun _ _ _ _ _ => (gv_of (go_slice (gv_name 17) gp_none (gp_some (gv_bin op_addD add_ok (gv_lenS 6 rfl hy.n_len) gv_int))))))
    (gss_one (gs_ret (go_of (gv_or (gv_cmp op_gt gt_ok (gv_lenSet rfl (Nat.lt_of_succ_lt hr.u65) rfl hy.n_len rfl hy.n_set (ga_cons (gv_name 7) ga_nil)) gv_int) (gv_one (gv_cmp (op_eqD hr.units) eq_ok (gv_ixS 7 gv_int) (gv_name 6))))))))))))))))
def d_is_number : He.DefD := ⟨("is_number", none), "is_number", "is_number", defArgs s_is_number, defBody s_is_number, defScope s_is_number, [], []⟩
def d_tuple_of : He.DefD := ⟨("tuple_of", none), "tuple_of", "tuple_of", defArgs s_tuple_of, defBody s_tuple_of, defScope s_tuple_of, [], []⟩
def d_is_tuple_of : He.DefD := ⟨("is_tuple_of", none), "is_tuple_of", "is_tuple_of", defArgs s_is_tuple_of, defBody s_is_tuple_of, defScope s_is_tuple_of, [], []⟩
def d_is_within : He.DefD := ⟨("is_within", none), "is_within", "is_within", defArgs s_is_within, defBody s_is_within, defScope s_is_within, [], []⟩
def d_sure : He.DefD := ⟨("sure", none), "sure", "sure", defArgs s_sure, defBody s_sure, defScope s_sure, [], []⟩
def d_is_piece : He.DefD := ⟨("is_piece", none), "is_piece", "is_piece", defArgs s_is_piece, defBody s_is_piece, defScope s_is_piece, [], []⟩
def d_is_lag : He.DefD := ⟨("is_lag", none), "is_lag", "is_lag", defArgs s_is_lag, defBody s_is_lag, defScope s_is_lag, [], []⟩
def d_alike_ahead : He.DefD := ⟨("alike_ahead", none), "alike_ahead", "alike_ahead", defArgs s_alike_ahead, defBody s_alike_ahead, defScope s_alike_ahead, [], []⟩
def d_front_of : He.DefD := ⟨("front_of", none), "front_of", "front_of", defArgs s_front_of, defBody s_front_of, defScope s_front_of, [], []⟩
def d_front : He.DefD := ⟨("front", none), "front", "front", defArgs s_front, defBody s_front, defScope s_front, [], []⟩
def d_lag_between : He.DefD := ⟨("lag_between", none), "lag_between", "lag_between", defArgs s_lag_between, defBody s_lag_between, defScope s_lag_between, [], []⟩
def d_sure_pieces : He.DefD := ⟨("sure_pieces", none), "sure_pieces", "sure_pieces", defArgs s_sure_pieces, defBody s_sure_pieces, defScope s_sure_pieces, [], []⟩
def d_sure_lag : He.DefD := ⟨("sure_lag", none), "sure_lag", "sure_lag", defArgs s_sure_lag, defBody s_sure_lag, defScope s_sure_lag, [], []⟩
def d_lag_of : He.DefD := ⟨("lag_of", none), "lag_of", "lag_of", defArgs s_lag_of, defBody s_lag_of, defScope s_lag_of, [], []⟩
def d_size_of : He.DefD := ⟨("size_of", none), "size_of", "size_of", defArgs s_size_of, defBody s_size_of, defScope s_size_of, [], []⟩
def d_lag_length : He.DefD := ⟨("lag_length", none), "lag_length", "lag_length", defArgs s_lag_length, defBody s_lag_length, defScope s_lag_length, [], []⟩
def d_are_near : He.DefD := ⟨("are_near", none), "are_near", "are_near", defArgs s_are_near, defBody s_are_near, defScope s_are_near, [], []⟩
def d_are_close : He.DefD := ⟨("are_close", none), "are_close", "are_close", defArgs s_are_close, defBody s_are_close, defScope s_are_close, [], []⟩
def d_lots_of : He.DefD := ⟨("lots_of", none), "lots_of", "lots_of", defArgs s_lots_of, defBody s_lots_of, defScope s_lots_of, [], []⟩
def d_lots_near : He.DefD := ⟨("lots_near", none), "lots_near", "lots_near", defArgs s_lots_near, defBody s_lots_near, defScope s_lots_near, [], []⟩
def d__law_box : He.DefD := ⟨("_law_box", none), "_law_box", "_law_box", defArgs s__law_box, defBody s__law_box, defScope s__law_box, [], []⟩
def d__law_take : He.DefD := ⟨("_law_take", none), "_law_take", "_law_take", defArgs s__law_take, defBody s__law_take, defScope s__law_take, [], []⟩
def d__law_cells : He.DefD := ⟨("_law_cells", none), "_law_cells", "_law_cells", defArgs s__law_cells, defBody s__law_cells, defScope s__law_cells, [], []⟩
def d__law_same : He.DefD := ⟨("_law_same", none), "_law_same", "_law_same", defArgs s__law_same, defBody s__law_same, defScope s__law_same, [], []⟩
def d__law_lists : He.DefD := ⟨("_law_lists", none), "_law_lists", "_law_lists", defArgs s__law_lists, defBody s__law_lists, defScope s__law_lists, [], []⟩
def d__law_pairs : He.DefD := ⟨("_law_pairs", none), "_law_pairs", "_law_pairs", defArgs s__law_pairs, defBody s__law_pairs, defScope s__law_pairs, [], []⟩
def d__law_piece : He.DefD := ⟨("_law_piece", none), "_law_piece", "_law_piece", defArgs s__law_piece, defBody s__law_piece, defScope s__law_piece, [], []⟩
def d__law_set : He.DefD := ⟨("_law_set", none), "_law_set", "_law_set", defArgs s__law_set, defBody s__law_set, defScope s__law_set, [], []⟩
def d__law_lag : He.DefD := ⟨("_law_lag", none), "_law_lag", "_law_lag", defArgs s__law_lag, defBody s__law_lag, defScope s__law_lag, [], []⟩
def d__law_lots : He.DefD := ⟨("_law_lots", none), "_law_lots", "_law_lots", defArgs s__law_lots, defBody s__law_lots, defScope s__law_lots, [], []⟩
def d_law : He.DefD := ⟨("law", none), "law", "law", defArgs s_law, defBody s_law, defScope s_law, [], []⟩
def fns : List He.DefD := [d_is_number, d_tuple_of, d_is_tuple_of, d_is_within, d_sure, d_is_piece, d_is_lag, d_alike_ahead, d_front_of, d_front, d_lag_between, d_sure_pieces, d_sure_lag, d_lag_of, d_size_of, d_lag_length, d_are_near, d_are_close, d_lots_of, d_lots_near, d__law_box, d__law_take, d__law_cells, d__law_same, d__law_lists, d__law_pairs, d__law_piece, d__law_set, d__law_lag, d__law_lots, d_law]
def fas : List He.Fa := [.glo "is_number", .glo "tuple_of", .glo "is_tuple_of", .glo "is_within", .glo "sure", .glo "is_piece", .glo "is_lag", .glo "alike_ahead", .glo "front_of", .glo "front", .glo "lag_between", .glo "sure_pieces", .glo "sure_lag", .glo "lag_of", .glo "size_of", .glo "lag_length", .glo "are_near", .glo "are_close", .glo "lots_of", .glo "lots_near", .glo "_law_box", .glo "_law_take", .glo "_law_cells", .glo "_law_same", .glo "_law_lists", .glo "_law_pairs", .glo "_law_piece", .glo "_law_set", .glo "_law_lag", .glo "_law_lots", .glo "law", .free "abs", .free "all", .free "bool", .free "enumerate", .free "int", .free "isinstance", .free "len", .free "list", .free "max", .free "range", .free "set", .free "sorted", .free "str", .free "sum", .free "tuple", .free "zip", .int "SIGNS" 10, .glo "Unfit", .exc "Unfit", .exm "Unfit" "Unfit" true]
abbrev R : PySem.W.OpenRow := PySem.W.OpenLaw.row PySem.Challenge.rw_copysheets_k01_main_lots_of_near_pieces
abbrev hk : PySem.W.Hook := He.hookD 4 fas fns
def ob (s : PySem.W.SharedT) : He.AlD := He.obsDG 4 fas fns (HandSHeadRun.getT s)
theorem ob_eq (s : PySem.W.SharedT) : ob s = hk.obs s.abs := He.obsDG_eq (HandSHeadRun.getT_eq s)
def loose : List Str := (["is_number", "tuple_of", "is_tuple_of", "is_within", "sure", "is_piece", "is_lag", "alike_ahead", "front_of", "front", "lag_between", "sure_pieces", "sure_lag", "lag_of", "size_of", "lag_length", "are_near", "are_close", "lots_of", "lots_near", "_law_box", "_law_take", "_law_cells", "_law_same", "_law_lists", "_law_pairs", "_law_piece", "_law_set", "_law_lag", "_law_lots"] : List Str) ++ (["Unfit", "SIGNS"] : List Str)
theorem run (w : World) : HandSHeadRun.RunEq R (PySem.W.view R.prog [36]) hk ob 3000 loose w := by
  intro os
  kernel_rfl
theorem facts {P : Program} {w : World} {K : PySem.W.Frag} {h : Heap} {mg : Str → Option Value} {fa : Addr} (X : K.In h) (G : h.Ns mainGlobals mg) (hfa : mg ("law" : Str) = some (.ref fa)) (c : He.SaysD fas fns K) :
    ∃ fd : FuncData, (∀ (s : Shared) (v : Value), BindsTo s fd ⟨[v], []⟩ [("script", v)]) ∧ ∀ base : Heap, K.In base → base.Ns mainGlobals mg → FnOk P w K mg base (L2.CX P w) 43 fa fd ["script"] (spP K mg 1 M_law) := by
  obtain ⟨fd_is_number, F_is_number⟩ := c.def_ 0 (d := d_is_number) rfl
  obtain ⟨fd_tuple_of, F_tuple_of⟩ := c.def_ 1 (d := d_tuple_of) rfl
  obtain ⟨fd_is_tuple_of, F_is_tuple_of⟩ := c.def_ 2 (d := d_is_tuple_of) rfl
  obtain ⟨fd_is_within, F_is_within⟩ := c.def_ 3 (d := d_is_within) rfl
  obtain ⟨fd_sure, F_sure⟩ := c.def_ 4 (d := d_sure) rfl
  obtain ⟨fd_is_piece, F_is_piece⟩ := c.def_ 5 (d := d_is_piece) rfl
  obtain ⟨fd_is_lag, F_is_lag⟩ := c.def_ 6 (d := d_is_lag) rfl
  obtain ⟨fd_alike_ahead, F_alike_ahead⟩ := c.def_ 7 (d := d_alike_ahead) rfl
  obtain ⟨fd_front_of, F_front_of⟩ := c.def_ 8 (d := d_front_of) rfl
  obtain ⟨fd_front, F_front⟩ := c.def_ 9 (d := d_front) rfl
  obtain ⟨fd_lag_between, F_lag_between⟩ := c.def_ 10 (d := d_lag_between) rfl
  obtain ⟨fd_sure_pieces, F_sure_pieces⟩ := c.def_ 11 (d := d_sure_pieces) rfl
  obtain ⟨fd_sure_lag, F_sure_lag⟩ := c.def_ 12 (d := d_sure_lag) rfl
  obtain ⟨fd_lag_of, F_lag_of⟩ := c.def_ 13 (d := d_lag_of) rfl
  obtain ⟨fd_size_of, F_size_of⟩ := c.def_ 14 (d := d_size_of) rfl
  obtain ⟨fd_lag_length, F_lag_length⟩ := c.def_ 15 (d := d_lag_length) rfl
  obtain ⟨fd_are_near, F_are_near⟩ := c.def_ 16 (d := d_are_near) rfl
  obtain ⟨fd_are_close, F_are_close⟩ := c.def_ 17 (d := d_are_close) rfl
  obtain ⟨fd_lots_of, F_lots_of⟩ := c.def_ 18 (d := d_lots_of) rfl
  obtain ⟨fd_lots_near, F_lots_near⟩ := c.def_ 19 (d := d_lots_near) rfl
  obtain ⟨fd__law_box, F__law_box⟩ := c.def_ 20 (d := d__law_box) rfl
  obtain ⟨fd__law_take, F__law_take⟩ := c.def_ 21 (d := d__law_take) rfl
  obtain ⟨fd__law_cells, F__law_cells⟩ := c.def_ 22 (d := d__law_cells) rfl
  obtain ⟨fd__law_same, F__law_same⟩ := c.def_ 23 (d := d__law_same) rfl
  obtain ⟨fd__law_lists, F__law_lists⟩ := c.def_ 24 (d := d__law_lists) rfl
  obtain ⟨fd__law_pairs, F__law_pairs⟩ := c.def_ 25 (d := d__law_pairs) rfl
  obtain ⟨fd__law_piece, F__law_piece⟩ := c.def_ 26 (d := d__law_piece) rfl
  obtain ⟨fd__law_set, F__law_set⟩ := c.def_ 27 (d := d__law_set) rfl
  obtain ⟨fd__law_lag, F__law_lag⟩ := c.def_ 28 (d := d__law_lag) rfl
  obtain ⟨fd__law_lots, F__law_lots⟩ := c.def_ 29 (d := d__law_lots) rfl
  obtain ⟨fd_law, F_law⟩ := c.def_ 30 (d := d_law) rfl
  have g_is_number := He.glo_ok X G (c.fact 0 (f := .glo "is_number") rfl)
  have g_tuple_of := He.glo_ok X G (c.fact 1 (f := .glo "tuple_of") rfl)
  have g_is_tuple_of := He.glo_ok X G (c.fact 2 (f := .glo "is_tuple_of") rfl)
  have g_is_within := He.glo_ok X G (c.fact 3 (f := .glo "is_within") rfl)
  have g_sure := He.glo_ok X G (c.fact 4 (f := .glo "sure") rfl)
  have g_is_piece := He.glo_ok X G (c.fact 5 (f := .glo "is_piece") rfl)
  have g_is_lag := He.glo_ok X G (c.fact 6 (f := .glo "is_lag") rfl)
  have g_alike_ahead := He.glo_ok X G (c.fact 7 (f := .glo "alike_ahead") rfl)
  have g_front_of := He.glo_ok X G (c.fact 8 (f := .glo "front_of") rfl)
  have g_front := He.glo_ok X G (c.fact 9 (f := .glo "front") rfl)
  have g_lag_between := He.glo_ok X G (c.fact 10 (f := .glo "lag_between") rfl)
  have g_sure_pieces := He.glo_ok X G (c.fact 11 (f := .glo "sure_pieces") rfl)
  have g_sure_lag := He.glo_ok X G (c.fact 12 (f := .glo "sure_lag") rfl)
  have g_lag_of := He.glo_ok X G (c.fact 13 (f := .glo "lag_of") rfl)
  have g_size_of := He.glo_ok X G (c.fact 14 (f := .glo "size_of") rfl)
  have g_lag_length := He.glo_ok X G (c.fact 15 (f := .glo "lag_length") rfl)
  have g_are_near := He.glo_ok X G (c.fact 16 (f := .glo "are_near") rfl)
  have g_are_close := He.glo_ok X G (c.fact 17 (f := .glo "are_close") rfl)
  have g_lots_of := He.glo_ok X G (c.fact 18 (f := .glo "lots_of") rfl)
  have g_lots_near := He.glo_ok X G (c.fact 19 (f := .glo "lots_near") rfl)
  have g__law_box := He.glo_ok X G (c.fact 20 (f := .glo "_law_box") rfl)
  have g__law_take := He.glo_ok X G (c.fact 21 (f := .glo "_law_take") rfl)
  have g__law_cells := He.glo_ok X G (c.fact 22 (f := .glo "_law_cells") rfl)
  have g__law_same := He.glo_ok X G (c.fact 23 (f := .glo "_law_same") rfl)
  have g__law_lists := He.glo_ok X G (c.fact 24 (f := .glo "_law_lists") rfl)
  have g__law_pairs := He.glo_ok X G (c.fact 25 (f := .glo "_law_pairs") rfl)
  have g__law_piece := He.glo_ok X G (c.fact 26 (f := .glo "_law_piece") rfl)
  have g__law_set := He.glo_ok X G (c.fact 27 (f := .glo "_law_set") rfl)
  have g__law_lag := He.glo_ok X G (c.fact 28 (f := .glo "_law_lag") rfl)
  have g__law_lots := He.glo_ok X G (c.fact 29 (f := .glo "_law_lots") rfl)
  have g_law := He.glo_ok X G (c.fact 30 (f := .glo "law") rfl)
  have x_Unfit := He.exc_ok (c.fact 49 (f := .exc "Unfit") rfl)
  have hy : Hy K mg (He.ga K "Unfit") := ⟨He.free_ok X G (c.fact 31 (f := .free "abs") rfl), He.free_ok X G (c.fact 32 (f := .free "all") rfl), He.free_ok X G (c.fact 33 (f := .free "bool") rfl), He.free_ok X G (c.fact 34 (f := .free "enumerate") rfl), He.free_ok X G (c.fact 35 (f := .free "int") rfl), He.free_ok X G (c.fact 36 (f := .free "isinstance") rfl), He.free_ok X G (c.fact 37 (f := .free "len") rfl), He.free_ok X G (c.fact 38 (f := .free "list") rfl), He.free_ok X G (c.fact 39 (f := .free "max") rfl), He.free_ok X G (c.fact 40 (f := .free "range") rfl), He.free_ok X G (c.fact 41 (f := .free "set") rfl), He.free_ok X G (c.fact 42 (f := .free "sorted") rfl), He.free_ok X G (c.fact 43 (f := .free "str") rfl), He.free_ok X G (c.fact 44 (f := .free "sum") rfl), He.free_ok X G (c.fact 45 (f := .free "tuple") rfl), He.free_ok X G (c.fact 46 (f := .free "zip") rfl), He.int_ok X G (c.fact 47 (f := .int "SIGNS" 10) rfl), ⟨He.glo_ok X G (c.fact 48 (f := .glo "Unfit") rfl), x_Unfit.1, x_Unfit.2.1, x_Unfit.2.2.1, x_Unfit.2.2.2, He.exm_ok (c.fact 50 (f := .exm "Unfit" "Unfit" true) rfl)⟩⟩
  have e := hfa.symm.trans g_law
  cases e
  have b := FunD.bindsA (ps := ["script"]) F_law fun _ _ _ _ _ _ us hl => match us, hl with | [_], _ => rfl
  refine ⟨fd_law, fun s v => b s [v] rfl, fun base _ _ => ?_⟩
  have G_is_number : GFn P w K mg base "is_number" 1 1 M_is_number := ok_is_number F_is_number hy g_is_number
  have G_tuple_of : GFn P w K mg base "tuple_of" 40 1 M_tuple_of := ok_tuple_of F_tuple_of hy g_tuple_of
  have G_is_tuple_of : GFn P w K mg base "is_tuple_of" 1 2 M_is_tuple_of := ok_is_tuple_of F_is_tuple_of hy g_is_tuple_of
  have G_is_within : GFn P w K mg base "is_within" 2 3 M_is_within := ok_is_within F_is_within hy g_is_within G_is_number
  have G_sure : GFn P w K mg base "sure" 1 1 M_sure := ok_sure F_sure hy g_sure
  have G_is_piece : GFn P w K mg base "is_piece" 3 1 M_is_piece := ok_is_piece F_is_piece hy g_is_piece G_is_within
  have G_is_lag : GFn P w K mg base "is_lag" 4 1 M_is_lag := ok_is_lag F_is_lag hy g_is_lag G_is_tuple_of G_is_piece
  have G_alike_ahead : GFn P w K mg base "alike_ahead" 1 2 M_alike_ahead := ok_alike_ahead F_alike_ahead hy g_alike_ahead
  have G_front_of : GFn P w K mg base "front_of" 2 1 M_front_of := ok_front_of F_front_of hy g_front_of G_alike_ahead
  have G_front : GFn P w K mg base "front" 41 1 M_front := ok_front F_front hy g_front G_tuple_of G_sure G_is_piece G_front_of
  have G_lag_between : GFn P w K mg base "lag_between" 2 2 M_lag_between := ok_lag_between F_lag_between hy g_lag_between G_alike_ahead
  have G_sure_pieces : GFn P w K mg base "sure_pieces" 41 1 M_sure_pieces := ok_sure_pieces F_sure_pieces hy g_sure_pieces G_tuple_of G_sure G_is_piece
  have G_sure_lag : GFn P w K mg base "sure_lag" 41 1 M_sure_lag := ok_sure_lag F_sure_lag hy g_sure_lag G_tuple_of G_sure G_is_lag
  have G_lag_of : GFn P w K mg base "lag_of" 42 2 M_lag_of := ok_lag_of F_lag_of hy g_lag_of G_lag_between G_sure_pieces
  have G_size_of : GFn P w K mg base "size_of" 1 1 M_size_of := ok_size_of F_size_of hy g_size_of
  have G_lag_length : GFn P w K mg base "lag_length" 42 1 M_lag_length := ok_lag_length F_lag_length hy g_lag_length G_sure_lag G_size_of
  have G_are_near : GFn P w K mg base "are_near" 42 3 M_are_near := ok_are_near F_are_near hy g_are_near G_is_number G_sure G_lag_between G_sure_pieces G_size_of
  have G_are_close : GFn P w K mg base "are_close" 3 3 M_are_close := ok_are_close F_are_close hy g_are_close G_lag_between G_size_of
  have G_lots_of : GFn P w K mg base "lots_of" 4 2 M_lots_of := ok_lots_of F_lots_of hy g_lots_of G_are_close
  have G_lots_near : GFn P w K mg base "lots_near" 41 2 M_lots_near := ok_lots_near F_lots_near hy g_lots_near G_is_number G_tuple_of G_sure G_is_piece G_lots_of
  have G__law_box : GFn P w K mg base "_law_box" 1 2 M__law_box := ok__law_box F__law_box hy g__law_box
  have G__law_take : GFu P w K mg base "_law_take" 1 1 M__law_take := ok__law_take F__law_take hy g__law_take
  have G__law_cells : GFn P w K mg base "_law_cells" 1 2 M__law_cells := ok__law_cells F__law_cells hy g__law_cells
  have G__law_same : GFn P w K mg base "_law_same" 40 2 M__law_same := ok__law_same F__law_same hy g__law_same
  have G__law_lists : GFn P w K mg base "_law_lists" 40 1 M__law_lists := ok__law_lists F__law_lists hy g__law_lists
  have G__law_pairs : GFn P w K mg base "_law_pairs" 1 2 M__law_pairs := ok__law_pairs F__law_pairs hy g__law_pairs
  have G__law_piece : GFu P w K mg base "_law_piece" 2 1 M__law_piece := ok__law_piece F__law_piece hy g__law_piece G__law_take
  have G__law_set : GFn P w K mg base "_law_set" 1 1 M__law_set := ok__law_set F__law_set hy g__law_set
  have G__law_lag : GFn P w K mg base "_law_lag" 1 2 M__law_lag := ok__law_lag F__law_lag hy g__law_lag
  have G__law_lots : GFn P w K mg base "_law_lots" 2 2 M__law_lots := ok__law_lots F__law_lots hy g__law_lots G__law_set G__law_lag
  exact ok_law F_law hy g_law G_front G_lag_of G_lag_length G_are_near G_lots_near G__law_box G__law_take G__law_cells G__law_same G__law_lists G__law_pairs G__law_piece G__law_set G__law_lots
theorem law_holds (hM : ∀ ns : List Int, ns.length ≤ 63 → M_law [.list (ns.map PyData.int)] = .ok (.val (.bool true))) : PySem.Challenge.rw_copysheets_k01_main_lots_of_near_pieces.Holds := by
  w_on; o_law
  refine HandSHeadRun.head_any (r := PySem.W.OpenLaw.row PySem.Challenge.rw_copysheets_k01_main_lots_of_near_pieces) (q := PySem.W.view (PySem.W.OpenLaw.row PySem.Challenge.rw_copysheets_k01_main_lots_of_near_pieces).prog [36]) (H := hk) (ob := ob) (M := 3000) (loose := loose) (d := HandSHeadRun.topDef (PySem.W.OpenLaw.row PySem.Challenge.rw_copysheets_k01_main_lots_of_near_pieces).prog 36) (kwd := []) ob_eq
    (by kernel_rfl) (fun s => by kernel_rfl) run (by kernel_rfl) (by kernel_rfl) (by kernel_rfl) (by rfl) (by first | assumption | decide +kernel) (by decide +kernel) ⟨rfl, rfl, rfl, rfl, rfl, by decide +kernel⟩ ?hw ?hc
  case hw => w_witness2
  case hc =>
    refine walk_ofEw (l := PySem.Challenge.rw_copysheets_k01_main_lots_of_near_pieces) (n := 63) (k := 43) (x := "script") rfl (by decide) (by kernel_rfl) ⟨rfl, by decide, by decide⟩ ?F
    intro w mg fa h Y G hmg0
    obtain ⟨K, KX, c⟩ := Y
    have hmg : mg ("law" : PySem.Str) = some (.ref fa) := by
      have e : (HandSHeadRun.topDef (PySem.W.OpenLaw.row PySem.Challenge.rw_copysheets_k01_main_lots_of_near_pieces).prog 36).name = ("law" : PySem.Str) := by kernel_rfl
      rw [← e]
      exact hmg0
    obtain ⟨fd, hb, hF⟩ := facts (P := (PySem.Challenge.rw_copysheets_k01_main_lots_of_near_pieces).prog) (w := w) KX G hmg c
    exact ⟨K, fd, _, KX, hb, fun H a ns hl _ hS => law_sp hM H a ns hl hS, hF⟩
end TT

namespace TT
open PySem PySem.Spec L2 GL GT
open PyProof.Rows hiding St
local macro_rules | `(tactic| infer_instance) => `(tactic| first
  | (with_reducible apply es_seqS)
  | (with_reducible apply es_setS)
  | (with_reducible apply es_seqA)
  | (with_reducible apply es_seqE)
  | (with_reducible apply es_ret)
  | (with_reducible apply es_expr)
  | (with_reducible apply es_asg)
  | (with_reducible exact es_skip)
  | (with_reducible exact ev_K)
  | (with_reducible exact ev_nil)
  | ((with_reducible apply ev_nilE); exact rfl)
  | ((with_reducible apply ev_KE); exact rfl)
  | (with_reducible exact ev_cYes)
  | (with_reducible exact ev_partN)
  | (with_reducible apply ev_cons)
  | ((with_reducible apply ev_N); exact rfl)
  | ((with_reducible apply ev_MvS); exact rfl)
  | ((with_reducible apply ev_NoS); exact rfl)
  | (with_reducible apply ev_dataE)
  | (with_reducible apply ev_val)
  | (with_reducible apply ev_bin)
  | (with_reducible apply ev_un)
  | ((with_reducible apply ev_binS))
  | ((with_reducible apply ev_ixS))
  | ((with_reducible apply ev_lenS))
  | (with_reducible apply ev_test)
  | (with_reducible apply ev_notE)
  | (with_reducible apply ev_notVE)
  | (with_reducible apply ev_tupE)
  | (with_reducible apply ev_lstE)
  | (with_reducible apply ev_app)
  | (with_reducible apply ev_appO)
  | (with_reducible apply ev_isi)
  | (with_reducible apply ev_callE)
  | ((with_reducible apply ev_callUE); exact rfl)
  | (with_reducible apply ev_partS)
  | (with_reducible apply ev_seqI)
  | (with_reducible apply ev_lcS)
  | (with_reducible apply et_NS)
  | (with_reducible exact ets_nil)
  | ((with_reducible apply et_TE); exact rfl)
  | ((with_reducible apply et_LE); exact rfl)
  | focus ((with_reducible show List.length _ = _); exact rfl)
  | focus ((with_reducible show List.length (α := PyData) _ ≤ 1000); (simp only [List.length_cons, List.length_nil]; omega))
  | (with_reducible apply ets_cons)
  | (with_reducible apply dAdd_iE)
  | (with_reducible apply dSub_iE)
  | (with_reducible apply dLt_iE)
  | (with_reducible apply dGt_iE)
  | (with_reducible apply dLe_iE)
  | (with_reducible apply dGe_iE)
  | (with_reducible apply dEq_iE)
  | (with_reducible apply dNe_iE)
  | (with_reducible apply dEq_bE)
  | (with_reducible apply dNe_bE)
  | (with_reducible apply dLen_lE)
  | (with_reducible apply dLen_tE)
  | (with_reducible exact dAbs_i)
  | (with_reducible exact dInt_i)
  | (with_reducible exact dInt_b)
  | (with_reducible exact dTuple_l)
  | (with_reducible exact dTuple_t)
  | focus ((with_reducible show dTuple _ = _); exact rfl)
  | (with_reducible exact dList_l)
  | (with_reducible exact dList_t)
  | (with_reducible exact dMin2_i)
  | (with_reducible exact dMax2_i)
  | focus ((with_reducible show _ = some (some _)); exact rfl)
  | (with_reducible exact data_val)
  | (with_reducible exact data_own)
  | focus ((with_reducible show (!_) = _); exact rfl)
  | ((with_reducible apply look_val); exact rfl)
  | ((with_reducible apply look_own); exact rfl)
  | focus ((with_reducible show seqOf _ = _); exact rfl)
  | focus ((with_reducible show @Eq PV _ _); exact rfl)
  | focus ((with_reducible show @Eq PSt _ _); first | (focus (dsimp only [List.set, List.set_cons_succ, List.set_cons_zero, wipeP, restP, keepV, List.getElem?_cons_succ, List.getElem?_cons_zero]; try exact rfl)) | exact rfl)
  | focus ((with_reducible show isaD _ _ = _); exact rfl)
  | focus ((with_reducible show isa2 _ _ _ = _); exact rfl)
  | focus ((with_reducible show dIx _ _ = _); first | exact rfl | exact dIx_t0 rfl | exact dIx_l0 rfl)
  | focus ((with_reducible show (_ && _) = _); exact rfl)
  | focus ((with_reducible show (_ || _) = _); exact rfl)
  | (with_reducible apply dMul_iE)
  | (with_reducible apply dMod_iE)
  | (with_reducible apply dFdiv_iE)
  | (with_reducible exact (rfl : (_ : Bool) = _))
  | (with_reducible exact (rfl : (_ : Int) = _))
  | exact decide_eq_true (by omega)
  | exact decide_eq_false (by omega)
  | focus ((with_reducible show (_ : Int) = _); omega)
  | focus ((with_reducible show (_ : Int) < _); omega)
  )
local macro_rules | `(tactic| infer_instance) => `(tactic| first
  | (with_reducible apply ev_binO)
  | (with_reducible apply ev_rev)
  | (with_reducible apply ev_binSS)
  | ((with_reducible apply ev_pop); exact rfl)

  | focus ((with_reducible show ixN _ _ = _); exact rfl)
  | focus ((with_reducible show _ = some (some (PV.own _))); exact rfl)
  | focus ((with_reducible show _ ∨ _); first | (left; omega) | (right; omega))
  | focus ((with_reducible show _ ∧ _ < (1073741824 : Int)); omega)
  | focus ((with_reducible show dIs _ _ = _); exact rfl)
  | focus ((with_reducible show dIsNot _ _ = _); exact rfl)
  | (with_reducible exact decide_eq_true rfl)
  | focus ((with_reducible show decide (@Eq Bool _ _) = _); exact rfl))
abbrev eP (p : List Int) : PyData := .tuple (p.map .int)
theorem t_is_number {i : Int} : M_is_number [.int i] = .ok (.val (.bool true)) := by
  show (b_is_number [some (.val (.int i))]).fin = _
  apply fin_ret
  unfold b_is_number
  refine es_ret (ev_val (ev_andVP (k := true) (l := true) ?_ ?_))
  repeat infer_instance
theorem t_is_within {i : Int} (h : 0 ≤ i ∧ i ≤ 9) : M_is_within [.int i, .int 0, .int 9] = .ok (.val (.bool true)) := by
  show (b_is_within [some (.val (.int i)), some (.val (.int 0)), some (.val (.int 9))]).fin = _
  apply fin_ret
  unfold b_is_within
  refine es_ret (ev_val (ev_andVP (k := true) (l := true) ?_ ?_))
  repeat infer_instance
  exact t_is_number
  repeat infer_instance
  apply ev_chainT
  repeat infer_instance
theorem t_tuple_i {k : Nat} {i : Int} : R_tuple_of (k + 1) [.int i] = .ok (.val (.int i)) := by
  show (b_tuple_of (R_tuple_of k) [some (.val (.int i)), none]).fin = _
  apply fin_ret
  unfold b_tuple_of
  apply es_seq
  apply es_ifF
  repeat infer_instance
theorem t_tuple_map {k : Nat} (h : PyData → PyData) (ds : List PyData) (hl : ds.length ≤ 1000) (hh : ∀ d ∈ ds, R_tuple_of k [d] = .ok (.val (h d))) {d : PyData} (hd : d = .list ds ∨ d = .tuple ds) : R_tuple_of (k + 1) [d] = .ok (.val (.tuple (ds.map h))) := by
  show (b_tuple_of (R_tuple_of k) [some (.val d), none]).fin = _
  apply fin_ret
  unfold b_tuple_of
  apply es_seqR
  apply es_ifT
  · refine ev_test (ev_isi (d := d) (ev_N rfl) (k := true) ?_)
    rcases hd with e | e <;> subst e <;> rfl
  · apply es_ret
    apply ev_val
    apply ev_app
    apply ev_cons
    apply ev_dataE
    · refine ev_lcS (ev_seqI (ev_N rfl) (?_ : _ = some ds)) rfl (compL_map0 h ds (by omega) fun e he => ?_) rfl
      · rcases hd with e | e <;> subst e <;> rfl
      · refine ⟨_, _, _, et_N, ev_cYes, ev_dataE (ev_callE (ev_cons (ev_N rfl) ev_nil) rfl (hh e he)) rfl, rfl⟩
    repeat infer_instance
def Vp (p : List Int) : Prop := (∀ i ∈ p, 0 ≤ i ∧ i ≤ 9) ∧ p.length ≤ 1000
theorem t_tuple_leaf {k : Nat} {d : PyData} (h : isa2 "list" "tuple" d = some false) : R_tuple_of (k + 1) [d] = .ok (.val d) := by
  show (b_tuple_of (R_tuple_of k) [some (.val d), none]).fin = _
  apply fin_ret
  unfold b_tuple_of
  apply es_seq
  · apply es_ifF
    · exact ev_test (ev_isi (ev_N rfl) h)
    · exact es_skip
  · exact es_ret (ev_MvS rfl rfl)
theorem t_tupG : ∀ (k : Nat) (d : PyData), sz d = true → d.depth < k → R_tuple_of k [d] = .ok (.val (tup d))
  | 0, _, _, h => by omega
  | k + 1, .int i, _, _ => t_tuple_leaf rfl
  | k + 1, .none, _, _ => t_tuple_leaf rfl
  | k + 1, .bool i, _, _ => t_tuple_leaf rfl
  | k + 1, .str i, _, _ => t_tuple_leaf rfl
  | k + 1, .dict _, h, _ => by simp [sz] at h
  | k + 1, .list ds, h, hd => by
    have h' : ds.length ≤ 1000 ∧ szAll ds = true := by simpa [sz] using h
    simp only [PyData.depth] at hd
    rw [tup, tupAll_map]
    exact t_tuple_map tup ds h'.1 (fun e m => t_tupG k e (szAll_mem h'.2 e m) (by have := depth_mem m; omega)) (.inl rfl)
  | k + 1, .tuple ds, h, hd => by
    have h' : ds.length ≤ 1000 ∧ szAll ds = true := by simpa [sz] using h
    simp only [PyData.depth] at hd
    rw [tup, tupAll_map]
    exact t_tuple_map tup ds h'.1 (fun e m => t_tupG k e (szAll_mem h'.2 e m) (by have := depth_mem m; omega)) (.inr rfl)
theorem t_tuple_of {d e : PyData} (h : sz d = true) (hd : d.depth < 40) (he : tup d = e) : M_tuple_of [d] = .ok (.val e) := by subst he; exact t_tupG 40 d h hd
theorem map_drop' (x : List Int) (n : Nat) : (x.map PyData.int).drop n = (x.drop n).map PyData.int := by simp
theorem map_take' (x : List Int) (n : Nat) : (x.map PyData.int).take n = (x.take n).map PyData.int := by simp
abbrev tyP : Ty eP 1 := Ty.list Ty.int
theorem sz_P {p : List Int} (h : p.length ≤ 1000) : sz (eP p) = true := by
  have : szAll (p.map .int) = true := szAll_of fun d m => by obtain ⟨i, _, rfl⟩ := List.mem_map.mp m; rfl
  simp [sz, this, h]
theorem isT_P (p : List Int) : ∃ ds, eP p = .tuple ds := ⟨_, rfl⟩
theorem t_is_tuple_of {ds : List PyData} {n : Int} (h : (ds.length : Int) = n) : M_is_tuple_of [.tuple ds, .int n] = .ok (.val (.bool true)) := by
  show (b_is_tuple_of [some (.val (.tuple ds)), some (.val (.int n))]).fin = _
  apply fin_ret
  unfold b_is_tuple_of
  refine es_ret (ev_val (ev_andVP (k := true) (l := true) ?_ ?_))
  repeat infer_instance
theorem t_sure : M_sure [.bool true] = .ok (.val .none) := by
  show (b_sure [some (.val (.bool true))]).fin = _
  apply fin_nx
  unfold b_sure
  apply es_ifF
  repeat infer_instance
theorem t_sureX : M_sure [.bool false] = .exc ⟨"Unfit", none⟩ := by
  show (b_sure [some (.val (.bool false))]).fin = _
  apply fin_exc
  unfold b_sure
  apply es_ifT
  repeat infer_instance
  exact es_exc
theorem t_sureE {k : Bool} (h : k = true) : M_sure [.bool k] = .ok (.val .none) := by subst h; exact t_sure
theorem t_is_piece {p : List Int} (h : Vp p) : M_is_piece [eP p] = .ok (.val (.bool true)) := by
  show (b_is_piece [some (.val (.tuple (p.map .int))), none]).fin = _
  apply fin_ret
  unfold b_is_piece
  refine es_ret (ev_val (ev_andVP (k := true) (l := true) ?_ ?_))
  repeat infer_instance
  · refine compL_map0 (fun _ => .bool true) _ (by have := h.2; simp; omega) fun e he => ?_
    obtain ⟨i, hi, rfl⟩ := List.mem_map.mp he
    refine ⟨_, _, _, et_N, ev_cYes, ev_dataE (ev_callE (ev_cons (ev_N rfl) (ev_cons ev_K (ev_cons (ev_bin ev_K ev_K dSub_i) ev_nil))) rfl (t_is_within (h.1 i hi))) rfl, rfl⟩
  repeat infer_instance
  · exact dAll_true fun d hd => by
      obtain ⟨_, _, rfl⟩ := List.mem_map.mp hd
      rfl
end TT

namespace TT
open PySem PySem.Spec L2 GL GT
open PyProof.Rows hiding St
local macro_rules | `(tactic| infer_instance) => `(tactic| first
  | (with_reducible apply es_seqS)
  | (with_reducible apply es_setS)
  | (with_reducible apply es_seqA)
  | (with_reducible apply es_seqE)
  | (with_reducible apply es_ret)
  | (with_reducible apply es_expr)
  | (with_reducible apply es_asg)
  | (with_reducible exact es_skip)
  | (with_reducible exact ev_K)
  | (with_reducible exact ev_nil)
  | ((with_reducible apply ev_nilE); exact rfl)
  | ((with_reducible apply ev_KE); exact rfl)
  | (with_reducible exact ev_cYes)
  | (with_reducible exact ev_partN)
  | (with_reducible apply ev_cons)
  | ((with_reducible apply ev_N); exact rfl)
  | ((with_reducible apply ev_MvS); exact rfl)
  | ((with_reducible apply ev_NoS); exact rfl)
  | (with_reducible apply ev_dataE)
  | (with_reducible apply ev_val)
  | (with_reducible apply ev_bin)
  | (with_reducible apply ev_un)
  | ((with_reducible apply ev_binS))
  | ((with_reducible apply ev_ixS))
  | ((with_reducible apply ev_lenS))
  | (with_reducible apply ev_test)
  | (with_reducible apply ev_notE)
  | (with_reducible apply ev_notVE)
  | (with_reducible apply ev_tupE)
  | (with_reducible apply ev_lstE)
  | (with_reducible apply ev_app)
  | (with_reducible apply ev_appO)
  | (with_reducible apply ev_isi)
  | (with_reducible apply ev_callE)
  | ((with_reducible apply ev_callUE); exact rfl)
  | (with_reducible apply ev_partS)
  | (with_reducible apply ev_seqI)
  | (with_reducible apply ev_lcS)
  | (with_reducible apply et_NS)
  | (with_reducible exact ets_nil)
  | ((with_reducible apply et_TE); exact rfl)
  | ((with_reducible apply et_LE); exact rfl)
  | focus ((with_reducible show List.length _ = _); exact rfl)
  | focus ((with_reducible show List.length (α := PyData) _ ≤ 1000); (simp only [List.length_cons, List.length_nil]; omega))
  | (with_reducible apply ets_cons)
  | (with_reducible apply dAdd_iE)
  | (with_reducible apply dSub_iE)
  | (with_reducible apply dLt_iE)
  | (with_reducible apply dGt_iE)
  | (with_reducible apply dLe_iE)
  | (with_reducible apply dGe_iE)
  | (with_reducible apply dEq_iE)
  | (with_reducible apply dNe_iE)
  | (with_reducible apply dEq_bE)
  | (with_reducible apply dNe_bE)
  | (with_reducible apply dLen_lE)
  | (with_reducible apply dLen_tE)
  | (with_reducible exact dAbs_i)
  | (with_reducible exact dInt_i)
  | (with_reducible exact dInt_b)
  | (with_reducible exact dTuple_l)
  | (with_reducible exact dTuple_t)
  | focus ((with_reducible show dTuple _ = _); exact rfl)
  | (with_reducible exact dList_l)
  | (with_reducible exact dList_t)
  | (with_reducible exact dMin2_i)
  | (with_reducible exact dMax2_i)
  | focus ((with_reducible show _ = some (some _)); exact rfl)
  | (with_reducible exact data_val)
  | (with_reducible exact data_own)
  | focus ((with_reducible show (!_) = _); exact rfl)
  | ((with_reducible apply look_val); exact rfl)
  | ((with_reducible apply look_own); exact rfl)
  | focus ((with_reducible show seqOf _ = _); exact rfl)
  | focus ((with_reducible show @Eq PV _ _); exact rfl)
  | focus ((with_reducible show @Eq PSt _ _); first | (focus (dsimp only [List.set, List.set_cons_succ, List.set_cons_zero, wipeP, restP, keepV, List.getElem?_cons_succ, List.getElem?_cons_zero]; try exact rfl)) | exact rfl)
  | focus ((with_reducible show isaD _ _ = _); exact rfl)
  | focus ((with_reducible show isa2 _ _ _ = _); exact rfl)
  | focus ((with_reducible show dIx _ _ = _); first | exact rfl | exact dIx_t0 rfl | exact dIx_l0 rfl)
  | focus ((with_reducible show (_ && _) = _); exact rfl)
  | focus ((with_reducible show (_ || _) = _); exact rfl)
  | (with_reducible apply dMul_iE)
  | (with_reducible apply dMod_iE)
  | (with_reducible apply dFdiv_iE)
  | (with_reducible exact (rfl : (_ : Bool) = _))
  | (with_reducible exact (rfl : (_ : Int) = _))
  | exact decide_eq_true (by omega)
  | exact decide_eq_false (by omega)
  | focus ((with_reducible show (_ : Int) = _); omega)
  | focus ((with_reducible show (_ : Int) < _); omega)
  )
local macro_rules | `(tactic| infer_instance) => `(tactic| first
  | (with_reducible apply ev_binO)
  | (with_reducible apply ev_rev)
  | (with_reducible apply ev_binSS)
  | ((with_reducible apply ev_pop); exact rfl)

  | focus ((with_reducible show ixN _ _ = _); exact rfl)
  | focus ((with_reducible show _ = some (some (PV.own _))); exact rfl)
  | focus ((with_reducible show _ ∨ _); first | (left; omega) | (right; omega))
  | focus ((with_reducible show _ ∧ _ < (1073741824 : Int)); omega)
  | focus ((with_reducible show dIs _ _ = _); exact rfl)
  | focus ((with_reducible show dIsNot _ _ = _); exact rfl)
  | (with_reducible exact decide_eq_true rfl)
  | focus ((with_reducible show decide (@Eq Bool _ _) = _); exact rfl))
theorem es_seqIx {f fi : PSt → Rs PyData} {g2 : PSt → Os} {ps ps1 ps2 ps3 : PSt} {i j : Nat} {d : PyData} {k : Int} {es es0 : List PyData} {o : Os} (h : Ev f ps d ps1) (h0 : ps1[i]? = some (some (.own (.list es0)))) (hi : Ev fi ps1 (.int k) ps2) (h1 : ps2[i]? = some (some (.own (.list es)))) (hj : ixN es.length k = some j) (hs : ps2.set i (some (.own (.list (es.set j d)))) = ps3) (h2 : Es g2 ps3 o) : Es (fSeq (fSetIx i fi f) g2) ps o := by subst hs; exact es_seq (es_setIx h h0 hi h1 hj) h2
theorem es_setIxE {f fi : PSt → Rs PyData} {ps ps1 ps2 ps3 : PSt} {i j : Nat} {d : PyData} {k : Int} {es es0 : List PyData} (h : Ev f ps d ps1) (h0 : ps1[i]? = some (some (.own (.list es0)))) (hi : Ev fi ps1 (.int k) ps2) (h1 : ps2[i]? = some (some (.own (.list es)))) (hj : ixN es.length k = some j) (hs : ps2.set i (some (.own (.list (es.set j d)))) = ps3) : Es (fSetIx i fi f) ps (.nx ps3) := by subst hs; exact es_setIx h h0 hi h1 hj
local macro_rules | `(tactic| infer_instance) => `(tactic| first
  | (with_reducible apply es_seqIx)
  | (with_reducible apply es_setIxE))
/-- the urn: its place 0 and 1 at least 0, its place 2 at most N -/
def Urn (N : Nat) (u : List PyData) : Prop := ∃ x y z : Int, u = [.int x, .int y, .int z] ∧ 0 ≤ x ∧ 0 ≤ y ∧ 0 ≤ z ∧ z ≤ N
theorem Urn.le {N M : Nat} {u : List PyData} (h : Urn N u) (hn : N ≤ M) : Urn M u := by
  obtain ⟨x, y, z, e, a, b, c, d⟩ := h
  exact ⟨x, y, z, e, a, b, c, by omega⟩
theorem t_box {c : Int} : ∃ u, M__law_box [.list [.int c], .int 0] = .ok (.own (.list u)) ∧ Urn 0 u := by
  refine ⟨[.int ((if c < 0 then -c else c) * (if (decide ((10 : Int) ^ 18 ≤ (if c < 0 then -c else c))) then 1 else 0)), .int (c % 2305843009213693951 + 41183 * 0 + 78772099), .int 0], ?_, ⟨_, _, _, rfl, ?_, ?_, by omega, by omega⟩⟩
  · show (b__law_box [some (.val (.list [.int c])), some (.val (.int 0)), none]).fin = _
    apply fin_retE
    unfold b__law_box
    apply es_seqS
    · apply ev_val
      apply ev_ifT
      · repeat infer_instance
        rfl
      repeat infer_instance
    repeat infer_instance
    · show dPow (.int 10) (.int 18) = some (.int (10 ^ 18))
      rfl
    repeat infer_instance
  · split <;> split <;> omega
  · have := Int.emod_nonneg c (b := 2305843009213693951) (by decide); omega
theorem t_take {N : Nat} {u : List PyData} {n : Int} (hu : Urn N u) (hN : N < 2 ^ 60) (hn : 0 < n) (hn' : n < 1073741824) : ∃ k u', M__law_take u [.int n] = .ok (.val (.int k)) u' ∧ (0 ≤ k ∧ k < n) ∧ Urn (N + 1) u' := by
  obtain ⟨x, y, z, rfl, hx, hy, hz, hz'⟩ := hu
  by_cases h : 0 < x
  · refine ⟨x % n, [.int (x / n), .int y, .int z], ?_, ⟨Int.emod_nonneg _ (by omega), Int.emod_lt_of_pos _ hn⟩, ⟨_, _, _, rfl, Int.ediv_nonneg hx (by omega), hy, hz, by omega⟩⟩
    show (b__law_take [some (.own (.list [.int x, .int y, .int z])), some (.val (.int n)), none, none, none, none]).finU = _
    apply finU_retE
    unfold b__law_take
    apply es_seqR
    apply es_ifT
    repeat infer_instance
    rfl
  · have hh : ∃ m : Int, M__law_take [.int x, .int y, .int z] [.int n] = .ok (.val (.int (m % n))) [.int x, .int y, .int (z + 1)] := by
      apply Exists.intro
      show (b__law_take [some (.own (.list [.int x, .int y, .int z])), some (.val (.int n)), none, none, none, none]).finU = _
      apply finU_retE
      unfold b__law_take
      apply es_seq
      · apply es_ifF
        repeat infer_instance
      repeat infer_instance
      rfl
    obtain ⟨m, hm⟩ := hh
    exact ⟨_, _, hm, ⟨Int.emod_nonneg _ (by omega), Int.emod_lt_of_pos _ hn⟩, ⟨_, _, _, rfl, hx, hy, by omega, by omega⟩⟩

theorem t_piece {N : Nat} {u : List PyData} {m : Nat} (hu : Urn N u) (hN : N + m + 1 < 2 ^ 50) (hm : m ≤ 20) : ∃ p u', M__law_piece u [.int m] = .ok (.val (eP p)) u' ∧ (Vp p ∧ p.length ≤ m) ∧ Urn (N + m + 1) u' := by
  obtain ⟨k, u1, h1, hk, hu1⟩ := t_take (n := (m : Int) + 1) hu (by omega) (by omega) (by omega)
  have key : ∀ (ds : List PyData) (acc : List Int) (u : List PyData) (N : Nat), Urn N u → N + ds.length < 2 ^ 55 → ds.length + acc.length ≤ 1000 → ∃ p u', compL (uN 2) cYes (fBin dIx (fTup (fCons (fK (.int 0)) (fCons (fK (.int 1)) (fCons (fK (.int 1)) (fCons (fK (.int 2)) (fun ps => .ok [] ps)))))) (fun ps => ((fCallU 0 1 M__law_take (fCons (fK (.int 4)) (fun ps => .ok [] ps))) ps).map PV.data)) [2] ds [some (.own (.list u)), some (.val (.int m)), none] (acc.map .int) = .ok ((acc ++ p).map .int) [some (.own (.list u')), some (.val (.int m)), none] ∧ ((∀ i ∈ p, 0 ≤ i ∧ i ≤ 9) ∧ p.length = ds.length) ∧ Urn (N + ds.length) u' := by
    intro ds
    induction ds with
    | nil => intro acc u N hu _ _; exact ⟨[], u, by simp [compL], ⟨by simp, rfl⟩, hu⟩
    | cons d ds ih =>
      intro acc u N hu hN hl
      simp only [List.length_cons] at hN hl
      obtain ⟨k, u1, h1, hk, hu1⟩ := t_take (n := 4) hu (by omega) (by omega) (by omega)
      obtain ⟨q, hq, hq'⟩ : ∃ q : Int, dIx (.tuple [.int 0, .int 1, .int 1, .int 2]) (.int k) = some (.int q) ∧ 0 ≤ q ∧ q ≤ 9 := by
        have : k = 0 ∨ k = 1 ∨ k = 2 ∨ k = 3 := by omega
        rcases this with e | e | e | e <;> subst e
        · exact ⟨0, rfl, by omega⟩
        · exact ⟨1, rfl, by omega⟩
        · exact ⟨1, rfl, by omega⟩
        · exact ⟨2, rfl, by omega⟩
      obtain ⟨p, u', e1, e2, e3⟩ := ih (acc ++ [q]) u1 (N + 1) hu1 (by omega) (by simp; omega)
      refine ⟨q :: p, u', ?_, ⟨?_, by simp [e2.2]⟩, e3.le (by simp; omega)⟩
      · have e : acc ++ q :: p = (acc ++ [q]) ++ p := by simp
        rw [e, ← e1]
        refine compL_cons et_N ev_cYes (ps3 := [some (.own (.list u1)), some (.val (.int m)), some (.val d)]) (e := .int q) ?_ (by simp; omega) ?_
        · repeat infer_instance
          · exact h1
          repeat infer_instance
          · exact hq
        · rw [List.map_append]; rfl
      · intro i hi
        rcases List.mem_cons.mp hi with e | e
        · subst e; exact hq'
        · exact e2.1 i e
  obtain ⟨p, u', e1, e2, e3⟩ := key (rangeD 0 k.toNat) [] u1 (N + 1) hu1 (by unfold rangeD; simp; omega) (by unfold rangeD; simp; omega)
  have hl : (rangeD 0 k.toNat).length = k.toNat := by unfold rangeD; simp
  rw [hl] at e2 e3
  refine ⟨p, u', ?_, ⟨⟨e2.1, by omega⟩, by omega⟩, e3.le (by omega)⟩
  show (b__law_piece [some (.own (.list u)), some (.val (.int m)), none]).finU = _
  apply finU_retE
  unfold b__law_piece
  apply es_ret
  apply ev_val
  apply ev_app
  · apply ev_cons
    apply ev_dataE
    · refine ev_lcS (ev_range1 (k := k) (ps1 := [some (.own (.list u1)), some (.val (.int m)), none]) ?_ (by omega)) rfl e1 rfl
      repeat infer_instance
      · exact h1
      repeat infer_instance
    repeat infer_instance
  repeat infer_instance
  rfl

theorem t_cells {ns : List Int} (hl : ns.length ≤ 63) : ∃ c : Int, M__law_cells [.list (ns.map .int), .int 1] = .ok (.own (.list [.int c])) := by
  have key : ∀ (ms : List Int) (j : Nat) (c : Int) (s t r : Option PV), j + ms.length ≤ 100 → ∃ (c' : Int) (s' t' r' : Option PV), forL (uTup 2 (uCons (uN 3) (uCons (uN 4) uNil))) (fSeq (fSet 5 (fun ps => ((fBin dMod (fApp dInt (fCons (fN 3) (fun ps => .ok [] ps))) (fLenS 2)) ps).map PV.val)) (fSetIx 2 (fN 5) (fBin dAdd (fIxS 2 (fN 5)) (fBin dMul (fN 4) (fBin dAdd (fN 3) (fK (.int 2)))))))
      ((ms.zipIdx j).map fun p => PyData.tuple [.int (p.2 : Nat), .int p.1]) [some (.val (.list (ns.map .int))), some (.val (.int 1)), some (.own (.list [.int c])), s, t, r] = .nx [some (.val (.list (ns.map .int))), some (.val (.int 1)), some (.own (.list [.int c'])), s', t', r'] := by
    intro ms
    induction ms with
    | nil => intro j c s t r _; exact ⟨c, s, t, r, rfl⟩
    | cons m ms ih =>
      intro j c s t r hj
      simp only [List.length_cons] at hj
      obtain ⟨c', s', t', r', e⟩ := ih (j + 1) (c + m * ((j : Int) + 2)) (some (.val (.int j))) (some (.val (.int m))) (some (.val (.int 0))) (by omega)
      refine ⟨c', s', t', r', ?_⟩
      rw [List.zipIdx_cons, List.map_cons, ← e]
      refine forL_cons (ps1 := [some (.val (.list (ns.map .int))), some (.val (.int 1)), some (.own (.list [.int c])), some (.val (.int j)), some (.val (.int m)), r]) rfl (ps2 := [some (.val (.list (ns.map .int))), some (.val (.int 1)), some (.own (.list [.int (c + m * ((j : Int) + 2))])), some (.val (.int j)), some (.val (.int m)), some (.val (.int 0))]) ?_ rfl
      refine es_seqS (ps1 := [some (.val (.list (ns.map .int))), some (.val (.int 1)), some (.own (.list [.int c])), some (.val (.int j)), some (.val (.int m)), r]) (ev_val (d := .int 0) ?_) rfl ?_
      · repeat infer_instance
        all_goals simp
      · dsimp only [List.set]
        refine es_to (o1 := .nx [some (.val (.list (ns.map .int))), some (.val (.int 1)), some (.own (.list [.int (c + m * ((j : Int) + 2))])), some (.val (.int j)), some (.val (.int m)), some (.val (.int 0))]) ?_ rfl
        refine es_setIxE (k := 0) (j := 0) (d := .int (c + m * ((j : Int) + 2))) (es := [.int c]) (es0 := [.int c]) (ps1 := [some (.val (.list (ns.map .int))), some (.val (.int 1)), some (.own (.list [.int c])), some (.val (.int j)), some (.val (.int m)), some (.val (.int 0))]) (ps2 := [some (.val (.list (ns.map .int))), some (.val (.int 1)), some (.own (.list [.int c])), some (.val (.int j)), some (.val (.int m)), some (.val (.int 0))]) ?_ rfl ?_ rfl rfl rfl
        · repeat infer_instance
        · repeat infer_instance
  have hcut : ∀ lo hi : Option Int, ∃ ms : List Int, cutD (ns.map PyData.int) lo hi = ms.map .int ∧ ms.length ≤ ns.length := fun lo hi => by
    refine ⟨(ns.drop (HT.sIx (ns.map PyData.int).length 0 lo)).take (HT.sIx (ns.map PyData.int).length (ns.map PyData.int).length hi - HT.sIx (ns.map PyData.int).length 0 lo), ?_, by simp; omega⟩
    unfold GL.cutD; rw [map_drop', map_take']
  have h1 : ∃ c0 : Int, Ev (fOrT (fAppO dList (fCons (fun ps => ((fSl (fN 0) fNoPart (fSomePart (fN 1))) ps).map PV.data) (fun ps => .ok [] ps))) (fLst (fCons (fK (.int 0)) (fun ps => .ok [] ps)))) [some (.val (.list (ns.map .int))), some (.val (.int 1)), none, none, none, none] (.own (.list [.int c0])) [some (.val (.list (ns.map .int))), some (.val (.int 1)), none, none, none, none] := by
    have hs : Ev (fAppO dList (fCons (fun ps => ((fSl (fN 0) fNoPart (fSomePart (fN 1))) ps).map PV.data) (fun ps => .ok [] ps))) [some (.val (.list (ns.map .int))), some (.val (.int 1)), none, none, none, none] (.own (.list (cutD (ns.map .int) none (some ((1 : Nat) : Int))))) [some (.val (.list (ns.map .int))), some (.val (.int 1)), none, none, none, none] :=
      ev_appO (ev_cons (ev_data (ev_slL (ev_N rfl) ev_partN (ev_partS (ev_N rfl)))) ev_nil) rfl
    rw [cutD_to] at hs
    cases ns with
    | nil => exact ⟨0, ev_orT2 hs rfl (ev_lstE (ev_cons ev_K ev_nil) (by simp))⟩
    | cons n ns => exact ⟨n, ev_orT1 hs rfl⟩
  obtain ⟨c0, h1⟩ := h1
  obtain ⟨ms, hm, hml⟩ := hcut (some 1) (some 63)
  obtain ⟨c', s', t', r', e⟩ := key ms 0 c0 none none none (by omega)
  refine ⟨c', ?_⟩
  show (b__law_cells [some (.val (.list (ns.map .int))), some (.val (.int 1)), none, none, none, none]).fin = _
  apply fin_retE
  unfold b__law_cells
  · refine es_seqS h1 rfl ?_
    dsimp only [List.set]
    refine es_seq (ps1 := [some (.val (.list (ns.map .int))), some (.val (.int 1)), some (.own (.list [.int c'])), s', t', r']) (es_for (ds := enumD (ms.map .int)) (ps1 := [some (.val (.list (ns.map .int))), some (.val (.int 1)), some (.own (.list [.int c0])), none, none, none]) (ev_enum (ev_cons (ev_dataE (ev_slL (ev_N rfl) (ev_partS (ev_N rfl)) (ev_partS ev_K)) ?_) ev_nil)) ?_) ?_
    · rw [← hm]; rfl
    · have : enumD (ms.map PyData.int) = (ms.zipIdx 0).map fun p => PyData.tuple [.int (p.2 : Nat), .int p.1] := by
        unfold enumD
        rw [List.mapIdx_eq_zipIdx_map, List.zipIdx_map, List.map_map]
        rfl
      rw [this]; exact e
    · exact es_ret (ev_MvS rfl rfl)
  · rfl
theorem t_same_i {k : Nat} {i : Int} : R__law_same (k + 1) [.int i, .int i] = .ok (.val (.bool true)) := by
  show (b__law_same (R__law_same k) [some (.val (.int i)), some (.val (.int i)), none, none]).fin = _
  apply fin_retE
  unfold b__law_same
  apply es_seq
  · apply es_ifF
    repeat infer_instance
  apply es_seq
  · apply es_ifF
    · refine ev_to (ev_orP (k := false) (l := false) ?_ ?_) rfl rfl
      repeat infer_instance
    repeat infer_instance
  apply es_ret
  apply ev_val
  · refine ev_andVP (k := true) (l := true) ?_ (ev_andVP (k := true) (l := true) ?_ ?_)
    repeat infer_instance
  · rfl
theorem t_same_b {k : Nat} {i : Bool} : R__law_same (k + 1) [.bool i, .bool i] = .ok (.val (.bool true)) := by
  show (b__law_same (R__law_same k) [some (.val (.bool i)), some (.val (.bool i)), none, none]).fin = _
  apply fin_retE
  unfold b__law_same
  apply es_seq
  · apply es_ifF
    repeat infer_instance
  apply es_seqR
  apply es_ifT
  · refine ev_to (ev_orP (k := false) (l := true) ?_ ?_) rfl rfl
    repeat infer_instance
  apply es_ret
  apply ev_val
  · refine ev_andVP (k := true) (l := true) ?_ (ev_andVP (k := true) (l := true) ?_ (ev_andVP (k := true) (l := true) ?_ ?_))
    repeat infer_instance
  · rfl
theorem t_same_s {k : Nat} {ds : List PyData} {d : PyData} (hl : ds.length ≤ 1000) (hd : d = .list ds ∨ d = .tuple ds) (h : ∀ e ∈ ds, R__law_same k [e, e] = .ok (.val (.bool true))) : R__law_same (k + 1) [d, d] = .ok (.val (.bool true)) := by
  show (b__law_same (R__law_same k) [some (.val d), some (.val d), none, none]).fin = _
  apply fin_retE
  unfold b__law_same
  apply es_seqR
  apply es_ifT
  · refine ev_test (ev_isi (d := d) (ev_N rfl) (k := true) ?_)
    rcases hd with e | e <;> subst e <;> rfl
  obtain ⟨kl, hkl, kt, hkt, hn⟩ : ∃ kl, isaD "list" d = some kl ∧ ∃ kt, isaD "tuple" d = some kt ∧ dLen [d] = some (.int ds.length) := by
    rcases hd with e | e <;> subst e
    · exact ⟨_, rfl, _, rfl, rfl⟩
    · exact ⟨_, rfl, _, rfl, rfl⟩
  have hz : (fZip (fCons (fN 0) (fCons (fN 1) (fun ps => .ok [] ps)))) [some (.val d), some (.val d), none, none] = .ok (zipD ds ds) [some (.val d), some (.val d), none, none] := by
    rcases hd with e | e <;> subst e
    · exact ev_zipL (ev_cons (ev_N rfl) (ev_cons (ev_N rfl) ev_nil))
    · exact ev_zipT (ev_cons (ev_N rfl) (ev_cons (ev_N rfl) ev_nil))
  apply es_seq
  · apply es_ifF
    · refine ev_to (ev_orP (k := false) (l := false) ?_ ?_) rfl rfl
      · refine ev_test (ev_bin (ev_isi (ev_N rfl) hkl) (ev_isi (ev_N rfl) hkl) (dNe_bE ?_)); simp
      · refine ev_test (ev_bin (ev_isi (ev_N rfl) hkt) (ev_isi (ev_N rfl) hkt) (dNe_bE ?_)); simp
    repeat infer_instance
  apply es_ret
  apply ev_val
  · refine ev_andVP (k := true) (l := true) (ev_bin (ev_lenS (look_val rfl) hn) (ev_lenS (look_val rfl) hn) (dEq_iE (by simp))) ?_
    refine ev_app (ev_cons (ev_dataE (ev_lcS hz rfl (compL_map0 (fun _ => .bool true) _ (by unfold zipD; simp; omega) fun e he => ?_) rfl) rfl) ev_nil) (dAll_true fun d hd => ?_)
    · have hv : ∃ z, e = .tuple [z, z] ∧ z ∈ ds := by
        have : ∀ ds : List PyData, e ∈ zipD ds ds → ∃ z, e = .tuple [z, z] ∧ z ∈ ds := by
          intro ds
          induction ds with
          | nil => intro h; simp [zipD] at h
          | cons a ds ih =>
            intro h
            simp only [zipD, List.zipWith_cons_cons, List.mem_cons] at h
            rcases h with e | e
            · exact ⟨a, e, List.mem_cons_self⟩
            · obtain ⟨z, h1, h2⟩ := ih e; exact ⟨z, h1, List.mem_cons_of_mem _ h2⟩
        exact this ds he
      obtain ⟨z, rfl, hz⟩ := hv
      exact ⟨_, _, _, et_TE rfl (ets_cons et_N (ets_cons et_N ets_nil)), ev_cYes, ev_dataE (ev_callE (ev_cons (ev_N rfl) (ev_cons (ev_N rfl) ev_nil)) rfl (h z hz)) rfl, rfl⟩
    · obtain ⟨_, _, rfl⟩ := List.mem_map.mp hd
      rfl
  · rfl
theorem t_same_n {k : Nat} : R__law_same (k + 1) [.none, .none] = .ok (.val (.bool true)) := by
  show (b__law_same (R__law_same k) [some (.val .none), some (.val .none), none, none]).fin = _
  apply fin_retE
  unfold b__law_same
  apply es_seq
  · apply es_ifF
    repeat infer_instance
  apply es_seqR
  apply es_ifT
  · apply ev_orF
    repeat infer_instance
  apply es_ret
  apply ev_val
  · refine ev_andVP (k := true) (l := true) ?_ (ev_andVP (k := true) (l := true) ?_ (ev_andVP (k := true) (l := true) ?_ ?_))
    repeat infer_instance
    · unfold dEq; rw [if_pos ⟨sh_none, sh_none⟩]; rfl
    repeat infer_instance
  · rfl
theorem t_same_st {k : Nat} {x : Str} (h : PyData.canLay0 (.str x) = true) : R__law_same (k + 1) [.str x, .str x] = .ok (.val (.bool true)) := by
  show (b__law_same (R__law_same k) [some (.val (.str x)), some (.val (.str x)), none, none]).fin = _
  apply fin_retE
  unfold b__law_same
  apply es_seq
  · apply es_ifF
    repeat infer_instance
  apply es_seqR
  apply es_ifT
  · refine ev_to (ev_orP (k := false) (l := true) ?_ ?_) rfl rfl
    repeat infer_instance
  apply es_ret
  apply ev_val
  · refine ev_andVP (k := true) (l := true) ?_ (ev_andVP (k := true) (l := true) ?_ (ev_andVP (k := true) (l := true) ?_ ?_))
    · refine ev_binS (look_val rfl) (ev_N rfl) (look_val rfl) ?_
      unfold dEq
      have hs : SeqAt.shaped (.str x) = true := by unfold SeqAt.shaped; rw [h]; simp [PyData.depth]
      rw [if_pos ⟨hs, hs⟩]
      simp [PyData.eqv]
    repeat infer_instance
  · rfl
theorem t_sameG : ∀ (k : Nat) (d : PyData), sz d = true → d.depth < k → R__law_same k [d, d] = .ok (.val (.bool true))
  | 0, _, _, h => by omega
  | k + 1, .int i, _, _ => t_same_i
  | k + 1, .none, _, _ => t_same_n
  | k + 1, .bool i, _, _ => t_same_b
  | k + 1, .str i, h, _ => t_same_st (by simpa [sz] using h)
  | k + 1, .dict _, h, _ => by simp [sz] at h
  | k + 1, .list ds, h, hd => by
    have h' : ds.length ≤ 1000 ∧ szAll ds = true := by simpa [sz] using h
    simp only [PyData.depth] at hd
    exact t_same_s h'.1 (.inl rfl) fun e m => t_sameG k e (szAll_mem h'.2 e m) (by have := depth_mem m; omega)
  | k + 1, .tuple ds, h, hd => by
    have h' : ds.length ≤ 1000 ∧ szAll ds = true := by simpa [sz] using h
    simp only [PyData.depth] at hd
    exact t_same_s h'.1 (.inr rfl) fun e m => t_sameG k e (szAll_mem h'.2 e m) (by have := depth_mem m; omega)
theorem t_same {d e : PyData} (h : sz d = true) (hd : d.depth < 40) (he : d = e) : M__law_same [d, e] = .ok (.val (.bool true)) := by subst he; exact t_sameG 40 d h hd
end TT

namespace TT
open PySem PySem.Spec L2 GL GT
open PyProof.Rows hiding St
theorem t_lists_leaf {k : Nat} {d : PyData} (h : isa2 "list" "tuple" d = some false) : R__law_lists (k + 1) [d] = .ok (.val d) := by
  show (b__law_lists (R__law_lists k) [some (.val d), none]).fin = _
  apply fin_ret
  unfold b__law_lists
  apply es_ret
  apply ev_val
  apply ev_ifF
  · exact ev_test (ev_isi (ev_N rfl) h)
  · exact ev_N rfl
theorem t_lists_seq {k : Nat} {ds : List PyData} {d : PyData} (hl : ds.length ≤ 1000) (hd : d = .list ds ∨ d = .tuple ds) (hh : ∀ e ∈ ds, R__law_lists k [e] = .ok (.val (lis e))) : R__law_lists (k + 1) [d] = .ok (.val (.list (ds.map lis))) := by
  show (b__law_lists (R__law_lists k) [some (.val d), none]).fin = _
  apply fin_ret
  unfold b__law_lists
  apply es_ret
  apply ev_val
  apply ev_ifT
  · refine ev_test (ev_isi (d := d) (ev_N rfl) (k := true) ?_)
    rcases hd with e | e <;> subst e <;> rfl
  · refine ev_dataE (ev_lcS (ev_seqI (ev_N rfl) (?_ : _ = some ds)) rfl (compL_map0 lis ds (by omega) fun e he => ?_) rfl) rfl
    · rcases hd with e | e <;> subst e <;> rfl
    · refine ⟨_, _, _, et_N, ev_cYes, ev_dataE (ev_callE (ev_cons (ev_N rfl) ev_nil) rfl (hh e he)) rfl, rfl⟩
theorem t_listsG : ∀ (k : Nat) (d : PyData), sz d = true → d.depth < k → R__law_lists k [d] = .ok (.val (lis d))
  | 0, _, _, h => by omega
  | k + 1, .int i, _, _ => t_lists_leaf rfl
  | k + 1, .none, _, _ => t_lists_leaf rfl
  | k + 1, .bool i, _, _ => t_lists_leaf rfl
  | k + 1, .str i, _, _ => t_lists_leaf rfl
  | k + 1, .dict _, h, _ => by simp [sz] at h
  | k + 1, .list ds, h, hd => by
    have h' : ds.length ≤ 1000 ∧ szAll ds = true := by simpa [sz] using h
    simp only [PyData.depth] at hd
    rw [lis, lisAll_map]
    exact t_lists_seq h'.1 (.inl rfl) fun e m => t_listsG k e (szAll_mem h'.2 e m) (by have := depth_mem m; omega)
  | k + 1, .tuple ds, h, hd => by
    have h' : ds.length ≤ 1000 ∧ szAll ds = true := by simpa [sz] using h
    simp only [PyData.depth] at hd
    rw [lis, lisAll_map]
    exact t_lists_seq h'.1 (.inr rfl) fun e m => t_listsG k e (szAll_mem h'.2 e m) (by have := depth_mem m; omega)
theorem t_lists {d e : PyData} (h : sz d = true) (hd : d.depth < 40) (he : lis d = e) : M__law_lists [d] = .ok (.val e) := by subst he; exact t_listsG 40 d h hd
end TT

namespace TT
open PySem PySem.Spec L2 GL GT
open PyProof.Rows hiding St
local macro_rules | `(tactic| infer_instance) => `(tactic| first
  | (with_reducible apply es_seqS)
  | (with_reducible apply es_setS)
  | (with_reducible apply es_seqA)
  | (with_reducible apply es_seqE)
  | (with_reducible apply es_ret)
  | (with_reducible apply es_expr)
  | (with_reducible apply es_asg)
  | (with_reducible exact es_skip)
  | (with_reducible exact ev_K)
  | (with_reducible exact ev_nil)
  | ((with_reducible apply ev_nilE); exact rfl)
  | ((with_reducible apply ev_KE); exact rfl)
  | (with_reducible exact ev_cYes)
  | (with_reducible exact ev_partN)
  | (with_reducible apply ev_cons)
  | ((with_reducible apply ev_N); exact rfl)
  | ((with_reducible apply ev_MvS); exact rfl)
  | ((with_reducible apply ev_NoS); exact rfl)
  | (with_reducible apply ev_dataE)
  | (with_reducible apply ev_val)
  | (with_reducible apply ev_bin)
  | (with_reducible apply ev_un)
  | ((with_reducible apply ev_binS))
  | ((with_reducible apply ev_ixS))
  | ((with_reducible apply ev_lenS))
  | (with_reducible apply ev_test)
  | (with_reducible apply ev_notE)
  | (with_reducible apply ev_notVE)
  | (with_reducible apply ev_tupE)
  | (with_reducible apply ev_lstE)
  | (with_reducible apply ev_app)
  | (with_reducible apply ev_appO)
  | (with_reducible apply ev_isi)
  | (with_reducible apply ev_callE)
  | ((with_reducible apply ev_callUE); exact rfl)
  | (with_reducible apply ev_partS)
  | (with_reducible apply ev_seqI)
  | (with_reducible apply ev_lcS)
  | (with_reducible apply et_NS)
  | (with_reducible exact ets_nil)
  | ((with_reducible apply et_TE); exact rfl)
  | ((with_reducible apply et_LE); exact rfl)
  | focus ((with_reducible show List.length _ = _); exact rfl)
  | focus ((with_reducible show List.length (α := PyData) _ ≤ 1000); (simp only [List.length_cons, List.length_nil]; omega))
  | (with_reducible apply ets_cons)
  | (with_reducible apply dAdd_iE)
  | (with_reducible apply dSub_iE)
  | (with_reducible apply dLt_iE)
  | (with_reducible apply dGt_iE)
  | (with_reducible apply dLe_iE)
  | (with_reducible apply dGe_iE)
  | (with_reducible apply dEq_iE)
  | (with_reducible apply dNe_iE)
  | (with_reducible apply dEq_bE)
  | (with_reducible apply dNe_bE)
  | (with_reducible apply dLen_lE)
  | (with_reducible apply dLen_tE)
  | (with_reducible exact dAbs_i)
  | (with_reducible exact dInt_i)
  | (with_reducible exact dInt_b)
  | (with_reducible exact dTuple_l)
  | (with_reducible exact dTuple_t)
  | focus ((with_reducible show dTuple _ = _); exact rfl)
  | (with_reducible exact dList_l)
  | (with_reducible exact dList_t)
  | (with_reducible exact dMin2_i)
  | (with_reducible exact dMax2_i)
  | focus ((with_reducible show _ = some (some _)); exact rfl)
  | (with_reducible exact data_val)
  | (with_reducible exact data_own)
  | focus ((with_reducible show (!_) = _); exact rfl)
  | ((with_reducible apply look_val); exact rfl)
  | ((with_reducible apply look_own); exact rfl)
  | focus ((with_reducible show seqOf _ = _); exact rfl)
  | focus ((with_reducible show @Eq PV _ _); exact rfl)
  | focus ((with_reducible show @Eq PSt _ _); first | (focus (dsimp only [List.set, List.set_cons_succ, List.set_cons_zero, wipeP, restP, keepV, List.getElem?_cons_succ, List.getElem?_cons_zero]; try exact rfl)) | exact rfl)
  | focus ((with_reducible show isaD _ _ = _); exact rfl)
  | focus ((with_reducible show isa2 _ _ _ = _); exact rfl)
  | focus ((with_reducible show dIx _ _ = _); first | exact rfl | exact dIx_t0 rfl | exact dIx_l0 rfl)
  | focus ((with_reducible show (_ && _) = _); exact rfl)
  | focus ((with_reducible show (_ || _) = _); exact rfl)
  | (with_reducible apply dMul_iE)
  | (with_reducible apply dMod_iE)
  | (with_reducible apply dFdiv_iE)
  | (with_reducible exact (rfl : (_ : Bool) = _))
  | (with_reducible exact (rfl : (_ : Int) = _))
  | exact decide_eq_true (by omega)
  | exact decide_eq_false (by omega)
  | focus ((with_reducible show (_ : Int) = _); omega)
  | focus ((with_reducible show (_ : Int) < _); omega)
  )
local macro_rules | `(tactic| infer_instance) => `(tactic| first
  | (with_reducible apply ev_binO)
  | (with_reducible apply ev_rev)
  | (with_reducible apply ev_binSS)
  | ((with_reducible apply ev_pop); exact rfl)

  | focus ((with_reducible show ixN _ _ = _); exact rfl)
  | focus ((with_reducible show _ = some (some (PV.own _))); exact rfl)
  | focus ((with_reducible show _ ∨ _); first | (left; omega) | (right; omega))
  | focus ((with_reducible show _ ∧ _ < (1073741824 : Int)); omega)
  | focus ((with_reducible show dIs _ _ = _); exact rfl)
  | focus ((with_reducible show dIsNot _ _ = _); exact rfl)
  | (with_reducible exact decide_eq_true rfl)
  | focus ((with_reducible show decide (@Eq Bool _ _) = _); exact rfl))
theorem t_law_set {α : Type} {en : α → PyData} {k : Nat} (t : Ty en k) (hk : k ≤ 8) (hT : ∀ a, ∃ ds, en a = .tuple ds) {l : List α} {d : PyData} (hd : d = .list (l.map en) ∨ d = .tuple (l.map en)) (h : l.length < 64) :
    M__law_set [d] = .ok (.val (.tuple ((srt en l).map en))) := by
  show (b__law_set [some (.val d)]).fin = _
  apply fin_retE
  unfold b__law_set
  repeat infer_instance
  · exact t.dSortSet hk hT hd h
  repeat infer_instance
end TT

namespace TT
open PySem PySem.Spec L2 GL GT
open PyProof.Rows hiding St
def pairsOf {α β : Type} (l : List α) (m : List β) : List (α × β) := l.flatMap fun a => m.map fun b => (a, b)
theorem mem_pairsOf {α β : Type} {l : List α} {m : List β} {p : α × β} : p ∈ pairsOf l m ↔ p.1 ∈ l ∧ p.2 ∈ m := by
  unfold pairsOf
  rw [List.mem_flatMap]
  constructor
  · rintro ⟨a, ha, hp⟩
    obtain ⟨b, hb, rfl⟩ := List.mem_map.mp hp
    exact ⟨ha, hb⟩
  · rintro ⟨h1, h2⟩
    exact ⟨p.1, h1, List.mem_map.mpr ⟨p.2, h2, rfl⟩⟩
theorem t_law_pairs {α β : Type} {e1 : α → PyData} {e2 : β → PyData} (l : List α) (m : List β) (hz : l.length * m.length ≤ 1000) (hm : m.length ≤ 1000) : M__law_pairs [.list (l.map e1), .list (m.map e2)] = .ok (.own (.list ((pairsOf l m).map (eP2 e1 e2)))) := by
  show (b__law_pairs [some (.val (.list (l.map e1))), some (.val (.list (m.map e2))), none, none, none]).fin = _
  have key : ∀ (l' : List α) (acc : List (α × β)) (x : Option PV), acc.length + l'.length * m.length ≤ 1000 → ∃ y, forL (uN 3) (fSet 2 (fBinO dCatL (fN 2) (fun ps => ((fLc (fSeqI (fN 1)) (uN 4) cYes (fTup (fCons (fN 3) (fCons (fN 4) (fun ps => .ok [] ps)))) [4]) ps).map PV.data))) (l'.map e1)
      [some (.val (.list (l.map e1))), some (.val (.list (m.map e2))), some (.own (.list (acc.map (eP2 e1 e2)))), x, none] = .nx [some (.val (.list (l.map e1))), some (.val (.list (m.map e2))), some (.own (.list ((acc ++ pairsOf l' m).map (eP2 e1 e2)))), y, none] := by
    intro l'
    induction l' with
    | nil => intro acc x _; exact ⟨x, by simp [pairsOf, forL]⟩
    | cons a l' ih =>
      intro acc x hz
      have hz' : acc.length + (l'.length * m.length + m.length) ≤ 1000 := by simpa [Nat.add_mul] using hz
      obtain ⟨y, e⟩ := ih (acc ++ m.map fun b => (a, b)) (some (.val (e1 a))) (by simp; omega)
      refine ⟨y, ?_⟩
      have e' : acc ++ pairsOf (a :: l') m = (acc ++ m.map fun b => (a, b)) ++ pairsOf l' m := by simp [pairsOf]
      rw [e', ← e, List.map_cons]
      refine forL_cons (ps1 := [some (.val (.list (l.map e1))), some (.val (.list (m.map e2))), some (.own (.list (acc.map (eP2 e1 e2)))), some (.val (e1 a)), none]) rfl (ps2 := [some (.val (.list (l.map e1))), some (.val (.list (m.map e2))), some (.own (.list ((acc ++ m.map fun b => (a, b)).map (eP2 e1 e2)))), some (.val (e1 a)), none]) ?_ rfl
      have hc : compL (uN 4) cYes (fTup (fCons (fN 3) (fCons (fN 4) (fun ps => .ok [] ps)))) [4] (m.map e2) [some (.val (.list (l.map e1))), some (.val (.list (m.map e2))), some (.val (.list (acc.map (eP2 e1 e2)))), some (.val (e1 a)), none] [] =
          .ok ((m.map fun b => (a, b)).map (eP2 e1 e2)) [some (.val (.list (l.map e1))), some (.val (.list (m.map e2))), some (.val (.list (acc.map (eP2 e1 e2)))), some (.val (e1 a)), none] := by
        refine compL_each (fun b => (a, b)) m (by omega) fun b _ => ⟨_, et_N, _, ev_tupE (ev_cons (ev_N rfl) (ev_cons (ev_N rfl) ev_nil)) (by simp), rfl⟩
      refine es_setS (p := .own (.list ((acc ++ m.map fun b => (a, b)).map (eP2 e1 e2)))) (ev_to (ev_binO (ev_NoS rfl rfl) (ev_dataE (ev_lcS (ev_seqI (ev_N rfl) rfl) rfl hc rfl) rfl) (dCatL_l ?_)) ?_ rfl) rfl
      · simp; omega
      · rw [List.map_append]
  obtain ⟨y, e⟩ := key l [] none (by simpa using hz)
  refine fin_retE (ps1 := [some (.val (.list (l.map e1))), some (.val (.list (m.map e2))), none, y, none]) (p := .own (.list ((pairsOf l m).map (eP2 e1 e2)))) ?_ rfl
  unfold b__law_pairs
  refine es_seqS (ev_lstE ev_nil (by simp)) rfl ?_
  refine es_seq (es_for (ev_seqI (ev_N rfl) rfl) e) ?_
  refine es_ret (ev_MvS rfl ?_)
  rfl
end TT

namespace TT
open PySem PySem.Spec L2 GL GT
open PyProof.Rows hiding St
local macro_rules | `(tactic| infer_instance) => `(tactic| first
  | (with_reducible apply es_seqS)
  | (with_reducible apply es_setS)
  | (with_reducible apply es_seqA)
  | (with_reducible apply es_seqE)
  | (with_reducible apply es_ret)
  | (with_reducible apply es_expr)
  | (with_reducible apply es_asg)
  | (with_reducible exact es_skip)
  | (with_reducible exact ev_K)
  | (with_reducible exact ev_nil)
  | ((with_reducible apply ev_nilE); exact rfl)
  | ((with_reducible apply ev_KE); exact rfl)
  | (with_reducible exact ev_cYes)
  | (with_reducible exact ev_partN)
  | (with_reducible apply ev_cons)
  | ((with_reducible apply ev_N); exact rfl)
  | ((with_reducible apply ev_MvS); exact rfl)
  | ((with_reducible apply ev_NoS); exact rfl)
  | (with_reducible apply ev_dataE)
  | (with_reducible apply ev_val)
  | (with_reducible apply ev_bin)
  | (with_reducible apply ev_un)
  | ((with_reducible apply ev_binS))
  | ((with_reducible apply ev_ixS))
  | ((with_reducible apply ev_lenS))
  | (with_reducible apply ev_test)
  | (with_reducible apply ev_notE)
  | (with_reducible apply ev_notVE)
  | (with_reducible apply ev_tupE)
  | (with_reducible apply ev_lstE)
  | (with_reducible apply ev_app)
  | (with_reducible apply ev_appO)
  | (with_reducible apply ev_isi)
  | (with_reducible apply ev_callE)
  | ((with_reducible apply ev_callUE); exact rfl)
  | (with_reducible apply ev_partS)
  | (with_reducible apply ev_seqI)
  | (with_reducible apply ev_lcS)
  | (with_reducible apply et_NS)
  | (with_reducible exact ets_nil)
  | ((with_reducible apply et_TE); exact rfl)
  | ((with_reducible apply et_LE); exact rfl)
  | focus ((with_reducible show List.length _ = _); exact rfl)
  | focus ((with_reducible show List.length (α := PyData) _ ≤ 1000); (simp only [List.length_cons, List.length_nil]; omega))
  | (with_reducible apply ets_cons)
  | (with_reducible apply dAdd_iE)
  | (with_reducible apply dSub_iE)
  | (with_reducible apply dLt_iE)
  | (with_reducible apply dGt_iE)
  | (with_reducible apply dLe_iE)
  | (with_reducible apply dGe_iE)
  | (with_reducible apply dEq_iE)
  | (with_reducible apply dNe_iE)
  | (with_reducible apply dEq_bE)
  | (with_reducible apply dNe_bE)
  | (with_reducible apply dLen_lE)
  | (with_reducible apply dLen_tE)
  | (with_reducible exact dAbs_i)
  | (with_reducible exact dInt_i)
  | (with_reducible exact dInt_b)
  | (with_reducible exact dTuple_l)
  | (with_reducible exact dTuple_t)
  | focus ((with_reducible show dTuple _ = _); exact rfl)
  | (with_reducible exact dList_l)
  | (with_reducible exact dList_t)
  | (with_reducible exact dMin2_i)
  | (with_reducible exact dMax2_i)
  | focus ((with_reducible show _ = some (some _)); exact rfl)
  | (with_reducible exact data_val)
  | (with_reducible exact data_own)
  | focus ((with_reducible show (!_) = _); exact rfl)
  | ((with_reducible apply look_val); exact rfl)
  | ((with_reducible apply look_own); exact rfl)
  | focus ((with_reducible show seqOf _ = _); exact rfl)
  | focus ((with_reducible show @Eq PV _ _); exact rfl)
  | focus ((with_reducible show @Eq PSt _ _); first | (focus (dsimp only [List.set, List.set_cons_succ, List.set_cons_zero, wipeP, restP, keepV, List.getElem?_cons_succ, List.getElem?_cons_zero]; try exact rfl)) | exact rfl)
  | focus ((with_reducible show isaD _ _ = _); exact rfl)
  | focus ((with_reducible show isa2 _ _ _ = _); exact rfl)
  | focus ((with_reducible show dIx _ _ = _); first | exact rfl | exact dIx_t0 rfl | exact dIx_l0 rfl)
  | focus ((with_reducible show (_ && _) = _); exact rfl)
  | focus ((with_reducible show (_ || _) = _); exact rfl)
  | (with_reducible apply dMul_iE)
  | (with_reducible apply dMod_iE)
  | (with_reducible apply dFdiv_iE)
  | (with_reducible exact (rfl : (_ : Bool) = _))
  | (with_reducible exact (rfl : (_ : Int) = _))
  | exact decide_eq_true (by omega)
  | exact decide_eq_false (by omega)
  | focus ((with_reducible show (_ : Int) = _); omega)
  | focus ((with_reducible show (_ : Int) < _); omega)
  )
local macro_rules | `(tactic| infer_instance) => `(tactic| first
  | (with_reducible apply ev_binO)
  | (with_reducible apply ev_rev)
  | (with_reducible apply ev_binSS)
  | ((with_reducible apply ev_pop); exact rfl)

  | focus ((with_reducible show ixN _ _ = _); exact rfl)
  | focus ((with_reducible show _ = some (some (PV.own _))); exact rfl)
  | focus ((with_reducible show _ ∨ _); first | (left; omega) | (right; omega))
  | focus ((with_reducible show _ ∧ _ < (1073741824 : Int)); omega)
  | focus ((with_reducible show dIs _ _ = _); exact rfl)
  | focus ((with_reducible show dIsNot _ _ = _); exact rfl)
  | (with_reducible exact decide_eq_true rfl)
  | focus ((with_reducible show decide (@Eq Bool _ _) = _); exact rfl))
abbrev eL (a b : List Int) : PyData := .tuple [eP a, eP b]
theorem dp_P (p : List Int) : (eP p).depth = 1 := by simp [PyData.depth, depth_ints]
theorem t_tuple_P {p : List Int} (h : p.length ≤ 1000) : M_tuple_of [eP p] = .ok (.val (eP p)) := t_tuple_of (sz_P h) (by rw [dp_P]; omega) (tup_ni (tyP.ni _))
theorem t_tuple_Pl {p : List Int} (h : p.length ≤ 1000) : M_tuple_of [.list (p.map .int)] = .ok (.val (eP p)) := by
  have e : (PyData.list (p.map .int)) = lis (eP p) := by
    show _ = PyData.list (lisAll _)
    rw [lisAll_map, List.map_map]; rfl
  rw [e]
  have q := sz_lis (sz_P h)
  exact t_tuple_of q.1 (by rw [q.2, dp_P]; omega) (tup_lis (tyP.ni _))
theorem t_tuple_L {a b : List Int} (h : a.length ≤ 1000) (h' : b.length ≤ 1000) : M_tuple_of [eL a b] = .ok (.val (eL a b)) := by
  have n : GS.ni (eL a b) = true := (Ty.pair tyP tyP).ni (a, b)
  refine t_tuple_of ?_ ?_ (tup_ni n)
  · simp [sz, szAll, sz_P h, sz_P h']
    exact ⟨by have := sz_P h; simpa [sz] using this, by have := sz_P h'; simpa [sz] using this⟩
  · have := (Ty.pair tyP tyP).dp (a, b)
    have e : (eP2 eP eP (a, b)).depth = (eL a b).depth := rfl
    omega
def cp : List Int → List Int → Nat
  | a :: x, b :: y => if a = b then cp x y + 1 else 0
  | _, _ => 0
theorem cp_nil (y : List Int) : cp [] y = 0 := by cases y <;> rfl
theorem cp_nil' (x : List Int) : cp x [] = 0 := by cases x <;> rfl
theorem cp_le : ∀ x y : List Int, cp x y ≤ x.length ∧ cp x y ≤ y.length
  | [], y => by simp [cp_nil]
  | x, [] => by simp [cp_nil']
  | a :: x, b :: y => by
    have := cp_le x y
    unfold cp; split <;> simp <;> omega
theorem cp_eq : ∀ (x y : List Int) (k : Nat), k < cp x y → x[k]? = y[k]?
  | [], y, k, h => by simp [cp_nil] at h
  | x, [], k, h => by simp [cp_nil'] at h
  | a :: x, b :: y, k, h => by
    unfold cp at h
    split at h
    · rename_i e; subst e
      cases k with
      | zero => rfl
      | succ k => simpa using cp_eq x y k (by omega)
    · omega
theorem cp_ne : ∀ (x y : List Int), cp x y < x.length → cp x y < y.length → x[cp x y]? ≠ y[cp x y]?
  | [], y, h, _ => by simp at h
  | x, [], _, h => by simp at h
  | a :: x, b :: y, h, h' => by
    unfold cp at h h' ⊢
    split
    · rename_i e; rw [if_pos e] at h h'; subst e
      simpa using cp_ne x y (by simpa using h) (by simpa using h')
    · rename_i e; simpa using e
theorem get_ints {x : List Int} {k : Nat} {i : Int} (h : x[k]? = some i) : (x.map PyData.int)[k]? = some (.int i) := by simp [h]
theorem t_alike {x y : List Int} : M_alike_ahead [eP x, eP y] = .ok (.val (.int (cp x y))) := by
  show (b_alike_ahead [some (.val (.tuple (x.map .int))), some (.val (.tuple (y.map .int))), none]).fin = _
  apply fin_ret
  unfold b_alike_ahead
  have key : ∀ n k : Nat, n + k = cp x y → Es (fWhile (fAnd (fTest (fBinS dLt 2 (fLenS 0))) (fAnd (fTest (fBinS dLt 2 (fLenS 1))) (fTest (fBin dEq (fIxS 0 (fN 2)) (fIxS 1 (fN 2)))))) (fSet 2 (fun ps => ((fBin dAdd (fN 2) (fK (.int 1))) ps).map PV.val)))
      [some (.val (.tuple (x.map .int))), some (.val (.tuple (y.map .int))), some (.val (.int k))] (.nx [some (.val (.tuple (x.map .int))), some (.val (.tuple (y.map .int))), some (.val (.int (cp x y)))]) := by
    intro n
    have hl := cp_le x y
    induction n with
    | succ n ih =>
      intro k hk
      have h1 : k < x.length := by omega
      have h2 : k < y.length := by omega
      have e := cp_eq x y k (by omega)
      rw [List.getElem?_eq_getElem h1, List.getElem?_eq_getElem h2] at e
      refine es_whileT (?_ : Ev _ _ true [some (.val (.tuple (x.map .int))), some (.val (.tuple (y.map .int))), some (.val (.int k))]) (?_ : Es _ _ (.nx [some (.val (.tuple (x.map .int))), some (.val (.tuple (y.map .int))), some (.val (.int ((k + 1 : Nat) : Int)))])) (ih (k + 1) (by omega))
      · refine ev_to (ev_andP (k := true) (l := true) ?_ (ev_andP (k := true) (l := true) ?_ ?_)) rfl rfl
        repeat infer_instance
        · simp; omega
        repeat infer_instance
        · simp; omega
        repeat infer_instance
        · exact dIx_t (get_ints (List.getElem?_eq_getElem h1))
        repeat infer_instance
        · exact dIx_t (get_ints (List.getElem?_eq_getElem h2))
        repeat infer_instance
        · simpa using e
      · repeat infer_instance
    | zero =>
      intro k hk
      have hk' : k = cp x y := by omega
      have ek : (PyData.int k) = .int (cp x y) := by rw [hk']
      rw [ek]
      apply es_whileF
      by_cases h1 : cp x y < x.length
      · by_cases h2 : cp x y < y.length
        · refine ev_to (ev_andP (k := true) (l := false) ?_ (ev_andP (k := true) (l := false) ?_ ?_)) rfl rfl
          repeat infer_instance
          · simp; omega
          repeat infer_instance
          · simp; omega
          repeat infer_instance
          · exact dIx_t (get_ints (List.getElem?_eq_getElem h1))
          repeat infer_instance
          · exact dIx_t (get_ints (List.getElem?_eq_getElem h2))
          repeat infer_instance
          · have e := cp_ne x y h1 h2
            rw [List.getElem?_eq_getElem h1, List.getElem?_eq_getElem h2] at e
            simpa using e
        · refine ev_to (ev_andP (k := true) (l := false) ?_ (ev_andF ?_)) rfl rfl
          repeat infer_instance
          · simp; omega
          repeat infer_instance
          · simp; omega
      · apply ev_andF
        repeat infer_instance
        · simp; omega
  apply es_seqS
  repeat infer_instance
  refine es_seq (key (cp x y) 0 rfl) ?_
  repeat infer_instance
theorem sl_from {f : PSt → Rs PyData} {l : PSt → Rs (Option Int)} {ps ps1 ps2 : PSt} {x : List Int} {n : Nat} (h : Ev f ps (.tuple (x.map .int)) ps1) (h2 : Ev l ps1 (some (n : Int)) ps2) (hn : n ≤ x.length) : Ev (fSl f l fNoPart) ps (.val (eP (x.drop n))) ps2 := by
  have := ev_slT h h2 (ev_partN (ps := ps2))
  rwa [cutD_from (by simpa using hn), map_drop'] at this
theorem sl_to {f : PSt → Rs PyData} {l : PSt → Rs (Option Int)} {ps ps1 ps2 : PSt} {x : List Int} {n : Nat} (h : Ev f ps (.tuple (x.map .int)) ps1) (h2 : Ev l ps1 (some (n : Int)) ps2) : Ev (fSl f fNoPart l) ps (.val (eP (x.take n))) ps2 := by
  have := ev_slT h (ev_partN (ps := ps1)) h2
  rwa [cutD_to, map_take'] at this
theorem dAdd_P {x y : List Int} (h : x.length + y.length ≤ 16777216) : dAdd (eP x) (eP y) = some (eP (x ++ y)) := by
  rw [dAdd_t (by simpa using h), ← List.map_append]
theorem sh_P (x : List Int) : SeqAt.shaped (eP x) = true := by
  unfold SeqAt.shaped; simp [PyData.canLay0, canAll_ints, PyData.depth, depth_ints]
theorem sh_L (x y : List Int) : SeqAt.shaped (eL x y) = true := by
  unfold SeqAt.shaped; simp [PyData.canLay0, PyData.canLayAll0, canAll_ints, PyData.depth, PyData.depthAll, depth_ints]
theorem eqv_P (x y : List Int) : PyData.eqv (eP x) (eP y) = decide (x = y) := by
  simp only [PyData.eqv, eqvAll_ints]
theorem eqv_L (x y a b : List Int) : PyData.eqv (eL x y) (eL a b) = decide (x = a ∧ y = b) := by
  simp only [PyData.eqv, PyData.eqvAll, eqvAll_ints, Bool.and_true, Bool.decide_and]
theorem dEq_P {x y : List Int} {k : Bool} (h : decide (x = y) = k) : dEq (eP x) (eP y) = some (.bool k) := by unfold dEq; rw [if_pos ⟨sh_P x, sh_P y⟩, eqv_P, h]
theorem dEq_P0 {x : List Int} {k : Bool} (h : decide (x = []) = k) : dEq (eP x) (.tuple []) = some (.bool k) := dEq_P (y := []) h
theorem dNe_P {x y : List Int} {k : Bool} (h : (!decide (x = y)) = k) : dNe (eP x) (eP y) = some (.bool k) := by unfold dNe; rw [if_pos ⟨sh_P x, sh_P y⟩, eqv_P, h]
theorem dNe_P0 {x : List Int} {k : Bool} (h : (!decide (x = [])) = k) : dNe (eP x) (.tuple []) = some (.bool k) := dNe_P (y := []) h
theorem dEq_L {x y a b : List Int} {k : Bool} (h : decide (x = a ∧ y = b) = k) : dEq (eL x y) (eL a b) = some (.bool k) := by unfold dEq; rw [if_pos ⟨sh_L x y, sh_L a b⟩, eqv_L, h]
theorem dNe_L {x y a b : List Int} {k : Bool} (h : (!decide (x = a ∧ y = b)) = k) : dNe (eL x y) (eL a b) = some (.bool k) := by unfold dNe; rw [if_pos ⟨sh_L x y, sh_L a b⟩, eqv_L, h]
theorem dLen_P {x : List Int} {k : Int} (h : (x.length : Int) = k) : dLen [eP x] = some (.int k) := dLen_tE (by simpa using h)
local macro_rules | `(tactic| infer_instance) => `(tactic| first
  | (with_reducible apply sl_from)
  | (with_reducible apply sl_to)
  | (with_reducible apply dAdd_P)
  | (with_reducible apply dEq_P)
  | (with_reducible apply dEq_P0)
  | (with_reducible apply dNe_P)
  | (with_reducible apply dNe_P0)
  | (with_reducible apply dEq_L)
  | (with_reducible apply dNe_L)
  | (with_reducible apply dLen_P)
  | (with_reducible exact t_is_number)
  | (with_reducible exact t_alike)
  | (with_reducible apply t_sureE)
  | (with_reducible apply t_is_piece)
  | focus ((with_reducible show Vp _); assumption)
  | (with_reducible exact (cp_le _ _).1)
  | (with_reducible exact (cp_le _ _).2))
/-- the lag of two pieces -/
abbrev lgA (x y : List Int) : List Int := x.drop (cp x y)
abbrev lgB (x y : List Int) : List Int := y.drop (cp x y)
theorem t_lag_between {x y : List Int} : M_lag_between [eP x, eP y] = .ok (.val (eL (lgA x y) (lgB x y))) := by
  show (b_lag_between [some (.val (.tuple (x.map .int))), some (.val (.tuple (y.map .int))), none]).fin = _
  apply fin_retE
  unfold b_lag_between
  apply es_seqS
  repeat infer_instance
def Lg (a b : List Int) : Prop := (Vp a ∧ Vp b) ∧ (a = [] ∨ b = [] ∨ a[0]? ≠ b[0]?)
theorem t_sure_pieces {p q : PyData} {x y : List Int} (hx : Vp x) (hy : Vp y) (hp : p = eP x ∨ p = .list (x.map .int)) (hq : q = eP y ∨ q = .list (y.map .int)) : M_sure_pieces [.tuple [p, q]] = .ok (.val (.list [eP x, eP y])) := by
  show (b_sure_pieces [some (.val (.tuple [p, q])), none, none]).fin = _
  apply fin_retE
  unfold b_sure_pieces
  have c1 : M_tuple_of [p] = .ok (.val (eP x)) := by
    rcases hp with e | e <;> subst e
    · exact t_tuple_P hx.2
    · exact t_tuple_Pl hx.2
  have c2 : M_tuple_of [q] = .ok (.val (eP y)) := by
    rcases hq with e | e <;> subst e
    · exact t_tuple_P hy.2
    · exact t_tuple_Pl hy.2
  apply es_seqS
  repeat infer_instance
  · refine compL_cons et_N ev_cYes (ev_dataE (ev_callE (ev_cons (ev_N rfl) ev_nil) rfl c1) rfl) (by simp) (compL_cons et_N ev_cYes (ev_dataE (ev_callE (ev_cons (ev_N rfl) ev_nil) rfl c2) rfl) (by simp) rfl)
  repeat infer_instance
  · refine compL_map0 (fun _ => .bool true) _ (by simp) fun e he => ?_
    have hv : ∃ z, e = eP z ∧ Vp z := by
      simp only [PV.data, List.nil_append, List.cons_append, List.mem_cons, List.mem_nil_iff, or_false] at he
      rcases he with e | e <;> subst e
      · exact ⟨_, rfl, hx⟩
      · exact ⟨_, rfl, hy⟩
    obtain ⟨z, rfl, hz⟩ := hv
    refine ⟨_, _, _, et_N, ev_cYes, ev_dataE (ev_callE (ev_cons (ev_N rfl) ev_nil) rfl (t_is_piece hz)) rfl, rfl⟩
  repeat infer_instance
  · exact dAll_true fun d hd => by
      obtain ⟨_, _, rfl⟩ := List.mem_map.mp hd
      rfl
  repeat infer_instance
theorem t_is_lag {a b : List Int} (h : Lg a b) : M_is_lag [eL a b] = .ok (.val (.bool true)) := by
  obtain ⟨⟨ha, hb⟩, hc⟩ := h
  show (b_is_lag [some (.val (eL a b))]).fin = _
  apply fin_retE
  unfold b_is_lag
  apply es_seq
  · apply es_ifF
    · refine ev_to (ev_orP (k := false) (l := false) ?_ (ev_orP (k := false) (l := false) ?_ ?_)) rfl rfl
      repeat infer_instance
      · exact t_is_tuple_of rfl
      repeat infer_instance
    repeat infer_instance
  · apply es_ret
    apply ev_val
    by_cases h1 : a = []
    · apply ev_orVF
      repeat infer_instance
      all_goals simpa using h1
    · by_cases h2 : b = []
      · refine ev_to (ev_orVP (k := false) (l := true) ?_ (ev_orVF ?_)) rfl rfl
        · repeat infer_instance
          all_goals simpa using h1
        · repeat infer_instance
          all_goals simpa using h2
      · have h3 : a[0]? ≠ b[0]? := by
          rcases hc with h | h | h
          · exact absurd h h1
          · exact absurd h h2
          · exact h
        obtain ⟨i, a', rfl⟩ := List.exists_cons_of_ne_nil h1
        obtain ⟨j, b', rfl⟩ := List.exists_cons_of_ne_nil h2
        refine ev_to (ev_orVP (k := false) (l := true) ?_ (ev_orVP (k := false) (l := true) ?_ ?_)) rfl rfl
        · repeat infer_instance
        · repeat infer_instance
        · apply ev_bin
          repeat infer_instance
          simpa using h3
  · rfl
theorem t_sure_lag {a b : List Int} (h : Lg a b) : M_sure_lag [eL a b] = .ok (.val (eL a b)) := by
  show (b_sure_lag [some (.val (eL a b)), none]).fin = _
  apply fin_retE
  unfold b_sure_lag
  apply es_seqS
  repeat infer_instance
  · exact t_tuple_L h.1.1.2 h.1.2.2
  repeat infer_instance
  · exact t_is_lag h
  repeat infer_instance
theorem t_lag_of' {p q : PyData} {x y : List Int} (hx : Vp x) (hy : Vp y) (hp : p = eP x ∨ p = .list (x.map .int)) (hq : q = eP y ∨ q = .list (y.map .int)) : M_lag_of [p, q] = .ok (.val (eL (lgA x y) (lgB x y))) := by
  show (b_lag_of [some (.val p), some (.val q), none, none]).fin = _
  apply fin_retE
  unfold b_lag_of
  apply es_seqA
  repeat infer_instance
  · exact t_sure_pieces hx hy hp hq
  repeat infer_instance
  · exact t_lag_between
  rfl
theorem t_lag_of {x y : List Int} (hx : Vp x) (hy : Vp y) : M_lag_of [eP x, eP y] = .ok (.val (eL (lgA x y) (lgB x y))) := t_lag_of' hx hy (.inl rfl) (.inl rfl)
theorem t_lag_ofl {x y : List Int} (hx : Vp x) (hy : Vp y) : M_lag_of [.list (x.map .int), .list (y.map .int)] = .ok (.val (eL (lgA x y) (lgB x y))) := t_lag_of' hx hy (.inr rfl) (.inr rfl)
theorem t_size_of {a b : List Int} : M_size_of [eL a b] = .ok (.val (.int ((a.length : Int) + b.length))) := by
  show (b_size_of [some (.val (eL a b))]).fin = _
  apply fin_retE
  unfold b_size_of
  repeat infer_instance
theorem t_lag_length {a b : List Int} (h : Lg a b) : M_lag_length [eL a b] = .ok (.val (.int ((a.length : Int) + b.length))) := by
  show (b_lag_length [some (.val (eL a b))]).fin = _
  apply fin_retE
  unfold b_lag_length
  repeat infer_instance
  · exact t_sure_lag h
  repeat infer_instance
  · exact t_size_of
  repeat infer_instance
theorem t_are_near {x y : List Int} {n : Int} (hx : Vp x) (hy : Vp y) (hn : 0 ≤ n) : M_are_near [eP x, eP y, .int n] = .ok (.val (.bool (decide (((lgA x y).length : Int) + (lgB x y).length ≤ n)))) := by
  show (b_are_near [some (.val (eP x)), some (.val (eP y)), some (.val (.int n)), none, none]).fin = _
  apply fin_retE
  unfold b_are_near
  apply es_seqA
  repeat infer_instance
  · exact t_sure_pieces hx hy (.inl rfl) (.inl rfl)
  repeat infer_instance
  · refine ev_andVP (k := true) (l := true) ?_ ?_
    repeat infer_instance
  repeat infer_instance
  · exact t_lag_between
  repeat infer_instance
  · exact t_size_of
  repeat infer_instance
theorem sl_fromI {f : PSt → Rs PyData} {l : PSt → Rs (Option Int)} {ps ps1 ps2 : PSt} {x : List Int} {i : Int} {n : Nat} (h : Ev f ps (.tuple (x.map .int)) ps1) (h2 : Ev l ps1 (some i) ps2) (e : i = (n : Int)) (hn : n ≤ x.length) : Ev (fSl f l fNoPart) ps (.val (eP (x.drop n))) ps2 := by subst e; exact sl_from h h2 hn
theorem sl_toI {f : PSt → Rs PyData} {l : PSt → Rs (Option Int)} {ps ps1 ps2 : PSt} {x : List Int} {i : Int} {n : Nat} (h : Ev f ps (.tuple (x.map .int)) ps1) (h2 : Ev l ps1 (some i) ps2) (e : i = (n : Int)) : Ev (fSl f fNoPart l) ps (.val (eP (x.take n))) ps2 := by subst e; exact sl_to h h2
end TT

namespace TT
open PySem PySem.Spec L2 GL GT
open PyProof.Rows hiding St
local macro_rules | `(tactic| infer_instance) => `(tactic| first
  | (with_reducible apply es_seqS)
  | (with_reducible apply es_setS)
  | (with_reducible apply es_seqA)
  | (with_reducible apply es_seqE)
  | (with_reducible apply es_ret)
  | (with_reducible apply es_expr)
  | (with_reducible apply es_asg)
  | (with_reducible exact es_skip)
  | (with_reducible exact ev_K)
  | (with_reducible exact ev_nil)
  | ((with_reducible apply ev_nilE); exact rfl)
  | ((with_reducible apply ev_KE); exact rfl)
  | (with_reducible exact ev_cYes)
  | (with_reducible exact ev_partN)
  | (with_reducible apply ev_cons)
  | ((with_reducible apply ev_N); exact rfl)
  | ((with_reducible apply ev_MvS); exact rfl)
  | ((with_reducible apply ev_NoS); exact rfl)
  | (with_reducible apply ev_dataE)
  | (with_reducible apply ev_val)
  | (with_reducible apply ev_bin)
  | (with_reducible apply ev_un)
  | ((with_reducible apply ev_binS))
  | ((with_reducible apply ev_ixS))
  | ((with_reducible apply ev_lenS))
  | (with_reducible apply ev_test)
  | (with_reducible apply ev_notE)
  | (with_reducible apply ev_notVE)
  | (with_reducible apply ev_tupE)
  | (with_reducible apply ev_lstE)
  | (with_reducible apply ev_app)
  | (with_reducible apply ev_appO)
  | (with_reducible apply ev_isi)
  | (with_reducible apply ev_callE)
  | ((with_reducible apply ev_callUE); exact rfl)
  | (with_reducible apply ev_partS)
  | (with_reducible apply ev_seqI)
  | (with_reducible apply ev_lcS)
  | (with_reducible apply et_NS)
  | (with_reducible exact ets_nil)
  | ((with_reducible apply et_TE); exact rfl)
  | ((with_reducible apply et_LE); exact rfl)
  | focus ((with_reducible show List.length _ = _); exact rfl)
  | focus ((with_reducible show List.length (α := PyData) _ ≤ 1000); (simp only [List.length_cons, List.length_nil]; omega))
  | (with_reducible apply ets_cons)
  | (with_reducible apply dAdd_iE)
  | (with_reducible apply dSub_iE)
  | (with_reducible apply dLt_iE)
  | (with_reducible apply dGt_iE)
  | (with_reducible apply dLe_iE)
  | (with_reducible apply dGe_iE)
  | (with_reducible apply dEq_iE)
  | (with_reducible apply dNe_iE)
  | (with_reducible apply dEq_bE)
  | (with_reducible apply dNe_bE)
  | (with_reducible apply dLen_lE)
  | (with_reducible apply dLen_tE)
  | (with_reducible exact dAbs_i)
  | (with_reducible exact dInt_i)
  | (with_reducible exact dInt_b)
  | (with_reducible exact dTuple_l)
  | (with_reducible exact dTuple_t)
  | focus ((with_reducible show dTuple _ = _); exact rfl)
  | (with_reducible exact dList_l)
  | (with_reducible exact dList_t)
  | (with_reducible exact dMin2_i)
  | (with_reducible exact dMax2_i)
  | focus ((with_reducible show _ = some (some _)); exact rfl)
  | (with_reducible exact data_val)
  | (with_reducible exact data_own)
  | focus ((with_reducible show (!_) = _); exact rfl)
  | ((with_reducible apply look_val); exact rfl)
  | ((with_reducible apply look_own); exact rfl)
  | focus ((with_reducible show seqOf _ = _); exact rfl)
  | focus ((with_reducible show @Eq PV _ _); exact rfl)
  | focus ((with_reducible show @Eq PSt _ _); first | (focus (dsimp only [List.set, List.set_cons_succ, List.set_cons_zero, wipeP, restP, keepV, List.getElem?_cons_succ, List.getElem?_cons_zero]; try exact rfl)) | exact rfl)
  | focus ((with_reducible show isaD _ _ = _); exact rfl)
  | focus ((with_reducible show isa2 _ _ _ = _); exact rfl)
  | focus ((with_reducible show dIx _ _ = _); first | exact rfl | exact dIx_t0 rfl | exact dIx_l0 rfl)
  | focus ((with_reducible show (_ && _) = _); exact rfl)
  | focus ((with_reducible show (_ || _) = _); exact rfl)
  | (with_reducible apply dMul_iE)
  | (with_reducible apply dMod_iE)
  | (with_reducible apply dFdiv_iE)
  | (with_reducible exact (rfl : (_ : Bool) = _))
  | (with_reducible exact (rfl : (_ : Int) = _))
  | exact decide_eq_true (by omega)
  | exact decide_eq_false (by omega)
  | focus ((with_reducible show (_ : Int) = _); omega)
  | focus ((with_reducible show (_ : Int) < _); omega)
  )
local macro_rules | `(tactic| infer_instance) => `(tactic| first
  | (with_reducible apply ev_binO)
  | (with_reducible apply ev_rev)
  | (with_reducible apply ev_binSS)
  | ((with_reducible apply ev_pop); exact rfl)

  | focus ((with_reducible show ixN _ _ = _); exact rfl)
  | focus ((with_reducible show _ = some (some (PV.own _))); exact rfl)
  | focus ((with_reducible show _ ∨ _); first | (left; omega) | (right; omega))
  | focus ((with_reducible show _ ∧ _ < (1073741824 : Int)); omega)
  | focus ((with_reducible show dIs _ _ = _); exact rfl)
  | focus ((with_reducible show dIsNot _ _ = _); exact rfl)
  | (with_reducible exact decide_eq_true rfl)
  | focus ((with_reducible show decide (@Eq Bool _ _) = _); exact rfl))
local macro_rules | `(tactic| infer_instance) => `(tactic| first
  | (with_reducible apply sl_fromI)
  | (with_reducible apply sl_toI)
  | (with_reducible apply dAdd_P)
  | (with_reducible apply dEq_P)
  | (with_reducible apply dEq_P0)
  | (with_reducible apply dNe_P)
  | (with_reducible apply dNe_P0)
  | (with_reducible apply dEq_L)
  | (with_reducible apply dNe_L)
  | (with_reducible apply dLen_P)
  | (with_reducible exact t_is_number)
  | (with_reducible exact t_alike)
  | (with_reducible exact t_lag_between)
  | (with_reducible apply t_sureE)
  | (with_reducible apply t_is_piece)
  | focus ((with_reducible show Vp _); assumption)
  | (with_reducible exact (cp_le _ _).1)
  | (with_reducible exact (cp_le _ _).2))
abbrev eQ (l : List (List Int)) : PyData := .tuple (l.map eP)
abbrev eR (L : List (List (List Int))) : PyData := .tuple (L.map eQ)
abbrev tyQ : Ty eQ 2 := tyP.list
abbrev tyR : Ty eR 3 := tyQ.list
theorem isT_Q (l : List (List Int)) : ∃ ds, eQ l = .tuple ds := ⟨_, rfl⟩
theorem cp_comm : ∀ x y : List Int, cp x y = cp y x
  | [], y => by rw [cp_nil, cp_nil']
  | a :: x, [] => by rw [cp_nil, cp_nil']
  | a :: x, b :: y => by
    unfold cp
    by_cases h : a = b
    · subst h; simp [cp_comm x y]
    · rw [if_neg h, if_neg fun e => h e.symm]
theorem cp_app : ∀ h x y : List Int, cp (h ++ x) (h ++ y) = h.length + cp x y
  | [], x, y => by simp
  | a :: h, x, y => by
    have := cp_app h x y
    simp [cp, this]; omega
theorem cp_self : ∀ x : List Int, cp x x = x.length
  | [] => rfl
  | a :: x => by simp [cp, cp_self x]
def dist (x y : List Int) : Nat := (lgA x y).length + (lgB x y).length
theorem dist_eq (x y : List Int) : dist x y = (x.length - cp x y) + (y.length - cp x y) := by simp [dist, lgA, lgB]
theorem dist_comm (x y : List Int) : dist x y = dist y x := by rw [dist_eq, dist_eq, cp_comm x y]; omega
theorem dist_self (x : List Int) : dist x x = 0 := by rw [dist_eq, cp_self]; omega
theorem dist_app (h x y : List Int) : dist (h ++ x) (h ++ y) = dist x y := by rw [dist_eq, dist_eq, cp_app]; simp; omega
abbrev near (n : Int) (x y : List Int) : Prop := (dist x y : Int) ≤ n
theorem near_symm {n : Int} (x y : List Int) (h : near n x y) : near n y x := by unfold near; rw [dist_comm]; exact h
theorem t_are_close {x y : List Int} {n : Int} : M_are_close [eP x, eP y, .int n] = .ok (.val (.bool (decide (near n x y)))) := by
  show (b_are_close [some (.val (eP x)), some (.val (eP y)), some (.val (.int n))]).fin = _
  have hd := dist_eq x y
  have hc := cp_le x y
  have hs : dist x y = (lgA x y).length + (lgB x y).length := rfl
  by_cases h : (if (x.length : Int) - y.length < 0 then -((x.length : Int) - y.length) else (x.length : Int) - y.length) ≤ n
  · apply fin_retE
    unfold b_are_close
    apply es_ret
    apply ev_val
    · refine ev_andVP (k := true) (l := decide (near n x y)) ?_ ?_
      repeat infer_instance
      · exact t_size_of
      repeat infer_instance
      · exact decide_eq_decide.mpr (by rw [show near n x y = ((dist x y : Int) ≤ n) from rfl, hs, Int.natCast_add])
    · simp
  · apply fin_retE
    unfold b_are_close
    apply es_ret
    apply ev_val
    · apply ev_andVF
      repeat infer_instance
    · have : ¬ near n x y := by
        unfold near
        split at h <;> omega
      rw [decide_eq_false this]
noncomputable abbrev lotsP (n : Int) (S : List (List Int)) : List (List (List Int)) := Lt.lots (srt eP) (srt eQ) (near n) S
theorem sub_len {L0 lot line left S : List (List Int)} {x : List Int} {n : Int} (i : Lt.Ino (near n) S L0 x lot line left) : lot.length + line.length + left.length ≤ L0.length := by
  have := Lt.sub_length i.nd (m := L0) fun y m => (i.all y).mpr (by simpa [or_assoc] using m)
  simpa [Nat.add_assoc] using this
theorem t_inner {d0 : PyData} {n : Int} {fnd : List PyData} {S L0 : List (List Int)} {x0 : List Int} (sub : ∀ y ∈ L0, y ∈ S) (hz : L0.length ≤ 1000) : ∀ (m : Nat) (lot line left : List (List Int)) (o : Option PV), line.length + left.length = m → Lt.Ino (near n) S L0 x0 lot line left →
    ∃ lot' left' o', Lt.Ino (near n) S L0 x0 lot' [] left' ∧ Es (fWhile (fTest (fBinS dNe 5 (fun ps => ((fLst (fun ps => .ok [] ps)) ps).map PV.data))) (fSeq (fSet 6 (fun ps => ((fPop 5) ps).map PV.val))
  (fSeq (fExpr (fMeth 4 dAppend (fCons (fN 6) (fun ps => .ok [] ps))))
  (fSeq (fExpr (fExt 5 (fLc (fSeqI (fN 2)) (uN 7) (fTest (fun ps => ((fCall 3 M_are_close (fCons (fN 6) (fCons (fN 7) (fCons (fN 1) (fun ps => .ok [] ps))))) ps).map PV.data)) (fN 7) [7])))
  (fSet 2 (fLc (fSeqI (fN 2)) (uN 7) (fTest (fBinSS dNotInA 7 5)) (fN 7) [7]))))))
      [some (.val d0), some (.val (.int n)), some (.own (.list (left.map eP))), some (.own (.list fnd)), some (.own (.list (lot.map eP))), some (.own (.list (line.map eP))), o, none] (.nx [some (.val d0), some (.val (.int n)), some (.own (.list (left'.map eP))), some (.own (.list fnd)), some (.own (.list (lot'.map eP))), some (.own (.list [])), o', none]) := by
  intro m
  induction m with
  | zero =>
    intro lot line left o hm i
    have e1 : line = [] := List.eq_nil_of_length_eq_zero (by omega)
    subst e1
    refine ⟨lot, left, o, i, ?_⟩
    apply es_whileF
    exact ev_test (ev_binS (look_own rfl) (ev_dataE (ev_lstE ev_nil (by simp)) rfl) (look_own rfl) (tyP.dNeL (l := []) (by omega) rfl))
  | succ m ih =>
    intro lot line left o hm i
    rcases List.eq_nil_or_concat line with e1 | ⟨ln, own, e1⟩
    · subst e1
      refine ⟨lot, left, o, i, ?_⟩
      apply es_whileF
      exact ev_test (ev_binS (look_own rfl) (ev_dataE (ev_lstE ev_nil (by simp)) rfl) (look_own rfl) (tyP.dNeL (l := []) (by omega) rfl))
    · rw [List.concat_eq_append] at e1
      subst e1
      have sl := sub_len i
      simp only [List.length_append, List.length_cons, List.length_nil] at sl hm
      have hr : ∀ y ∈ left, (decide (near n own y)) = true ↔ near n own y := fun y _ => decide_eq_true_iff
      have hn : ∀ y, (!decide (y ∈ ln ++ left.filter fun y => decide (near n own y))) = true ↔ y ∉ ln ++ left.filter fun y => decide (near n own y) := fun y => by simp only [Bool.not_eq_true', decide_eq_false_iff_not]
      have i2 := i.step sub hr hn
      have il := i.len hr hn
      obtain ⟨lot', left', o', i3, e3⟩ := ih _ _ _ (some (.val (eP own))) (by omega) i2
      have sl2 := sub_len i2
      refine ⟨lot', left', o', i3, es_whileT (ps1 := [some (.val d0), some (.val (.int n)), some (.own (.list (left.map eP))), some (.own (.list fnd)), some (.own (.list (lot.map eP))), some (.own (.list ((ln ++ [own]).map eP))), o, none]) ?_ (ps2 := [some (.val d0), some (.val (.int n)), some (.own (.list ((left.filter fun y => !decide (y ∈ ln ++ left.filter fun y => decide (near n own y))).map eP))), some (.own (.list fnd)), some (.own (.list ((lot ++ [own]).map eP))), some (.own (.list ((ln ++ left.filter fun y => decide (near n own y)).map eP))), some (.val (eP own)), none]) ?_ e3⟩
      · exact ev_test (ev_binS (look_own rfl) (ev_dataE (ev_lstE ev_nil (by simp)) rfl) (look_own rfl) (tyP.dNeL (l := ln ++ [own]) (by omega) (by simp)))
      · have e4 : (ln ++ [own]).map eP = ln.map eP ++ [eP own] := by simp
        rw [e4]
        refine es_seqS (ev_val (ev_pop rfl)) rfl ?_
        dsimp only [List.set]
        refine es_seq (es_expr' (ev_meth (es0 := lot.map eP) (es := lot.map eP) (es' := (lot ++ [own]).map eP) rfl (ev_cons (ev_N rfl) ev_nil) rfl ?_) rfl) ?_
        · show (if _ then _ else _) = _
          rw [if_pos (by rw [sizeLine_eq]; simp; omega)]; simp
        dsimp only [List.set]
        refine es_seq (es_expr' (ps2 := [some (.val d0), some (.val (.int n)), some (.val (.list (left.map eP))), some (.own (.list fnd)), some (.own (.list ((lot ++ [own]).map eP))), some (.own (.list ((ln ++ left.filter fun y => decide (near n own y)).map eP))), some (.val (eP own)), none]) (ev_ext (es := (left.filter fun y => decide (near n own y)).map eP) (ds := ln.map eP) (ds0 := ln.map eP) rfl (ev_lcS (ev_seqI (ev_NoS rfl rfl) rfl) rfl (compL_keep (en := eP) (fun y => decide (near n own y)) left (by omega) fun y _ => ?_) rfl) rfl ?_) ?_) ?_
        · exact ⟨_, et_N, ev_test (ev_dataE (ev_callE (ev_cons (ev_N rfl) (ev_cons (ev_N rfl) (ev_cons (ev_N rfl) ev_nil))) rfl t_are_close) rfl), ev_N rfl, rfl⟩
        · simp only [List.length_append, List.length_map, List.length_cons, List.length_nil] at sl2 ⊢; omega
        · simp only [List.map_append]; rfl
        refine es_setS (ev_lcS (ev_seqI (ev_N rfl) rfl) rfl (compL_keep (en := eP) (fun y => !decide (y ∈ ln ++ left.filter fun y => decide (near n own y))) left (by omega) fun y _ => ?_) rfl) rfl
        exact ⟨_, et_N, ev_test (ev_binSS (look_val rfl) (look_own rfl) (tyP.dNotIn' (by omega) (.inl rfl) (hn y))), ev_N rfl, rfl⟩
theorem srt_cls {n : Int} {S lot : List (List Int)} {x : List Int} (h : ∀ y, y ∈ lot ↔ y ∈ S ∧ Lt.Con (near n) S x y) : srt eP lot = Lt.cls (srt eP) (near n) S x := Lt.srt_cls tyP.srt h
theorem t_outer {d0 : PyData} {n : Int} {S : List (List Int)} (hz : S.length < 64) : ∀ (m : Nat) (left : List (List Int)) (found : List (List (List Int))) (o4 o5 o6 : Option PV), left.length ≤ m → Lt.Out (srt eP) (near n) S left found →
    ∃ found' o4' o5' o6', Lt.Out (srt eP) (near n) S [] found' ∧ Es (fWhile (fTest (fBinS dNe 2 (fun ps => ((fLst (fun ps => .ok [] ps)) ps).map PV.data))) (fSeq (fPar 4 5 (fLst (fun ps => .ok [] ps)) (fLst (fCons (fMethV 2 dPopAt (fCons (fK (.int 0)) (fun ps => .ok [] ps))) (fun ps => .ok [] ps))))
  (fSeq (fWhile (fTest (fBinS dNe 5 (fun ps => ((fLst (fun ps => .ok [] ps)) ps).map PV.data))) (fSeq (fSet 6 (fun ps => ((fPop 5) ps).map PV.val))
  (fSeq (fExpr (fMeth 4 dAppend (fCons (fN 6) (fun ps => .ok [] ps))))
  (fSeq (fExpr (fExt 5 (fLc (fSeqI (fN 2)) (uN 7) (fTest (fun ps => ((fCall 3 M_are_close (fCons (fN 6) (fCons (fN 7) (fCons (fN 1) (fun ps => .ok [] ps))))) ps).map PV.data)) (fN 7) [7])))
  (fSet 2 (fLc (fSeqI (fN 2)) (uN 7) (fTest (fBinSS dNotInA 7 5)) (fN 7) [7]))))))
  (fExpr (fMeth 3 dAppend (fCons (fApp dTuple (fCons (fun ps => ((fAppO dSorted (fCons (fN 4) (fun ps => .ok [] ps))) ps).map PV.data) (fun ps => .ok [] ps))) (fun ps => .ok [] ps)))))))
      [some (.val d0), some (.val (.int n)), some (.own (.list (left.map eP))), some (.own (.list (found.map eQ))), o4, o5, o6, none] (.nx [some (.val d0), some (.val (.int n)), some (.own (.list [])), some (.own (.list (found'.map eQ))), o4', o5', o6', none]) := by
  intro m
  have stop : ∀ (found : List (List (List Int))) (o4 o5 o6 : Option PV), Lt.Out (srt eP) (near n) S [] found → ∃ found' o4' o5' o6', Lt.Out (srt eP) (near n) S [] found' ∧ Es (fWhile (fTest (fBinS dNe 2 (fun ps => ((fLst (fun ps => .ok [] ps)) ps).map PV.data))) (fSeq (fPar 4 5 (fLst (fun ps => .ok [] ps)) (fLst (fCons (fMethV 2 dPopAt (fCons (fK (.int 0)) (fun ps => .ok [] ps))) (fun ps => .ok [] ps))))
  (fSeq (fWhile (fTest (fBinS dNe 5 (fun ps => ((fLst (fun ps => .ok [] ps)) ps).map PV.data))) (fSeq (fSet 6 (fun ps => ((fPop 5) ps).map PV.val))
  (fSeq (fExpr (fMeth 4 dAppend (fCons (fN 6) (fun ps => .ok [] ps))))
  (fSeq (fExpr (fExt 5 (fLc (fSeqI (fN 2)) (uN 7) (fTest (fun ps => ((fCall 3 M_are_close (fCons (fN 6) (fCons (fN 7) (fCons (fN 1) (fun ps => .ok [] ps))))) ps).map PV.data)) (fN 7) [7])))
  (fSet 2 (fLc (fSeqI (fN 2)) (uN 7) (fTest (fBinSS dNotInA 7 5)) (fN 7) [7]))))))
  (fExpr (fMeth 3 dAppend (fCons (fApp dTuple (fCons (fun ps => ((fAppO dSorted (fCons (fN 4) (fun ps => .ok [] ps))) ps).map PV.data) (fun ps => .ok [] ps))) (fun ps => .ok [] ps)))))))
      [some (.val d0), some (.val (.int n)), some (.own (.list (([] : List (List Int)).map eP))), some (.own (.list (found.map eQ))), o4, o5, o6, none] (.nx [some (.val d0), some (.val (.int n)), some (.own (.list [])), some (.own (.list (found'.map eQ))), o4', o5', o6', none]) := by
    intro found o4 o5 o6 o
    refine ⟨found, o4, o5, o6, o, ?_⟩
    apply es_whileF
    exact ev_test (ev_binS (look_own rfl) (ev_dataE (ev_lstE ev_nil (by simp)) rfl) (look_own rfl) (tyP.dNeL (l := []) (by omega) rfl))
  induction m with
  | zero =>
    intro left found o4 o5 o6 hm o
    have e1 : left = [] := List.eq_nil_of_length_eq_zero (by omega)
    subst e1
    exact stop found o4 o5 o6 o
  | succ m ih =>
    intro left found o4 o5 o6 hm o
    cases left with
    | nil => exact stop found o4 o5 o6 o
    | cons x rest =>
      have ll := Lt.sub_length o.nd o.sub
      have fl : found.length ≤ S.length := by
        have := Lt.sub_length o.fnd (m := S.map (Lt.cls (srt eP) (near n) S)) fun l hl => by
          obtain ⟨y, hy, _, e⟩ := o.fd l hl
          exact List.mem_map.mpr ⟨y, hy, e.symm⟩
        simpa using this
      simp only [List.length_cons] at ll hm
      obtain ⟨lot', left', o', i2, e2⟩ := t_inner (d0 := d0) (n := n) (fnd := found.map eQ) o.sub (by simp; omega) _ [] [x] rest o6 rfl (Lt.Ino.start o.nd)
      obtain ⟨f1, f2, f3, f4⟩ := i2.fin o.sub (o.cl x List.mem_cons_self)
      have sl := sub_len i2
      simp only [List.length_cons, List.length_nil] at sl
      have lp := List.length_pos_of_mem ((f1 x).mpr ⟨o.sub x List.mem_cons_self, .refl _⟩)
      have o2 := o.step tyP.srt near_symm List.mem_cons_self f3 f2
      obtain ⟨found', p4, p5, p6, o3, e3⟩ := ih left' (found ++ [Lt.cls (srt eP) (near n) S x]) (some (.val (.list (lot'.map eP)))) (some (.own (.list []))) o' (by omega) o2
      refine ⟨found', p4, p5, p6, o3, es_whileT (ps1 := [some (.val d0), some (.val (.int n)), some (.own (.list ((x :: rest).map eP))), some (.own (.list (found.map eQ))), o4, o5, o6, none]) ?_ (ps2 := [some (.val d0), some (.val (.int n)), some (.own (.list (left'.map eP))), some (.own (.list ((found ++ [Lt.cls (srt eP) (near n) S x]).map eQ))), some (.val (.list (lot'.map eP))), some (.own (.list [])), o', none]) ?_ e3⟩
      · exact ev_test (ev_binS (look_own rfl) (ev_dataE (ev_lstE ev_nil (by simp)) rfl) (look_own rfl) (tyP.dNeL (l := x :: rest) (by omega) (by simp)))
      · refine es_seq (es_par (ev_lstE ev_nil (by simp)) (ev_lstE (ev_cons (ev_methV (d := eP x) (es' := rest.map eP) (ds0 := (x :: rest).map eP) (ds := (x :: rest).map eP) rfl (ev_cons ev_K ev_nil) rfl ?_) ev_nil) (by simp))) ?_
        · show ((((x :: rest).map eP)[0]?).bind fun y => if ((x :: rest).map eP).length ≤ sizeLine then some (y, ((x :: rest).map eP).eraseIdx 0) else none) = _
          have : ((x :: rest).map eP).length ≤ sizeLine := by rw [sizeLine_eq]; simp; omega
          rw [List.map_cons] at this ⊢
          rw [List.getElem?_cons_zero, Option.bind_some, if_pos this]; rfl
        dsimp only [List.set]
        refine es_seq e2 ?_
        have es := tyP.dSorted (by omega) isT_P f4 (by omega)
        rw [srt_cls f1] at es
        refine es_expr' (ev_meth (es0 := found.map eQ) (es := found.map eQ) (es' := (found ++ [Lt.cls (srt eP) (near n) S x]).map eQ) rfl (ev_cons (ev_app (ev_cons (ev_dataE (ev_appO (ev_cons (ev_NoS rfl rfl) ev_nil) es) rfl) ev_nil) dTuple_l) ev_nil) rfl ?_) rfl
        show (if _ then _ else _) = _
        rw [if_pos (by rw [sizeLine_eq]; simp; omega)]; simp
theorem t_lots_of {n : Int} {S : List (List Int)} (hz : S.length < 64) : M_lots_of [.tuple (S.map eP), .int n] = .ok (.val (eR (lotsP n S))) := by
  show (b_lots_of [some (.val (.tuple (S.map eP))), some (.val (.int n)), none, none, none, none, none, none]).fin = _
  obtain ⟨found, p4, p5, p6, o, e⟩ := t_outer (d0 := .tuple (S.map eP)) (n := n) hz _ (srt eP S) [] none none none (Nat.le_refl _) (Lt.Out.start tyP.srt)
  have fl : found.length ≤ S.length := by
    have := Lt.sub_length o.fnd (m := S.map (Lt.cls (srt eP) (near n) S)) fun l hl => by
      obtain ⟨y, hy, _, e⟩ := o.fd l hl
      exact List.mem_map.mpr ⟨y, hy, e.symm⟩
    simpa using this
  have es := tyQ.dSorted (by omega) isT_Q o.fnd (by omega)
  rw [o.fin tyQ.srt] at es
  apply fin_retE
  unfold b_lots_of
  · refine es_seq (es_par (ev_appO (ev_cons (ev_N rfl) ev_nil) (tyP.dSortSet (by omega) isT_P (.inr rfl) hz)) (ev_lstE ev_nil (by simp))) ?_
    dsimp only [List.set]
    refine es_seq e ?_
    exact es_ret (ev_val (ev_app (ev_cons (ev_dataE (ev_appO (ev_cons (ev_NoS rfl rfl) ev_nil) es) rfl) ev_nil) dTuple_l))
  · rfl
end TT

namespace TT
open PySem PySem.Spec L2 GL GT
open PyProof.Rows hiding St
local macro_rules | `(tactic| infer_instance) => `(tactic| first
  | (with_reducible apply es_seqS)
  | (with_reducible apply es_setS)
  | (with_reducible apply es_seqA)
  | (with_reducible apply es_seqE)
  | (with_reducible apply es_ret)
  | (with_reducible apply es_expr)
  | (with_reducible apply es_asg)
  | (with_reducible exact es_skip)
  | (with_reducible exact ev_K)
  | (with_reducible exact ev_nil)
  | ((with_reducible apply ev_nilE); exact rfl)
  | ((with_reducible apply ev_KE); exact rfl)
  | (with_reducible exact ev_cYes)
  | (with_reducible exact ev_partN)
  | (with_reducible apply ev_cons)
  | ((with_reducible apply ev_N); exact rfl)
  | ((with_reducible apply ev_MvS); exact rfl)
  | ((with_reducible apply ev_NoS); exact rfl)
  | (with_reducible apply ev_dataE)
  | (with_reducible apply ev_val)
  | (with_reducible apply ev_bin)
  | (with_reducible apply ev_un)
  | ((with_reducible apply ev_binS))
  | ((with_reducible apply ev_ixS))
  | ((with_reducible apply ev_lenS))
  | (with_reducible apply ev_test)
  | (with_reducible apply ev_notE)
  | (with_reducible apply ev_notVE)
  | (with_reducible apply ev_tupE)
  | (with_reducible apply ev_lstE)
  | (with_reducible apply ev_app)
  | (with_reducible apply ev_appO)
  | (with_reducible apply ev_isi)
  | (with_reducible apply ev_callE)
  | ((with_reducible apply ev_callUE); exact rfl)
  | (with_reducible apply ev_partS)
  | (with_reducible apply ev_seqI)
  | (with_reducible apply ev_lcS)
  | (with_reducible apply et_NS)
  | (with_reducible exact ets_nil)
  | ((with_reducible apply et_TE); exact rfl)
  | ((with_reducible apply et_LE); exact rfl)
  | focus ((with_reducible show List.length _ = _); exact rfl)
  | focus ((with_reducible show List.length (α := PyData) _ ≤ 1000); (simp only [List.length_cons, List.length_nil]; omega))
  | (with_reducible apply ets_cons)
  | (with_reducible apply dAdd_iE)
  | (with_reducible apply dSub_iE)
  | (with_reducible apply dLt_iE)
  | (with_reducible apply dGt_iE)
  | (with_reducible apply dLe_iE)
  | (with_reducible apply dGe_iE)
  | (with_reducible apply dEq_iE)
  | (with_reducible apply dNe_iE)
  | (with_reducible apply dEq_bE)
  | (with_reducible apply dNe_bE)
  | (with_reducible apply dLen_lE)
  | (with_reducible apply dLen_tE)
  | (with_reducible exact dAbs_i)
  | (with_reducible exact dInt_i)
  | (with_reducible exact dInt_b)
  | (with_reducible exact dTuple_l)
  | (with_reducible exact dTuple_t)
  | focus ((with_reducible show dTuple _ = _); exact rfl)
  | (with_reducible exact dList_l)
  | (with_reducible exact dList_t)
  | (with_reducible exact dMin2_i)
  | (with_reducible exact dMax2_i)
  | focus ((with_reducible show _ = some (some _)); exact rfl)
  | (with_reducible exact data_val)
  | (with_reducible exact data_own)
  | focus ((with_reducible show (!_) = _); exact rfl)
  | ((with_reducible apply look_val); exact rfl)
  | ((with_reducible apply look_own); exact rfl)
  | focus ((with_reducible show seqOf _ = _); exact rfl)
  | focus ((with_reducible show @Eq PV _ _); exact rfl)
  | focus ((with_reducible show @Eq PSt _ _); first | (focus (dsimp only [List.set, List.set_cons_succ, List.set_cons_zero, wipeP, restP, keepV, List.getElem?_cons_succ, List.getElem?_cons_zero]; try exact rfl)) | exact rfl)
  | focus ((with_reducible show isaD _ _ = _); exact rfl)
  | focus ((with_reducible show isa2 _ _ _ = _); exact rfl)
  | focus ((with_reducible show dIx _ _ = _); first | exact rfl | exact dIx_t0 rfl | exact dIx_l0 rfl)
  | focus ((with_reducible show (_ && _) = _); exact rfl)
  | focus ((with_reducible show (_ || _) = _); exact rfl)
  | (with_reducible apply dMul_iE)
  | (with_reducible apply dMod_iE)
  | (with_reducible apply dFdiv_iE)
  | (with_reducible exact (rfl : (_ : Bool) = _))
  | (with_reducible exact (rfl : (_ : Int) = _))
  | exact decide_eq_true (by omega)
  | exact decide_eq_false (by omega)
  | focus ((with_reducible show (_ : Int) = _); omega)
  | focus ((with_reducible show (_ : Int) < _); omega)
  )
local macro_rules | `(tactic| infer_instance) => `(tactic| first
  | (with_reducible apply ev_binO)
  | (with_reducible apply ev_rev)
  | (with_reducible apply ev_binSS)
  | ((with_reducible apply ev_pop); exact rfl)

  | focus ((with_reducible show ixN _ _ = _); exact rfl)
  | focus ((with_reducible show _ = some (some (PV.own _))); exact rfl)
  | focus ((with_reducible show _ ∨ _); first | (left; omega) | (right; omega))
  | focus ((with_reducible show _ ∧ _ < (1073741824 : Int)); omega)
  | focus ((with_reducible show dIs _ _ = _); exact rfl)
  | focus ((with_reducible show dIsNot _ _ = _); exact rfl)
  | (with_reducible exact decide_eq_true rfl)
  | focus ((with_reducible show decide (@Eq Bool _ _) = _); exact rfl))
local macro_rules | `(tactic| infer_instance) => `(tactic| first
  | (with_reducible apply sl_fromI)
  | (with_reducible apply sl_toI)
  | (with_reducible apply dAdd_P)
  | (with_reducible apply dEq_P)
  | (with_reducible apply dEq_P0)
  | (with_reducible apply dNe_P)
  | (with_reducible apply dNe_P0)
  | (with_reducible apply dEq_L)
  | (with_reducible apply dNe_L)
  | (with_reducible apply dLen_P)
  | (with_reducible exact t_is_number)
  | (with_reducible exact t_alike)
  | (with_reducible exact t_lag_between)
  | (with_reducible apply t_sureE)
  | (with_reducible apply t_is_piece)
  | focus ((with_reducible show Vp _); assumption)
  | (with_reducible exact (cp_le _ _).1)
  | (with_reducible exact (cp_le _ _).2))
theorem cp_take : ∀ x y : List Int, x.take (cp x y) = y.take (cp x y)
  | [], y => by simp [cp_nil]
  | x, [] => by simp [cp_nil']
  | a :: x, b :: y => by
    by_cases h : a = b
    · subst h; simp [cp, cp_take x y]
    · simp [cp, h]
theorem cp_pre {x y : List Int} {n : Nat} (h : n ≤ cp x y) : x.take n = y.take n := by
  have := congrArg (List.take n) (cp_take x y)
  rwa [List.take_take, List.take_take, Nat.min_eq_left h] at this
theorem zipD_cons (a b : PyData) (xs ys : List PyData) : zipD (a :: xs) (b :: ys) = .tuple [a, b] :: zipD xs ys := rfl
theorem t_law_lag {x y : List Int} : M__law_lag [eP x, eP y] = .ok (.val (eL (lgA x y) (lgB x y))) := by
  have hl := cp_le x y
  have key : ∀ (n i : Nat) (s t : Option PV), i + n = min x.length y.length → ∃ s' t', forL (uTup 2 (uCons (uN 3) (uCons (uN 4) uNil))) (fIfS (fAnd (fTest (fBinS dEq 3 (fN 4))) (fTest (fBin dEq (fun ps => ((fSl (fN 0) fNoPart (fSomePart (fBin dAdd (fN 2) (fK (.int 1))))) ps).map PV.data) (fun ps => ((fSl (fN 1) fNoPart (fSomePart (fBin dAdd (fN 2) (fK (.int 1))))) ps).map PV.data)))) (fSet 2 (fun ps => ((fBin dAdd (fN 2) (fK (.int 1))) ps).map PV.val)) fSkip) (zipD ((x.drop i).map .int) ((y.drop i).map .int)) [some (.val (eP x)), some (.val (eP y)), some (.val (.int (min i (cp x y) : Nat))), s, t] = .nx [some (.val (eP x)), some (.val (eP y)), some (.val (.int (cp x y))), s', t'] := by
    intro n
    induction n with
    | zero =>
      intro i s t hi
      refine ⟨s, t, ?_⟩
      have e : zipD ((x.drop i).map .int) ((y.drop i).map .int) = [] := by
        rcases Nat.le_total x.length y.length with h | h
        · rw [List.drop_eq_nil_of_le (as := x) (by omega)]; rfl
        · rw [List.drop_eq_nil_of_le (as := y) (by omega)]; unfold zipD; simp
      rw [e, Nat.min_eq_right (by omega)]; rfl
    | succ n ih =>
      intro i s t hi
      have h1 : i < x.length := by omega
      have h2 : i < y.length := by omega
      obtain ⟨s', t', e⟩ := ih (i + 1) (some (.val (.int x[i]))) (some (.val (.int y[i]))) (by omega)
      refine ⟨s', t', ?_⟩
      rw [List.drop_eq_getElem_cons h1, List.drop_eq_getElem_cons h2, List.map_cons, List.map_cons, zipD_cons]
      have hb : Es (fIfS (fAnd (fTest (fBinS dEq 3 (fN 4))) (fTest (fBin dEq (fun ps => ((fSl (fN 0) fNoPart (fSomePart (fBin dAdd (fN 2) (fK (.int 1))))) ps).map PV.data) (fun ps => ((fSl (fN 1) fNoPart (fSomePart (fBin dAdd (fN 2) (fK (.int 1))))) ps).map PV.data)))) (fSet 2 (fun ps => ((fBin dAdd (fN 2) (fK (.int 1))) ps).map PV.val)) fSkip) [some (.val (eP x)), some (.val (eP y)), some (.val (.int (min i (cp x y) : Nat))), some (.val (.int x[i])), some (.val (.int y[i]))] (.nx [some (.val (eP x)), some (.val (eP y)), some (.val (.int (min (i + 1) (cp x y) : Nat))), some (.val (.int x[i])), some (.val (.int y[i]))]) := by
        by_cases hc : i < cp x y
        · have e1 := cp_eq x y i hc
          rw [List.getElem?_eq_getElem h1, List.getElem?_eq_getElem h2] at e1
          apply es_ifT
          · refine ev_to (ev_andP (k := true) (l := true) ?_ ?_) rfl rfl
            repeat infer_instance
            · simpa using e1
            repeat infer_instance
            · show ((min i (cp x y) : Nat) : Int) + 1 = ((i + 1 : Nat) : Int)
              omega
            repeat infer_instance
            · show ((min i (cp x y) : Nat) : Int) + 1 = ((i + 1 : Nat) : Int)
              omega
            repeat infer_instance
            · exact decide_eq_true (cp_pre (by omega))
          · apply es_to
            · repeat infer_instance
            · rw [Nat.min_eq_left (by omega), Nat.min_eq_left (by omega)]; rfl
        · have em : min (i + 1) (cp x y) = cp x y := by omega
          have em' : min i (cp x y) = cp x y := by omega
          rw [em, em']
          apply es_ifF
          · by_cases e0 : x[i] = y[i]
            · have h3 : cp x y < x.length := by omega
              have h4 : cp x y < y.length := by omega
              refine ev_to (ev_andP (k := true) (l := false) ?_ ?_) rfl rfl
              repeat infer_instance
              · show ((cp x y : Nat) : Int) + 1 = ((cp x y + 1 : Nat) : Int)
                omega
              repeat infer_instance
              · show ((cp x y : Nat) : Int) + 1 = ((cp x y + 1 : Nat) : Int)
                omega
              repeat infer_instance
              · refine decide_eq_false fun z => cp_ne x y h3 h4 ?_
                have := congrArg (fun l => l[cp x y]?) z
                simpa [List.getElem?_take] using this
            · apply ev_andF
              repeat infer_instance
          repeat infer_instance
      exact forL_cons (et_TE rfl (ets_cons et_N (ets_cons et_N ets_nil))) hb e
  obtain ⟨s', t', e⟩ := key (min x.length y.length) 0 none none (by omega)
  show (b__law_lag [some (.val (eP x)), some (.val (eP y)), none, none, none]).fin = _
  apply fin_retE
  unfold b__law_lag
  · apply es_seqS
    repeat infer_instance
    refine es_seq (ps1 := [some (.val (eP x)), some (.val (eP y)), some (.val (.int (cp x y))), s', t']) (es_for (ds := zipD (x.map .int) (y.map .int)) (ps1 := [some (.val (eP x)), some (.val (eP y)), some (.val (.int 0)), none, none]) (ev_zipT (ev_cons (ev_N rfl) (ev_cons (ev_N rfl) ev_nil))) ?_) ?_
    · have e0 : min 0 (cp x y) = 0 := by omega
      rw [e0, List.drop_zero, List.drop_zero] at e
      exact e
    · repeat infer_instance
  · rfl

theorem cp_taken : ∀ x y : List Int, cp (x.take (cp x y)) x = cp x y
  | [], y => by simp [cp_nil]
  | a :: x, [] => rfl
  | a :: x, b :: y => by
    by_cases h : a = b
    · have e1 : cp (a :: x) (b :: y) = cp x y + 1 := by simp [cp, h]
      rw [e1, List.take_succ_cons]
      simp [cp, cp_taken x y]
    · have e1 : cp (a :: x) (b :: y) = 0 := by simp [cp, h]
      rw [e1]; rfl
/-- the front of some pieces -/
def frontP : List Int → List (List Int) → List Int := List.foldl fun f o => f.take (cp f o)
theorem t_front_of {p : List Int} {S : List (List Int)} : M_front_of [.tuple ((p :: S).map eP)] = .ok (.val (eP (frontP p S))) := by
  show (b_front_of [some (.val (.tuple ((p :: S).map eP))), none, none]).fin = _
  have key : ∀ (l : List (List Int)) (q : List Int) (o : Option PV), ∃ o', forL (uN 2) (fSet 1 (fSl (fN 1) fNoPart (fSomePart (fun ps => ((fCall 2 M_alike_ahead (fCons (fN 1) (fCons (fN 2) (fun ps => .ok [] ps)))) ps).map PV.data)))) (l.map eP)
      [some (.val (.tuple ((p :: S).map eP))), some (.val (eP q)), o] = .nx [some (.val (.tuple ((p :: S).map eP))), some (.val (eP (frontP q l))), o'] := by
    intro l
    induction l with
    | nil => intro q o; exact ⟨o, rfl⟩
    | cons a l ih =>
      intro q o
      obtain ⟨o', e⟩ := ih (q.take (cp q a)) (some (.val (eP a)))
      refine ⟨o', ?_⟩
      rw [List.map_cons]
      refine forL_cons rfl ?_ e
      refine es_setS (sl_to (ev_N rfl) (ev_partS (ev_dataE (ev_callE (ev_cons (ev_N rfl) (ev_cons (ev_N rfl) ev_nil)) rfl t_alike) rfl))) rfl
  obtain ⟨o', e⟩ := key S p none
  apply fin_retE
  unfold b_front_of
  · refine es_seqS (ev_val (ev_ixS (look_val rfl) ev_K (look_val rfl) (dIx_t0 rfl))) rfl ?_
    dsimp only [List.set]
    refine es_seq (es_for (ev_seqI (ds := S.map eP) (ev_data (ev_slT (lo := some 1) (ev_N rfl) (ev_partS ev_K) ev_partN)) ?_) e) ?_
    · have := cutD_from (xs := (p :: S).map eP) (n := 1) (by simp)
      show some (cutD ((p :: S).map eP) (some 1) none) = _
      rw [show (1 : Int) = ((1 : Nat) : Int) from rfl, this]; rfl
    · exact es_ret (ev_MvS rfl rfl)
  · rfl
theorem Vps {S : List (List Int)} (hv : ∀ x ∈ S, Vp x) (hz : S.length ≤ 1000) : sz (eQ S) = true := by
  have : szAll (S.map eP) = true := szAll_of fun d m => by
    obtain ⟨x, hx, rfl⟩ := List.mem_map.mp m
    exact sz_P (hv x hx).2
  simp only [sz, this, Bool.and_true, decide_eq_true_eq]
  simpa using hz
theorem t_pieces_ok {f : Nat → Nat} {S : List (List Int)} {ps : PSt} {i j : Nat} (hi : ps[i]? = some (some (.val (eQ S)))) (hij : i ≠ j) (hj : ps[j]? = some none) (hv : ∀ x ∈ S, Vp x) (hne : S ≠ []) (hz : S.length ≤ 1000) :
    Ev (fAndV (fIsi (isaD "tuple") (fN i)) (fAndV (fBinS dNe i (fTup (fun ps => .ok [] ps))) (fApp dAll (fCons (fun ps => ((fLc (fSeqI (fN i)) (uN j) cYes (fun ps => ((fCall 1 M_is_piece (fCons (fN j) (fun ps => .ok [] ps))) ps).map PV.data) [j]) ps).map PV.data) (fun ps => .ok [] ps))))) ps (.bool true) ps := by
  have hl : j < ps.length := (List.getElem?_eq_some_iff.mp hj).1
  have w0 : ps.set j none = ps := by
    apply List.ext_getElem?
    intro m
    by_cases e : j = m
    · subst e; rw [List.getElem?_set_self hl, hj]
    · rw [List.getElem?_set_ne e]
  refine ev_andVP (k := true) (l := true) (ev_isi (ev_N hi) rfl) (ev_andVP (k := true) (l := true) ?_ ?_)
  · refine ev_binS (look_val hi) (ev_tupE ev_nil (by simp)) (look_val hi) ?_
    exact tyQ.dNe (a := S) (b := []) (by omega) (by simpa using hne)
  · refine ev_app (ds := [.list (S.map fun _ => .bool true)]) (ev_cons (ev_dataE (ev_lcS (ps1 := ps) (p0 := ps) (p1 := ps) (es := (S.map eP).map fun _ => .bool true) (ev_seqI (ev_N hi) rfl) ?_ (compL_map0 (fun _ => .bool true) _ (by simp; omega) fun e he => ?_) ?_) ?_) ev_nil) (dAll_true fun d hd => ?_)
    · show ps.set j none = ps
      exact w0
    · obtain ⟨x, hx, rfl⟩ := List.mem_map.mp he
      refine ⟨ps.set j (some (.val (eP x))), _, _, et_N, ev_cYes, ev_dataE (ev_callE (ev_cons (ev_N (by rw [List.getElem?_set_self hl])) ev_nil) rfl (t_is_piece (hv x hx))) rfl, ?_⟩
      show (ps.set j (some (.val (eP x)))).set j none = ps
      rw [List.set_set, w0]
    · show (ps.set j (keepV ps[j]?)) = ps
      rw [hj]; exact w0
    · show PyData.list _ = _
      rw [List.map_map]; rfl
    · obtain ⟨_, _, rfl⟩ := List.mem_map.mp hd
      rfl
theorem t_front {p : List Int} {S : List (List Int)} (hv : ∀ x ∈ p :: S, Vp x) (hz : (p :: S).length ≤ 1000) : M_front [eQ (p :: S)] = .ok (.val (eP (frontP p S))) := by
  show (b_front [some (.val (eQ (p :: S))), none, none]).fin = _
  apply fin_retE
  unfold b_front
  · refine es_seqS (ev_callE (ev_cons (ev_N rfl) ev_nil) rfl (t_tuple_of (Vps hv hz) (by have := tyQ.dp (p :: S); omega) (tup_ni (tyQ.ni _)))) rfl ?_
    dsimp only [List.set]
    refine es_seqE (ev_data (ev_callE (ev_cons (t_pieces_ok (f := id) rfl (by decide) rfl hv (by simp) hz) ev_nil) rfl (t_sureE rfl))) ?_
    exact es_ret (ev_callE (ev_cons (ev_N rfl) ev_nil) rfl t_front_of)
  · rfl
theorem t_lots_near {d : PyData} {S : List (List Int)} {n : Int} (hd : M_tuple_of [d] = .ok (.val (eQ S))) (hv : ∀ x ∈ S, Vp x) (hne : S ≠ []) (hz : S.length < 64) (hn : 0 ≤ n) : M_lots_near [d, .int n] = .ok (.val (eR (lotsP n S))) := by
  show (b_lots_near [some (.val d), some (.val (.int n)), none, none]).fin = _
  apply fin_retE
  unfold b_lots_near
  · refine es_seqS (ev_callE (ev_cons (ev_N rfl) ev_nil) rfl hd) rfl ?_
    dsimp only [List.set]
    refine es_seqE (ev_data (ev_callE (ev_cons (t_pieces_ok (f := id) rfl (by decide) rfl hv hne (by omega)) ev_nil) rfl (t_sureE rfl))) ?_
    refine es_seqE (ev_data (ev_callE (ev_cons (ev_andVP (k := true) (l := true) (ev_data (ev_callE (ev_cons (ev_N rfl) ev_nil) rfl t_is_number)) (ev_binS (look_val rfl) ev_K (look_val rfl) (dGe_iE (decide_eq_true hn)))) ev_nil) rfl (t_sureE rfl))) ?_
    exact es_ret (ev_callE (ev_cons (ev_N rfl) (ev_cons (ev_N rfl) ev_nil)) rfl (t_lots_of hz))
  · rfl
/-! ### the law's own lots -/
theorem t_lap {d0 : PyData} {n : Int} {fnd : List PyData} {S left : List (List Int)} {x : List Int} (hnd : left.Nodup) (hsub : ∀ y ∈ left, y ∈ S) (hz : left.length ≤ 1000) : ∀ (l : List (List Int)) (k : Nat) (lot : List (List Int)) (o5 : Option PV), Lt.Lap (near n) S left x k lot →
    ∃ lot' o5', Lt.Lap (near n) S left x (k + l.length) lot' ∧ forL (uN 5) (fSet 4 (fBinO dCatL (fN 4) (fun ps => ((fLc (fSeqI (fN 2)) (uN 6) (fAnd (fTest (fBinSS dNotInA 6 4)) (fTest (fBin dNe (fun ps => ((fLc (fSeqI (fN 4)) (uN 7) (fTest (fBin dLe (fApp dSum (fCons (fun ps => ((fLc (fSeqI (fun ps => ((fCall 2 M__law_lag (fCons (fN 6) (fCons (fN 7) (fun ps => .ok [] ps)))) ps).map PV.data)) (uN 8) cYes (fLenS 8) [8]) ps).map PV.data) (fun ps => .ok [] ps))) (fN 1))) (fN 7) [7]) ps).map PV.data) (fun ps => ((fLst (fun ps => .ok [] ps)) ps).map PV.data)))) (fN 6) [6]) ps).map PV.data))) (l.map eP) [some (.val d0), some (.val (.int n)), some (.val (.list (left.map eP))), some (.own (.list fnd)), some (.own (.list (lot.map eP))), o5, none, none, none] = .nx [some (.val d0), some (.val (.int n)), some (.val (.list (left.map eP))), some (.own (.list fnd)), some (.own (.list (lot'.map eP))), o5', none, none, none] := by
  intro l
  induction l with
  | nil => intro k lot o5 h; exact ⟨lot, o5, h, rfl⟩
  | cons a l ih =>
    intro k lot o5 h
    have hk : ∀ y ∈ left, (fun y => (!decide (y ∈ lot)) && (!(lot.filter fun f => decide (near n y f)).isEmpty)) y = true ↔ y ∉ lot ∧ ∃ f ∈ lot, near n y f := fun y _ => by
      have e : (lot.filter fun f => decide (near n y f)).isEmpty = false ↔ ∃ f ∈ lot, near n y f := by
        rw [List.isEmpty_eq_false_iff_exists_mem]
        exact ⟨fun ⟨f, hf⟩ => ⟨f, (List.mem_filter.mp hf).1, of_decide_eq_true (List.mem_filter.mp hf).2⟩, fun ⟨f, h1, h2⟩ => ⟨f, List.mem_filter.mpr ⟨h1, decide_eq_true h2⟩⟩⟩
      simp only [Bool.and_eq_true, Bool.not_eq_true', decide_eq_false_iff_not, e]
    have h2 := h.step near_symm hnd hsub hk
    have l1 := Lt.sub_length h.nd h.sub
    obtain ⟨lot', o5', h3, e3⟩ := ih (k + 1) _ (some (.val (eP a))) h2
    refine ⟨lot', o5', by rw [List.length_cons, show k + (l.length + 1) = k + 1 + l.length by omega]; exact h3, ?_⟩
    rw [List.map_cons]
    refine forL_cons (ps1 := [some (.val d0), some (.val (.int n)), some (.val (.list (left.map eP))), some (.own (.list fnd)), some (.own (.list (lot.map eP))), some (.val (eP a)), none, none, none]) rfl ?_ e3
    refine es_setS (p := .own (.list ((lot ++ left.filter (fun y => (!decide (y ∈ lot)) && (!(lot.filter fun f => decide (near n y f)).isEmpty))).map eP))) (ps1 := [some (.val d0), some (.val (.int n)), some (.val (.list (left.map eP))), some (.own (.list fnd)), some (.val (.list (lot.map eP))), some (.val (eP a)), none, none, none]) ?_ rfl
    refine ev_to (ev_binO (ev_NoS rfl rfl) (ev_dataE (ev_lcS (es := (left.filter (fun y => (!decide (y ∈ lot)) && (!(lot.filter fun f => decide (near n y f)).isEmpty))).map eP) (ev_seqI (ev_N rfl) rfl) rfl (compL_keep (en := eP) (fun y => (!decide (y ∈ lot)) && (!(lot.filter fun f => decide (near n y f)).isEmpty)) left (by omega) fun y hy => ?_) rfl) rfl) (dCatL_l ?_)) ?_ rfl
    · refine ⟨_, et_N, ev_andP (ev_test (ev_binSS (look_val rfl) (look_val rfl) (tyP.dNotIn' (by omega) (.inl rfl) (by simp)))) (ev_test (ev_bin (ev_dataE (ev_lcS (es := (lot.filter fun f => decide (near n y f)).map eP) (ev_seqI (ev_N rfl) rfl) rfl (compL_keep (en := eP) (fun f => decide (near n y f)) lot (by omega) fun f hf => ?_) rfl) rfl) (ev_dataE (ev_lstE ev_nil (by simp)) rfl) (tyP.dNeL (by omega) rfl))), ev_N rfl, rfl⟩
      refine ⟨_, et_N, ev_test (ev_bin (ev_app (ev_cons (ev_dataE (ev_lcS (es := [.int (lgA y f).length, .int (lgB y f).length]) (ev_seqI (ds := [eP (lgA y f), eP (lgB y f)]) (ev_dataE (ev_callE (ev_cons (ev_N rfl) (ev_cons (ev_N rfl) ev_nil)) rfl t_law_lag) rfl) rfl) rfl (compL_cons (e := .int (lgA y f).length) rfl ev_cYes (ev_lenS (look_val rfl) (dLen_P rfl)) (by simp) (compL_cons (e := .int (lgB y f).length) rfl ev_cYes (ev_lenS (look_val rfl) (dLen_P rfl)) (by simp) rfl)) rfl) rfl) ev_nil) rfl) (ev_N rfl) (dLe_iE ?_)), ev_N rfl, rfl⟩
      rw [decide_eq_decide]
      show (([((lgA y f).length : Int), ((lgB y f).length : Int)] : List Int).sum ≤ n) ↔ ((((lgA y f).length + (lgB y f).length : Nat) : Int) ≤ n)
      simp
    · simp only [List.length_map]
      have := List.length_filter_le (fun y => (!decide (y ∈ lot)) && (!(lot.filter fun f => decide (near n y f)).isEmpty)) left
      omega
    · rw [List.map_append]
theorem t_outer2 {d0 : PyData} {n : Int} {S : List (List Int)} (hz : S.length < 64) : ∀ (m : Nat) (left : List (List Int)) (found : List (List (List Int))) (o4 o5 : Option PV), left.length ≤ m → Lt.Out (srt eP) (near n) S left found →
    ∃ found' o4' o5', Lt.Out (srt eP) (near n) S [] found' ∧ Es (fWhile (fTest (fBinS dNe 2 (fun ps => ((fLst (fun ps => .ok [] ps)) ps).map PV.data))) (fSeq (fSet 4 (fLst (fCons (fIxS 2 (fK (.int 0))) (fun ps => .ok [] ps))))
  (fSeq (fFor (fSeqI (fN 2)) (uN 5) (fSet 4 (fBinO dCatL (fN 4) (fun ps => ((fLc (fSeqI (fN 2)) (uN 6) (fAnd (fTest (fBinSS dNotInA 6 4)) (fTest (fBin dNe (fun ps => ((fLc (fSeqI (fN 4)) (uN 7) (fTest (fBin dLe (fApp dSum (fCons (fun ps => ((fLc (fSeqI (fun ps => ((fCall 2 M__law_lag (fCons (fN 6) (fCons (fN 7) (fun ps => .ok [] ps)))) ps).map PV.data)) (uN 8) cYes (fLenS 8) [8]) ps).map PV.data) (fun ps => .ok [] ps))) (fN 1))) (fN 7) [7]) ps).map PV.data) (fun ps => ((fLst (fun ps => .ok [] ps)) ps).map PV.data)))) (fN 6) [6]) ps).map PV.data))))
  (fSeq (fExpr (fMeth 3 dAppend (fCons (fun ps => ((fCall 1 M__law_set (fCons (fN 4) (fun ps => .ok [] ps))) ps).map PV.data) (fun ps => .ok [] ps))))
  (fSet 2 (fLc (fSeqI (fN 2)) (uN 6) (fTest (fBinSS dNotInA 6 4)) (fN 6) [6]))))))
      [some (.val d0), some (.val (.int n)), some (.own (.list (left.map eP))), some (.own (.list (found.map eQ))), o4, o5, none, none, none] (.nx [some (.val d0), some (.val (.int n)), some (.own (.list [])), some (.own (.list (found'.map eQ))), o4', o5', none, none, none]) := by
  intro m
  have stop : ∀ (found : List (List (List Int))) (o4 o5 : Option PV), Lt.Out (srt eP) (near n) S [] found → ∃ found' o4' o5', Lt.Out (srt eP) (near n) S [] found' ∧ Es (fWhile (fTest (fBinS dNe 2 (fun ps => ((fLst (fun ps => .ok [] ps)) ps).map PV.data))) (fSeq (fSet 4 (fLst (fCons (fIxS 2 (fK (.int 0))) (fun ps => .ok [] ps))))
  (fSeq (fFor (fSeqI (fN 2)) (uN 5) (fSet 4 (fBinO dCatL (fN 4) (fun ps => ((fLc (fSeqI (fN 2)) (uN 6) (fAnd (fTest (fBinSS dNotInA 6 4)) (fTest (fBin dNe (fun ps => ((fLc (fSeqI (fN 4)) (uN 7) (fTest (fBin dLe (fApp dSum (fCons (fun ps => ((fLc (fSeqI (fun ps => ((fCall 2 M__law_lag (fCons (fN 6) (fCons (fN 7) (fun ps => .ok [] ps)))) ps).map PV.data)) (uN 8) cYes (fLenS 8) [8]) ps).map PV.data) (fun ps => .ok [] ps))) (fN 1))) (fN 7) [7]) ps).map PV.data) (fun ps => ((fLst (fun ps => .ok [] ps)) ps).map PV.data)))) (fN 6) [6]) ps).map PV.data))))
  (fSeq (fExpr (fMeth 3 dAppend (fCons (fun ps => ((fCall 1 M__law_set (fCons (fN 4) (fun ps => .ok [] ps))) ps).map PV.data) (fun ps => .ok [] ps))))
  (fSet 2 (fLc (fSeqI (fN 2)) (uN 6) (fTest (fBinSS dNotInA 6 4)) (fN 6) [6]))))))
      [some (.val d0), some (.val (.int n)), some (.own (.list (([] : List (List Int)).map eP))), some (.own (.list (found.map eQ))), o4, o5, none, none, none] (.nx [some (.val d0), some (.val (.int n)), some (.own (.list [])), some (.own (.list (found'.map eQ))), o4', o5', none, none, none]) := by
    intro found o4 o5 o
    refine ⟨found, o4, o5, o, ?_⟩
    apply es_whileF
    exact ev_test (ev_binS (look_own rfl) (ev_dataE (ev_lstE ev_nil (by simp)) rfl) (look_own rfl) (tyP.dNeL (l := []) (by omega) rfl))
  induction m with
  | zero =>
    intro left found o4 o5 hm o
    have e1 : left = [] := List.eq_nil_of_length_eq_zero (by omega)
    subst e1
    exact stop found o4 o5 o
  | succ m ih =>
    intro left found o4 o5 hm o
    cases left with
    | nil => exact stop found o4 o5 o
    | cons x rest =>
      have ll := Lt.sub_length o.nd o.sub
      have fl : found.length ≤ S.length := by
        have := Lt.sub_length o.fnd (m := S.map (Lt.cls (srt eP) (near n) S)) fun l hl => by
          obtain ⟨y, hy, _, e⟩ := o.fd l hl
          exact List.mem_map.mpr ⟨y, hy, e.symm⟩
        simpa using this
      simp only [List.length_cons] at ll hm
      obtain ⟨lot', o5', h2, e2⟩ := t_lap (d0 := d0) (fnd := found.map eQ) o.nd o.sub (by simp; omega) (x :: rest) 0 [x] o5 (Lt.Lap.start List.mem_cons_self)
      have f1 := h2.fin near_symm o.sub (o.cl x List.mem_cons_self) (by simp)
      have sl := Lt.sub_length h2.nd h2.sub
      simp only [List.length_cons] at sl
      have xl : x ∈ lot' := (f1 x).mpr ⟨o.sub x List.mem_cons_self, .refl _⟩
      have f2 : ∀ y, y ∈ (x :: rest).filter (fun y => !decide (y ∈ lot')) ↔ y ∈ x :: rest ∧ ¬ Lt.Con (near n) S x y := fun y => by
        rw [List.mem_filter]
        simp only [Bool.not_eq_true', decide_eq_false_iff_not, f1 y]
        exact ⟨fun ⟨a, b⟩ => ⟨a, fun c => b ⟨o.sub y a, c⟩⟩, fun ⟨a, b⟩ => ⟨a, fun c => b c.2⟩⟩
      have o2 := o.step tyP.srt near_symm List.mem_cons_self (o.nd.filter _) f2
      have lf : ((x :: rest).filter (fun y => !decide (y ∈ lot'))).length ≤ rest.length := by
        rw [List.filter_cons, if_neg (by simp [xl])]
        exact List.length_filter_le _ _
      obtain ⟨found', p4, p5, o3, e3⟩ := ih _ _ (some (.val (.list (lot'.map eP)))) o5' (by omega) o2
      refine ⟨found', p4, p5, o3, es_whileT (ps1 := [some (.val d0), some (.val (.int n)), some (.own (.list ((x :: rest).map eP))), some (.own (.list (found.map eQ))), o4, o5, none, none, none]) ?_ (ps2 := [some (.val d0), some (.val (.int n)), some (.own (.list (((x :: rest).filter fun y => !decide (y ∈ lot')).map eP))), some (.own (.list ((found ++ [Lt.cls (srt eP) (near n) S x]).map eQ))), some (.val (.list (lot'.map eP))), o5', none, none, none]) ?_ e3⟩
      · exact ev_test (ev_binS (look_own rfl) (ev_dataE (ev_lstE ev_nil (by simp)) rfl) (look_own rfl) (tyP.dNeL (l := x :: rest) (by omega) (by simp)))
      · refine es_seqS (p := .own (.list ([x].map eP))) (ev_lstE (ev_cons (ev_ixS (look_own rfl) ev_K (look_own rfl) (dIx_l0 rfl)) ev_nil) (by simp)) rfl ?_
        dsimp only [List.set]
        refine es_seq (es_for (ev_seqI (ev_NoS rfl rfl) rfl) e2) ?_
        have es := t_law_set tyP (by omega) isT_P (l := lot') (.inl rfl) (by omega)
        rw [Lt.srt_cls tyP.srt f1] at es
        refine es_seq (es_expr' (ps2 := [some (.val d0), some (.val (.int n)), some (.val (.list ((x :: rest).map eP))), some (.own (.list ((found ++ [Lt.cls (srt eP) (near n) S x]).map eQ))), some (.val (.list (lot'.map eP))), o5', none, none, none]) (ev_meth (es0 := found.map eQ) (es := found.map eQ) (es' := (found ++ [Lt.cls (srt eP) (near n) S x]).map eQ) rfl (ev_cons (ev_dataE (ev_callE (ev_cons (ev_NoS rfl rfl) ev_nil) rfl es) rfl) ev_nil) rfl ?_) rfl) ?_
        · show (if _ then _ else _) = _
          rw [if_pos (by rw [sizeLine_eq]; simp; omega), List.map_append]; rfl
        refine es_setS (ev_lcS (ev_seqI (ev_N rfl) rfl) rfl (compL_keep (en := eP) (fun y => !decide (y ∈ lot')) (x :: rest) (by simp; omega) fun y _ => ?_) rfl) rfl
        exact ⟨_, et_N, ev_test (ev_binSS (look_val rfl) (look_val rfl) (tyP.dNotIn' (by omega) (.inl rfl) (by simp))), ev_N rfl, rfl⟩
theorem t_law_lots {n : Int} {S : List (List Int)} (hz : S.length < 64) : M__law_lots [.list (S.map eP), .int n] = .ok (.val (eR (lotsP n S))) := by
  show (b__law_lots [some (.val (.list (S.map eP))), some (.val (.int n)), none, none, none, none, none, none, none]).fin = _
  obtain ⟨found, p4, p5, o, e⟩ := t_outer2 (d0 := .list (S.map eP)) (n := n) hz _ (srt eP S) [] none none (Nat.le_refl _) (Lt.Out.start tyP.srt)
  have fl : found.length ≤ S.length := by
    have := Lt.sub_length o.fnd (m := S.map (Lt.cls (srt eP) (near n) S)) fun l hl => by
      obtain ⟨y, hy, _, e⟩ := o.fd l hl
      exact List.mem_map.mpr ⟨y, hy, e.symm⟩
    simpa using this
  have es := t_law_set tyQ (by omega) isT_Q (l := found) (.inl rfl) (by omega)
  rw [o.fin tyQ.srt] at es
  apply fin_retE
  unfold b__law_lots
  · refine es_seq (es_par (ev_appO (ev_cons (ev_dataE (ev_callE (ev_cons (ev_N rfl) ev_nil) rfl (t_law_set tyP (by omega) isT_P (.inl rfl) hz)) rfl) ev_nil) dList_t) (ev_lstE ev_nil (by simp))) ?_
    dsimp only [List.set]
    refine es_seq e ?_
    exact es_ret (ev_callE (ev_cons (ev_NoS rfl rfl) ev_nil) rfl es)
  · rfl
end TT

namespace TT
open PySem PySem.Spec L2 GL GT
open PyProof.Rows hiding St
local macro_rules | `(tactic| infer_instance) => `(tactic| first
  | (with_reducible apply es_seqS)
  | (with_reducible apply es_setS)
  | (with_reducible apply es_seqA)
  | (with_reducible apply es_seqE)
  | (with_reducible apply es_ret)
  | (with_reducible apply es_expr)
  | (with_reducible apply es_asg)
  | (with_reducible exact es_skip)
  | (with_reducible exact ev_K)
  | (with_reducible exact ev_nil)
  | ((with_reducible apply ev_nilE); exact rfl)
  | ((with_reducible apply ev_KE); exact rfl)
  | (with_reducible exact ev_cYes)
  | (with_reducible exact ev_partN)
  | (with_reducible apply ev_cons)
  | ((with_reducible apply ev_N); exact rfl)
  | ((with_reducible apply ev_MvS); exact rfl)
  | ((with_reducible apply ev_NoS); exact rfl)
  | (with_reducible apply ev_dataE)
  | (with_reducible apply ev_val)
  | (with_reducible apply ev_bin)
  | (with_reducible apply ev_un)
  | ((with_reducible apply ev_binS))
  | ((with_reducible apply ev_ixS))
  | ((with_reducible apply ev_lenS))
  | (with_reducible apply ev_test)
  | (with_reducible apply ev_notE)
  | (with_reducible apply ev_notVE)
  | (with_reducible apply ev_tupE)
  | (with_reducible apply ev_lstE)
  | (with_reducible apply ev_app)
  | (with_reducible apply ev_appO)
  | (with_reducible apply ev_isi)
  | (with_reducible apply ev_callE)
  | ((with_reducible apply ev_callUE); exact rfl)
  | (with_reducible apply ev_partS)
  | (with_reducible apply ev_seqI)
  | (with_reducible apply ev_lcS)
  | (with_reducible apply et_NS)
  | (with_reducible exact ets_nil)
  | ((with_reducible apply et_TE); exact rfl)
  | ((with_reducible apply et_LE); exact rfl)
  | focus ((with_reducible show List.length _ = _); exact rfl)
  | focus ((with_reducible show List.length (α := PyData) _ ≤ 1000); (simp only [List.length_cons, List.length_nil]; omega))
  | (with_reducible apply ets_cons)
  | (with_reducible apply dAdd_iE)
  | (with_reducible apply dSub_iE)
  | (with_reducible apply dLt_iE)
  | (with_reducible apply dGt_iE)
  | (with_reducible apply dLe_iE)
  | (with_reducible apply dGe_iE)
  | (with_reducible apply dEq_iE)
  | (with_reducible apply dNe_iE)
  | (with_reducible apply dEq_bE)
  | (with_reducible apply dNe_bE)
  | (with_reducible apply dLen_lE)
  | (with_reducible apply dLen_tE)
  | (with_reducible exact dAbs_i)
  | (with_reducible exact dInt_i)
  | (with_reducible exact dInt_b)
  | (with_reducible exact dTuple_l)
  | (with_reducible exact dTuple_t)
  | focus ((with_reducible show dTuple _ = _); exact rfl)
  | (with_reducible exact dList_l)
  | (with_reducible exact dList_t)
  | (with_reducible exact dMin2_i)
  | (with_reducible exact dMax2_i)
  | focus ((with_reducible show _ = some (some _)); exact rfl)
  | (with_reducible exact data_val)
  | (with_reducible exact data_own)
  | focus ((with_reducible show (!_) = _); exact rfl)
  | ((with_reducible apply look_val); exact rfl)
  | ((with_reducible apply look_own); exact rfl)
  | focus ((with_reducible show seqOf _ = _); exact rfl)
  | focus ((with_reducible show @Eq PV _ _); exact rfl)
  | focus ((with_reducible show @Eq PSt _ _); first | (focus (dsimp only [List.set, List.set_cons_succ, List.set_cons_zero, wipeP, restP, keepV, List.getElem?_cons_succ, List.getElem?_cons_zero]; try exact rfl)) | exact rfl)
  | focus ((with_reducible show isaD _ _ = _); exact rfl)
  | focus ((with_reducible show isa2 _ _ _ = _); exact rfl)
  | focus ((with_reducible show dIx _ _ = _); first | exact rfl | exact dIx_t0 rfl | exact dIx_l0 rfl)
  | focus ((with_reducible show (_ && _) = _); exact rfl)
  | focus ((with_reducible show (_ || _) = _); exact rfl)
  | (with_reducible apply dMul_iE)
  | (with_reducible apply dMod_iE)
  | (with_reducible apply dFdiv_iE)
  | (with_reducible exact (rfl : (_ : Bool) = _))
  | (with_reducible exact (rfl : (_ : Int) = _))
  | exact decide_eq_true (by omega)
  | exact decide_eq_false (by omega)
  | focus ((with_reducible show (_ : Int) = _); omega)
  | focus ((with_reducible show (_ : Int) < _); omega)
  )
local macro_rules | `(tactic| infer_instance) => `(tactic| first
  | (with_reducible apply ev_binO)
  | (with_reducible apply ev_rev)
  | (with_reducible apply ev_binSS)
  | ((with_reducible apply ev_pop); exact rfl)

  | focus ((with_reducible show ixN _ _ = _); exact rfl)
  | focus ((with_reducible show _ = some (some (PV.own _))); exact rfl)
  | focus ((with_reducible show _ ∨ _); first | (left; omega) | (right; omega))
  | focus ((with_reducible show _ ∧ _ < (1073741824 : Int)); omega)
  | focus ((with_reducible show dIs _ _ = _); exact rfl)
  | focus ((with_reducible show dIsNot _ _ = _); exact rfl)
  | (with_reducible exact decide_eq_true rfl)
  | focus ((with_reducible show decide (@Eq Bool _ _) = _); exact rfl))
local macro_rules | `(tactic| infer_instance) => `(tactic| first
  | (with_reducible apply sl_fromI)
  | (with_reducible apply sl_toI)
  | (with_reducible apply dAdd_P)
  | (with_reducible apply dEq_P)
  | (with_reducible apply dEq_P0)
  | (with_reducible apply dNe_P)
  | (with_reducible apply dNe_P0)
  | (with_reducible apply dEq_L)
  | (with_reducible apply dNe_L)
  | (with_reducible apply dLen_P)
  | (with_reducible exact t_is_number)
  | (with_reducible exact t_alike)
  | (with_reducible exact t_lag_between)
  | (with_reducible apply t_sureE)
  | (with_reducible apply t_is_piece)
  | focus ((with_reducible show Vp _); assumption)
  | (with_reducible exact (cp_le _ _).1)
  | (with_reducible exact (cp_le _ _).2))
noncomputable def c1 : PSt → Os := (fSet 1 (fCall 2 M__law_box (fCons (fun ps => ((fCall 2 M__law_cells (fCons (fN 0) (fCons (fK (.int 1)) (fun ps => .ok [] ps)))) ps).map PV.data) (fCons (fK (.int 0)) (fun ps => .ok [] ps)))))
noncomputable def c2 : PSt → Os := (fSet 2 (fLc (fRange1 (fCons (fBin dAdd (fK (.int 1)) (fun ps => ((fCallU 1 1 M__law_take (fCons (fK (.int 7)) (fun ps => .ok [] ps))) ps).map PV.data)) (fun ps => .ok [] ps))) (uN 16) cYes (fun ps => ((fCallU 1 1 M__law_piece (fCons (fK (.int 4)) (fun ps => .ok [] ps))) ps).map PV.data) [16]))
noncomputable def c3 : PSt → Os := (fIfS (fTest (fBin dEq (fun ps => ((fCallU 1 1 M__law_take (fCons (fK (.int 2)) (fun ps => .ok [] ps))) ps).map PV.data) (fK (.int 0)))) (fSet 2 (fBinO dCatL (fN 2) (fun ps => ((fLst (fCons (fBin dAdd (fIxS 2 (fK (.int 0))) (fun ps => ((fCallU 1 1 M__law_piece (fCons (fK (.int 2)) (fun ps => .ok [] ps))) ps).map PV.data)) (fCons (fIxS 2 (fUn dNeg (fK (.int 1)))) (fun ps => .ok [] ps)))) ps).map PV.data))) fSkip)
noncomputable def c4 : PSt → Os := (fSet 3 (fun ps => ((fK .none) ps).map PV.val))
noncomputable def c6 : PSt → Os := (fSet 5 (fun ps => ((fApp dMaxL (fCons (fun ps => ((fLc (fSeqI (fun ps => ((fCall 2 M__law_pairs (fCons (fN 2) (fCons (fN 2) (fun ps => .ok [] ps)))) ps).map PV.data)) (uTup 2 (uCons (uN 18) (uCons (uN 19) uNil))) cYes (fun ps => ((fCall 1 M_lag_length (fCons (fun ps => ((fCall 2 M_lag_of (fCons (fN 18) (fCons (fN 19) (fun ps => .ok [] ps)))) ps).map PV.data) (fun ps => .ok [] ps))) ps).map PV.data) [18, 19]) ps).map PV.data) (fun ps => .ok [] ps))) ps).map PV.val))
noncomputable def c7 : PSt → Os := (fSet 6 (fCall 1 M_front (fCons (fApp dTuple (fCons (fN 2) (fun ps => .ok [] ps))) (fun ps => .ok [] ps))))
noncomputable def c8 : PSt → Os := (fIfS (fOr (fTest (fBin dNe (fApp dLen (fCons (fun ps => ((fCall 2 M_lots_near (fCons (fApp dTuple (fCons (fN 2) (fun ps => .ok [] ps))) (fCons (fN 5) (fun ps => .ok [] ps)))) ps).map PV.data) (fun ps => .ok [] ps))) (fK (.int 1)))) (fTest (fBin dNe (fun ps => ((fLc (fSeqI (fN 2)) (uN 17) (fTest (fBin dNe (fun ps => ((fSl (fN 17) fNoPart (fSomePart (fLenS 6))) ps).map PV.data) (fN 6))) (fN 17) [17]) ps).map PV.data) (fun ps => ((fLst (fun ps => .ok [] ps)) ps).map PV.data)))) (fRet (fun ps => ((fK (.bool false)) ps).map PV.val)) fSkip)
noncomputable def c9 : PSt → Os := (fSet 7 (fLc (fSeqI (fN 2)) (uN 17) cYes (fun ps => ((fSl (fN 17) fNoPart (fSomePart (fBin dAdd (fLenS 6) (fK (.int 1))))) ps).map PV.data) [17]))
noncomputable def c10 : PSt → Os := (fRet (fun ps => ((fOrV (fBin dGt (fApp dLenSet (fCons (fN 7) (fun ps => .ok [] ps))) (fK (.int 1))) (fBin dEq (fIxS 7 (fK (.int 0))) (fN 6))) ps).map PV.val))
noncomputable def d1 : PSt → Os := (fSet 8 (fCall 2 M_lots_near (fCons (fApp dTuple (fCons (fN 2) (fun ps => .ok [] ps))) (fCons (fN 4) (fun ps => .ok [] ps)))))
noncomputable def d2 : PSt → Os := (fIfS (fNot (fTest (fun ps => ((fCall 2 M__law_same (fCons (fun ps => ((fLst (fCons (fN 8) (fCons (fun ps => ((fCall 2 M_lots_near (fCons (fun ps => ((fCall 1 M__law_lists (fCons (fun ps => ((fRev (fN 2)) ps).map PV.data) (fun ps => .ok [] ps))) ps).map PV.data) (fCons (fN 4) (fun ps => .ok [] ps)))) ps).map PV.data) (fun ps => .ok [] ps)))) ps).map PV.data) (fCons (fun ps => ((fRep (fLst (fCons (fun ps => ((fCall 2 M__law_lots (fCons (fN 2) (fCons (fN 4) (fun ps => .ok [] ps)))) ps).map PV.data) (fun ps => .ok [] ps))) (fK (.int 2))) ps).map PV.data) (fun ps => .ok [] ps)))) ps).map PV.data))) (fRet (fun ps => ((fK (.bool false)) ps).map PV.val)) fSkip)
noncomputable def d3 : PSt → Os := (fIfS (fAnd (fTest (fBinS dIsNot 3 (fK .none))) (fTest (fBin dNe (fun ps => ((fLc (fSeqI (fN 3)) (uN 14) (fTest (fBin dEq (fun ps => ((fLc (fSeqI (fN 8)) (uN 17) (fTest (fBin dEq (fun ps => ((fLc (fSeqI (fN 14)) (uN 18) (fTest (fBinSS dNotInA 18 17)) (fN 18) [18]) ps).map PV.data) (fun ps => ((fLst (fun ps => .ok [] ps)) ps).map PV.data))) (fN 17) [17]) ps).map PV.data) (fun ps => ((fLst (fun ps => .ok [] ps)) ps).map PV.data))) (fN 14) [14]) ps).map PV.data) (fun ps => ((fLst (fun ps => .ok [] ps)) ps).map PV.data)))) (fRet (fun ps => ((fK (.bool false)) ps).map PV.val)) fSkip)
noncomputable def d4 : PSt → Os := (fSet 3 (fun ps => ((fN 8) ps).map PV.val))
noncomputable def d5 : PSt → Os := (fSet 9 (fCallU 1 1 M__law_piece (fCons (fK (.int 3)) (fun ps => .ok [] ps))))
noncomputable def d6 : PSt → Os := (fSet 10 (fCall 1 M__law_set (fCons (fun ps => ((fLc (fSeqI (fN 8)) (uN 14) cYes (fun ps => ((fCall 1 M__law_set (fCons (fun ps => ((fLc (fSeqI (fN 14)) (uN 17) cYes (fBin dAdd (fN 9) (fN 17)) [17]) ps).map PV.data) (fun ps => .ok [] ps))) ps).map PV.data) [14]) ps).map PV.data) (fun ps => .ok [] ps))))
noncomputable def d7 : PSt → Os := (fIfS (fNot (fTest (fun ps => ((fCall 2 M__law_same (fCons (fun ps => ((fCall 2 M_lots_near (fCons (fApp dTuple (fCons (fun ps => ((fLc (fSeqI (fN 2)) (uN 17) cYes (fBin dAdd (fN 9) (fN 17)) [17]) ps).map PV.data) (fun ps => .ok [] ps))) (fCons (fN 4) (fun ps => .ok [] ps)))) ps).map PV.data) (fCons (fN 10) (fun ps => .ok [] ps)))) ps).map PV.data))) (fRet (fun ps => ((fK (.bool false)) ps).map PV.val)) fSkip)
noncomputable def d8 : PSt → Os := (fSet 11 (fCallU 1 1 M__law_piece (fCons (fK (.int 4)) (fun ps => .ok [] ps))))
noncomputable def d9 : PSt → Os := (fSet 12 (fLc (fSeqI (fN 8)) (uN 14) (fTest (fBin dNe (fun ps => ((fLc (fSeqI (fN 14)) (uN 17) (fTest (fun ps => ((fCall 3 M_are_near (fCons (fN 17) (fCons (fN 11) (fCons (fN 4) (fun ps => .ok [] ps))))) ps).map PV.data)) (fN 17) [17]) ps).map PV.data) (fun ps => ((fLst (fun ps => .ok [] ps)) ps).map PV.data))) (fN 14) [14]))
noncomputable def d10 : PSt → Os := (fSet 13 (fLst (fCons (fN 11) (fun ps => .ok [] ps))))
noncomputable def d11 : PSt → Os := (fFor (fSeqI (fN 12)) (uN 14) (fSet 13 (fBinO dCatL (fN 13) (fun ps => ((fAppO dList (fCons (fN 14) (fun ps => .ok [] ps))) ps).map PV.data))))
noncomputable def d12 : PSt → Os := (fSet 15 (fCall 1 M__law_set (fCons (fun ps => ((fBinO dCatL (fun ps => ((fLc (fSeqI (fN 8)) (uN 14) (fTest (fBinSS dNotInA 14 12)) (fN 14) [14]) ps).map PV.data) (fun ps => ((fLst (fCons (fun ps => ((fCall 1 M__law_set (fCons (fN 13) (fun ps => .ok [] ps))) ps).map PV.data) (fun ps => .ok [] ps))) ps).map PV.data)) ps).map PV.data) (fun ps => .ok [] ps))))
noncomputable def d13 : PSt → Os := (fIfS (fNot (fTest (fun ps => ((fCall 2 M__law_same (fCons (fun ps => ((fCall 2 M_lots_near (fCons (fApp dTuple (fCons (fun ps => ((fBinO dCatL (fN 2) (fun ps => ((fLst (fCons (fN 11) (fun ps => .ok [] ps))) ps).map PV.data)) ps).map PV.data) (fun ps => .ok [] ps))) (fCons (fN 4) (fun ps => .ok [] ps)))) ps).map PV.data) (fCons (fN 15) (fun ps => .ok [] ps)))) ps).map PV.data))) (fRet (fun ps => ((fK (.bool false)) ps).map PV.val)) fSkip)
noncomputable def dAll' : PSt → Os := (fSeq d1 (fSeq d2 (fSeq d3 (fSeq d4 (fSeq d5 (fSeq d6 (fSeq d7 (fSeq d8 (fSeq d9 (fSeq d10 (fSeq d11 (fSeq d12 d13))))))))))))
noncomputable def c5 : PSt → Os := fFor (fRange1 (fCons (fK (.int 8)) (fun ps => .ok [] ps))) (uN 4) dAll'
theorem law_split : b_law = (fSeq c1 (fSeq c2 (fSeq c3 (fSeq c4 (fSeq c5 (fSeq c6 (fSeq c7 (fSeq c8 (fSeq c9 c10))))))))) := rfl
structure HS (S : List (List Int)) (j : Int) : Prop where
  v : ∀ x ∈ S, Vp x ∧ x.length ≤ 6
  ne : S ≠ []
  z : S.length ≤ 10
  j : 0 ≤ j
theorem HS.V {S : List (List Int)} {j : Int} (h : HS S j) : ∀ x ∈ S, Vp x := fun x m => (h.v x m).1
theorem Vp.app {x y : List Int} (h : Vp x) (g : Vp y) (hz : x.length + y.length ≤ 1000) : Vp (x ++ y) := ⟨fun i m => (List.mem_append.mp m).elim (h.1 i) (g.1 i), by simpa using hz⟩
theorem t_tupQ {S : List (List Int)} (hv : ∀ x ∈ S, Vp x) (hz : S.length ≤ 1000) : M_tuple_of [eQ S] = .ok (.val (eQ S)) := t_tuple_of (Vps hv hz) (by have := tyQ.dp S; omega) (tup_ni (tyQ.ni _))
theorem t_tupQl {S : List (List Int)} (hv : ∀ x ∈ S, Vp x) (hz : S.length ≤ 1000) : M_tuple_of [lis (eQ S)] = .ok (.val (eQ S)) := by
  have q := sz_lis (Vps hv hz)
  exact t_tuple_of q.1 (by rw [q.2]; have := tyQ.dp S; omega) (tup_lis (tyQ.ni _))
theorem lis_list (ds : List PyData) : lis (.list ds) = lis (.tuple ds) := by simp only [lis]
theorem t_listsQ {S : List (List Int)} (hv : ∀ x ∈ S, Vp x) (hz : S.length ≤ 1000) : M__law_lists [.list (S.map eP)] = .ok (.val (lis (eQ S))) := by
  have q : sz (.list (S.map eP)) = true := by have := Vps hv hz; simpa [sz] using this
  have d : (PyData.list (S.map eP)).depth = (eQ S).depth := by simp [PyData.depth]
  exact t_lists q (by rw [d]; have := tyQ.dp S; omega) (lis_list _)
theorem lots_len {S : List (List Int)} {j : Int} : (lotsP j S).length ≤ S.length ∧ ∀ l ∈ lotsP j S, l.length ≤ S.length ∧ l.Nodup ∧ ∀ x ∈ l, x ∈ S := by
  constructor
  · have := Lt.sub_length (tyQ.srt.nd _) (m := S.map (Lt.cls (srt eP) (near j) S)) fun l hl => (tyQ.srt.mem _ l).mp hl
    rw [List.length_map] at this
    exact this
  · intro l hl
    obtain ⟨x, hx, rfl⟩ := (Lt.mem_lots tyQ.srt).mp hl
    have sub : ∀ y ∈ Lt.cls (srt eP) (near j) S x, y ∈ S := fun y hy => ((Lt.mem_cls tyP.srt).mp hy).1
    have nd : (Lt.cls (srt eP) (near j) S x).Nodup := tyP.srt.nd _
    exact ⟨Lt.sub_length nd sub, nd, sub⟩
theorem sz_R {L : List (List (List Int))} (h1 : L.length ≤ 1000) (h2 : ∀ l ∈ L, l.length ≤ 1000 ∧ ∀ x ∈ l, Vp x) : sz (eR L) = true := by
  have : szAll (L.map eQ) = true := szAll_of fun d m => by
    obtain ⟨x, hx, rfl⟩ := List.mem_map.mp m
    exact Vps (h2 x hx).2 (h2 x hx).1
  simp only [sz, this, Bool.and_true, decide_eq_true_eq]
  simpa using h1
theorem sz_lots {S : List (List Int)} {j : Int} (hv : ∀ x ∈ S, Vp x) (hz : S.length ≤ 1000) : sz (eR (lotsP j S)) = true := by
  have q := lots_len (S := S) (j := j)
  exact sz_R (by omega) fun l hl => ⟨by have := (q.2 l hl).1; omega, fun x hx => hv x ((q.2 l hl).2.2 x hx)⟩
theorem t_sameR {A B : List (List (List Int))} (h : sz (eR A) = true) (e : A = B) : M__law_same [eR A, eR B] = .ok (.val (.bool true)) := t_same h (by have := tyR.dp A; omega) (by rw [e])
theorem t_near {x y : List Int} {n : Int} (hx : Vp x) (hy : Vp y) (hn : 0 ≤ n) : M_are_near [eP x, eP y, .int n] = .ok (.val (.bool (decide (near n x y)))) := by
  have e : decide (((lgA x y).length : Int) + (lgB x y).length ≤ n) = decide (near n x y) := decide_eq_decide.mpr (by
    show _ ↔ ((((lgA x y).length + (lgB x y).length : Nat) : Int) ≤ n)
    simp)
  rw [t_are_near hx hy hn, e]
theorem t_d1 {o9 o10 o11 o12 o13 o14 o15 P3 : Option PV} {sc : PyData} {u : List PyData} {j : Int} {S : List (List Int)} {o8 : Option PV} {P2 : PV} (h : HS S j) (hp : P2 = .own (.list (S.map eP)) ∨ P2 = .val (.list (S.map eP))) : Es d1 [some (.val sc), some (.own (.list u)), some P2, P3, some (.val (.int j)), none, none, none, o8, o9, o10, o11, o12, o13, o14, o15, none, none, none, none] (.nx [some (.val sc), some (.own (.list u)), some (.val (.list (S.map eP))), P3, some (.val (.int j)), none, none, none, some (.val (eR (lotsP j S))), o9, o10, o11, o12, o13, o14, o15, none, none, none, none]) := by
  have z := h.z
  have key := t_lots_near (d := eQ S) (n := j) (t_tupQ h.V (by omega)) h.V h.ne (by omega) h.j
  unfold d1
  rcases hp with rfl | rfl
  · exact es_setS (ev_callE (ev_cons (ev_app (ev_cons (ev_NoS rfl rfl) ev_nil) dTuple_l) (ev_cons (ev_N rfl) ev_nil)) rfl key) rfl
  · exact es_setS (ev_callE (ev_cons (ev_app (ev_cons (ev_N rfl) ev_nil) dTuple_l) (ev_cons (ev_N rfl) ev_nil)) rfl key) rfl
theorem t_d2 {o9 o10 o11 o12 o13 o14 o15 P3 : Option PV} {sc : PyData} {u : List PyData} {j : Int} {S : List (List Int)}  (h : HS S j) : Es d2 [some (.val sc), some (.own (.list u)), some (.val (.list (S.map eP))), P3, some (.val (.int j)), none, none, none, some (.val (eR (lotsP j S))), o9, o10, o11, o12, o13, o14, o15, none, none, none, none] (.nx [some (.val sc), some (.own (.list u)), some (.val (.list (S.map eP))), P3, some (.val (.int j)), none, none, none, some (.val (eR (lotsP j S))), o9, o10, o11, o12, o13, o14, o15, none, none, none, none]) := by
  have z := h.z
  unfold d2
  have hr : ∀ x ∈ S.reverse, Vp x := fun x m => h.V x (List.mem_reverse.mp m)
  have e1 : lotsP j S.reverse = (lotsP j S) := Lt.lots_ext tyP.srt tyQ.srt fun a => List.mem_reverse
  have key := t_lots_near (d := lis (eQ S.reverse)) (n := j) (t_tupQl hr (by simp; omega)) hr (by simpa using h.ne) (by simp; omega) h.j
  rw [e1] at key
  have hl : M__law_lists [.list (S.map eP).reverse] = .ok (.val (lis (eQ S.reverse))) := by rw [← List.map_reverse]; exact t_listsQ hr (by simp; omega)
  have same : M__law_same [.list [eR (lotsP j S), eR (lotsP j S)], .list (List.replicate (2 : Int).toNat [eR (lotsP j S)]).flatten] = .ok (.val (.bool true)) := by
    have q := sz_lots (j := j) h.V (by omega)
    have dp := tyR.dp (lotsP j S)
    refine t_same ?_ ?_ rfl
    · simp only [sz, szAll] at q ⊢
      simp only [q, List.length_cons, List.length_nil]; rfl
    · simp only [PyData.depth, PyData.depthAll] at dp ⊢
      omega
  refine es_ifF (ev_notE (k := true) (ev_test (ev_dataE (ev_callE (ev_cons (ev_dataE (ev_lstE (ev_cons (ev_N rfl) (ev_cons (ev_dataE (ev_callE (ev_cons (ev_dataE (ev_callE (ev_cons (ev_dataE (ev_rev (ev_N rfl)) rfl) ev_nil) rfl hl) rfl) (ev_cons (ev_N rfl) ev_nil)) rfl key) rfl) ev_nil)) (by simp)) rfl) (ev_cons (ev_dataE (ev_rep (ev_lstE (ev_cons (ev_dataE (ev_callE (ev_cons (ev_N rfl) (ev_cons (ev_N rfl) ev_nil)) rfl (t_law_lots (by omega))) rfl) ev_nil) (by simp)) ev_K (by simp)) rfl) ev_nil)) rfl same) rfl)) rfl) es_skip
theorem t_d3n {o9 o10 o11 o12 o13 o14 o15 : Option PV} {sc : PyData} {u : List PyData} {j : Int} {S : List (List Int)} (h : HS S j) : Es d3 [some (.val sc), some (.own (.list u)), some (.val (.list (S.map eP))), some (.val .none), some (.val (.int j)), none, none, none, some (.val (eR (lotsP j S))), o9, o10, o11, o12, o13, o14, o15, none, none, none, none] (.nx [some (.val sc), some (.own (.list u)), some (.val (.list (S.map eP))), some (.val .none), some (.val (.int j)), none, none, none, some (.val (eR (lotsP j S))), o9, o10, o11, o12, o13, o14, o15, none, none, none, none]) := by
  unfold d3
  exact es_ifF (ev_andF (ev_test (ev_binS (look_val rfl) ev_K (look_val rfl) rfl))) es_skip
theorem t_d3 {o9 o10 o11 o12 o13 o14 o15 : Option PV} {sc : PyData} {u : List PyData} {j : Int} {S : List (List Int)} {L0 : List (List (List Int))} (h : HS S j) (hm : ∀ l ∈ L0, ∃ m ∈ (lotsP j S), ∀ a ∈ l, a ∈ m) (hz0 : L0.length ≤ 1000) (hz1 : ∀ l ∈ L0, l.length ≤ 1000) : Es d3 [some (.val sc), some (.own (.list u)), some (.val (.list (S.map eP))), some (.val (eR L0)), some (.val (.int j)), none, none, none, some (.val (eR (lotsP j S))), o9, o10, o11, o12, o13, o14, o15, none, none, none, none] (.nx [some (.val sc), some (.own (.list u)), some (.val (.list (S.map eP))), some (.val (eR L0)), some (.val (.int j)), none, none, none, some (.val (eR (lotsP j S))), o9, o10, o11, o12, o13, keepV (some o14), o15, none, none, none, none]) := by
  have z := h.z
  unfold d3
  have q := lots_len (S := S) (j := j)
  have fin : (L0.filter fun l => ((lotsP j S).filter fun m => (l.filter fun a => !decide (a ∈ m)).isEmpty).isEmpty) = [] := by
    rw [List.filter_eq_nil_iff]
    intro l hl e
    obtain ⟨m, mL, hs⟩ := hm l hl
    have : m ∈ (lotsP j S).filter fun m => (l.filter fun a => !decide (a ∈ m)).isEmpty := by
      refine List.mem_filter.mpr ⟨mL, ?_⟩
      rw [List.isEmpty_iff, List.filter_eq_nil_iff]
      intro a ha
      simp [hs a ha]
    rw [List.isEmpty_iff.mp e] at this
    cases this
  refine es_ifF (ev_to (ev_and (k := true) (l := false) (ev_test (ev_binS (look_val rfl) ev_K (look_val rfl) rfl)) (fun _ => ev_test (ev_bin (ev_dataE (ev_lcS (es := (L0.filter fun l => ((lotsP j S).filter fun m => (l.filter fun a => !decide (a ∈ m)).isEmpty).isEmpty).map eQ) (ev_seqI (ev_N rfl) rfl) rfl (compL_keep (en := eQ) (fun l => ((lotsP j S).filter fun m => (l.filter fun a => !decide (a ∈ m)).isEmpty).isEmpty) L0 (by omega) fun l hl => ?_) rfl) rfl) (ev_dataE (ev_lstE ev_nil (by simp)) rfl) (tyQ.dNeL (by omega) (by rw [fin]; rfl)))) (fun q => by cases q)) rfl ?_) es_skip
  · refine ⟨_, et_N, ev_test (ev_bin (ev_dataE (ev_lcS (es := ((lotsP j S).filter fun m => (l.filter fun a => !decide (a ∈ m)).isEmpty).map eQ) (ev_seqI (ev_N rfl) rfl) rfl (compL_keep (en := eQ) (fun m => (l.filter fun a => !decide (a ∈ m)).isEmpty) (lotsP j S) (by omega) fun m hm => ?_) rfl) rfl) (ev_dataE (ev_lstE ev_nil (by simp)) rfl) (tyQ.dEqL (by omega) rfl)), ev_N rfl, rfl⟩
    refine ⟨_, et_N, ev_test (ev_bin (ev_dataE (ev_lcS (es := (l.filter fun a => !decide (a ∈ m)).map eP) (ev_seqI (ev_N rfl) rfl) rfl (compL_keep (en := eP) (fun a => !decide (a ∈ m)) l (by have := hz1 l hl; omega) fun a ha => ?_) rfl) rfl) (ev_dataE (ev_lstE ev_nil (by simp)) rfl) (tyP.dEqL (by omega) rfl)), ev_N rfl, rfl⟩
    exact ⟨_, et_N, ev_test (ev_binSS (look_val rfl) (look_val rfl) (tyP.dNotIn' (by omega) (.inr rfl) (by simp))), ev_N rfl, rfl⟩
  · rfl
theorem t_d4 {o9 o10 o11 o12 o13 o14 o15 P3 : Option PV} {sc : PyData} {u : List PyData} {j : Int} {S : List (List Int)}  (h : HS S j) : Es d4 [some (.val sc), some (.own (.list u)), some (.val (.list (S.map eP))), P3, some (.val (.int j)), none, none, none, some (.val (eR (lotsP j S))), o9, o10, o11, o12, o13, o14, o15, none, none, none, none] (.nx [some (.val sc), some (.own (.list u)), some (.val (.list (S.map eP))), some (.val (eR (lotsP j S))), some (.val (.int j)), none, none, none, some (.val (eR (lotsP j S))), o9, o10, o11, o12, o13, o14, o15, none, none, none, none]) := by
  have z := h.z
  unfold d4
  exact es_setS (ev_val (ev_N rfl)) rfl
theorem t_d5 {o9 o10 o11 o12 o13 o14 o15 P3 : Option PV} {sc : PyData} {u : List PyData} {j : Int} {S : List (List Int)} {hd : List Int} {u2 : List PyData} (h : HS S j) (hM : M__law_piece u [.int 3] = .ok (.val (eP hd)) u2) : Es d5 [some (.val sc), some (.own (.list u)), some (.val (.list (S.map eP))), P3, some (.val (.int j)), none, none, none, some (.val (eR (lotsP j S))), o9, o10, o11, o12, o13, o14, o15, none, none, none, none] (.nx [some (.val sc), some (.own (.list u2)), some (.val (.list (S.map eP))), P3, some (.val (.int j)), none, none, none, some (.val (eR (lotsP j S))), some (.val (eP hd)), o10, o11, o12, o13, o14, o15, none, none, none, none]) := by
  have z := h.z
  unfold d5
  exact es_setS (ev_callUE rfl (ev_cons ev_K ev_nil) rfl rfl hM rfl) rfl
theorem t_d6 {o10 o11 o12 o13 o14 o15 P3 : Option PV} {sc : PyData} {u : List PyData} {j : Int} {S : List (List Int)} {hd : List Int} (h : HS S j) (hv : Vp hd) (hl : hd.length ≤ 3) : Es d6 [some (.val sc), some (.own (.list u)), some (.val (.list (S.map eP))), P3, some (.val (.int j)), none, none, none, some (.val (eR (lotsP j S))), some (.val (eP hd)), o10, o11, o12, o13, o14, o15, none, none, none, none] (.nx [some (.val sc), some (.own (.list u)), some (.val (.list (S.map eP))), P3, some (.val (.int j)), none, none, none, some (.val (eR (lotsP j S))), some (.val (eP hd)), some (.val (eR (srt eQ ((lotsP j S).map fun l => srt eP (l.map fun x => hd ++ x))))), o11, o12, o13, keepV (some o14), o15, none, none, none, none]) := by
  have z := h.z
  unfold d6
  have q := lots_len (S := S) (j := j)
  refine es_setS (p := (.val (eR (srt eQ ((lotsP j S).map fun l => srt eP (l.map fun x => hd ++ x)))))) (ev_callE (ev_cons (ev_dataE (ev_lcS (es := ((lotsP j S).map fun l => srt eP (l.map fun x => hd ++ x)).map eQ) (ev_seqI (ev_N rfl) rfl) rfl (compL_each (en := eQ) (en' := eQ) (fun l => srt eP (l.map fun x => hd ++ x)) (lotsP j S) (by omega) fun l hl => ?_) rfl) rfl) ev_nil) rfl (t_law_set tyQ (by omega) isT_Q (.inl rfl) (by simp; omega))) rfl
  have ql := q.2 l hl
  refine ⟨_, et_N, _, ev_dataE (ev_callE (ev_cons (ev_dataE (ev_lcS (es := (l.map fun x => hd ++ x).map eP) (ev_seqI (ev_N rfl) rfl) rfl (compL_each (en := eP) (en' := eP) (fun x => hd ++ x) l (by omega) fun x hx => ?_) rfl) rfl) ev_nil) rfl (t_law_set tyP (by omega) isT_P (.inl rfl) (by simp; omega))) rfl, rfl⟩
  have v2 := (h.v x (ql.2.2 x hx)).2
  exact ⟨_, et_N, _, ev_bin (ev_N rfl) (ev_N rfl) (dAdd_P (by omega)), rfl⟩
theorem t_d7 {o11 o12 o13 o14 o15 P3 : Option PV} {sc : PyData} {u : List PyData} {j : Int} {S : List (List Int)} {hd : List Int} (h : HS S j) (hv : Vp hd) (hl : hd.length ≤ 3) : Es d7 [some (.val sc), some (.own (.list u)), some (.val (.list (S.map eP))), P3, some (.val (.int j)), none, none, none, some (.val (eR (lotsP j S))), some (.val (eP hd)), some (.val (eR (srt eQ ((lotsP j S).map fun l => srt eP (l.map fun x => hd ++ x))))), o11, o12, o13, o14, o15, none, none, none, none] (.nx [some (.val sc), some (.own (.list u)), some (.val (.list (S.map eP))), P3, some (.val (.int j)), none, none, none, some (.val (eR (lotsP j S))), some (.val (eP hd)), some (.val (eR (srt eQ ((lotsP j S).map fun l => srt eP (l.map fun x => hd ++ x))))), o11, o12, o13, o14, o15, none, none, none, none]) := by
  have z := h.z
  unfold d7
  have hV : ∀ x ∈ S.map (fun x => hd ++ x), Vp x := fun x m => by
    obtain ⟨y, my, rfl⟩ := List.mem_map.mp m
    have := (h.v y my).2
    exact hv.app (h.V y my) (by omega)
  have e : lotsP j (S.map fun x => hd ++ x) = (srt eQ ((lotsP j S).map fun l => srt eP (l.map fun x => hd ++ x))) := Lt.lots_map tyP.srt tyQ.srt (fun a b e => List.append_cancel_left e) fun a b => by unfold near; rw [dist_app]
  have key := t_lots_near (d := eQ (S.map fun x => hd ++ x)) (n := j) (t_tupQ hV (by simp; omega)) hV (by simpa using h.ne) (by simp; omega) h.j
  have same := t_sameR (sz_lots (j := j) hV (by simp; omega)) e
  refine es_ifF (ev_notE (k := true) (ev_test (ev_dataE (ev_callE (ev_cons (ev_dataE (ev_callE (ev_cons (ev_app (ev_cons (ev_dataE (ev_lcS (es := (S.map fun x => hd ++ x).map eP) (ev_seqI (ev_N rfl) rfl) rfl (compL_each (en := eP) (en' := eP) (fun x => hd ++ x) S (by omega) fun x hx => ?_) rfl) rfl) ev_nil) dTuple_l) (ev_cons (ev_N rfl) ev_nil)) rfl key) rfl) (ev_cons (ev_N rfl) ev_nil)) rfl same) rfl)) rfl) es_skip
  have v2 := (h.v x hx).2
  exact ⟨_, et_N, _, ev_bin (ev_N rfl) (ev_N rfl) (dAdd_P (by omega)), rfl⟩
theorem t_d8 {o9 o10 o11 o12 o13 o14 o15 P3 : Option PV} {sc : PyData} {u : List PyData} {j : Int} {S : List (List Int)} {nw : List Int} {u2 : List PyData} (h : HS S j) (hM : M__law_piece u [.int 4] = .ok (.val (eP nw)) u2) : Es d8 [some (.val sc), some (.own (.list u)), some (.val (.list (S.map eP))), P3, some (.val (.int j)), none, none, none, some (.val (eR (lotsP j S))), o9, o10, o11, o12, o13, o14, o15, none, none, none, none] (.nx [some (.val sc), some (.own (.list u2)), some (.val (.list (S.map eP))), P3, some (.val (.int j)), none, none, none, some (.val (eR (lotsP j S))), o9, o10, some (.val (eP nw)), o12, o13, o14, o15, none, none, none, none]) := by
  have z := h.z
  unfold d8
  exact es_setS (ev_callUE rfl (ev_cons ev_K ev_nil) rfl rfl hM rfl) rfl
theorem t_d9 {o9 o10 o12 o13 o14 o15 P3 : Option PV} {sc : PyData} {u : List PyData} {j : Int} {S : List (List Int)} {nw : List Int} (h : HS S j) (hv : Vp nw) (hl : nw.length ≤ 4) : Es d9 [some (.val sc), some (.own (.list u)), some (.val (.list (S.map eP))), P3, some (.val (.int j)), none, none, none, some (.val (eR (lotsP j S))), o9, o10, some (.val (eP nw)), o12, o13, o14, o15, none, none, none, none] (.nx [some (.val sc), some (.own (.list u)), some (.val (.list (S.map eP))), P3, some (.val (.int j)), none, none, none, some (.val (eR (lotsP j S))), o9, o10, some (.val (eP nw)), some (.own (.list (((lotsP j S).filter fun l => !(l.filter fun x => decide (near j x nw)).isEmpty).map eQ))), o13, keepV (some o14), o15, none, none, none, none]) := by
  have z := h.z
  unfold d9
  have q := lots_len (S := S) (j := j)
  refine es_setS (ev_lcS (es := ((lotsP j S).filter fun l => !(l.filter fun x => decide (near j x nw)).isEmpty).map eQ) (ev_seqI (ev_N rfl) rfl) rfl (compL_keep (en := eQ) (fun l => !(l.filter fun x => decide (near j x nw)).isEmpty) (lotsP j S) (by omega) fun l hl => ?_) rfl) rfl
  have ql := q.2 l hl
  refine ⟨_, et_N, ev_test (ev_bin (ev_dataE (ev_lcS (es := (l.filter fun x => decide (near j x nw)).map eP) (ev_seqI (ev_N rfl) rfl) rfl (compL_keep (en := eP) (fun x => decide (near j x nw)) l (by omega) fun x hx => ?_) rfl) rfl) (ev_dataE (ev_lstE ev_nil (by simp)) rfl) (tyP.dNeL (by omega) rfl)), ev_N rfl, rfl⟩
  exact ⟨_, et_N, ev_test (ev_dataE (ev_callE (ev_cons (ev_N rfl) (ev_cons (ev_N rfl) (ev_cons (ev_N rfl) ev_nil))) rfl (t_near (h.V x (ql.2.2 x hx)) hv h.j)) rfl), ev_N rfl, rfl⟩
theorem t_d10 {o9 o10 o13 o14 o15 P3 : Option PV} {sc : PyData} {u : List PyData} {j : Int} {S : List (List Int)} {nw : List Int} (h : HS S j) : Es d10 [some (.val sc), some (.own (.list u)), some (.val (.list (S.map eP))), P3, some (.val (.int j)), none, none, none, some (.val (eR (lotsP j S))), o9, o10, some (.val (eP nw)), some (.own (.list (((lotsP j S).filter fun l => !(l.filter fun x => decide (near j x nw)).isEmpty).map eQ))), o13, o14, o15, none, none, none, none] (.nx [some (.val sc), some (.own (.list u)), some (.val (.list (S.map eP))), P3, some (.val (.int j)), none, none, none, some (.val (eR (lotsP j S))), o9, o10, some (.val (eP nw)), some (.own (.list (((lotsP j S).filter fun l => !(l.filter fun x => decide (near j x nw)).isEmpty).map eQ))), some (.own (.list ([nw].map eP))), o14, o15, none, none, none, none]) := by
  have z := h.z
  unfold d10
  exact es_setS (ev_lstE (ev_cons (ev_N rfl) ev_nil) (by simp)) rfl
theorem t_flat {o8 o9 o10 o11 o15 P3 : Option PV} {sc : PyData} {u : List PyData} {j : Int} {S : List (List Int)} {X12 : Option PV} : ∀ (K : List (List (List Int))) (f : List (List Int)) (o14 : Option PV), f.length + K.flatten.length ≤ 1000 → (∀ l ∈ K, l.length ≤ 1000) → ∃ o14', forL (uN 14) (fSet 13 (fBinO dCatL (fN 13) (fun ps => ((fAppO dList (fCons (fN 14) (fun ps => .ok [] ps))) ps).map PV.data))) (K.map eQ) [some (.val sc), some (.own (.list u)), some (.val (.list (S.map eP))), P3, some (.val (.int j)), none, none, none, o8, o9, o10, o11, X12, some (.own (.list (f.map eP))), o14, o15, none, none, none, none] = .nx [some (.val sc), some (.own (.list u)), some (.val (.list (S.map eP))), P3, some (.val (.int j)), none, none, none, o8, o9, o10, o11, X12, some (.own (.list ((f ++ K.flatten).map eP))), o14', o15, none, none, none, none] := by
  intro K
  induction K with
  | nil => intro f o14 _ _; exact ⟨o14, by simp [forL]⟩
  | cons l K ih =>
    intro f o14 hz hk
    have e : f ++ (l :: K).flatten = (f ++ l) ++ K.flatten := by simp
    simp only [List.flatten_cons, List.length_append] at hz
    obtain ⟨o', q⟩ := ih (f ++ l) (some (.val (eQ l))) (by simp only [List.length_append]; omega) fun m hm => hk m (List.mem_cons_of_mem _ hm)
    refine ⟨o', ?_⟩
    rw [e, List.map_cons]
    refine forL_cons (ps1 := [some (.val sc), some (.own (.list u)), some (.val (.list (S.map eP))), P3, some (.val (.int j)), none, none, none, o8, o9, o10, o11, X12, some (.own (.list (f.map eP))), some (.val (eQ l)), o15, none, none, none, none]) rfl ?_ q
    refine es_setS (p := .own (.list ((f ++ l).map eP))) (ev_to (ev_binO (ev_NoS rfl rfl) (ev_dataE (ev_appO (ev_cons (ev_N rfl) ev_nil) dList_t) rfl) (dCatL_l ?_)) ?_ rfl) rfl
    · simp only [List.length_map]; omega
    · rw [List.map_append]
theorem flat_len {S : List (List Int)} {j : Int} {K : List (List (List Int))} (hK : ∀ l ∈ K, l ∈ lotsP j S) : K.flatten.length ≤ K.length * S.length := by
  induction K with
  | nil => simp
  | cons l K ih =>
    have q := (lots_len (S := S) (j := j)).2 l (hK l List.mem_cons_self)
    have := ih fun m hm => hK m (List.mem_cons_of_mem _ hm)
    simp only [List.flatten_cons, List.length_append, List.length_cons, Nat.add_mul]
    omega
theorem J_len {S : List (List Int)} {j : Int} {nw : List Int} (hz : S.length ≤ 10) : ((lotsP j S).filter fun l => !(l.filter fun x => decide (near j x nw)).isEmpty).length ≤ 10 ∧ ((lotsP j S).filter fun l => !(l.filter fun x => decide (near j x nw)).isEmpty).flatten.length ≤ 100 := by
  have q := lots_len (S := S) (j := j)
  have a := List.length_filter_le (fun l => !(l.filter fun x => decide (near j x nw)).isEmpty) (lotsP j S)
  have b := flat_len (S := S) (j := j) (K := ((lotsP j S).filter fun l => !(l.filter fun x => decide (near j x nw)).isEmpty)) fun l hl => (List.mem_filter.mp hl).1
  have c : ((lotsP j S).filter fun l => !(l.filter fun x => decide (near j x nw)).isEmpty).length * S.length ≤ 10 * 10 := Nat.mul_le_mul (by omega) hz
  exact ⟨by omega, by omega⟩
theorem t_d11 {o9 o10 o14 o15 P3 : Option PV} {sc : PyData} {u : List PyData} {j : Int} {S : List (List Int)} {nw : List Int} (h : HS S j) : ∃ o14', Es d11 [some (.val sc), some (.own (.list u)), some (.val (.list (S.map eP))), P3, some (.val (.int j)), none, none, none, some (.val (eR (lotsP j S))), o9, o10, some (.val (eP nw)), some (.own (.list (((lotsP j S).filter fun l => !(l.filter fun x => decide (near j x nw)).isEmpty).map eQ))), some (.own (.list ([nw].map eP))), o14, o15, none, none, none, none] (.nx [some (.val sc), some (.own (.list u)), some (.val (.list (S.map eP))), P3, some (.val (.int j)), none, none, none, some (.val (eR (lotsP j S))), o9, o10, some (.val (eP nw)), some (.val (.list (((lotsP j S).filter fun l => !(l.filter fun x => decide (near j x nw)).isEmpty).map eQ))), some (.own (.list (([nw] ++ ((lotsP j S).filter fun l => !(l.filter fun x => decide (near j x nw)).isEmpty).flatten).map eP))), o14', o15, none, none, none, none]) := by
  have jl := J_len (j := j) (nw := nw) h.z
  have z := h.z
  have q := lots_len (S := S) (j := j)
  obtain ⟨o', e⟩ := t_flat (o8 := some (.val (eR (lotsP j S)))) (o9 := o9) (o10 := o10) (o11 := some (.val (eP nw))) (o15 := o15) (P3 := P3) (sc := sc) (u := u) (j := j) (S := S) (X12 := some (.val (.list (((lotsP j S).filter fun l => !(l.filter fun x => decide (near j x nw)).isEmpty).map eQ)))) ((lotsP j S).filter fun l => !(l.filter fun x => decide (near j x nw)).isEmpty) [nw] o14 (by simp only [List.length_cons, List.length_nil]; omega) fun l hl => by
    have := (q.2 l (List.mem_filter.mp hl).1).1
    omega
  refine ⟨o', ?_⟩
  unfold d11
  exact es_for (ev_seqI (ev_NoS rfl rfl) rfl) e
theorem F_len {S : List (List Int)} {j : Int} {nw : List Int} (hz : S.length ≤ 10) (hd : ∀ l ∈ ((lotsP j S).filter fun l => !(l.filter fun x => decide (near j x nw)).isEmpty), ∀ m ∈ ((lotsP j S).filter fun l => !(l.filter fun x => decide (near j x nw)).isEmpty), l ≠ m → ∀ x ∈ l, x ∉ m) : ([nw] ++ ((lotsP j S).filter fun l => !(l.filter fun x => decide (near j x nw)).isEmpty).flatten).length < 64 := by
  have nd : ((lotsP j S).filter fun l => !(l.filter fun x => decide (near j x nw)).isEmpty).flatten.Nodup := by
    unfold List.Nodup
    rw [List.pairwise_flatten]
    refine ⟨fun l hl => ((lots_len (S := S) (j := j)).2 l (List.mem_filter.mp hl).1).2.1, ?_⟩
    have n1 : ((lotsP j S).filter fun l => !(l.filter fun x => decide (near j x nw)).isEmpty).Nodup := (tyQ.srt.nd _).filter _
    refine List.Pairwise.imp_of_mem (fun {a b} ha hb ne => ?_) n1
    intro x hx y hy e
    exact hd a ha b hb ne x hx (e ▸ hy)
  have sub := Lt.sub_length nd (m := S) fun x hx => by
    obtain ⟨l, hl, hx⟩ := List.mem_flatten.mp hx
    exact ((lots_len (S := S) (j := j)).2 l (List.mem_filter.mp hl).1).2.2 x hx
  simp only [List.length_append, List.length_cons, List.length_nil]
  omega
theorem lots_apart {S : List (List Int)} {j : Int} {l m : List (List Int)} (hl : l ∈ lotsP j S) (hm : m ∈ lotsP j S) (ne : l ≠ m) : ∀ x ∈ l, x ∉ m := by
  intro x hx hy
  obtain ⟨a, ha, rfl⟩ := (Lt.mem_lots tyQ.srt).mp hl
  obtain ⟨b, hb, rfl⟩ := (Lt.mem_lots tyQ.srt).mp hm
  have c1 := ((Lt.mem_cls tyP.srt).mp hx).2
  have c2 := ((Lt.mem_cls tyP.srt).mp hy).2
  exact ne (Lt.cls_eq tyP.srt near_symm ha c1 |>.trans (Lt.cls_eq tyP.srt near_symm hb c2).symm)
theorem t_d12 {o9 o10 o14 o15 P3 : Option PV} {sc : PyData} {u : List PyData} {j : Int} {S : List (List Int)} {nw : List Int} (h : HS S j) : Es d12 [some (.val sc), some (.own (.list u)), some (.val (.list (S.map eP))), P3, some (.val (.int j)), none, none, none, some (.val (eR (lotsP j S))), o9, o10, some (.val (eP nw)), some (.val (.list (((lotsP j S).filter fun l => !(l.filter fun x => decide (near j x nw)).isEmpty).map eQ))), some (.own (.list (([nw] ++ ((lotsP j S).filter fun l => !(l.filter fun x => decide (near j x nw)).isEmpty).flatten).map eP))), o14, o15, none, none, none, none] (.nx [some (.val sc), some (.own (.list u)), some (.val (.list (S.map eP))), P3, some (.val (.int j)), none, none, none, some (.val (eR (lotsP j S))), o9, o10, some (.val (eP nw)), some (.val (.list (((lotsP j S).filter fun l => !(l.filter fun x => decide (near j x nw)).isEmpty).map eQ))), some (.val (.list (([nw] ++ ((lotsP j S).filter fun l => !(l.filter fun x => decide (near j x nw)).isEmpty).flatten).map eP))), keepV (some o14), some (.val (eR (srt eQ (((lotsP j S).filter fun l => !decide (l ∈ ((lotsP j S).filter fun l => !(l.filter fun x => decide (near j x nw)).isEmpty))) ++ [srt eP ([nw] ++ ((lotsP j S).filter fun l => !(l.filter fun x => decide (near j x nw)).isEmpty).flatten)])))), none, none, none, none]) := by
  have z := h.z
  unfold d12
  have q := lots_len (S := S) (j := j)
  have fz := F_len (j := j) (nw := nw) z fun l hl m hm ne => lots_apart (List.mem_filter.mp hl).1 (List.mem_filter.mp hm).1 ne
  have a := List.length_filter_le (fun l => !decide (l ∈ ((lotsP j S).filter fun l => !(l.filter fun x => decide (near j x nw)).isEmpty))) (lotsP j S)
  refine es_setS (p := (.val (eR (srt eQ (((lotsP j S).filter fun l => !decide (l ∈ ((lotsP j S).filter fun l => !(l.filter fun x => decide (near j x nw)).isEmpty))) ++ [srt eP ([nw] ++ ((lotsP j S).filter fun l => !(l.filter fun x => decide (near j x nw)).isEmpty).flatten)]))))) (ev_callE (ds := [.list ((((lotsP j S).filter fun l => !decide (l ∈ ((lotsP j S).filter fun l => !(l.filter fun x => decide (near j x nw)).isEmpty))) ++ [srt eP ([nw] ++ ((lotsP j S).filter fun l => !(l.filter fun x => decide (near j x nw)).isEmpty).flatten)]).map eQ)]) (ev_cons (ev_dataE (ev_binO (ev_dataE (ev_lcS (es := ((lotsP j S).filter fun l => !decide (l ∈ ((lotsP j S).filter fun l => !(l.filter fun x => decide (near j x nw)).isEmpty))).map eQ) (ev_seqI (ev_N rfl) rfl) rfl (compL_keep (en := eQ) (fun l => !decide (l ∈ ((lotsP j S).filter fun l => !(l.filter fun x => decide (near j x nw)).isEmpty))) (lotsP j S) (by omega) fun l hl => ?_) rfl) rfl) (ev_dataE (ev_lstE (ev_cons (ev_dataE (ev_callE (ev_cons (ev_NoS rfl rfl) ev_nil) rfl (t_law_set tyP (by omega) isT_P (l := ([nw] ++ ((lotsP j S).filter fun l => !(l.filter fun x => decide (near j x nw)).isEmpty).flatten)) (.inl rfl) fz)) rfl) ev_nil) (by simp)) rfl) (dCatL_l (by simp only [List.length_map, List.length_cons, List.length_nil]; omega))) ?_) ev_nil) rfl (t_law_set tyQ (by omega) isT_Q (.inl rfl) (by simp only [List.length_append, List.length_cons, List.length_nil]; omega))) rfl
  · exact ⟨_, et_N, ev_test (ev_binSS (look_val rfl) (look_val rfl) (tyQ.dNotIn' (by omega) (.inl rfl) (by simp only [Bool.not_eq_true', decide_eq_false_iff_not]))), ev_N rfl, rfl⟩
  · rw [List.map_append]; rfl
theorem t_d13 {o9 o10 o14 P3 : Option PV} {sc : PyData} {u : List PyData} {j : Int} {S : List (List Int)} {nw : List Int} (h : HS S j) (hv : Vp nw) (hl : nw.length ≤ 4) : Es d13 [some (.val sc), some (.own (.list u)), some (.val (.list (S.map eP))), P3, some (.val (.int j)), none, none, none, some (.val (eR (lotsP j S))), o9, o10, some (.val (eP nw)), some (.val (.list (((lotsP j S).filter fun l => !(l.filter fun x => decide (near j x nw)).isEmpty).map eQ))), some (.val (.list (([nw] ++ ((lotsP j S).filter fun l => !(l.filter fun x => decide (near j x nw)).isEmpty).flatten).map eP))), o14, some (.val (eR (srt eQ (((lotsP j S).filter fun l => !decide (l ∈ ((lotsP j S).filter fun l => !(l.filter fun x => decide (near j x nw)).isEmpty))) ++ [srt eP ([nw] ++ ((lotsP j S).filter fun l => !(l.filter fun x => decide (near j x nw)).isEmpty).flatten)])))), none, none, none, none] (.nx [some (.val sc), some (.own (.list u)), some (.val (.list (S.map eP))), P3, some (.val (.int j)), none, none, none, some (.val (eR (lotsP j S))), o9, o10, some (.val (eP nw)), some (.val (.list (((lotsP j S).filter fun l => !(l.filter fun x => decide (near j x nw)).isEmpty).map eQ))), some (.val (.list (([nw] ++ ((lotsP j S).filter fun l => !(l.filter fun x => decide (near j x nw)).isEmpty).flatten).map eP))), o14, some (.val (eR (srt eQ (((lotsP j S).filter fun l => !decide (l ∈ ((lotsP j S).filter fun l => !(l.filter fun x => decide (near j x nw)).isEmpty))) ++ [srt eP ([nw] ++ ((lotsP j S).filter fun l => !(l.filter fun x => decide (near j x nw)).isEmpty).flatten)])))), none, none, none, none]) := by
  have z := h.z
  unfold d13
  have hV : ∀ x ∈ S ++ [nw], Vp x := fun x m => by
    rcases List.mem_append.mp m with q | q
    · exact h.V x q
    · rw [List.mem_singleton.mp q]; exact hv
  have e : (srt eQ (((lotsP j S).filter fun l => !decide (l ∈ ((lotsP j S).filter fun l => !(l.filter fun x => decide (near j x nw)).isEmpty))) ++ [srt eP ([nw] ++ ((lotsP j S).filter fun l => !(l.filter fun x => decide (near j x nw)).isEmpty).flatten)])) = lotsP j (S ++ [nw]) := by
    refine Lt.lots_join (J := ((lotsP j S).filter fun l => !(l.filter fun x => decide (near j x nw)).isEmpty)) (Fl := ([nw] ++ ((lotsP j S).filter fun l => !(l.filter fun x => decide (near j x nw)).isEmpty).flatten)) tyP.srt tyQ.srt near_symm (by unfold near; rw [dist_self]; exact h.j) (fun l => ?_) (fun a => ?_) (fun l => ?_)
    · rw [List.mem_filter, Bool.not_eq_true', List.isEmpty_eq_false_iff_exists_mem]
      refine and_congr_right fun _ => ⟨fun ⟨f, hf⟩ => ⟨f, (List.mem_filter.mp hf).1, of_decide_eq_true (List.mem_filter.mp hf).2⟩, fun ⟨f, h1, h2⟩ => ⟨f, List.mem_filter.mpr ⟨h1, decide_eq_true h2⟩⟩⟩
    · rw [List.mem_append, List.mem_singleton, List.mem_flatten]
    · rw [List.mem_append, List.mem_singleton]
      refine or_congr ?_ Iff.rfl
      rw [List.mem_filter]
      simp only [Bool.not_eq_true', decide_eq_false_iff_not]
  have key := t_lots_near (d := eQ (S ++ [nw])) (n := j) (t_tupQ hV (by simp; omega)) hV (by simp) (by simp; omega) h.j
  have same := t_sameR (sz_lots (j := j) hV (by simp; omega)) e.symm
  refine es_ifF (ev_notE (k := true) (ev_test (ev_dataE (ev_callE (ev_cons (ev_dataE (ev_callE (ds := [eQ (S ++ [nw]), .int j]) (ev_cons (ev_app (ds := [.list ((S ++ [nw]).map eP)]) (ev_cons (ev_dataE (ev_binO (ev_N rfl) (ev_dataE (ev_lstE (ev_cons (ev_N rfl) ev_nil) (by simp)) rfl) (dCatL_l (by simp; omega))) ?_) ev_nil) dTuple_l) (ev_cons (ev_N rfl) ev_nil)) rfl key) rfl) (ev_cons (ev_N rfl) ev_nil)) rfl same) rfl)) rfl) es_skip
  rw [List.map_append]; rfl
end TT

namespace TT
open PySem PySem.Spec L2 GL GT
open PyProof.Rows hiding St
local macro_rules | `(tactic| infer_instance) => `(tactic| first
  | (with_reducible apply es_seqS)
  | (with_reducible apply es_setS)
  | (with_reducible apply es_seqA)
  | (with_reducible apply es_seqE)
  | (with_reducible apply es_ret)
  | (with_reducible apply es_expr)
  | (with_reducible apply es_asg)
  | (with_reducible exact es_skip)
  | (with_reducible exact ev_K)
  | (with_reducible exact ev_nil)
  | ((with_reducible apply ev_nilE); exact rfl)
  | ((with_reducible apply ev_KE); exact rfl)
  | (with_reducible exact ev_cYes)
  | (with_reducible exact ev_partN)
  | (with_reducible apply ev_cons)
  | ((with_reducible apply ev_N); exact rfl)
  | ((with_reducible apply ev_MvS); exact rfl)
  | ((with_reducible apply ev_NoS); exact rfl)
  | (with_reducible apply ev_dataE)
  | (with_reducible apply ev_val)
  | (with_reducible apply ev_bin)
  | (with_reducible apply ev_un)
  | ((with_reducible apply ev_binS))
  | ((with_reducible apply ev_ixS))
  | ((with_reducible apply ev_lenS))
  | (with_reducible apply ev_test)
  | (with_reducible apply ev_notE)
  | (with_reducible apply ev_notVE)
  | (with_reducible apply ev_tupE)
  | (with_reducible apply ev_lstE)
  | (with_reducible apply ev_app)
  | (with_reducible apply ev_appO)
  | (with_reducible apply ev_isi)
  | (with_reducible apply ev_callE)
  | ((with_reducible apply ev_callUE); exact rfl)
  | (with_reducible apply ev_partS)
  | (with_reducible apply ev_seqI)
  | (with_reducible apply ev_lcS)
  | (with_reducible apply et_NS)
  | (with_reducible exact ets_nil)
  | ((with_reducible apply et_TE); exact rfl)
  | ((with_reducible apply et_LE); exact rfl)
  | focus ((with_reducible show List.length _ = _); exact rfl)
  | focus ((with_reducible show List.length (α := PyData) _ ≤ 1000); (simp only [List.length_cons, List.length_nil]; omega))
  | (with_reducible apply ets_cons)
  | (with_reducible apply dAdd_iE)
  | (with_reducible apply dSub_iE)
  | (with_reducible apply dLt_iE)
  | (with_reducible apply dGt_iE)
  | (with_reducible apply dLe_iE)
  | (with_reducible apply dGe_iE)
  | (with_reducible apply dEq_iE)
  | (with_reducible apply dNe_iE)
  | (with_reducible apply dEq_bE)
  | (with_reducible apply dNe_bE)
  | (with_reducible apply dLen_lE)
  | (with_reducible apply dLen_tE)
  | (with_reducible exact dAbs_i)
  | (with_reducible exact dInt_i)
  | (with_reducible exact dInt_b)
  | (with_reducible exact dTuple_l)
  | (with_reducible exact dTuple_t)
  | focus ((with_reducible show dTuple _ = _); exact rfl)
  | (with_reducible exact dList_l)
  | (with_reducible exact dList_t)
  | (with_reducible exact dMin2_i)
  | (with_reducible exact dMax2_i)
  | focus ((with_reducible show _ = some (some _)); exact rfl)
  | (with_reducible exact data_val)
  | (with_reducible exact data_own)
  | focus ((with_reducible show (!_) = _); exact rfl)
  | ((with_reducible apply look_val); exact rfl)
  | ((with_reducible apply look_own); exact rfl)
  | focus ((with_reducible show seqOf _ = _); exact rfl)
  | focus ((with_reducible show @Eq PV _ _); exact rfl)
  | focus ((with_reducible show @Eq PSt _ _); first | (focus (dsimp only [List.set, List.set_cons_succ, List.set_cons_zero, wipeP, restP, keepV, List.getElem?_cons_succ, List.getElem?_cons_zero]; try exact rfl)) | exact rfl)
  | focus ((with_reducible show isaD _ _ = _); exact rfl)
  | focus ((with_reducible show isa2 _ _ _ = _); exact rfl)
  | focus ((with_reducible show dIx _ _ = _); first | exact rfl | exact dIx_t0 rfl | exact dIx_l0 rfl)
  | focus ((with_reducible show (_ && _) = _); exact rfl)
  | focus ((with_reducible show (_ || _) = _); exact rfl)
  | (with_reducible apply dMul_iE)
  | (with_reducible apply dMod_iE)
  | (with_reducible apply dFdiv_iE)
  | (with_reducible exact (rfl : (_ : Bool) = _))
  | (with_reducible exact (rfl : (_ : Int) = _))
  | exact decide_eq_true (by omega)
  | exact decide_eq_false (by omega)
  | focus ((with_reducible show (_ : Int) = _); omega)
  | focus ((with_reducible show (_ : Int) < _); omega)
  )
local macro_rules | `(tactic| infer_instance) => `(tactic| first
  | (with_reducible apply ev_binO)
  | (with_reducible apply ev_rev)
  | (with_reducible apply ev_binSS)
  | ((with_reducible apply ev_pop); exact rfl)

  | focus ((with_reducible show ixN _ _ = _); exact rfl)
  | focus ((with_reducible show _ = some (some (PV.own _))); exact rfl)
  | focus ((with_reducible show _ ∨ _); first | (left; omega) | (right; omega))
  | focus ((with_reducible show _ ∧ _ < (1073741824 : Int)); omega)
  | focus ((with_reducible show dIs _ _ = _); exact rfl)
  | focus ((with_reducible show dIsNot _ _ = _); exact rfl)
  | (with_reducible exact decide_eq_true rfl)
  | focus ((with_reducible show decide (@Eq Bool _ _) = _); exact rfl))
local macro_rules | `(tactic| infer_instance) => `(tactic| first
  | (with_reducible apply sl_fromI)
  | (with_reducible apply sl_toI)
  | (with_reducible apply dAdd_P)
  | (with_reducible apply dEq_P)
  | (with_reducible apply dEq_P0)
  | (with_reducible apply dNe_P)
  | (with_reducible apply dNe_P0)
  | (with_reducible apply dEq_L)
  | (with_reducible apply dNe_L)
  | (with_reducible apply dLen_P)
  | (with_reducible exact t_is_number)
  | (with_reducible exact t_alike)
  | (with_reducible exact t_lag_between)
  | (with_reducible apply t_sureE)
  | (with_reducible apply t_is_piece)
  | focus ((with_reducible show Vp _); assumption)
  | (with_reducible exact (cp_le _ _).1)
  | (with_reducible exact (cp_le _ _).2))
theorem t_body {o8 o9 o10 o11 o12 o13 o14 o15 P3 : Option PV} {sc : PyData} {u : List PyData} {j : Int} {S : List (List Int)} {P2 : PV} {N : Nat} (h : HS S j) (hp : P2 = .own (.list (S.map eP)) ∨ P2 = .val (.list (S.map eP))) (hu : Urn N u) (hN : N < 2 ^ 40) (h3 : P3 = some (.val .none) ∨ ∃ i : Int, i ≤ j ∧ P3 = some (.val (eR (lotsP i S)))) :
    ∃ u' o9' o10' o11' o12' o13' o14' o15', Urn (N + 9) u' ∧ Es dAll' [some (.val sc), some (.own (.list u)), some P2, P3, some (.val (.int j)), none, none, none, o8, o9, o10, o11, o12, o13, o14, o15, none, none, none, none] (.nx [some (.val sc), some (.own (.list u')), some (.val (.list (S.map eP))), some (.val (eR (lotsP j S))), some (.val (.int j)), none, none, none, some (.val (eR (lotsP j S))), o9', o10', o11', o12', o13', o14', o15', none, none, none, none]) := by
  have z := h.z
  obtain ⟨hd, u2, hM, ⟨vh, lh⟩, hu2⟩ := t_piece (m := 3) hu (by omega) (by omega)
  obtain ⟨nw, u3, hM2, ⟨vn, ln⟩, hu3⟩ := t_piece (m := 4) hu2 (by omega) (by omega)
  obtain ⟨q14, e3⟩ : ∃ q14, Es d3 [some (.val sc), some (.own (.list u)), some (.val (.list (S.map eP))), P3, some (.val (.int j)), none, none, none, some (.val (eR (lotsP j S))), o9, o10, o11, o12, o13, o14, o15, none, none, none, none] (.nx [some (.val sc), some (.own (.list u)), some (.val (.list (S.map eP))), P3, some (.val (.int j)), none, none, none, some (.val (eR (lotsP j S))), o9, o10, o11, o12, o13, q14, o15, none, none, none, none]) := by
    rcases h3 with rfl | ⟨i, hi, rfl⟩
    · exact ⟨_, t_d3n h⟩
    · have q := lots_len (S := S) (j := i)
      refine ⟨_, t_d3 h (fun l hl => ?_) (by omega) fun l hl => by have := (q.2 l hl).1; omega⟩
      exact Lt.lots_mono tyP.srt tyQ.srt (fun a b k => Int.le_trans k hi) hl
  obtain ⟨r14, e11⟩ := t_d11 (o9 := some (.val (eP hd))) (o10 := some (.val (eR (srt eQ ((lotsP j S).map fun l => srt eP (l.map fun x => hd ++ x)))))) (o14 := keepV (some (keepV (some q14)))) (o15 := o15) (P3 := some (.val (eR (lotsP j S)))) (sc := sc) (u := u3) (nw := nw) h
  refine ⟨u3, some (.val (eP hd)), some (.val (eR (srt eQ ((lotsP j S).map fun l => srt eP (l.map fun x => hd ++ x))))), some (.val (eP nw)), some (.val (.list (((lotsP j S).filter fun l => !(l.filter fun x => decide (near j x nw)).isEmpty).map eQ))), some (.val (.list (([nw] ++ ((lotsP j S).filter fun l => !(l.filter fun x => decide (near j x nw)).isEmpty).flatten).map eP))), keepV (some r14), some (.val (eR (srt eQ (((lotsP j S).filter fun l => !decide (l ∈ ((lotsP j S).filter fun l => !(l.filter fun x => decide (near j x nw)).isEmpty))) ++ [srt eP ([nw] ++ ((lotsP j S).filter fun l => !(l.filter fun x => decide (near j x nw)).isEmpty).flatten)])))), hu3, ?_⟩
  unfold dAll'
  exact es_seq (t_d1 h hp) (es_seq (t_d2 h) (es_seq e3 (es_seq (t_d4 h) (es_seq (t_d5 h hM) (es_seq (t_d6 h vh lh) (es_seq (t_d7 h vh lh) (es_seq (t_d8 h hM2) (es_seq (t_d9 h vn ln) (es_seq (t_d10 h) (es_seq e11 (es_seq (t_d12 h) (t_d13 h vn ln))))))))))))
theorem t_loop {sc : PyData} {S : List (List Int)} (hS : (∀ x ∈ S, Vp x ∧ x.length ≤ 6) ∧ S ≠ [] ∧ S.length ≤ 10) : ∀ (n : Nat) (i : Nat) {o8 o9 o10 o11 o12 o13 o14 o15 P3 o4 : Option PV} {u : List PyData} {N : Nat}, Urn N u → N + 9 * n < 2 ^ 40 → (P3 = some (.val .none) ∨ ∃ k : Int, k ≤ i ∧ P3 = some (.val (eR (lotsP k S)))) →
    ∃ u' P3' o4' o8' o9' o10' o11' o12' o13' o14' o15', forL (uN 4) dAll' ((List.range' i n).map fun (k : Nat) => PyData.int (k : Int)) [some (.val sc), some (.own (.list u)), some (.val (.list (S.map eP))), P3, o4, none, none, none, o8, o9, o10, o11, o12, o13, o14, o15, none, none, none, none] = .nx [some (.val sc), some (.own (.list u')), some (.val (.list (S.map eP))), P3', o4', none, none, none, o8', o9', o10', o11', o12', o13', o14', o15', none, none, none, none] := by
  intro n
  induction n with
  | zero => intro i o8 o9 o10 o11 o12 o13 o14 o15 P3 o4 u N _ _ _; exact ⟨u, P3, o4, o8, o9, o10, o11, o12, o13, o14, o15, rfl⟩
  | succ n ih =>
    intro i o8 o9 o10 o11 o12 o13 o14 o15 P3 o4 u N hu hN h3
    have h : HS S (i : Int) := ⟨hS.1, hS.2.1, hS.2.2, by omega⟩
    obtain ⟨u', o9', o10', o11', o12', o13', o14', o15', hu', e⟩ := t_body (o8 := o8) (o9 := o9) (o10 := o10) (o11 := o11) (o12 := o12) (o13 := o13) (o14 := o14) (o15 := o15) (P3 := P3) (sc := sc) h (.inr rfl) hu (by omega) h3
    obtain ⟨u2, P3', p4, p8, p9, p10, p11, p12, p13, p14, p15, e2⟩ := ih (i + 1) (o4 := some (.val (.int i))) (o8 := some (.val (eR (lotsP i S)))) (o9 := o9') (o10 := o10') (o11 := o11') (o12 := o12') (o13 := o13') (o14 := o14') (o15 := o15') (P3 := some (.val (eR (lotsP i S)))) hu' (by omega) (.inr ⟨i, by omega, rfl⟩)
    refine ⟨u2, P3', p4, p8, p9, p10, p11, p12, p13, p14, p15, ?_⟩
    rw [List.range'_succ, List.map_cons]
    exact forL_cons rfl e e2
theorem t_c5 {sc : PyData} {S : List (List Int)} (hS : (∀ x ∈ S, Vp x ∧ x.length ≤ 6) ∧ S ≠ [] ∧ S.length ≤ 10) {u : List PyData} {N : Nat} (hu : Urn N u) (hN : N < 1000) :
    ∃ u' P3' o4' o8' o9' o10' o11' o12' o13' o14' o15', Es c5 [some (.val sc), some (.own (.list u)), some (.own (.list (S.map eP))), some (.val .none), none, none, none, none, none, none, none, none, none, none, none, none, none, none, none, none] (.nx [some (.val sc), some (.own (.list u')), some (.val (.list (S.map eP))), P3', o4', none, none, none, o8', o9', o10', o11', o12', o13', o14', o15', none, none, none, none]) := by
  have h : HS S (0 : Int) := ⟨hS.1, hS.2.1, hS.2.2, by omega⟩
  obtain ⟨u', o9', o10', o11', o12', o13', o14', o15', hu', e⟩ := t_body (o8 := none) (o9 := none) (o10 := none) (o11 := none) (o12 := none) (o13 := none) (o14 := none) (o15 := none) (P3 := some (.val .none)) (sc := sc) h (.inl rfl) hu (by omega) (.inl rfl)
  obtain ⟨u2, P3', p4, p8, p9, p10, p11, p12, p13, p14, p15, e2⟩ := t_loop (sc := sc) hS 7 1 (o4 := some (.val (.int 0))) (o8 := some (.val (eR (lotsP 0 S)))) (o9 := o9') (o10 := o10') (o11 := o11') (o12 := o12') (o13 := o13') (o14 := o14') (o15 := o15') (P3 := some (.val (eR (lotsP 0 S)))) hu' (by omega) (.inr ⟨0, by omega, rfl⟩)
  refine ⟨u2, P3', p4, p8, p9, p10, p11, p12, p13, p14, p15, ?_⟩
  unfold c5
  refine es_for (ev_range1 (k := 8) (ev_cons ev_K ev_nil) (by decide)) ?_
  have er : rangeD 0 (8 : Int).toNat = PyData.int 0 :: (List.range' 1 7).map fun (k : Nat) => PyData.int (k : Int) := rfl
  rw [er]
  exact forL_cons rfl e e2
theorem t_pcs {sc : PyData} : ∀ (ds : List PyData) (acc : List (List Int)) (u : List PyData) (N : Nat), Urn N u → N + 5 * ds.length < 2 ^ 40 → ds.length + acc.length ≤ 1000 → ∃ S u', compL (uN 16) cYes (fun ps => ((fCallU 1 1 M__law_piece (fCons (fK (.int 4)) (fun ps => .ok [] ps))) ps).map PV.data) [16] ds [some (.val sc), some (.own (.list u)), none, none, none, none, none, none, none, none, none, none, none, none, none, none, none, none, none, none] (acc.map eP) = .ok ((acc ++ S).map eP) [some (.val sc), some (.own (.list u')), none, none, none, none, none, none, none, none, none, none, none, none, none, none, none, none, none, none] ∧ S.length = ds.length ∧ (∀ x ∈ S, Vp x ∧ x.length ≤ 4) ∧ Urn (N + 5 * ds.length) u' := by
  intro ds
  induction ds with
  | nil => intro acc u N hu _ _; exact ⟨[], u, by simp [compL], rfl, by simp, hu⟩
  | cons d ds ih =>
    intro acc u N hu hN hl
    simp only [List.length_cons] at hN hl
    obtain ⟨p, u1, h1, hp, hu1⟩ := t_piece (m := 4) hu (by omega) (by omega)
    obtain ⟨S, u', e1, e2, e3, e4⟩ := ih (acc ++ [p]) u1 (N + 4 + 1) hu1 (by omega) (by simp; omega)
    refine ⟨p :: S, u', ?_, by simp [e2], fun x m => ?_, e4.le (by simp; omega)⟩
    · have e : acc ++ p :: S = (acc ++ [p]) ++ S := by simp
      rw [e, ← e1]
      refine compL_cons et_N ev_cYes (ps3 := [some (.val sc), some (.own (.list u1)), none, none, none, none, none, none, none, none, none, none, none, none, none, none, some (.val d), none, none, none]) (e := eP p) ?_ (by simp; omega) ?_
      · exact ev_dataE (ev_callUE rfl (ev_cons ev_K ev_nil) rfl rfl h1 rfl) rfl
      · rw [List.map_append]; rfl
    · rcases List.mem_cons.mp m with q | q
      · rw [q]; exact hp
      · exact e3 x q
theorem dIx_last {xs : List PyData} {d : PyData} (h : xs[xs.length - 1]? = some d) : dIx (.list xs) (.int (-1)) = some d := by
  have hn : xs.length - 1 < xs.length := (List.getElem?_eq_some_iff.mp h).1
  unfold dIx; dsimp only; unfold L2.atI
  have : ixN xs.length (-1) = some (xs.length - 1) := by
    unfold ixN; simp; omega
  rw [this]; exact h
theorem partA {ns : List Int} (hl : ns.length ≤ 63) : ∃ u S N, Urn N u ∧ N < 1000 ∧ ((∀ x ∈ S, Vp x ∧ x.length ≤ 6) ∧ S ≠ [] ∧ S.length ≤ 10) ∧ ∀ rest o, Es rest [some (.val (.list (ns.map .int))), some (.own (.list u)), some (.own (.list (S.map eP))), some (.val .none), none, none, none, none, none, none, none, none, none, none, none, none, none, none, none, none] o → Es (fSeq c1 (fSeq c2 (fSeq c3 (fSeq c4 rest)))) [some (.val (.list (ns.map .int))), none, none, none, none, none, none, none, none, none, none, none, none, none, none, none, none, none, none, none] o := by
  obtain ⟨c, hc⟩ := t_cells hl
  obtain ⟨u, hb, hu⟩ := t_box (c := c)
  obtain ⟨k, u1, hk, kb, hu1⟩ := t_take (n := 7) hu (by omega) (by omega) (by omega)
  have rl : (rangeD 0 (1 + k).toNat).length = (1 + k).toNat := by unfold rangeD; simp
  obtain ⟨S, u2, e2, sl, sv, hu2⟩ := t_pcs (sc := .list (ns.map .int)) (rangeD 0 (1 + k).toNat) [] u1 (0 + 1) hu1 (by omega) (by simp; omega)
  rw [rl] at sl hu2
  obtain ⟨k2, u3, hk2, kb2, hu3⟩ := t_take (n := 2) hu2 (by omega) (by omega) (by omega)
  have ec1 : Es c1 [some (.val (.list (ns.map .int))), none, none, none, none, none, none, none, none, none, none, none, none, none, none, none, none, none, none, none] (.nx [some (.val (.list (ns.map .int))), some (.own (.list u)), none, none, none, none, none, none, none, none, none, none, none, none, none, none, none, none, none, none]) := by
    unfold c1
    exact es_setS (ev_callE (ev_cons (ev_dataE (ev_callE (ev_cons (ev_N rfl) (ev_cons ev_K ev_nil)) rfl hc) rfl) (ev_cons ev_K ev_nil)) rfl hb) rfl
  have ec2 : Es c2 [some (.val (.list (ns.map .int))), some (.own (.list u)), none, none, none, none, none, none, none, none, none, none, none, none, none, none, none, none, none, none] (.nx [some (.val (.list (ns.map .int))), some (.own (.list u2)), some (.own (.list (S.map eP))), none, none, none, none, none, none, none, none, none, none, none, none, none, none, none, none, none]) := by
    unfold c2
    refine es_setS (ev_lcS (es := S.map eP) (ev_range1 (k := 1 + k) (ps1 := [some (.val (.list (ns.map .int))), some (.own (.list u1)), none, none, none, none, none, none, none, none, none, none, none, none, none, none, none, none, none, none]) (ev_cons (ev_bin ev_K (ev_dataE (ev_callUE rfl (ev_cons ev_K ev_nil) rfl rfl hk rfl) rfl) (dAdd_iE rfl)) ev_nil) (by omega)) rfl e2 rfl) rfl
  have ec4 : ∀ (u : List PyData) (S : List (List Int)), Es c4 [some (.val (.list (ns.map .int))), some (.own (.list u)), some (.own (.list (S.map eP))), none, none, none, none, none, none, none, none, none, none, none, none, none, none, none, none, none] (.nx [some (.val (.list (ns.map .int))), some (.own (.list u)), some (.own (.list (S.map eP))), some (.val .none), none, none, none, none, none, none, none, none, none, none, none, none, none, none, none, none]) := fun u S => by
    unfold c4
    exact es_setS (ev_val ev_K) rfl
  by_cases hk0 : k2 = 0
  · subst hk0
    obtain ⟨p, S', rfl⟩ : ∃ p S', S = p :: S' := by
      cases S with
      | nil => simp at sl; omega
      | cons p S' => exact ⟨p, S', rfl⟩
    obtain ⟨x, u4, hx, ⟨vx, lx⟩, hu4⟩ := t_piece (m := 2) hu3 (by omega) (by omega)
    have hlast : (p :: S')[(p :: S').length - 1]? = some ((p :: S').getLast (by simp)) := by rw [List.getLast_eq_getElem]; simp
    generalize (p :: S').getLast (by simp) = q at hlast
    have mq : q ∈ p :: S' := List.mem_of_getElem? hlast
    have vp := sv p List.mem_cons_self
    have vq := sv q mq
    refine ⟨u4, (p :: S') ++ [p ++ x, q], _, hu4, by omega, ⟨fun y m => ?_, by simp, by simp at sl ⊢; omega⟩, fun rest o hr => ?_⟩
    · rcases List.mem_append.mp m with m | m
      · have := sv y m; exact ⟨this.1, by omega⟩
      · simp only [List.mem_cons, List.not_mem_nil, or_false] at m
        rcases m with rfl | rfl
        · exact ⟨vp.1.app vx (by omega), by simp; omega⟩
        · exact ⟨vq.1, by omega⟩
    · refine es_seq ec1 (es_seq ec2 (es_seq ?_ (es_seq (ec4 _ _) hr)))
      unfold c3
      apply es_ifT
      · exact ev_test (ev_bin (ev_dataE (ev_callUE rfl (ev_cons ev_K ev_nil) rfl rfl hk2 rfl) rfl) ev_K (dEq_iE rfl))
      · refine es_setS (p := .own (.list (((p :: S') ++ [p ++ x, q]).map eP))) (ev_to (ev_binO (ev_NoS rfl rfl) (ev_dataE (ev_lstE (ev_cons (ev_bin (ev_ixS (look_val rfl) ev_K (look_val rfl) (dIx_l0 rfl)) (ev_dataE (ev_callUE rfl (ev_cons ev_K ev_nil) rfl rfl hx rfl) rfl) (dAdd_P (by omega))) (ev_cons (ev_ixS (look_val rfl) (ev_un ev_K rfl) (look_val rfl) (dIx_last (d := eP q) ?_)) ev_nil)) (by simp)) rfl) (dCatL_l ?_)) ?_ rfl) rfl
        · rw [List.length_map, List.getElem?_map, hlast]; rfl
        · simp only [List.length_map, List.length_cons, List.length_nil] at sl ⊢; omega
        · rw [List.map_append]; rfl
  · refine ⟨u3, S, _, hu3, by omega, ⟨fun x m => ⟨(sv x m).1, by have := (sv x m).2; omega⟩, ?_, by omega⟩, fun rest o hr => ?_⟩
    · intro e; rw [e] at sl; simp at sl; omega
    · refine es_seq ec1 (es_seq ec2 (es_seq ?_ (es_seq (ec4 _ _) hr)))
      unfold c3
      apply es_ifF
      · exact ev_test (ev_bin (ev_dataE (ev_callUE rfl (ev_cons ev_K ev_nil) rfl rfl hk2 rfl) rfl) ev_K (dEq_iE (decide_eq_false hk0)))
      · exact es_skip
end TT

namespace TT
open PySem PySem.Spec L2 GL GT
open PyProof.Rows hiding St
local macro_rules | `(tactic| infer_instance) => `(tactic| first
  | (with_reducible apply es_seqS)
  | (with_reducible apply es_setS)
  | (with_reducible apply es_seqA)
  | (with_reducible apply es_seqE)
  | (with_reducible apply es_ret)
  | (with_reducible apply es_expr)
  | (with_reducible apply es_asg)
  | (with_reducible exact es_skip)
  | (with_reducible exact ev_K)
  | (with_reducible exact ev_nil)
  | ((with_reducible apply ev_nilE); exact rfl)
  | ((with_reducible apply ev_KE); exact rfl)
  | (with_reducible exact ev_cYes)
  | (with_reducible exact ev_partN)
  | (with_reducible apply ev_cons)
  | ((with_reducible apply ev_N); exact rfl)
  | ((with_reducible apply ev_MvS); exact rfl)
  | ((with_reducible apply ev_NoS); exact rfl)
  | (with_reducible apply ev_dataE)
  | (with_reducible apply ev_val)
  | (with_reducible apply ev_bin)
  | (with_reducible apply ev_un)
  | ((with_reducible apply ev_binS))
  | ((with_reducible apply ev_ixS))
  | ((with_reducible apply ev_lenS))
  | (with_reducible apply ev_test)
  | (with_reducible apply ev_notE)
  | (with_reducible apply ev_notVE)
  | (with_reducible apply ev_tupE)
  | (with_reducible apply ev_lstE)
  | (with_reducible apply ev_app)
  | (with_reducible apply ev_appO)
  | (with_reducible apply ev_isi)
  | (with_reducible apply ev_callE)
  | ((with_reducible apply ev_callUE); exact rfl)
  | (with_reducible apply ev_partS)
  | (with_reducible apply ev_seqI)
  | (with_reducible apply ev_lcS)
  | (with_reducible apply et_NS)
  | (with_reducible exact ets_nil)
  | ((with_reducible apply et_TE); exact rfl)
  | ((with_reducible apply et_LE); exact rfl)
  | focus ((with_reducible show List.length _ = _); exact rfl)
  | focus ((with_reducible show List.length (α := PyData) _ ≤ 1000); (simp only [List.length_cons, List.length_nil]; omega))
  | (with_reducible apply ets_cons)
  | (with_reducible apply dAdd_iE)
  | (with_reducible apply dSub_iE)
  | (with_reducible apply dLt_iE)
  | (with_reducible apply dGt_iE)
  | (with_reducible apply dLe_iE)
  | (with_reducible apply dGe_iE)
  | (with_reducible apply dEq_iE)
  | (with_reducible apply dNe_iE)
  | (with_reducible apply dEq_bE)
  | (with_reducible apply dNe_bE)
  | (with_reducible apply dLen_lE)
  | (with_reducible apply dLen_tE)
  | (with_reducible exact dAbs_i)
  | (with_reducible exact dInt_i)
  | (with_reducible exact dInt_b)
  | (with_reducible exact dTuple_l)
  | (with_reducible exact dTuple_t)
  | focus ((with_reducible show dTuple _ = _); exact rfl)
  | (with_reducible exact dList_l)
  | (with_reducible exact dList_t)
  | (with_reducible exact dMin2_i)
  | (with_reducible exact dMax2_i)
  | focus ((with_reducible show _ = some (some _)); exact rfl)
  | (with_reducible exact data_val)
  | (with_reducible exact data_own)
  | focus ((with_reducible show (!_) = _); exact rfl)
  | ((with_reducible apply look_val); exact rfl)
  | ((with_reducible apply look_own); exact rfl)
  | focus ((with_reducible show seqOf _ = _); exact rfl)
  | focus ((with_reducible show @Eq PV _ _); exact rfl)
  | focus ((with_reducible show @Eq PSt _ _); first | (focus (dsimp only [List.set, List.set_cons_succ, List.set_cons_zero, wipeP, restP, keepV, List.getElem?_cons_succ, List.getElem?_cons_zero]; try exact rfl)) | exact rfl)
  | focus ((with_reducible show isaD _ _ = _); exact rfl)
  | focus ((with_reducible show isa2 _ _ _ = _); exact rfl)
  | focus ((with_reducible show dIx _ _ = _); first | exact rfl | exact dIx_t0 rfl | exact dIx_l0 rfl)
  | focus ((with_reducible show (_ && _) = _); exact rfl)
  | focus ((with_reducible show (_ || _) = _); exact rfl)
  | (with_reducible apply dMul_iE)
  | (with_reducible apply dMod_iE)
  | (with_reducible apply dFdiv_iE)
  | (with_reducible exact (rfl : (_ : Bool) = _))
  | (with_reducible exact (rfl : (_ : Int) = _))
  | exact decide_eq_true (by omega)
  | exact decide_eq_false (by omega)
  | focus ((with_reducible show (_ : Int) = _); omega)
  | focus ((with_reducible show (_ : Int) < _); omega)
  )
local macro_rules | `(tactic| infer_instance) => `(tactic| first
  | (with_reducible apply ev_binO)
  | (with_reducible apply ev_rev)
  | (with_reducible apply ev_binSS)
  | ((with_reducible apply ev_pop); exact rfl)

  | focus ((with_reducible show ixN _ _ = _); exact rfl)
  | focus ((with_reducible show _ = some (some (PV.own _))); exact rfl)
  | focus ((with_reducible show _ ∨ _); first | (left; omega) | (right; omega))
  | focus ((with_reducible show _ ∧ _ < (1073741824 : Int)); omega)
  | focus ((with_reducible show dIs _ _ = _); exact rfl)
  | focus ((with_reducible show dIsNot _ _ = _); exact rfl)
  | (with_reducible exact decide_eq_true rfl)
  | focus ((with_reducible show decide (@Eq Bool _ _) = _); exact rfl))
local macro_rules | `(tactic| infer_instance) => `(tactic| first
  | (with_reducible apply sl_fromI)
  | (with_reducible apply sl_toI)
  | (with_reducible apply dAdd_P)
  | (with_reducible apply dEq_P)
  | (with_reducible apply dEq_P0)
  | (with_reducible apply dNe_P)
  | (with_reducible apply dNe_P0)
  | (with_reducible apply dEq_L)
  | (with_reducible apply dNe_L)
  | (with_reducible apply dLen_P)
  | (with_reducible exact t_is_number)
  | (with_reducible exact t_alike)
  | (with_reducible exact t_lag_between)
  | (with_reducible apply t_sureE)
  | (with_reducible apply t_is_piece)
  | focus ((with_reducible show Vp _); assumption)
  | (with_reducible exact (cp_le _ _).1)
  | (with_reducible exact (cp_le _ _).2))
theorem Vp.drop {x : List Int} (h : Vp x) (n : Nat) : Vp (x.drop n) := ⟨fun i hi => h.1 i (List.mem_of_mem_drop hi), by have := h.2; simp; omega⟩
theorem Lg_of {x y : List Int} (hx : Vp x) (hy : Vp y) : Lg (lgA x y) (lgB x y) := by
  refine ⟨⟨hx.drop _, hy.drop _⟩, ?_⟩
  by_cases h1 : cp x y < x.length
  · by_cases h2 : cp x y < y.length
    · have := cp_ne x y h1 h2
      right; right; unfold lgA lgB; simpa using this
    · right; left; unfold lgB; simp; omega
  · left; unfold lgA; simp; omega
theorem intsOf_ints : ∀ l : List Int, intsOf (l.map .int) = some l
  | [] => rfl
  | a :: l => by rw [List.map_cons]; unfold intsOf; rw [intsOf_ints l]; rfl
def dst (p : List Int × List Int) : Int := ((lgA p.1 p.2).length : Int) + (lgB p.1 p.2).length
theorem pairs_len {α β : Type} (l : List α) (m : List β) : (pairsOf l m).length = l.length * m.length := by
  unfold pairsOf
  induction l with
  | nil => simp
  | cons a l ih => rw [List.flatMap_cons, List.length_append, ih]; simp [Nat.add_mul]; omega
theorem t_far {S : List (List Int)} (h : S ≠ []) : ∃ far : Int, dMaxL [.list (((pairsOf S S).map dst).map .int)] = some (.int far) ∧ 0 ≤ far ∧ ∀ x ∈ S, ∀ y ∈ S, near far x y := by
  obtain ⟨a, ha⟩ := List.exists_mem_of_ne_nil _ h
  have hne : (a, a) ∈ pairsOf S S := mem_pairsOf.mpr ⟨ha, ha⟩
  cases q : (pairsOf S S).map dst with
  | nil => rw [List.map_eq_nil_iff] at q; rw [q] at hne; cases hne
  | cons n ns =>
    obtain ⟨h1, h2, h3⟩ := maxI_spec ns n
    have le : ∀ x ∈ S, ∀ y ∈ S, near (maxI n ns) x y := fun x hx y hy => by
      have : dst (x, y) ∈ n :: ns := by rw [← q]; exact List.mem_map_of_mem (mem_pairsOf.mpr ⟨hx, hy⟩)
      have e : dst (x, y) = ((dist x y : Nat) : Int) := by unfold dst dist; simp
      have le2 : dst (x, y) ≤ maxI n ns := by
        rcases List.mem_cons.mp this with z | z
        · rw [z]; exact h2
        · exact h3 _ z
      show ((dist x y : Nat) : Int) ≤ _
      omega
    refine ⟨maxI n ns, ?_, ?_, le⟩
    · show (match intsOf ((n :: ns).map PyData.int) with | some (n :: ns) => some (PyData.int (maxI n ns)) | _ => none) = _
      rw [intsOf_ints]
    · have := le a ha a ha
      unfold near at this
      omega
theorem front_pre : ∀ (S : List (List Int)) (p : List Int), ∀ x ∈ p :: S, frontP p S <+: x
  | [], p, x, h => by
    rw [List.mem_singleton.mp h]; exact List.prefix_refl _
  | a :: S, p, x, h => by
    have ih := front_pre S (p.take (cp p a))
    have h0 := ih (p.take (cp p a)) List.mem_cons_self
    have e : frontP p (a :: S) = frontP (p.take (cp p a)) S := rfl
    rw [e]
    rcases List.mem_cons.mp h with q | q
    · rw [q]; exact h0.trans (List.take_prefix _ _)
    · rcases List.mem_cons.mp q with q | q
      · rw [q]; rw [cp_take] at h0 ⊢; exact h0.trans (List.take_prefix _ _)
      · exact ih x (List.mem_cons_of_mem _ q)
theorem pre_cp : ∀ (q x y : List Int), q <+: x → q <+: y → q.length ≤ cp x y
  | [], _, _, _, _ => Nat.zero_le _
  | a :: q, [], _, h, _ => by simp at h
  | a :: q, b :: x, [], _, h => by simp at h
  | a :: q, b :: x, c :: y, h, g => by
    rw [List.cons_prefix_cons] at h g
    have e : b = c := h.1.symm.trans g.1
    have := pre_cp q x y h.2 g.2
    simp [cp, e]; exact this
theorem front_max : ∀ (S : List (List Int)) (p q : List Int), (∀ x ∈ p :: S, q <+: x) → q <+: frontP p S
  | [], p, q, h => h p List.mem_cons_self
  | a :: S, p, q, h => by
    have e : frontP p (a :: S) = frontP (p.take (cp p a)) S := rfl
    rw [e]
    refine front_max S _ q fun x m => ?_
    rcases List.mem_cons.mp m with z | z
    · rw [z]
      have hp := h p List.mem_cons_self
      have ha := h a (List.mem_cons_of_mem _ List.mem_cons_self)
      have l := pre_cp q p a hp ha
      have := List.prefix_iff_eq_take.mp hp
      rw [this]
      exact List.take_prefix_take_left l
    · exact h x (List.mem_cons_of_mem _ (List.mem_cons_of_mem _ z))
theorem t_c6 {o4 o8 o9 o10 o11 o12 o13 o14 o15 P3 : Option PV} {sc : PyData} {u : List PyData} {S : List (List Int)} {far : Int} (hS : (∀ x ∈ S, Vp x ∧ x.length ≤ 6) ∧ S ≠ [] ∧ S.length ≤ 10) (hf : dMaxL [.list (((pairsOf S S).map dst).map .int)] = some (.int far)) : Es c6 [some (.val sc), some (.own (.list u)), some (.val (.list (S.map eP))), P3, o4, none, none, none, o8, o9, o10, o11, o12, o13, o14, o15, none, none, none, none] (.nx [some (.val sc), some (.own (.list u)), some (.val (.list (S.map eP))), P3, o4, some (.val (.int far)), none, none, o8, o9, o10, o11, o12, o13, o14, o15, none, none, none, none]) := by
  unfold c6
  have lp : (pairsOf S S).length ≤ 1000 := by
    have e : (pairsOf S S).length = S.length * S.length := pairs_len S S
    rw [e]
    have : S.length * S.length ≤ 10 * 10 := Nat.mul_le_mul hS.2.2 hS.2.2
    omega
  have mm : S.length * S.length ≤ 10 * 10 := Nat.mul_le_mul hS.2.2 hS.2.2
  refine es_setS (ev_val (ev_app (ev_cons (ev_dataE (ev_lcS (es := ((pairsOf S S).map dst).map .int) (ev_seqI (ds := (pairsOf S S).map (eP2 eP eP)) (ev_dataE (ev_callE (ev_cons (ev_N rfl) (ev_cons (ev_N rfl) ev_nil)) rfl (t_law_pairs S S (by omega) (by have := hS.2.2; omega))) rfl) rfl) rfl (compL_each (en := eP2 eP eP) (en' := PyData.int) dst (pairsOf S S) (by omega) fun p hp => ?_) rfl) rfl) ev_nil) hf)) rfl
  obtain ⟨h1, h2⟩ := mem_pairsOf.mp hp
  have v1 := (hS.1 _ h1).1
  have v2 := (hS.1 _ h2).1
  exact ⟨_, et_TE rfl (ets_cons et_N (ets_cons et_N ets_nil)), _, ev_dataE (ev_callE (ev_cons (ev_dataE (ev_callE (ev_cons (ev_N rfl) (ev_cons (ev_N rfl) ev_nil)) rfl (t_lag_of v1 v2)) rfl) ev_nil) rfl (t_lag_length (Lg_of v1 v2))) rfl, rfl⟩
theorem t_c7 {o4 o8 o9 o10 o11 o12 o13 o14 o15 P3 : Option PV} {sc : PyData} {u : List PyData} {S : List (List Int)} {far : Int} {p : List Int} {S' : List (List Int)} (e : S = p :: S') (hS : (∀ x ∈ S, Vp x ∧ x.length ≤ 6) ∧ S ≠ [] ∧ S.length ≤ 10) : Es c7 [some (.val sc), some (.own (.list u)), some (.val (.list (S.map eP))), P3, o4, some (.val (.int far)), none, none, o8, o9, o10, o11, o12, o13, o14, o15, none, none, none, none] (.nx [some (.val sc), some (.own (.list u)), some (.val (.list (S.map eP))), P3, o4, some (.val (.int far)), some (.val (eP (frontP p S'))), none, o8, o9, o10, o11, o12, o13, o14, o15, none, none, none, none]) := by
  subst e
  unfold c7
  exact es_setS (ev_callE (ev_cons (ev_app (ev_cons (ev_N rfl) ev_nil) dTuple_l) ev_nil) rfl (t_front (fun x m => (hS.1 x m).1) (by have := hS.2.2; omega))) rfl
theorem t_c8 {o4 o8 o9 o10 o11 o12 o13 o14 o15 P3 : Option PV} {sc : PyData} {u : List PyData} {S : List (List Int)} {far : Int} {top : List Int} (hS : (∀ x ∈ S, Vp x ∧ x.length ≤ 6) ∧ S ≠ [] ∧ S.length ≤ 10) (h0 : 0 ≤ far) (hf : ∀ x ∈ S, ∀ y ∈ S, near far x y) (ht : ∀ x ∈ S, x.take top.length = top) : Es c8 [some (.val sc), some (.own (.list u)), some (.val (.list (S.map eP))), P3, o4, some (.val (.int far)), some (.val (eP top)), none, o8, o9, o10, o11, o12, o13, o14, o15, none, none, none, none] (.nx [some (.val sc), some (.own (.list u)), some (.val (.list (S.map eP))), P3, o4, some (.val (.int far)), some (.val (eP top)), none, o8, o9, o10, o11, o12, o13, o14, o15, none, none, none, none]) := by
  have z := hS.2.2
  have hV : ∀ x ∈ S, Vp x := fun x m => (hS.1 x m).1
  have key := t_lots_near (d := eQ S) (n := far) (t_tupQ hV (by omega)) hV hS.2.1 (by omega) h0
  have one : (lotsP far S).length = 1 := Lt.lots_one tyP.srt tyQ.srt hS.2.1 fun a ha b hb => hf a ha b hb
  have fin : (S.filter fun x => !decide (x.take top.length = top)) = [] := by
    rw [List.filter_eq_nil_iff]
    intro x hx
    simp [ht x hx]
  unfold c8
  refine es_ifF (ev_to (ev_orP (k := false) (l := false) (ev_test (ev_bin (ev_app (ev_cons (ev_dataE (ev_callE (ev_cons (ev_app (ev_cons (ev_N rfl) ev_nil) dTuple_l) (ev_cons (ev_N rfl) ev_nil)) rfl key) rfl) ev_nil) (dLen_tE (k := 1) (by rw [List.length_map, one]; rfl))) ev_K (dNe_iE rfl))) (ev_test (ev_bin (ev_dataE (ev_lcS (es := (S.filter fun x => !decide (x.take top.length = top)).map eP) (ev_seqI (ev_N rfl) rfl) rfl (compL_keep (en := eP) (fun x => !decide (x.take top.length = top)) S (by omega) fun x hx => ?_) rfl) rfl) (ev_dataE (ev_lstE ev_nil (by simp)) rfl) (tyP.dNeL (by omega) (by rw [fin]; rfl))))) rfl rfl) es_skip
  exact ⟨_, et_N, ev_test (ev_bin (ev_dataE (sl_toI (ev_N rfl) (ev_partS (ev_lenS (look_val rfl) (dLen_P rfl))) rfl) rfl) (ev_N rfl) (dNe_P rfl)), ev_N rfl, rfl⟩
theorem t_c9 {o4 o8 o9 o10 o11 o12 o13 o14 o15 P3 : Option PV} {sc : PyData} {u : List PyData} {S : List (List Int)} {far : Int} {top : List Int} (hS : (∀ x ∈ S, Vp x ∧ x.length ≤ 6) ∧ S ≠ [] ∧ S.length ≤ 10) : Es c9 [some (.val sc), some (.own (.list u)), some (.val (.list (S.map eP))), P3, o4, some (.val (.int far)), some (.val (eP top)), none, o8, o9, o10, o11, o12, o13, o14, o15, none, none, none, none] (.nx [some (.val sc), some (.own (.list u)), some (.val (.list (S.map eP))), P3, o4, some (.val (.int far)), some (.val (eP top)), some (.own (.list ((S.map fun x => x.take (top.length + 1)).map eP))), o8, o9, o10, o11, o12, o13, o14, o15, none, none, none, none]) := by
  have z := hS.2.2
  unfold c9
  refine es_setS (ev_lcS (es := (S.map fun x => x.take (top.length + 1)).map eP) (ev_seqI (ev_N rfl) rfl) rfl (compL_each (en := eP) (en' := eP) (fun x => x.take (top.length + 1)) S (by omega) fun x hx => ?_) rfl) rfl
  exact ⟨_, et_N, _, ev_dataE (sl_toI (ev_N rfl) (ev_partS (ev_bin (ev_lenS (look_val rfl) (dLen_P rfl)) ev_K (dAdd_iE rfl))) rfl) rfl, rfl⟩
theorem t_c10 {o4 o8 o9 o10 o11 o12 o13 o14 o15 P3 : Option PV} {sc : PyData} {u : List PyData} {S : List (List Int)} {far : Int} {p : List Int} {S' : List (List Int)} (e : S = p :: S') (hS : (∀ x ∈ S, Vp x ∧ x.length ≤ 6) ∧ S ≠ [] ∧ S.length ≤ 10) : ∃ ps, Es c10 [some (.val sc), some (.own (.list u)), some (.val (.list (S.map eP))), P3, o4, some (.val (.int far)), some (.val (eP (frontP p S'))), some (.own (.list ((S.map fun x => x.take ((frontP p S').length + 1)).map eP))), o8, o9, o10, o11, o12, o13, o14, o15, none, none, none, none] (.ret (.val (.bool true)) ps) := by
  have z := hS.2.2
  unfold c10
  have hls := tyP.dLenSet (l := S.map fun x => x.take ((frontP p S').length + 1)) (by omega) isT_P (.inl rfl) (by simp; omega)
  by_cases h : 1 < (srt eP (S.map fun x => x.take ((frontP p S').length + 1))).length
  · exact ⟨_, es_ret (ev_val (ev_orVF (ev_bin (ev_app (ev_cons (ev_NoS rfl rfl) ev_nil) hls) ev_K (dGt_iE (decide_eq_true (by omega))))))⟩
  · have e1 : p.take ((frontP p S').length + 1) = frontP p S' := by
      have ms : ∀ x ∈ S, x.take ((frontP p S').length + 1) = p.take ((frontP p S').length + 1) := fun x hx => by
        have a1 := (tyP.srt.mem (S.map fun x => x.take ((frontP p S').length + 1)) _).mpr (List.mem_map_of_mem hx)
        have a2 := (tyP.srt.mem (S.map fun x => x.take ((frontP p S').length + 1)) _).mpr (List.mem_map_of_mem (show p ∈ S from e ▸ List.mem_cons_self))
        generalize srt eP (S.map fun x => x.take ((frontP p S').length + 1)) = L at h a1 a2
        match L, h, a1, a2 with
        | [], _, a1, _ => cases a1
        | [b], _, a1, a2 => rw [List.mem_singleton.mp a1, List.mem_singleton.mp a2]
        | _ :: _ :: _, h, _, _ => exact absurd (by simp) h
      have mx := front_max S' p (p.take ((frontP p S').length + 1)) fun x hx => by
        rw [← ms x (e ▸ hx)]; exact List.take_prefix _ _
      have l1 := mx.length_le
      have pr := front_pre S' p p List.mem_cons_self
      have l2 := pr.length_le
      rw [List.length_take] at l1
      have l3 : p.length = (frontP p S').length := by omega
      have e3 : frontP p S' = p := pr.eq_of_length l3.symm
      rw [e3]
      exact List.take_of_length_le (by omega)
    subst e
    refine ⟨_, es_ret (ev_val (ev_to (ev_orV (k := false) (l := true) (ev_bin (ev_app (ev_cons (ev_NoS rfl rfl) ev_nil) hls) ev_K (dGt_iE (decide_eq_false (by omega)))) (fun _ => ev_bin (ev_ixS (look_val rfl) ev_K (look_val rfl) (dIx_l0 rfl)) (ev_N rfl) (dEq_P (decide_eq_true e1))) (fun q => by cases q)) rfl rfl))⟩
theorem law_true : ∀ ns : List Int, ns.length ≤ 63 → M_law [.list (ns.map PyData.int)] = .ok (.val (.bool true)) := fun ns hl => by
  obtain ⟨u, S, N, hu, hN, hS, hA⟩ := partA hl
  obtain ⟨u', P3', o4', o8', o9', o10', o11', o12', o13', o14', o15', e5⟩ := t_c5 (sc := .list (ns.map .int)) hS hu hN
  obtain ⟨far, hf, h0, hn⟩ := t_far hS.2.1
  obtain ⟨p, S', rfl⟩ := List.exists_cons_of_ne_nil hS.2.1
  have ht : ∀ x ∈ p :: S', x.take (frontP p S').length = frontP p S' := fun x hx => (List.prefix_iff_eq_take.mp (front_pre S' p x hx)).symm
  obtain ⟨ps, e10⟩ := t_c10 (o4 := o4') (o8 := o8') (o9 := o9') (o10 := o10') (o11 := o11') (o12 := o12') (o13 := o13') (o14 := o14') (o15 := o15') (P3 := P3') (sc := .list (ns.map .int)) (u := u') (far := far) (p := p) (S' := S') rfl hS
  show (b_law _).fin = _
  apply fin_ret
  rw [law_split]
  exact hA _ _ (es_seq e5 (es_seq (t_c6 hS hf) (es_seq (t_c7 rfl hS) (es_seq (t_c8 hS h0 hn ht) (es_seq (t_c9 hS) e10)))))
end TT

theorem PySem.Challenge.cw_copysheets_k01_main_lots_of_near_pieces_holds : PySem.Challenge.rw_copysheets_k01_main_lots_of_near_pieces.Holds := by
  exact TT.law_holds TT.law_true
