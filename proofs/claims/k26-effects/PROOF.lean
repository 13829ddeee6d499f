import PyProof.Rows.All
import Wide.All
import OpenK.AllK
import Wide.FinOn
import HandS.ForMost
import HandS.ForExc
import HandS.Flow
import HandS.TupAny
import HandS.IsInst
import HandS.Small
import HandS.Deep
import HandS.Zip
import HandS.TryMany
import KE.KeyNested
import HandS.Defaults
import KE.LtData
import HandS.Style
import HandS.HeadEnd
import HandS.HeadHook2
import HandS.Head2
import HandS.TupSets
import KE.SortData
import HandS.TupMul
import KE.KDictList
import HandS.DictTup
import HandS.Conv
import PySem.Challenge.RW_copysheets_k26_main_texts_by_their_effec
set_option Elab.async false
set_option linter.all false
set_option maxRecDepth 100000
set_option autoImplicit false
set_option maxHeartbeats 400000
/-! GKa: keys (whole numbers, nested tuples of these), dicts over such keys, data with dicts -/
namespace GS
open PySem PySem.Calls PyProof.Rows PySem.SeqAt PySem.W
mutual
/-- no text within -/
def nt : NestedKey → Bool
  | .none => true
  | .num _ => true
  | .text _ => false
  | .tup ks => ntAll ks
def ntAll : List NestedKey → Bool
  | [] => true
  | k :: ks => nt k && ntAll ks
end
mutual
/-- whole numbers and tuples of such -/
def ni : PyData → Bool
  | .int _ => true
  | .tuple ds => niAll ds
  | _ => false
def niAll : List PyData → Bool
  | [] => true
  | d :: ds => ni d && niAll ds
end
mutual
def kof : PyData → NestedKey
  | .int i => .num i
  | .tuple ds => .tup (kofAll ds)
  | _ => .none
def kofAll : List PyData → List NestedKey
  | [] => []
  | d :: ds => kof d :: kofAll ds
end
mutual
theorem data_kof : ∀ d : PyData, ni d = true → (kof d).data = d ∧ nt (kof d) = true ∧ (kof d).depth = d.depth
  | .int i, _ => ⟨rfl, rfl, by simp [kof, NestedKey.depth, PyData.depth]⟩
  | .tuple ds, h => by
    have q := data_kofAll ds (by simpa [ni] using h)
    refine ⟨?_, ?_, ?_⟩
    · simp only [kof, NestedKey.data]; rw [q.1]
    · simpa only [kof, nt] using q.2.1
    · simp only [kof, NestedKey.depth, PyData.depth]; rw [q.2.2]
  | .none, h => by simp [ni] at h
  | .bool _, h => by simp [ni] at h
  | .str _, h => by simp [ni] at h
  | .list _, h => by simp [ni] at h
  | .dict _, h => by simp [ni] at h
theorem data_kofAll : ∀ ds : List PyData, niAll ds = true → NestedKey.datas (kofAll ds) = ds ∧ ntAll (kofAll ds) = true ∧ NestedKey.depthAll (kofAll ds) = PyData.depthAll ds
  | [], _ => ⟨rfl, rfl, by simp [kofAll, NestedKey.depthAll, PyData.depthAll]⟩
  | d :: ds, h => by
    have h' : ni d = true ∧ niAll ds = true := by simpa [niAll] using h
    have a := data_kof d h'.1
    have b := data_kofAll ds h'.2
    refine ⟨?_, ?_, ?_⟩
    · simp only [kofAll, NestedKey.datas]; rw [a.1, b.1]
    · simp only [kofAll, ntAll]; rw [a.2.1, b.2.1]; rfl
    · simp only [kofAll, NestedKey.depthAll, PyData.depthAll]; rw [a.2.2, b.2.2]
end
mutual
/-- the hash of a key without texts: the same in each world -/
def hsh : NestedKey → Int
  | .none => reduceHash 0xFCA86420
  | .num i => hashInt i
  | .text _ => 0
  | .tup ks => reduceHash (Builtin.Tuple.tupleHashOf (hshs ks))
def hshs : List NestedKey → List Int
  | [] => []
  | k :: ks => hsh k :: hshs ks
end
mutual
theorem hsh_eq (w : World) : ∀ k : NestedKey, nt k = true → k.hash w = hsh k
  | .none, _ => by simp [NestedKey.hash, hsh]
  | .num _, _ => by simp [NestedKey.hash, hsh]
  | .text _, h => by simp [nt] at h
  | .tup ks, h => by
    have h' : ntAll ks = true := by simpa [nt] using h
    simp only [NestedKey.hash, hsh, hshs_eq w ks h']
theorem hshs_eq (w : World) : ∀ ks : List NestedKey, ntAll ks = true → NestedKey.hashes w ks = hshs ks
  | [], _ => by simp [NestedKey.hashes, hshs]
  | k :: ks, h => by
    have h' : nt k = true ∧ ntAll ks = true := by simpa [ntAll] using h
    simp only [NestedKey.hashes, hshs, hsh_eq w k h'.1, hshs_eq w ks h'.2]
end
end GS
namespace L2
open PySem PySem.Spec GS PySem.W
open PyProof.Rows hiding St
/-- what may be a key -/
def okK (d : PyData) : Bool := ni d && decide (d.depth ≤ 8)
abbrev DL := List (NestedKey × V × V)
abbrev DX := List (NestedKey × Value × Value)
def DRel (L : DL) (xs : DX) : Prop := Paired (fun (p : NestedKey × V × V) (q : NestedKey × Value × Value) => p.1 = q.1 ∧ RelV p.2.1 q.2.1 ∧ RelV p.2.2 q.2.2) L xs
def dRaw (h : Heap) (a : Addr) (xs : DX) : Prop := ∃ o es ep, h.get? a = some o ∧ o.ExactDict ∧ o.data = .dict es ep ∧ es.toList = xs.map (fun x => ⟨hsh x.1, x.2.1, x.2.2⟩) ∧ (xs.map (·.1)).Nodup
/-- a dict at a, its keys and values -/
def dPhi (a : Addr) (L : DL) (h : Heap) : Prop := L.length ≤ sizeLine ∧ (a == sysModules) = false ∧ ∃ xs, DRel L xs ∧ dRaw h a xs
def dO (a : Addr) (L : DL) : HO := .ext (dPhi a L)
theorem dO_ok {P : Program} {w : World} {H : Hp} {h : Heap} {a : Addr} {L : DL} (x : dPhi a L h) : ObjOk P w H h a (dO a L) := by
  obtain ⟨z, ns, xs, r, o, es, ep, ho, q⟩ := id x
  refine ⟨x, ⟨o, ho⟩, fun h1 h2 p k => ?_⟩
  obtain ⟨z', ns', xs', r', o', es', ep', ho', q'⟩ := (p : dPhi a L h1)
  exact ⟨z', ns', xs', r', o', es', ep', k o' ho', q'⟩
mutual
/-- what reads as data (as Dp, and dicts too) -/
inductive Dv (K : PySem.W.Frag) (H : Hp) : V → PyData → Prop
  | non : Dv K H .non .none
  | bl (b : Bool) : Dv K H (.bl b) (.bool b)
  | int (i : Int) : Dv K H (.int i) (.int i)
  | str (x : Str) : Dv K H (.str x) (.str x)
  | lst {a : Addr} {xs : List V} {ds : List PyData} : SqL K H a xs → DvAll K H xs ds → Dv K H (.ref a) (.list ds)
  | tup {a : Addr} {xs : List V} {ds : List PyData} : SqT K H a xs → DvAll K H xs ds → Dv K H (.ref a) (.tuple ds)
  | dct {a : Addr} {L : DL} {kvs : List (PyData × PyData)} : H a = some (dO a L) → DvKv K H L kvs → Dv K H (.ref a) (.dict kvs)
inductive DvAll (K : PySem.W.Frag) (H : Hp) : List V → List PyData → Prop
  | nil : DvAll K H [] []
  | cons {v : V} {vs : List V} {d : PyData} {ds : List PyData} : Dv K H v d → DvAll K H vs ds → DvAll K H (v :: vs) (d :: ds)
inductive DvKv (K : PySem.W.Frag) (H : Hp) : DL → List (PyData × PyData) → Prop
  | nil : DvKv K H [] []
  | cons {k v : V} {kd vd : PyData} {L : DL} {kvs : List (PyData × PyData)} : okK kd = true → Dv K H k kd → Dv K H v vd → DvKv K H L kvs → DvKv K H ((kof kd, k, v) :: L) ((kd, vd) :: kvs)
end
mutual
def noDict : PyData → Bool
  | .list ds => noDictAll ds
  | .tuple ds => noDictAll ds
  | .dict _ => false
  | _ => true
def noDictAll : List PyData → Bool
  | [] => true
  | d :: ds => noDict d && noDictAll ds
end
mutual
theorem lay_noDict : ∀ {d : PyData}, d.canLay0 = true → noDict d = true
  | .none, _ => rfl
  | .bool _, _ => rfl
  | .int _, _ => rfl
  | .str _, _ => rfl
  | .list ds, h => by
    have h' : PyData.canLayAll0 ds = true := by simpa [PyData.canLay0] using h
    simpa [noDict] using lay_noDictAll h'
  | .tuple ds, h => by
    have h' : PyData.canLayAll0 ds = true := by simpa [PyData.canLay0] using h
    simpa [noDict] using lay_noDictAll h'
  | .dict _, h => by simp [PyData.canLay0] at h
theorem lay_noDictAll : ∀ {ds : List PyData}, PyData.canLayAll0 ds = true → noDictAll ds = true
  | [], _ => rfl
  | d :: ds, h => by
    have h' : d.canLay0 = true ∧ PyData.canLayAll0 ds = true := by simpa [PyData.canLayAll0] using h
    simp [noDictAll, lay_noDict h'.1, lay_noDictAll h'.2]
end
mutual
theorem ni_noDict : ∀ {d : PyData}, ni d = true → noDict d = true
  | .int _, _ => rfl
  | .tuple ds, h => by
    have h' : niAll ds = true := by simpa [ni] using h
    simpa [noDict] using ni_noDictAll h'
  | .none, h => by simp [ni] at h
  | .bool _, h => by simp [ni] at h
  | .str _, h => by simp [ni] at h
  | .list _, h => by simp [ni] at h
  | .dict _, h => by simp [ni] at h
theorem ni_noDictAll : ∀ {ds : List PyData}, niAll ds = true → noDictAll ds = true
  | [], _ => rfl
  | d :: ds, h => by
    have h' : ni d = true ∧ niAll ds = true := by simpa [niAll] using h
    simp [noDictAll, ni_noDict h'.1, ni_noDictAll h'.2]
end
section
variable {K : PySem.W.Frag} {H : Hp}
mutual
theorem Dv.dp : ∀ {d : PyData} {v : V}, noDict d = true → Dv K H v d → Dp K H v d
  | .none, _, _, h => by cases h; exact .non
  | .bool b, _, _, h => by cases h; exact .bl b
  | .int i, _, _, h => by cases h; exact .int i
  | .str x, _, _, h => by cases h; exact .str x
  | .list ds, _, n, h => by
    cases h with
    | lst s a => exact .lst s (DvAll.dp (by simpa [noDict] using n) a)
  | .tuple ds, _, n, h => by
    cases h with
    | tup s a => exact .tup s (DvAll.dp (by simpa [noDict] using n) a)
  | .dict _, _, n, _ => by simp [noDict] at n
theorem DvAll.dp : ∀ {ds : List PyData} {vs : List V}, noDictAll ds = true → DvAll K H vs ds → DpAll K H vs ds
  | [], _, _, h => by cases h; exact .nil
  | d :: ds, _, n, h => by
    have n' : noDict d = true ∧ noDictAll ds = true := by simpa [noDictAll] using n
    cases h with
    | cons h1 h2 => exact .cons (Dv.dp n'.1 h1) (DvAll.dp n'.2 h2)
end
mutual
theorem Dv.of_dp : ∀ {d : PyData} {v : V}, Dp K H v d → Dv K H v d
  | _, _, .non => .non
  | _, _, .bl b => .bl b
  | _, _, .int i => .int i
  | _, _, .str x => .str x
  | _, _, .lst s a => .lst s (DvAll.of_dp a)
  | _, _, .tup s a => .tup s (DvAll.of_dp a)
theorem DvAll.of_dp : ∀ {ds : List PyData} {vs : List V}, DpAll K H vs ds → DvAll K H vs ds
  | _, _, .nil => .nil
  | _, _, .cons h t => .cons (Dv.of_dp h) (DvAll.of_dp t)
end
end
section
variable {X : Cx} {pins : List (Addr × Obj)} {σ : St} {H : Hp} {s : Shared}
theorem Dv.reads (I : Inv X pins σ H s) (d : PyData) (v : V) (u : Value) (n : noDict d = true) (h : Dv X.K H v d) (r : RelV v u) : ∃ as, Reads s.heap u d as := Dp.reads I d v u (h.dp n) r
end
end L2

/-! GLa: pure states, what reads as data, steps, the judgements by functions -/
namespace L2
open PySem PySem.Spec
section
variable {K : PySem.W.Frag} {H H' : Hp}
theorem same_sqt {a : Addr} {xs : List V} (e : Same H H') (h : SqT K H a xs) : SqT K H' a xs := by
  rcases h with (h | ⟨o, h⟩) | h
  · exact .inl (.inl (e _ _ h))
  · exact .inl (.inr ⟨o, e _ _ h⟩)
  · exact .inr h
mutual
theorem Dv.mono (e : Same H H') : ∀ {v : V} {d : PyData}, Dv K H v d → Dv K H' v d
  | _, _, .non => .non
  | _, _, .bl b => .bl b
  | _, _, .int i => .int i
  | _, _, .str x => .str x
  | _, _, .lst s a => .lst (e.seq s) (DvAll.mono e a)
  | _, _, .tup s a => .tup (same_sqt e s) (DvAll.mono e a)
  | _, _, .dct s a => .dct (e _ _ s) (DvKv.mono e a)
theorem DvKv.mono (e : Same H H') : ∀ {L : DL} {kvs : List (PyData × PyData)}, DvKv K H L kvs → DvKv K H' L kvs
  | _, _, .nil => .nil
  | _, _, .cons o h1 h2 t => .cons o (Dv.mono e h1) (Dv.mono e h2) (DvKv.mono e t)
theorem DvAll.mono (e : Same H H') : ∀ {vs : List V} {ds : List PyData}, DvAll K H vs ds → DvAll K H' vs ds
  | _, _, .nil => .nil
  | _, _, .cons h t => .cons (Dv.mono e h) (DvAll.mono e t)
end
theorem DvAll.length : ∀ {vs : List V} {ds : List PyData}, DvAll K H vs ds → vs.length = ds.length
  | _, _, .nil => rfl
  | _, _, .cons _ t => by simp [DvAll.length t]
theorem DvAll.get : ∀ {vs : List V} {ds : List PyData} {i : Nat} {d : PyData}, DvAll K H vs ds → ds[i]? = some d → ∃ v, vs[i]? = some v ∧ Dv K H v d
  | _, _, _, _, .nil, e => by simp at e
  | _, _, 0, _, .cons h _, e => by simp at e; subst e; exact ⟨_, rfl, h⟩
  | _, _, i + 1, d, .cons _ t, e => by
    obtain ⟨v, h1, h2⟩ := DvAll.get (i := i) (d := d) t (by simpa using e)
    exact ⟨v, by simpa using h1, h2⟩
theorem DvAll.getV : ∀ {vs : List V} {ds : List PyData} {i : Nat} {v : V}, DvAll K H vs ds → vs[i]? = some v → ∃ d, ds[i]? = some d ∧ Dv K H v d
  | _, _, _, _, .nil, e => by simp at e
  | _, _, 0, _, .cons h _, e => by simp at e; subst e; exact ⟨_, rfl, h⟩
  | _, _, i + 1, d, .cons _ t, e => by
    obtain ⟨v, h1, h2⟩ := DvAll.getV (i := i) (v := d) t (by simpa using e)
    exact ⟨v, by simpa using h1, h2⟩
theorem DvAll.append : ∀ {xs ys : List V} {ds es : List PyData}, DvAll K H xs ds → DvAll K H ys es → DvAll K H (xs ++ ys) (ds ++ es)
  | _, _, _, _, .nil, s => s
  | _, _, _, _, .cons r t, s => .cons r (DvAll.append t s)
theorem DvAll.take : ∀ {xs : List V} {ds : List PyData} (n : Nat), DvAll K H xs ds → DvAll K H (xs.take n) (ds.take n)
  | _, _, 0, _ => .nil
  | _, _, _ + 1, .nil => .nil
  | _, _, n + 1, .cons r t => .cons r (DvAll.take n t)
theorem DvAll.drop : ∀ {xs : List V} {ds : List PyData} (n : Nat), DvAll K H xs ds → DvAll K H (xs.drop n) (ds.drop n)
  | _, _, 0, r => r
  | _, _, _ + 1, .nil => .nil
  | _, _, n + 1, .cons _ t => DvAll.drop n t
theorem DvAll.set : ∀ {xs : List V} {ds : List PyData} (i : Nat) {v : V} {d : PyData}, Dv K H v d → DvAll K H xs ds → DvAll K H (xs.set i v) (ds.set i d)
  | _, _, _, _, _, _, .nil => .nil
  | _, _, 0, _, _, h, .cons _ t => .cons h t
  | _, _, i + 1, _, _, h, .cons q t => .cons q (DvAll.set i h t)
theorem DvAll.reverse {xs : List V} {ds : List PyData} (h : DvAll K H xs ds) : DvAll K H xs.reverse ds.reverse := by
  induction xs generalizing ds with
  | nil => cases h; exact .nil
  | cons x xs ih => cases h with | cons a b => rw [List.reverse_cons, List.reverse_cons]; exact (ih b).append (.cons a .nil)
theorem DvAll.dropLast {xs : List V} {ds : List PyData} (h : DvAll K H xs ds) : DvAll K H xs.dropLast ds.dropLast := by
  rw [List.dropLast_eq_take, List.dropLast_eq_take, ← h.length]; exact h.take _
theorem DvAll.eraseIdx : ∀ {xs : List V} {ds : List PyData} (i : Nat), DvAll K H xs ds → DvAll K H (xs.eraseIdx i) (ds.eraseIdx i)
  | _, _, _, .nil => .nil
  | _, _, 0, .cons _ t => t
  | _, _, i + 1, .cons h t => .cons h (DvAll.eraseIdx i t)
end
end L2
namespace GL
open PySem PySem.Spec L2
open PyProof.Rows hiding St

/-- what a slot holds: data that nobody changes, or a list that the slot alone holds -/
inductive PV where
  | val (d : PyData)
  | own (d : PyData)
abbrev PSt := List (Option PV)
structure Exn where
  cls : Str
  fld : Option (Str × PyData) := none
inductive Rs (α : Type) where
  | ok (a : α) (ps : PSt)
  | exc (x : Exn) (ps : PSt)
  | bad
def Rs.bind {α β : Type} (r : Rs α) (g : α → PSt → Rs β) : Rs β := match r with
  | .ok a ps => g a ps
  | .exc x ps => .exc x ps
  | .bad => .bad
def Rs.map {α β : Type} (r : Rs α) (g : α → β) : Rs β := match r with
  | .ok a ps => .ok (g a) ps
  | .exc x ps => .exc x ps
  | .bad => .bad
def opt {α : Type} (o : Option α) (ps : PSt) : Rs α := match o with
  | some a => .ok a ps
  | none => .bad
inductive Os where
  | nx (ps : PSt) | ret (v : PV) (ps : PSt) | brk (ps : PSt) | ct (ps : PSt) | exc (x : Exn) (ps : PSt) | bad

section
variable {K : PySem.W.Frag} {F F' H H' H'' : Hp}
theorem same_upd {p : Addr} {o : HO} (h : H p = none) : Same H (upd H p o) := fun b u e => by rw [upd_ne (ne_of_none e h)]; exact e

/-- an operation's end: what was stands, new data may have come -/
structure Gr (F H F' H' : Hp) : Prop where
  grow : Same F F'
  fresh : ∀ b o, F' b = some o → F b = some o ∨ H b = none
  keep : Same H H'
  le : Same F' H'
theorem Gr.refl (h : Same F H) : Gr F H F H := ⟨.refl _, fun _ _ e => .inl e, .refl _, h⟩
theorem Gr.new (h : Same F H) {p : Addr} {o : HO} (hp : H p = none) : Gr F H (upd F p o) (upd H p o) where
  grow := same_upd (h.free hp)
  fresh := fun b u e => by
    by_cases hb : b = p
    · exact .inr (hb ▸ hp)
    · rw [upd_ne hb] at e; exact .inl e
  keep := same_upd hp
  le := fun b u e => by
    by_cases hb : b = p
    · subst hb; rw [upd_same] at e ⊢; exact e
    · rw [upd_ne hb] at e ⊢; exact h b u e

/-! ### slots -/
/-- what stands at an address that its holder alone knows: a list, a dict -/
def Cont (K : PySem.W.Frag) (F : Hp) (a : Addr) (o : HO) (d : PyData) : Prop := (∃ xs ds, d = .list ds ∧ o = .lst xs ∧ DvAll K F xs ds) ∨ ∃ L kvs, d = .dict kvs ∧ o = dO a L ∧ DvKv K F L kvs
def OwnAt (K : PySem.W.Frag) (F H : Hp) (a : Addr) (d : PyData) : Prop := F a = none ∧ ∃ o, H a = some o ∧ Cont K F a o d
def SlotR (K : PySem.W.Frag) (F H : Hp) (x : Option V) : Option PV → Prop
  | none => True
  | some (.val d) => ∃ v, x = some v ∧ Dv K F v d
  | some (.own d) => ∃ a, x = some (.ref a) ∧ OwnAt K F H a d
def Owned (σ : St) (ps : PSt) (b : Addr) : Prop := ∃ (i : Nat) (d : PyData), ps[i]? = some (some (PV.own d)) ∧ σ[i]? = some (some (V.ref b))
structure SR (K : PySem.W.Frag) (Bo : Option Addr) (F H : Hp) (σ : St) (ps : PSt) : Prop where
  le : Same F H
  len : ps.length = σ.length
  sl : ∀ (i : Nat) x p, σ[i]? = some x → ps[i]? = some p → SlotR K F H x p
  apart : ∀ (i j : Nat) (a : Addr) (d e : PyData), ps[i]? = some (some (PV.own d)) → ps[j]? = some (some (PV.own e)) → σ[i]? = some (some (V.ref a)) → σ[j]? = some (some (V.ref a)) → i = j
  bo : ∀ a, Bo = some a → σ[0]? = some (some (V.ref a)) ∧ ∃ d, ps[0]? = some (some (PV.own (PyData.list d)))
structure Step (F H : Hp) (σ : St) (ps : PSt) (F' H' : Hp) (σ' : St) (ps' : PSt) : Prop where
  grow : Same F F'
  fresh : ∀ b o, F' b = some o → F b = some o ∨ H b = none ∨ Owned σ ps b
  keep : ∀ b o, H b = some o → ¬ Owned σ ps b → H' b = some o
  own : ∀ b, Owned σ' ps' b → Owned σ ps b ∨ H b = none
end
section
variable {K : PySem.W.Frag} {Bo : Option Addr} {F F1 F2 H H1 H2 : Hp} {σ σ1 σ2 : St} {ps ps1 ps2 : PSt}
theorem Step.refl : Step F H σ ps F H σ ps := ⟨.refl _, fun _ _ e => .inl e, fun _ _ e _ => e, fun _ h => .inl h⟩
theorem Step.trans (a : Step F H σ ps F1 H1 σ1 ps1) (b : Step F1 H1 σ1 ps1 F2 H2 σ2 ps2) : Step F H σ ps F2 H2 σ2 ps2 := by
  have gone : ∀ b, H1 b = none → H b = none ∨ Owned σ ps b := fun b e => by
    by_cases ho : Owned σ ps b
    · exact .inr ho
    · refine .inl ?_
      cases q : H b with
      | none => rfl
      | some o => have := a.keep b o q ho; rw [e] at this; cases this
  refine ⟨a.grow.trans b.grow, fun c o e => ?_, fun c o e n => ?_, fun c h => ?_⟩
  · rcases b.fresh c o e with q | q | q
    · exact a.fresh c o q
    · exact .inr (gone c q)
    · rcases a.own c q with z | z
      · exact .inr (.inr z)
      · exact .inr (.inl z)
  · refine b.keep c o (a.keep c o e n) fun z => ?_
    rcases a.own c z with y | y
    · exact n y
    · rw [e] at y; cases y
  · rcases b.own c h with z | z
    · exact a.own c z
    · exact (gone c z).symm
theorem Step.of_gr (g : Gr F H F1 H1) : Step F H σ ps F1 H1 σ ps :=
  ⟨g.grow, fun b o e => (g.fresh b o e).elim .inl fun z => .inr (.inl z), fun b o e _ => g.keep b o e, fun _ h => .inl h⟩
theorem Cont.mono {a : Addr} {o : HO} {d : PyData} (e : Same F F1) (h : Cont K F a o d) : Cont K F1 a o d := by
  rcases h with ⟨xs, ds, h1, h2, h3⟩ | ⟨L, kvs, h1, h2, h3⟩
  · exact .inl ⟨xs, ds, h1, h2, h3.mono e⟩
  · exact .inr ⟨L, kvs, h1, h2, h3.mono e⟩
theorem Cont.dv {a : Addr} {o : HO} {d : PyData} (hn : F a = none) (h : Cont K F a o d) : Dv K (upd F a o) (.ref a) d := by
  rcases h with ⟨xs, ds, rfl, rfl, h3⟩ | ⟨L, kvs, rfl, rfl, h3⟩
  · exact .lst (SqL.of upd_same) (h3.mono (same_upd hn))
  · exact .dct upd_same (h3.mono (same_upd hn))
def OwnL (K : PySem.W.Frag) (F H : Hp) (a : Addr) (d : PyData) : Prop := F a = none ∧ ∃ xs ds, d = .list ds ∧ H a = some (.lst xs) ∧ DvAll K F xs ds
theorem OwnAt.l {a : Addr} {ds : List PyData} (h : OwnAt K F H a (.list ds)) : OwnL K F H a (.list ds) := by
  obtain ⟨n, o, h1, h2⟩ := h
  rcases h2 with ⟨xs, es, h1', rfl, h3⟩ | ⟨L, kvs, h1', _, _⟩
  · exact ⟨n, xs, es, h1', h1, h3⟩
  · cases h1'
theorem OwnL.at {a : Addr} {d : PyData} (h : OwnL K F H a d) : OwnAt K F H a d := by
  obtain ⟨n, xs, ds, e, h1, h2⟩ := h
  exact ⟨n, _, h1, .inl ⟨xs, ds, e, rfl, h2⟩⟩
def OwnD (K : PySem.W.Frag) (F H : Hp) (a : Addr) (kvs : List (PyData × PyData)) : Prop := F a = none ∧ ∃ L, H a = some (dO a L) ∧ DvKv K F L kvs
theorem OwnAt.d {a : Addr} {kvs : List (PyData × PyData)} (h : OwnAt K F H a (.dict kvs)) : OwnD K F H a kvs := by
  obtain ⟨n, o, h1, h2⟩ := h
  rcases h2 with ⟨xs, es, h1', _, _⟩ | ⟨L, kvs', h1', rfl, h3⟩
  · cases h1'
  · cases h1'
    exact ⟨n, L, h1, h3⟩
theorem OwnD.at {a : Addr} {kvs : List (PyData × PyData)} (h : OwnD K F H a kvs) : OwnAt K F H a (.dict kvs) := by
  obtain ⟨n, L, h1, h2⟩ := h
  exact ⟨n, _, h1, .inr ⟨L, kvs, rfl, rfl, h2⟩⟩
theorem OwnAt.gr {a : Addr} {d : PyData} (g : Gr F H F1 H1) (h : OwnAt K F H a d) : OwnAt K F1 H1 a d := by
  obtain ⟨n, c, h1, h2⟩ := h
  refine ⟨?_, c, g.keep _ _ h1, h2.mono g.grow⟩
  cases q : F1 a with
  | none => rfl
  | some o =>
    rcases g.fresh a o q with z | z
    · rw [n] at z; cases z
    · rw [h1] at z; cases z
theorem SR.gr (s : SR K Bo F H σ ps) (g : Gr F H F1 H1) : SR K Bo F1 H1 σ ps := by
  refine ⟨g.le, s.len, fun i x p e1 e2 => ?_, s.apart, s.bo⟩
  have q := s.sl i x p e1 e2
  match p, q with
  | none, _ => trivial
  | some (.val d), ⟨v, e, h⟩ => exact ⟨v, e, h.mono g.grow⟩
  | some (.own d), ⟨a, e, h⟩ => exact ⟨a, e, h.gr g⟩
theorem SR.at (s : SR K Bo F H σ ps) {i : Nat} {p : Option PV} (e : ps[i]? = some p) : ∃ x, σ[i]? = some x ∧ SlotR K F H x p := by
  have hi : i < σ.length := by rw [← s.len]; exact (List.getElem?_eq_some_iff.mp e).1
  exact ⟨σ[i], by simp [hi], s.sl i _ p (by simp [hi]) e⟩
theorem SR.val (s : SR K Bo F H σ ps) {i : Nat} {d : PyData} (e : ps[i]? = some (some (.val d))) : ∃ v, σ[i]? = some (some v) ∧ Dv K F v d := by
  obtain ⟨x, h1, v, rfl, h2⟩ := s.at e
  exact ⟨v, h1, h2⟩
theorem SR.own (s : SR K Bo F H σ ps) {i : Nat} {d : PyData} (e : ps[i]? = some (some (.own d))) : ∃ a, σ[i]? = some (some (.ref a)) ∧ OwnAt K F H a d := by
  obtain ⟨x, h1, v, rfl, h2⟩ := s.at e
  exact ⟨v, h1, h2⟩
theorem SR.ownL (s : SR K Bo F H σ ps) {i : Nat} {ds : List PyData} (e : ps[i]? = some (some (.own (.list ds)))) : ∃ a, σ[i]? = some (some (.ref a)) ∧ OwnL K F H a (.list ds) := by
  obtain ⟨a, h1, h2⟩ := s.own e
  exact ⟨a, h1, h2.l⟩
theorem SR.ownD (s : SR K Bo F H σ ps) {i : Nat} {kvs : List (PyData × PyData)} (e : ps[i]? = some (some (.own (.dict kvs)))) : ∃ a, σ[i]? = some (some (.ref a)) ∧ OwnD K F H a kvs := by
  obtain ⟨a, h1, h2⟩ := s.own e
  exact ⟨a, h1, h2.d⟩
theorem SR.unowned (s : SR K Bo F H σ ps) {b : Addr} {o : HO} (e : F b = some o) : ¬ Owned σ ps b := by
  rintro ⟨i, d, h1, h2⟩
  obtain ⟨a, h3, h4, _⟩ := s.own h1
  rw [h2] at h3; cases h3
  rw [e] at h4; cases h4

/-- a slot (not the lent one) gets new data, or is forgotten -/
theorem owned_set {i : Nat} {x : Option V} {p : Option PV} (hp : ∀ d, p ≠ some (.own d)) {b : Addr} (h : Owned (σ.set i x) (ps.set i p) b) : Owned σ ps b := by
  obtain ⟨j, d, h1, h2⟩ := h
  by_cases hj : i = j
  · subst hj
    by_cases hl : i < ps.length
    · rw [List.getElem?_set_self hl] at h1; exact absurd (Option.some.inj h1) (hp d)
    · rw [List.getElem?_eq_none (by simpa using hl)] at h1; cases h1
  · rw [List.getElem?_set_ne hj] at h1 h2
    exact ⟨j, d, h1, h2⟩
theorem SR.setV (s : SR K Bo F H σ ps) {i : Nat} {v : V} {d : PyData} (hb : Bo = none ∨ i ≠ 0) (h : Dv K F v d) : SR K Bo F H (σ.set i (some v)) (ps.set i (some (.val d))) := by
  refine ⟨s.le, by simp [s.len], fun j x p e1 e2 => ?_, fun j k a d e h1 h2 h3 h4 => ?_, fun a e => ?_⟩
  · by_cases hj : i = j
    · subst hj
      have l1 : i < σ.length := by have := (List.getElem?_eq_some_iff.mp e1).1; simpa using this
      have l2 : i < ps.length := by rw [s.len]; exact l1
      rw [List.getElem?_set_self l1] at e1
      rw [List.getElem?_set_self l2] at e2
      cases e1; cases e2
      exact ⟨v, rfl, h⟩
    · rw [List.getElem?_set_ne hj] at e1 e2
      exact s.sl j x p e1 e2
  · have f : ∀ {j : Nat} {d : PyData}, (ps.set i (some (.val d)))[j]? = some (some (.own e)) → True := fun _ => trivial
    have ne : ∀ {j : Nat} {d' d'' : PyData}, (ps.set i (some (.val d'')))[j]? = some (some (.own d')) → i ≠ j := fun {j d' d''} q z => by
      subst z
      by_cases hl : i < ps.length
      · rw [List.getElem?_set_self hl] at q; cases q
      · rw [List.getElem?_eq_none (by simpa using hl)] at q; cases q
    have n1 := ne h1
    have n2 := ne h2
    rw [List.getElem?_set_ne n1] at h1 h3
    rw [List.getElem?_set_ne n2] at h2 h4
    exact s.apart j k a _ _ h1 h2 h3 h4
  · obtain ⟨h1, d', h2⟩ := s.bo a e
    have n : i ≠ 0 := hb.resolve_left (by rw [e]; simp)
    exact ⟨by rw [List.getElem?_set_ne n]; exact h1, d', by rw [List.getElem?_set_ne n]; exact h2⟩
theorem Step.setV {i : Nat} {v : V} {d : PyData} : Step F H σ ps F H (σ.set i (some v)) (ps.set i (some (.val d))) :=
  ⟨.refl _, fun _ _ e => .inl e, fun _ _ e _ => e, fun _ h => .inl (owned_set (fun _ q => by cases q) h)⟩
/-- a slot is forgotten by the pure state -/
theorem owned_kill {i : Nat} {b : Addr} (h : Owned σ (ps.set i none) b) : Owned σ ps b := by
  obtain ⟨j, d, h1, h2⟩ := h
  by_cases hj : i = j
  · subst hj
    by_cases hl : i < ps.length
    · rw [List.getElem?_set_self hl] at h1; cases h1
    · rw [List.getElem?_eq_none (by simpa using hl)] at h1; cases h1
  · rw [List.getElem?_set_ne hj] at h1
    exact ⟨j, d, h1, h2⟩
theorem SR.kill (s : SR K Bo F H σ ps) {i : Nat} (hb : Bo = none ∨ i ≠ 0) : SR K Bo F H σ (ps.set i none) := by
  have un : ∀ {j : Nat} {p : PV}, (ps.set i none)[j]? = some (some p) → ps[j]? = some (some p) := fun {j p} q => by
    by_cases hj : i = j
    · subst hj
      by_cases hl : i < ps.length
      · rw [List.getElem?_set_self hl] at q; cases q
      · rw [List.getElem?_eq_none (by simpa using hl)] at q; cases q
    · rw [List.getElem?_set_ne hj] at q; exact q
  refine ⟨s.le, by simp [s.len], fun j x p e1 e2 => ?_, fun j k a d e h1 h2 => s.apart j k a d e (un h1) (un h2), fun a e => ?_⟩
  · cases p with
    | none => trivial
    | some p => exact s.sl j x _ e1 (un e2)
  · obtain ⟨h1, d', h2⟩ := s.bo a e
    have n : i ≠ 0 := hb.resolve_left (by rw [e]; simp)
    exact ⟨h1, d', by rw [List.getElem?_set_ne n]; exact h2⟩
theorem Step.kill {i : Nat} : Step F H σ ps F H σ (ps.set i none) := ⟨.refl _, fun _ _ e => .inl e, fun _ _ e _ => e, fun _ h => .inl (owned_kill h)⟩
/-- the list of a slot is given out for good: nobody changes it any more -/
theorem SR.freezeA (s : SR K Bo F H σ ps) {i : Nat} {d0 : PyData} (hb : Bo = none ∨ i ≠ 0) (e : ps[i]? = some (some (.own d0))) : ∃ a o, σ[i]? = some (some (.ref a)) ∧ H a = some o ∧ Cont K F a o d0 ∧
    SR K Bo (upd F a o) H σ (ps.set i (some (.val d0))) ∧ Step F H σ ps (upd F a o) H σ (ps.set i (some (.val d0))) ∧ Dv K (upd F a o) (.ref a) d0 := by
  obtain ⟨a, h1, hn, xs, h2, h3⟩ := s.own e
  have g : Same F (upd F a xs) := same_upd hn
  have dp : Dv K (upd F a xs) (.ref a) d0 := h3.dv hn
  have hi : i < ps.length := (List.getElem?_eq_some_iff.mp e).1
  refine ⟨a, xs, h1, h2, h3, ⟨fun b o q => ?_, by simp [s.len], fun j x p e1 e2 => ?_, fun j k c d d2 q1 q2 q3 q4 => ?_, fun c e => ?_⟩, ⟨g, fun b o q => ?_, fun _ _ q _ => q, fun b q => ?_⟩, dp⟩
  · by_cases hb : b = a
    · subst hb; rw [upd_same] at q; cases q; exact h2
    · rw [upd_ne hb] at q; exact s.le b o q
  · by_cases hj : i = j
    · subst hj
      rw [List.getElem?_set_self hi] at e2; cases e2
      rw [h1] at e1; cases e1
      exact ⟨_, rfl, dp⟩
    · rw [List.getElem?_set_ne hj] at e2
      have q := s.sl j x p e1 e2
      match p, q with
      | none, _ => trivial
      | some (.val d), ⟨v, z, h⟩ => exact ⟨v, z, h.mono g⟩
      | some (.own d), ⟨c, z, n, ys, r2, r3⟩ =>
        refine ⟨c, z, ?_, ys, r2, r3.mono g⟩
        have : c ≠ a := fun w => by
          subst w; subst z
          exact hj (s.apart i j c _ _ e e2 h1 e1)
        rw [upd_ne this]; exact n
  · have ne : ∀ {j : Nat} {d' : PyData}, (ps.set i (some (.val d0)))[j]? = some (some (.own d')) → i ≠ j := fun {j d'} q z => by
      subst z
      rw [List.getElem?_set_self hi] at q; cases q
    have n1 := ne q1
    have n2 := ne q2
    rw [List.getElem?_set_ne n1] at q1
    rw [List.getElem?_set_ne n2] at q2
    exact s.apart j k c _ _ q1 q2 q3 q4
  · obtain ⟨r1, d', r2⟩ := s.bo c e
    have n : i ≠ 0 := hb.resolve_left (by rw [e]; simp)
    exact ⟨r1, d', by rw [List.getElem?_set_ne n]; exact r2⟩
  · by_cases hb : b = a
    · subst hb; exact .inr (.inr ⟨i, _, e, h1⟩)
    · rw [upd_ne hb] at q; exact .inl q
  · obtain ⟨j, d, q1, q2⟩ := q
    by_cases hj : i = j
    · subst hj; rw [List.getElem?_set_self hi] at q1; cases q1
    · rw [List.getElem?_set_ne hj] at q1; exact .inl ⟨j, d, q1, q2⟩
theorem SR.freeze (s : SR K Bo F H σ ps) {i : Nat} {ds : List PyData} (hb : Bo = none ∨ i ≠ 0) (e : ps[i]? = some (some (.own (.list ds)))) : ∃ a xs, σ[i]? = some (some (.ref a)) ∧ H a = some (.lst xs) ∧
    SR K Bo (upd F a (.lst xs)) H σ (ps.set i (some (.val (.list ds)))) ∧ Step F H σ ps (upd F a (.lst xs)) H σ (ps.set i (some (.val (.list ds)))) ∧ Dv K (upd F a (.lst xs)) (.ref a) (.list ds) := by
  obtain ⟨a, o, h1, h2, h3, h4⟩ := s.freezeA hb e
  rcases h3 with ⟨xs, es, _, rfl, _⟩ | ⟨L, kvs, h1', _, _⟩
  · exact ⟨a, xs, h1, h2, h4⟩
  · cases h1'
end
end GL

/-! GLb: the judgements by functions; expressions -/
namespace GL
open PySem PySem.Spec L2
open PyProof.Rows hiding St

/-- how an exception of the pure world lies in the heap -/
def ExR (K : PySem.W.Frag) (mg : Str → Option Value) (x : Exn) (cls : Value) (dd : Option Addr) (F H : Hp) : Prop :=
  ∃ C, mg x.cls = some (.ref C) ∧ cls = .ref C ∧ match x.fld with
    | none => dd = none
    | some (n, d) => ∃ a v, dd = some a ∧ H a = some (.xd [(n, v)]) ∧ Dv K F v d

abbrev RT (β α : Type) := St → Hp → Hp → PSt → Hp → Hp → PSt → β → α → Prop
def Rebase {β α : Type} (R : RT β α) : Prop := ∀ σ F H ps F1 H1 ps1 F' H' ps' v a, Step F H σ ps F1 H1 σ ps1 → R σ F1 H1 ps1 F' H' ps' v a → R σ F H ps F' H' ps' v a
def Goal {β α : Type} (K : PySem.W.Frag) (mg : Str → Option Value) (Bo : Option Addr) (W : WX) (R : RT β α) (r : Rs α) (F H : Hp) (σ : St) (ps : PSt) (Q : β → Hp → Prop) : Prop := match r with
  | .ok d ps' => ∀ v F' H', Step F H σ ps F' H' σ ps' → SR K Bo F' H' σ ps' → R σ F H ps F' H' ps' v d → Q v H'
  | .exc x ps' => ∀ cls dd F' H', Step F H σ ps F' H' σ ps' → SR K Bo F' H' σ ps' → ExR K mg x cls dd F' H' → W cls dd σ H'
  | .bad => False
def tR {β α : Type} (K : PySem.W.Frag) (mg : Str → Option Value) (Bo : Option Addr) (W : WX) (R : RT β α) (f : PSt → Rs α) : St → Hp → (β → Hp → Prop) → Prop :=
  fun σ H Q => ∃ F ps, SR K Bo F H σ ps ∧ Goal K mg Bo W R (f ps) F H σ ps Q
def RV (K : PySem.W.Frag) : RT V PyData := fun _ _ _ _ F' _ _ v d => Dv K F' v d
def RA (K : PySem.W.Frag) : RT (List V) (List PyData) := fun _ _ _ _ F' _ _ v d => DvAll K F' v d
def RB : RT Bool Bool := fun _ _ _ _ _ _ _ b c => b = c
def RO (K : PySem.W.Frag) : RT V PV := fun σ F H ps F' H' ps' v p => match p with
  | .val d => Dv K F' v d
  | .own d => ∃ a, v = .ref a ∧ OwnAt K F' H' a d ∧ ¬ Owned σ ps' a ∧ (Owned σ ps a ∨ H a = none)
theorem RV.rb {K : PySem.W.Frag} : Rebase (RV K) := fun _ _ _ _ _ _ _ _ _ _ _ _ _ h => h
theorem RA.rb {K : PySem.W.Frag} : Rebase (RA K) := fun _ _ _ _ _ _ _ _ _ _ _ _ _ h => h
theorem RB.rb : Rebase RB := fun _ _ _ _ _ _ _ _ _ _ _ _ _ h => h
theorem Step.new {F H F1 H1 : Hp} {σ σ1 : St} {ps ps1 : PSt} (s : Step F H σ ps F1 H1 σ1 ps1) {a : Addr} (h : Owned σ1 ps1 a ∨ H1 a = none) : Owned σ ps a ∨ H a = none := by
  rcases h with h | h
  · exact s.own a h
  · by_cases ho : Owned σ ps a
    · exact .inl ho
    · refine .inr ?_
      cases q : H a with
      | none => rfl
      | some o => have := s.keep a o q ho; rw [h] at this; cases this
theorem RO.rb {K : PySem.W.Frag} : Rebase (RO K) := fun σ F H ps F1 H1 ps1 F' H' ps' v p st h => by
  match p, h with
  | .val d, h => exact h
  | .own d, ⟨a, h1, h2, h3, h4⟩ => exact ⟨a, h1, h2, h3, st.new h4⟩

section
variable {K : PySem.W.Frag} {mg : Str → Option Value} {Bo : Option Addr} {W : WX} {F H F1 H1 : Hp} {σ : St} {ps ps1 : PSt}
theorem Goal.rebase {β α : Type} {R : RT β α} (hR : Rebase R) {r : Rs α} {Q : β → Hp → Prop} (h : Goal K mg Bo W R r F H σ ps Q) (st : Step F H σ ps F1 H1 σ ps1) : Goal K mg Bo W R r F1 H1 σ ps1 Q := by
  cases r with
  | ok d ps' => exact fun v F' H' s2 sr hv => h v F' H' (st.trans s2) sr (hR _ _ _ _ _ _ _ _ _ _ _ _ st hv)
  | exc x ps' => exact fun cls dd F' H' s2 sr hv => h cls dd F' H' (st.trans s2) sr hv
  | bad => exact h
/-- first f1, then what g makes of it -/
theorem go_bind {β α γ δ : Type} {R1 : RT β α} {R2 : RT γ δ} (hR : Rebase R2) {f1 : PSt → Rs α} {g : α → PSt → Rs δ} {Q : γ → Hp → Prop} {K1 : β → Hp → Prop} (sr : SR K Bo F H σ ps) (h : Goal K mg Bo W R2 ((f1 ps).bind g) F H σ ps Q)
    (k : ∀ v a F1 H1 ps1, SR K Bo F1 H1 σ ps1 → Step F H σ ps F1 H1 σ ps1 → R1 σ F H ps F1 H1 ps1 v a → Goal K mg Bo W R2 (g a ps1) F1 H1 σ ps1 Q → K1 v H1) : tR K mg Bo W R1 f1 σ H K1 := by
  refine ⟨F, ps, sr, ?_⟩
  cases e : f1 ps with
  | ok a ps1 =>
    rw [e] at h
    exact fun v F1 H1 st s1 hv => k v a F1 H1 ps1 s1 st hv (Goal.rebase hR h st)
  | exc x ps1 => rw [e] at h; exact h
  | bad => rw [e] at h; exact h
theorem tR_bind {β α γ δ : Type} {R1 : RT β α} {R2 : RT γ δ} (hR : Rebase R2) {f1 : PSt → Rs α} {g : α → PSt → Rs δ} {Q : γ → Hp → Prop} {K1 : β → Hp → Prop} (h : tR K mg Bo W R2 (fun ps => (f1 ps).bind g) σ H Q)
    (k : ∀ v a F F1 H1 ps ps1, SR K Bo F1 H1 σ ps1 → Step F H σ ps F1 H1 σ ps1 → R1 σ F H ps F1 H1 ps1 v a → Goal K mg Bo W R2 (g a ps1) F1 H1 σ ps1 Q → K1 v H1) : tR K mg Bo W R1 f1 σ H K1 := by
  obtain ⟨F, ps, sr, h⟩ := h
  exact go_bind hR sr h fun v a F1 H1 ps1 => k v a F F1 H1 ps ps1
/-- an operation at the end -/
theorem go_end {Q : V → Hp → Prop} {o : Option PyData} (sr : SR K Bo F H σ ps) (h : Goal K mg Bo W (RV K) (opt o ps) F H σ ps Q) : ∃ d, o = some d ∧ ∀ v F' H', Gr F H F' H' → Dv K F' v d → Q v H' := by
  cases o with
  | none => exact h.elim
  | some d => exact ⟨d, rfl, fun v F' H' g hv => h v F' H' (Step.of_gr g) (sr.gr g) hv⟩
end

end GL
namespace L2
open PySem PySem.Spec
theorem PE.imp {X : Cx} {e : Expr} {t t' : TE} (h : PE X e t) (i : ∀ σ H Q, t' σ H Q → t σ H Q) : PE X e t' := ⟨fun pins s σ H Q I q => h.run pins s σ H Q I (i _ _ _ q)⟩
theorem PT.imp {X : Cx} {e : Expr} {t t' : TT} (h : PT X e t) (i : ∀ σ H Q, t' σ H Q → t σ H Q) : PT X e t' := ⟨fun pins s σ H Q I q => h.run pins s σ H Q I (i _ _ _ q)⟩
theorem PW.imp {X : Cx} {e : Expr} {t t' : TT} (h : PW X e t) (i : ∀ σ H Q, t' σ H Q → t σ H Q) : PW X e t' := ⟨fun wh pins s σ H Q I q => h.run wh pins s σ H Q I (i _ _ _ q)⟩
theorem PA.imp {X : Cx} {e : List Expr} {t t' : TA} (h : PA X e t) (i : ∀ σ H Q, t' σ H Q → t σ H Q) : PA X e t' := ⟨fun pos pins s σ H Q I q => h.run pos pins s σ H Q I (i _ _ _ q)⟩
theorem PS.imp {X : Cx} {e : Stmt} {t t' : TS} (h : PS X e t) (i : ∀ D σ H, t' D σ H → t D σ H) : PS X e t' := ⟨fun pins s σ H D I q => h.run pins s σ H D I (i _ _ _ q)⟩
theorem PSs.imp {X : Cx} {e : List Stmt} {t t' : TS} (h : PSs X e t) (i : ∀ D σ H, t' D σ H → t D σ H) : PSs X e t' := ⟨fun pins s σ H D I q => h.run pins s σ H D I (i _ _ _ q)⟩

end L2
namespace GL
open PySem PySem.Spec L2
open PyProof.Rows hiding St
/-! ### the judgements -/
def GV (X : Cx) (Bo : Option Addr) (W : WX) (e : Expr) (f : PSt → Rs PyData) : Prop := PE X e (tR X.K X.mg Bo W (RV X.K) f)
def GO (X : Cx) (Bo : Option Addr) (W : WX) (e : Expr) (f : PSt → Rs PV) : Prop := PE X e (tR X.K X.mg Bo W (RO X.K) f)
def GA (X : Cx) (Bo : Option Addr) (W : WX) (es : List Expr) (f : PSt → Rs (List PyData)) : Prop := PA X es (tR X.K X.mg Bo W (RA X.K) f)
def GT (X : Cx) (Bo : Option Addr) (W : WX) (e : Expr) (f : PSt → Rs Bool) : Prop := PT X e (tR X.K X.mg Bo W RB f)
def GW (X : Cx) (Bo : Option Addr) (W : WX) (e : Expr) (f : PSt → Rs Bool) : Prop := PW X e (tR X.K X.mg Bo W RB f)

def PV.data : PV → PyData
  | .val d => d
  | .own d => d
section
variable {X : Cx} {Bo : Option Addr} {W : WX} {e e1 e2 e3 : Expr} {es : List Expr} {f f1 f2 f3 : PSt → Rs PyData} {fa : PSt → Rs (List PyData)} {fo : PSt → Rs PV} {c1 c2 : PSt → Rs Bool} {pos : Pos}

theorem freeze1 {K : PySem.W.Frag} {F H : Hp} {σ : St} {ps : PSt} {a : Addr} {d0 : PyData} {xs : HO} (s : SR K Bo F H σ ps) (hn : F a = none) (h2 : H a = some xs) (h3 : Cont K F a xs d0) (no : ¬ Owned σ ps a) :
    SR K Bo (upd F a xs) H σ ps ∧ Dv K (upd F a xs) (.ref a) d0 := by
  have g : Same F (upd F a xs) := same_upd hn
  refine ⟨⟨fun b o q => ?_, s.len, fun j x p e1 e2 => ?_, s.apart, s.bo⟩, h3.dv hn⟩
  · by_cases hb : b = a
    · subst hb; rw [upd_same] at q; cases q; exact h2
    · rw [upd_ne hb] at q; exact s.le b o q
  · have q := s.sl j x p e1 e2
    match p, q with
    | none, _ => trivial
    | some (.val d), ⟨v, z, h⟩ => exact ⟨v, z, h.mono g⟩
    | some (.own d), ⟨c, z, n, ys, r2, r3⟩ =>
      refine ⟨c, z, ?_, ys, r2, r3.mono g⟩
      have : c ≠ a := fun w => by
        subst w; subst z
        exact no ⟨j, d, e2, e1⟩
      rw [upd_ne this]; exact n

/-- a value that one alone holds is given out -/
theorem gv_of (h : GO X Bo W e fo) : GV X Bo W e (fun ps => (fo ps).map PV.data) := by
  refine h.imp fun σ H Q ⟨F, ps, sr, q⟩ => ⟨F, ps, sr, ?_⟩
  dsimp only at q
  cases e : fo ps with
  | bad => rw [e] at q; exact q
  | exc x ps' => rw [e] at q; exact q
  | ok p ps' =>
    rw [e] at q
    intro v F' H' st sr' hv
    match p, hv with
    | .val d, hv => exact q v F' H' st sr' hv
    | .own d, hv =>
      obtain ⟨a, rfl, ⟨hn, xs, h2, h3⟩, no, nw⟩ := hv
      obtain ⟨s2, dp⟩ := freeze1 sr' hn h2 h3 no
      refine q (.ref a) (upd F' a xs) H' ⟨st.grow.trans (same_upd hn), fun b o z => ?_, st.keep, st.own⟩ s2 dp
      by_cases hb : b = a
      · subst hb; exact .inr nw.symm
      · rw [upd_ne hb] at z; exact st.fresh b o z
theorem go_of (h : GV X Bo W e f) : GO X Bo W e (fun ps => (f ps).map PV.val) := by
  refine h.imp fun σ H Q ⟨F, ps, sr, q⟩ => ⟨F, ps, sr, ?_⟩
  dsimp only at q
  cases e : f ps with
  | bad => rw [e] at q; exact q
  | exc x ps' => rw [e] at q; exact q
  | ok d ps' => rw [e] at q; exact q

/-! ### constants, names -/
def fK (d : PyData) : PSt → Rs PyData := fun ps => .ok d ps
theorem gv_const {v : V} {d : PyData} (h : PE X e (tC v)) (hd : ∀ F, Dv X.K F v d) : GV X Bo W e (fK d) :=
  h.imp fun σ H Q ⟨F, ps, sr, q⟩ => q v F H .refl sr (hd F)
theorem gv_int {i j pos} : GV X Bo W (.Constant (.int i) j pos) (fK (.int i)) := gv_const pe_int fun _ => .int i
theorem gv_bl {b j pos} : GV X Bo W (.Constant (.bool b) j pos) (fK (.bool b)) := gv_const pe_bl fun _ => .bl b
theorem gv_non {j pos} : GV X Bo W (.Constant .none j pos) (fK .none) := gv_const pe_non fun _ => .non
theorem gv_str {x j pos} : GV X Bo W (.Constant (.str x) j pos) (fK (.str x)) := gv_const pe_str fun _ => .str x
/-- a module's constant that is a number -/
theorem gv_gint {x : Str} {i : Int} {t : Tok} (hg : Gl X x) (hm : X.mg x = some (.int i t)) (hd : (x == ("__debug__" : Str)) = false := by decide) : GV X Bo W (.Name x pos) (fK (.int i)) := gv_const (pe_glob (v := .int i) hg hm ⟨t, rfl⟩ hd) fun _ => .int i
/-- a name: a list that its slot alone held is given out by this -/
def fN (i : Nat) : PSt → Rs PyData := fun ps => match ps[i]? with
  | some (some (.val d)) => .ok d ps
  | some (some (.own d)) => .ok d (ps.set i (some (.val d)))
  | _ => .bad
theorem gv_name (i : Nat) {x : Str} {pos : Pos} (hb : Bo = none ∨ i ≠ 0 := by first | exact .inl rfl | exact .inr (by decide)) (hN : X.N[i]? = some x := by rfl) (hv : Vis X.env.scope x := by first | exact Or.inl rfl | exact Or.inr (Or.inl rfl) | exact Or.inr (Or.inr rfl)) (hd : (x == ("__debug__" : Str)) = false := by decide)
    (hcd : (x == ("__classdict__" : Str)) = false := by decide) : GV X Bo W (.Name x pos) (fN i) := by
  refine (pe_var hN hv hd hcd).imp fun σ H Q ⟨F, ps, sr, q⟩ => ?_
  unfold fN at q
  match e : ps[i]?, q with
  | some (some (.val d)), q =>
    obtain ⟨v, h1, h2⟩ := sr.val e
    exact ⟨v, h1, q v F H .refl sr h2⟩
  | some (some (.own d)), q =>
    obtain ⟨a, xs, h1, h2, _, s2, st, dp⟩ := sr.freezeA hb e
    exact ⟨.ref a, h1, q (.ref a) _ H st s2 dp⟩
  | none, q => exact q.elim
  | some none, q => exact q.elim
/-- a name whose slot gives up what it holds -/
def fMv (i : Nat) : PSt → Rs PV := fun ps => match ps[i]? with
  | some (some p) => .ok p (ps.set i none)
  | _ => .bad
theorem go_move (i : Nat) {x : Str} {pos : Pos} (hb : Bo = none ∨ i ≠ 0 := by first | exact .inl rfl | exact .inr (by decide)) (hN : X.N[i]? = some x := by rfl) (hv : Vis X.env.scope x := by first | exact Or.inl rfl | exact Or.inr (Or.inl rfl) | exact Or.inr (Or.inr rfl)) (hd : (x == ("__debug__" : Str)) = false := by decide)
    (hcd : (x == ("__classdict__" : Str)) = false := by decide) : GO X Bo W (.Name x pos) (fMv i) := by
  refine (pe_var hN hv hd hcd).imp fun σ H Q ⟨F, ps, sr, q⟩ => ?_
  unfold fMv at q
  match e : ps[i]?, q with
  | some (some (.val d)), q =>
    obtain ⟨v, h1, h2⟩ := sr.val e
    exact ⟨v, h1, q v F H .kill (sr.kill hb) h2⟩
  | some (some (.own d)), q =>
    obtain ⟨a, h1, h2⟩ := sr.own e
    have hi : i < ps.length := (List.getElem?_eq_some_iff.mp e).1
    refine ⟨.ref a, h1, q (.ref a) F H .kill (sr.kill hb) ⟨a, rfl, h2, ?_, .inl ⟨i, d, e, h1⟩⟩⟩
    rintro ⟨j, d', q1, q2⟩
    by_cases hj : i = j
    · subst hj; rw [List.getElem?_set_self hi] at q1; cases q1
    · rw [List.getElem?_set_ne hj] at q1
      exact hj (sr.apart i j a _ _ e q1 h1 q2)
  | none, q => exact q.elim
  | some none, q => exact q.elim
/-- what a slot holds, only looked at -/
def look (i : Nat) : PSt → Option PyData := fun ps => match ps[i]? with
  | some (some p) => some p.data
  | _ => none
theorem SR.look {K : PySem.W.Frag} {F H : Hp} {σ : St} {ps : PSt} (sr : SR K Bo F H σ ps) {i : Nat} {d : PyData} (h : look i ps = some d) : ∃ v, σ[i]? = some (some v) ∧ Dv K H v d ∧
    (∀ ds, d = .list ds → ∃ a xs, v = .ref a ∧ SqL K H a xs ∧ DvAll K F xs ds) ∧ (∀ ds, d = .tuple ds → ∃ a xs, v = .ref a ∧ SqT K H a xs ∧ DvAll K F xs ds) := by
  unfold GL.look at h
  match e : ps[i]?, h with
  | some (some (.val d')), h =>
    cases h
    obtain ⟨v, h1, h2⟩ := sr.val e
    refine ⟨v, h1, h2.mono sr.le, fun ds ed => ?_, fun ds ed => ?_⟩
    · have ed : d' = .list ds := ed
      subst ed
      cases h2 with
      | lst s a => exact ⟨_, _, rfl, sr.le.seq s, a⟩
    · have ed : d' = .tuple ds := ed
      subst ed
      cases h2 with
      | tup s a => exact ⟨_, _, rfl, same_sqt sr.le s, a⟩
  | some (some (.own d')), h =>
    cases h
    obtain ⟨a, h1, hn, o, h2, c⟩ := sr.own e
    rcases c with ⟨xs, ds, rfl, rfl, h3⟩ | ⟨L, kvs, rfl, rfl, h3⟩
    · refine ⟨.ref a, h1, .lst (SqL.of h2) (h3.mono sr.le), fun ds' ed => ?_, fun ds ed => by cases ed⟩
      cases ed
      exact ⟨a, xs, rfl, SqL.of h2, h3⟩
    · exact ⟨.ref a, h1, .dct h2 (h3.mono sr.le), fun ds' ed => (by cases ed), fun ds ed => by cases ed⟩

/-! ### arguments -/
theorem ga_nil : GA X Bo W [] (fun ps => .ok [] ps) := pa_nil.imp fun σ H Q ⟨F, ps, sr, q⟩ => q [] F H .refl sr .nil
def fCons (f : PSt → Rs PyData) (g : PSt → Rs (List PyData)) : PSt → Rs (List PyData) := fun ps => (f ps).bind fun d ps1 => (g ps1).bind fun ds ps2 => .ok (d :: ds) ps2
theorem ga_cons (h : GV X Bo W e f) (t : GA X Bo W es fa) (hs : starEach (e :: es) X.env = (false, eval e X.env) :: starEach es X.env := by rfl) : GA X Bo W (e :: es) (fCons f fa) := by
  refine (pa_cons h t hs).imp fun σ H Q q => ?_
  refine tR_bind RA.rb q fun v d F F1 H1 ps ps1 sr st hv q => ?_
  refine go_bind RA.rb sr q fun vs ds F2 H2 ps2 sr2 st2 hvs q => ?_
  exact q (v :: vs) F2 H2 .refl sr2 (.cons (hv.mono st2.grow) hvs)

/-! ### operators -/
def fBin (D : PyData → PyData → Option PyData) (f1 f2 : PSt → Rs PyData) : PSt → Rs PyData := fun ps => (f1 ps).bind fun a ps1 => (f2 ps1).bind fun b ps2 => opt (D a b) ps2
/-- an operator by data -/
def OpD (K : PySem.W.Frag) (r : R2) (D : PyData → PyData → Option PyData) : Prop := ∀ F H x y a b d Q, Same F H → Dv K F x a → Dv K F y b → D a b = some d → (∀ v F' H', Gr F H F' H' → Dv K F' v d → Q v H') → r x y H Q
theorem op_data {r : R2} {D : PyData → PyData → Option PyData} (hr : OpD X.K r D) (h1 : GV X Bo W e1 f1) (h2 : GV X Bo W e2 f2) : ∀ σ H Q, tR X.K X.mg Bo W (RV X.K) (fBin D f1 f2) σ H Q →
    tOp r (tR X.K X.mg Bo W (RV X.K) f1) (tR X.K X.mg Bo W (RV X.K) f2) σ H Q := fun σ H Q q => by
  refine tR_bind RV.rb q fun v a F F1 H1 ps ps1 sr st hv q => ?_
  refine go_bind RV.rb sr q fun u b F2 H2 ps2 sr2 st2 hu q => ?_
  obtain ⟨d, ed, k⟩ := go_end sr2 q
  exact hr F2 H2 v u a b d Q sr2.le (hv.mono st2.grow) hu ed k
theorem gv_bin {op : Operator} {r : R2} {D : PyData → PyData → Option PyData} (ho : OpR X (binaryOp op) r) (hr : OpD X.K r D) (h1 : GV X Bo W e1 f1) (h2 : GV X Bo W e2 f2) : GV X Bo W (.BinOp e1 op e2 pos) (fBin D f1 f2) :=
  (pe_op ho h1 h2).imp (op_data hr h1 h2)
theorem gv_cmp {op : CmpOp} {r : R2} {D : PyData → PyData → Option PyData} (ho : OpR X (compareOp op) r) (hr : OpD X.K r D) (h1 : GV X Bo W e1 f1) (h2 : GV X Bo W e2 f2) (hm : behindInMarks op e2 = false := by first | exact nomark _ | rfl) :
    GV X Bo W (.Compare e1 [op] [e2] pos) (fBin D f1 f2) := (pe_cmpR ho h1 h2 hm).imp (op_data hr h1 h2)
def fTest (f : PSt → Rs PyData) : PSt → Rs Bool := fun ps => (f ps).bind fun d ps1 => match d with
  | .bool b => .ok b ps1
  | _ => .bad
theorem test_data {t : TE} {f : PSt → Rs PyData} (h : ∀ σ H Q, tR X.K X.mg Bo W (RV X.K) f σ H Q → t σ H Q) : ∀ σ H Q, tR X.K X.mg Bo W RB (fTest f) σ H Q → tTest t σ H Q := fun σ H Q q => by
  refine h σ H _ ?_
  refine tR_bind RB.rb q fun v a F F1 H1 ps ps1 sr st hv q => ?_
  match a, hv, q with
  | .bool b, hv, q =>
    cases hv
    exact ⟨b, rfl, q b F1 H1 .refl sr rfl⟩
  | .none, hv, q => exact q.elim
  | .int _, hv, q => exact q.elim
  | .str _, hv, q => exact q.elim
  | .list _, hv, q => exact q.elim
  | .tuple _, hv, q => exact q.elim
  | .dict _, hv, q => exact q.elim
theorem gt_cmp {op : CmpOp} {r : R2} {D : PyData → PyData → Option PyData} (ho : OpR X (compareOp op) r) (hr : OpD X.K r D) (h1 : GV X Bo W e1 f1) (h2 : GV X Bo W e2 f2) (hm : behindInMarks op e2 = false := by first | exact nomark _ | rfl) :
    GT X Bo W (.Compare e1 [op] [e2] pos) (fTest (fBin D f1 f2)) := (pt_cmpR ho h1 h2 hm).imp (test_data (op_data hr h1 h2))
theorem gt_val (h : GV X Bo W e f) (he : ∀ whole, isTrue e X.env whole = (do let v ← whole; standAt e.pos; holding [v] (truthy v)) := by intro _; rfl) : GT X Bo W e (fTest f) := (pt_val h he).imp (test_data fun _ _ _ q => q)
def fUn (D : PyData → Option PyData) (f : PSt → Rs PyData) : PSt → Rs PyData := fun ps => (f ps).bind fun a ps1 => opt (D a) ps1
def dNeg : PyData → Option PyData
  | .int i => some (.int (-i))
  | _ => none
theorem gv_neg (h : GV X Bo W e f) : GV X Bo W (.UnaryOp .USub e pos) (fUn dNeg f) := by
  refine (pe_un un_neg h).imp fun σ H Q q => ?_
  refine tR_bind RV.rb q fun v a F F1 H1 ps ps1 sr st hv q => ?_
  obtain ⟨d, ed, k⟩ := go_end sr q
  cases hv <;> simp only [dNeg] at ed <;> first | cases ed | skip
  exact ⟨_, rfl, k _ F1 H1 (.refl sr.le) (.int _)⟩

/-! ### and, or, not -/
def fAnd (c1 c2 : PSt → Rs Bool) : PSt → Rs Bool := fun ps => (c1 ps).bind fun b ps1 => if b = true then c2 ps1 else .ok false ps1
def fOr (c1 c2 : PSt → Rs Bool) : PSt → Rs Bool := fun ps => (c1 ps).bind fun b ps1 => if b = true then .ok true ps1 else c2 ps1
def fNot (c : PSt → Rs Bool) : PSt → Rs Bool := fun ps => (c ps).bind fun b ps1 => .ok (!b) ps1
theorem gt_not (h : GT X Bo W e c1) : GT X Bo W (.UnaryOp .Not e pos) (fNot c1) := by
  refine (pt_not h).imp fun σ H Q q => ?_
  refine tR_bind RB.rb q fun b c F F1 H1 ps ps1 sr st hb q => ?_
  subst hb
  exact q (!b) F1 H1 .refl sr rfl
theorem gw_and1 (h : GT X Bo W e c1) : GW X Bo W (.BoolOp .And [e] pos) c1 := pw_and1 h
theorem gw_or1 (h : GT X Bo W e c1) : GW X Bo W (.BoolOp .Or [e] pos) c1 := pw_or1 h
theorem gw_and (h : GT X Bo W e c1) (t : GW X Bo W (.BoolOp .And (e2 :: es) pos) c2) : GW X Bo W (.BoolOp .And (e :: e2 :: es) pos) (fAnd c1 c2) := by
  refine (pw_and h t).imp fun σ H Q q => ?_
  refine tR_bind RB.rb q fun b c F F1 H1 ps ps1 sr st hb q => ?_
  subst hb
  cases b with
  | true => exact ⟨F1, ps1, sr, q⟩
  | false => exact q false F1 H1 .refl sr rfl
theorem gw_or (h : GT X Bo W e c1) (t : GW X Bo W (.BoolOp .Or (e2 :: es) pos) c2) : GW X Bo W (.BoolOp .Or (e :: e2 :: es) pos) (fOr c1 c2) := by
  refine (pw_or h t).imp fun σ H Q q => ?_
  refine tR_bind RB.rb q fun b c F F1 H1 ps ps1 sr st hb q => ?_
  subst hb
  cases b with
  | true => exact q true F1 H1 .refl sr rfl
  | false => exact ⟨F1, ps1, sr, q⟩
theorem gt_w (h : GW X Bo W e c1) : GT X Bo W e c1 := PW.pt h
/-- as values -/
def fAndV (f1 f2 : PSt → Rs PyData) : PSt → Rs PyData := fun ps => (fTest f1 ps).bind fun b ps1 => if b = true then f2 ps1 else .ok (.bool false) ps1
def fOrV (f1 f2 : PSt → Rs PyData) : PSt → Rs PyData := fun ps => (fTest f1 ps).bind fun b ps1 => if b = true then .ok (.bool true) ps1 else f2 ps1
def fNotV (f : PSt → Rs PyData) : PSt → Rs PyData := fun ps => (fTest f ps).bind fun b ps1 => .ok (.bool (!b)) ps1
theorem gv_one {op} (h : GV X Bo W e f) : GV X Bo W (.BoolOp op [e] pos) f := pe_one h
theorem gv_and (h : GV X Bo W e f1) (t : GV X Bo W (.BoolOp .And (e2 :: es) pos) f2) : GV X Bo W (.BoolOp .And (e :: e2 :: es) pos) (fAndV f1 f2) := by
  refine (pe_and h t).imp fun σ H Q q => ?_
  refine test_data (t := tR X.K X.mg Bo W (RV X.K) f1) (Q := fun c H1 => if c = true then tR X.K X.mg Bo W (RV X.K) f2 σ H1 Q else Q (.bl false) H1) (fun _ _ _ q => q) σ H ?_
  refine tR_bind RV.rb q fun b c F F1 H1 ps ps1 sr st hb q => ?_
  subst hb
  cases b with
  | true => exact ⟨F1, ps1, sr, q⟩
  | false => exact q (.bl false) F1 H1 .refl sr (.bl false)
theorem gv_or (h : GV X Bo W e f1) (t : GV X Bo W (.BoolOp .Or (e2 :: es) pos) f2) : GV X Bo W (.BoolOp .Or (e :: e2 :: es) pos) (fOrV f1 f2) := by
  refine (pe_or h t).imp fun σ H Q q => ?_
  refine test_data (t := tR X.K X.mg Bo W (RV X.K) f1) (Q := fun c H1 => if c = true then Q (.bl true) H1 else tR X.K X.mg Bo W (RV X.K) f2 σ H1 Q) (fun _ _ _ q => q) σ H ?_
  refine tR_bind RV.rb q fun b c F F1 H1 ps ps1 sr st hb q => ?_
  subst hb
  cases b with
  | true => exact q (.bl true) F1 H1 .refl sr (.bl true)
  | false => exact ⟨F1, ps1, sr, q⟩
theorem gv_not (h : GV X Bo W e f) : GV X Bo W (.UnaryOp .Not e pos) (fNotV f) := by
  refine (pe_not h).imp fun σ H Q q => ?_
  refine test_data (t := tR X.K X.mg Bo W (RV X.K) f) (Q := fun c H1 => Q (.bl (!c)) H1) (fun _ _ _ q => q) σ H ?_
  refine tR_bind RV.rb q fun b c F F1 H1 ps ps1 sr st hb q => ?_
  subst hb
  exact q (.bl (!b)) F1 H1 .refl sr (.bl _)
def fIf (c : PSt → Rs Bool) (f1 f2 : PSt → Rs PyData) : PSt → Rs PyData := fun ps => (c ps).bind fun b ps1 => if b = true then f1 ps1 else f2 ps1
theorem gv_if (h : GT X Bo W e c1) (h1 : GV X Bo W e1 f1) (h2 : GV X Bo W e2 f2) : GV X Bo W (.IfExp e e1 e2 pos) (fIf c1 f1 f2) := by
  refine (pe_ifExp h h1 h2).imp fun σ H Q q => ?_
  refine tR_bind RV.rb q fun b c F F1 H1 ps ps1 sr st hb q => ?_
  subst hb
  cases b with
  | true => exact ⟨F1, ps1, sr, q⟩
  | false => exact ⟨F1, ps1, sr, q⟩

/-! ### displays -/
def fTup (fa : PSt → Rs (List PyData)) : PSt → Rs PyData := fun ps => (fa ps).bind fun ds ps1 => if ds.length ≤ sizeLine then .ok (.tuple ds) ps1 else .bad
theorem gv_tup {k} (h : GA X Bo W es fa) : GV X Bo W (.Tuple es k pos) (fTup fa) := by
  refine (pe_tup h).imp fun σ H Q q => ?_
  refine tR_bind RV.rb q fun vs ds F F1 H1 ps ps1 sr st hv q => ?_
  by_cases hz : ds.length ≤ sizeLine
  · rw [if_pos hz] at q
    refine ⟨by rw [L2.DvAll.length hv]; exact hz, fun p hp => ?_⟩
    have g : Gr F1 H1 (upd F1 p (.tup vs)) (upd H1 p (.tup vs)) := .new sr.le hp
    exact q (.ref p) _ _ (.of_gr g) (sr.gr g) (.tup (SqT.of upd_same) (L2.DvAll.mono g.grow hv))
  · rw [if_neg hz] at q; exact q.elim
/-- a new list, its own holder's -/
theorem new_own {K : PySem.W.Frag} {F H : Hp} {σ : St} {ps : PSt} {p : Addr} {xs : List V} {ds : List PyData} (sr : SR K Bo F H σ ps) (hp : H p = none) (h : DvAll K F xs ds) :
    Gr F H F (upd H p (.lst xs)) ∧ SR K Bo F (upd H p (.lst xs)) σ ps ∧ RO K σ F H ps F (upd H p (.lst xs)) ps (.ref p) (.own (.list ds)) := by
  have g : Gr F H F (upd H p (.lst xs)) := ⟨.refl _, fun _ _ e => .inl e, same_upd hp, sr.le.trans (same_upd hp)⟩
  refine ⟨g, sr.gr g, p, rfl, OwnL.at ⟨sr.le.free hp, xs, ds, rfl, upd_same, h⟩, ?_, .inr hp⟩
  rintro ⟨i, d, h1, h2⟩
  obtain ⟨a, h3, _, ys, h4, _⟩ := sr.own h1
  rw [h2] at h3; cases h3
  rw [hp] at h4; cases h4
def fLst (fa : PSt → Rs (List PyData)) : PSt → Rs PV := fun ps => (fa ps).bind fun ds ps1 => if ds.length ≤ sizeLine then .ok (.own (.list ds)) ps1 else .bad
theorem go_lst (h : GA X Bo W es fa) : GO X Bo W (.List es pos) (fLst fa) := by
  refine (pe_lst h).imp fun σ H Q q => ?_
  refine tR_bind RO.rb q fun vs ds F F1 H1 ps ps1 sr st hv q => ?_
  by_cases hz : ds.length ≤ sizeLine
  · rw [if_pos hz] at q
    refine ⟨by rw [L2.DvAll.length hv]; exact hz, fun p hp => ?_⟩
    obtain ⟨g, s2, r⟩ := new_own sr hp hv
    exact q (.ref p) _ _ (.of_gr g) s2 r
  · rw [if_neg hz] at q; exact q.elim
end
end GL

/-! GLc: statements, targets, loops -/
namespace GL
open PySem PySem.Spec L2
open PyProof.Rows hiding St

/-- what is given back: data, or a new list of its own -/
def RF (K : PySem.W.Frag) (F' H H' : Hp) (σ : St) (ps : PSt) (σ' : St) (ps' : PSt) (v : V) : PV → Prop
  | .val d => Dv K F' v d
  | .own d => ∃ a, v = .ref a ∧ OwnAt K F' H' a d ∧ ¬ Owned σ' ps' a ∧ (Owned σ ps a ∨ H a = none)
def GoalS (K : PySem.W.Frag) (mg : Str → Option Value) (Bo : Option Addr) (W : WX) (o : Os) (F H : Hp) (σ : St) (ps : PSt) (D : Ends) : Prop := match o with
  | .nx ps' => ∀ σ' F' H', Step F H σ ps F' H' σ' ps' → SR K Bo F' H' σ' ps' → D.nx σ' H'
  | .brk ps' => ∀ σ' F' H', Step F H σ ps F' H' σ' ps' → SR K Bo F' H' σ' ps' → D.bk σ' H'
  | .ct ps' => ∀ σ' F' H', Step F H σ ps F' H' σ' ps' → SR K Bo F' H' σ' ps' → D.ct σ' H'
  | .ret p ps' => ∀ v σ' F' H', Step F H σ ps F' H' σ' ps' → SR K Bo F' H' σ' ps' → RF K F' H H' σ ps σ' ps' v p → D.rt v H'
  | .exc x ps' => ∀ cls dd σ' F' H', Step F H σ ps F' H' σ' ps' → SR K Bo F' H' σ' ps' → ExR K mg x cls dd F' H' → W cls dd σ' H'
  | .bad => False
def tS (K : PySem.W.Frag) (mg : Str → Option Value) (Bo : Option Addr) (W : WX) (f : PSt → Os) : TS := fun D σ H => ∃ F ps, SR K Bo F H σ ps ∧ GoalS K mg Bo W (f ps) F H σ ps D
def GS (X : Cx) (Bo : Option Addr) (W : WX) (st : Stmt) (f : PSt → Os) : Prop := PS X st (tS X.K X.mg Bo W f)
def GSs (X : Cx) (Bo : Option Addr) (W : WX) (st : List Stmt) (f : PSt → Os) : Prop := PSs X st (tS X.K X.mg Bo W f)

section
variable {K : PySem.W.Frag} {mg : Str → Option Value} {Bo : Option Addr} {W : WX} {F H F1 H1 F2 H2 : Hp} {σ σ1 : St} {ps ps1 ps2 : PSt}
theorem RF.rb {F' H' : Hp} {v : V} {p : PV} {σ' : St} {ps' : PSt} (st : Step F H σ ps F1 H1 σ1 ps1) (h : RF K F' H1 H' σ1 ps1 σ' ps' v p) : RF K F' H H' σ ps σ' ps' v p := by
  match p, h with
  | .val d, h => exact h
  | .own d, h =>
    obtain ⟨a, h1, h2, h3, h4⟩ := h
    exact ⟨a, h1, h2, h3, st.new h4⟩
theorem GoalS.rebase {o : Os} {D : Ends} (h : GoalS K mg Bo W o F H σ ps D) (st : Step F H σ ps F1 H1 σ1 ps1) : GoalS K mg Bo W o F1 H1 σ1 ps1 D := by
  cases o with
  | nx ps' => exact fun σ' F' H' s2 sr => h σ' F' H' (st.trans s2) sr
  | brk ps' => exact fun σ' F' H' s2 sr => h σ' F' H' (st.trans s2) sr
  | ct ps' => exact fun σ' F' H' s2 sr => h σ' F' H' (st.trans s2) sr
  | ret p ps' => exact fun v σ' F' H' s2 sr r => h v σ' F' H' (st.trans s2) sr (r.rb st)
  | exc x ps' => exact fun cls dd σ' F' H' s2 sr r => h cls dd σ' F' H' (st.trans s2) sr r
  | bad => exact h
/-- another end -/
theorem GoalS.mono {o : Os} {D D' : Ends} (h : GoalS K mg Bo W o F H σ ps D) (h1 : ∀ ps', o = .nx ps' → ∀ σ' F' H', Step F H σ ps F' H' σ' ps' → SR K Bo F' H' σ' ps' → D.nx σ' H' → D'.nx σ' H') (h2 : D.bk = D'.bk) (h3 : D.ct = D'.ct) (h4 : D.rt = D'.rt) :
    GoalS K mg Bo W o F H σ ps D' := by
  cases o with
  | nx ps' => exact fun σ' F' H' s2 sr => h1 ps' rfl σ' F' H' s2 sr (h σ' F' H' s2 sr)
  | brk ps' => exact fun σ' F' H' s2 sr => h2 ▸ h σ' F' H' s2 sr
  | ct ps' => exact fun σ' F' H' s2 sr => h3 ▸ h σ' F' H' s2 sr
  | ret p ps' => exact fun v σ' F' H' s2 sr r => h4 ▸ h v σ' F' H' s2 sr r
  | exc x ps' => exact h
  | bad => exact h
/-- an expression first, then what the statement makes of it -/
def Rs.st {α : Type} (r : Rs α) (g : α → PSt → Os) : Os := match r with
  | .ok a ps => g a ps
  | .exc x ps => .exc x ps
  | .bad => .bad
theorem gos_bind {β α : Type} {R1 : RT β α} {f1 : PSt → Rs α} {g : α → PSt → Os} {D : Ends} {K1 : β → Hp → Prop} (sr : SR K Bo F H σ ps) (h : GoalS K mg Bo W ((f1 ps).st g) F H σ ps D)
    (k : ∀ v a F1 H1 ps1, SR K Bo F1 H1 σ ps1 → Step F H σ ps F1 H1 σ ps1 → R1 σ F H ps F1 H1 ps1 v a → GoalS K mg Bo W (g a ps1) F1 H1 σ ps1 D → K1 v H1) : tR K mg Bo W R1 f1 σ H K1 := by
  refine ⟨F, ps, sr, ?_⟩
  cases e : f1 ps with
  | ok a ps1 =>
    rw [e] at h
    exact fun v F1 H1 st s1 hv => k v a F1 H1 ps1 s1 st hv (GoalS.rebase h st)
  | exc x ps1 =>
    rw [e] at h
    exact fun cls dd F' H' st s1 r => h cls dd σ F' H' st s1 r
  | bad => rw [e] at h; exact h
theorem tS_bind {β α : Type} {R1 : RT β α} {f1 : PSt → Rs α} {g : α → PSt → Os} {D : Ends} {K1 : β → Hp → Prop} (h : tS K mg Bo W (fun ps => (f1 ps).st g) D σ H)
    (k : ∀ v a F F1 H1 ps ps1, SR K Bo F H σ ps → SR K Bo F1 H1 σ ps1 → Step F H σ ps F1 H1 σ ps1 → R1 σ F H ps F1 H1 ps1 v a → GoalS K mg Bo W (g a ps1) F1 H1 σ ps1 D → K1 v H1) : tR K mg Bo W R1 f1 σ H K1 := by
  obtain ⟨F, ps, sr, h⟩ := h
  exact gos_bind sr h fun v a F1 H1 ps1 => k v a F F1 H1 ps ps1 sr
/-- the goal as it was at the beginning -/
theorem tS_bind0 {β α : Type} {R1 : RT β α} {f1 : PSt → Rs α} {g : α → PSt → Os} {D : Ends} {K1 : β → Hp → Prop} (h : tS K mg Bo W (fun ps => (f1 ps).st g) D σ H)
    (k : ∀ v a F F1 H1 ps ps1, SR K Bo F H σ ps → SR K Bo F1 H1 σ ps1 → Step F H σ ps F1 H1 σ ps1 → R1 σ F H ps F1 H1 ps1 v a → GoalS K mg Bo W (g a ps1) F H σ ps D → K1 v H1) : tR K mg Bo W R1 f1 σ H K1 := by
  obtain ⟨F, ps, sr, h⟩ := h
  refine ⟨F, ps, sr, ?_⟩
  dsimp only at h
  cases e : f1 ps with
  | ok a ps1 =>
    rw [e] at h
    exact fun v F1 H1 st s1 hv => k v a F F1 H1 ps ps1 sr s1 st hv h
  | exc x ps1 =>
    rw [e] at h
    exact fun cls dd F' H' st s1 r => h cls dd σ F' H' st s1 r
  | bad => rw [e] at h; exact h
/-- what one alone holds stays while something else goes on -/
theorem RO.keep {v : V} {p : PV} (h : RO K σ F H ps F1 H1 ps1 v p) (st : Step F1 H1 σ ps1 F2 H2 σ ps2) : RO K σ F H ps F2 H2 ps2 v p := by
  match p, h with
  | .val d, h =>
    have h : Dv K F1 v d := h
    exact h.mono st.grow
  | .own d, h =>
    obtain ⟨a, h1, ⟨hn, xs, h2, h3⟩, h4, h5⟩ := h
    refine ⟨a, h1, ⟨?_, xs, st.keep _ _ h2 h4, h3.mono st.grow⟩, fun q => ?_, h5⟩
    · cases q : F2 a with
      | none => rfl
      | some o =>
        rcases st.fresh a o q with z | z | z
        · rw [hn] at z; cases z
        · rw [h2] at z; cases z
        · exact (h4 z).elim
    · rcases st.own a q with z | z
      · exact h4 z
      · rw [h2] at z; cases z
/-- a slot gets a list of its own -/
theorem SR.setO (s : SR K Bo F H σ ps) {i : Nat} {a : Addr} {d : PyData} (hb : Bo = none ∨ i ≠ 0) (h : OwnAt K F H a d) (no : ¬ Owned σ ps a) : SR K Bo F H (σ.set i (some (.ref a))) (ps.set i (some (.own d))) := by
  have un : ∀ {j : Nat} {e : PyData} {b : Addr}, (ps.set i (some (.own d)))[j]? = some (some (.own e)) → (σ.set i (some (.ref a)))[j]? = some (some (.ref b)) → (j = i ∧ b = a) ∨ (i ≠ j ∧ ps[j]? = some (some (.own e)) ∧ σ[j]? = some (some (.ref b))) := fun {j e b} h1 h2 => by
    by_cases hj : i = j
    · subst hj
      by_cases hl : i < σ.length
      · rw [List.getElem?_set_self hl] at h2; cases h2; exact .inl ⟨rfl, rfl⟩
      · rw [List.getElem?_eq_none (by simpa using hl)] at h2; cases h2
    · rw [List.getElem?_set_ne hj] at h1 h2; exact .inr ⟨hj, h1, h2⟩
  refine ⟨s.le, by simp [s.len], fun j x p e1 e2 => ?_, fun j k b d1 d2 h1 h2 h3 h4 => ?_, fun c e => ?_⟩
  · by_cases hj : i = j
    · subst hj
      have l1 : i < σ.length := by have := (List.getElem?_eq_some_iff.mp e1).1; simpa using this
      have l2 : i < ps.length := by rw [s.len]; exact l1
      rw [List.getElem?_set_self l1] at e1
      rw [List.getElem?_set_self l2] at e2
      cases e1; cases e2
      exact ⟨a, rfl, h⟩
    · rw [List.getElem?_set_ne hj] at e1 e2
      exact s.sl j x p e1 e2
  · rcases un h1 h3 with ⟨z1, z2⟩ | ⟨z1, z2, z3⟩ <;> rcases un h2 h4 with ⟨y1, y2⟩ | ⟨y1, y2, y3⟩
    · rw [z1, y1]
    · subst z2; exact (no ⟨k, _, y2, y3⟩).elim
    · subst y2; exact (no ⟨j, _, z2, z3⟩).elim
    · exact s.apart j k b _ _ z2 y2 z3 y3
  · obtain ⟨r1, d', r2⟩ := s.bo c e
    have n : i ≠ 0 := hb.resolve_left (by rw [e]; simp)
    exact ⟨by rw [List.getElem?_set_ne n]; exact r1, d', by rw [List.getElem?_set_ne n]; exact r2⟩
theorem owned_setO {i : Nat} {a b : Addr} {d : PyData} (h : Owned (σ.set i (some (.ref a))) (ps.set i (some (.own d))) b) : b = a ∨ Owned σ ps b := by
  obtain ⟨j, e, h1, h2⟩ := h
  by_cases hj : i = j
  · subst hj
    by_cases hl : i < σ.length
    · rw [List.getElem?_set_self hl] at h2; cases h2; exact .inl rfl
    · rw [List.getElem?_eq_none (by simpa using hl)] at h2; cases h2
  · rw [List.getElem?_set_ne hj] at h1 h2; exact .inr ⟨j, e, h1, h2⟩
/-- a value is stored -/
theorem store_pv {v : V} {p : PV} {i : Nat} (hb : Bo = none ∨ i ≠ 0) (s1 : SR K Bo F1 H1 σ ps1) (st : Step F H σ ps F1 H1 σ ps1) (h : RO K σ F H ps F1 H1 ps1 v p) :
    SR K Bo F1 H1 (σ.set i (some v)) (ps1.set i (some p)) ∧ Step F H σ ps F1 H1 (σ.set i (some v)) (ps1.set i (some p)) := by
  match p, h with
  | .val d, h => exact ⟨s1.setV hb h, st.trans .setV⟩
  | .own d, h =>
    obtain ⟨a, rfl, h2, h3, h4⟩ := h
    refine ⟨s1.setO hb h2 h3, st.grow, st.fresh, st.keep, fun b q => ?_⟩
    rcases owned_setO q with z | z
    · subst z; exact h4
    · exact st.own b z
/-- a slot's own list is changed -/
theorem SR.mutA (s : SR K Bo F H σ ps) {i : Nat} {a : Addr} {d d' : PyData} {xs : HO} (e : ps[i]? = some (some (.own d))) (ea : σ[i]? = some (some (.ref a))) (hn : F a = none) (h : Cont K F a xs d') (hbl : (Bo = none ∨ i ≠ 0) ∨ ∃ es, d' = .list es) :
    SR K Bo F (upd H a xs) σ (ps.set i (some (.own d'))) ∧ Step F H σ ps F (upd H a xs) σ (ps.set i (some (.own d'))) := by
  have hi : i < ps.length := (List.getElem?_eq_some_iff.mp e).1
  have ow : Owned σ ps a := ⟨i, d, e, ea⟩
  refine ⟨⟨fun b o q => ?_, by simp [s.len], fun j x p e1 e2 => ?_, fun j k b d1 d2 h1 h2 h3 h4 => ?_, fun c z => ?_⟩, .refl _, fun _ _ q => .inl q, fun b o q n => ?_, fun b q => ?_⟩
  · have : b ≠ a := fun w => by subst w; rw [hn] at q; cases q
    rw [upd_ne this]; exact s.le b o q
  · by_cases hj : i = j
    · subst hj
      rw [List.getElem?_set_self hi] at e2; cases e2
      rw [ea] at e1; cases e1
      exact ⟨a, rfl, hn, xs, upd_same, h⟩
    · rw [List.getElem?_set_ne hj] at e2
      have q := s.sl j x p e1 e2
      match p, q with
      | none, _ => trivial
      | some (.val d), q => exact q
      | some (.own d1), q =>
        obtain ⟨c, z, n, ys, r2, r3⟩ := q
        refine ⟨c, z, n, ys, ?_, r3⟩
        have : c ≠ a := fun w => by
          subst w; subst z
          exact hj (s.apart i j c _ _ e e2 ea e1)
        rw [upd_ne this]; exact r2
  · have old : ∀ {j : Nat} {e : PyData}, (ps.set i (some (.own d')))[j]? = some (some (.own e)) → ∃ e', ps[j]? = some (some (.own e')) := fun {j e1} q => by
      by_cases hj : i = j
      · subst hj; exact ⟨d, e⟩
      · rw [List.getElem?_set_ne hj] at q; exact ⟨_, q⟩
    obtain ⟨_, o1⟩ := old h1
    obtain ⟨_, o2⟩ := old h2
    exact s.apart j k b _ _ o1 o2 h3 h4
  · obtain ⟨r1, d1, r2⟩ := s.bo c z
    refine ⟨r1, ?_⟩
    by_cases hj : i = 0
    · subst hj
      rcases hbl with (hb | hb) | ⟨es, rfl⟩
      · rw [hb] at z; cases z
      · exact absurd rfl hb
      · exact ⟨es, List.getElem?_set_self hi⟩
    · exact ⟨d1, by rw [List.getElem?_set_ne hj]; exact r2⟩
  · have : b ≠ a := fun w => by subst w; exact n ow
    rw [upd_ne this]; exact q
  · obtain ⟨j, e1, q1, q2⟩ := q
    by_cases hj : i = j
    · subst hj; exact .inl ⟨i, d, e, q2⟩
    · rw [List.getElem?_set_ne hj] at q1; exact .inl ⟨j, e1, q1, q2⟩
theorem SR.mut (s : SR K Bo F H σ ps) {i : Nat} {a : Addr} {d d' : PyData} {xs : List V} {ds : List PyData} (e : ps[i]? = some (some (.own d))) (ea : σ[i]? = some (some (.ref a))) (hn : F a = none) (ed : d' = .list ds) (h : DvAll K F xs ds) :
    SR K Bo F (upd H a (.lst xs)) σ (ps.set i (some (.own d'))) ∧ Step F H σ ps F (upd H a (.lst xs)) σ (ps.set i (some (.own d'))) := s.mutA e ea hn (.inl ⟨xs, ds, ed, rfl, h⟩) (.inr ⟨ds, ed⟩)
end

section
variable {X : Cx} {Bo : Option Addr} {W : WX} {e e1 e2 : Expr} {st : Stmt} {sts rest : List Stmt} {f f1 f2 : PSt → Rs PyData} {fo fo1 fo2 : PSt → Rs PV} {c : PSt → Rs Bool} {g g1 g2 : PSt → Os} {pos : Pos}
/-! ### blocks -/
def fSkip : PSt → Os := .nx
def fSeq (g1 g2 : PSt → Os) : PSt → Os := fun ps => match g1 ps with
  | .nx ps1 => g2 ps1
  | .ret p ps1 => .ret p ps1
  | .brk ps1 => .brk ps1
  | .ct ps1 => .ct ps1
  | .exc x ps1 => .exc x ps1
  | .bad => .bad
theorem gss_nil : GSs X Bo W [] fSkip := pss_nil.imp fun D σ H ⟨F, ps, sr, q⟩ => q σ F H .refl sr
theorem seq_data {t u : TS} (h : ∀ D σ H, tS X.K X.mg Bo W g1 D σ H → t D σ H) (k : ∀ D σ H, tS X.K X.mg Bo W g2 D σ H → u D σ H) : ∀ D σ H, tS X.K X.mg Bo W (fSeq g1 g2) D σ H → tSeq t u D σ H := fun D σ H ⟨F, ps, sr, q⟩ => by
  refine h { D with nx := u D } σ H ⟨F, ps, sr, ?_⟩
  unfold fSeq at q
  cases e : g1 ps with
  | nx ps1 =>
    rw [e] at q
    exact fun σ' F' H' st s1 => k D σ' H' ⟨F', ps1, s1, GoalS.rebase q st⟩
  | ret p ps1 => rw [e] at q; exact q
  | brk ps1 => rw [e] at q; exact q
  | ct ps1 => rw [e] at q; exact q
  | exc x ps1 => rw [e] at q; exact q
  | bad => rw [e] at q; exact q
theorem gss_cons (h : GS X Bo W st g1) (t : GSs X Bo W rest g2) : GSs X Bo W (st :: rest) (fSeq g1 g2) := (pss_cons h t).imp (seq_data (fun _ _ _ q => q) fun _ _ _ q => q)
theorem gss_one (h : GS X Bo W st g) : GSs X Bo W [st] g := pss_one h
/-- slots that nobody reads any more are forgotten -/
def fKill (l : List Nat) (g : PSt → Os) : PSt → Os := fun ps => match g ps with
  | .nx ps1 => .nx (l.foldl (fun q i => q.set i none) ps1)
  | o => o
theorem SR.kills {K : PySem.W.Frag} {F H : Hp} {σ : St} : ∀ {l : List Nat} {ps : PSt}, (Bo = none ∨ 0 ∉ l) → SR K Bo F H σ ps → SR K Bo F H σ (l.foldl (fun q i => q.set i none) ps) ∧ Step F H σ ps F H σ (l.foldl (fun q i => q.set i none) ps)
  | [], ps, _, s => ⟨s, .refl⟩
  | i :: l, ps, hb, s => by
    have h1 : Bo = none ∨ i ≠ 0 := hb.imp_right fun q z => q (by rw [z]; exact List.mem_cons_self)
    obtain ⟨s2, st⟩ := SR.kills (l := l) (hb.imp_right fun q z => q (List.mem_cons_of_mem _ z)) (s.kill h1)
    exact ⟨s2, Step.kill.trans st⟩
theorem gs_kill (l : List Nat) (h : GS X Bo W st g) (hb : Bo = none ∨ 0 ∉ l := by first | exact .inl rfl | exact .inr (by decide)) : GS X Bo W st (fKill l g) := by
  refine h.imp fun D σ H ⟨F, ps, sr, q⟩ => ⟨F, ps, sr, ?_⟩
  unfold fKill at q
  cases e : g ps with
  | nx ps1 =>
    rw [e] at q
    intro σ' F' H' st s1
    obtain ⟨s2, st2⟩ := s1.kills hb
    exact q σ' F' H' (st.trans st2) s2
  | ret p ps1 => rw [e] at q; exact q
  | brk ps1 => rw [e] at q; exact q
  | ct ps1 => rw [e] at q; exact q
  | exc x ps1 => rw [e] at q; exact q
  | bad => rw [e] at q; exact q

/-! ### small statements -/
def fExpr (f : PSt → Rs PyData) : PSt → Os := fun ps => (f ps).st fun _ ps1 => .nx ps1
theorem gs_expr (h : GV X Bo W e f) (hs : swapsWith e none pos.line X.env = pure false := by rfl) : GS X Bo W (.Expr e pos) (fExpr f) := by
  refine (ps_expr h hs).imp fun D σ H q => ?_
  exact tS_bind q fun v a F F1 H1 ps ps1 sr s1 st hv q => q σ F1 H1 .refl s1
def fRet (fo : PSt → Rs PV) : PSt → Os := fun ps => (fo ps).st fun p ps1 => .ret p ps1
theorem gs_ret (h : GO X Bo W e fo) : GS X Bo W (.Return (some e) pos) (fRet fo) := by
  refine (ps_ret h).imp fun D σ H ⟨F, ps, sr, q⟩ => ⟨F, ps, sr, ?_⟩
  unfold fRet at q
  cases e : fo ps with
  | bad => rw [e] at q; exact q
  | exc x ps1 => rw [e] at q; exact fun cls dd F' H' st s1 r => q cls dd σ F' H' st s1 r
  | ok p ps1 =>
    rw [e] at q
    intro v F' H' st s1 r
    refine q v σ F' H' st s1 ?_
    match p, r with
    | .val d, r => exact r
    | .own d, r =>
      exact r
theorem gs_retN : GS X Bo W (.Return none pos) (fun ps => .ret (.val .none) ps) := ps_retN.imp fun D σ H ⟨F, ps, sr, q⟩ => q .non σ F H .refl sr .non
theorem gs_pass : GS X Bo W (.Pass pos) fSkip := ps_pass.imp fun D σ H ⟨F, ps, sr, q⟩ => q σ F H .refl sr
theorem gs_break : GS X Bo W (.Break pos) (fun ps => .brk ps) := ps_break.imp fun D σ H ⟨F, ps, sr, q⟩ => q σ F H .refl sr
def fSet (i : Nat) (fo : PSt → Rs PV) : PSt → Os := fun ps => (fo ps).st fun p ps1 => .nx (ps1.set i (some p))
theorem gs_set (i : Nat) {x : Str} {pos' : Pos} (h : GO X Bo W e fo) (hN : X.N.Nodup) (hb : Bo = none ∨ i ≠ 0 := by first | exact .inl rfl | exact .inr (by decide)) (hi : X.N[i]? = some x := by rfl) (hx : Loc X.env.scope x := by first | exact .inl rfl | exact .inr rfl)
    (hs : swapsWith e (some (.Name x pos')) pos.line X.env = pure false := by rfl) (hf : X.fn x = true ∨ X.env.scope.names.lookup x = some .local := by first | exact .inl rfl | exact .inr rfl) : GS X Bo W (.Assign [.Name x pos'] e pos) (fSet i fo) := by
  refine (ps_set hN hi hx h hs hf).imp fun D σ H q => ?_
  refine tS_bind0 q fun v p F F1 H1 ps ps1 sr s1 st hv q => ?_
  obtain ⟨s2, st2⟩ := store_pv hb s1 st hv
  exact q _ F1 H1 st2 s2
def fIfS (c : PSt → Rs Bool) (g1 g2 : PSt → Os) : PSt → Os := fun ps => (c ps).st fun b ps1 => if b = true then g1 ps1 else g2 ps1
theorem gs_if {e : Expr} {a b : List Stmt} (h : GT X Bo W e c) (ha : GSs X Bo W a g1) (hb : GSs X Bo W b g2) : GS X Bo W (.If e a b pos) (fIfS c g1 g2) := by
  refine (ps_if h ha hb).imp fun D σ H q => ?_
  refine tS_bind q fun b b' F F1 H1 ps ps1 sr s1 st hb q => ?_
  subst hb
  cases b with
  | true => exact ⟨F1, ps1, s1, q⟩
  | false => exact ⟨F1, ps1, s1, q⟩

/-! ### targets -/
def Only (T : List Nat) (σ σ' : St) : Prop := σ'.length = σ.length ∧ ∀ i : Nat, i ∉ T → σ'[i]? = σ[i]?
def tG (K : PySem.W.Frag) (Bo : Option Addr) (T : List Nat) (g : PyData → PSt → Option PSt) : TG := fun v σ H Q => ∃ F ps d ps', SR K Bo F H σ ps ∧ Dv K F v d ∧ g d ps = some ps' ∧ ∀ σ', Only T σ σ' → Step F H σ ps F H σ' ps' → SR K Bo F H σ' ps' → Q σ' H
def GG (X : Cx) (Bo : Option Addr) (tg : Expr) (T : List Nat) (g : PyData → PSt → Option PSt) : Prop := PG X tg (tG X.K Bo T g)
def tGs (K : PySem.W.Frag) (Bo : Option Addr) (T : List Nat) (g : List PyData → PSt → Option PSt) : TGs := fun vs σ H Q => ∃ F ps ds ps', SR K Bo F H σ ps ∧ DvAll K F vs ds ∧ g ds ps = some ps' ∧ ∀ σ', Only T σ σ' → Step F H σ ps F H σ' ps' → SR K Bo F H σ' ps' → Q σ' H
def GGs (X : Cx) (Bo : Option Addr) (ts : List Expr) (T : List Nat) (g : List PyData → PSt → Option PSt) : Prop := PGs X ts (tGs X.K Bo T g)
def uN (i : Nat) : PyData → PSt → Option PSt := fun d ps => some (ps.set i (some (.val d)))
def uNil : List PyData → PSt → Option PSt := fun ds ps => match ds with
  | [] => some ps
  | _ => none
def uCons (g : PyData → PSt → Option PSt) (gs : List PyData → PSt → Option PSt) : List PyData → PSt → Option PSt := fun ds ps => match ds with
  | d :: ds => (g d ps).bind (gs ds)
  | [] => none
def uTup (n : Nat) (gs : List PyData → PSt → Option PSt) : PyData → PSt → Option PSt := fun d ps => match d with
  | .tuple ds => if ds.length = n then gs ds ps else none
  | .list ds => if ds.length = n then gs ds ps else none
  | _ => none
variable {tg : Expr} {tgs : List Expr} {u : PyData → PSt → Option PSt} {us : List PyData → PSt → Option PSt} {T T1 T2 : List Nat}
theorem _root_.L2.PG.imp {X : Cx} {e : Expr} {t t' : TG} (h : PG X e t) (i : ∀ v σ H Q, t' v σ H Q → t v σ H Q) : PG X e t' := ⟨fun pins s σ H v u Q I r q => h.run pins s σ H v u Q I r (i _ _ _ _ q)⟩
theorem _root_.L2.PGs.imp {X : Cx} {e : List Expr} {t t' : TGs} (h : PGs X e t) (i : ∀ v σ H Q, t' v σ H Q → t v σ H Q) : PGs X e t' := ⟨fun pins s σ H v u Q I r q => h.run pins s σ H v u Q I r (i _ _ _ _ q)⟩
theorem gg_name (i : Nat) {x : Str} (hN : X.N.Nodup) (hb : Bo = none ∨ i ≠ 0 := by first | exact .inl rfl | exact .inr (by decide)) (hi : X.N[i]? = some x := by rfl) (hx : Loc X.env.scope x := by first | exact .inl rfl | exact .inr rfl)
    (hf : X.fn x = true ∨ X.env.scope.names.lookup x = some .local := by first | exact .inl rfl | exact .inr rfl) : GG X Bo (.Name x pos) [i] (uN i) := by
  refine (pg_name hN hi hx hf).imp fun v σ H Q ⟨F, ps, d, ps', sr, hd, e, q⟩ => ?_
  cases e
  exact q _ ⟨by simp, fun j hj => List.getElem?_set_ne fun z => hj (by simp [z])⟩ .setV (sr.setV hb hd)
theorem ggs_nil : GGs X Bo [] [] uNil := by
  refine pgs_nil.imp fun vs σ H Q ⟨F, ps, ds, ps', sr, hd, e, q⟩ => ?_
  cases hd with
  | nil => cases e; exact ⟨rfl, q σ ⟨rfl, fun _ _ => rfl⟩ .refl sr⟩
  | cons _ _ => cases e
theorem ggs_cons (h : GG X Bo tg T1 u) (t : GGs X Bo tgs T2 us) (hs : (assignEach (tg :: tgs) X.env).map (·.2) = assign tg X.env :: (assignEach tgs X.env).map (·.2) := by rfl) : GGs X Bo (tg :: tgs) (T1 ++ T2) (uCons u us) := by
  refine (pgs_cons h t hs).imp fun vs σ H Q ⟨F, ps, ds, ps', sr, hd, e, q⟩ => ?_
  cases hd with
  | nil => cases e
  | @cons v vs d ds h1 h2 =>
    have e : (u d ps).bind (us ds) = some ps' := e
    cases e1 : u d ps with
    | none => rw [e1] at e; cases e
    | some ps1 =>
      rw [e1] at e
      refine ⟨v, vs, rfl, F, ps, d, ps1, sr, h1, e1, fun σ1 on st s1 => ?_⟩
      exact ⟨F, ps1, ds, ps', s1, h2, e, fun σ2 on2 st2 s2 => q σ2 ⟨on2.1.trans on.1, fun i hi => (on2.2 i fun z => hi (List.mem_append_right _ z)).trans (on.2 i fun z => hi (List.mem_append_left _ z))⟩ (st.trans st2) s2⟩
theorem gg_tup {es : List Expr} {k : Nat} {n : Nat} (hc : X.calm = true) (h : GGs X Bo es T us) (hn : (assignEach es X.env).length = n := by rfl) (hst : (assignEach es X.env).findIdx? (·.1) = none := by rfl) : GG X Bo (.Tuple es k pos) T (uTup n us) := by
  refine ⟨fun pins s σ H v w Q I r q => ?_⟩
  obtain ⟨F, ps, d, ps', sr, hd, e, q⟩ := q
  match d, hd, e with
  | .tuple ds, hd, e =>
    cases hd with
    | @tup a xs _ hs ha =>
      have e : (if ds.length = n then us ds ps else none) = some ps' := e
      split at e
      · rename_i hl
        exact (pg_tup hc h hn hst).run pins s σ H _ w Q I r ⟨a, xs, rfl, same_sqt sr.le hs, by rw [ha.length, hl], F, ps, ds, ps', sr, ha, e, q⟩
      · cases e
  | .list ds, hd, e =>
    cases hd with
    | @lst a xs _ hs ha =>
      have e : (if ds.length = n then us ds ps else none) = some ps' := e
      split at e
      · rename_i hl
        exact (pg_lst hc h hn hst).run pins s σ H _ w Q I r ⟨a, xs, rfl, sr.le.seq hs, by rw [ha.length, hl], F, ps, ds, ps', sr, ha, e, q⟩
      · cases e
  | .none, _, e => cases e
  | .bool _, _, e => cases e
  | .int _, _, e => cases e
  | .str _, _, e => cases e
  | .dict _, _, e => cases e
/-- target = value -/
def fAsg (u : PyData → PSt → Option PSt) (f : PSt → Rs PyData) : PSt → Os := fun ps => (f ps).st fun d ps1 => match u d ps1 with
  | some ps2 => .nx ps2
  | none => .bad
theorem gs_asg (he : GV X Bo W e f) (hg : GG X Bo tg T u) (hs : swapsWithSole [tg] e pos.line X.env = pure false := by rfl) (hw : swappedStores [tg] e X.env = pure none := by rfl)
    (h1 : (assignEach [tg] X.env).map (·.2) = [assign tg X.env] := by rfl) : GS X Bo W (.Assign [tg] e pos) (fAsg u f) := by
  refine (ps_asg he hg hs hw h1).imp fun D σ H q => ?_
  refine tS_bind q fun v d F F1 H1 ps ps1 sr s1 st hv q => ?_
  cases e1 : u d ps1 with
  | none => rw [e1] at q; exact q.elim
  | some ps2 =>
    rw [e1] at q
    exact ⟨F1, ps1, d, ps2, s1, hv, e1, fun σ2 _ st2 s2 => q σ2 F1 H1 st2 s2⟩

/-! ### loops -/
/-- what is walked: ds, one after the other -/
structure ItOk (K : PySem.W.Frag) (J : It) (F : Hp) (ds : List PyData) : Prop where
  go : ∀ F1 H1 (i : Nat), Same F F1 → Same F1 H1 → i < ds.length → J.go i H1
  stop : ∀ F1 H1, Same F F1 → Same F1 H1 → J.stop ds.length H1
  yld : ∀ F1 H1 (i : Nat) d x H2, Same F F1 → Same F1 H1 → ds[i]? = some d → J.yld i H1 x H2 → ∃ F2, Gr F1 H1 F2 H2 ∧ Dv K F2 x d
def tI (K : PySem.W.Frag) (mg : Str → Option Value) (Bo : Option Addr) (W : WX) (f : PSt → Rs (List PyData)) : TI := fun σ H R => tR (β := It) K mg Bo W (fun _ _ _ _ F' _ _ J ds => ItOk K J F' ds) f σ H R
def GI (X : Cx) (Bo : Option Addr) (W : WX) (tg iter : Expr) (f : PSt → Rs (List PyData)) : Prop := PI X tg iter (tI X.K X.mg Bo W f)
theorem _root_.L2.PI.imp {X : Cx} {tg e : Expr} {t t' : TI} (h : PI X tg e t) (i : ∀ σ H R, t' σ H R → t σ H R) : PI X tg e t' := ⟨fun pins s σ H R I q => h.run pins s σ H R I (i _ _ _ q)⟩
def forL (u : PyData → PSt → Option PSt) (g : PSt → Os) : List PyData → PSt → Os
  | [], ps => .nx ps
  | d :: ds, ps => match u d ps with
    | none => .bad
    | some ps1 => match g ps1 with
      | .nx ps2 => forL u g ds ps2
      | .ct ps2 => forL u g ds ps2
      | .brk ps2 => .nx ps2
      | .ret p ps2 => .ret p ps2
      | .exc x ps2 => .exc x ps2
      | .bad => .bad
def fFor (fi : PSt → Rs (List PyData)) (u : PyData → PSt → Option PSt) (g : PSt → Os) : PSt → Os := fun ps => (fi ps).st fun ds ps1 => forL u g ds ps1
theorem gs_for {iter : Expr} {body : List Stmt} {fi : PSt → Rs (List PyData)} (hp : PassesOwn (model X.prog X.w) X.A X.env X.xe) (hc : X.calm = true) (hi : GI X Bo W tg iter fi) (hg : GG X Bo tg T u) (hb : GSs X Bo W body g)
    (hs : ∀ x, foldedSetIterable iter X.env x = pure x := by intro _; rfl) : GS X Bo W (.For tg iter body [] pos) (fFor fi u g) := by
  refine (ps_for hp hc hi hg hb hs).imp fun D σ H q => ?_
  refine tS_bind q fun J ds F F1 H1 ps ps1 sr s1 st hJ q => ?_
  have hJ : ItOk X.K J F1 ds := hJ
  refine ⟨fun i m σ' H' => m = ds.length - i ∧ i ≤ ds.length ∧ ∃ F' ps', Same F1 F' ∧ SR X.K Bo F' H' σ' ps' ∧ GoalS X.K X.mg Bo W (forL u g (ds.drop i) ps') F' H' σ' ps' D,
    ⟨ds.length, by simp, Nat.zero_le _, F1, ps1, .refl _, s1, by simpa using q⟩, ?_⟩
  rintro i m σ' H' ⟨rfl, hi, F', ps', gr, s', q'⟩
  by_cases hlt : i < ds.length
  · refine .inr ⟨hJ.go F' H' i gr s'.le hlt, fun σ2 H2 => ∃ F2 ps2, Same F1 F2 ∧ SR X.K Bo F2 H2 σ2 ps2 ∧ GoalS X.K X.mg Bo W (forL u g (ds.drop (i + 1)) ps2) F2 H2 σ2 ps2 D, fun σ2 H2 ⟨F2, ps2, a, b, c⟩ => ⟨ds.length - (i + 1), by omega, rfl, hlt, F2, ps2, a, b, c⟩, fun x H2 y => ?_⟩
    obtain ⟨F2, gr2, hx⟩ := hJ.yld F' H' i ds[i] x H2 gr s'.le (by simp [hlt]) y
    rw [List.drop_eq_getElem_cons hlt] at q'
    have s2 := s'.gr gr2
    have q2 := GoalS.rebase q' (Step.of_gr gr2)
    unfold forL at q2
    cases e1 : u ds[i] ps' with
    | none => rw [e1] at q2; exact q2.elim
    | some ps3 =>
      rw [e1] at q2
      dsimp only at q2
      refine ⟨F2, ps', ds[i], ps3, s2, hx, e1, fun σ3 _ st3 s3 => ⟨F2, ps3, s3, ?_⟩⟩
      have q3 := GoalS.rebase q2 st3
      have g2 : Same F1 F2 := gr.trans gr2.grow
      cases e2 : g ps3 with
      | nx ps4 =>
        rw [e2] at q3
        exact fun σ4 F4 H4 st4 s4 => ⟨F4, ps4, g2.trans st4.grow, s4, GoalS.rebase q3 st4⟩
      | ct ps4 =>
        rw [e2] at q3
        exact fun σ4 F4 H4 st4 s4 => ⟨F4, ps4, g2.trans st4.grow, s4, GoalS.rebase q3 st4⟩
      | brk ps4 => rw [e2] at q3; exact q3
      | ret p ps4 => rw [e2] at q3; exact q3
      | exc x ps4 => rw [e2] at q3; exact q3
      | bad => rw [e2] at q3; exact q3
  · have e : i = ds.length := by omega
    subst e
    rw [List.drop_length] at q'
    exact .inl ⟨hJ.stop F' H' gr s'.le, q' σ' F' H' .refl s'⟩

def whileN (c : PSt → Rs Bool) (g : PSt → Os) : Nat → PSt → Os
  | 0, _ => .bad
  | n + 1, ps => (c ps).st fun b ps1 => if b = true then (match g ps1 with
      | .nx ps2 => whileN c g n ps2
      | .ct ps2 => whileN c g n ps2
      | .brk ps2 => .nx ps2
      | .ret p ps2 => .ret p ps2
      | .exc x ps2 => .exc x ps2
      | .bad => .bad) else .nx ps1
theorem whileN_more {c : PSt → Rs Bool} {g : PSt → Os} : ∀ {n : Nat} {ps : PSt}, whileN c g n ps ≠ .bad → whileN c g (n + 1) ps = whileN c g n ps
  | 0, ps, h => absurd rfl h
  | n + 1, ps, h => by
    unfold whileN
    unfold whileN at h
    cases e : c ps with
    | bad => rfl
    | exc x p => rfl
    | ok b ps1 =>
      rw [e] at h
      simp only [Rs.st] at h ⊢
      cases b with
      | false => rfl
      | true =>
        simp only [if_true] at h ⊢
        cases e2 : g ps1 with
        | nx ps2 => rw [e2] at h; exact whileN_more h
        | ct ps2 => rw [e2] at h; exact whileN_more h
        | brk ps2 => rfl
        | ret p ps2 => rfl
        | exc x ps2 => rfl
        | bad => rfl
theorem whileN_le {c : PSt → Rs Bool} {g : PSt → Os} {n m : Nat} {ps : PSt} (h : whileN c g n ps ≠ .bad) (hm : n ≤ m) : whileN c g m ps = whileN c g n ps := by
  induction m with
  | zero => have : n = 0 := by omega
            rw [this]
  | succ m ih =>
    by_cases e : n = m + 1
    · rw [e]
    · have h2 := ih (by omega)
      rw [whileN_more (by rw [h2]; exact h), h2]
open Classical in
/-- a while loop: as often as it takes -/
noncomputable def fWhile (c : PSt → Rs Bool) (g : PSt → Os) : PSt → Os := fun ps => if h : ∃ n, whileN c g n ps ≠ .bad then whileN c g h.choose ps else .bad
theorem fWhile_of {c : PSt → Rs Bool} {g : PSt → Os} {n : Nat} {ps : PSt} {o : Os} (e : whileN c g n ps = o) (h : o ≠ .bad) : fWhile c g ps = o := by
  have hx : ∃ n, whileN c g n ps ≠ .bad := ⟨n, by rw [e]; exact h⟩
  unfold fWhile
  rw [dif_pos hx]
  have h1 := hx.choose_spec
  by_cases l : hx.choose ≤ n
  · rw [← e]; exact (whileN_le h1 l).symm
  · rw [← e]; exact whileN_le (by rw [e]; exact h) (by omega)
theorem fWhile_ex {c : PSt → Rs Bool} {g : PSt → Os} {ps : PSt} (h : fWhile c g ps ≠ .bad) : ∃ n, whileN c g n ps = fWhile c g ps := by
  unfold fWhile at h ⊢
  split at h
  · rename_i hx
    exact ⟨hx.choose, by rw [dif_pos hx]⟩
  · exact absurd rfl h
/-- one turn at a time -/
theorem fWhile_eq (c : PSt → Rs Bool) (g : PSt → Os) (ps : PSt) : fWhile c g ps = (c ps).st fun b ps1 => if b = true then (match g ps1 with
      | .nx ps2 => fWhile c g ps2
      | .ct ps2 => fWhile c g ps2
      | .brk ps2 => .nx ps2
      | .ret p ps2 => .ret p ps2
      | .exc x ps2 => .exc x ps2
      | .bad => .bad) else .nx ps1 := by
  by_cases h : fWhile c g ps = .bad
  · -- no number of turns is enough
    have no : ∀ n, whileN c g n ps = .bad := fun n => by
      by_cases q : whileN c g n ps = .bad
      · exact q
      · exact absurd ((fWhile_of rfl q).symm.trans h) q
    rw [h]
    have n1 := no 1
    unfold whileN at n1
    cases e : c ps with
    | bad => rfl
    | exc x p => rw [e] at n1; cases n1
    | ok b ps1 =>
      rw [e] at n1
      simp only [Rs.st] at n1 ⊢
      cases b with
      | false => simp at n1
      | true =>
        simp only [if_true] at n1 ⊢
        have step : ∀ n, whileN c g (n + 1) ps = .bad := fun n => no (n + 1)
        cases e2 : g ps1 with
        | nx ps2 =>
          by_cases q : fWhile c g ps2 = .bad
          · exact q.symm
          · obtain ⟨n, hn⟩ := fWhile_ex q
            have s := step n
            unfold whileN at s
            rw [e] at s
            simp only [Rs.st, if_true, e2] at s
            exact absurd (hn.symm.trans s) q
        | ct ps2 =>
          by_cases q : fWhile c g ps2 = .bad
          · exact q.symm
          · obtain ⟨n, hn⟩ := fWhile_ex q
            have s := step n
            unfold whileN at s
            rw [e] at s
            simp only [Rs.st, if_true, e2] at s
            exact absurd (hn.symm.trans s) q
        | brk ps2 => rw [e2] at n1; cases n1
        | ret p ps2 => rw [e2] at n1; cases n1
        | exc x ps2 => rw [e2] at n1; cases n1
        | bad => rfl
  · obtain ⟨n, hn⟩ := fWhile_ex h
    cases n with
    | zero => exact absurd hn.symm h
    | succ n =>
      rw [← hn]
      rw [← hn] at h
      unfold whileN at h ⊢
      cases e : c ps with
      | bad => rfl
      | exc x p => rfl
      | ok b ps1 =>
        rw [e] at h
        simp only [Rs.st] at h ⊢
        cases b with
        | false => rfl
        | true =>
          simp only [if_true] at h ⊢
          cases e2 : g ps1 with
          | nx ps2 => rw [e2] at h; exact (fWhile_of rfl h).symm
          | ct ps2 => rw [e2] at h; exact (fWhile_of rfl h).symm
          | brk ps2 => rfl
          | ret p ps2 => rfl
          | exc x ps2 => rfl
          | bad => rfl
theorem gs_while {e : Expr} {body : List Stmt} (hp : PassesOwn (model X.prog X.w) X.A X.env X.xe) (hc : GT X Bo W e c) (hb : GSs X Bo W body g) : GS X Bo W (.While e body [] pos) (fWhile c g) := by
  refine (ps_while hp hc hb).imp fun D σ H ⟨F, ps, sr, q⟩ => ?_
  have nb : fWhile c g ps ≠ .bad := fun z => by rw [z] at q; exact q
  obtain ⟨n, hn⟩ := fWhile_ex nb
  rw [← hn] at q
  refine ⟨fun m σ' H' => ∃ F' ps', SR X.K Bo F' H' σ' ps' ∧ GoalS X.K X.mg Bo W (whileN c g m ps') F' H' σ' ps' D, ⟨n, F, ps, sr, q⟩, ?_⟩
  rintro m σ' H' ⟨F', ps', s', q'⟩
  cases m with
  | zero => exact q'.elim
  | succ m =>
    refine gos_bind (R1 := RB) s' q' fun b b' F1 H1 ps1 s1 st1 hb q1 => ?_
    subst hb
    cases b with
    | false => exact q1 σ' F1 H1 .refl s1
    | true =>
      refine ⟨fun σ2 H2 => ∃ F2 ps2, SR X.K Bo F2 H2 σ2 ps2 ∧ GoalS X.K X.mg Bo W (whileN c g m ps2) F2 H2 σ2 ps2 D, fun σ2 H2 z => ⟨m, Nat.lt_succ_self _, z⟩, F1, ps1, s1, ?_⟩
      simp only [if_true] at q1
      cases e2 : g ps1 with
      | nx ps4 =>
        rw [e2] at q1
        exact fun σ4 F4 H4 st4 s4 => ⟨F4, ps4, s4, GoalS.rebase q1 st4⟩
      | ct ps4 =>
        rw [e2] at q1
        exact fun σ4 F4 H4 st4 s4 => ⟨F4, ps4, s4, GoalS.rebase q1 st4⟩
      | brk ps4 => rw [e2] at q1; exact q1
      | ret p ps4 => rw [e2] at q1; exact q1
      | exc x ps4 => rw [e2] at q1; exact q1
      | bad => rw [e2] at q1; exact q1
end
end GL

/-! GLd: defs, calls, raise, try, comprehensions -/
namespace GL
open PySem PySem.Spec L2
open PyProof.Rows hiding St

inductive FR where
  | ok (p : PV) | exc (x : Exn) | bad
def Os.fin : Os → FR
  | .nx _ => .ok (.val .none)
  | .ret p _ => .ok p
  | .exc x _ => .exc x
  | _ => .bad
def RF0 (K : PySem.W.Frag) (F' H H' : Hp) (v : V) : PV → Prop
  | .val d => Dv K F' v d
  | .own d => ∃ a, v = .ref a ∧ OwnAt K F' H' a d ∧ H a = none
def FGoal (K : PySem.W.Frag) (mg : Str → Option Value) (r : FR) (F H : Hp) (Q : VK) (E : XK) : Prop := match r with
  | .ok p => ∀ v F' H', Gr F H F' H' → RF0 K F' H H' v p → Q v H'
  | .exc x => ∀ cls dd F' H', Gr F H F' H' → ExR K mg x cls dd F' H' → E cls dd H'
  | .bad => False
/-- what a def promises that changes none of its arguments -/
def spP (K : PySem.W.Frag) (mg : Str → Option Value) (n : Nat) (M : List PyData → FR) : Sp := fun vs H Q E => vs.length = n ∧ ∃ F ds, Same F H ∧ DvAll K F vs ds ∧ FGoal K mg (M ds) F H Q E
structure GFn (P : Program) (w : World) (K : PySem.W.Frag) (mg : Str → Option Value) (base : Heap) (x : Str) (k n : Nat) (M : List PyData → FR) : Prop where
  ex : ∃ f fd ps, FnOk P w K mg base (L2.CX P w) k f fd ps (spP K mg n M) ∧ mg x = some (.ref f) ∧ PySem.W.keepIn K (.ref f) = true ∧ Binds K fd ps []
/-- the same with an argument that it changes, the first one: a list that its caller holds -/
inductive FRU where
  | ok (p : PV) (u : List PyData) | exc (x : Exn) (u : List PyData) | bad
structure GrB (a : Addr) (F H F' H' : Hp) : Prop where
  grow : Same F F'
  fresh : ∀ b o, F' b = some o → F b = some o ∨ H b = none
  keep : ∀ b o, b ≠ a → H b = some o → H' b = some o
  le : Same F' H'
def FGoalU (K : PySem.W.Frag) (mg : Str → Option Value) (r : FRU) (a : Addr) (F H : Hp) (Q : VK) (E : XK) : Prop := match r with
  | .ok p u => ∀ v F' H' us, GrB a F H F' H' → H' a = some (.lst us) → DvAll K F' us u → RF0 K F' H H' v p → Q v H'
  | .exc x u => ∀ cls dd F' H' us, GrB a F H F' H' → H' a = some (.lst us) → DvAll K F' us u → ExR K mg x cls dd F' H' → E cls dd H'
  | .bad => False
def spU (K : PySem.W.Frag) (mg : Str → Option Value) (n : Nat) (M : List PyData → List PyData → FRU) : Sp := fun vs H Q E => vs.length = n + 1 ∧ ∃ a us vs' F u ds, vs = .ref a :: vs' ∧ H a = some (.lst us) ∧ F a = none ∧ Same F H ∧ DvAll K F us u ∧ DvAll K F vs' ds ∧ FGoalU K mg (M u ds) a F H Q E
structure GFu (P : Program) (w : World) (K : PySem.W.Frag) (mg : Str → Option Value) (base : Heap) (x : Str) (k n : Nat) (M : List PyData → List PyData → FRU) : Prop where
  ex : ∃ f fd ps, FnOk P w K mg base (L2.CX P w) k f fd ps (spU K mg n M) ∧ mg x = some (.ref f) ∧ PySem.W.keepIn K (.ref f) = true ∧ Binds K fd ps []

/-- a function that says at most as much -/
def FR.le (r s : FR) : Prop := r = .bad ∨ r = s
def FRU.le (r s : FRU) : Prop := r = .bad ∨ r = s
section
variable {P : Program} {w : World} {K : PySem.W.Frag} {mg : Str → Option Value} {base : Heap} {x : Str} {k j n : Nat}
theorem GFn.mono {M M' : List PyData → FR} (G : GFn P w K mg base x k n M) (hk : k ≤ j) (h : ∀ ds, (M' ds).le (M ds)) : GFn P w K mg base x j n M' := by
  obtain ⟨f, fd, ps, h1, h2⟩ := G.ex
  refine ⟨f, fd, ps, (h1.mono hk).imp fun vs H Q E ⟨hl, F, ds, a, b, q⟩ => ⟨hl, F, ds, a, b, ?_⟩, h2⟩
  rcases h ds with e | e
  · rw [e] at q; exact q.elim
  · rw [← e]; exact q
theorem GFu.mono {M M' : List PyData → List PyData → FRU} (G : GFu P w K mg base x k n M) (hk : k ≤ j) (h : ∀ u ds, (M' u ds).le (M u ds)) : GFu P w K mg base x j n M' := by
  obtain ⟨f, fd, ps, h1, h2⟩ := G.ex
  refine ⟨f, fd, ps, (h1.mono hk).imp fun vs H Q E ⟨hl, a, us, vs', F, u, ds, z1, z2, z3, z4, z5, z6, q⟩ => ⟨hl, a, us, vs', F, u, ds, z1, z2, z3, z4, z5, z6, ?_⟩, h2⟩
  rcases h u ds with e | e
  · rw [e] at q; exact q.elim
  · rw [← e]; exact q
/-- nothing is claimed -/
theorem GFn.zero {f : Addr} {fd : FuncData} {ps : List Str} (hl : ps.length = n) (hm : mg x = some (.ref f)) (hk : PySem.W.keepIn K (.ref f) = true) (hb : Binds K fd ps []) : GFn P w K mg base x k n fun _ => .bad :=
  ⟨f, fd, ps, ⟨fun vs H Q E q => q.1.trans hl.symm, fun _ _ _ _ _ _ _ _ _ _ _ _ _ q => by obtain ⟨_, _, _, _, _, q⟩ := q; exact q.elim⟩, hm, hk, hb⟩
end

/-! ### a def's body -/
def startP (n : Nat) (ds : List PyData) : PSt := ds.map (fun d => some (.val d)) ++ List.replicate (n - ds.length) none
theorem start_get {N : List Str} {vs : List V} {i : Nat} : (L2.start N vs)[i]? = if i < vs.length then (vs[i]?).map some else if i < vs.length + (N.length - vs.length) then some none else none := by
  unfold L2.start
  by_cases h : i < vs.length
  · rw [if_pos h, List.getElem?_append_left (by simpa using h), List.getElem?_map]
  · rw [if_neg h, List.getElem?_append_right (by simpa using h), List.getElem?_replicate]
    simp only [List.length_map]
    by_cases h2 : i < vs.length + (N.length - vs.length)
    · rw [if_pos h2, if_pos (by omega)]
    · rw [if_neg h2, if_neg (by omega)]
theorem startP_get {n : Nat} {ds : List PyData} {i : Nat} : (startP n ds)[i]? = if i < ds.length then (ds[i]?).map (fun d => some (.val d)) else if i < ds.length + (n - ds.length) then some none else none := by
  unfold startP
  by_cases h : i < ds.length
  · rw [if_pos h, List.getElem?_append_left (by simpa using h), List.getElem?_map]
  · rw [if_neg h, List.getElem?_append_right (by simpa using h), List.getElem?_replicate]
    simp only [List.length_map]
    by_cases h2 : i < ds.length + (n - ds.length)
    · rw [if_pos h2, if_pos (by omega)]
    · rw [if_neg h2, if_neg (by omega)]
theorem startP_noown {n : Nat} {ds : List PyData} {i : Nat} {d : PyData} : (startP n ds)[i]? ≠ some (some (.own d)) := fun e => by
  rw [startP_get] at e
  split at e
  · cases q : ds[i]? with
    | none => rw [q] at e; cases e
    | some z => rw [q] at e; cases e
  · split at e <;> cases e
theorem sr_start {K : PySem.W.Frag} {F H : Hp} {N : List Str} {vs : List V} {ds : List PyData} (h : Same F H) (hd : DvAll K F vs ds) (hl : vs.length ≤ N.length) : SR K none F H (L2.start N vs) (startP N.length ds) := by
  have hn : vs.length = ds.length := hd.length
  refine ⟨h, ?_, fun i x p e1 e2 => ?_, fun i j a d e h1 => (startP_noown h1).elim, fun a e => by cases e⟩
  · unfold startP L2.start; simp; omega
  · rw [start_get] at e1
    rw [startP_get] at e2
    by_cases hi : i < vs.length
    · rw [if_pos hi] at e1
      rw [if_pos (by omega)] at e2
      cases q : ds[i]? with
      | none => rw [q] at e2; cases e2
      | some d =>
        obtain ⟨v, h1, h2⟩ := hd.get q
        rw [h1] at e1
        rw [q] at e2
        cases e1; cases e2
        exact ⟨v, rfl, h2⟩
    · rw [if_neg (by omega)] at e2
      split at e2
      · cases e2; trivial
      · cases e2
theorem start_unowned {σ : St} {n : Nat} {ds : List PyData} {b : Addr} : ¬ Owned σ (startP n ds) b := fun ⟨_, _, h, _⟩ => startP_noown h
section
variable {P : Program} {w : World} {K : PySem.W.Frag} {mg : Str → Option Value} {base : Heap}
theorem Step.gr {F H F' H' : Hp} {σ σ' : St} {ps ps' : PSt} (st : Step F H σ ps F' H' σ' ps') (no : ∀ b, ¬ Owned σ ps b) (le : Same F' H') : Gr F H F' H' :=
  ⟨st.grow, fun b o e => (st.fresh b o e).elim .inl fun z => z.elim .inr fun z => (no b z).elim, fun b o e => st.keep b o e (no b), le⟩
/-- THE RULE for a def: its body as a function of pure states -/
theorem fn_body {x qual : Str} {st : Stmt} {f : Addr} {fd : FuncData} {N ps : List Str} {k n : Nat} {g : PSt → Os} (Fn : FunD K x qual (defArgs st) (defBody st) (defScope st) [] [] f fd) (S : FnScope N ps (defScope st)) (hn : ps.length = n)
    (hbody : ∀ (cdv : Value) (A : Around) (outer : List Env) (s : Shared) (H : Hp) (E : XK), Room k (A.deeper (envOfC qual (defScope st) s.heap.objs.size f cdv)) →
      GSs (cxOf (L2.CX P w) P w K mg base N qual (defScope st) f cdv A outer s H E) none (fun cls d _ H => E cls d H) (defBody st) g) : FnOk P w K mg base (L2.CX P w) (k + 1) f fd ps (spP K mg n (fun ds => (g (startP N.length ds)).fin)) := by
  refine Fn.ok S (fun vs H Q E q => q.1.trans hn.symm) fun cdv A outer s H vs Q E hr q => ⟨_, hbody cdv A outer s H E hr, ?_⟩
  obtain ⟨hl, F, ds, hs, hd, q⟩ := q
  dsimp only at q
  have hpl : ps.length ≤ N.length := by have := congrArg List.length S.pre; rw [List.length_take] at this; omega
  refine ⟨F, startP N.length ds, sr_start hs hd (by omega), ?_⟩
  show GoalS K mg none (fun cls d _ H => E cls d H) (g (startP N.length ds)) F H _ _ _
  cases e : g (startP N.length ds) with
  | nx ps' =>
    rw [e] at q
    exact fun σ' F' H' st s1 => q .non F' H' (st.gr (fun _ => start_unowned) s1.le) .non
  | ret p ps' =>
    rw [e] at q
    refine fun v σ' F' H' st s1 r => q v F' H' (st.gr (fun _ => start_unowned) s1.le) ?_
    match p, r with
    | .val d, r => exact r
    | .own d, r =>
      obtain ⟨a, h1, h2, _, h3⟩ := r
      exact ⟨a, h1, h2, h3.resolve_left start_unowned⟩
  | exc x ps' =>
    rw [e] at q
    exact fun cls dd σ' F' H' st s1 r => q cls dd F' H' (st.gr (fun _ => start_unowned) s1.le) r
  | brk ps' => rw [e] at q; exact q.elim
  | ct ps' => rw [e] at q; exact q.elim
  | bad => rw [e] at q; exact q.elim

theorem GFn.of_body {x qual : Str} {st : Stmt} {f : Addr} {fd : FuncData} {N ps : List Str} {k n : Nat} {g : PSt → Os} (Fn : FunD K x qual (defArgs st) (defBody st) (defScope st) [] [] f fd) (hm : mg x = some (.ref f)) (hb : Binds K fd ps []) (S : FnScope N ps (defScope st)) (hn : ps.length = n)
    (hbody : ∀ (cdv : Value) (A : Around) (outer : List Env) (s : Shared) (H : Hp) (E : XK), Room k (A.deeper (envOfC qual (defScope st) s.heap.objs.size f cdv)) →
      GSs (cxOf (L2.CX P w) P w K mg base N qual (defScope st) f cdv A outer s H E) none (fun cls d _ H => E cls d H) (defBody st) g) : GFn P w K mg base x (k + 1) n (fun ds => (g (startP N.length ds)).fin) :=
  ⟨f, fd, ps, fn_body Fn S hn hbody, hm, Fn.kp, hb⟩

/-- the start with a lent list -/
def startU (n : Nat) (u ds : List PyData) : PSt := some (.own (.list u)) :: startP (n - 1) ds
def uAt (ps : PSt) : List PyData := match ps[0]? with
  | some (some (PV.own (PyData.list u))) => u
  | _ => []
def Os.finU : Os → FRU
  | .nx ps => .ok (.val .none) (uAt ps)
  | .ret p ps => .ok p (uAt ps)
  | .exc x ps => .exc x (uAt ps)
  | _ => .bad
theorem uAt_of {Bo : Option Addr} {F H : Hp} {σ : St} {ps : PSt} {a : Addr} (s : SR K Bo F H σ ps) (hb : Bo = some a) : F a = none ∧ ∃ us, H a = some (.lst us) ∧ DvAll K F us (uAt ps) := by
  obtain ⟨h1, d, h2⟩ := s.bo a hb
  obtain ⟨b, h3, h4, xs, ds, e, h5, h6⟩ := s.ownL h2
  rw [h1] at h3; cases h3
  cases e
  refine ⟨h4, xs, h5, ?_⟩
  unfold uAt
  rw [h2]
  exact h6
theorem startU_own {σ : St} {n : Nat} {u ds : List PyData} {a b : Addr} (e : σ[0]? = some (some (.ref a))) (h : Owned σ (startU n u ds) b) : b = a := by
  obtain ⟨i, d, h1, h2⟩ := h
  cases i with
  | zero => rw [e] at h2; cases h2; rfl
  | succ i =>
    unfold startU at h1
    rw [List.getElem?_cons_succ] at h1
    exact (startP_noown h1).elim
theorem GFu.of_body {x qual : Str} {st : Stmt} {f : Addr} {fd : FuncData} {N ps : List Str} {k n : Nat} {g : PSt → Os} (Fn : FunD K x qual (defArgs st) (defBody st) (defScope st) [] [] f fd) (hm : mg x = some (.ref f)) (hb : Binds K fd ps []) (S : FnScope N ps (defScope st)) (hn : ps.length = n + 1)
    (hbody : ∀ (cdv : Value) (A : Around) (outer : List Env) (s : Shared) (H : Hp) (E : XK) (a : Addr), Room k (A.deeper (envOfC qual (defScope st) s.heap.objs.size f cdv)) →
      GSs (cxOf (L2.CX P w) P w K mg base N qual (defScope st) f cdv A outer s H E) (some a) (fun cls d _ H => E cls d H) (defBody st) g) : GFu P w K mg base x (k + 1) n (fun u ds => (g (startU N.length u ds)).finU) := by
  refine ⟨f, fd, ps, ?_, hm, Fn.kp, hb⟩
  refine Fn.ok S (fun vs H Q E q => q.1.trans hn.symm) fun cdv A outer s H vs Q E hr q => ?_
  obtain ⟨hl, a, us, vs', F, u, ds, rfl, ha, hF, hs, hu, hd, q⟩ := q
  dsimp only at q
  refine ⟨_, hbody cdv A outer s H E a hr, ?_⟩
  have hpl : ps.length ≤ N.length := by have := congrArg List.length S.pre; rw [List.length_take] at this; omega
  have hvl : vs'.length = n := by simpa using hl
  have s0 : (L2.start N (.ref a :: vs'))[0]? = some (some (.ref a)) := by unfold L2.start; simp
  have est : start N (.ref a :: vs') = some (.ref a) :: L2.start (N.drop 1) vs' := by
    unfold L2.start
    simp only [List.map_cons, List.cons_append, List.length_cons, List.length_drop]
    congr 3
    omega
  have sr : SR K (some a) F H (L2.start N (.ref a :: vs')) (startU N.length u ds) := by
    have sp : SR K none F H (start (N.drop 1) vs') (startP (N.drop 1).length ds) := sr_start hs hd (by rw [List.length_drop]; omega)
    rw [List.length_drop] at sp
    rw [est]
    refine ⟨hs, by unfold startU; simp only [List.length_cons]; rw [sp.len], fun i z p e1 e2 => ?_, fun i j b d e h1 h2 h3 h4 => ?_, fun c e => ?_⟩
    · cases i with
      | zero =>
        simp only [startU, List.getElem?_cons_zero] at e1 e2
        cases e1; cases e2
        exact ⟨a, rfl, OwnL.at ⟨hF, us, u, rfl, ha, hu⟩⟩
      | succ i =>
        unfold startU at e2
        rw [List.getElem?_cons_succ] at e1 e2
        exact sp.sl i z p e1 e2
    · have z : ∀ {i : Nat} {d : PyData}, (startU N.length u ds)[i]? = some (some (.own d)) → i = 0 := fun {i d} q => by
        cases i with
        | zero => rfl
        | succ i =>
          unfold startU at q
          rw [List.getElem?_cons_succ] at q
          exact (startP_noown q).elim
      rw [z h1, z h2]
    · cases e
      exact ⟨by simp, u, by simp [startU]⟩
  refine ⟨F, startU N.length u ds, sr, ?_⟩
  have own : ∀ b, Owned (L2.start N (.ref a :: vs')) (startU N.length u ds) b → b = a := fun b h => startU_own s0 h
  have grb : ∀ {F' H' : Hp} {σ' : St} {ps' : PSt}, Step F H (L2.start N (.ref a :: vs')) (startU N.length u ds) F' H' σ' ps' → SR K (some a) F' H' σ' ps' → GrB a F H F' H' := fun {F' H' σ' ps'} st s1 => by
    refine ⟨st.grow, fun b o e => ?_, fun b o ne e => st.keep b o e fun h => ne (own b h), s1.le⟩
    rcases st.fresh b o e with z | z | z
    · exact .inl z
    · exact .inr z
    · have := own b z
      subst this
      obtain ⟨n1, _⟩ := uAt_of s1 rfl
      rw [n1] at e; cases e
  show GoalS K mg (some a) (fun cls d _ H => E cls d H) (g (startU N.length u ds)) F H _ _ _
  cases e : g (startU N.length u ds) with
  | nx ps' =>
    rw [e] at q
    intro σ' F' H' st s1
    obtain ⟨n1, us', h1, h2⟩ := uAt_of s1 rfl
    exact q .non F' H' us' (grb st s1) h1 h2 .non
  | ret p ps' =>
    rw [e] at q
    intro v σ' F' H' st s1 r
    obtain ⟨n1, us', h1, h2⟩ := uAt_of s1 rfl
    refine q v F' H' us' (grb st s1) h1 h2 ?_
    match p, r with
    | .val d, r => exact r
    | .own d, r =>
      obtain ⟨b, z1, z2, zn, z3⟩ := r
      refine ⟨b, z1, z2, z3.resolve_left fun z => zn ?_⟩
      have := own b z
      subst this
      obtain ⟨r1, d', r2⟩ := s1.bo b rfl
      exact ⟨0, _, r2, r1⟩
  | exc x ps' =>
    rw [e] at q
    intro cls dd σ' F' H' st s1 r
    obtain ⟨n1, us', h1, h2⟩ := uAt_of s1 rfl
    exact q cls dd F' H' us' (grb st s1) h1 h2 r
  | brk ps' => rw [e] at q; exact q.elim
  | ct ps' => rw [e] at q; exact q.elim
  | bad => rw [e] at q; exact q.elim
end
end GL

/-! GLe: calls of defs, raise, try, comprehensions, sources of loops, lists changed in place -/
namespace GL
open PySem PySem.Spec L2
open PyProof.Rows hiding St

section
variable {X : Cx} {Bo : Option Addr} {W : WX} {e e1 e2 : Expr} {es : List Expr} {st : Stmt} {f f1 f2 : PSt → Rs PyData} {fa : PSt → Rs (List PyData)} {fo : PSt → Rs PV} {c : PSt → Rs Bool} {g g1 g2 : PSt → Os} {pos p : Pos} {x : Str} {k n : Nat}

/-! ### calls of defs -/
def FR.rs (r : FR) (ps : PSt) : Rs PV := match r with
  | .ok p => .ok p ps
  | .exc x => .exc x ps
  | .bad => .bad
def fCall (n : Nat) (M : List PyData → FR) (fa : PSt → Rs (List PyData)) : PSt → Rs PV := fun ps => (fa ps).bind fun ds ps1 => if ds.length = n then (M ds).rs ps1 else .bad
theorem call_end {K : PySem.W.Frag} {mg : Str → Option Value} {F H : Hp} {σ : St} {ps : PSt} {Q : VK} {r : FR} (sr : SR K Bo F H σ ps) (q : Goal K mg Bo W (RO K) (r.rs ps) F H σ ps Q) : FGoal K mg r F H Q (WE W σ) := by
  cases r with
  | ok p =>
    intro v F' H' gr h
    refine q v F' H' (.of_gr gr) (sr.gr gr) ?_
    match p, h with
    | .val d, h => exact h
    | .own d, h =>
      obtain ⟨a, h1, h2, h3⟩ := h
      refine ⟨a, h1, h2, ?_, .inr h3⟩
      rintro ⟨i, d', q1, q2⟩
      obtain ⟨b, q3, _, xs, q4, _⟩ := sr.own q1
      rw [q2] at q3; cases q3
      rw [h3] at q4; cases q4
  | exc x => exact fun cls dd F' H' gr h => q cls dd F' H' (.of_gr gr) (sr.gr gr) h
  | bad => exact q.elim
theorem go_call {M : List PyData → FR} (G : GFn X.prog X.w X.K X.mg X.base x k n M) (hr : Room k X.A) (hg : Gl X x) (tk : Takes X W) (ha : GA X Bo W (e :: es) fa) (hdb : (x == ("__debug__" : Str)) = false := by decide)
    (he : starEach (e :: es) X.env = (false, eval e X.env) :: starEach es X.env := by rfl) (hpl : (backTo pos (starEach es X.env)).any (·.1) = false := by rfl) : GO X Bo W (.Call (.Name x p) (e :: es) [] pos) (fCall n M fa) := by
  obtain ⟨f, fd, ps, h1, h2, h3, h4⟩ := G.ex
  refine (pe_callS h1 hr hg h2 h3 h4 (fun σ => passAt tk σ) ha hdb he hpl).imp fun σ H Q q => ?_
  refine tR_bind RO.rb q fun vs ds F F1 H1 ps ps1 sr st hv q => ?_
  split at q
  · rename_i hl
    exact ⟨by rw [L2.DvAll.length hv, hl], F1, ds, sr.le, hv, call_end sr q⟩
  · exact q.elim
def isOwn (i : Nat) (ps : PSt) : Bool := match ps[i]? with
  | some (some (.own _)) => true
  | _ => false
theorem isOwn_at {i : Nat} {ps : PSt} (h : isOwn i ps = true) : ∃ d, ps[i]? = some (some (.own d)) := by
  unfold isOwn at h
  split at h
  · rename_i d e; exact ⟨d, e⟩
  · cases h
def fCallU (i n : Nat) (M : List PyData → List PyData → FRU) (fa : PSt → Rs (List PyData)) : PSt → Rs PV := fun ps => if isOwn i ps = false then .bad else (fa ps).bind fun ds ps1 => if ds.length = n then (match ps1[i]? with
    | some (some (.own (.list u))) => (match M u ds with
      | .ok p u' => .ok p (ps1.set i (some (.own (.list u'))))
      | .exc x u' => .exc x (ps1.set i (some (.own (.list u'))))
      | .bad => .bad)
    | _ => .bad) else .bad
theorem go_callU (i : Nat) {y : Str} {py : Pos} {M : List PyData → List PyData → FRU} (G : GFu X.prog X.w X.K X.mg X.base x k n M) (hr : Room k X.A) (hg : Gl X x) (tk : Takes X W) (ha : GA X Bo W es fa) (hN : X.N[i]? = some y := by rfl)
    (hv : Vis X.env.scope y := by first | exact Or.inl rfl | exact Or.inr (Or.inl rfl) | exact Or.inr (Or.inr rfl)) (hd : (y == ("__debug__" : Str)) = false := by decide) (hcd : (y == ("__classdict__" : Str)) = false := by decide) (hdb : (x == ("__debug__" : Str)) = false := by decide)
    (he : starEach (.Name y py :: es) X.env = (false, eval (.Name y py) X.env) :: starEach es X.env := by rfl) (hpl : (backTo pos (starEach es X.env)).any (·.1) = false := by rfl) : GO X Bo W (.Call (.Name x p) (.Name y py :: es) [] pos) (fCallU i n M fa) := by
  obtain ⟨f, fd, ps, h1, h2, h3, h4⟩ := G.ex
  refine (pe_callS h1 hr hg h2 h3 h4 (fun σ => passAt tk σ) (pa_cons (pe_var hN hv hd hcd) ha he) hdb he hpl).imp fun σ H Q q => ?_
  obtain ⟨F, ps, sr0, q⟩ := q
  unfold fCallU at q
  split at q
  · exact q.elim
  rename_i ho
  obtain ⟨d0, hd0⟩ := isOwn_at (by simpa using ho)
  obtain ⟨a0, ha0, _⟩ := sr0.own hd0
  -- the slot's address does not change
  have key : ∀ v, σ[i]? = some (some v) → tR X.K X.mg Bo W (RA X.K) fa σ H fun vs H1 => spU X.K X.mg n M (v :: vs) H1 Q (WE W σ) := fun v hi => by
    refine go_bind RO.rb sr0 q fun vs ds F1 H1 ps1 sr st hv q => ?_
    split at q
    · rename_i hl
      match e : ps1[i]?, q with
      | some (some (.own (.list u))), q =>
        obtain ⟨a, ha', hn, us, u', eu, hH, hus⟩ := sr.ownL e
        cases eu
        rw [hi] at ha'; cases ha'
        refine ⟨by simp [L2.DvAll.length hv, hl], a, us, vs, F1, u, ds, rfl, hH, hn, sr.le, hus, hv, ?_⟩
        have own : Owned σ ps1 a := ⟨i, _, e, hi⟩
        -- behind the call
        have back : ∀ {F' H' : Hp} {us' : List V} {u' : List PyData}, GrB a F1 H1 F' H' → H' a = some (.lst us') → DvAll X.K F' us' u' →
            SR X.K Bo F' H' σ (ps1.set i (some (.own (.list u')))) ∧ Step F1 H1 σ ps1 F' H' σ (ps1.set i (some (.own (.list u')))) := fun {F' H' us' u'} gb h1 h2 => by
          -- first the change, then the rest
          have hFa : F' a = none := by
            cases z : F' a with
            | none => rfl
            | some o =>
              rcases gb.fresh a o z with y | y
              · rw [hn] at y; cases y
              · rw [hH] at y; cases y
          have step1 : Step F1 H1 σ ps1 F' H' σ (ps1.set i (some (.own (.list u')))) := by
            refine ⟨gb.grow, fun b o z => (gb.fresh b o z).imp_right .inl, fun b o z no => gb.keep b o (fun w => by subst w; exact no own) z, fun b z => ?_⟩
            obtain ⟨j, d, q1, q2⟩ := z
            by_cases hj : i = j
            · subst hj; exact .inl ⟨i, _, e, q2⟩
            · rw [List.getElem?_set_ne hj] at q1; exact .inl ⟨j, d, q1, q2⟩
          refine ⟨⟨gb.le, by simp [sr.len], fun j z p e1 e2 => ?_, fun j l b d1 d2 z1 z2 z3 z4 => ?_, fun c z => ?_⟩, step1⟩
          · have hi' : i < ps1.length := (List.getElem?_eq_some_iff.mp e).1
            by_cases hj : i = j
            · subst hj
              rw [List.getElem?_set_self hi'] at e2; cases e2
              rw [hi] at e1; cases e1
              exact ⟨a, rfl, OwnL.at ⟨hFa, us', u', rfl, h1, h2⟩⟩
            · rw [List.getElem?_set_ne hj] at e2
              have r := sr.sl j z p e1 e2
              match p, r with
              | none, _ => trivial
              | some (.val d), r =>
                obtain ⟨v, r1, r2⟩ := r
                exact ⟨v, r1, r2.mono gb.grow⟩
              | some (.own d), r =>
                obtain ⟨b, r1, rn, ys, r4, r5⟩ := r
                have ne : b ≠ a := fun w => by
                  subst w; subst r1
                  exact hj (sr.apart i j b _ _ e e2 hi e1)
                refine ⟨b, r1, ?_, ys, gb.keep b _ ne r4, r5.mono gb.grow⟩
                cases z : F' b with
                | none => rfl
                | some o =>
                  rcases gb.fresh b o z with y | y
                  · rw [rn] at y; cases y
                  · rw [r4] at y; cases y
          · have old : ∀ {j : Nat} {d : PyData}, (ps1.set i (some (.own (.list u'))))[j]? = some (some (.own d)) → ∃ d', ps1[j]? = some (some (.own d')) := fun {j d} q => by
              by_cases hj : i = j
              · subst hj; exact ⟨_, e⟩
              · rw [List.getElem?_set_ne hj] at q; exact ⟨_, q⟩
            obtain ⟨_, o1⟩ := old z1
            obtain ⟨_, o2⟩ := old z2
            exact sr.apart j l b _ _ o1 o2 z3 z4
          · obtain ⟨r1, d1, r2⟩ := sr.bo c z
            refine ⟨r1, ?_⟩
            by_cases hj : i = 0
            · subst hj; exact ⟨_, List.getElem?_set_self (List.getElem?_eq_some_iff.mp e).1⟩
            · exact ⟨d1, by rw [List.getElem?_set_ne hj]; exact r2⟩
        dsimp only at q
        cases eM : M u ds with
        | ok p u' =>
          rw [eM] at q
          intro v F' H' us' gb hu1 hu2 hr0
          obtain ⟨s2, st2⟩ := back gb hu1 hu2
          refine q v F' H' st2 s2 ?_
          match p, hr0 with
          | .val d, hr0 => exact hr0
          | .own d, hr0 =>
            obtain ⟨b, y1, y2, y3⟩ := hr0
            refine ⟨b, y1, y2, ?_, .inr y3⟩
            intro z
            rcases st2.own b z with y | y
            · obtain ⟨j, d', q1, q2⟩ := y
              obtain ⟨b', q3, _, xs, q4, _⟩ := sr.own q1
              rw [q2] at q3; cases q3
              rw [y3] at q4; cases q4
            · obtain ⟨j, d', q1, q2⟩ := z
              by_cases hj : i = j
              · subst hj
                rw [hi] at q2; cases q2
                rw [hH] at y; cases y
              · rw [List.getElem?_set_ne hj] at q1
                obtain ⟨b', q3, _, xs, q4, _⟩ := sr.own q1
                rw [q2] at q3; cases q3
                rw [y3] at q4; cases q4
        | exc x u' =>
          rw [eM] at q
          intro cls dd F' H' us' gb hu1 hu2 hx
          obtain ⟨s2, st2⟩ := back gb hu1 hu2
          exact q cls dd F' H' st2 s2 hx
        | bad => rw [eM] at q; exact q.elim
      | none, q => exact q.elim
      | some none, q => exact q.elim
      | some (some (.val _)), q => exact q.elim
      | some (some (.own .none)), q => exact q.elim
      | some (some (.own (.bool _))), q => exact q.elim
      | some (some (.own (.int _))), q => exact q.elim
      | some (some (.own (.str _))), q => exact q.elim
      | some (some (.own (.tuple _))), q => exact q.elim
      | some (some (.own (.dict _))), q => exact q.elim
    · exact q.elim
  exact ⟨_, ha0, key _ ha0⟩
end
end GL

/-! GLf: raise, try, comprehensions, sources of loops, lists changed in place -/
namespace GL
open PySem PySem.Spec L2
open PyProof.Rows hiding St

section
variable {X : Cx} {Bo : Option Addr} {W : WX} {e e1 e2 : Expr} {es : List Expr} {st : Stmt} {f f1 f2 : PSt → Rs PyData} {fa : PSt → Rs (List PyData)} {fo : PSt → Rs PV} {c : PSt → Rs Bool} {g g1 g2 : PSt → Os} {pos p : Pos} {x : Str} {k n : Nat}

/-! ### raise -/
/-- X(), X an own exception class without own __init__ -/
theorem pmk_own0 {C : Addr} {bmB : List Value} {B newId initId : String} {x : Str} {p pos : Pos} (F : ExcBaseFacts B newId initId bmB) (q : PySem.W.excIn X.K C bmB newId = true) (gC : X.mg x = some (.ref C))
    (kC : PySem.W.keepIn X.K (.ref C) = true) (r : Raises X (.ref C)) (hg : Gl X x) (hdb : (x == ("__debug__" : Str)) = false := by decide) :
    PMk X (.Call (.Name x p) [] [] pos) (fun _ H Q => Q (.ref C) none H) := by
  intro pins s σ H Q I h
  refine wpAny_Call_Name_kw (ld_glob I hg gC ?_ hdb)
  refine PySem.W.callWith_K0 I.kIn kC ?_
  show wpAny _ _ (call (.ref C) []) _ _ _
  obtain ⟨bm, N, nm, qn, bs, hdct, sn, sub, ab, col, dd, k0, k1, k2, k3, k5, mN, hC, hN, hni, T⟩ := exc_obj I.kIn q
  refine wpAny_call_exc_subT F T hC hN hni (fun h' e hm => ?_) (by show 0 ≤ sizeLine; exact Nat.zero_le _)
  exact mk_of I hm r h (I.hok.gone hm.new)
theorem gs_raise0 {C : Addr} (gC : X.mg x = some (.ref C)) (hc : X.calm = true) (tk : Takes X W) (hp : PMk X e (fun _ H Q => Q (.ref C) none H)) : GS X Bo W (.Raise (some e) none pos) (fun ps => .exc ⟨x, none⟩ ps) := by
  refine (ps_raise hc tk hp).imp fun D σ H ⟨F, ps, sr, q⟩ => ?_
  exact q (.ref C) none σ F H .refl sr ⟨C, gC, rfl, rfl⟩

/-! ### try .. except x: suite -/
def Os.nox : Os → Os
  | .exc _ _ => .bad
  | o => o
def fTry (L : List Str) (x : Str) (g h : PSt → Os) : PSt → Os := fun ps => match g ps with
  | .exc z ps1 => if z.cls = x then (h ps1).nox else if z.cls ∈ L then .exc z ps1 else .bad
  | .nx ps1 => .nx ps1
  | .ret p ps1 => .ret p ps1
  | .brk ps1 => .brk ps1
  | .ct ps1 => .ct ps1
  | .bad => .bad
theorem gs_try {L : List Str} {S : Addr} {body suite : List Stmt} {b₀ : Stmt} {np pos pos' : Pos} (hs : X.stack = X.env :: X.outer) (hf : X.env.frame = some X.env.locals) (hg : Gl X x) (hm : X.mg x = some (.ref S)) (tk : Takes X W)
    (hyes : PySem.W.exmOne X.K (.ref S) (.ref S) = some true) (hno : ∀ y ∈ L, y ≠ x → ∀ C, X.mg y = some (.ref C) → PySem.W.exmOne X.K (.ref C) (.ref S) = some false)
    (hb : ∀ (W : WX) (pn : List (Addr × Obj)) (xe : Value → Shared → Prop), Takes (X.tr pn xe) W → PassesOwn (model X.prog X.w) X.A X.env xe → GSs (X.tr pn xe) Bo W body g)
    (hsu : ∀ (a : Addr) (oe : Obj) (pn : List (Addr × Obj)), GSs (X.suite a ((a, oe) :: pn)) Bo (fun _ _ _ _ => False) (b₀ :: suite) g1) (hdb : (x == ("__debug__" : Str)) = false := by decide) :
    GS X Bo W (.Try body [.ExceptHandler (some (.Name x np)) none (b₀ :: suite) pos'] [] [] pos) (fTry L x g g1) := by
  refine (ps_try_only (c := .ref S) (Wout := W) (tb := fun W => tS X.K X.mg Bo W g) (ts := fun _ _ _ => tS X.K X.mg Bo (fun _ _ _ _ => False) g1) hs hf ⟨hg, hdb, .inl hm⟩ tk (fun W pn xe tk hp => hb W pn xe tk hp) (fun a oe cls d pn hz hx => hsu a oe pn)).imp fun D σ H ⟨F, ps, sr, q⟩ => ?_
  refine ⟨F, ps, sr, ?_⟩
  unfold fTry at q
  cases e : g ps with
  | exc z ps1 =>
    rw [e] at q
    dsimp only at q
    intro cls dd σ' F' H' st s1 hx
    obtain ⟨C, hC, rfl, hd⟩ := id hx
    by_cases hz : z.cls = x
    · rw [if_pos hz] at q
      rw [hz, hm] at hC
      cases hC
      refine ⟨true, hyes, fun _ a ha => ⟨F', ps1, s1, ?_⟩, fun w => nomatch w⟩
      have q2 := GoalS.rebase q st
      cases e2 : g1 ps1 with
      | exc z2 ps2 => rw [e2] at q2; exact q2.elim
      | nx ps2 => rw [e2] at q2; exact q2
      | ret p ps2 => rw [e2] at q2; exact q2
      | brk ps2 => rw [e2] at q2; exact q2
      | ct ps2 => rw [e2] at q2; exact q2
      | bad => rw [e2] at q2; exact q2
    · rw [if_neg hz] at q
      split at q
      · rename_i hL
        exact ⟨false, hno _ hL hz C hC, fun w => (nomatch w), fun _ => q (.ref C) dd σ' F' H' st s1 hx⟩
      · exact q.elim
  | nx ps2 => rw [e] at q; exact q
  | ret p ps2 => rw [e] at q; exact q
  | brk ps2 => rw [e] at q; exact q
  | ct ps2 => rw [e] at q; exact q
  | bad => rw [e] at q; exact q
end
end GL

/-! GLg: comprehensions, sources of loops, lists changed in place -/
namespace GL
open PySem PySem.Spec L2
open PyProof.Rows hiding St

/-! ### comprehensions -/
def wipeP (ps : PSt) : List Nat → PSt
  | [] => ps
  | v :: vs => (wipeP ps vs).set v none
theorem wipeP_length (ps : PSt) : ∀ vs : List Nat, (wipeP ps vs).length = ps.length
  | [] => rfl
  | v :: vs => by unfold wipeP; rw [List.length_set, wipeP_length ps vs]
theorem wipeP_some {ps : PSt} {i : Nat} {p : PV} : ∀ {vs : List Nat}, (wipeP ps vs)[i]? = some (some p) → ps[i]? = some (some p) ∧ i ∉ vs
  | [], h => ⟨h, by simp⟩
  | v :: vs, h => by
    unfold wipeP at h
    by_cases hi : v = i
    · subst hi
      by_cases hv : v < (wipeP ps vs).length
      · rw [List.getElem?_set_self hv] at h; cases h
      · rw [List.getElem?_eq_none (by simpa using hv)] at h; cases h
    · rw [List.getElem?_set_ne hi] at h
      obtain ⟨h1, h2⟩ := wipeP_some h
      exact ⟨h1, by simp only [List.mem_cons, not_or]; exact ⟨fun e => hi e.symm, h2⟩⟩
theorem wipeP_out {ps : PSt} {i : Nat} : ∀ {vs : List Nat}, i ∉ vs → (wipeP ps vs)[i]? = ps[i]?
  | [], _ => rfl
  | v :: vs, h => by
    have h1 : v ≠ i := fun e => h (by rw [e]; exact List.mem_cons_self)
    have h2 : i ∉ vs := fun m => h (List.mem_cons_of_mem _ m)
    unfold wipeP
    rw [List.getElem?_set_ne h1]
    exact wipeP_out h2
theorem wipe_in {ps : PSt} {i : Nat} : ∀ {vs : List Nat}, i ∈ vs → (wipeP ps vs)[i]? = none ∨ (wipeP ps vs)[i]? = some none
  | v :: vs, h => by
    unfold wipeP
    by_cases hi : v = i
    · subst hi
      by_cases hv : v < (wipeP ps vs).length
      · rw [List.getElem?_set_self hv]; exact .inr rfl
      · rw [List.getElem?_eq_none (by simpa using hv)]; exact .inl rfl
    · rw [List.getElem?_set_ne hi]
      rcases List.mem_cons.mp h with e | h
      · exact absurd e.symm hi
      · exact wipe_in h
section
variable {K : PySem.W.Frag} {mg : Str → Option Value} {Bo : Option Addr} {W : WX} {F H F1 H1 F2 H2 : Hp} {σ σ1 σ2 : St} {ps ps1 ps2 : PSt} {vs : List Nat}
theorem owned_wipe {b : Addr} : Owned (wipe σ vs) (wipeP ps vs) b ↔ Owned σ (wipeP ps vs) b := by
  constructor
  · rintro ⟨i, d, h1, h2⟩
    obtain ⟨_, hi⟩ := wipeP_some h1
    exact ⟨i, d, h1, by rw [wipe_out hi] at h2; exact h2⟩
  · rintro ⟨i, d, h1, h2⟩
    obtain ⟨_, hi⟩ := wipeP_some h1
    exact ⟨i, d, h1, by rw [wipe_out hi]; exact h2⟩
theorem owned_wipeP {b : Addr} (h : Owned σ (wipeP ps vs) b) : Owned σ ps b := by
  obtain ⟨i, d, h1, h2⟩ := h
  exact ⟨i, d, (wipeP_some h1).1, h2⟩
/-- slots that agree but where nothing is known -/
theorem SR.agree (s : SR K Bo F H σ ps) (hl : σ1.length = σ.length) (hb : Bo = none ∨ 0 ∉ vs) (h : ∀ i, i ∉ vs → σ1[i]? = σ[i]?) : SR K Bo F H σ1 (wipeP ps vs) := by
  refine ⟨s.le, by rw [wipeP_length, s.len, hl], fun i x p e1 e2 => ?_, fun i j a d e h1 h2 h3 h4 => ?_, fun a e => ?_⟩
  · cases p with
    | none => trivial
    | some p =>
      obtain ⟨q1, q2⟩ := wipeP_some e2
      rw [h i q2] at e1
      exact s.sl i x _ e1 q1
  · obtain ⟨q1, q2⟩ := wipeP_some h1
    obtain ⟨q3, q4⟩ := wipeP_some h2
    rw [h i q2] at h3
    rw [h j q4] at h4
    exact s.apart i j a d e q1 q3 h3 h4
  · obtain ⟨r1, d, r2⟩ := s.bo a e
    have n : 0 ∉ vs := hb.resolve_left (by rw [e]; simp)
    exact ⟨by rw [h 0 n]; exact r1, d, by rw [wipeP_out n]; exact r2⟩
theorem SR.wipe (s : SR K Bo F H σ ps) (hb : Bo = none ∨ 0 ∉ vs) : SR K Bo F H (wipe σ vs) (wipeP ps vs) := s.agree (wipe_length _ _) hb fun i hi => wipe_out hi
theorem Step.wipe : Step F H σ ps F H (wipe σ vs) (wipeP ps vs) := ⟨.refl _, fun _ _ e => .inl e, fun _ _ e _ => e, fun b h => .inl (owned_wipeP (owned_wipe.mp h))⟩
def compL (u : PyData → PSt → Option PSt) (c : PSt → Rs Bool) (fe : PSt → Rs PyData) (vs : List Nat) : List PyData → PSt → List PyData → Rs (List PyData)
  | [], ps, acc => .ok acc ps
  | d :: ds, ps, acc => match u d ps with
    | none => .bad
    | some ps1 => (c ps1).bind fun b ps2 => if b = true then ((fe ps2).bind fun y ps3 => if acc.length < sizeLine then compL u c fe vs ds (wipeP ps3 vs) (acc ++ [y]) else .bad) else compL u c fe vs ds (wipeP ps2 vs) acc
def Rs.nox {α : Type} : Rs α → Rs α
  | .exc _ _ => .bad
  | r => r
/-- names of the block that the def has too: what they held -/
def keepV : Option (Option PV) → Option PV
  | some (some (.val d)) => some (.val d)
  | _ => none
def restP (ps1 ps2 : PSt) : List Nat → PSt
  | [] => ps2
  | v :: vs => (restP ps1 ps2 vs).set v (keepV ps1[v]?)
def Rs.mapP {α : Type} (r : Rs α) (g : PSt → PSt) : Rs α := match r with
  | .ok a ps => .ok a (g ps)
  | .exc x ps => .exc x ps
  | .bad => .bad
theorem SR.back (s : SR K Bo F H σ ps) {i : Nat} {v : V} {d : PyData} (hb : Bo = none ∨ i ≠ 0) (e : σ[i]? = some (some v)) (h : Dv K F v d) : SR K Bo F H σ (ps.set i (some (.val d))) := by
  have z := s.setV (v := v) hb h
  have : σ.set i (some v) = σ := by
    refine List.ext_getElem? fun j => ?_
    by_cases hj : i = j
    · subst hj
      rw [e, List.getElem?_set_self (List.getElem?_eq_some_iff.mp e).1]
    · rw [List.getElem?_set_ne hj]
  rwa [this] at z
theorem SR.rest (s1 : SR K Bo F1 H1 σ ps1) (g : Same F1 F2) (hb : Bo = none ∨ 0 ∉ vs) (s : SR K Bo F2 H2 σ ps2) : SR K Bo F2 H2 σ (restP ps1 ps2 vs) ∧ ∀ b, Owned σ (restP ps1 ps2 vs) b → Owned σ ps2 b := by
  induction vs with
  | nil => exact ⟨s, fun b h => h⟩
  | cons v vs ih =>
    obtain ⟨a, b⟩ := ih (hb.imp_right fun q z => q (List.mem_cons_of_mem _ z))
    have hv : Bo = none ∨ v ≠ 0 := hb.imp_right fun q z => q (by rw [z]; exact List.mem_cons_self)
    unfold restP
    match e : ps1[v]? with
    | some (some (.val d)) =>
      obtain ⟨x, h1, h2⟩ := s1.val e
      exact ⟨a.back hv h1 (h2.mono g), fun c h => b c (by
        obtain ⟨i, d', q1, q2⟩ := h
        by_cases hi : v = i
        · subst hi
          by_cases hl : v < (restP ps1 ps2 vs).length
          · rw [List.getElem?_set_self hl] at q1; cases q1
          · rw [List.getElem?_eq_none (by simpa using hl)] at q1; cases q1
        · rw [List.getElem?_set_ne hi] at q1; exact ⟨i, d', q1, q2⟩)⟩
    | some (some (.own d)) => exact ⟨a.kill hv, fun c h => b c (owned_kill h)⟩
    | some none => exact ⟨a.kill hv, fun c h => b c (owned_kill h)⟩
    | none => exact ⟨a.kill hv, fun c h => b c (owned_kill h)⟩
def fLc (fi : PSt → Rs (List PyData)) (u : PyData → PSt → Option PSt) (c : PSt → Rs Bool) (fe : PSt → Rs PyData) (vs : List Nat) : PSt → Rs PV := fun ps => (fi ps).bind fun ds ps1 => ((((compL u c fe vs ds (wipeP ps1 vs) []).nox).map fun l => PV.own (.list l)).mapP fun p => restP ps1 p vs)
def cYes : PSt → Rs Bool := .ok true
theorem wipeP_in {ps : PSt} {i : Nat} : ∀ {vs : List Nat}, i ∈ vs → (wipeP ps vs)[i]? = if i < ps.length then some none else none
  | v :: vs, h => by
    unfold wipeP
    by_cases hi : v = i
    · subst hi
      by_cases hv : v < ps.length
      · rw [List.getElem?_set_self (by rw [wipeP_length]; exact hv), if_pos hv]
      · rw [List.getElem?_eq_none (by simpa [wipeP_length] using hv), if_neg hv]
    · rw [List.getElem?_set_ne hi]
      rcases List.mem_cons.mp h with e | h
      · exact absurd e.symm hi
      · exact wipeP_in h
theorem wipeP_idem : wipeP (wipeP ps vs) vs = wipeP ps vs := by
  refine List.ext_getElem? fun i => ?_
  by_cases hi : i ∈ vs
  · rw [wipeP_in hi, wipeP_in hi, wipeP_length]
  · rw [wipeP_out hi]
theorem wipe_in' {σ : St} {i : Nat} : ∀ {vs : List Nat}, i ∈ vs → (wipe σ vs)[i]? = if i < σ.length then some none else none
  | v :: vs, h => by
    unfold wipe
    by_cases hi : v = i
    · subst hi
      by_cases hv : v < σ.length
      · rw [List.getElem?_set_self (by rw [wipe_length]; exact hv), if_pos hv]
      · rw [List.getElem?_eq_none (by simpa [wipe_length] using hv), if_neg hv]
    · rw [List.getElem?_set_ne hi]
      rcases List.mem_cons.mp h with e | h
      · exact absurd e.symm hi
      · exact wipe_in' h
theorem wipe_only {T : List Nat} (h : Only T (L2.wipe σ vs) σ1) (hT : ∀ i ∈ T, i ∈ vs) : L2.wipe σ1 vs = L2.wipe σ vs := by
  refine List.ext_getElem? fun i => ?_
  by_cases hi : i ∈ vs
  · rw [wipe_in' hi, wipe_in' hi, h.1, wipe_length]
  · rw [wipe_out hi, h.2 i fun z => hi (hT i z)]
/-- a list that is nobody's is changed -/
theorem SR.other {D : Addr} {o : HO} (s : SR K Bo F H σ ps) (hF : F D = none) (no : ¬ Owned σ ps D) : SR K Bo F (upd H D o) σ ps := by
  refine ⟨fun b u e => ?_, s.len, fun i x p e1 e2 => ?_, s.apart, s.bo⟩
  · have ne : b ≠ D := fun w => by subst w; rw [hF] at e; cases e
    rw [upd_ne ne]; exact s.le b u e
  · have q := s.sl i x p e1 e2
    match p, q with
    | none, _ => trivial
    | some (.val d), q => exact q
    | some (.own d), q =>
      obtain ⟨b, r1, rn, ys, r4, r5⟩ := q
      have ne : b ≠ D := fun w => by subst w; subst r1; exact no ⟨i, d, e2, e1⟩
      exact ⟨b, r1, rn, ys, by rw [upd_ne ne]; exact r4, r5⟩
theorem lc_data {T : List Nat} {u : PyData → PSt → Option PSt} {c : PSt → Rs Bool} {fe : PSt → Rs PyData} {fi : PSt → Rs (List PyData)} {Q : VK} (hb : Bo = none ∨ 0 ∉ vs) (hT : ∀ i ∈ T, i ∈ vs)
    (q : tR K mg Bo W (RO K) (fLc fi u c fe vs) σ H Q) : tLc (tI K mg Bo W fi) (tG K Bo T u) (tR K mg Bo (fun _ _ _ _ => False) RB c) (tR K mg Bo (fun _ _ _ _ => False) (RV K) fe) vs σ H Q := by
  refine tR_bind RO.rb q fun J ds F F1 H1 ps ps1 sr st hJ q => ?_
  have hJ : ItOk K J F1 ds := hJ
  intro D hD
  generalize hR : compL u c fe vs ds (wipeP ps1 vs) [] = R at q
  have sw : SR K Bo F1 H1 (L2.wipe σ vs) (wipeP ps1 vs) := sr.wipe hb
  have g0 : Gr F1 H1 F1 (upd H1 D (.lst [])) := ⟨.refl _, fun _ _ e => .inl e, same_upd hD, sr.le.trans (same_upd hD)⟩
  have noD : ¬ Owned (L2.wipe σ vs) (wipeP ps1 vs) D := by
    rintro ⟨i, d, q1, q2⟩
    obtain ⟨b, q3, _, xs, q4, _⟩ := sw.own q1
    rw [q2] at q3; cases q3
    rw [hD] at q4; cases q4
  refine ⟨fun i m H' => m = ds.length - i ∧ i ≤ ds.length ∧ ∃ F' p' acc xs, SR K Bo F' H' (L2.wipe σ vs) (wipeP p' vs) ∧ Step F1 H1 (L2.wipe σ vs) (wipeP ps1 vs) F' H' (L2.wipe σ vs) (wipeP p' vs) ∧ F' D = none ∧ ¬ Owned (L2.wipe σ vs) (wipeP p' vs) D ∧ H' D = some (.lst xs) ∧ DvAll K F' xs acc ∧
      compL u c fe vs (ds.drop i) (wipeP p' vs) acc = R,
    ⟨ds.length, by simp, Nat.zero_le _, F1, ps1, [], [], sw.gr g0, .of_gr g0, sr.le.free hD, noD, upd_same, .nil, by simpa using hR⟩, ?_⟩
  rintro i m H' ⟨rfl, hi, F', p', acc, xs, s', st', hF', noD', hH', hacc, hc⟩
  by_cases hlt : i < ds.length
  · -- what a turn is to reach
    refine .inr ⟨hJ.go F' H' i st'.grow s'.le hlt, fun H2 => ∃ F2 p2 acc2 xs2, SR K Bo F2 H2 (L2.wipe σ vs) (wipeP p2 vs) ∧ Step F1 H1 (L2.wipe σ vs) (wipeP ps1 vs) F2 H2 (L2.wipe σ vs) (wipeP p2 vs) ∧ F2 D = none ∧ ¬ Owned (L2.wipe σ vs) (wipeP p2 vs) D ∧ H2 D = some (.lst xs2) ∧ DvAll K F2 xs2 acc2 ∧
      compL u c fe vs (ds.drop (i + 1)) (wipeP p2 vs) acc2 = R,
      fun H2 ⟨F2, p2, acc2, xs2, h1, h2, h3, h4, h5, h6, h7⟩ => ⟨ds.length - (i + 1), by omega, rfl, hlt, F2, p2, acc2, xs2, h1, h2, h3, h4, h5, h6, h7⟩, fun x H2 y => ?_⟩
    obtain ⟨F2, gr2, hx⟩ := hJ.yld F' H' i ds[i] x H2 st'.grow s'.le (by simp [hlt]) y
    have s2 := s'.gr gr2
    have st2 := st'.trans (.of_gr gr2)
    have hF2 : F2 D = none := by
      cases z : F2 D with
      | none => rfl
      | some o =>
        rcases gr2.fresh D o z with w | w
        · rw [hF'] at w; cases w
        · rw [hH'] at w; cases w
    have hH2 := gr2.keep _ _ hH'
    rw [List.drop_eq_getElem_cons hlt] at hc
    unfold compL at hc
    cases e1 : u ds[i] (wipeP p' vs) with
    | none =>
      rw [e1] at hc
      dsimp only at hc
      rw [← hc] at q
      exact q.elim
    | some p3 =>
      rw [e1] at hc
      dsimp only at hc
      refine ⟨F2, wipeP p' vs, ds[i], p3, s2, hx, e1, fun σ3 on st3 s3 => ?_⟩
      have ew := wipe_only on hT
      refine ⟨ew, ?_⟩
      have st3' := st2.trans st3
      have noD3 : ¬ Owned σ3 p3 D := fun z => (st3.own D z).elim noD' fun w => by rw [hH2] at w; cases w
      -- the test
      refine ⟨F2, p3, s3, ?_⟩
      cases e2 : c p3 with
      | bad => rw [e2] at hc; rw [← hc] at q; exact q.elim
      | exc x p4 => rw [e2] at hc; rw [← hc] at q; exact q.elim
      | ok b p4 =>
        rw [e2] at hc
        intro b' F4 H4 st4 s4 eb
        have eb : b' = b := eb
        subst eb
        have st4' := st3'.trans st4
        have noD4 : ¬ Owned σ3 p4 D := fun z => (st4.own D z).elim noD3 fun w => by rw [hH2] at w; cases w
        have hH4 := st4.keep _ _ hH2 noD3
        have hF4 : F4 D = none := by
          cases z : F4 D with
          | none => rfl
          | some o =>
            rcases st4.fresh D o z with w | w | w
            · rw [hF2] at w; cases w
            · rw [hH2] at w; cases w
            · exact (noD3 w).elim
        cases b' with
        | false =>
          simp only [Rs.bind] at hc
          refine ⟨F4, p4, acc, xs, ?_, ?_, hF4, ?_, hH4, hacc.mono (gr2.grow.trans st4.grow), by simpa using hc⟩
          · rw [← ew]; exact s4.wipe hb
          · rw [← ew]; rw [← ew] at st4'; exact st4'.trans .wipe
          · rw [← ew]; exact fun z => noD4 (owned_wipeP (owned_wipe.mp z))
        | true =>
          simp only [Rs.bind, if_true] at hc
          refine ⟨F4, p4, s4, ?_⟩
          cases e3 : fe p4 with
          | bad => rw [e3] at hc; rw [← hc] at q; exact q.elim
          | exc x p5 => rw [e3] at hc; rw [← hc] at q; exact q.elim
          | ok yv p5 =>
            rw [e3] at hc
            intro v F5 H5 st5 s5 hv
            have hv : Dv K F5 v yv := hv
            have st5' := st4'.trans st5
            have noD5 : ¬ Owned σ3 p5 D := fun z => (st5.own D z).elim noD4 fun w => by rw [hH4] at w; cases w
            have hH5 := st5.keep _ _ hH4 noD4
            have hF5 : F5 D = none := by
              cases z : F5 D with
              | none => rfl
              | some o =>
                rcases st5.fresh D o z with w | w | w
                · rw [hF4] at w; cases w
                · rw [hH4] at w; cases w
                · exact (noD4 w).elim
            simp only at hc
            by_cases hz : acc.length < sizeLine
            · rw [if_pos hz] at hc
              have lx : xs.length = acc.length := hacc.length
              refine ⟨xs, hH5, by rw [lx]; exact hz, F5, p5, acc ++ [yv], xs ++ [v], ?_, ?_, hF5, ?_, upd_same, (hacc.mono ((gr2.grow.trans st4.grow).trans st5.grow)).append (.cons hv .nil), hc⟩
              · -- the list itself is nobody's
                have s6 := s5.wipe (vs := vs) hb
                rw [ew] at s6
                exact s6.other hF5 (by rw [← ew]; exact fun z => noD5 (owned_wipeP (owned_wipe.mp z)))
              · have st6 : Step F1 H1 (L2.wipe σ vs) (wipeP ps1 vs) F5 H5 (L2.wipe σ vs) (wipeP p5 vs) := by
                  have z := st5'.trans (Step.wipe (vs := vs))
                  rw [ew] at z
                  exact z
                exact ⟨st6.grow, st6.fresh, fun b o e n => by
                  have ne : b ≠ D := fun w => by subst w; rw [hD] at e; cases e
                  rw [upd_ne ne]; exact st6.keep b o e n, st6.own⟩
              · rw [← ew]; exact fun z => noD5 (owned_wipeP (owned_wipe.mp z))
            · rw [if_neg hz] at hc
              rw [← hc] at q; exact q.elim
  · have e : i = ds.length := by omega
    subst e
    rw [List.drop_length] at hc
    unfold compL at hc
    rw [← hc] at q
    refine .inl ⟨hJ.stop F' H' st'.grow s'.le, ?_⟩
    have sF : SR K Bo F' H' σ (wipeP p' vs) := by
      have z := s'.agree (σ1 := σ) (vs := vs) (wipe_length _ _).symm hb fun i hi => (wipe_out hi).symm
      rwa [wipeP_idem] at z
    have own : ∀ b, Owned σ (wipeP p' vs) b → Owned (L2.wipe σ vs) (wipeP p' vs) b := fun b h => owned_wipe.mpr h
    obtain ⟨sR, oR⟩ := sr.rest (vs := vs) st'.grow hb sF
    have stF : Step F1 H1 σ ps1 F' H' σ (restP ps1 (wipeP p' vs) vs) := by
      have z : Step F1 H1 σ ps1 F' H' (L2.wipe σ vs) (wipeP p' vs) := Step.wipe.trans st'
      exact ⟨z.grow, z.fresh, z.keep, fun b h => z.own b (own b (oR b h))⟩
    refine q (.ref D) F' H' stF sR ⟨D, rfl, OwnL.at ⟨hF', xs, acc, rfl, hH', hacc⟩, fun z => noD' (own D (oR D z)), .inr hD⟩
end

section
variable {X : Cx} {Bo : Option Addr} {W : WX} {e e1 e2 : Expr} {es : List Expr} {f f1 f2 : PSt → Rs PyData} {fa : PSt → Rs (List PyData)} {fo : PSt → Rs PV} {c : PSt → Rs Bool} {g : PSt → Os} {pos p : Pos} {x : Str} {k n : Nat} {tg iter elt : Expr} {ifs : List Expr} {u : PyData → PSt → Option PSt} {T : List Nat} {fi : PSt → Rs (List PyData)} {fe : PSt → Rs PyData}
/-- no exception comes out of a comprehension -/
abbrev W0 : WX := fun _ _ _ _ => False
def GTs (X : Cx) (Bo : Option Addr) (W : WX) (ifs : List Expr) (c : PSt → Rs Bool) : Prop := PTs X ifs (tR X.K X.mg Bo W RB c)
theorem gts_nil : GTs X Bo W [] cYes := ⟨fun pins s σ H Q I ⟨F, ps, sr, q⟩ => pts_nil.run pins s σ H Q I (q true F H .refl sr rfl)⟩
theorem gts_one (h : GT X Bo W e c) : GTs X Bo W [e] c := pts_one h
theorem go_lc {scope : Scope} (own : List (Str × Nat)) (hc : X.calm = true) (hN : X.N.Nodup) (hi : GI X Bo W tg iter fi) (ok : BlkOk X.N X.env.scope scope own)
    (hg : ∀ (s : Shared) (H : Hp) (C : Addr) (cl : List (Str × Addr)) (fp : List Addr), GG (X.blk s H scope (compEnvC scope cl C X.env) fp) Bo tg T u) (ht : ∀ (s : Shared) (H : Hp) (C : Addr) (cl : List (Str × Addr)) (fp : List Addr), GTs (X.blk s H scope (compEnvC scope cl C X.env) fp) Bo W0 ifs c)
    (he : ∀ (s : Shared) (H : Hp) (C : Addr) (cl : List (Str × Addr)) (fp : List Addr), GV (X.blk s H scope (compEnvC scope cl C X.env) fp) Bo W0 elt fe) (hb : Bo = none ∨ 0 ∉ own.map (·.2) := by first | exact .inl rfl | exact .inr (by decide)) (hT : ∀ i ∈ T, i ∈ own.map (·.2) := by decide)
    (hs : ∀ x, foldedSetIterable iter X.env x = pure x := by intro _; rfl) : GO X Bo W (.ListComp elt [⟨tg, iter, ifs, 0⟩] scope pos) (fLc fi u c fe (own.map (·.2))) :=
  (pe_lc (g := tG X.K Bo T u) (tt := tR X.K X.mg Bo W0 RB c) (te := tR X.K X.mg Bo W0 (RV X.K) fe) hc hN hi ok hg ht he hs).imp fun σ H Q q => lc_data hb hT q
theorem gs_setLc (i : Nat) {y : Str} {py spos : Pos} {scope : Scope} (own : List (Str × Nat)) (hc : X.calm = true) (hN : X.N.Nodup) (hyl : X.env.scope.names.lookup y = some .local)
    (hsw : swapsWith (.ListComp elt [⟨tg, iter, ifs, 0⟩] scope pos) (some (.Name y py)) spos.line X.env = pure true) (hi : GI X Bo W tg iter fi) (ok : BlkOk X.N X.env.scope scope own)
    (hg : ∀ (s : Shared) (H : Hp) (C : Addr) (cl : List (Str × Addr)) (fp : List Addr), GG (X.blk s H scope (compEnvC scope cl C X.env) fp) Bo tg T u) (ht : ∀ (s : Shared) (H : Hp) (C : Addr) (cl : List (Str × Addr)) (fp : List Addr), GTs (X.blk s H scope (compEnvC scope cl C X.env) fp) Bo W0 ifs c)
    (he : ∀ (s : Shared) (H : Hp) (C : Addr) (cl : List (Str × Addr)) (fp : List Addr), GV (X.blk s H scope (compEnvC scope cl C X.env) fp) Bo W0 elt fe) (hb : Bo = none ∨ 0 ∉ own.map (·.2) := by first | exact .inl rfl | exact .inr (by decide)) (hT : ∀ i ∈ T, i ∈ own.map (·.2) := by decide)
    (hbi : Bo = none ∨ i ≠ 0 := by first | exact .inl rfl | exact .inr (by decide)) (hy : X.N[i]? = some y := by rfl) (hs : ∀ x, foldedSetIterable iter X.env x = pure x := by intro _; rfl) :
    GS X Bo W (.Assign [.Name y py] (.ListComp elt [⟨tg, iter, ifs, 0⟩] scope pos) spos) (fSet i (fLc fi u c fe (own.map (·.2)))) := by
  refine (ps_setLc (g := tG X.K Bo T u) (tt := tR X.K X.mg Bo W0 RB c) (te := tR X.K X.mg Bo W0 (RV X.K) fe) hc hN hy hyl hsw hi ok hg ht he hs).imp fun D σ H q => ?_
  have q2 : tR X.K X.mg Bo W (RO X.K) (fLc fi u c fe (own.map (·.2))) σ H (fun x H1 => gName i x σ H1 D.nx) := by
    refine tS_bind0 q fun v p F F1 H1 ps ps1 sr s1 st hv q => ?_
    obtain ⟨s2, st2⟩ := store_pv hbi s1 st hv
    exact q _ F1 H1 st2 s2
  exact lc_data hb hT q2

/-! ### what is walked -/
theorem pi_seq {l : Expr} {tl : TE} (hl : PE X l tl) : PI X tg l (fun σ H R => tl σ H fun x H1 => (∃ a, x = .ref a ∧ (∃ xs, SqL X.K H1 a xs) ∧ R (Itl X.K a) H1) ∨ (∃ a, x = .ref a ∧ (∃ xs, SqT X.K H1 a xs) ∧ R (Itt X.K a) H1)) := by
  refine ⟨fun pins s σ H R I h => ?_⟩
  refine thn (hl.run pins s σ H _ I h) fun v s1 ⟨x, H1, I1, r1, q1⟩ => ?_
  have pv : PE { X with } l (fun _ H2 Q => Q x H2) → True := fun _ => trivial
  rcases q1 with ⟨a, e, ⟨xs, hq⟩, q⟩ | ⟨a, e, ⟨xs, hq⟩, q⟩
  · subst e
    cases r1
    obtain ⟨its, rv, p, hz⟩ := I1.list hq
    refine wpAny_pyIter_list p.isList ?_
    refine ⟨s1.heap.objs.size, [s1.heap.objs.size], _, _, H1, rfl, I1.kept (t' := s1.toks) fun b o e => Heap.get?_push_of_some _ e, turn_list a _, ⟨_, Heap.get?_push_size _ rfl, rfl, rfl⟩, fun b hb => ?_, q⟩
    have e : b = s1.heap.objs.size := by simpa using hb
    subst e
    exact I1.fpOk (Nat.le_refl _) (I1.hok.fresh (Nat.le_refl _))
  · subst e
    cases r1
    obtain ⟨its, rv, p, hz⟩ := I1.tuple hq
    refine wpAny_pyIter_tuple (show s1.heap.IsTuple a its.toArray from p) ?_
    refine ⟨s1.heap.objs.size, [s1.heap.objs.size], _, _, H1, rfl, I1.kept (t' := s1.toks) fun b o e => Heap.get?_push_of_some _ e, turn_tuple a _, ⟨_, Heap.get?_push_size _ rfl, rfl, rfl⟩, fun b hb => ?_, q⟩
    have e : b = s1.heap.objs.size := by simpa using hb
    subst e
    exact I1.fpOk (Nat.le_refl _) (I1.hok.fresh (Nat.le_refl _))
def seqOf : PyData → Option (List PyData)
  | .list ds => some ds
  | .tuple ds => some ds
  | _ => none
def fSeqI (f : PSt → Rs PyData) : PSt → Rs (List PyData) := fun ps => (f ps).bind fun d ps1 => opt (seqOf d) ps1
theorem itl_ok {K : PySem.W.Frag} {F : Hp} {a : Addr} {xs : List V} {ds : List PyData} (h : SqL K F a xs) (hd : DvAll K F xs ds) : ItOk K (Itl K a) F ds where
  go := fun F1 H1 i g1 g2 hi => by
    have hl : i < xs.length := by rw [hd.length]; exact hi
    exact ⟨xs, xs[i], g2.seq (g1.seq h), by simp [hl]⟩
  stop := fun F1 H1 g1 g2 => ⟨xs, g2.seq (g1.seq h), by rw [hd.length]; exact Nat.le_refl _⟩
  yld := fun F1 H1 i d x H2 g1 g2 hi y => by
    obtain ⟨rfl, y⟩ := y
    obtain ⟨v, hv, hd'⟩ := hd.get hi
    have := y xs (g2.seq (g1.seq h))
    rw [hv] at this; cases this
    exact ⟨F1, .refl g2, hd'.mono g1⟩
theorem itt_ok {K : PySem.W.Frag} {F : Hp} {a : Addr} {xs : List V} {ds : List PyData} (h : SqT K F a xs) (hd : DvAll K F xs ds) : ItOk K (Itt K a) F ds where
  go := fun F1 H1 i g1 g2 hi => by
    have hl : i < xs.length := by rw [hd.length]; exact hi
    exact ⟨xs, xs[i], same_sqt g2 (same_sqt g1 h), by simp [hl]⟩
  stop := fun F1 H1 g1 g2 => ⟨xs, same_sqt g2 (same_sqt g1 h), by rw [hd.length]; exact Nat.le_refl _⟩
  yld := fun F1 H1 i d x H2 g1 g2 hi y => by
    obtain ⟨rfl, y⟩ := y
    obtain ⟨v, hv, hd'⟩ := hd.get hi
    have := y xs (same_sqt g2 (same_sqt g1 h))
    rw [hv] at this; cases this
    exact ⟨F1, .refl g2, hd'.mono g1⟩
theorem gi_seq (h : GV X Bo W e f) : GI X Bo W tg e (fSeqI f) := by
  refine (pi_seq h).imp fun σ H R q => ?_
  refine tR_bind (R2 := fun _ _ _ _ F' _ _ J ds => ItOk X.K J F' ds) (fun _ _ _ _ _ _ _ _ _ _ _ _ _ h => h) q fun v d F F1 H1 ps ps1 sr st hv q => ?_
  match d, hv, q with
  | .list ds, hv, q =>
    cases hv with
    | lst s a => exact .inl ⟨_, rfl, ⟨_, sr.le.seq s⟩, q _ F1 H1 .refl sr (itl_ok s a)⟩
  | .tuple ds, hv, q =>
    cases hv with
    | tup s a => exact .inr ⟨_, rfl, ⟨_, same_sqt sr.le s⟩, q _ F1 H1 .refl sr (itt_ok s a)⟩
  | .none, _, q => exact q.elim
  | .bool _, _, q => exact q.elim
  | .int _, _, q => exact q.elim
  | .str _, _, q => exact q.elim
  | .dict _, _, q => exact q.elim
def rangeD (lo : Int) (n : Nat) : List PyData := (List.range n).map fun (i : Nat) => PyData.int (lo + (i : Int))
theorem itr_ok {K : PySem.W.Frag} {F : Hp} {lo : Int} {n : Nat} : ItOk K (Itr lo n) F (rangeD lo n) where
  go := fun F1 H1 i g1 g2 hi => by
    have hi : i < n := by simpa [rangeD] using hi
    exact hi
  stop := fun F1 H1 g1 g2 => by simp [rangeD, Itr]
  yld := fun F1 H1 i d x H2 g1 g2 hi y => by
    obtain ⟨rfl, rfl⟩ := y
    unfold rangeD at hi
    rw [List.getElem?_map] at hi
    cases e : (List.range n)[i]? with
    | none => rw [e] at hi; cases hi
    | some j =>
      rw [e] at hi
      have : j = i := by
        rw [List.getElem?_range (by have := (List.getElem?_eq_some_iff.mp e).1; simpa using this)] at e
        exact (Option.some.inj e).symm
      subst this
      cases hi
      exact ⟨F1, .refl g2, .int _⟩
def fRange1 (fa : PSt → Rs (List PyData)) : PSt → Rs (List PyData) := fun ps => (fa ps).bind fun ds ps1 => match ds with
  | [.int j] => if j < 2 ^ 62 ∧ -(2 ^ 62) ≤ j then .ok (rangeD 0 j.toNat) ps1 else .bad
  | _ => .bad
def fRange2 (fa : PSt → Rs (List PyData)) : PSt → Rs (List PyData) := fun ps => (fa ps).bind fun ds ps1 => match ds with
  | [.int i, .int j] => if (j < 2 ^ 62 ∧ -(2 ^ 62) ≤ j) ∧ (i < 2 ^ 62 ∧ -(2 ^ 62) ≤ i) then .ok (rangeD i (j - i).toNat) ps1 else .bad
  | _ => .bad
theorem dpall1 {K : PySem.W.Frag} {F : Hp} {vs : List V} {d : PyData} (h : DvAll K F vs [d]) : ∃ v, vs = [v] ∧ Dv K F v d := by
  cases h with
  | cons a b => cases b; exact ⟨_, rfl, a⟩
theorem dpall2 {K : PySem.W.Frag} {F : Hp} {vs : List V} {d d' : PyData} (h : DvAll K F vs [d, d']) : ∃ v v', vs = [v, v'] ∧ Dv K F v d ∧ Dv K F v' d' := by
  cases h with
  | cons a b => obtain ⟨v, rfl, h⟩ := dpall1 b; exact ⟨_, _, rfl, a, h⟩
theorem gi_range1 {a : Expr} {p pos : Pos} (hg : Gl X "range") (hm : X.mg "range" = none) (ha : GA X Bo W [a] fa) (hs : starEach [a] X.env = [(false, eval a X.env)] := by rfl) : GI X Bo W tg (.Call (.Name "range" p) [a] [] pos) (fRange1 fa) := by
  refine (pi_range1 hg hm ha hs).imp fun σ H R q => ?_
  refine tR_bind (R2 := fun _ _ _ _ F' _ _ J ds => ItOk X.K J F' ds) (fun _ _ _ _ _ _ _ _ _ _ _ _ _ h => h) q fun vs ds F F1 H1 ps ps1 sr st hv q => ?_
  split at q
  · rename_i j
    split at q
    · rename_i hj
      obtain ⟨v, rfl, h⟩ := dpall1 hv
      cases h
      exact ⟨j, rfl, hj.2, hj.1, q _ F1 H1 .refl sr itr_ok⟩
    · exact q.elim
  · exact q.elim
theorem gi_range2 {a b : Expr} {p pos : Pos} (hg : Gl X "range") (hm : X.mg "range" = none) (ha : GA X Bo W [a, b] fa) (hs : starEach [a, b] X.env = [(false, eval a X.env), (false, eval b X.env)] := by rfl) (hs2 : starEach [b] X.env = [(false, eval b X.env)] := by rfl) :
    GI X Bo W tg (.Call (.Name "range" p) [a, b] [] pos) (fRange2 fa) := by
  refine (pi_range2 hg hm ha hs hs2).imp fun σ H R q => ?_
  refine tR_bind (R2 := fun _ _ _ _ F' _ _ J ds => ItOk X.K J F' ds) (fun _ _ _ _ _ _ _ _ _ _ _ _ _ h => h) q fun vs ds F F1 H1 ps ps1 sr st hv q => ?_
  split at q
  · rename_i i j
    split at q
    · rename_i hj
      obtain ⟨v, v', rfl, h, h'⟩ := dpall2 hv
      cases h; cases h'
      exact ⟨i, j, rfl, ⟨hj.2.2, hj.2.1, hj.1.2, hj.1.1⟩, q _ F1 H1 .refl sr itr_ok⟩
    · exact q.elim
  · exact q.elim
def enumD (ds : List PyData) : List PyData := ds.mapIdx fun i d => .tuple [.int (i : Int), d]
def fEnum (fa : PSt → Rs (List PyData)) : PSt → Rs (List PyData) := fun ps => (fa ps).bind fun ds ps1 => match ds with
  | [.list ds] => .ok (enumD ds) ps1
  | _ => .bad
theorem pair_new {K : PySem.W.Frag} {F1 H1 : Hp} {Tp : Addr} {a b : V} {d d' : PyData} (g2 : Same F1 H1) (hT : H1 Tp = none) (h1 : Dv K F1 a d) (h2 : Dv K F1 b d') : ∃ F2, Gr F1 H1 F2 (upd H1 Tp (.tup [a, b])) ∧ Dv K F2 (.ref Tp) (.tuple [d, d']) := by
  have g : Gr F1 H1 (upd F1 Tp (.tup [a, b])) (upd H1 Tp (.tup [a, b])) := .new g2 hT
  exact ⟨_, g, .tup (SqT.of upd_same) (.cons (h1.mono g.grow) (.cons (h2.mono g.grow) .nil))⟩
theorem gi_enum {e : Expr} {p pos tpos : Pos} {elts : List Expr} {kk : Nat} (hg : Gl X "enumerate") (hm : X.mg "enumerate" = none) (ha : GA X Bo W [e] fa) (hs : starEach [e] X.env = [(false, eval e X.env)] := by rfl) :
    GI X Bo W (.Tuple elts kk tpos) (.Call (.Name "enumerate" p) [e] [] pos) (fEnum fa) := by
  refine (pi_enum hg hm ha hs).imp fun σ H R q => ?_
  refine tR_bind (R2 := fun _ _ _ _ F' _ _ J ds => ItOk X.K J F' ds) (fun _ _ _ _ _ _ _ _ _ _ _ _ _ h => h) q fun vs ds F F1 H1 ps ps1 sr st hv q => ?_
  split at q
  · rename_i ds
    obtain ⟨v, rfl, h⟩ := dpall1 hv
    cases h with
    | @lst a xs _ s hd =>
      refine ⟨a, xs, rfl, sr.le.seq s, q _ F1 H1 .refl sr ⟨fun F2 H2 i g1 g2 hi => ?_, fun F2 H2 g1 g2 => ⟨xs, g2.seq (g1.seq s), by rw [hd.length]; simp [enumD]⟩, fun F2 H2 i d x H3 g1 g2 hi y => ?_⟩⟩
      · have hl : i < xs.length := by rw [hd.length]; simpa [enumD] using hi
        exact ⟨xs, xs[i], g2.seq (g1.seq s), by simp [hl]⟩
      · obtain ⟨Tp, z, rfl, hT, rfl, y⟩ := y
        have hz := y xs (g2.seq (g1.seq s))
        obtain ⟨d', hd', hp⟩ := hd.getV hz
        unfold enumD at hi
        rw [List.getElem?_mapIdx, hd'] at hi
        cases hi
        exact pair_new g2 hT (.int _) (hp.mono g1)
  · exact q.elim
def zipD (xs ys : List PyData) : List PyData := List.zipWith (fun a b => .tuple [a, b]) xs ys
def fZip (fa : PSt → Rs (List PyData)) : PSt → Rs (List PyData) := fun ps => (fa ps).bind fun ds ps1 => match ds with
  | [.list xs, .list ys] => .ok (zipD xs ys) ps1
  | [.tuple xs, .tuple ys] => .ok (zipD xs ys) ps1
  | _ => .bad
theorem gi_zip {e e2 : Expr} {p pos tpos : Pos} {elts : List Expr} {kk : Nat} (hg : Gl X "zip") (hm : X.mg "zip" = none) (ha : GA X Bo W [e, e2] fa) (hs : starEach [e, e2] X.env = [(false, eval e X.env), (false, eval e2 X.env)] := by rfl) (hs2 : starEach [e2] X.env = [(false, eval e2 X.env)] := by rfl) :
    GI X Bo W (.Tuple elts kk tpos) (.Call (.Name "zip" p) [e, e2] [] pos) (fZip fa) := by
  refine (RZ.pi_zipA hg hm ha (by rw [hs, hs2]) (by rw [hs2]; rfl)).imp fun σ H R q => ?_
  refine tR_bind (R2 := fun _ _ _ _ F' _ _ J ds => ItOk X.K J F' ds) (fun _ _ _ _ _ _ _ _ _ _ _ _ _ h => h) q fun vs ds F F1 H1 ps ps1 sr st hv q => ?_
  split at q
  · rename_i ds es
    obtain ⟨v, v', rfl, h, h'⟩ := dpall2 hv
    cases h with
    | @lst a xs _ s hd =>
      cases h' with
      | @lst b ys _ s' hd' =>
        refine ⟨a, b, xs, ys, rfl, .inl ⟨sr.le.seq s, sr.le.seq s', q _ F1 H1 .refl sr ⟨fun F2 H2 i g1 g2 hi => ?_, fun F2 H2 g1 g2 => ⟨xs, ys, g2.seq (g1.seq s), g2.seq (g1.seq s'), by rw [hd.length, hd'.length]; simp [zipD]; omega⟩, fun F2 H2 i d x H3 g1 g2 hi y => ?_⟩⟩⟩
        · have hl : i < xs.length ∧ i < ys.length := by rw [hd.length, hd'.length]; simp [zipD] at hi; omega
          exact ⟨xs, ys, xs[i], ys[i], g2.seq (g1.seq s), g2.seq (g1.seq s'), by simp [hl.1], by simp [hl.2]⟩
        · obtain ⟨Tp, z, w, rfl, hT, rfl, y1, y2⟩ := y
          obtain ⟨d1, hd1, hp1⟩ := hd.getV (y1 xs (g2.seq (g1.seq s)))
          obtain ⟨d2, hd2, hp2⟩ := hd'.getV (y2 ys (g2.seq (g1.seq s')))
          unfold zipD at hi
          rw [List.getElem?_zipWith, hd1, hd2] at hi
          cases hi
          exact pair_new g2 hT (hp1.mono g1) (hp2.mono g1)
  · rename_i ds es
    obtain ⟨v, v', rfl, h, h'⟩ := dpall2 hv
    cases h with
    | @tup a xs _ s hd =>
      cases h' with
      | @tup b ys _ s' hd' =>
        refine ⟨a, b, xs, ys, rfl, .inr ⟨same_sqt sr.le s, same_sqt sr.le s', q _ F1 H1 .refl sr ⟨fun F2 H2 i g1 g2 hi => ?_, fun F2 H2 g1 g2 => ⟨xs, ys, same_sqt g2 (same_sqt g1 s), same_sqt g2 (same_sqt g1 s'), by rw [hd.length, hd'.length]; simp [zipD]; omega⟩, fun F2 H2 i d x H3 g1 g2 hi y => ?_⟩⟩⟩
        · have hl : i < xs.length ∧ i < ys.length := by rw [hd.length, hd'.length]; simp [zipD] at hi; omega
          exact ⟨xs, ys, xs[i], ys[i], same_sqt g2 (same_sqt g1 s), same_sqt g2 (same_sqt g1 s'), by simp [hl.1], by simp [hl.2]⟩
        · obtain ⟨Tp, z, w, rfl, hT, rfl, y1, y2⟩ := y
          obtain ⟨d1, hd1, hp1⟩ := hd.getV (y1 xs (same_sqt g2 (same_sqt g1 s)))
          obtain ⟨d2, hd2, hp2⟩ := hd'.getV (y2 ys (same_sqt g2 (same_sqt g1 s')))
          unfold zipD at hi
          rw [List.getElem?_zipWith, hd1, hd2] at hi
          cases hi
          exact pair_new g2 hT (hp1.mono g1) (hp2.mono g1)
  · exact q.elim
end
end GL

/-! GLh: operations on data -/
namespace GL
open PySem PySem.Spec L2
open PyProof.Rows hiding St

section
variable {K : PySem.W.Frag} {F H F1 H1 : Hp}
/-! ### arithmetic -/
def dAdd : PyData → PyData → Option PyData
  | .int i, .int j => some (.int (i + j))
  | .tuple xs, .tuple ys => if xs.length + ys.length ≤ sizeLine then some (.tuple (xs ++ ys)) else none
  | .str x, .str y => if x.length + y.length ≤ sizeLine then some (.str (x ++ y)) else none
  | _, _ => none
def rAddD (K : PySem.W.Frag) : R2 := fun x y H Q => rI0 (fun i j => .int (i + j)) x y H Q ∨ rCatA K x y H Q ∨ (fun (x y : V) (H : Hp) (Q : VK) => ∃ i j, x = .str i ∧ y = .str j ∧ i.length + j.length ≤ sizeLine ∧ Q (.str (i ++ j)) H) x y H Q
theorem op_addD {X : Cx} : OpR X (binaryOp .Add) (rAddD X.K) := op_add.or (op_catA.or op_add_str)
theorem add_ok : OpD K (rAddD K) dAdd := by
  intro F H x y a b d Q hs hx hy e k
  match a, b, hx, hy, e with
  | .int i, .int j, hx, hy, e =>
    cases hx; cases hy; cases e
    exact .inl ⟨i, j, rfl, rfl, k _ F H (.refl hs) (.int _)⟩
  | .str i, .str j, hx, hy, e =>
    cases hx; cases hy
    have e : (if i.length + j.length ≤ sizeLine then some (PyData.str (i ++ j)) else none) = some d := e
    split at e
    · rename_i hl; cases e
      exact .inr (.inr ⟨i, j, rfl, rfl, hl, k _ F H (.refl hs) (.str _)⟩)
    · cases e
  | .tuple xs, .tuple ys, hx, hy, e =>
    have e : (if xs.length + ys.length ≤ sizeLine then some (PyData.tuple (xs ++ ys)) else none) = some d := e
    split at e
    · rename_i hl; cases e
      cases hx with
      | @tup a vs _ s1 d1 =>
        cases hy with
        | @tup b ws _ s2 d2 =>
          refine .inr (.inl ⟨a, b, vs, ws, rfl, rfl, same_sqt hs s1, same_sqt hs s2, by rw [d1.length, d2.length]; exact hl, fun z => ?_, fun z1 z2 => ?_, fun z1 z2 p hp => ?_⟩)
          · subst z; cases d1
            exact k _ F H (.refl hs) (.tup s2 d2)
          · subst z2; cases d2
            rw [List.append_nil] at k
            exact k _ F H (.refl hs) (.tup s1 d1)
          · have g : Gr F H (upd F p (.tup (vs ++ ws))) (upd H p (.tup (vs ++ ws))) := .new hs hp
            exact k _ _ _ g (.tup (SqT.of upd_same) ((d1.append d2).mono g.grow))
    · cases e
/-- an operator on ints alone -/
def dI (D : Int → Int → Option PyData) : PyData → PyData → Option PyData
  | .int i, .int j => D i j
  | _, _ => none
theorem int_ok {C : Int → Int → Prop} {g : Int → Int → V} {D : Int → Int → Option PyData} (h : ∀ i j d, D i j = some d → C i j ∧ ∀ F, Dv K F (g i j) d) : OpD K (rI C g) (dI D) := by
  intro F H x y a b d Q hs hx hy e k
  match a, b, hx, hy, e with
  | .int i, .int j, hx, hy, e =>
    cases hx; cases hy
    obtain ⟨h1, h2⟩ := h i j d e
    exact ⟨i, j, rfl, rfl, h1, k _ F H (.refl hs) (h2 F)⟩
theorem int_ok0 {g : Int → Int → V} {D : Int → Int → Option PyData} (h : ∀ i j d, D i j = some d → ∀ F, Dv K F (g i j) d) : OpD K (rI0 g) (dI D) := by
  intro F H x y a b d Q hs hx hy e k
  match a, b, hx, hy, e with
  | .int i, .int j, hx, hy, e =>
    cases hx; cases hy
    exact ⟨i, j, rfl, rfl, k _ F H (.refl hs) (h i j d e F)⟩
def dSub := dI fun i j => some (.int (i - j))
def dMul := dI fun i j => if (-(2 ^ 64) < i ∧ i < 2 ^ 64) ∨ (-(2 ^ 64) < j ∧ j < 2 ^ 64) then some (.int (i * j)) else none
def dMod := dI fun i j => if 0 < j then some (.int (i % j)) else none
def dFdiv := dI fun i j => if 0 < j ∧ j < 1073741824 then some (.int (i / j)) else none
def dPow := dI fun i j => if 0 ≤ j ∧ j ≤ 1000000 ∧ i.natAbs < 2 ^ 64 then some (.int (i ^ j.toNat)) else none
theorem sub_ok : OpD K (rI0 fun i j => .int (i - j)) dSub := int_ok0 fun i j d e F => by cases e; exact .int _
theorem mul_ok : OpD K (rI CMul fun i j => .int (i * j)) dMul := int_ok fun i j d e => by
  split at e
  · rename_i h; cases e; exact ⟨h, fun F => .int _⟩
  · cases e
theorem mod_ok : OpD K (rI (fun _ j => 0 < j) fun i j => .int (i % j)) dMod := int_ok fun i j d e => by
  split at e
  · rename_i h; cases e; exact ⟨h, fun F => .int _⟩
  · cases e
theorem fdiv_ok : OpD K (rI CDiv fun i j => .int (i / j)) dFdiv := int_ok fun i j d e => by
  split at e
  · rename_i h; cases e; exact ⟨h, fun F => .int _⟩
  · cases e
theorem pow_ok : OpD K (rI CPow fun i j => .int (i ^ j.toNat)) dPow := int_ok fun i j d e => by
  split at e
  · rename_i h; cases e; exact ⟨h, fun F => .int _⟩
  · cases e

/-! ### comparisons -/
def dEq (a b : PyData) : Option PyData := if SeqAt.shaped a = true ∧ SeqAt.shaped b = true then some (.bool (PyData.eqv a b)) else none
def dNe (a b : PyData) : Option PyData := if SeqAt.shaped a = true ∧ SeqAt.shaped b = true then some (.bool (!PyData.eqv a b)) else none
theorem sh_nd {d : PyData} (h : SeqAt.shaped d = true) : noDict d = true := lay_noDict (SeqAt.canLay_of_shaped h)
theorem eq_ok : OpD K (rEqD K) dEq := fun F H x y a b d Q hs hx hy e k => by
  unfold dEq at e
  split at e
  · rename_i h; cases e
    exact ⟨a, b, (hx.mono hs).dp (sh_nd h.1), (hy.mono hs).dp (sh_nd h.2), h.1, h.2, k _ F H (.refl hs) (.bl _)⟩
  · cases e
theorem ne_ok : OpD K (rNeD K) dNe := fun F H x y a b d Q hs hx hy e k => by
  unfold dNe at e
  split at e
  · rename_i h; cases e
    exact ⟨a, b, (hx.mono hs).dp (sh_nd h.1), (hy.mono hs).dp (sh_nd h.2), h.1, h.2, k _ F H (.refl hs) (.bl _)⟩
  · cases e
def intPair : PyData → PyData → Option (Int × Int)
  | .int i, .int j => some (i, j)
  | _, _ => none
def isTup : PyData → Bool
  | .tuple _ => true
  | _ => false
def dLt (a b : PyData) : Option PyData := match intPair a b with
  | some (i, j) => some (.bool (decide (i < j)))
  | none => if PySem.W.alike a b = true ∧ a.depth ≤ 64 ∧ isTup a = true ∧ noDict a = true ∧ noDict b = true then some (.bool (PySem.W.dataLt a b)) else none
theorem intPair_eq {a b : PyData} {i j : Int} (h : intPair a b = some (i, j)) : a = .int i ∧ b = .int j := by
  unfold intPair at h
  split at h
  · cases h; exact ⟨rfl, rfl⟩
  · cases h
def dGt := dI fun i j => some (.bool (decide (j < i)))
def dLe := dI fun i j => some (.bool (decide (i ≤ j)))
def dGe := dI fun i j => some (.bool (decide (j ≤ i)))
theorem gt_ok : OpD K (rI0 fun i j => .bl (decide (j < i))) dGt := int_ok0 fun i j d e F => by cases e; exact .bl _
theorem le_ok : OpD K (rI0 fun i j => .bl (decide (i ≤ j))) dLe := int_ok0 fun i j d e F => by cases e; exact .bl _
theorem ge_ok : OpD K (rI0 fun i j => .bl (decide (j ≤ i))) dGe := int_ok0 fun i j d e F => by cases e; exact .bl _
/-- < of tuples that can be compared place by place -/
def rLtA (K : PySem.W.Frag) : R2 := fun x y H Q => ∃ d e, Dp K H x d ∧ Dp K H y e ∧ PySem.W.alike d e = true ∧ d.depth ≤ 64 ∧ d ≠ .none ∧ Q (.bl (PySem.W.dataLt d e)) H
theorem op_ltA {X : Cx} (hu : X.A.units + 64 < cLine) : OpR X (compareOp .Lt) (rLtA X.K) := by
  intro pins s σ H x y v u Q I rx ry h
  obtain ⟨d, e, hd, he, ha, hz, hn, q⟩ := h
  obtain ⟨as, r1⟩ := Dp.reads I d x v hd rx
  obtain ⟨bs, r2⟩ := Dp.reads I e y u he ry
  exact PySem.W.rcLt_alike d e X.A s v u as bs r1 r2 ha hn (Nat.lt_of_le_of_lt (Nat.add_le_add_left (Nat.le_trans (Nat.min_le_left _ _) hz) _) hu) _ _ _ _ ⟨.bl _, H, I, rfl, q⟩
def rLtD (K : PySem.W.Frag) : R2 := fun x y H Q => rI0 (fun i j => .bl (decide (i < j))) x y H Q ∨ rLtA K x y H Q
theorem op_ltD {X : Cx} (hu : X.A.units + 64 < cLine) : OpR X (compareOp .Lt) (rLtD X.K) := op_lt.or (op_ltA hu)
theorem lt_ok : OpD K (rLtD K) dLt := fun F H x y a b d Q hs hx hy e k => by
  unfold dLt at e
  cases ep : intPair a b with
  | some p =>
    obtain ⟨i, j⟩ := p
    rw [ep] at e
    obtain ⟨rfl, rfl⟩ := intPair_eq ep
    cases hx; cases hy; cases e
    exact .inl ⟨_, _, rfl, rfl, k _ F H (.refl hs) (.bl _)⟩
  | none =>
    rw [ep] at e
    dsimp only at e
    by_cases h : PySem.W.alike a b = true ∧ a.depth ≤ 64 ∧ isTup a = true ∧ noDict a = true ∧ noDict b = true
    · rw [if_pos h] at e
      cases e
      refine .inr ⟨a, b, (hx.mono hs).dp h.2.2.2.1, (hy.mono hs).dp h.2.2.2.2, h.1, h.2.1, fun z => ?_, k _ F H (.refl hs) (.bl _)⟩
      subst z
      exact absurd h.2.2.1 (by decide)
    · rw [if_neg h] at e; cases e
def isNone : PyData → Bool
  | .none => true
  | _ => false
theorem isNone_v {v : V} {d : PyData} (h : Dv K F v d) : decide (v = .non) = isNone d := by
  cases h <;> simp [isNone]
def dIs : PyData → PyData → Option PyData
  | a, .none => some (.bool (isNone a))
  | .bool a, .bool b => some (.bool (decide (a = b)))
  | _, _ => none
def dIsNot : PyData → PyData → Option PyData
  | a, .none => some (.bool (!isNone a))
  | .bool a, .bool b => some (.bool (!decide (a = b)))
  | _, _ => none
def rIsD : R2 := fun x y H Q => (fun (x y : V) (H : Hp) (Q : VK) => y = .non ∧ Q (.bl (decide (x = .non))) H) x y H Q ∨ rIsB x y H Q
def rIsNotD : R2 := fun x y H Q => (fun (x y : V) (H : Hp) (Q : VK) => y = .non ∧ Q (.bl (!decide (x = .non))) H) x y H Q ∨ rNotB x y H Q
theorem op_isD {X : Cx} : OpR X (compareOp .Is) rIsD := op_isN.or op_isBl
theorem op_isNotD {X : Cx} : OpR X (compareOp .IsNot) rIsNotD := op_notN.or op_notBl
theorem is_ok : OpD K rIsD dIs := fun F H x y a b d Q hs hx hy e k => by
  unfold dIs at e
  split at e
  · cases hy; cases e
    exact .inl ⟨rfl, by rw [isNone_v hx]; exact k _ F H (.refl hs) (.bl _)⟩
  · cases hx; cases hy; cases e
    exact .inr ⟨_, _, rfl, rfl, k _ F H (.refl hs) (.bl _)⟩
  · cases e
theorem isNot_ok : OpD K rIsNotD dIsNot := fun F H x y a b d Q hs hx hy e k => by
  unfold dIsNot at e
  split at e
  · cases hy; cases e
    exact .inl ⟨rfl, by rw [isNone_v hx]; exact k _ F H (.refl hs) (.bl _)⟩
  · cases hx; cases hy; cases e
    exact .inr ⟨_, _, rfl, rfl, k _ F H (.refl hs) (.bl _)⟩
  · cases e
def dIn : PyData → PyData → Option PyData
  | d, .list ds => if SeqAt.shaped d = true ∧ SeqAt.shaped (.list ds) = true then some (.bool (ds.any fun z => PyData.eqv z d)) else none
  | _, _ => none
def dNotIn : PyData → PyData → Option PyData
  | d, .list ds => if SeqAt.shaped d = true ∧ SeqAt.shaped (.list ds) = true then some (.bool (!ds.any fun z => PyData.eqv z d)) else none
  | _, _ => none
theorem in_ok : OpD K (rInD K) dIn := fun F H x y a b d Q hs hx hy e k => by
  unfold dIn at e
  split at e
  · split at e
    · rename_i h; cases e
      exact ⟨_, _, (hx.mono hs).dp (sh_nd h.1), (hy.mono hs).dp (sh_nd h.2), h.1, h.2, k _ F H (.refl hs) (.bl _)⟩
    · cases e
  · cases e
theorem notIn_ok : OpD K (rNotInD K) dNotIn := fun F H x y a b d Q hs hx hy e k => by
  unfold dNotIn at e
  split at e
  · split at e
    · rename_i h; cases e
      exact ⟨_, _, (hx.mono hs).dp (sh_nd h.1), (hy.mono hs).dp (sh_nd h.2), h.1, h.2, k _ F H (.refl hs) (.bl _)⟩
    · cases e
  · cases e
end

/-! ### calls of built-ins, by data -/
def CallD (K : PySem.W.Frag) (r : List V → Hp → VK → Prop) (D : List PyData → Option PyData) : Prop := ∀ F H xs ds d Q, Same F H → DvAll K F xs ds → D ds = some d → (∀ v F' H', Gr F H F' H' → Dv K F' v d → Q v H') → r xs H Q
def fApp (D : List PyData → Option PyData) (fa : PSt → Rs (List PyData)) : PSt → Rs PyData := fun ps => (fa ps).bind fun ds ps1 => opt (D ds) ps1
/-- a new list comes out -/
def CallO (K : PySem.W.Frag) (r : List V → Hp → VK → Prop) (D : List PyData → Option (List PyData)) : Prop := ∀ F H xs ds d Q, Same F H → DvAll K F xs ds → D ds = some d → (∀ p us, H p = none → DvAll K F us d → Q (.ref p) (upd H p (.lst us))) → r xs H Q
def fAppO (D : List PyData → Option (List PyData)) (fa : PSt → Rs (List PyData)) : PSt → Rs PV := fun ps => (fa ps).bind fun ds ps1 => match D ds with
  | some d => .ok (.own (.list d)) ps1
  | none => .bad
section
variable {X : Cx} {Bo : Option Addr} {W : WX} {e e1 e2 e3 : Expr} {es : List Expr} {f f1 f2 f3 : PSt → Rs PyData} {fa : PSt → Rs (List PyData)} {fo fo1 fo2 : PSt → Rs PV} {c : PSt → Rs Bool} {pos p : Pos} {x : Str} {id T : String} {r : List V → Hp → VK → Prop} {D : List PyData → Option PyData} {DO : List PyData → Option (List PyData)}
theorem app_data (hr : CallD X.K r D) : ∀ σ H Q, tR X.K X.mg Bo W (RV X.K) (fApp D fa) σ H Q → tCB r (tR X.K X.mg Bo W (RA X.K) fa) σ H Q := fun σ H Q q => by
  refine tR_bind RV.rb q fun vs ds F F1 H1 ps ps1 sr st hv q => ?_
  obtain ⟨d, ed, k⟩ := go_end sr q
  exact hr F1 H1 vs ds d Q sr.le hv ed k
theorem appO_data (hr : CallO X.K r DO) : ∀ σ H Q, tR X.K X.mg Bo W (RO X.K) (fAppO DO fa) σ H Q → tCB r (tR X.K X.mg Bo W (RA X.K) fa) σ H Q := fun σ H Q q => by
  refine tR_bind RO.rb q fun vs ds F F1 H1 ps ps1 sr st hv q => ?_
  split at q
  · rename_i d ed
    refine hr F1 H1 vs ds d Q sr.le hv ed fun p us hp hu => ?_
    obtain ⟨g, s2, ro⟩ := new_own sr hp hu
    exact q (.ref p) _ _ (.of_gr g) s2 ro
  · exact q.elim
theorem gv_callB (hc : CallR X (.builtin id) r) (hr : CallD X.K r D) (hg : Gl X x) (hm : X.mg x = none) (hv : bootBuiltins x = some (.builtin id)) (ha : GA X Bo W (e :: es) fa) (hn : x ≠ "__name__" := by decide) (hdb : (x == ("__debug__" : Str)) = false := by decide)
    (he : starEach (e :: es) X.env = (false, eval e X.env) :: starEach es X.env := by rfl) (hpl : (backTo pos (starEach es X.env)).any (·.1) = false := by rfl) : GV X Bo W (.Call (.Name x p) (e :: es) [] pos) (fApp D fa) :=
  (pe_callB hc hg hm hv ha hn hdb he hpl).imp (app_data hr)
theorem gv_callTy (hc : CallR X (.type T) r) (hr : CallD X.K r D) (hg : Gl X x) (hm : X.mg x = none) (hv : bootBuiltins x = some (.type T)) (ha : GA X Bo W (e :: es) fa) (hn : x ≠ "__name__" := by decide) (hdb : (x == ("__debug__" : Str)) = false := by decide)
    (he : starEach (e :: es) X.env = (false, eval e X.env) :: starEach es X.env := by rfl) (hpl : (backTo pos (starEach es X.env)).any (·.1) = false := by rfl) : GV X Bo W (.Call (.Name x p) (e :: es) [] pos) (fApp D fa) :=
  (pe_callTy hc hg hm hv ha hn hdb he hpl).imp (app_data hr)
theorem go_callTy (hc : CallR X (.type T) r) (hr : CallO X.K r DO) (hg : Gl X x) (hm : X.mg x = none) (hv : bootBuiltins x = some (.type T)) (ha : GA X Bo W (e :: es) fa) (hn : x ≠ "__name__" := by decide) (hdb : (x == ("__debug__" : Str)) = false := by decide)
    (he : starEach (e :: es) X.env = (false, eval e X.env) :: starEach es X.env := by rfl) (hpl : (backTo pos (starEach es X.env)).any (·.1) = false := by rfl) : GO X Bo W (.Call (.Name x p) (e :: es) [] pos) (fAppO DO fa) :=
  (pe_callTy hc hg hm hv ha hn hdb he hpl).imp (appO_data hr)
theorem go_callB (hc : CallR X (.builtin id) r) (hr : CallO X.K r DO) (hg : Gl X x) (hm : X.mg x = none) (hv : bootBuiltins x = some (.builtin id)) (ha : GA X Bo W (e :: es) fa) (hn : x ≠ "__name__" := by decide) (hdb : (x == ("__debug__" : Str)) = false := by decide)
    (he : starEach (e :: es) X.env = (false, eval e X.env) :: starEach es X.env := by rfl) (hpl : (backTo pos (starEach es X.env)).any (·.1) = false := by rfl) : GO X Bo W (.Call (.Name x p) (e :: es) [] pos) (fAppO DO fa) :=
  (pe_callB hc hg hm hv ha hn hdb he hpl).imp (appO_data hr)
end
section
variable {X : Cx} {K : PySem.W.Frag}
def dLen : List PyData → Option PyData
  | [.list ds] => some (.int ds.length)
  | [.tuple ds] => some (.int ds.length)
  | _ => none
theorem len_ok : CallD X.K (fun xs H Q => ∃ p ys, xs = [.ref p] ∧ (SqL X.K H p ys ∨ SqT X.K H p ys) ∧ Q (.int ys.length) H) dLen := fun F H xs ds d Q hs hx e k => by
  unfold dLen at e
  split at e
  · obtain ⟨v, rfl, h⟩ := dpall1 hx
    cases h with
    | lst s a => cases e; exact ⟨_, _, rfl, .inl (hs.seq s), k _ F H (.refl hs) (by rw [a.length]; exact .int _)⟩
  · obtain ⟨v, rfl, h⟩ := dpall1 hx
    cases h with
    | tup s a => cases e; exact ⟨_, _, rfl, .inr (same_sqt hs s), k _ F H (.refl hs) (by rw [a.length]; exact .int _)⟩
  · cases e
def dAbs : List PyData → Option PyData
  | [.int i] => some (.int (if i < 0 then -i else i))
  | _ => none
theorem abs_ok : CallD K (fun xs H Q => ∃ i, xs = [.int i] ∧ Q (.int (if i < 0 then -i else i)) H) dAbs := fun F H xs ds d Q hs hx e k => by
  unfold dAbs at e
  split at e
  · obtain ⟨v, rfl, h⟩ := dpall1 hx
    cases h; cases e
    exact ⟨_, rfl, k _ F H (.refl hs) (.int _)⟩
  · cases e
def dInt : List PyData → Option PyData
  | [.int i] => some (.int i)
  | [.bool b] => some (.int (if b then 1 else 0))
  | _ => none
theorem int1_ok : CallD K (fun xs H Q => (∃ i, xs = [.int i] ∧ Q (.int i) H) ∨ ∃ k, xs = [.bl k] ∧ Q (.int (if k then 1 else 0)) H) dInt := fun F H xs ds d Q hs hx e k => by
  unfold dInt at e
  split at e
  · obtain ⟨v, rfl, h⟩ := dpall1 hx
    cases h; cases e
    exact .inl ⟨_, rfl, k _ F H (.refl hs) (.int _)⟩
  · obtain ⟨v, rfl, h⟩ := dpall1 hx
    cases h; cases e
    exact .inr ⟨_, rfl, k _ F H (.refl hs) (.int _)⟩
  · cases e
def dMin2 : List PyData → Option PyData
  | [.int i, .int j] => some (.int (if j < i then j else i))
  | _ => none
def dMax2 : List PyData → Option PyData
  | [.int i, .int j] => some (.int (if j > i then j else i))
  | _ => none
theorem min2_ok : CallD K (fun xs H Q => ∃ i j, xs = [.int i, .int j] ∧ Q (.int (if j < i then j else i)) H) dMin2 := fun F H xs ds d Q hs hx e k => by
  unfold dMin2 at e
  split at e
  · obtain ⟨v, v', rfl, h, h'⟩ := dpall2 hx
    cases h; cases h'; cases e
    exact ⟨_, _, rfl, k _ F H (.refl hs) (.int _)⟩
  · cases e
theorem max2_ok : CallD K (fun xs H Q => ∃ i j, xs = [.int i, .int j] ∧ Q (.int (if j > i then j else i)) H) dMax2 := fun F H xs ds d Q hs hx e k => by
  unfold dMax2 at e
  split at e
  · obtain ⟨v, v', rfl, h, h'⟩ := dpall2 hx
    cases h; cases h'; cases e
    exact ⟨_, _, rfl, k _ F H (.refl hs) (.int _)⟩
  · cases e
def boolsOf : List PyData → Option (List Bool)
  | [] => some []
  | .bool b :: ds => (boolsOf ds).map (b :: ·)
  | _ :: _ => none
theorem bools_v {F : Hp} : ∀ {ds : List PyData} {vs : List V} {bs : List Bool}, boolsOf ds = some bs → DvAll K F vs ds → vs = bs.map V.bl
  | [], _, _, e, h => by cases h; cases e; rfl
  | .bool b :: ds, _, _, e, h => by
    unfold boolsOf at e
    cases q : boolsOf ds with
    | none => rw [q] at e; cases e
    | some bs =>
      rw [q] at e
      cases e
      cases h with
      | cons a t => cases a; rw [bools_v q t]; rfl
  | .none :: _, _, _, e, _ => by cases e
  | .int _ :: _, _, _, e, _ => by cases e
  | .str _ :: _, _, _, e, _ => by cases e
  | .list _ :: _, _, _, e, _ => by cases e
  | .tuple _ :: _, _, _, e, _ => by cases e
  | .dict _ :: _, _, _, e, _ => by cases e
def dAll : List PyData → Option PyData
  | [.list ds] => (boolsOf ds).map fun bs => .bool (bs.all id)
  | _ => none
def dAny : List PyData → Option PyData
  | [.list ds] => (boolsOf ds).map fun bs => .bool (bs.any id)
  | _ => none
theorem all_ok : CallD K (rAll K) dAll := fun F H xs ds d Q hs hx e k => by
  unfold dAll at e
  split at e
  · rename_i ds
    obtain ⟨v, rfl, h⟩ := dpall1 hx
    cases h with
    | lst s a =>
      cases q : boolsOf ds with
      | none => rw [q] at e; cases e
      | some bs =>
        rw [q] at e
        cases e
        have := bools_v q a
        subst this
        exact ⟨_, bs, rfl, hs.seq s, k _ F H (.refl hs) (.bl _)⟩
  · cases e
theorem any_ok : CallD K (rAny K) dAny := fun F H xs ds d Q hs hx e k => by
  unfold dAny at e
  split at e
  · rename_i ds
    obtain ⟨v, rfl, h⟩ := dpall1 hx
    cases h with
    | lst s a =>
      cases q : boolsOf ds with
      | none => rw [q] at e; cases e
      | some bs =>
        rw [q] at e
        cases e
        have := bools_v q a
        subst this
        exact ⟨_, bs, rfl, hs.seq s, k _ F H (.refl hs) (.bl _)⟩
  · cases e
def dTuple : List PyData → Option PyData
  | [.list ds] => some (.tuple ds)
  | [.tuple ds] => some (.tuple ds)
  | _ => none
theorem tuple_ok : CallD X.K (fun xs H Q => ∃ p ys, xs = [.ref p] ∧ ((SqL X.K H p ys ∧ ∀ l, H l = none → Q (.ref l) (upd H l (.tup ys))) ∨ (SqT X.K H p ys ∧ Q (.ref p) H))) dTuple := fun F H xs ds d Q hs hx e k => by
  unfold dTuple at e
  split at e
  · obtain ⟨v, rfl, h⟩ := dpall1 hx
    cases h with
    | @lst _ xs _ s a =>
      cases e
      refine ⟨_, _, rfl, .inl ⟨hs.seq s, fun l hl => ?_⟩⟩
      have g : Gr F H (upd F l (.tup xs)) (upd H l (.tup xs)) := .new hs hl
      exact k _ _ _ g (.tup (SqT.of upd_same) (a.mono g.grow))
  · obtain ⟨v, rfl, h⟩ := dpall1 hx
    cases h with
    | tup s a => cases e; exact ⟨_, _, rfl, .inr ⟨same_sqt hs s, k _ F H (.refl hs) (.tup s a)⟩⟩
  · cases e
def dList : List PyData → Option (List PyData)
  | [.list ds] => some ds
  | [.tuple ds] => some ds
  | _ => none
theorem list_ok : CallO X.K (fun xs H Q => ∃ p ys, xs = [.ref p] ∧ (SqL X.K H p ys ∨ SqT X.K H p ys) ∧ ∀ l, H l = none → Q (.ref l) (upd H l (.lst ys))) dList := fun F H xs ds d Q hs hx e k => by
  unfold dList at e
  split at e
  · obtain ⟨v, rfl, h⟩ := dpall1 hx
    cases h with
    | lst s a => cases e; exact ⟨_, _, rfl, .inl (hs.seq s), fun l hl => k l _ hl a⟩
  · obtain ⟨v, rfl, h⟩ := dpall1 hx
    cases h with
    | tup s a => cases e; exact ⟨_, _, rfl, .inr (same_sqt hs s), fun l hl => k l _ hl a⟩
  · cases e
end

/-! ### isinstance -/
section
variable {X : Cx} {K : PySem.W.Frag}
def tyName : PyData → String
  | .none => "NoneType"
  | .bool _ => "bool"
  | .int _ => "int"
  | .str _ => "str"
  | .list _ => "list"
  | .tuple _ => "tuple"
  | .dict _ => "dict"
def isDct : PyData → Bool
  | .dict _ => true
  | _ => false
theorem tyx_of {F H : Hp} {v : V} {d : PyData} (hs : Same F H) (h : Dv K F v d) (nd : isDct d = false) : TyX K H v (.type (tyName d)) := by
  cases h with
  | dct _ _ => cases nd
  | non => exact .base .non
  | bl b => exact .base (.bl b)
  | int i => exact .base (.int i)
  | str x => exact .base (.str x)
  | @lst a xs ds s _ =>
    rcases s with (s | ⟨o, s⟩) | ⟨o, its, n, hk, hc, _⟩
    · exact .base (.lst (hs _ _ s))
    · exact .base (.frz (hs _ _ s))
    · exact .kList hk hc
  | @tup a xs ds s _ =>
    rcases s with (s | ⟨o, s⟩) | ⟨o, its, n, hk, hc, _⟩
    · exact .base (.tup (hs _ _ s))
    · exact .fTuple (hs _ _ s)
    · exact .kTuple hk hc
def isaD (t : String) (d : PyData) : Option Bool := if isDct d = true then none else kitB (tyName d) t
theorem isaD_nd {t : String} {d : PyData} {b : Bool} (h : isaD t d = some b) : isDct d = false ∧ kitB (tyName d) t = some b := by
  unfold isaD at h
  split at h
  · cases h
  · rename_i n; exact ⟨by simpa using n, h⟩
variable {Bo : Option Addr} {W : WX} {e : Expr} {f : PSt → Rs PyData} {pos p p2 p3 p4 p5 : Pos} {T T2 t t2 : Str} {tn tn2 : String}
def fIsi (D : PyData → Option Bool) (f : PSt → Rs PyData) : PSt → Rs PyData := fun ps => (f ps).bind fun d ps1 => match D d with
  | some b => .ok (.bool b) ps1
  | none => .bad
theorem ga_ty {es : List Expr} : True := trivial
/-- isinstance(e, T) -/
theorem gv_isi (h : GV X Bo W e f) (hg : Gl X "isinstance") (hm : X.mg "isinstance" = none) (hgT : Gl X T) (hmT : X.mg T = none) (hvT : bootBuiltins T = some (.type tn)) (hnT : T ≠ "__name__" := by decide) (hdT : (T == ("__debug__" : Str)) = false := by decide)
    (he : starEach (e :: [.Name T p2]) X.env = (false, eval e X.env) :: starEach [.Name T p2] X.env := by rfl) (hpl : (backTo pos (starEach [.Name T p2] X.env)).any (·.1) = false := by rfl) :
    GV X Bo W (.Call (.Name "isinstance" p) [e, .Name T p2] [] pos) (fIsi (isaD tn) f) := by
  refine (pe_callB (call_isi (X := X)) hg hm (by decide +kernel) (pa_cons h (pa_cons (pe_bltn (v := .ty tn) hgT hmT hvT rfl hnT hdT) pa_nil) he) (by decide) (by decide) he hpl).imp fun σ H Q q => ?_
  refine tR_bind RV.rb q fun v d F F1 H1 ps ps1 sr st hv q => ?_
  cases ed : isaD tn d with
  | none => rw [ed] at q; exact q.elim
  | some b =>
    rw [ed] at q
    exact ⟨v, .ty tn, _, .type tn, b, rfl, .ty tn, tyx_of sr.le hv (isaD_nd ed).1, kit_ty (isaD_nd ed).2, q (.bl b) F1 H1 .refl sr (.bl b)⟩
def isa2 (t t2 : String) (d : PyData) : Option Bool := match isaD t d, isaD t2 d with
  | some a, some b => some (a || b)
  | _, _ => none
/-- isinstance(e, (T, T2)) -/
theorem gv_isi2 {k : Nat} (h : GV X Bo W e f) (hg : Gl X "isinstance") (hm : X.mg "isinstance" = none) (hgT : Gl X T) (hmT : X.mg T = none) (hvT : bootBuiltins T = some (.type tn)) (hgT2 : Gl X T2) (hmT2 : X.mg T2 = none) (hvT2 : bootBuiltins T2 = some (.type tn2))
    (hnT : T ≠ "__name__" := by decide) (hdT : (T == ("__debug__" : Str)) = false := by decide) (hnT2 : T2 ≠ "__name__" := by decide) (hdT2 : (T2 == ("__debug__" : Str)) = false := by decide)
    (he : starEach (e :: [.Tuple [.Name T p2, .Name T2 p3] k p4]) X.env = (false, eval e X.env) :: starEach [.Tuple [.Name T p2, .Name T2 p3] k p4] X.env := by rfl) (hpl : (backTo pos (starEach [.Tuple [.Name T p2, .Name T2 p3] k p4] X.env)).any (·.1) = false := by rfl) :
    GV X Bo W (.Call (.Name "isinstance" p) [e, .Tuple [.Name T p2, .Name T2 p3] k p4] [] pos) (fIsi (isa2 tn tn2) f) := by
  refine (pe_callB (call_isiT (X := X)) hg hm (by decide +kernel) (pa_cons h (pa_cons (pe_tup (pa_cons (pe_bltn (v := .ty tn) hgT hmT hvT rfl hnT hdT) (pa_cons (pe_bltn (v := .ty tn2) hgT2 hmT2 hvT2 rfl hnT2 hdT2) pa_nil))) pa_nil) he) (by decide) (by decide) he hpl).imp fun σ H Q q => ?_
  refine tR_bind RV.rb q fun v d F F1 H1 ps ps1 sr st hv q => ?_
  refine ⟨by show 2 ≤ sizeLine; rw [sizeLine_eq]; decide, fun pt hpt => ?_⟩
  have g : Gr F1 H1 F1 (upd H1 pt (.tup [.ty tn, .ty tn2])) := ⟨.refl _, fun _ _ e => .inl e, same_upd hpt, sr.le.trans (same_upd hpt)⟩
  unfold isa2 at q
  cases e1 : isaD tn d with
  | none => rw [e1] at q; exact q.elim
  | some b1 =>
    cases e2 : isaD tn2 d with
    | none => rw [e1, e2] at q; exact q.elim
    | some b2 =>
      rw [e1, e2] at q
      refine ⟨v, pt, [.ty tn, .ty tn2], _, [.type tn, .type tn2], b1 || b2, rfl, upd_same, .cons (.ty tn) (.cons (.ty tn2) .nil), tyx_of (sr.le.trans (same_upd hpt)) hv (isaD_nd e1).1, ?_, q (.bl _) F1 _ (.of_gr g) (sr.gr g) (.bl _)⟩
      refine kitAny_cons (kit_ty (isaD_nd e1).2) (fun z => ?_) fun z => by rw [z]; rfl
      subst z
      refine kitAny_cons (kit_ty (isaD_nd e2).2) (fun z => ?_) fun z => by rw [z]; rfl
      subst z
      rfl
end
end GL

/-! GLi: places, slices, chains, or by truth, lists changed in place, looks at slots -/
namespace GL
open PySem PySem.Spec L2
open PyProof.Rows hiding St

section
variable {X : Cx} {Bo : Option Addr} {W : WX} {e e1 e2 e3 : Expr} {es : List Expr} {f f1 f2 f3 : PSt → Rs PyData} {fa : PSt → Rs (List PyData)} {fo fo1 fo2 : PSt → Rs PV} {c : PSt → Rs Bool} {pos p p2 : Pos} {x : Str}
/-! ### places -/
def dIx : PyData → PyData → Option PyData
  | .list ds, .int i => atI ds i
  | .tuple ds, .int i => atI ds i
  | _, _ => none
theorem DvAll.atI {K : PySem.W.Frag} {F : Hp} {xs : List V} {ds : List PyData} {i : Int} {d : PyData} (h : DvAll K F xs ds) (e : L2.atI ds i = some d) : ∃ v, L2.atI xs i = some v ∧ Dv K F v d := by
  unfold L2.atI at e ⊢
  rw [h.length]
  cases q : ixN ds.length i with
  | none => rw [q] at e; cases e
  | some j =>
    rw [q] at e
    exact h.get e
def rIxD2 (K : PySem.W.Frag) : R2 := fun x y H Q => rIxL K x y H Q ∨ rIxT K x y H Q
theorem ix_ok {K : PySem.W.Frag} : OpD K (rIxD2 K) dIx := fun F H x y a b d Q hs hx hy e k => by
  unfold dIx at e
  split at e
  · cases hy
    cases hx with
    | lst s a =>
      obtain ⟨v, h1, h2⟩ := DvAll.atI a e
      exact .inl ⟨_, _, _, v, rfl, rfl, hs.seq s, h1, k v F H (.refl hs) h2⟩
  · cases hy
    cases hx with
    | tup s a =>
      obtain ⟨v, h1, h2⟩ := DvAll.atI a e
      exact .inr ⟨_, _, _, v, rfl, rfl, same_sqt hs s, h1, k v F H (.refl hs) h2⟩
  · cases e
theorem gv_ix (h1 : GV X Bo W e1 f1) (h2 : GV X Bo W e2 f2) (hs : PlainIx e2 := by exact fun _ _ => rfl) : GV X Bo W (.Subscript e1 e2 pos) (fBin dIx f1 f2) := (pe_ix (ix_list.or ix_tup) h1 h2 hs).imp (op_data ix_ok h1 h2)
/-- the name ahead is only looked at -/
def fIxS (i : Nat) (f : PSt → Rs PyData) : PSt → Rs PyData := fun ps => match look i ps with
  | none => .bad
  | some _ => (f ps).bind fun b ps1 => match look i ps1 with
    | none => .bad
    | some a => opt (dIx a b) ps1
theorem gv_ixS (i : Nat) {px : Pos} (h2 : GV X Bo W e2 f2) (hs : PlainIx e2 := by exact fun _ _ => rfl) (hN : X.N[i]? = some x := by rfl) (hv : Vis X.env.scope x := by first | exact Or.inl rfl | exact Or.inr (Or.inl rfl) | exact Or.inr (Or.inr rfl)) (hd : (x == ("__debug__" : Str)) = false := by decide)
    (hcd : (x == ("__classdict__" : Str)) = false := by decide) : GV X Bo W (.Subscript (.Name x px) e2 pos) (fIxS i f2) := by
  refine (pe_ix (ix_list.or ix_tup) (pe_var hN hv hd hcd) h2 hs).imp fun σ H Q ⟨F, ps, sr, q⟩ => ?_
  unfold fIxS at q
  cases e0 : look i ps with
  | none => rw [e0] at q; exact q.elim
  | some d0 =>
    rw [e0] at q
    obtain ⟨v, hv, _⟩ := sr.look e0
    refine ⟨v, hv, ?_⟩
    refine go_bind RV.rb sr q fun y b F2 H2 ps1 s1 st hy q => ?_
    cases e1 : look i ps1 with
    | none => rw [e1] at q; exact q.elim
    | some a =>
      rw [e1] at q
      obtain ⟨v', hv', _, hl, ht⟩ := s1.look e1
      rw [hv] at hv'; cases hv'
      obtain ⟨d, ed, k⟩ := go_end s1 q
      unfold dIx at ed
      split at ed
      · obtain ⟨a', xs, rfl, hq, hd'⟩ := hl _ rfl
        obtain ⟨w, h1, h2⟩ := DvAll.atI hd' ed
        cases hy
        exact .inl ⟨_, _, _, w, rfl, rfl, hq, h1, k w F2 H2 (.refl s1.le) h2⟩
      · obtain ⟨a', xs, rfl, hq, hd'⟩ := ht _ rfl
        obtain ⟨w, h1, h2⟩ := DvAll.atI hd' ed
        cases hy
        exact .inr ⟨_, _, _, w, rfl, rfl, hq, h1, k w F2 H2 (.refl s1.le) h2⟩
      · cases ed
/-- a comparison whose left side is a name, only looked at -/
def fBinS (D : PyData → PyData → Option PyData) (i : Nat) (f : PSt → Rs PyData) : PSt → Rs PyData := fun ps => match look i ps with
  | none => .bad
  | some _ => (f ps).bind fun b ps1 => match look i ps1 with
    | none => .bad
    | some a => opt (D a b) ps1
theorem opS_data {r : R2} {D : PyData → PyData → Option PyData} {i : Nat} (hr : OpD X.K r D) (hD : ∀ a b d, D a b = some d → ∃ k, d = .bool k) : ∀ σ H Q, tR X.K X.mg Bo W (RV X.K) (fBinS D i f2) σ H Q → tOp r (tVar i) (tR X.K X.mg Bo W (RV X.K) f2) σ H Q := fun σ H Q ⟨F, ps, sr, q⟩ => by
  unfold fBinS at q
  cases e0 : look i ps with
  | none => rw [e0] at q; exact q.elim
  | some d0 =>
    rw [e0] at q
    obtain ⟨v, hv, _⟩ := sr.look e0
    refine ⟨v, hv, ?_⟩
    refine go_bind RV.rb sr q fun y b F2 H2 ps1 s1 st hy q => ?_
    cases e1 : look i ps1 with
    | none => rw [e1] at q; exact q.elim
    | some a =>
      rw [e1] at q
      obtain ⟨v', hv', hdp, _⟩ := s1.look e1
      rw [hv] at hv'; cases hv'
      obtain ⟨d, ed, k⟩ := go_end s1 q
      obtain ⟨kb, rfl⟩ := hD _ _ _ ed
      refine hr H2 H2 v y a b _ Q (.refl _) hdp (hy.mono s1.le) ed fun w F' H' g hw => ?_
      cases hw
      exact k _ F2 H' ⟨.refl _, fun _ _ e => .inl e, g.keep, s1.le.trans g.keep⟩ (.bl _)
theorem gv_cmpS (i : Nat) {px : Pos} {op : CmpOp} {r : R2} {D : PyData → PyData → Option PyData} (ho : OpR X (compareOp op) r) (hr : OpD X.K r D) (hD : ∀ a b d, D a b = some d → ∃ k, d = .bool k) (h2 : GV X Bo W e2 f2) (hm : behindInMarks op e2 = false := by first | exact nomark _ | rfl)
    (hN : X.N[i]? = some x := by rfl) (hv : Vis X.env.scope x := by first | exact Or.inl rfl | exact Or.inr (Or.inl rfl) | exact Or.inr (Or.inr rfl)) (hd : (x == ("__debug__" : Str)) = false := by decide) (hcd : (x == ("__classdict__" : Str)) = false := by decide) :
    GV X Bo W (.Compare (.Name x px) [op] [e2] pos) (fBinS D i f2) := (pe_cmpR ho (pe_var hN hv hd hcd) h2 hm).imp (opS_data hr hD)
theorem gt_cmpS (i : Nat) {px : Pos} {op : CmpOp} {r : R2} {D : PyData → PyData → Option PyData} (ho : OpR X (compareOp op) r) (hr : OpD X.K r D) (hD : ∀ a b d, D a b = some d → ∃ k, d = .bool k) (h2 : GV X Bo W e2 f2) (hm : behindInMarks op e2 = false := by first | exact nomark _ | rfl)
    (hN : X.N[i]? = some x := by rfl) (hv : Vis X.env.scope x := by first | exact Or.inl rfl | exact Or.inr (Or.inl rfl) | exact Or.inr (Or.inr rfl)) (hd : (x == ("__debug__" : Str)) = false := by decide) (hcd : (x == ("__classdict__" : Str)) = false := by decide) :
    GT X Bo W (.Compare (.Name x px) [op] [e2] pos) (fTest (fBinS D i f2)) := (pt_cmpR ho (pe_var hN hv hd hcd) h2 hm).imp (test_data (opS_data hr hD))
/-- len(name) -/
def fLenS (i : Nat) : PSt → Rs PyData := fun ps => match look i ps with
  | none => .bad
  | some d => opt (dLen [d]) ps
theorem gv_lenS (i : Nat) {px : Pos} (hg : Gl X "len") (hm : X.mg "len" = none) (hN : X.N[i]? = some x := by rfl) (hv : Vis X.env.scope x := by first | exact Or.inl rfl | exact Or.inr (Or.inl rfl) | exact Or.inr (Or.inr rfl)) (hd : (x == ("__debug__" : Str)) = false := by decide)
    (hcd : (x == ("__classdict__" : Str)) = false := by decide) (he : starEach [.Name x px] X.env = (false, eval (.Name x px) X.env) :: starEach [] X.env := by rfl) (hpl : (backTo pos (starEach [] X.env)).any (·.1) = false := by rfl) :
    GV X Bo W (.Call (.Name "len" p) [.Name x px] [] pos) (fLenS i) := by
  refine (pe_callB call_len_seq hg hm PySem.boot_len (pa_cons (pe_var hN hv hd hcd) pa_nil he) (by decide) (by decide) he hpl).imp fun σ H Q ⟨F, ps, sr, q⟩ => ?_
  unfold fLenS at q
  cases e0 : look i ps with
  | none => rw [e0] at q; exact q.elim
  | some d0 =>
    rw [e0] at q
    obtain ⟨v, hv, hdp, _⟩ := sr.look e0
    obtain ⟨d, ed, k⟩ := go_end sr q
    refine ⟨v, hv, ?_⟩
    refine len_ok (X := X) H H [v] [d0] d Q (.refl _) (.cons hdp .nil) ed fun w F' H' g hw => ?_
    have : ∃ n : Int, d = .int n := by
      unfold dLen at ed
      split at ed <;> first | (cases ed; exact ⟨_, rfl⟩) | cases ed
    obtain ⟨n, rfl⟩ := this
    cases hw
    exact k _ F H' ⟨.refl _, fun _ _ e => .inl e, g.keep, sr.le.trans g.keep⟩ (.int _)

/-! ### slices -/
def cutD (xs : List PyData) (lo hi : Option Int) : List PyData := (xs.drop (HT.sIx xs.length 0 lo)).take (HT.sIx xs.length xs.length hi - HT.sIx xs.length 0 lo)
abbrev fPart := PSt → Rs (Option Int)
def RP : RT (Option Int) (Option Int) := fun _ _ _ _ _ _ _ b c => b = c
def GP (X : Cx) (Bo : Option Addr) (W : WX) (o : Option Expr) (f : PSt → Rs (Option Int)) : Prop := PO X o (tR X.K X.mg Bo W RP f)
def fNoPart : PSt → Rs (Option Int) := .ok none
def fSomePart (f : PSt → Rs PyData) : PSt → Rs (Option Int) := fun ps => (f ps).bind fun d ps1 => match d with
  | .int i => .ok (some i) ps1
  | _ => .bad
theorem gp_none : GP X Bo W none fNoPart := ⟨fun pins s σ H Q I ⟨F, ps, sr, q⟩ => po_none.run pins s σ H Q I (q none F H .refl sr rfl)⟩
theorem gp_some (h : GV X Bo W e f) : GP X Bo W (some e) (fSomePart f) := ⟨fun pins s σ H Q I q => by
  refine (po_some h).run pins s σ H Q I ?_
  refine tR_bind (R2 := RP) (fun _ _ _ _ _ _ _ _ _ _ _ _ _ h => h) q fun v d F F1 H1 ps ps1 sr st hv q => ?_
  match d, hv, q with
  | .int i, hv, q => cases hv; exact ⟨i, rfl, q _ F1 H1 .refl sr rfl⟩
  | .none, _, q => exact q.elim
  | .bool _, _, q => exact q.elim
  | .str _, _, q => exact q.elim
  | .list _, _, q => exact q.elim
  | .tuple _, _, q => exact q.elim
  | .dict _, _, q => exact q.elim⟩
def fSl (f : PSt → Rs PyData) (l h : PSt → Rs (Option Int)) : PSt → Rs PV := fun ps => (f ps).bind fun d ps1 => (l ps1).bind fun lo ps2 => (h ps2).bind fun hi ps3 => match d with
  | .tuple ds => .ok (.val (.tuple (cutD ds lo hi))) ps3
  | .list ds => .ok (.own (.list (cutD ds lo hi))) ps3
  | _ => .bad
theorem cut_ok {K : PySem.W.Frag} {F : Hp} {xs : List V} {ds : List PyData} {lo hi : Option Int} (h : DvAll K F xs ds) : DvAll K F (cutV xs lo hi) (cutD ds lo hi) := by
  unfold cutV cutD
  rw [h.length]
  exact (h.drop _).take _
theorem cut_whole {ds : List PyData} {lo hi : Option Int} (h : HT.sIx ds.length 0 lo = 0 ∧ HT.sIx ds.length ds.length hi = ds.length) : cutD ds lo hi = ds := by
  unfold cutD
  rw [h.1, h.2]
  simp
theorem go_slice {lo₀ hi₀ : Option Expr} {l h : PSt → Rs (Option Int)} (he : GV X Bo W e f) (hl : GP X Bo W lo₀ l) (hh : GP X Bo W hi₀ h) : GO X Bo W (.Subscript e (.Slice lo₀ hi₀ none p2) pos) (fSl f l h) := by
  refine (pe_slice (sl_tupA.or sl_list) he hl hh).imp fun σ H Q q => ?_
  refine tR_bind RO.rb q fun v d F F1 H1 ps ps1 s1 st1 hv q => ?_
  refine go_bind RO.rb s1 q fun lo lo' F2 H2 ps2 s2 st2 e2 q => ?_
  have e2 : lo = lo' := e2
  subst e2
  refine go_bind RO.rb s2 q fun hi hi' F3 H3 ps3 s3 st3 e3 q => ?_
  have e3 : hi = hi' := e3
  subst e3
  have hv := (show Dv X.K F1 v d from hv).mono (st2.grow.trans st3.grow)
  match d, hv, q with
  | .tuple ds, hv, q =>
    cases hv with
    | @tup a xs _ s hd =>
      have hn := hd.length
      refine .inl ⟨a, xs, rfl, same_sqt s3.le s, fun w => ?_, fun w p hp => ?_⟩
      · refine q (.ref a) F3 H3 .refl s3 ?_
        rw [cut_whole (by rw [← hn]; exact w)]
        exact .tup s hd
      · have g : Gr F3 H3 (upd F3 p (.tup (cutV xs lo hi))) (upd H3 p (.tup (cutV xs lo hi))) := .new s3.le hp
        exact q (.ref p) _ _ (.of_gr g) (s3.gr g) (.tup (SqT.of upd_same) (L2.DvAll.mono g.grow (cut_ok hd)))
  | .list ds, hv, q =>
    cases hv with
    | @lst a xs _ s hd =>
      refine .inr ⟨a, xs, rfl, s3.le.seq s, fun p hp => ?_⟩
      obtain ⟨g, s4, ro⟩ := new_own s3 hp (cut_ok (lo := lo) (hi := hi) hd)
      exact q (.ref p) _ _ (.of_gr g) s4 ro
  | .none, _, q => exact q.elim
  | .bool _, _, q => exact q.elim
  | .int _, _, q => exact q.elim
  | .str _, _, q => exact q.elim
  | .dict _, _, q => exact q.elim

/-! ### a < b < c -/
def fChain (D D' : PyData → PyData → Option PyData) (f1 f2 f3 : PSt → Rs PyData) : PSt → Rs PyData := fun ps => (f1 ps).bind fun a ps1 => (f2 ps1).bind fun b ps2 => match D a b with
  | some (.bool true) => (f3 ps2).bind fun c ps3 => opt (D' b c) ps3
  | some (.bool false) => .ok (.bool false) ps2
  | _ => .bad
theorem chain_data {r r' : R2} {D D' : PyData → PyData → Option PyData} (hr : OpD X.K r D) (hr' : OpD X.K r' D') : ∀ σ H Q, tR X.K X.mg Bo W (RV X.K) (fChain D D' f1 f2 f3) σ H Q →
    (tR X.K X.mg Bo W (RV X.K) f1) σ H fun x H1 => (tR X.K X.mg Bo W (RV X.K) f2) σ H1 fun y H2 => r x y H2 fun z H3 => ∃ k, z = .bl k ∧ if k = true then (tR X.K X.mg Bo W (RV X.K) f3) σ H3 fun w H4 => r' y w H4 Q else Q (.bl false) H3 := fun σ H Q q => by
  refine tR_bind RV.rb q fun v a F F1 H1 ps ps1 s1 st1 hv q => ?_
  refine go_bind RV.rb s1 q fun u b F2 H2 ps2 s2 st2 hu q => ?_
  split at q
  · rename_i ed
    refine hr F2 H2 v u a b _ _ s2.le ((show Dv X.K F1 v a from hv).mono st2.grow) hu ed fun w F3 H3 g hw => ?_
    cases hw
    refine ⟨true, rfl, ?_⟩
    rw [if_pos rfl]
    have s3 := s2.gr g
    refine go_bind RV.rb s3 (Goal.rebase RV.rb q (.of_gr g)) fun w c F4 H4 ps4 s4 st4 hw q => ?_
    obtain ⟨d, ed', k⟩ := go_end s4 q
    exact hr' F4 H4 u w b c d Q s4.le ((show Dv X.K F2 u b from hu).mono (g.grow.trans st4.grow)) hw ed' k
  · rename_i ed
    refine hr F2 H2 v u a b _ _ s2.le ((show Dv X.K F1 v a from hv).mono st2.grow) hu ed fun w F3 H3 g hw => ?_
    cases hw
    refine ⟨false, rfl, ?_⟩
    rw [if_neg Bool.false_ne_true]
    exact q (.bl false) F3 H3 (.of_gr g) (s2.gr g) (.bl false)
  · exact q.elim
theorem gv_chain {op op' : CmpOp} {r r' : R2} {D D' : PyData → PyData → Option PyData} (ho : OpR X (compareOp op) r) (ho' : OpR X (compareOp op') r') (hr : OpD X.K r D) (hr' : OpD X.K r' D') (h1 : GV X Bo W e1 f1) (h2 : GV X Bo W e2 f2) (h3 : GV X Bo W e3 f3) (hm : lastMarks [op, op'] [e2, e3] = false := by with_unfolding_all rfl) :
    GV X Bo W (.Compare e1 [op, op'] [e2, e3] pos) (fChain D D' f1 f2 f3) := (pe_chain ho ho' h1 h2 h3 hm).imp (chain_data hr hr')
theorem gt_chain {op op' : CmpOp} {r r' : R2} {D D' : PyData → PyData → Option PyData} (ho : OpR X (compareOp op) r) (ho' : OpR X (compareOp op') r') (hr : OpD X.K r D) (hr' : OpD X.K r' D') (h1 : GV X Bo W e1 f1) (h2 : GV X Bo W e2 f2) (h3 : GV X Bo W e3 f3) (hm : lastMarks [op, op'] [e2, e3] = false := by with_unfolding_all rfl) :
    GT X Bo W (.Compare e1 [op, op'] [e2, e3] pos) (fTest (fChain D D' f1 f2 f3)) := (pt_chain ho ho' h1 h2 h3 hm).imp (test_data (chain_data hr hr'))

/-! ### x or y of lists -/
def truL : PV → Option Bool
  | .val (.list ds) => some (!ds.isEmpty)
  | .own (.list ds) => some (!ds.isEmpty)
  | .val (.tuple ds) => some (!ds.isEmpty)
  | _ => none
def fOrT (f1 f2 : PSt → Rs PV) : PSt → Rs PV := fun ps => (f1 ps).bind fun p ps1 => match truL p with
  | some true => .ok p ps1
  | some false => f2 ps1
  | none => .bad
theorem isEmpty_all {K : PySem.W.Frag} {F : Hp} {xs : List V} {ds : List PyData} (h : DvAll K F xs ds) : (!xs.isEmpty) = !ds.isEmpty := by cases h <;> rfl
theorem go_orT (h1 : GO X Bo W e fo1) (h2 : GO X Bo W (.BoolOp .Or (e2 :: es) pos) fo2) : GO X Bo W (.BoolOp .Or (e :: e2 :: es) pos) (fOrT fo1 fo2) := by
  refine (pe_orT h1 h2).imp fun σ H Q ⟨F, ps, sr, q⟩ => ⟨F, ps, sr, ?_⟩
  unfold fOrT at q
  cases e1 : fo1 ps with
  | bad => rw [e1] at q; exact q
  | exc x ps1 => rw [e1] at q; exact q
  | ok p ps1 =>
    rw [e1] at q
    intro v F1 H1 st s1 hv
    have q : Goal X.K X.mg Bo W (RO X.K) (match truL p with
      | some true => .ok p ps1
      | some false => fo2 ps1
      | none => .bad) F H σ ps Q := q
    cases et : truL p with
    | none => rw [et] at q; exact q.elim
    | some k =>
      rw [et] at q
      have tv : TruV X.K v H1 k := by
        match p, hv, et with
        | .val (.list ds), hv, et =>
          cases et
          cases (show Dv X.K F1 v (.list ds) from hv) with
          | lst s a => exact .inl ⟨_, s1.le.seq s, (isEmpty_all a).symm⟩
        | .val (.tuple ds), hv, et =>
          cases et
          cases (show Dv X.K F1 v (.tuple ds) from hv) with
          | tup s a => exact .inr (.inl ⟨_, same_sqt s1.le s, (isEmpty_all a).symm⟩)
        | .own (.list ds), hv, et =>
          cases et
          obtain ⟨a, rfl, hAt, _⟩ := hv; obtain ⟨hn, xs, ds', ed, hH, ha⟩ := hAt.l
          cases ed
          exact .inl ⟨xs, SqL.of hH, (isEmpty_all ha).symm⟩
      refine ⟨k, tv, ?_⟩
      cases k with
      | true => exact q v F1 H1 st s1 hv
      | false => exact ⟨F1, ps1, s1, Goal.rebase RO.rb q st⟩
theorem go_one {op} (h : GO X Bo W e fo) : GO X Bo W (.BoolOp op [e] pos) fo := pe_one h

/-! ### lists changed in place -/
def slotL (i : Nat) (ps : PSt) : Option (List PyData) := match ps[i]? with
  | some (some (.own (.list ds))) => some ds
  | _ => none
theorem slotL_at {i : Nat} {ps : PSt} {ds : List PyData} (h : slotL i ps = some ds) : ps[i]? = some (some (.own (.list ds))) := by
  unfold slotL at h
  split at h
  · rename_i d e; cases h; exact e
  · cases h
theorem tyV_list {K : PySem.W.Frag} {H : Hp} {a : Addr} {xs : List V} (h : H a = some (.lst xs)) : tyV K "list" (.ref a) H := .inl ⟨rfl, xs, SqL.of h⟩
/-- a method of the list at slot i that gives None -/
def fMeth (i : Nat) (D : List PyData → List PyData → Option (List PyData)) (fa : PSt → Rs (List PyData)) : PSt → Rs PyData := fun ps => match slotL i ps with
  | none => .bad
  | some _ => (fa ps).bind fun as ps1 => match slotL i ps1 with
    | none => .bad
    | some ds => match D ds as with
      | some ds' => .ok .none (ps1.set i (some (.own (.list ds'))))
      | none => .bad
/-- .. by data: l at a holds xs -/
def MethD (K : PySem.W.Frag) (r : V → List V → Hp → VK → Prop) (D : List PyData → List PyData → Option (List PyData)) : Prop := ∀ F H a xs ds vs as ds' Q, Same F H → F a = none → H a = some (.lst xs) → DvAll K F xs ds → DvAll K F vs as → D ds as = some ds' →
  (∀ xs', DvAll K F xs' ds' → Q .non (upd H a (.lst xs'))) → r (.ref a) vs H Q
theorem meth_data {r : V → List V → Hp → VK → Prop} {D : List PyData → List PyData → Option (List PyData)} {i : Nat} (hr : MethD X.K r D) : ∀ σ H Q, tR X.K X.mg Bo W (RV X.K) (fMeth i D fa) σ H Q → tBM X.K "list" r (tVar i) (tR X.K X.mg Bo W (RA X.K) fa) σ H Q := fun σ H Q ⟨F, ps, sr, q⟩ => by
  unfold fMeth at q
  cases e0 : slotL i ps with
  | none => rw [e0] at q; exact q.elim
  | some d0 =>
    rw [e0] at q
    obtain ⟨a, ha, _, xs0, _, _, hH0, _⟩ := sr.ownL (slotL_at e0)
    refine ⟨.ref a, ha, tyV_list hH0, ?_⟩
    refine go_bind RV.rb sr q fun vs as F2 H2 ps1 s1 st hvs q => ?_
    cases e1 : slotL i ps1 with
    | none => rw [e1] at q; exact q.elim
    | some ds =>
      rw [e1] at q
      have e1 := slotL_at e1
      obtain ⟨a', ha', hn, xs, ds2, ed, hH, hd⟩ := s1.ownL e1
      cases ed
      rw [ha] at ha'; cases ha'
      dsimp only at q
      cases e2 : D ds as with
      | none => rw [e2] at q; exact q.elim
      | some ds' =>
        rw [e2] at q
        refine hr F2 H2 a xs ds vs as ds' Q s1.le hn hH hd hvs e2 fun xs' hx' => ?_
        obtain ⟨s2, st2⟩ := s1.mut e1 ha hn (d' := .list ds') rfl hx'
        exact q .non F2 _ st2 s2 .non
def dAppend : List PyData → List PyData → Option (List PyData)
  | ds, [d] => if ds.length < sizeLine then some (ds ++ [d]) else none
  | _, _ => none
theorem append_ok {K : PySem.W.Frag} : MethD K rAppend dAppend := fun F H a xs ds vs as ds' Q hs hn hH hd hv e k => by
  unfold dAppend at e
  split at e
  · rename_i ds d
    split at e
    · rename_i hz
      cases e
      obtain ⟨v, rfl, h⟩ := dpall1 hv
      exact ⟨a, xs, v, rfl, rfl, hH, by rw [hd.length]; exact hz, k _ (hd.append (.cons h .nil))⟩
    · cases e
  · cases e
/-- x.append(e) -/
theorem gv_append (i : Nat) {px apos cpos : Pos} (h : GA X Bo W [e] fa) (hN : X.N[i]? = some x := by rfl) (hv : Vis X.env.scope x := by first | exact Or.inl rfl | exact Or.inr (Or.inl rfl) | exact Or.inr (Or.inr rfl)) (hd : (x == ("__debug__" : Str)) = false := by decide) (hcd : (x == ("__classdict__" : Str)) = false := by decide)
    (hbase : attributeBase (.Name x px) "append" X.env (eval (.Name x px) X.env) = eval (.Name x px) X.env := by rfl)
    (hfew : ((backTo cpos (starEach (e :: []) X.env)).all (fun x => !x.1) && (backToKw cpos (keywordEach [] X.env)).all (fun x => x.1.isSome)
      && decide ((e :: []).length + ([] : List Keyword).length + (if ([] : List Keyword).isEmpty then 0 else 1) < 30)) = true := by rfl)
    (hline : (apos.endLine == cpos.line) = true := by rfl) (hs : starEach (e :: []) X.env = (false, eval e X.env) :: starEach [] X.env := by rfl) (hplain : (backTo cpos (starEach [] X.env)).any (·.1) = false := by rfl) :
    GV X Bo W (.Call (.Attribute (.Name x px) "append" apos) [e] [] cpos) (fMeth i dAppend fa) :=
  (pe_bm PySem.F.plainAttrs_list PySem.F.slot_list_append PySem.F.type_list_append mt_append (pe_var hN hv hd hcd) h hbase hfew hline hs hplain).imp (meth_data append_ok)
/-- x[k] = e, x a slot's own list -/
def fSetIx (i : Nat) (fi f : PSt → Rs PyData) : PSt → Os := fun ps => (f ps).st fun v ps1 => match slotL i ps1 with
  | none => .bad
  | some _ => (fi ps1).st fun k ps2 => match slotL i ps2, k with
    | some ds, .int k => (match ixN ds.length k with
      | some j => .nx (ps2.set i (some (.own (.list (ds.set j v)))))
      | none => .bad)
    | _, _ => .bad
theorem gs_setIx (i : Nat) {px sp : Pos} {ei : Expr} {fi : PSt → Rs PyData} (h : GV X Bo W e f) (hi : GV X Bo W ei fi) (hN : X.N[i]? = some x := by rfl) (hv : Vis X.env.scope x := by first | exact Or.inl rfl | exact Or.inr (Or.inl rfl) | exact Or.inr (Or.inr rfl)) (hd : (x == ("__debug__" : Str)) = false := by decide) (hcd : (x == ("__classdict__" : Str)) = false := by decide)
    (ha : ∀ v, assign (.Subscript (.Name x px) ei sp) X.env v = (do
      let ov ← holding [v] (eval (.Name x px) X.env)
      let iv ← holding [v, ov] (eval ei X.env)
      standAt sp
      holding [v, ov, iv] (setItem ov iv v)
      release [v, ov, iv] []) := by intro _; rfl)
    (hs : swapsWithSole [.Subscript (.Name x px) ei sp] e pos.line X.env = pure false := by rfl) (hw : swappedStores [.Subscript (.Name x px) ei sp] e X.env = pure none := by rfl)
    (h1 : (assignEach [.Subscript (.Name x px) ei sp] X.env).map (·.2) = [assign (.Subscript (.Name x px) ei sp) X.env] := by rfl) : GS X Bo W (.Assign [.Subscript (.Name x px) ei sp] e pos) (fSetIx i fi f) := by
  refine (ps_asg h (pg_sub (pe_var hN hv hd hcd) hi set_list ha) hs hw h1).imp fun D σ H q => ?_
  refine tS_bind q fun v d F F1 H1 ps ps1 sr s1 st hv q => ?_
  have hv : Dv X.K F1 v d := hv
  cases e0 : slotL i ps1 with
  | none => rw [e0] at q; exact q.elim
  | some d0 =>
    rw [e0] at q
    obtain ⟨a, ha, _⟩ := s1.ownL (slotL_at e0)
    refine ⟨.ref a, ha, ?_⟩
    refine gos_bind (R1 := RV X.K) s1 q fun y k F2 H2 ps2 s2 st2 hy q => ?_
    cases e1 : slotL i ps2 with
    | none => rw [e1] at q; exact q.elim
    | some ds =>
      rw [e1] at q
      match k, hy, q with
      | .int k, hy, q =>
        cases hy
        dsimp only at q
        have e1 := slotL_at e1
        obtain ⟨a', ha', hn, xs, ds2, ed, hH, hd⟩ := s2.ownL e1
        cases ed
        rw [ha] at ha'; cases ha'
        cases ej : ixN ds.length k with
        | none => rw [ej] at q; exact q.elim
        | some j =>
          rw [ej] at q
          refine ⟨a, xs, k, j, rfl, rfl, hH, by rw [hd.length]; exact ej, ?_⟩
          obtain ⟨s3, st3⟩ := s2.mut e1 ha hn (d' := .list (ds.set j d)) rfl (hd.set j (hv.mono st2.grow))
          exact q σ F2 _ st3 s3
      | .none, _, q => exact q.elim
      | .bool _, _, q => exact q.elim
      | .str _, _, q => exact q.elim
      | .list _, _, q => exact q.elim
      | .tuple _, _, q => exact q.elim
      | .dict _, _, q => exact q.elim
/-- a, b = e1, e2 with plain local names -/
def fPar (i j : Nat) (f1 f2 : PSt → Rs PV) : PSt → Os := fun ps => (f1 ps).st fun p ps1 => (f2 ps1).st fun q ps2 => .nx ((ps2.set i (some p)).set j (some q))
theorem ro2 {K : PySem.W.Frag} {F H F1 H1 F2 H2 : Hp} {σ : St} {ps ps1 ps2 : PSt} {v w : V} {p q : PV} {i j : Nat} (hij : i ≠ j) (hi : Bo = none ∨ i ≠ 0) (hj : Bo = none ∨ j ≠ 0) (s2 : SR K Bo F2 H2 σ ps2) (st1 : Step F H σ ps F1 H1 σ ps1) (st2 : Step F1 H1 σ ps1 F2 H2 σ ps2)
    (h1 : RO K σ F H ps F1 H1 ps1 v p) (h2 : RO K σ F1 H1 ps1 F2 H2 ps2 w q) : SR K Bo F2 H2 ((σ.set i (some v)).set j (some w)) ((ps2.set i (some p)).set j (some q)) ∧ Step F H σ ps F2 H2 ((σ.set i (some v)).set j (some w)) ((ps2.set i (some p)).set j (some q)) := by
  have k1 := h1.keep st2
  obtain ⟨s3, st3⟩ := store_pv hi s2 (st1.trans st2) k1
  match q, h2 with
  | .val d, h2 => exact ⟨s3.setV hj h2, st3.trans .setV⟩
  | .own d, h2 =>
    obtain ⟨b, rfl, h4, h5, h6⟩ := h2
    have no : ¬ Owned (σ.set i (some v)) (ps2.set i (some p)) b := by
      match p, h1, k1 with
      | .val d', _, _ => exact fun z => h5 (owned_set (fun _ q => by cases q) z)
      | .own d', h1, k1 =>
        obtain ⟨a, rfl, ⟨_, _, ha, _⟩, n1, _⟩ := h1
        intro z
        rcases owned_setO z with y | y
        · subst y
          rcases h6 with y | y
          · exact n1 y
          · rw [ha] at y; cases y
        · exact h5 y
    refine ⟨s3.setO hj h4 no, st3.grow, st3.fresh, st3.keep, fun c z => ?_⟩
    rcases owned_setO z with y | y
    · subst y; exact st1.new h6
    · exact st3.own c y
/-- .. written from the right, but the values do not hang together -/
theorem gs_par (i j : Nat) {x y : Str} {px py pt pt2 : Pos} {kt k2 : Nat} (h1 : GO X Bo W e1 fo1) (h2 : GO X Bo W e2 fo2) (hc : X.calm = true) (hN : X.N.Nodup) (hx : X.env.scope.names.lookup x = some .local) (hy : X.env.scope.names.lookup y = some .local)
    (hw : swappedStores [.Tuple [.Name x px, .Name y py] kt pt] (.Tuple [e1, e2] k2 pt2) X.env = pure (some [x, y])) (hij : i ≠ j := by decide) (hbi : Bo = none ∨ i ≠ 0 := by first | exact .inl rfl | exact .inr (by decide)) (hbj : Bo = none ∨ j ≠ 0 := by first | exact .inl rfl | exact .inr (by decide))
    (hi : X.N[i]? = some x := by rfl) (hj : X.N[j]? = some y := by rfl) (hs1 : starEach (e1 :: [e2]) X.env = (false, eval e1 X.env) :: starEach [e2] X.env := by rfl) (hs2 : starEach (e2 :: []) X.env = (false, eval e2 X.env) :: starEach [] X.env := by rfl)
    (hs : swapsWithSole [.Tuple [.Name x px, .Name y py] kt pt] (.Tuple [e1, e2] k2 pt2) pos.line X.env = pure false := by rfl) :
    GS X Bo W (.Assign [.Tuple [.Name x px, .Name y py] kt pt] (.Tuple [e1, e2] k2 pt2) pos) (fPar i j fo1 fo2) := by
  refine (ps_par hc hN hi hj hij hx hy (pa_cons h1 (pa_cons h2 pa_nil hs2) hs1) hw hs).imp fun D σ H ⟨F, ps, sr, q⟩ => ?_
  show tR X.K X.mg Bo W (RO X.K) fo1 σ H _
  refine ⟨F, ps, sr, ?_⟩
  unfold fPar at q
  cases e1 : fo1 ps with
  | bad => rw [e1] at q; exact q
  | exc x ps1 => rw [e1] at q; exact fun cls dd F' H' st s1 r => q cls dd σ F' H' st s1 r
  | ok p ps1 =>
    rw [e1] at q
    intro v F1 H1 st1 s1 hv
    have q : GoalS X.K X.mg Bo W ((fo2 ps1).st fun q ps2 => .nx ((ps2.set i (some p)).set j (some q))) F H σ ps D := q
    show tR X.K X.mg Bo W (RO X.K) fo2 σ H1 _
    refine ⟨F1, ps1, s1, ?_⟩
    cases e2 : fo2 ps1 with
    | bad => rw [e2] at q; exact q
    | exc x ps2 => rw [e2] at q; exact fun cls dd F' H' st s2 r => q cls dd σ F' H' (st1.trans st) s2 r
    | ok r ps2 =>
      rw [e2] at q
      intro w F2 H2 st2 s2 hw
      obtain ⟨s3, st3⟩ := ro2 hij hbi hbj s2 st1 st2 hv hw
      exact ⟨v, w, rfl, q _ F2 H2 st3 s3⟩
theorem _root_.L2.Room.u65 {k : Nat} {A : Around} (r : Room k A) : A.units + 65 < cLine := by have := r.un; omega
end

theorem bool_if {c : Prop} [Decidable c] {b : Bool} {d : PyData} (h : (if c then some (PyData.bool b) else none) = some d) : ∃ k, d = .bool k := by
  split at h
  · cases h; exact ⟨_, rfl⟩
  · cases h
theorem bool_dEq (a b d : PyData) (h : dEq a b = some d) : ∃ k, d = .bool k := bool_if h
theorem bool_dNe (a b d : PyData) (h : dNe a b = some d) : ∃ k, d = .bool k := bool_if h
theorem bool_dLt (a b d : PyData) (h : dLt a b = some d) : ∃ k, d = .bool k := by
  unfold dLt at h
  cases e : intPair a b with
  | some p => rw [e] at h; cases h; exact ⟨_, rfl⟩
  | none => rw [e] at h; exact bool_if h
theorem bool_dI {D : Int → Int → Bool} (a b d : PyData) (h : dI (fun i j => some (.bool (D i j))) a b = some d) : ∃ k, d = .bool k := by
  unfold dI at h
  split at h
  · cases h; exact ⟨_, rfl⟩
  · cases h
theorem bool_dGt (a b d : PyData) (h : dGt a b = some d) : ∃ k, d = .bool k := bool_dI a b d h
theorem bool_dLe (a b d : PyData) (h : dLe a b = some d) : ∃ k, d = .bool k := bool_dI a b d h
theorem bool_dGe (a b d : PyData) (h : dGe a b = some d) : ∃ k, d = .bool k := bool_dI a b d h
theorem bool_dIs (a b d : PyData) (h : dIs a b = some d) : ∃ k, d = .bool k := by
  unfold dIs at h
  split at h <;> cases h <;> exact ⟨_, rfl⟩
theorem bool_dIsNot (a b d : PyData) (h : dIsNot a b = some d) : ∃ k, d = .bool k := by
  unfold dIsNot at h
  split at h <;> cases h <;> exact ⟨_, rfl⟩
theorem bool_dIn (a b d : PyData) (h : dIn a b = some d) : ∃ k, d = .bool k := by
  unfold dIn at h
  split at h
  · exact bool_if h
  · cases h
theorem bool_dNotIn (a b d : PyData) (h : dNotIn a b = some d) : ∃ k, d = .bool k := by
  unfold dNotIn at h
  split at h
  · exact bool_if h
  · cases h
end GL

/-! GLj: the end of a law -/
namespace GL
open PySem PySem.Spec L2
open PyProof.Rows hiding St
/-- a law over a head by facts, exceptions of the program's own within -/
theorem walk_ofEw {l : PySem.W.OpenLaw} {n k : Nat} {q : Program} {loose : List Str} {XP : (Str → Option Value) → Heap → Prop} {YP : World → Heap → Prop} {d : DefRec} {x : Str}
    (hn : l.most = some n) (hn2 : n ≤ sizeLine) (hdf : d.params.defaults = []) (hr : Room k callerA)
    (F : ∀ (w : World) (mg : Str → Option Value) (fa : Addr) (h : Heap), YP w h → h.Ns mainGlobals mg → mg d.name = some (.ref fa) →
      ∃ (K : PySem.W.Frag) (fd : FuncData) (sp : Sp), K.In h ∧ (∀ (s : Shared) (u : Value), BindsTo s fd ⟨[u], []⟩ [(x, u)]) ∧
        (∀ (H : Hp) (a : Addr) (ns : List Int), ns.length ≤ n → L2.Only H → SqL K H a (ns.map V.int) → sp [.ref a] H (fun v _ => v = .bl true) fun _ _ _ => False) ∧
        ∀ base : Heap, K.In base → base.Ns mainGlobals mg → FnOk l.prog w K mg base (L2.CX l.prog w) k fa fd [x] sp) :
    PySem.W.WalkO q loose XP YP l.row.toRowW d [] (fun f vs => PySem.call f vs) := by
  refine Att.attach_call hn hdf fun w s₀ s₁ mg mb fa o pm cd doc a vs ns G Y ho hd hcd hmg hobj hints hlen hg => ?_
  obtain ⟨K, fd, sp, KX, hb, hsp, hF⟩ := F w mg fa _ Y G.T.g hmg
  refine law_call KX G.T.g G.T.b G.T.builtins G.T.nolimit hg hobj hints (Nat.le_trans hlen hn2) hr hF hb (fun H hO hS => hsp H a ns hlen hO hS) fun H e s' h => ?_
  obtain ⟨_, _, _, _, _, _, _, _, _, _, _, _, z⟩ := h
  exact z.elim
theorem ints_dp {K : PySem.W.Frag} {H : Hp} : ∀ ns : List Int, DvAll K H (ns.map V.int) (ns.map PyData.int)
  | [] => .nil
  | n :: ns => .cons (.int n) (ints_dp ns)
/-- what a law's def promises, from its function -/
theorem law_sp {K : PySem.W.Frag} {mg : Str → Option Value} {M : List PyData → FR} (hM : ∀ ns : List Int, ns.length ≤ 63 → M [.list (ns.map PyData.int)] = .ok (.val (.bool true))) (H : Hp) (a : Addr) (ns : List Int) (hl : ns.length ≤ 63) (hS : SqL K H a (ns.map V.int)) :
    spP K mg 1 M [.ref a] H (fun v _ => v = .bl true) fun _ _ _ => False := by
  refine ⟨rfl, H, [.list (ns.map PyData.int)], .refl _, .cons (.lst hS (ints_dp ns)) .nil, ?_⟩
  rw [hM ns hl]
  intro v F' H' _ h
  have h : Dv K F' v (.bool true) := h
  cases h
  rfl
end GL

/-! GLk: what the functions of pure states give, by rules (Ev: an expression; Es: a statement) -/
namespace GL
open PySem PySem.Spec L2
open PyProof.Rows hiding St

def Ev {α : Type} (f : PSt → Rs α) (ps : PSt) (a : α) (ps' : PSt) : Prop := f ps = .ok a ps'
def Es (g : PSt → Os) (ps : PSt) (o : Os) : Prop := g ps = o
def Et (u : PyData → PSt → Option PSt) (d : PyData) (ps ps' : PSt) : Prop := u d ps = some ps'
def Ets (u : List PyData → PSt → Option PSt) (d : List PyData) (ps ps' : PSt) : Prop := u d ps = some ps'
section
variable {f f1 f2 f3 : PSt → Rs PyData} {fo fo1 fo2 : PSt → Rs PV} {fa : PSt → Rs (List PyData)} {c c1 c2 : PSt → Rs Bool} {g g1 g2 : PSt → Os} {ps ps1 ps2 ps3 ps4 : PSt} {a b d e : PyData} {p q : PV} {ds : List PyData} {i j n : Nat} {o : Os} {D D' : PyData → PyData → Option PyData}
theorem ev_K : Ev (fK d) ps d ps := rfl
theorem ev_N (h : ps[i]? = some (some (.val d))) : Ev (fN i) ps d ps := by unfold Ev fN; rw [h]
theorem ev_No (h : ps[i]? = some (some (.own (.list ds)))) : Ev (fN i) ps (.list ds) (ps.set i (some (.val (.list ds)))) := by unfold Ev fN; rw [h]
theorem ev_Mv (h : ps[i]? = some (some p)) : Ev (fMv i) ps p (ps.set i none) := by unfold Ev fMv; rw [h]
theorem ev_data (h : Ev fo ps p ps1) : Ev (fun ps => (fo ps).map PV.data) ps p.data ps1 := by unfold Ev at *; dsimp only; rw [h]; rfl
theorem ev_val (h : Ev f ps d ps1) : Ev (fun ps => (f ps).map PV.val) ps (.val d) ps1 := by unfold Ev at *; dsimp only; rw [h]; rfl
theorem ev_nil : Ev (fun ps => (.ok [] ps : Rs (List PyData))) ps [] ps := rfl
theorem ev_cons (h : Ev f ps d ps1) (t : Ev fa ps1 ds ps2) : Ev (fCons f fa) ps (d :: ds) ps2 := by unfold Ev at *; unfold fCons; rw [h]; dsimp only [Rs.bind]; rw [t]
theorem ev_bin (h1 : Ev f1 ps a ps1) (h2 : Ev f2 ps1 b ps2) (h : D a b = some d) : Ev (fBin D f1 f2) ps d ps2 := by unfold Ev at *; unfold fBin; rw [h1]; dsimp only [Rs.bind]; rw [h2]; dsimp only; rw [h]; rfl
theorem ev_un {D : PyData → Option PyData} (h1 : Ev f ps a ps1) (h : D a = some d) : Ev (fUn D f) ps d ps1 := by unfold Ev at *; unfold fUn; rw [h1]; dsimp only [Rs.bind]; rw [h]; rfl
theorem ev_binS (h0 : look i ps = some e) (h2 : Ev f2 ps b ps2) (h1 : look i ps2 = some a) (h : D a b = some d) : Ev (fBinS D i f2) ps d ps2 := by unfold Ev at *; unfold fBinS; rw [h0]; dsimp only; rw [h2]; dsimp only [Rs.bind]; rw [h1]; dsimp only; rw [h]; rfl
theorem ev_ixS (h0 : look i ps = some e) (h2 : Ev f2 ps b ps2) (h1 : look i ps2 = some a) (h : dIx a b = some d) : Ev (fIxS i f2) ps d ps2 := by unfold Ev at *; unfold fIxS; rw [h0]; dsimp only; rw [h2]; dsimp only [Rs.bind]; rw [h1]; dsimp only; rw [h]; rfl
theorem ev_lenS (h0 : look i ps = some e) (h : dLen [e] = some d) : Ev (fLenS i) ps d ps := by unfold Ev at *; unfold fLenS; rw [h0]; dsimp only; rw [h]; rfl
theorem ev_test {k : Bool} (h : Ev f ps (.bool k) ps1) : Ev (fTest f) ps k ps1 := by unfold Ev at *; unfold fTest; rw [h]; rfl
theorem ev_not {k : Bool} (h : Ev c ps k ps1) : Ev (fNot c) ps (!k) ps1 := by unfold Ev at *; unfold fNot; rw [h]; rfl
theorem ev_and {k l : Bool} (h1 : Ev c1 ps k ps1) (h2 : k = true → Ev c2 ps1 l ps2) (hp : k = false → ps2 = ps1) : Ev (fAnd c1 c2) ps (k && l) ps2 := by
  unfold Ev at *; unfold fAnd; rw [h1]; cases k with
  | true => dsimp only [Rs.bind]; rw [if_pos rfl, h2 rfl]; rfl
  | false => rw [hp rfl]; rfl
theorem ev_or {k l : Bool} (h1 : Ev c1 ps k ps1) (h2 : k = false → Ev c2 ps1 l ps2) (hp : k = true → ps2 = ps1) : Ev (fOr c1 c2) ps (k || l) ps2 := by
  unfold Ev at *; unfold fOr; rw [h1]; cases k with
  | false => dsimp only [Rs.bind]; rw [if_neg Bool.false_ne_true, h2 rfl]; rfl
  | true => rw [hp rfl]; rfl
theorem ev_andV {k l : Bool} (h1 : Ev f1 ps (.bool k) ps1) (h2 : k = true → Ev f2 ps1 (.bool l) ps2) (hp : k = false → ps2 = ps1) : Ev (fAndV f1 f2) ps (.bool (k && l)) ps2 := by
  have h0 := ev_test h1
  unfold Ev at *; unfold fAndV; rw [h0]; cases k with
  | true => dsimp only [Rs.bind]; rw [if_pos rfl, h2 rfl]; rfl
  | false => rw [hp rfl]; rfl
theorem ev_orV {k l : Bool} (h1 : Ev f1 ps (.bool k) ps1) (h2 : k = false → Ev f2 ps1 (.bool l) ps2) (hp : k = true → ps2 = ps1) : Ev (fOrV f1 f2) ps (.bool (k || l)) ps2 := by
  have h0 := ev_test h1
  unfold Ev at *; unfold fOrV; rw [h0]; cases k with
  | false => dsimp only [Rs.bind]; rw [if_neg Bool.false_ne_true, h2 rfl]; rfl
  | true => rw [hp rfl]; rfl
theorem ev_notV {k : Bool} (h : Ev f ps (.bool k) ps1) : Ev (fNotV f) ps (.bool (!k)) ps1 := by
  have h0 := ev_test h
  unfold Ev at *; unfold fNotV; rw [h0]; rfl
theorem ev_ifT (h : Ev c ps true ps1) (h1 : Ev f1 ps1 d ps2) : Ev (fIf c f1 f2) ps d ps2 := by unfold Ev at *; unfold fIf; rw [h]; dsimp only [Rs.bind]; rw [if_pos rfl, h1]
theorem ev_ifF (h : Ev c ps false ps1) (h1 : Ev f2 ps1 d ps2) : Ev (fIf c f1 f2) ps d ps2 := by unfold Ev at *; unfold fIf; rw [h]; dsimp only [Rs.bind]; rw [if_neg Bool.false_ne_true, h1]
theorem ev_tup (h : Ev fa ps ds ps1) (hz : ds.length ≤ 1000 := by first | decide | (simp only [List.length_cons, List.length_nil]; omega)) : Ev (fTup fa) ps (.tuple ds) ps1 := by
  unfold Ev at *; unfold fTup; rw [h]; dsimp only [Rs.bind]; rw [if_pos (by rw [sizeLine_eq]; omega)]
theorem ev_lst (h : Ev fa ps ds ps1) (hz : ds.length ≤ 1000 := by first | decide | (simp only [List.length_cons, List.length_nil]; omega)) : Ev (fLst fa) ps (.own (.list ds)) ps1 := by
  unfold Ev at *; unfold fLst; rw [h]; dsimp only [Rs.bind]; rw [if_pos (by rw [sizeLine_eq]; omega)]
theorem ev_app {DA : List PyData → Option PyData} (h : Ev fa ps ds ps1) (hd : DA ds = some d) : Ev (fApp DA fa) ps d ps1 := by unfold Ev at *; unfold fApp; rw [h]; dsimp only [Rs.bind]; rw [hd]; rfl
theorem ev_appO {DA : List PyData → Option (List PyData)} {es : List PyData} (h : Ev fa ps ds ps1) (hd : DA ds = some es) : Ev (fAppO DA fa) ps (.own (.list es)) ps1 := by unfold Ev at *; unfold fAppO; rw [h]; dsimp only [Rs.bind]; rw [hd]
theorem ev_isi {DB : PyData → Option Bool} {k : Bool} (h : Ev f ps d ps1) (hd : DB d = some k) : Ev (fIsi DB f) ps (.bool k) ps1 := by unfold Ev at *; unfold fIsi; rw [h]; dsimp only [Rs.bind]; rw [hd]
theorem ev_call {M : List PyData → FR} (h : Ev fa ps ds ps1) (hM : M ds = .ok p) (hn : ds.length = n := by rfl) : Ev (fCall n M fa) ps p ps1 := by unfold Ev at *; unfold fCall; rw [h]; dsimp only [Rs.bind]; rw [if_pos hn, hM]; rfl
theorem ev_callU {M : List PyData → List PyData → FRU} {u u' u0 : List PyData} (h0 : ps[i]? = some (some (.own (.list u0)))) (h : Ev fa ps ds ps1) (h1 : ps1[i]? = some (some (.own (.list u)))) (hM : M u ds = .ok p u') (hn : ds.length = n := by rfl) :
    Ev (fCallU i n M fa) ps p (ps1.set i (some (.own (.list u')))) := by
  unfold Ev at *; unfold fCallU
  have : isOwn i ps = true := by unfold isOwn; rw [h0]
  rw [this]
  rw [if_neg (by decide), h]; dsimp only [Rs.bind]; rw [if_pos hn, h1]; dsimp only; rw [hM]
theorem ev_partN : Ev fNoPart ps none ps := rfl
theorem ev_partS {k : Int} (h : Ev f ps (.int k) ps1) : Ev (fSomePart f) ps (some k) ps1 := by unfold Ev at *; unfold fSomePart; rw [h]; rfl
theorem ev_slT {l h : PSt → Rs (Option Int)} {lo hi : Option Int} (h1 : Ev f ps (.tuple ds) ps1) (h2 : Ev l ps1 lo ps2) (h3 : Ev h ps2 hi ps3) : Ev (fSl f l h) ps (.val (.tuple (cutD ds lo hi))) ps3 := by
  unfold Ev at *; unfold fSl; rw [h1]; dsimp only [Rs.bind]; rw [h2]; dsimp only; rw [h3]
theorem ev_slL {l h : PSt → Rs (Option Int)} {lo hi : Option Int} (h1 : Ev f ps (.list ds) ps1) (h2 : Ev l ps1 lo ps2) (h3 : Ev h ps2 hi ps3) : Ev (fSl f l h) ps (.own (.list (cutD ds lo hi))) ps3 := by
  unfold Ev at *; unfold fSl; rw [h1]; dsimp only [Rs.bind]; rw [h2]; dsimp only; rw [h3]
theorem ev_chainT (h1 : Ev f1 ps a ps1) (h2 : Ev f2 ps1 b ps2) (hd : D a b = some (.bool true)) (h3 : Ev f3 ps2 e ps3) (hd' : D' b e = some d) : Ev (fChain D D' f1 f2 f3) ps d ps3 := by
  unfold Ev at *; unfold fChain; rw [h1]; dsimp only [Rs.bind]; rw [h2]; dsimp only; rw [hd]; dsimp only; rw [h3]; dsimp only; rw [hd']; rfl
theorem ev_chainF (h1 : Ev f1 ps a ps1) (h2 : Ev f2 ps1 b ps2) (hd : D a b = some (.bool false)) : Ev (fChain D D' f1 f2 f3) ps (.bool false) ps2 := by
  unfold Ev at *; unfold fChain; rw [h1]; dsimp only [Rs.bind]; rw [h2]; dsimp only; rw [hd]
theorem ev_orT1 (h : Ev fo1 ps p ps1) (ht : truL p = some true) : Ev (fOrT fo1 fo2) ps p ps1 := by unfold Ev at *; unfold fOrT; rw [h]; dsimp only [Rs.bind]; rw [ht]
theorem ev_orT2 (h : Ev fo1 ps p ps1) (ht : truL p = some false) (h2 : Ev fo2 ps1 q ps2) : Ev (fOrT fo1 fo2) ps q ps2 := by unfold Ev at *; unfold fOrT; rw [h]; dsimp only [Rs.bind]; rw [ht]; dsimp only; rw [h2]
theorem ev_meth {DM : List PyData → List PyData → Option (List PyData)} {as es es0 es' : List PyData} (h0 : ps[i]? = some (some (.own (.list es0)))) (h : Ev fa ps as ps1) (h1 : ps1[i]? = some (some (.own (.list es)))) (hd : DM es as = some es') : Ev (fMeth i DM fa) ps .none (ps1.set i (some (.own (.list es')))) := by
  unfold Ev at *; unfold fMeth
  have z : slotL i ps = some es0 := by unfold slotL; rw [h0]
  have z1 : slotL i ps1 = some es := by unfold slotL; rw [h1]
  rw [z]; dsimp only; rw [h]; dsimp only [Rs.bind]; rw [z1]; dsimp only; rw [hd]

/-! ### walked -/
theorem ev_seqI (h : Ev f ps d ps1) (hd : seqOf d = some ds) : Ev (fSeqI f) ps ds ps1 := by unfold Ev at *; unfold fSeqI; rw [h]; dsimp only [Rs.bind]; rw [hd]; rfl
theorem ev_range1 {k : Int} (h : Ev fa ps [.int k] ps1) (h1 : k < 2 ^ 62 ∧ -(2 ^ 62) ≤ k) : Ev (fRange1 fa) ps (rangeD 0 k.toNat) ps1 := by unfold Ev at *; unfold fRange1; rw [h]; dsimp only [Rs.bind]; rw [if_pos h1]
theorem ev_range2 {k l : Int} (h : Ev fa ps [.int k, .int l] ps1) (h1 : (l < 2 ^ 62 ∧ -(2 ^ 62) ≤ l) ∧ (k < 2 ^ 62 ∧ -(2 ^ 62) ≤ k)) : Ev (fRange2 fa) ps (rangeD k (l - k).toNat) ps1 := by unfold Ev at *; unfold fRange2; rw [h]; dsimp only [Rs.bind]; rw [if_pos h1]
theorem ev_enum (h : Ev fa ps [.list ds] ps1) : Ev (fEnum fa) ps (enumD ds) ps1 := by unfold Ev at *; unfold fEnum; rw [h]; rfl
theorem ev_zipL {es : List PyData} (h : Ev fa ps [.list ds, .list es] ps1) : Ev (fZip fa) ps (zipD ds es) ps1 := by unfold Ev at *; unfold fZip; rw [h]; rfl
theorem ev_zipT {es : List PyData} (h : Ev fa ps [.tuple ds, .tuple es] ps1) : Ev (fZip fa) ps (zipD ds es) ps1 := by unfold Ev at *; unfold fZip; rw [h]; rfl
/-! ### comprehensions -/
theorem ev_lc {fi : PSt → Rs (List PyData)} {u : PyData → PSt → Option PSt} {fe : PSt → Rs PyData} {vs : List Nat} {es : List PyData} {p1 : PSt} (hi : Ev fi ps ds ps1) (hc : compL u c fe vs ds (wipeP ps1 vs) [] = .ok es p1) : Ev (fLc fi u c fe vs) ps (.own (.list es)) (restP ps1 p1 vs) := by
  unfold Ev at *; unfold fLc; rw [hi]; dsimp only [Rs.bind]; rw [hc]; rfl
/-- one item, kept -/
theorem compL_cons {u : PyData → PSt → Option PSt} {fe : PSt → Rs PyData} {vs : List Nat} {acc : List PyData} {r : Rs (List PyData)} (hu : Et u d ps ps1) (hc : Ev c ps1 true ps2) (he : Ev fe ps2 e ps3) (hz : acc.length < 16777216) (h : compL u c fe vs ds (wipeP ps3 vs) (acc ++ [e]) = r) : compL u c fe vs (d :: ds) ps acc = r := by
  unfold Ev Et at *; unfold compL; rw [hu]; dsimp only; rw [hc]; dsimp only [Rs.bind]; rw [if_pos rfl, he]; dsimp only; rw [if_pos (by rw [sizeLine_eq]; exact hz), h]
theorem compL_skip {u : PyData → PSt → Option PSt} {fe : PSt → Rs PyData} {vs : List Nat} {acc : List PyData} {r : Rs (List PyData)} (hu : Et u d ps ps1) (hc : Ev c ps1 false ps2) (h : compL u c fe vs ds (wipeP ps2 vs) acc = r) : compL u c fe vs (d :: ds) ps acc = r := by
  unfold Ev Et at *; unfold compL; rw [hu]; dsimp only; rw [hc]; dsimp only [Rs.bind]; rw [if_neg Bool.false_ne_true, h]
/-- all items, the same state before and behind each -/
theorem compL_map {u : PyData → PSt → Option PSt} {fe : PSt → Rs PyData} {vs : List Nat} (h : PyData → PyData) : ∀ (ds acc : List PyData), acc.length + ds.length ≤ 16777216 → (∀ d ∈ ds, ∃ p1 p2 p3, Et u d ps p1 ∧ Ev c p1 true p2 ∧ Ev fe p2 (h d) p3 ∧ wipeP p3 vs = ps) → compL u c fe vs ds ps acc = .ok (acc ++ ds.map h) ps
  | [], acc, _, _ => by unfold compL; simp
  | d :: ds, acc, hz, hh => by
    obtain ⟨p1, p2, p3, h1, h2, h3, h4⟩ := hh d List.mem_cons_self
    simp only [List.length_cons] at hz
    refine compL_cons h1 h2 h3 (by omega) ?_
    rw [h4, compL_map h ds (acc ++ [h d]) (by simp; omega) fun d hd => hh d (List.mem_cons_of_mem _ hd)]
    simp
theorem ev_cYes : Ev cYes ps true ps := rfl
/-! ### targets -/
theorem et_N : Et (uN i) d ps (ps.set i (some (.val d))) := rfl
theorem ets_nil : Ets uNil [] ps ps := rfl
theorem ets_cons {u : PyData → PSt → Option PSt} {us : List PyData → PSt → Option PSt} (h : Et u d ps ps1) (t : Ets us ds ps1 ps2) : Ets (uCons u us) (d :: ds) ps ps2 := by unfold Et Ets at *; unfold uCons; dsimp only; rw [h]; exact t
theorem et_T {us : List PyData → PSt → Option PSt} (h : Ets us ds ps ps1) (hn : ds.length = n := by rfl) : Et (uTup n us) (.tuple ds) ps ps1 := by unfold Et Ets at *; unfold uTup; dsimp only; rw [if_pos hn, h]
theorem et_L {us : List PyData → PSt → Option PSt} (h : Ets us ds ps ps1) (hn : ds.length = n := by rfl) : Et (uTup n us) (.list ds) ps ps1 := by unfold Et Ets at *; unfold uTup; dsimp only; rw [if_pos hn, h]
/-! ### statements -/
theorem es_skip : Es fSkip ps (.nx ps) := rfl
theorem es_seq (h1 : Es g1 ps (.nx ps1)) (h2 : Es g2 ps1 o) : Es (fSeq g1 g2) ps o := by unfold Es at *; unfold fSeq; rw [h1]; exact h2
theorem es_seqR (h1 : Es g1 ps (.ret p ps1)) : Es (fSeq g1 g2) ps (.ret p ps1) := by unfold Es at *; unfold fSeq; rw [h1]
theorem es_seqX {x : Exn} (h1 : Es g1 ps (.exc x ps1)) : Es (fSeq g1 g2) ps (.exc x ps1) := by unfold Es at *; unfold fSeq; rw [h1]
theorem es_expr (h : Ev f ps d ps1) : Es (fExpr f) ps (.nx ps1) := by unfold Ev Es at *; unfold fExpr; rw [h]; rfl
theorem es_exprX {x : Exn} (h : f ps = .exc x ps1) : Es (fExpr f) ps (.exc x ps1) := by unfold Es at *; unfold fExpr; rw [h]; rfl
theorem es_ret (h : Ev fo ps p ps1) : Es (fRet fo) ps (.ret p ps1) := by unfold Ev Es at *; unfold fRet; rw [h]; rfl
theorem es_set (h : Ev fo ps p ps1) : Es (fSet i fo) ps (.nx (ps1.set i (some p))) := by unfold Ev Es at *; unfold fSet; rw [h]; rfl
theorem es_asg {u : PyData → PSt → Option PSt} (h : Ev f ps d ps1) (hu : Et u d ps1 ps2) : Es (fAsg u f) ps (.nx ps2) := by unfold Ev Et Es at *; unfold fAsg; rw [h]; dsimp only [Rs.st]; rw [hu]
theorem es_par (h1 : Ev fo1 ps p ps1) (h2 : Ev fo2 ps1 q ps2) : Es (fPar i j fo1 fo2) ps (.nx ((ps2.set i (some p)).set j (some q))) := by unfold Ev Es at *; unfold fPar; rw [h1]; dsimp only [Rs.st]; rw [h2]
theorem es_setIx {fi : PSt → Rs PyData} {k : Int} {es es0 : List PyData} (h : Ev f ps d ps1) (h0 : ps1[i]? = some (some (.own (.list es0)))) (hi : Ev fi ps1 (.int k) ps2) (h1 : ps2[i]? = some (some (.own (.list es)))) (hj : ixN es.length k = some j) : Es (fSetIx i fi f) ps (.nx (ps2.set i (some (.own (.list (es.set j d)))))) := by
  unfold Ev Es at *; unfold fSetIx
  have z : slotL i ps1 = some es0 := by unfold slotL; rw [h0]
  have z1 : slotL i ps2 = some es := by unfold slotL; rw [h1]
  rw [h]; dsimp only [Rs.st]; rw [z]; dsimp only; rw [hi]; dsimp only; rw [z1]; dsimp only; rw [hj]
theorem es_ifT (h : Ev c ps true ps1) (h1 : Es g1 ps1 o) : Es (fIfS c g1 g2) ps o := by unfold Ev Es at *; unfold fIfS; rw [h]; dsimp only [Rs.st]; rw [if_pos rfl, h1]
theorem es_ifF (h : Ev c ps false ps1) (h1 : Es g2 ps1 o) : Es (fIfS c g1 g2) ps o := by unfold Ev Es at *; unfold fIfS; rw [h]; dsimp only [Rs.st]; rw [if_neg Bool.false_ne_true, h1]
theorem es_for {fi : PSt → Rs (List PyData)} {u : PyData → PSt → Option PSt} (h : Ev fi ps ds ps1) (h1 : forL u g ds ps1 = o) : Es (fFor fi u g) ps o := by unfold Ev Es at *; unfold fFor; rw [h]; exact h1
theorem forL_nil {u : PyData → PSt → Option PSt} : forL u g [] ps = .nx ps := rfl
theorem forL_cons {u : PyData → PSt → Option PSt} (hu : Et u d ps ps1) (h : Es g ps1 (.nx ps2)) (h2 : forL u g ds ps2 = o) : forL u g (d :: ds) ps = o := by unfold Et Es at *; unfold forL; rw [hu]; dsimp only; rw [h]; exact h2
theorem forL_ret {u : PyData → PSt → Option PSt} (hu : Et u d ps ps1) (h : Es g ps1 (.ret p ps2)) : forL u g (d :: ds) ps = .ret p ps2 := by unfold Et Es at *; unfold forL; rw [hu]; dsimp only; rw [h]
theorem es_whileT (h : Ev c ps true ps1) (h1 : Es g ps1 (.nx ps2)) (h2 : Es (fWhile c g) ps2 o) : Es (fWhile c g) ps o := by unfold Ev Es at *; rw [fWhile_eq, h]; dsimp only [Rs.st]; rw [if_pos rfl, h1]; exact h2
theorem es_whileF (h : Ev c ps false ps1) : Es (fWhile c g) ps (.nx ps1) := by unfold Ev Es at *; rw [fWhile_eq, h]; rfl
theorem es_exc {x : Exn} : Es (fun ps => .exc x ps) ps (.exc x ps) := rfl
theorem es_try {L : List Str} {x : Str} (h : Es g ps (.ret p ps1)) : Es (fTry L x g g1) ps (.ret p ps1) := by unfold Es at *; unfold fTry; rw [h]
theorem es_tryX {L : List Str} {x : Str} {z : Exn} (h : Es g ps (.exc z ps1)) (hz : z.cls = x) (h1 : Es g1 ps1 (.ret p ps2)) : Es (fTry L x g g1) ps (.ret p ps2) := by unfold Es at *; unfold fTry; rw [h]; dsimp only; rw [if_pos hz, h1]; rfl
theorem ret_callX {M : List PyData → FR} {x : Exn} (h : Ev fa ps ds ps1) (hM : M ds = .exc x) (hn : ds.length = n := by rfl) : Es (fRet (fCall n M fa)) ps (.exc x ps1) := by unfold Ev Es at *; unfold fRet fCall; rw [h]; dsimp only [Rs.bind]; rw [if_pos hn, hM]; rfl
theorem exc_callX {M : List PyData → FR} {x : Exn} (h : Ev fa ps ds ps1) (hM : M ds = .exc x) (hn : ds.length = n := by rfl) : (fun ps => ((fCall n M fa) ps).map PV.data) ps = .exc x ps1 := by unfold Ev at *; dsimp only; unfold fCall; rw [h]; dsimp only [Rs.bind]; rw [if_pos hn, hM]; rfl
/-- a def's end -/
theorem fin_ret (h : Es g ps (.ret p ps1)) : (g ps).fin = .ok p := by unfold Es at h; rw [h]; rfl
theorem fin_nx (h : Es g ps (.nx ps1)) : (g ps).fin = .ok (.val .none) := by unfold Es at h; rw [h]; rfl
theorem fin_exc {x : Exn} (h : Es g ps (.exc x ps1)) : (g ps).fin = .exc x := by unfold Es at h; rw [h]; rfl
theorem finU_ret (h : Es g ps (.ret p ps1)) : (g ps).finU = .ok p (uAt ps1) := by unfold Es at h; rw [h]; rfl
end
/-! ### kinds -/
theorem isa_eq {t : String} {d : PyData} {b : Bool} (n : isDct d = false) (h : kitB (tyName d) t = some b) : isaD t d = some b := by unfold isaD; rw [n]; exact h
theorem isa2_eq {t t2 : String} {d : PyData} {a b : Bool} (h1 : isaD t d = some a) (h2 : isaD t2 d = some b) : isa2 t t2 d = some (a || b) := by unfold isa2; rw [h1, h2]
end GL

/-! GLl: what the operations on data give at shown values; steps -/
namespace GL
open PySem PySem.Spec L2
open PyProof.Rows hiding St
section
variable {f f1 f2 f3 : PSt → Rs PyData} {fo fo1 fo2 : PSt → Rs PV} {fa : PSt → Rs (List PyData)} {c c1 c2 : PSt → Rs Bool} {g g1 g2 : PSt → Os} {ps ps1 ps2 ps3 ps4 : PSt} {a b d e : PyData} {p q : PV} {ds es : List PyData} {i j n : Nat} {o : Os}
theorem es_seqS (h : Ev fo ps p ps1) (hs : ps1.set i (some p) = ps2) (h2 : Es g ps2 o) : Es (fSeq (fSet i fo) g) ps o := by subst hs; exact es_seq (es_set h) h2
theorem es_setS (h : Ev fo ps p ps1) (hs : ps1.set i (some p) = ps2) : Es (fSet i fo) ps (.nx ps2) := by subst hs; exact es_set h
theorem ev_MvS (h : ps[i]? = some (some p)) (hs : ps.set i none = ps1) : Ev (fMv i) ps p ps1 := by subst hs; exact ev_Mv h
theorem ev_NoS (h : ps[i]? = some (some (.own (.list ds)))) (hs : ps.set i (some (.val (.list ds))) = ps1) : Ev (fN i) ps (.list ds) ps1 := by subst hs; exact ev_No h
theorem et_NS (hs : ps.set i (some (.val d)) = ps1) : Et (uN i) d ps ps1 := by subst hs; exact et_N
theorem ev_lcS {fi : PSt → Rs (List PyData)} {u : PyData → PSt → Option PSt} {fe : PSt → Rs PyData} {vs : List Nat} {es : List PyData} {p0 p1 p2 : PSt} (hi : Ev fi ps ds ps1) (hw : wipeP ps1 vs = p0) (hc : compL u c fe vs ds p0 [] = .ok es p1) (hr : restP ps1 p1 vs = p2) : Ev (fLc fi u c fe vs) ps (.own (.list es)) p2 := by subst hw hr; exact ev_lc hi hc
theorem ev_andP {k l : Bool} (h1 : Ev c1 ps k ps) (h2 : Ev c2 ps l ps) : Ev (fAnd c1 c2) ps (k && l) ps := ev_and h1 (fun _ => h2) fun _ => rfl
theorem ev_orP {k l : Bool} (h1 : Ev c1 ps k ps) (h2 : Ev c2 ps l ps) : Ev (fOr c1 c2) ps (k || l) ps := ev_or h1 (fun _ => h2) fun _ => rfl
theorem ev_andVP {k l : Bool} (h1 : Ev f1 ps (.bool k) ps) (h2 : Ev f2 ps (.bool l) ps) : Ev (fAndV f1 f2) ps (.bool (k && l)) ps := ev_andV h1 (fun _ => h2) fun _ => rfl
theorem ev_orVP {k l : Bool} (h1 : Ev f1 ps (.bool k) ps) (h2 : Ev f2 ps (.bool l) ps) : Ev (fOrV f1 f2) ps (.bool (k || l)) ps := ev_orV h1 (fun _ => h2) fun _ => rfl
theorem ev_andF (h1 : Ev c1 ps false ps1) : Ev (fAnd c1 c2) ps false ps1 := by unfold Ev at *; unfold fAnd; rw [h1]; rfl
theorem ev_orF (h1 : Ev c1 ps true ps1) : Ev (fOr c1 c2) ps true ps1 := by unfold Ev at *; unfold fOr; rw [h1]; rfl
theorem ev_andVF (h1 : Ev f1 ps (.bool false) ps1) : Ev (fAndV f1 f2) ps (.bool false) ps1 := by have h0 := ev_test h1; unfold Ev at *; unfold fAndV; rw [h0]; rfl
theorem ev_orVF (h1 : Ev f1 ps (.bool true) ps1) : Ev (fOrV f1 f2) ps (.bool true) ps1 := by have h0 := ev_test h1; unfold Ev at *; unfold fOrV; rw [h0]; rfl
theorem ev_to {α : Type} {f : PSt → Rs α} {a b : α} {ps ps1 ps2 : PSt} (h : Ev f ps a ps1) (ha : a = b) (hp : ps1 = ps2) : Ev f ps b ps2 := by subst ha hp; exact h
theorem es_to {o1 : Os} (h : Es g ps o1) (ho : o1 = o) : Es g ps o := by subst ho; exact h
theorem fin_cv {M : FR} {p q : PV} (h : M = .ok p) (e : p = q) : M = .ok q := by subst e; exact h
end
theorem ev_dataE {f : PSt → Rs PV} {ps ps1 : PSt} {p : PV} {d : PyData} (h : Ev f ps p ps1) (e : p.data = d) : Ev (fun ps => (f ps).map PV.data) ps d ps1 := by subst e; exact ev_data h
theorem ev_notE {c : PSt → Rs Bool} {ps ps1 : PSt} {k l : Bool} (h : Ev c ps k ps1) (e : (!k) = l) : Ev (fNot c) ps l ps1 := by subst e; exact ev_not h
theorem ev_notVE {f : PSt → Rs PyData} {ps ps1 : PSt} {k l : Bool} (h : Ev f ps (.bool k) ps1) (e : (!k) = l) : Ev (fNotV f) ps (.bool l) ps1 := by subst e; exact ev_notV h
section
variable {f f1 f2 f3 : PSt → Rs PyData} {fo fo1 fo2 : PSt → Rs PV} {fa : PSt → Rs (List PyData)} {c c1 c2 : PSt → Rs Bool} {g g1 g2 : PSt → Os} {ps ps1 ps2 ps3 ps4 : PSt} {a b d e : PyData} {p q : PV} {ds es : List PyData} {i j n : Nat} {o : Os}
theorem es_seqA {u : PyData → PSt → Option PSt} (h : Ev f ps d ps1) (hu : Et u d ps1 ps2) (h2 : Es g2 ps2 o) : Es (fSeq (fAsg u f) g2) ps o := es_seq (es_asg h hu) h2
theorem es_seqE (h : Ev f ps d ps1) (h2 : Es g2 ps1 o) : Es (fSeq (fExpr f) g2) ps o := es_seq (es_expr h) h2
theorem ev_tupE (h : Ev fa ps ds ps1) (hz : ds.length ≤ 1000) : Ev (fTup fa) ps (.tuple ds) ps1 := ev_tup h hz
theorem ev_lstE (h : Ev fa ps ds ps1) (hz : ds.length ≤ 1000) : Ev (fLst fa) ps (.own (.list ds)) ps1 := ev_lst h hz
theorem ev_callE {M : List PyData → FR} (h : Ev fa ps ds ps1) (hn : ds.length = n) (hM : M ds = .ok p) : Ev (fCall n M fa) ps p ps1 := ev_call h hM hn
theorem ev_callUE {M : List PyData → List PyData → FRU} {u u' u0 : List PyData} (h0 : ps[i]? = some (some (.own (.list u0)))) (h : Ev fa ps ds ps1) (h1 : ps1[i]? = some (some (.own (.list u)))) (hn : ds.length = n) (hM : M u ds = .ok p u') (hs : ps1.set i (some (.own (.list u'))) = ps2) : Ev (fCallU i n M fa) ps p ps2 := by subst hs; exact ev_callU h0 h h1 hM hn
theorem et_TE {us : List PyData → PSt → Option PSt} (hn : ds.length = n) (h : Ets us ds ps ps1) : Et (uTup n us) (.tuple ds) ps ps1 := et_T h hn
theorem et_LE {us : List PyData → PSt → Option PSt} (hn : ds.length = n) (h : Ets us ds ps ps1) : Et (uTup n us) (.list ds) ps ps1 := et_L h hn
end
/-! ### data -/
section
variable {i j : Int} {xs ys : List PyData} {x y : Str} {a b : Bool}
theorem dAdd_i : dAdd (.int i) (.int j) = some (.int (i + j)) := rfl
theorem dSub_i : dSub (.int i) (.int j) = some (.int (i - j)) := rfl
theorem dMul_i (h : (-(2 ^ 64) < i ∧ i < 2 ^ 64) ∨ (-(2 ^ 64) < j ∧ j < 2 ^ 64)) : dMul (.int i) (.int j) = some (.int (i * j)) := if_pos h
theorem dMod_i (h : 0 < j) : dMod (.int i) (.int j) = some (.int (i % j)) := if_pos h
theorem dFdiv_i (h : 0 < j ∧ j < 1073741824) : dFdiv (.int i) (.int j) = some (.int (i / j)) := if_pos h
theorem dAdd_t (h : xs.length + ys.length ≤ 16777216) : dAdd (.tuple xs) (.tuple ys) = some (.tuple (xs ++ ys)) := by unfold dAdd; dsimp only; rw [sizeLine_eq, if_pos h]
theorem dLt_i : dLt (.int i) (.int j) = some (.bool (decide (i < j))) := rfl
theorem dGt_i : dGt (.int i) (.int j) = some (.bool (decide (j < i))) := rfl
theorem dLe_i : dLe (.int i) (.int j) = some (.bool (decide (i ≤ j))) := rfl
theorem dGe_i : dGe (.int i) (.int j) = some (.bool (decide (j ≤ i))) := rfl
theorem sh_int : SeqAt.shaped (.int i) = true := by unfold SeqAt.shaped; simp [PyData.canLay0, PyData.depth]
theorem sh_bool : SeqAt.shaped (.bool a) = true := by unfold SeqAt.shaped; simp [PyData.canLay0, PyData.depth]
theorem sh_none : SeqAt.shaped .none = true := by unfold SeqAt.shaped; simp [PyData.canLay0, PyData.depth]
theorem canAll_ints : ∀ l : List Int, PyData.canLayAll0 (l.map PyData.int) = true
  | [] => rfl
  | _ :: l => by simp only [List.map_cons, PyData.canLayAll0, canAll_ints l]; rfl
theorem depth_ints : ∀ l : List Int, PyData.depthAll (l.map PyData.int) = 0
  | [] => rfl
  | _ :: l => by simp only [List.map_cons, PyData.depthAll, depth_ints l]; rfl
theorem eqvAll_ints : ∀ l m : List Int, PyData.eqvAll (l.map PyData.int) (m.map PyData.int) = decide (l = m)
  | [], [] => by simp [PyData.eqvAll]
  | [], _ :: _ => by simp [PyData.eqvAll]
  | _ :: _, [] => by simp [PyData.eqvAll]
  | a :: l, b :: m => by
    simp only [List.map_cons, PyData.eqvAll, eqvAll_ints l m, PyData.eqv, List.cons.injEq, Bool.decide_and]
    rfl
theorem eqv_int : PyData.eqv (.int i) (.int j) = decide (i = j) := by simp [PyData.eqv]; rfl
theorem eqv_bool : PyData.eqv (.bool a) (.bool b) = decide (a = b) := by cases a <;> cases b <;> rfl
theorem dEq_i : dEq (.int i) (.int j) = some (.bool (decide (i = j))) := by unfold dEq; rw [if_pos ⟨sh_int, sh_int⟩, eqv_int]
theorem dNe_i : dNe (.int i) (.int j) = some (.bool (!decide (i = j))) := by unfold dNe; rw [if_pos ⟨sh_int, sh_int⟩, eqv_int]
theorem dEq_b : dEq (.bool a) (.bool b) = some (.bool (decide (a = b))) := by unfold dEq; rw [if_pos ⟨sh_bool, sh_bool⟩, eqv_bool]
theorem dNe_b : dNe (.bool a) (.bool b) = some (.bool (!decide (a = b))) := by unfold dNe; rw [if_pos ⟨sh_bool, sh_bool⟩, eqv_bool]
theorem dLen_l : dLen [.list xs] = some (.int xs.length) := rfl
theorem dLen_t : dLen [.tuple xs] = some (.int xs.length) := rfl
theorem dAbs_i : dAbs [.int i] = some (.int (if i < 0 then -i else i)) := rfl
theorem dInt_i : dInt [.int i] = some (.int i) := rfl
theorem dInt_b : dInt [.bool a] = some (.int (if a then 1 else 0)) := rfl
theorem dTuple_l : dTuple [.list xs] = some (.tuple xs) := rfl
theorem dTuple_t : dTuple [.tuple xs] = some (.tuple xs) := rfl
theorem dList_l : dList [.list xs] = some xs := rfl
theorem dList_t : dList [.tuple xs] = some xs := rfl
theorem dMin2_i : dMin2 [.int i, .int j] = some (.int (if j < i then j else i)) := rfl
theorem dMax2_i : dMax2 [.int i, .int j] = some (.int (if j > i then j else i)) := rfl
theorem boolsOf_map : ∀ l : List Bool, boolsOf (l.map PyData.bool) = some l
  | [] => rfl
  | b :: l => by simp only [List.map_cons, boolsOf, boolsOf_map l]; rfl
theorem dAll_bs {l : List Bool} (h : xs = l.map PyData.bool) : dAll [.list xs] = some (.bool (l.all id)) := by subst h; unfold dAll; dsimp only; rw [boolsOf_map]; rfl
theorem dAny_bs {l : List Bool} (h : xs = l.map PyData.bool) : dAny [.list xs] = some (.bool (l.any id)) := by subst h; unfold dAny; dsimp only; rw [boolsOf_map]; rfl
theorem dAll_true (h : ∀ d ∈ xs, d = .bool true) : dAll [.list xs] = some (.bool true) := by
  have e : xs = (List.replicate xs.length true).map PyData.bool := by
    rw [List.map_replicate]; exact List.eq_replicate_iff.mpr ⟨rfl, h⟩
  rw [dAll_bs e]; congr 2; exact List.all_eq_true.mpr fun b hb => by rw [(List.mem_replicate.mp hb).2]; rfl
theorem dIx_t {n : Nat} {d : PyData} (h : xs[n]? = some d) : dIx (.tuple xs) (.int n) = some d := by
  have hn : n < xs.length := (List.getElem?_eq_some_iff.mp h).1
  unfold dIx; dsimp only; unfold L2.atI
  have : ixN xs.length (n : Int) = some n := by
    unfold ixN; simp; omega
  rw [this]; exact h
theorem dIx_l {n : Nat} {d : PyData} (h : xs[n]? = some d) : dIx (.list xs) (.int n) = some d := by
  have hn : n < xs.length := (List.getElem?_eq_some_iff.mp h).1
  unfold dIx; dsimp only; unfold L2.atI
  have : ixN xs.length (n : Int) = some n := by
    unfold ixN; simp; omega
  rw [this]; exact h
theorem cutD_from {n : Nat} (h : n ≤ xs.length) : cutD xs (some (n : Int)) none = xs.drop n := by
  unfold cutD; rw [HT.sIx_nat, HT.sIx_none, Nat.min_eq_left h]
  exact List.take_of_length_le (by simp)
theorem cutD_to {n : Nat} : cutD xs none (some (n : Int)) = xs.take n := by
  unfold cutD; rw [HT.sIx_nat, HT.sIx_none]; simp
theorem dAdd_iE {k : Int} (h : (i + j) = k) : dAdd (.int i) (.int j) = some (.int k) := by subst h; exact dAdd_i
theorem dSub_iE {k : Int} (h : (i - j) = k) : dSub (.int i) (.int j) = some (.int k) := by subst h; exact dSub_i
theorem dLt_iE {k : Bool} (h : (decide (i < j)) = k) : dLt (.int i) (.int j) = some (.bool k) := by subst h; exact dLt_i
theorem dGt_iE {k : Bool} (h : (decide (j < i)) = k) : dGt (.int i) (.int j) = some (.bool k) := by subst h; exact dGt_i
theorem dLe_iE {k : Bool} (h : (decide (i ≤ j)) = k) : dLe (.int i) (.int j) = some (.bool k) := by subst h; exact dLe_i
theorem dGe_iE {k : Bool} (h : (decide (j ≤ i)) = k) : dGe (.int i) (.int j) = some (.bool k) := by subst h; exact dGe_i
theorem dEq_iE {k : Bool} (h : (decide (i = j)) = k) : dEq (.int i) (.int j) = some (.bool k) := by subst h; exact dEq_i
theorem dNe_iE {k : Bool} (h : (!decide (i = j)) = k) : dNe (.int i) (.int j) = some (.bool k) := by subst h; exact dNe_i
theorem dEq_bE {k : Bool} (h : (decide (a = b)) = k) : dEq (.bool a) (.bool b) = some (.bool k) := by subst h; exact dEq_b
theorem dNe_bE {k : Bool} (h : (!decide (a = b)) = k) : dNe (.bool a) (.bool b) = some (.bool k) := by subst h; exact dNe_b
theorem dMul_iE {k : Int} (h : (-(2 ^ 64) < i ∧ i < 2 ^ 64) ∨ (-(2 ^ 64) < j ∧ j < 2 ^ 64)) (e : i * j = k) : dMul (.int i) (.int j) = some (.int k) := by subst e; exact dMul_i h
theorem dMod_iE {k : Int} (h : 0 < j) (e : i % j = k) : dMod (.int i) (.int j) = some (.int k) := by subst e; exact dMod_i h
theorem dFdiv_iE {k : Int} (h : 0 < j ∧ j < 1073741824) (e : i / j = k) : dFdiv (.int i) (.int j) = some (.int k) := by subst e; exact dFdiv_i h
theorem dLen_lE {k : Int} (h : (xs.length : Int) = k) : dLen [.list xs] = some (.int k) := by subst h; rfl
theorem dLen_tE {k : Int} (h : (xs.length : Int) = k) : dLen [.tuple xs] = some (.int k) := by subst h; rfl
theorem look_val {i : Nat} {ps : PSt} {d : PyData} (h : ps[i]? = some (some (.val d))) : look i ps = some d := by unfold look; rw [h]; rfl
theorem look_own {i : Nat} {ps : PSt} {d : PyData} (h : ps[i]? = some (some (.own d))) : look i ps = some d := by unfold look; rw [h]; rfl
theorem data_val {d : PyData} : (PV.val d).data = d := rfl
theorem data_own {d : PyData} : (PV.own d).data = d := rfl
theorem compL_map0 {c : PSt → Rs Bool} {ps : PSt} {u : PyData → PSt → Option PSt} {fe : PSt → Rs PyData} {vs : List Nat} (h : PyData → PyData) (ds : List PyData) (hl : ds.length ≤ 16777216) (hh : ∀ d ∈ ds, ∃ p1 p2 p3, Et u d ps p1 ∧ Ev c p1 true p2 ∧ Ev fe p2 (h d) p3 ∧ wipeP p3 vs = ps) : compL u c fe vs ds ps [] = .ok (ds.map h) ps := by
  have := compL_map h ds [] (by simpa using hl) hh
  simpa using this
theorem ev_KE {d : PyData} {ps ps1 : PSt} (hp : ps = ps1) : Ev (fK d) ps d ps1 := by subst hp; exact ev_K
theorem ev_nilE {ps ps1 : PSt} (hp : ps = ps1) : Ev (fun ps => (.ok [] ps : Rs (List PyData))) ps [] ps1 := by subst hp; exact ev_nil
theorem ev_NE {d : PyData} {i : Nat} {ps ps1 : PSt} (h : ps[i]? = some (some (.val d))) (hp : ps = ps1) : Ev (fN i) ps d ps1 := by subst hp; exact ev_N h
theorem fin_retE {g : PSt → Os} {ps ps1 : PSt} {p q : PV} (h : Es g ps (.ret p ps1)) (e : p = q) : (g ps).fin = .ok q := by subst e; exact fin_ret h
theorem finU_retE {g : PSt → Os} {ps ps1 : PSt} {p q : PV} {u : List PyData} (h : Es g ps (.ret p ps1)) (e : p = q) (eu : uAt ps1 = u) : (g ps).finU = .ok q u := by subst e eu; exact finU_ret h
theorem dIx_t0 {xs : List PyData} {d : PyData} (h : xs[0]? = some d) : dIx (.tuple xs) (.int 0) = some d := dIx_t (n := 0) h
theorem dIx_l0 {xs : List PyData} {d : PyData} (h : xs[0]? = some d) : dIx (.list xs) (.int 0) = some d := dIx_l (n := 0) h
end
end GL

/-! GSa: sets whose items are tuples of any kind of key, fewer than 64 (the probing of tables is HandS.TupSets's) -/
namespace GS
open PySem PySem.Spec PyProof.Rows L2
/-- a kind of key that stands in a set: asking shows nothing, its hash is that of its value alone -/
structure SK (P : Program) (w : World) (K : Type) [DecidableEq K] where
  kd : HeapKind P w K
  cls : ∀ {A : Around} {E : Value → Shared → Prop} {s : Shared} {k : K} {b : Addr} {Q : Bool → Shared → Prop}, kd.is s.heap k b → Q false s → wpAny (model P w) A (ofAClassStatement 8 (.ref b)) Q E s
  byv : ∀ {A : Around} {E : Value → Shared → Prop} {s : Shared} {k : K} {b : Addr} {Q : Bool → Shared → Prop}, kd.is s.heap k b → Q true s → wpAny (model P w) A (hashByValue 8 (.ref b)) Q E s
  keep : ∀ {h h' : Heap} {k : K} {b : Addr}, kd.is h k b → (∀ c o vs n, h.get? c = some o → o.data = .seq vs n → h'.get? c = some o) → kd.is h' k b
section
variable {P : Program} {w : World} {K : Type} [DecidableEq K] (G : SK P w K)
variable {A : Around} {E : Value → Shared → Prop} {s : Shared}
abbrev SK.hs (k : K) : Int := G.kd.hash k
/-- where the search for the hash h stands at its c-th step -/
abbrev at0 (m : Nat) (h : Int) : SetTable.Probe := runAt m (SetTable.bits h % (m + 1)) (SetTable.bits h)
theorem way_eq (m : Nat) (h : Int) (c : Nat) : way m h c = (nth m (at0 m h) c).j := rfl
theorem nth_dummy (m : Nat) : ∀ (n : Nat) (p : SetTable.Probe), p.dummy = none → (nth m p n).dummy = none
  | 0, _, h => h
  | n + 1, p, h => by
    refine nth_dummy m n (adv m p) ?_
    unfold adv; split <;> exact h
include G in
theorem seen_none {k : K} {b : Addr} {Q : Bool → Shared → Prop} (hb : G.kd.is s.heap k b) (h : Q false s) : ∀ {ys : List Value}, (∀ y ∈ ys, ∃ j c, y = Value.ref c ∧ G.kd.is s.heap j c) → wpAny (model P w) A (searchCouldBeSeen (.ref b) ys) Q E s := by
  intro ys hy
  unfold searchCouldBeSeen
  refine wpAny_bind (wpAny_forIn_list _ (fun l (r : Option Bool × Unit) z => r.1 = none ∧ z = s ∧ ∀ y ∈ l, ∃ j c, y = Value.ref c ∧ G.kd.is s.heap j c) _ ?_ ?_ _ _ ⟨rfl, rfl, hy⟩)
  · rintro y l r z ⟨_, rfl, q⟩
    obtain ⟨j, c, rfl, hc⟩ := q y List.mem_cons_self
    have q' := fun u (hu : u ∈ l) => q u (List.mem_cons_of_mem _ hu)
    dsimp only
    by_cases e : (b == c || (carriedByValue (.ref b) && carriedByValue (.ref c))) = true
    · exact wp_if_pos e (wpAny_pure ⟨rfl, rfl, q'⟩)
    · refine wp_if_neg e (wpAny_bind (G.kd.quiet hb ?_))
      simp only [Bool.not_true, Bool.false_eq_true, if_false]
      refine wpAny_bind (G.kd.quiet hc ?_)
      simp only [Bool.not_true, Bool.false_eq_true, if_false]
      refine wpAny_bind (G.cls hb ?_)
      simp only [Bool.false_eq_true, if_false]
      refine wpAny_bind (G.cls hc ?_)
      simp only [Bool.false_eq_true, if_false]
      exact wpAny_pure ⟨rfl, rfl, q'⟩
  · rintro ⟨r1, r2⟩ z ⟨e, rfl, _⟩
    simp only at e
    subst e
    exact wpAny_pure h
/-- the rows of a set with the items L -/
def rws (L : List (Addr × K)) : List (Int × Value) := L.map fun p => (G.kd.hash p.2, .ref p.1)
/-- the set at a, with the items L -/
structure Tb (h : Heap) (a : Addr) (L : List (Addr × K)) (es : Array (Int × Value)) (ep : Nat) (t : SetTable) : Prop where
  obj : ∃ o, h.get? a = some o ∧ o.ExactSet ∧ o.data = .set es ep t
  rw : es.toList = rws G L
  tb : TabOk t (L.map fun p => G.kd.hash p.2)
  dis : (L.map (·.2)).Nodup
  its : ∀ p ∈ L, G.kd.is h p.2 p.1
  pl : t.plain = true
  ld : w.params.followText "set-order" = true ∨ t.led = true
  rm : L.length * 5 < t.mask * 3
  fw : L.length < 64
variable {G} {a : Addr} {L : List (Addr × K)} {es : Array (Int × Value)} {ep : Nat} {t : SetTable}
theorem rws_len (L : List (Addr × K)) : (rws G L).length = L.length := List.length_map ..
theorem Tb.size (T : Tb G s.heap a L es ep t) : es.size = L.length := by rw [← rws_len (G := G), ← T.rw, Array.length_toList]
theorem Tb.psz (T : Tb G s.heap a L es ep t) : t.place.toList.length = L.length := by have := T.tb.sz; rw [List.length_map] at this; rw [Array.length_toList, this]
theorem Tb.fit (T : Tb G s.heap a L es ep t) : t.fits es.size = true := by
  have p := T.psz
  rw [Array.length_toList] at p
  have q := T.size; have r := T.rm
  unfold SetTable.fits SetTable.fill
  rw [T.tb.dm]
  simp
  omega
theorem Tb.get (T : Tb G s.heap a L es ep t) {i : Nat} {p : Addr × K} (h : L[i]? = some p) : es[i]? = some (G.kd.hash p.2, .ref p.1) := by
  rw [← Array.getElem?_toList, T.rw, rws, List.getElem?_map, h]; rfl
theorem Tb.gone (T : Tb G s.heap a L es ep t) : ¬ t.gaveWay = true := by
  unfold SetTable.gaveWay; rw [mask_odd T.tb.mok]; decide
/-- the search for k, from the c-th step of its way on: all that stands before the first empty slot is asked -/
theorem look_from (T : Tb G s.heap a L es ep t) {k : K} {x : Addr} (hx : G.kd.is s.heap k x) (hr : G.kd.room A) {n : Nat} {Q : SetFound → Shared → Prop}
    (hn : n < 10 * SetTable.turns t.mask) (he : (nth t.mask (at0 t.mask (G.kd.hash k)) n).j ∉ t.place.toList) (hf : ∀ c, c < n → (nth t.mask (at0 t.mask (G.kd.hash k)) c).j ∈ t.place.toList)
    (yes : k ∈ L.map (·.2) → Q (.there none) s) (no : k ∉ L.map (·.2) → Q (.free (nth t.mask (at0 t.mask (G.kd.hash k)) n).j false) s) :
    ∀ (u c : Nat) (o : Option SetTable.Probe), o.getD (t.probeStart (G.kd.hash k)) = nth t.mask (at0 t.mask (G.kd.hash k)) c → c ≤ n → n - c < u →
      (∀ (i : Nat) (p : Addr × K), L[i]? = some p → p.2 = k → ∃ d, (c ≤ d ∧ d < n) ∧ t.place.toList[i]? = some (nth t.mask (at0 t.mask (G.kd.hash k)) d).j) →
      wpAny (model P w) A (setSearchFrom a (.ref x) (G.kd.hash k) true u o) Q E s := by
  intro u
  induction u with
  | zero => intro c o _ _ h; omega
  | succ u ih =>
    intro c o ho hc hu ahead
    obtain ⟨ob, g1, g2, g3⟩ := T.obj
    have fit := T.fit
    -- the way from here
    have q0 : (nth t.mask (at0 t.mask (G.kd.hash k)) c).dummy = none := nth_dummy _ _ _ rfl
    have on : ∀ e, nth t.mask (nth t.mask (at0 t.mask (G.kd.hash k)) c) e = nth t.mask (at0 t.mask (G.kd.hash k)) (c + e) := fun e => (nth_add _ c _ e).symm
    have hash_at : ∀ (i : Nat) (p : Addr × K), L[i]? = some p → ((es[i]?.map (·.1)).getD 0) = G.kd.hash p.2 := fun i p h => by rw [T.get h]; rfl
    have met := go_spec t T.tb.ris T.tb.dm (fun i => (es[i]?.map (·.1)).getD 0) (G.kd.hash k) (10 * SetTable.turns t.mask) (n - c) _ q0 (by omega) (fun e h => by rw [on]; exact hf _ (by omega)) (by rw [on, show c + (n - c) = n by omega]; exact he)
    rw [setSearchFrom_succ]
    refine wpAny_bind (wpAny_setState_of g1 g3 fit ?_)
    dsimp only
    refine wp_if_neg T.gone ?_
    try refine wpAny_bind (wpAny_pure ?_)
    rcases met with ⟨e, i, h1, h2, _, h4, h5⟩ | ⟨h4, h5⟩
    · rw [on] at h2
      rw [on, on] at h5
      have hp : t.probe (fun i => (es[i]?.map (·.1)).getD 0) (G.kd.hash k) (o.getD (t.probeStart (G.kd.hash k))) = some (.candidate (nth t.mask (at0 t.mask (G.kd.hash k)) (c + e)).j i (nth t.mask (at0 t.mask (G.kd.hash k)) (c + (e + 1)))) := by rw [ho]; exact h5
      rw [hp]
      dsimp only
      have il : i < L.length := by have := (List.getElem?_eq_some_iff.mp h2).1; rw [T.psz] at this; exact this
      obtain ⟨p, hip⟩ : ∃ p, L[i]? = some p := ⟨_, List.getElem?_eq_getElem il⟩
      have pin : p ∈ L := List.mem_of_getElem? hip
      have live := slot_live T.tb.ris h2
      have body : wpAny (model P w) A (searchRest a (.ref x) (G.kd.hash k) true u es t (nth t.mask (at0 t.mask (G.kd.hash k)) (c + e)).j i (nth t.mask (at0 t.mask (G.kd.hash k)) (c + (e + 1)))) Q E s := by
        unfold searchRest
        rw [T.get hip]
        dsimp only
        refine wpAny_bind (wpAny_holding (G.kd.eqBool hr (T.its p pin) hx (wpAny_bind (wpAny_setState_of g1 g3 fit ?_))))
        dsimp only
        rcases Classical.em (p.2 = k) with z | z
        · exact wp_if_pos (by simp [z]) (wpAny_pure (yes (List.mem_map.mpr ⟨p, pin, z⟩)))
        · refine wp_if_neg (by simp [z]) ?_
          try refine wpAny_bind (wpAny_pure ?_)
          rw [sameMem]
          dsimp only
          simp only [if_true, live, T.get hip]
          refine wpAny_bind (wpAny_isSame_ref_self (wpAny_bind (wpAny_pure ?_)))
          simp only [if_true]
          refine wp_if_neg (by simp [z]) (ih (c + (e + 1)) _ rfl (by omega) (by omega) fun i' p' a1 a2 => ?_)
          obtain ⟨d, ⟨b1, b2⟩, b3⟩ := ahead i' p' a1 a2
          refine ⟨d, ⟨?_, b2⟩, b3⟩
          rcases Nat.lt_trichotomy d (c + e) with y | y | y
          · exact absurd ((hash_at i' p' a1).trans (congrArg G.kd.hash a2)) (h4 (d - c) i' (by omega) (by rw [on, show c + (d - c) = d by omega]; exact b3))
          · rw [y] at b3
            have l2 := slot_live T.tb.ris b3
            rw [live] at l2
            injection l2 with l2
            rw [← l2, hip] at a1
            cases a1
            exact absurd a2 z
          · omega
      cases hl : t.led with
      | true =>
        refine wp_if_neg (by simp) ?_
        try refine wpAny_bind (wpAny_pure ?_)
        exact body
      | false =>
        refine wp_if_pos (by simp) (wpAny_bind (seen_none G hx ?_ fun y hy => ?_))
        · refine wp_if_neg (by decide) ?_
          try refine wpAny_bind (wpAny_pure ?_)
          exact body
        · obtain ⟨r, hr1, hr2⟩ := List.mem_map.mp hy
          have m1 : r ∈ es.toList := by
            have : r ∈ es ∧ r.1 = G.kd.hash k := by simpa using hr1
            simpa using this.1
          rw [T.rw] at m1
          obtain ⟨p', m2, m3⟩ := List.mem_map.mp m1
          exact ⟨p'.2, p'.1, by rw [← hr2, ← m3], T.its p' m2⟩
    · rw [on, show c + (n - c) = n by omega] at h5
      have hp : t.probe (fun i => (es[i]?.map (·.1)).getD 0) (G.kd.hash k) (o.getD (t.probeStart (G.kd.hash k))) = some (.empty (nth t.mask (at0 t.mask (G.kd.hash k)) n).j none) := by rw [ho]; exact h5
      rw [hp]
      dsimp only
      refine wpAny_pure (no fun hm => ?_)
      obtain ⟨p, pin, e⟩ := List.mem_map.mp hm
      obtain ⟨i, il, ei⟩ := List.getElem_of_mem pin
      have hi : L[i]? = some p := by rw [List.getElem?_eq_getElem il, ei]
      obtain ⟨d, ⟨b1, b2⟩, b3⟩ := ahead i p hi e
      exact h4 (d - c) i (by omega) (by rw [on, show c + (d - c) = d by omega]; exact b3) ((hash_at i p hi).trans (congrArg G.kd.hash e))
/-- the search when an item is put in -/
theorem look_at (T : Tb G s.heap a L es ep t) {k : K} {x : Addr} (hx : G.kd.is s.heap k x) (hr : G.kd.room A) {Q : SetFound → Shared → Prop} (yes : k ∈ L.map (·.2) → Q (.there none) s)
    (no : ∀ n, k ∉ L.map (·.2) → way t.mask (G.kd.hash k) n ∉ t.place.toList → (∀ c, c < n → way t.mask (G.kd.hash k) c ∈ t.place.toList) → Q (.free (way t.mask (G.kd.hash k) n) false) s) :
    wpAny (model P w) A (setSearch a (.ref x) (G.kd.hash k) true) Q E s := by
  have rm := T.rm
  obtain ⟨n, n1, n2, n3⟩ := T.tb.first (by rw [List.length_map]; omega) (G.kd.hash k)
  have big : 10 * SetTable.turns t.mask < 100000 := by
    unfold SetTable.turns
    rcases T.tb.mok with e | e | e <;> rw [e] <;> decide
  unfold setSearch
  refine look_from T hx hr n1 n2 n3 yes (fun z => no n z n2 n3) 100000 0 none rfl (Nat.zero_le _) (by omega) fun i p hi e => ?_
  have il : i < t.place.toList.length := by rw [T.psz]; exact (List.getElem?_eq_some_iff.mp hi).1
  obtain ⟨d, d1, d2⟩ := T.tb.before n2 (i := i) (h := G.kd.hash k) (by rw [List.getElem?_map, hi, ← e]; rfl) (List.getElem?_eq_getElem il)
  exact ⟨d, ⟨Nat.zero_le _, d1⟩, by rw [List.getElem?_eq_getElem il, ← d2]⟩
end
end GS

/-! GSb: an item put into the set; set(list) -/
namespace GS
open PySem PySem.Spec PyProof.Rows L2
section
variable {P : Program} {w : World} {K : Type} [DecidableEq K] {G : SK P w K}
variable {A : Around} {E : Value → Shared → Prop} {s : Shared}
variable {a : Addr} {L : List (Addr × K)} {es : Array (Int × Value)} {ep : Nat} {t : SetTable}
theorem fm_map {α β : Type} (f : α → β) (l : List α) (o : List Nat) : o.filterMap (fun i => (l.map f)[i]?) = (o.filterMap fun i => l[i]?).map f := by
  rw [List.map_filterMap]
  congr 1; funext i; rw [List.getElem?_map]
theorem fm_get {α : Type} (l : List α) (d : α) : ∀ (o : List Nat), (∀ i ∈ o, i < l.length) → o.filterMap (fun i => l[i]?) = o.map fun i => l.getD i d
  | [], _ => rfl
  | i :: o, h => by
    have hi := h i List.mem_cons_self
    rw [List.filterMap_cons_some (List.getElem?_eq_getElem hi), List.map_cons, fm_get l d o fun j hj => h j (List.mem_cons_of_mem _ hj)]
    simp [List.getD_eq_getElem?_getD, List.getElem?_eq_getElem hi]
/-- the rows of L in another order -/
theorem relist (o : Array Nat) (hr : es.toList = rws G L) (hp : o.toList.Perm (List.range L.length)) : ∃ M : List (Addr × K), M.Perm L ∧ (o.filterMap (es[·]?)).toList = rws G M ∧ (M.map fun p => G.kd.hash p.2) = o.toList.map fun i => (es.map (·.1)).getD i 0 := by
  refine ⟨o.toList.filterMap fun i => L[i]?, ?_, ?_, ?_⟩
  · have := hp.filterMap fun i => L[i]?
    rwa [List.filterMap_getElem?_range_length] at this
  · have e : ∀ i, es[i]? = (rws G L)[i]? := fun i => by rw [← hr, Array.getElem?_toList]
    rw [Array.toList_filterMap]
    simp only [e]
    exact fm_map _ L o.toList
  · have hes : (es.map (·.1)).toList = L.map fun p => G.kd.hash p.2 := by
      rw [Array.toList_map, hr, rws, List.map_map]; rfl
    have h2 := fm_map (fun p : Addr × K => G.kd.hash p.2) L o.toList
    rw [← h2, fm_get _ 0 _ fun i hi => by rw [List.length_map]; exact List.mem_range.mp (hp.mem_iff.mp hi)]
    refine List.map_congr_left fun i _ => ?_
    rw [← hes]; simp [List.getD_eq_getElem?_getD, Array.getD_eq_getD_getElem?]
theorem is_same {h h' : Heap} {k : K} {b : Addr} {o : Obj} (hb : G.kd.is h k b) (ho : h.get? a = some o) (hd : o.data = .set es ep t) (q : Heap.SameBut a h h') : G.kd.is h' k b :=
  G.keep hb fun c oc vs n hc hs => (q.2 c fun e => by
    subst e
    rw [ho] at hc
    cases hc
    rw [hd] at hs
    cases hs).trans hc
theorem re_table {o : Obj} (ho : s.heap.get? a = some o) (hx : o.ExactSet) (hd : o.data = .set es ep t) (hr : es.toList = rws G L) (hz : t.place.size = es.size) (hdm : t.dummies = #[]) (hfl : es.size ≤ t.mask)
    (nd : (L.map (·.2)).Nodup) (its : ∀ p ∈ L, G.kd.is s.heap p.2 p.1) (pl : t.plain = true) (ld : w.params.followText "set-order" = true ∨ t.led = true) (fw : L.length < 64) {n M : Nat} {Q : Unit → Shared → Prop}
    (e1 : SetTable.sizeAbove n - 1 = M) (e2 : MaskOk M) (e3 : SetTable.sizeAbove n ≤ 128) (e4 : L.length * 5 < M * 3)
    (k : ∀ h' L' es' ep' t', Heap.SameBut a s.heap h' → Tb G h' a L' es' ep' t' → L'.Perm L → Q () { s with heap := h' }) : wpAny (model P w) A (setRelay a n) Q E s := by
  have ez : es.size = L.length := by rw [← rws_len (G := G), ← hr, Array.length_toList]
  have fit : t.fits es.size = true := by
    unfold SetTable.fits SetTable.fill
    rw [hdm]; simp; omega
  obtain ⟨t', o', f1, f2, f3, f4, f5, f6, _⟩ := relaid_ok t (hs := es.map (·.1)) e1 e2 (by rw [Array.size_map, ez]; omega)
  rw [Array.size_map, ez] at f2
  obtain ⟨L2, g1, g2, g3⟩ := relist o' hr f2
  rw [← g3] at f3
  have ez2 : (o'.filterMap (es[·]?)).size = es.size := by rw [← Array.length_toList, g2, rws_len, g1.length_eq, ez]
  rw [setRelay_eq]
  refine wpAny_bind (wpAny_setState_of ho hd fit ?_)
  dsimp only
  refine wp_if_neg (by rw [sizeLine_eq]; omega) ?_
  try refine wpAny_bind (wpAny_pure ?_)
  rw [f1]
  dsimp only
  refine wpAny_bind (wp_if_neg (by rw [ez2]; simp) ?_)
  try refine wpAny_bind (wpAny_pure ?_)
  refine wpAny_pure ?_
  dsimp only
  refine wpAny_storeSet_of ho hd ?_ (by rw [ez2, ez, sizeLine_eq]; omega)
  have sb : Heap.SameBut a s.heap (s.heap.update a (Obj.putSet (o'.filterMap (es[·]?)) t')) := Heap.SameBut.update ..
  exact k _ L2 _ (ep + 1) t' sb ⟨⟨_, store_at ho hd, ⟨hx.1, hx.2.1, hx.2.2⟩, rfl⟩, g2, f3, (g1.map _).nodup_iff.mpr nd, fun p hp => is_same (its p (g1.mem_iff.mp hp)) ho hd sb, by rw [f6]; exact pl, by rw [f5]; exact ld, by rw [g1.length_eq, f4]; exact e4, by rw [g1.length_eq]; exact fw⟩ g1
/-- PUTTING IN -/
theorem put_in (T : Tb G s.heap a L es ep t) {k : K} {x : Addr} (hx : G.kd.is s.heap k x) (hr : G.kd.room A) (hfw : L.length + 1 < 64) {Q : Bool → Shared → Prop}
    (hQ : ∀ b h' L' es' ep' t', Heap.SameBut a s.heap h' → Tb G h' a L' es' ep' t' → (k ∈ L.map (·.2) ∧ L' = L ∨ k ∉ L.map (·.2) ∧ L'.Perm ((x, k) :: L)) → Q b { s with heap := h' }) :
    wpAny (model P w) A (setAddHashed a (.ref x) (G.kd.hash k)) Q E s := by
  obtain ⟨o, ho, hex, hd⟩ := T.obj
  have ez := T.size
  have rm := T.rm
  unfold setAddHashed
  refine wpAny_holding ?_
  rw [show (100000 : Nat) = 99999 + 1 from rfl, setAddHashedIn_succ]
  refine wpAny_bind (wpAny_setState_of ho hd T.fit ?_)
  dsimp only
  refine wp_if_neg (by simp [byScan, Value.scannable]) ?_
  try refine wpAny_bind (wpAny_pure ?_)
  refine wpAny_bind (look_at T hx hr (fun hm => wpAny_pure (hQ false s.heap L es ep t (Heap.SameBut.refl a s.heap) T (.inl ⟨hm, rfl⟩))) fun n hm hK hb => ?_)
  dsimp only
  refine wpAny_bind (wpAny_setState_of ho hd T.fit ?_)
  dsimp only
  obtain ⟨q1, q2, q3, q4, q5, q6, q7, q8, q9⟩ := T.tb.put hK hb
  have pl1 : (t.put (way t.mask (G.kd.hash k) n)).1.plain = true := by rw [q6]; exact T.pl
  generalize t.put (way t.mask (G.kd.hash k) n) = pt at q1 q3 q4 q5 q6 q7 q8 q9 pl1 ⊢
  obtain ⟨t1, p⟩ := pt
  dsimp only at q1 q3 q4 q5 q6 q7 q8 q9 pl1 ⊢
  subst q1
  first
    | exact absurd rfl (by decide : ¬ (0 : Nat) = 0)
    | (refine wpAny_bind ?_; refine wp_if_pos pl1 ?_; refine G.byv hx ?_)
    | refine wp_if_pos pl1 (wpAny_bind (G.byv hx ?_))
  simp only [if_true]
  have hin : (SetTable.insertAt es (SetTable.below t.place (way t.mask (G.kd.hash k) n)) (G.kd.hash k, Value.ref x)).toList = rws G (L.take (SetTable.below t.place (way t.mask (G.kd.hash k) n)) ++ (x, k) :: L.drop (SetTable.below t.place (way t.mask (G.kd.hash k) n))) := by
    rw [SetTable.toList_insertAt, T.rw]; simp [rws]
  generalize SetTable.below t.place (way t.mask (G.kd.hash k) n) = p at q2 q3 hin ⊢
  have pm : (L.take p ++ (x, k) :: L.drop p).Perm ((x, k) :: L) := by
    have := List.perm_middle (a := (x, k)) (l₁ := L.take p) (l₂ := L.drop p)
    rwa [List.take_append_drop] at this
  rw [show (L.map fun p => G.kd.hash p.2).take p ++ G.kd.hash k :: (L.map fun p => G.kd.hash p.2).drop p = (L.take p ++ (x, k) :: L.drop p).map fun p => G.kd.hash p.2 by simp] at q3
  generalize L.take p ++ (x, k) :: L.drop p = L1 at pm q3 hin
  have len1 : L1.length = L.length + 1 := pm.length_eq
  have nd1 : (L1.map (·.2)).Nodup := (pm.map _).nodup_iff.mpr (List.nodup_cons.mpr ⟨hm, T.dis⟩)
  have ez1 : (SetTable.insertAt es p (G.kd.hash k, Value.ref x)).size = L.length + 1 := by rw [← Array.length_toList, hin, rws_len, len1]
  generalize SetTable.insertAt es p (G.kd.hash k, Value.ref x) = es1 at hin ez1 ⊢
  refine wpAny_bind (wpAny_storeSet_of ho hd ?_ (by rw [ez1, sizeLine_eq]; omega))
  have sb : Heap.SameBut a s.heap (s.heap.update a (Obj.putSet es1 t1)) := Heap.SameBut.update ..
  have ho1 := store_at (es' := es1) (t' := t1) ho hd
  generalize s.heap.update a (Obj.putSet es1 t1) = h1 at sb ho1 ⊢
  have its1 : ∀ p ∈ L1, G.kd.is h1 p.2 p.1 := fun p hp => by
    rcases List.mem_cons.mp (pm.mem_iff.mp hp) with e | hp
    · rw [e]; exact is_same hx ho hd sb
    · exact is_same (T.its p hp) ho hd sb
  have ld1 : w.params.followText "set-order" = true ∨ t1.led = true := by rw [q5]; exact T.ld
  have exs : Obj.ExactSet { o with data := .set es1 (ep + 1) t1 } := ⟨hex.1, hex.2.1, hex.2.2⟩
  have fill : t1.tooFull = true ↔ (L.length + 1) * 5 ≥ t1.mask * 3 := by
    unfold SetTable.tooFull
    rw [decide_eq_true_eq, q9, List.length_map]
  by_cases hf : t1.tooFull = true
  · have full := fill.mp hf
    rw [ez]
    have small : L.length = 4 ∧ t.mask = 7 ∨ L.length = 18 ∧ t.mask = 31 := by
      rw [q4] at full
      rcases T.tb.mok with e | e | e <;> rw [e] at rm full <;> omega
    have pz : t1.place.size = es1.size := by rw [q3.sz, List.length_map, len1, ez1]
    first
      | (refine wpAny_bind ?_; refine wp_if_pos (by simp [hf]) ?_)
      | (refine wp_if_pos (by simp [hf]) ?_; refine wpAny_bind ?_)
    rcases small with ⟨e, e'⟩ | ⟨e, e'⟩
    · exact re_table (s := { s with heap := h1 }) (M := 31) ho1 exs rfl hin pz q3.dm (by omega) nd1 its1 pl1 ld1 (by omega) (by rw [e, size_20]) (.inr (.inl rfl)) (by rw [e, size_20]; decide) (by omega) fun h2 L2 es2 ep2 t2 sb2 R2 pm2 =>
        wpAny_pure (hQ true h2 L2 es2 ep2 t2 (sb.trans sb2) R2 (.inr ⟨hm, pm2.trans pm⟩))
    · exact re_table (s := { s with heap := h1 }) (M := 127) ho1 exs rfl hin pz q3.dm (by omega) nd1 its1 pl1 ld1 (by omega) (by rw [e, size_76]) (.inr (.inr rfl)) (by rw [e, size_76]; decide) (by omega) fun h2 L2 es2 ep2 t2 sb2 R2 pm2 =>
        wpAny_pure (hQ true h2 L2 es2 ep2 t2 (sb.trans sb2) R2 (.inr ⟨hm, pm2.trans pm⟩))
  · have lax : (L.length + 1) * 5 < t1.mask * 3 := Nat.lt_of_not_ge fun z => hf (fill.mpr z)
    first
      | refine wp_if_neg (by simp [hf]) ?_
      | (refine wpAny_bind ?_; refine wp_if_neg (by simp [hf]) ?_; refine wpAny_pure ?_)
    exact wpAny_pure (hQ true h1 L1 es1 (ep + 1) t1 sb ⟨⟨_, ho1, exs, rfl⟩, hin, q3, nd1, its1, pl1, ld1, by rw [len1]; exact lax, by rw [len1]; exact hfw⟩ (.inr ⟨hm, pm⟩))
end
end GS

/-! GSc: set(list of tuples) -/
namespace GS
open PySem PySem.Spec PyProof.Rows L2
section
variable {P : Program} {w : World} {K : Type} [DecidableEq K] {G : SK P w K}
variable {A : Around} {E : Value → Shared → Prop} {s : Shared}
variable {a : Addr} {L : List (Addr × K)} {es : Array (Int × Value)} {ep : Nat} {t : SetTable}
/-- an empty set, just made -/
abbrev set0 (w : World) : Obj := { cls := .type "set", dict := none, data := .set #[] 0 (.fresh 0 0 (!w.params.followText "set-order")) }
theorem Tb.empty {h : Heap} (ho : h.get? a = some (set0 w)) : Tb G h a [] #[] 0 (.fresh 0 0 (!w.params.followText "set-order")) := by
  refine ⟨⟨_, ho, ⟨rfl, rfl, rfl⟩, rfl⟩, rfl, ⟨List.Pairwise.nil, rfl, rfl, .inl rfl, fun x hx => (by cases hx), fun i h j hi => (by simp at hi)⟩, List.nodup_nil, fun p hp => (by cases hp), rfl, ?_, (by show 0 * 5 < 7 * 3; decide), (by show 0 < 64; decide)⟩
  show _ ∨ (!w.params.followText "set-order") = true
  cases w.params.followText "set-order" <;> simp
theorem Tb.moved {h h' : Heap} (T : Tb G h a L es ep t) (q : ∀ o, h.get? a = some o → h'.get? a = some o) (i : ∀ p ∈ L, G.kd.is h' p.2 p.1) : Tb G h' a L es ep t := by
  obtain ⟨o, ho, r⟩ := T.obj
  exact ⟨⟨o, q o ho, r⟩, T.rw, T.tb, T.dis, i, T.pl, T.ld, T.rm, T.fw⟩
theorem SK.up {h h' : Heap} {k : K} {b : Addr} (x : G.kd.is h k b) (q : ∀ c o, h.get? c = some o → h'.get? c = some o) : G.kd.is h' k b := G.keep x fun c o _ _ e _ => q c o e
/-- the set holds what the first n items are -/
structure Had (ks : List (Addr × K)) (n : Nat) (L : List (Addr × K)) : Prop where
  of : ∀ p ∈ L, p ∈ ks.take n
  al : ∀ p ∈ ks.take n, p.2 ∈ L.map (·.2)
  le : L.length ≤ n
theorem Had.next {ks L M : List (Addr × K)} {n : Nat} {p : Addr × K} (g : Had ks n L) (h : ks[n]? = some p) (c : p.2 ∈ L.map (·.2) ∧ M = L ∨ p.2 ∉ L.map (·.2) ∧ M.Perm (p :: L)) : Had ks (n + 1) M := by
  have e : ks.take (n + 1) = ks.take n ++ [p] := by rw [List.take_succ, h]; rfl
  rcases c with ⟨c, rfl⟩ | ⟨_, c⟩
  · refine ⟨fun q hq => ?_, fun q hq => ?_, Nat.le_succ_of_le g.le⟩
    · rw [e]; exact List.mem_append_left _ (g.of q hq)
    · rw [e] at hq
      rcases List.mem_append.mp hq with z | z
      · exact g.al q z
      · rw [List.mem_singleton.mp z]; exact c
  · refine ⟨fun q hq => ?_, fun q hq => ?_, ?_⟩
    · rw [e]
      rcases List.mem_cons.mp (c.mem_iff.mp hq) with z | z
      · rw [z]; simp
      · exact List.mem_append_left _ (g.of q z)
    · rw [e] at hq
      rw [(c.map (·.2)).mem_iff, List.map_cons]
      rcases List.mem_append.mp hq with z | z
      · exact List.mem_cons_of_mem _ (g.al q z)
      · rw [List.mem_singleton.mp z]; exact List.mem_cons_self
    · rw [c.length_eq, List.length_cons]; exact Nat.succ_le_succ g.le
/-- the loop that puts in one item after another -/
theorem put_all {I : Addr} {fp wr : List Addr} {GG : Array GenState → Array GenState → Prop} {n : Nat} {Pv : Nat → Value → Prop} {Sn : Nat → Shared → Prop} {R : Result → Shared → Prop} (W : WalksS P w A.in1 I fp wr GG n Pv Sn) (S : Addr) (nf : S ∉ fp)
    (ks : List (Addr × K)) (hn : n = ks.length) (fw : ks.length < 64) (val : ∀ i v, Pv i v → ∃ p, ks[i]? = some p ∧ v = .ref p.1) (h0 : Heap) (hk : ∀ p ∈ ks, G.kd.is h0 p.2 p.1) (hS : h0.get? S = none) (hw : ∀ b ∈ wr, h0.get? b = none) (hr : G.kd.room A.in1) :
    ∀ (m i : Nat) (s : Shared), n - i = m → i ≤ n → Sn i s → (∀ b o, h0.get? b = some o → s.heap.get? b = some o) → (∃ L es ep t, Tb G s.heap S L es ep t ∧ Had ks i L) →
      (∀ s' L es ep t, Moved (S :: wr) GG s s' → Tb G s'.heap S L es ep t → Had ks n L → (∀ b o, h0.get? b = some o → s'.heap.get? b = some o) → R (.ok (.ret .none)) s') → codeAny (model P w) A (.builtin "set.update.loop" ⟨[.ref S, .ref I], []⟩) R s := by
  have nw : S ∉ wr := fun z => nf (W.sub _ z)
  have stay : ∀ {s s' : Shared}, Moved wr GG s s' → (∀ b o, h0.get? b = some o → s.heap.get? b = some o) → ∀ b o, h0.get? b = some o → s'.heap.get? b = some o := fun m q b o e => m.heap b o (fun z => by rw [hw b z] at e; cases e) (q b o e)
  intro m
  induction m with
  | zero =>
    intro i s hm hi st q ⟨L, es, ep, t, T, g⟩ fin
    obtain rfl : i = n := by omega
    refine codeAny_builtin F.entry_set_update_loop ?_
    rw [Around.under_plainId F.plain_set_update_loop _]
    show wpAny _ A.in1 (pyNext (.ref I) >>= _) _ _ s
    refine wpAny_bind (W.done s _ _ st fun s' mv => ?_)
    show wpAny _ A.in1 (ret Value.none) _ _ s'
    have q' := stay mv q
    exact wpAny_pure (fin s' L es ep t (mv.mono fun b z => List.mem_cons_of_mem _ z) (T.moved (fun o e => mv.heap S o nw e) fun p hp => SK.up (hk p (List.mem_of_mem_take (g.of p hp))) q') g q')
  | succ m ih =>
    intro i s hm hi st q ⟨L, es, ep, t, T, g⟩ fin
    have lt : i < n := by omega
    refine codeAny_builtin F.entry_set_update_loop ?_
    rw [Around.under_plainId F.plain_set_update_loop _]
    show wpAny _ A.in1 (pyNext (.ref I) >>= _) _ _ s
    refine wpAny_bind (W.item i s _ _ lt st fun v s' pv st' mv => ?_)
    obtain ⟨p, hp, rfl⟩ := val i v pv
    have q' := stay mv q
    have T' : Tb G s'.heap S L es ep t := T.moved (fun o e => mv.heap S o nw e) fun r hr' => SK.up (hk r (List.mem_of_mem_take (g.of r hr'))) q'
    have x : G.kd.is s'.heap p.2 p.1 := SK.up (hk p (List.mem_of_getElem? hp)) q'
    show wpAny _ A.in1 (holding [Value.ref p.1] (setAdd S (.ref p.1)) >>= _) _ _ s'
    refine wpAny_bind (wpAny_holding ?_)
    unfold setAdd
    refine wpAny_holding (wpAny_bind (G.kd.pyHash hr x ?_))
    refine put_in (s := { s' with toks := s'.toks + G.kd.draws p.2 }) T' x hr (by have := g.le; omega) fun b h' M es' ep' t' sb T2 c => ?_
    have q2 : ∀ b o, h0.get? b = some o → h'.get? b = some o := fun b o e => (sb.2 b (fun z => by rw [z, hS] at e; cases e)).trans (q' b o e)
    refine wpAny_pure ⟨plainId_quiet F.plain_set_update_loop _, ih (i + 1) _ (by omega) lt (W.frame _ s' _ _ st' (Nat.le_add_right _ _) fun b hb o e => ?_) q2 ⟨M, es', ep', t', T2, g.next hp c⟩ fun s2 L2 es2 ep2 t2 mv2 T3 g3 q3 => ?_⟩
    · exact (sb.2 b fun z => nf (z ▸ hb)).trans e
    · refine fin s2 L2 es2 ep2 t2 (Moved.trans W.gtrans ((mv.mono fun b z => List.mem_cons_of_mem _ z).then_heap (Nat.le_add_right _ _) fun b o hb e => ?_) mv2) T3 g3 q3
      exact (sb.2 b fun z => hb (z ▸ List.mem_cons_self)).trans e
set_option maxHeartbeats 3200000 in
/-- set(xs), xs a list of tuples -/
theorem call_set {l : Addr} {vs : Array Value} (ks : List (Addr × K)) {Q : Value → Shared → Prop} (hh : A.handled = none) (hl : s.heap.IsList l vs) (hv : vs.toList = ks.map fun p => Value.ref p.1) (hk : ∀ p ∈ ks, G.kd.is s.heap p.2 p.1) (fw : ks.length < 64) (hu : A.units + 3 < cLine) (hr : G.kd.room A.in1.in1.in1)
    (h : ∀ (h' : Heap) (tk : Nat) (L : List (Addr × K)) es ep t, Tb G h' s.heap.objs.size L es ep t → Had ks ks.length L → (∀ b o, s.heap.get? b = some o → h'.get? b = some o) → Q (.ref s.heap.objs.size) { s with heap := h', toks := tk }) :
    wpAny (model P w) A (call (.type "set") [.ref l]) Q E s := by
  have vsz : vs.size = ks.length := by rw [← Array.length_toList, hv, List.length_map]
  obtain ⟨c, tl, hmro⟩ := F.called_set.mro
  have hmade := F.called_set.made
  have hsub := F.called_set.sub
  refine wpAny_call (codeAny_of_tree ?_)
  show wpAny _ _ (callAny (.type "set") _) _ _ _
  refine wpAny_pure ⟨Code.quiet_builtin _ (by decide +kernel), codeAny_builtin F.entry_type_call ?_⟩
  rw [Around.under_plain (weight_type_call_type "set" [.ref l] []) rfl]
  have h1 := F.called_set.notType
  have h2 := F.called_set.canCreate
  have hct := F.typeCall_set_1 (.ref l)
  repeat (any_goals (first | assumption | wp_step))
  refine codeAny_mono (code_set_led1 (.ref l) (E := E) (Q₁ := fun u z => u = .ref s.heap.objs.size ∧ z = { s with heap := s.heap.push (set0 w) }) ⟨rfl, rfl⟩) fun r s₁ hr₁ => ?_
  cases r with
  | error e => exact hr₁
  | ok fl =>
    cases fl with
    | ret u =>
      obtain ⟨rfl, rfl⟩ := hr₁
      have own : (s.heap.push (set0 w)).get? s.heap.objs.size = some (set0 w) := Heap.get?_push_size _ rfl
      have hT : Shared.TypeIs { s with heap := s.heap.push (set0 w) } (.ref s.heap.objs.size) "set" := ⟨_, own, rfl⟩
      have hli := F.called_set.init.lookup
      have hbi := F.called_set.init.bind (.ref s.heap.objs.size)
      repeat (any_goals (first | assumption | wp_step))
      refine codeAny_mono (codeAny_call_builtin (R := wants (fun r z => r = .none ∧ ∃ (h' : Heap) (tk : Nat) (L : List (Addr × K)) (es : Array (Int × Value)) (ep : Nat) (t : SetTable), z = { s with heap := h', toks := tk } ∧ Tb G h' s.heap.objs.size L es ep t ∧ Had ks ks.length L ∧
          ∀ b o, s.heap.get? b = some o → h'.get? b = some o) E) F.called_set.init.plain F.entry_set_init (check_set_init_1 hT ?_)) fun r₂ s₂ hr₂ => ?_
      · obtain ⟨⟨oc, od, oda, osl⟩, hol, hcl, nl, hdl⟩ := hl
        simp only at hcl hdl
        subst hcl; subst hdl
        have l1 : (s.heap.push (set0 w)).IsList l vs := ⟨_, Heap.get?_push_of_some _ hol, rfl, nl, rfl⟩
        have hol' := Heap.get?_push_of_some (set0 w) hol
        have hsls := F.sub_list_set
        have hslf := F.sub_list_frozenset
        have hne : (Value.type "list" == Value.type "dict") = false := by decide
        unfold Builtin.«set.__init__» noKeywords Builtin.Frozenset.updateFrom
        generalize hPI : pyIter = PI
        wp_walk
        subst hPI
        refine wpAny_pyIter_list l1 (wpAny_bind (wpAny_runValue ?_))
        have old : l < s.heap.objs.size := Heap.lt_size hol
        have sz : (s.heap.push (set0 w)).objs.size = s.heap.objs.size + 1 := Heap.size_push ..
        have ne : l ≠ (s.heap.push (set0 w)).objs.size := by rw [sz]; exact Nat.ne_of_lt (Nat.lt_succ_of_lt old)
        have h3 : A.in1.in1.in1.handled = none := by simp [hh]
        have bare : ∀ b, s.heap.objs.size ≤ b → s.heap.get? b = none := fun b hb => by
          cases q : s.heap.get? b with
          | none => rfl
          | some o => exact absurd (Heap.lt_size q) (Nat.not_lt.mpr hb)
        refine put_all (G := G) ((Walks.list h3 _ l ne vs).toS) s.heap.objs.size ?nf ks vsz fw ?val s.heap hk (bare _ (Nat.le_refl _)) ?wr hr (vs.size - 0) 0 _ (by omega) (Nat.zero_le _) ⟨⟨_, Heap.get?_push_size _ rfl, rfl, rfl⟩, l1.push _⟩ (fun b o e => Heap.get?_push_of_some _ (Heap.get?_push_of_some _ e)) ?em ?fin
        case nf =>
          rw [sz]; simp only [List.mem_cons, List.not_mem_nil, or_false, not_or]
          exact ⟨Nat.ne_of_lt (Nat.lt_succ_self _), Nat.ne_of_gt old⟩
        case val => 
          intro i v hi
          have q : vs.toList[i]? = some v := by rw [Array.getElem?_toList]; exact hi
          rw [hv, List.getElem?_map] at q
          cases z : ks[i]? with
          | none => rw [z] at q; cases q
          | some p => rw [z] at q; exact ⟨p, rfl, (Option.some.inj q).symm⟩
        case wr => intro b hb; rw [List.mem_singleton.mp hb, sz]; exact bare _ (Nat.le_succ _)
        case em => exact ⟨[], #[], 0, _, .empty (Heap.get?_push_of_some _ own), ⟨fun p hp => (by cases hp), fun p hp => (by simp at hp), Nat.le_refl _⟩⟩
        case fin =>
          intro s' L es ep t mv T g q
          obtain ⟨h', g2, d', tk', os'⟩ := s'
          obtain rfl : g2 = s.gens := mv.gens
          obtain rfl : d' = s.drawn := mv.drawn
          obtain rfl : os' = s.os := mv.os
          show wpAny _ _ _ _ _ _
          refine wpAny_pure ?_
          show wpAny _ _ (ret Value.none) _ _ _
          rw [vsz] at g
          exact wpAny_pure ⟨rfl, h', tk', L, es, ep, t, rfl, T, g, q⟩
      · cases r₂ with
        | error e => exact hr₂
        | ok fl₂ =>
          cases fl₂ with
          | ret r =>
            obtain ⟨rfl, h', tk, L, es, ep, t, rfl, T, g, q⟩ := hr₂
            repeat (any_goals (first | assumption | wp_step))
            exact h _ _ _ _ _ _ T g q
          | _ => exact hr₂.elim
    | _ => exact hr₁.elim
end
end GS

/-! GSd: alike data can be sorted, empty tuples among them too -/
namespace GS
open PySem PySem.Calls PyProof.Rows PySem.SeqAt PySem.W
section
variable {prog : Program} {w : World} {A : Around} {E : Value → Shared → Prop} {s : Shared}
/-- tuple's own less-than, as sorting calls it -/
theorem lt_call {Q : Value → Shared → Prop} {x y : Addr} {xs ys : Array Value} {e r : Nat → Bool} (hx : s.heap.IsTuple x xs) (hy : s.heap.IsTuple y ys) (he : ∀ j (h1 : j < xs.size) (h2 : j < ys.size), EqAt A.in1 s xs[j] ys[j] (e j))
    (hr : ∀ j (h1 : j < xs.size) (h2 : j < ys.size), e j = false → RcLt A.in1 s xs[j] ys[j] (r j)) (h : Q (.bool (firstLt e r (decide (xs.size < ys.size)) (List.range (min xs.size ys.size)))) s) : wpAny (model prog w) A (call (.builtin "tuple.__lt__") [.ref x, .ref y]) Q E s := by
  obtain ⟨⟨c1, d1, da1, s1⟩, o1, e1, n1, f1⟩ := id hx
  obtain ⟨⟨c2, d2, da2, s2⟩, o2, e2, n2, f2⟩ := id hy
  simp only at e1 f1 e2 f2
  subst e1 f1 e2 f2
  exact call_meets F.slot_tuple_lt ⟨_, o1, rfl⟩ F.entry_tuple_lt (F.args_tuple_lt_2 _ _) (tuple_ltAt x y xs ys n1 n2 d1 d2 s1 s2 e r) ⟨o1, o2, he, hr, h⟩
/-- two tuples, as keys that are all of one type -/
theorem lt_one {xs ys : List PyData} {a b : Value} {as bs : List Addr} {Q : Bool → Shared → Prop} (ra : Reads s.heap a (.tuple xs) as) (rb : Reads s.heap b (.tuple ys) bs) (hal : alikeAll xs ys = true) (hu : A.units + min (PyData.tuple xs).depth (PyData.tuple ys).depth < cLine)
    (hq : Q (dataLt (.tuple xs) (.tuple ys)) s) : wpAny (model prog w) A (oneLt' true a b) Q E s := by
  cases ra with
  | @tuple l o vs n _ as₁ h1 h2 h3 h4 =>
    cases rb with
    | @tuple l' o' us n' _ bs₁ k1 k2 k3 k4 =>
      have z1 : vs.size = xs.length := by simpa using ReadsAll.length _ _ _ h4
      have z2 : us.size = ys.length := by simpa using ReadsAll.length _ _ _ k4
      rw [dataLt_tuple, ← firstLt_toks xs ys hal, ← z1, ← z2] at hq
      rw [oneLt'_eq]
      simp only [if_true]
      refine wpAny_bind (wpAny_cRoomFor (room_here hu) (wpAny_bind (wpAny_callSpecialIfBound?_slot (T := "tuple") ⟨_, h1, h2⟩ F.slot_tuple_lt (lt_call (e := pairEq xs ys) (r := fun j => dataLt (xs.getD j .none) (ys.getD j .none)) ⟨_, h1, h2, _, h3⟩ ⟨_, k1, k2, _, k3⟩ (fun j j1 j2 => ?_) (fun j j1 j2 hj => ?_) (wpAny_truthy_bool hq)))))
      · have q := eqAt_alikeAll xs ys A.in1 s vs.toList us.toList _ _ h4 k4 hal (room_in hu) j (by simpa using j1) (by simpa using j2)
        simpa using q
      · have q := rcLt_alikeAll xs ys A.in1 s vs.toList us.toList _ _ h4 k4 hal (room_in hu) j (by simpa using j1) (by simpa using j2) hj
        simpa using q
/-- the first items of tuples -/
theorem firsts_of {M : Model} : ∀ {vs : List Value} {ds : List PyData}, EachIs (fun v d => ∃ as, Reads s.heap v d as) vs ds → (∀ d ∈ ds, ∃ xs, d = .tuple xs) →
    ∃ os : List (Option Value), os.map Option.isSome = ds.map (fun d => match d with | .tuple (_ :: _) => true | _ => false) ∧ ∀ (E : Value → Shared → Prop) {Q : List (Option Value) → Shared → Prop}, Q os s → wpAny M A (vs.mapM firstOfTuple') Q E s
  | _, _, .nil, _ => ⟨[], rfl, fun E Q h => by rw [List.mapM_nil]; exact wpAny_pure h⟩
  | _, _, .cons (a := v) (b := d) (as := vs) ⟨as, r⟩ t, ht => by
    obtain ⟨os, h1, h2⟩ := firsts_of (M := M) t fun d hd => ht d (List.mem_cons_of_mem _ hd)
    obtain ⟨xs, rfl⟩ := ht d List.mem_cons_self
    cases r with
    | @tuple l o us n _ _ ho hc hd hr =>
      refine ⟨us[0]? :: os, ?_, fun E {Q} h => ?_⟩
      · rw [List.map_cons, List.map_cons, h1]
        congr 1
        have z : us.size = xs.length := by simpa using ReadsAll.length _ _ _ hr
        cases xs with
        | nil => simp at z; simp [z]
        | cons x xs => simp at z; simp [z]
      · rw [List.mapM_cons]
        refine wpAny_bind ?_
        rw [kas_first_eq]
        refine wpAny_bind (Looks.here (show Looks M s.heap (typeOf (.ref l)) o.cls from (Looks.ld ho).andThen .now) ?_)
        rw [hc, if_neg (by first | decide | simp)]
        refine wpAny_bind (listItems_at ho hd (wpAny_pure ?_))
        exact wpAny_bind (h2 E (wpAny_pure h))
/-- tuples, an empty one among them: how their keys are asked -/
theorem kind_some {vs : List Value} {ds : List PyData} (e : EachIs (fun v d => ∃ as, Reads s.heap v d as) vs ds) (ht : ∀ d ∈ ds, ∃ xs, d = .tuple xs) (hm : PyData.tuple [] ∈ ds) :
    ∃ kd : SortKind, (kd = general' ∨ kd = oneType') ∧ ∀ (E : Value → Shared → Prop) {Q : SortKind → Shared → Prop}, Q kd s → wpAny (model prog w) A (keyKind' vs.toArray) Q E s := by
  obtain ⟨os, h1, run⟩ := firsts_of (M := model prog w) (A := A) e ht
  have hsome : (os.toArray.all fun x => x.isSome) = false := by
    rw [Bool.eq_false_iff]
    intro z
    have z2 : ∀ b ∈ os.map Option.isSome, b = true := by
      intro b hb
      obtain ⟨o, ho, rfl⟩ := List.mem_map.mp hb
      simp only [List.all_toArray, List.all_eq_true] at z
      exact z o ho
    rw [h1] at z2
    have := z2 _ (List.mem_map.mpr ⟨_, hm, rfl⟩)
    cases this
  have types : ∀ (E : Value → Shared → Prop) {Q : List Value → Shared → Prop}, Q (vs.map fun _ => Value.type "tuple") s → wpAny (model prog w) A (vs.mapM typeOf) Q E s := fun E Q hq =>
    kas_mapM (r := Value.type "tuple") _ (fun v hv Q' hq' => by
      obtain ⟨d, hd, as, r⟩ := e.left v hv
      obtain ⟨xs, rfl⟩ := ht d hd
      exact (looks_reads r).here hq') hq
  have pos : 0 < vs.length := by
    rw [e.length]
    exact List.length_pos_of_mem hm
  cases hf : (os.toArray[0]?.bind id).isSome with
  | true =>
    refine ⟨general', .inl rfl, fun E Q hq => ?_⟩
    rw [kat_kind_eq, List.mapM_toArray, map_eq_pure_bind]
    refine wpAny_bind (wpAny_bind (run E (wpAny_pure ?_)))
    rw [if_neg (by rw [hsome]; decide), if_pos hf]
    exact wpAny_pure hq
  | false =>
    refine ⟨oneType', .inr rfl, fun E Q hq => ?_⟩
    rw [kat_kind_eq, List.mapM_toArray, map_eq_pure_bind]
    refine wpAny_bind (wpAny_bind (run E (wpAny_pure ?_)))
    rw [if_neg (by rw [hsome]; decide), if_neg (by rw [hf]; decide), oneTypeOnly'_eq, List.mapM_toArray, map_eq_pure_bind]
    refine wpAny_bind (wpAny_bind (wpAny_bind (types E (wpAny_pure ?_))))
    obtain ⟨v, r, rfl⟩ : ∃ v r, vs = v :: r := by
      cases vs with
      | nil => simp at pos
      | cons v r => exact ⟨v, r, rfl⟩
    have all : ((List.map (fun _ => Value.type "tuple") (v :: r)).toArray.all fun x => x == Value.type "tuple") = true := by
      simp only [List.all_toArray, List.all_map, List.all_eq_true]
      intro _ _
      exact beq_self_eq_true _
    rw [show (List.map (fun _ => Value.type "tuple") (v :: r)).toArray[0]? = some (Value.type "tuple") by simp]
    simp only [all, if_true]
    exact wpAny_pure (wpAny_pure hq)
theorem keyLt_general (x y : Value) : keyLt' general' x y = oneLt' false x y := rfl
/-- data that are alike: sorted, whatever they are -/
def Sorty (ds : List PyData) : Prop := Sortable ds ∨ ∀ d ∈ ds, ∃ xs, d = .tuple xs
theorem sorts {vs : List Value} {ds : List PyData} (e : EachIs (fun v d => ∃ as, Reads s.heap v d as) vs ds) (hal : AllAlike ds) (hk : Sorty ds) (hu : ∀ d, d ∈ ds → A.units + d.depth < cLine) : SortsAt prog w A s (dataKind s.heap ds) vs := by
  rcases hk with hk | ht
  · exact SortsAt.data e hal hk hu
  · by_cases hm : PyData.tuple [] ∈ ds
    · obtain ⟨kd, hkd, run⟩ := kind_some (prog := prog) (w := w) (A := A) e ht hm
      refine ⟨fun v hv => ?_, kd, ?_, fun _ E Q hq => run E hq⟩
      · obtain ⟨d, hd, as, r⟩ := e.left v hv
        exact ⟨_, dataKind_some hal hd r⟩
      · intro E x y a b Q ha hb hq
        obtain ⟨d, as, hd, ra, rfl⟩ := dataKind_inv ha
        obtain ⟨d', as', hd', rb, rfl⟩ := dataKind_inv hb
        have room : A.units + min d.depth d'.depth < cLine := Nat.lt_of_le_of_lt (Nat.add_le_add_left (Nat.min_le_left _ _) _) (hu d hd)
        have hdd := hal d hd d' hd'
        obtain ⟨xs, rfl⟩ := ht d hd
        obtain ⟨ys, rfl⟩ := ht d' hd'
        rcases hkd with rfl | rfl
        · rw [keyLt_general]
          exact oneLt_alike (fun z => absurd z (by decide)) ra rb hdd (by simp) room hq
        · rw [keyLt'_oneType]
          exact lt_one ra rb (by simpa [alike] using hdd) room hq
    · refine SortsAt.data e hal (.inl fun d hd => ?_) hu
      obtain ⟨xs, rfl⟩ := ht d hd
      cases xs with
      | nil => exact absurd hd hm
      | cons x r => exact ⟨x, r, rfl⟩
end
end GS

/-! GSe: whole numbers and tuples of these, nested, as keys of sets -/
namespace GS
open PySem PySem.Calls PyProof.Rows PySem.SeqAt PySem.W
section
variable {P : Program} {w : World} {s : Shared}
def ClsAt (P : Program) (w : World) (n : Nat) (s : Shared) (v : Value) : Prop := ∀ (A : Around) (E : Value → Shared → Prop) (Q : Bool → Shared → Prop), Q false s → wpAny (model P w) A (ofAClassStatement n v) Q E s
def ByvAt (P : Program) (w : World) (n : Nat) (s : Shared) (v : Value) : Prop := ∀ (A : Around) (E : Value → Shared → Prop) (Q : Bool → Shared → Prop), Q true s → wpAny (model P w) A (hashByValue n v) Q E s
theorem ClsAt.tup {n m : Nat} {b : Addr} {o : Obj} {vs : Array Value} (ho : s.heap.get? b = some o) (hc : o.cls = .type "tuple") (hd : o.data = .seq vs m) (q : ∀ v ∈ vs.toList, ClsAt P w n s v) : ClsAt P w (n + 1) s (.ref b) := fun A E Q h => by
  unfold ofAClassStatement
  refine wpAny_bind (wpAny_typeOf ⟨o, ho, hc⟩ ?_)
  dsimp only
  have e : (("tuple" : String) == "tuple") = true := by decide
  simp only [e, if_true, Bool.not_true, Bool.false_eq_true, if_false]
  try refine wpAny_bind (wpAny_pure ?_)
  try simp only [Bool.not_true, Bool.false_eq_true, if_false]
  show wpAny _ _ (seqItems? (.ref b) >>= _) _ _ s
  refine wpAny_bind (wpAny_seqItems ho hd ?_)
  dsimp only
  refine wpAny_bind ?_
  show wpAny _ _ (forIn vs _ _) _ _ s
  rw [← Array.forIn_toList]
  refine wpAny_forIn_list _ (fun l (r : Option Bool × Unit) z => r.1 = none ∧ z = s ∧ ∀ v ∈ l, ClsAt P w n s v) _ ?_ ?_ _ _ ⟨rfl, rfl, q⟩
  · rintro v l r z ⟨_, rfl, q'⟩
    refine wpAny_bind (q' v List.mem_cons_self _ _ _ ?_)
    simp only [Bool.false_eq_true, if_false]
    exact wpAny_pure ⟨rfl, rfl, fun u hu => q' u (List.mem_cons_of_mem _ hu)⟩
  · rintro ⟨r1, r2⟩ z ⟨e, rfl, _⟩
    simp only at e
    subst e
    exact wpAny_pure h
theorem ByvAt.tup {n m : Nat} {b : Addr} {o : Obj} {vs : Array Value} (ho : s.heap.get? b = some o) (hc : o.cls = .type "tuple") (hd : o.data = .seq vs m) (q : ∀ v ∈ vs.toList, ByvAt P w n s v) : ByvAt P w (n + 1) s (.ref b) := fun A E Q h => by
  unfold hashByValue
  refine wpAny_bind (wpAny_specialOf ⟨o, ho, hc⟩ F.slot_tuple_hash.lookup ?_)
  show wpAny _ _ (seqItems? (.ref b) >>= _) _ _ s
  refine wpAny_bind (wpAny_seqItems ho hd (wpAny_bind ?_))
  show wpAny _ _ (forIn vs _ _) _ _ s
  rw [← Array.forIn_toList]
  refine wpAny_forIn_list _ (fun l (r : Option Bool × Unit) z => r.1 = none ∧ z = s ∧ ∀ v ∈ l, ByvAt P w n s v) _ ?_ ?_ _ _ ⟨rfl, rfl, q⟩
  · rintro v l r z ⟨_, rfl, q'⟩
    refine wpAny_bind (q' v List.mem_cons_self _ _ _ ?_)
    simp only [Bool.not_true, Bool.false_eq_true, if_false]
    exact wpAny_pure ⟨rfl, rfl, fun u hu => q' u (List.mem_cons_of_mem _ hu)⟩
  · rintro ⟨r1, r2⟩ z ⟨e, rfl, _⟩
    simp only at e
    subst e
    exact wpAny_pure h
mutual
theorem asks : ∀ (k : NestedKey) (v : Value) (n : Nat), NestedIs s.heap k v → k.depth ≤ n → nt k = true → ClsAt P w n s v ∧ ByvAt P w n s v
  | .none, _, n, h, _, _ => by
    cases h
    exact ⟨fun A E Q q => by cases n <;> exact wpAny_pure q, fun A E Q q => by cases n <;> exact wpAny_pure q⟩
  | .num _, _, n, h, _, _ => by
    cases h <;> exact ⟨fun A E Q q => by cases n <;> exact wpAny_pure q, fun A E Q q => by cases n <;> exact wpAny_pure q⟩
  | .text _, _, _, _, _, h => by simp [nt] at h
  | .tup ks, _, n, h, hn, ht => by
    cases h with
    | tup ho hc hd ha =>
      cases n with
      | zero => simp [NestedKey.depth] at hn
      | succ n =>
        have q := asksAll ks _ n ha (by simpa [NestedKey.depth] using hn) (by simpa [nt] using ht)
        exact ⟨.tup ho hc hd fun v hv => (q v hv).1, .tup ho hc hd fun v hv => (q v hv).2⟩
theorem asksAll : ∀ (ks : List NestedKey) (vs : List Value) (n : Nat), NestedAll s.heap ks vs → NestedKey.depthAll ks ≤ n → ntAll ks = true → ∀ v ∈ vs, ClsAt P w n s v ∧ ByvAt P w n s v
  | [], _, _, h, _, _, v, hv => by cases h; cases hv
  | k :: ks, _, n, h, hn, ht, v, hv => by
    cases h with
    | cons h1 h2 =>
      have hn' : k.depth ≤ n ∧ NestedKey.depthAll ks ≤ n := by
        simp only [NestedKey.depthAll] at hn; omega
      have ht' : nt k = true ∧ ntAll ks = true := by simpa [ntAll] using ht
      rcases List.mem_cons.mp hv with e | e
      · rw [e]; exact asks k _ n h1 hn'.1 ht'.1
      · exact asksAll ks _ n h2 hn'.2 ht'.2 v e
end
end
/-- the kind: tuples of numbers and of such tuples -/
def numK (P : Program) (w : World) : SK P w NestedKey where
  kd := { nestedKind P w with
    is := fun h k a => (nestedKind P w).is h k a ∧ nt k = true
    inj := fun x y => (nestedKind P w).inj x.1 y.1
    keeps := fun x a b c => ⟨(nestedKind P w).keeps x.1 a b c, x.2⟩
    pyHash := fun a x h => (nestedKind P w).pyHash a x.1 h
    eqBool := fun a x y h => (nestedKind P w).eqBool a x.1 y.1 h
    quiet := fun x h => (nestedKind P w).quiet x.1 h }
  cls := fun x h => (asks _ _ 8 x.1.1 x.1.2 x.2).1 _ _ _ h
  byv := fun x h => (asks _ _ 8 x.1.1 x.1.2 x.2).2 _ _ _ h
  keep := fun x q => ⟨⟨NestedIs.at (fun c o vs n e d => q c o vs n e d) _ _ x.1.1, x.1.2⟩, x.2⟩
/-! ### data as keys -/
mutual
theorem is_kof {h : Heap} : ∀ {d : PyData} {v : Value} {as : List Addr}, Reads h v d as → ni d = true → NestedIs h (kof d) v
  | .int i, _, _, r, _ => by cases r; exact .int _ _
  | .tuple ds, _, _, r, h => by
    cases r with
    | tuple ho hc hd hr => exact .tup ho hc hd (is_kofAll hr (by simpa [ni] using h))
  | .none, _, _, _, h => by simp [ni] at h
  | .bool _, _, _, _, h => by simp [ni] at h
  | .str _, _, _, _, h => by simp [ni] at h
  | .list _, _, _, _, h => by simp [ni] at h
  | .dict _, _, _, _, h => by simp [ni] at h
theorem is_kofAll {h : Heap} : ∀ {ds : List PyData} {vs : List Value} {as : List Addr}, ReadsAll h vs ds as → niAll ds = true → NestedAll h (kofAll ds) vs
  | [], _, _, r, _ => by cases r; exact .nil
  | d :: ds, _, _, r, h => by
    have h' : ni d = true ∧ niAll ds = true := by simpa [niAll] using h
    cases r with
    | cons r1 r2 => exact .cons (is_kof r1 h'.1) (is_kofAll r2 h'.2)
end
end GS

/-! GSf: sorted(a set of nested whole numbers) -/
namespace GS
open PySem PySem.Calls PyProof.Rows PySem.SeqAt PySem.W L2
theorem perm_pre {α β : Type} {f : α → β} : ∀ {us ws : List β}, us.Perm ws → ∀ {L : List α}, ws = L.map f → ∃ M : List α, M.Perm L ∧ us = M.map f := by
  intro us ws h
  induction h with
  | nil => intro L e; exact ⟨[], by rw [List.map_eq_nil_iff.mp e.symm], rfl⟩
  | cons x _ ih =>
    intro L e
    obtain ⟨a, l, rfl, e1, e2⟩ := List.map_eq_cons_iff.mp e.symm
    obtain ⟨M, h1, h2⟩ := ih e2.symm
    exact ⟨a :: M, h1.cons a, by rw [List.map_cons, h2, e1]⟩
  | swap x y l =>
    intro L e
    obtain ⟨a, l1, rfl, e1, e2⟩ := List.map_eq_cons_iff.mp e.symm
    obtain ⟨b, l2, rfl, e3, e4⟩ := List.map_eq_cons_iff.mp e2
    exact ⟨b :: a :: l2, List.Perm.swap .., by rw [List.map_cons, List.map_cons, e1, e3, e4]⟩
  | trans _ _ ih1 ih2 =>
    intro L e
    obtain ⟨M, h1, h2⟩ := ih2 e
    obtain ⟨N, h3, h4⟩ := ih1 h2
    exact ⟨N, h3.trans h1, h4⟩
theorem each_of_list {α β : Type} {R : α → β → Prop} (f : β → α) : ∀ (l : List β), (∀ b ∈ l, R (f b) b) → EachIs R (l.map f) l
  | [], _ => .nil
  | b :: l, h => .cons (h b List.mem_cons_self) (each_of_list f l fun x hx => h x (List.mem_cons_of_mem _ hx))
theorem each_map_r {α β γ : Type} {R : α → γ → Prop} {g : β → γ} : ∀ {us : List α} {bs : List β}, EachIs (fun v b => R v (g b)) us bs → EachIs R us (bs.map g)
  | _, _, .nil => .nil
  | _, _, .cons h t => .cons h (each_map_r t)
section
variable {P : Program} {w : World} {A : Around} {E : Value → Shared → Prop} {s : Shared}
variable {a : Addr} {L : List (Addr × NestedKey)} {es : Array (Int × Value)} {ep : Nat} {t : SetTable}
/-- sorted(the set): a new list of the items, in their data's order -/
theorem sorted_set {Q : Value → Shared → Prop} (T : Tb (numK P w) s.heap a L es ep t) (hh : A.handled = none) (rd : ∀ p ∈ L, ∃ as, Reads s.heap (.ref p.1) p.2.data as) (hal : AllAlike (L.map fun p => p.2.data)) (hk : Sorty (L.map fun p => p.2.data)) (hu : ∀ p ∈ L, A.units + 2 + p.2.data.depth < cLine)
    (hQ : ∀ (s' : Shared) (p : Addr) (out : Array Value) (c : Nat) (M : List (Addr × NestedKey)), (∀ b o, s.heap.get? b = some o → s'.heap.get? b = some o) → s'.gens = s.gens → s'.os = s.os → s.heap.objs.size ≤ p → s'.heap.get? p = some (seqObj "list" out c) →
      M.Perm L → EachIs (fun v (q : Addr × NestedKey) => v = .ref q.1) out.toList (M.mergeSort (dataLe false fun q => q.2.data)) → Q (.ref p) s') : wpAny (model P w) A (call (.builtin "sorted") [.ref a]) Q E s := by
  obtain ⟨o, ho, hex, hd⟩ := T.obj
  have ez := T.size; have fw := T.fw
  refine Calls.call_function_entry kind_sorted plain_sorted entry_sorted (args_sorted1 _) ?_
  unfold Builtin.«sorted»
  refine wpAny_bind (m := checkCount "sorted" 1 1 _) (wpAny_pure ?_)
  refine wpAny_bind (collect_set (A := A.in1) hh ⟨o, ho, hex.1, hd⟩ T.fit (by unfold scanBound; omega) T.tb.ris T.ld fun s1 vs k1 hz g1 o1 pm => ?_)
  have e1 : es.toList.map (·.2) = L.map fun q => Value.ref q.1 := by rw [T.rw, rws, List.map_map]; rfl
  rw [e1] at pm
  obtain ⟨M, mp, rfl⟩ := perm_pre pm rfl
  have ml : M.length < 64 := by rw [mp.length_eq]; exact fw
  refine wpAny_bind (wpAny_newList ?_ (by rw [sizeLine_eq]; simp; omega))
  generalize hvs : (M.map fun q => Value.ref q.1) = vs
  have hoL : (s1.heap.push (seqObj "list" vs.toArray 0)).get? s1.heap.objs.size = some (seqObj "list" vs.toArray 0) := Heap.get?_push_size _ rfl
  have each : EachIs (fun v (q : Addr × NestedKey) => v = .ref q.1) vs M := by rw [← hvs]; exact each_of_list _ M fun _ _ => rfl
  have hal' : AllAlike (M.map fun p => p.2.data) := fun d h d' h' => hal d ((mp.map _).mem_iff.mp h) d' ((mp.map _).mem_iff.mp h')
  have er : EachIs (fun v (q : Addr × NestedKey) => ∃ as, Reads (sortingHeap (s1.heap.push (seqObj "list" vs.toArray 0)) s1.heap.objs.size vs) v q.2.data as) vs M := by
    rw [← hvs]
    refine each_of_list _ M fun q hq => ?_
    obtain ⟨as, r⟩ := rd q (mp.mem_iff.mp hq)
    refine ⟨as, PyProof.Rows.Reads.keeps (fun b ob eb => ?_) r⟩
    have lt := Heap.lt_size (k1 b ob eb)
    exact sortingHeap_old (Nat.ne_of_lt lt) (Heap.get?_push_of_some _ (k1 b ob eb))
  refine wpAny_bind (wpAny_holding (wpAny_call_entry (T := "list") slot_list_sort ⟨_, hoL, rfl⟩ entry_list_sort (list_sort_vals (s := { s1 with heap := s1.heap.push (seqObj "list" vs.toArray 0) }) (κ := dataKind (sortingHeap (s1.heap.push (seqObj "list" vs.toArray 0)) s1.heap.objs.size vs) (M.map fun p => p.2.data)) hoL ?_ ?_ ?_) (args_list_sort _)))
  · refine sorts (s := { s1 with heap := sortingHeap (s1.heap.push (seqObj "list" vs.toArray 0)) s1.heap.objs.size vs }) (each_map_r (R := fun v d => ∃ as, Reads (sortingHeap (s1.heap.push (seqObj "list" vs.toArray 0)) s1.heap.objs.size vs) v d as) (g := fun p : Addr × NestedKey => p.2.data) er) hal' ?_ ?_
    · rcases hk with (h | h) | h
      · exact .inl (.inl fun d hd' => h d ((mp.map _).mem_iff.mp hd'))
      · exact .inl (.inr fun d hd' => h d ((mp.map _).mem_iff.mp hd'))
      · exact .inr fun d hd' => h d ((mp.map _).mem_iff.mp hd')
    · intro d hd'
      obtain ⟨q, hq, rfl⟩ := List.mem_map.mp hd'
      have := hu q (mp.mem_iff.mp hq)
      show A.in1.in1.units + _ < _
      simp
      omega
  · rw [← hvs, sizeLine_eq]; simp; omega
  · have out := sortVals_data (h' := sortingHeap (s1.heap.push (seqObj "list" vs.toArray 0)) s1.heap.objs.size vs) (enc := fun q : Addr × NestedKey => q.2.data) false each er hal'
    generalize sortVals (dataKind (sortingHeap (s1.heap.push (seqObj "list" vs.toArray 0)) s1.heap.objs.size vs) (M.map fun p => p.2.data)) false vs vs = ov at out ⊢
    obtain ⟨c, hc⟩ := sortedHeap_at (vs := vs) (out := ov.toArray) hoL
    refine ⟨_, rfl, wpAny_pure ⟨_, rfl, hQ _ s1.heap.objs.size ov.toArray c M (fun b ob eb => ?_) g1 o1 hz hc mp (by simpa using out)⟩⟩
    have lt := Heap.lt_size (k1 b ob eb)
    show (sortedHeap (s1.heap.push (seqObj "list" vs.toArray 0)) s1.heap.objs.size vs ov.toArray).get? b = some ob
    rw [sortedHeap_old (Nat.ne_of_lt lt) (by rw [size_push']; exact Nat.lt_succ_of_lt lt)]
    exact Heap.get?_push_of_some _ (k1 b ob eb)
end
end GS

/-! GSg: sorted(set(e)), as the layer's rule -/
namespace GS
open PySem PySem.Spec L2 GL PySem.W
open PyProof.Rows hiding St
section
variable {P : Program} {w : World} {K : Type} [DecidableEq K] {G : SK P w K}
/-- the set at a, its items aside -/
def Bare (G : SK P w K) (h : Heap) (a : Addr) (L : List (Addr × K)) : Prop := ∃ (es : Array (Int × Value)) (ep : Nat) (t : SetTable), (∃ o, h.get? a = some o ∧ o.ExactSet ∧ o.data = .set es ep t) ∧ es.toList = rws G L ∧ TabOk t (L.map fun p => G.kd.hash p.2) ∧ (L.map (·.2)).Nodup ∧ t.plain = true ∧
  (w.params.followText "set-order" = true ∨ t.led = true) ∧ L.length * 5 < t.mask * 3 ∧ L.length < 64
theorem Bare.full {h : Heap} {a : Addr} {L : List (Addr × K)} (R : Bare G h a L) (i : ∀ p ∈ L, G.kd.is h p.2 p.1) : ∃ es ep t, Tb G h a L es ep t := by
  obtain ⟨es, ep, t, h1, h2, h3, h4, h5, h6, h7, h8⟩ := R
  exact ⟨es, ep, t, h1, h2, h3, h4, i, h5, h6, h7, h8⟩
theorem Tb.bare {h : Heap} {a : Addr} {L : List (Addr × K)} {es : Array (Int × Value)} {ep : Nat} {t : SetTable} (T : Tb G h a L es ep t) : Bare G h a L := ⟨es, ep, t, T.obj, T.rw, T.tb, T.dis, T.pl, T.ld, T.rm, T.fw⟩
def bO (G : SK P w K) (a : Addr) (L : List (Addr × K)) : HO := .ext fun h => Bare G h a L
theorem bO_new {H : Hp} {h : Heap} {a : Addr} {L : List (Addr × K)} (R : Bare G h a L) : ObjOk P w H h a (bO G a L) := by
  have ⟨es, ep, t, ⟨o, ho, r⟩, q⟩ := R
  refine ⟨R, ⟨o, ho⟩, fun h1 h2 p k => ?_⟩
  have ⟨es', ep', t', ⟨o', ho', r'⟩, q'⟩ := (p : Bare G h1 a L)
  exact ⟨es', ep', t', ⟨o', k o' ho', r'⟩, q'⟩
end
/-- what may stand in a set: a tuple of whole numbers, nested, not too deep -/
def okKey : PyData → Bool
  | .tuple ds => niAll ds && decide ((PyData.tuple ds).depth ≤ 8)
  | _ => false
theorem okKey_ni {d : PyData} (h : okKey d = true) : ni d = true ∧ d.depth ≤ 8 ∧ ∃ ds, d = .tuple ds := by
  cases d with
  | tuple ds =>
    have h' : niAll ds = true ∧ (PyData.tuple ds).depth ≤ 8 := by simpa [okKey] using h
    exact ⟨by simpa [ni] using h'.1, h'.2, ds, rfl⟩
  | _ => simp [okKey] at h
section
variable {X : Cx} {pins : List (Addr × Obj)} {σ : St} {H : Hp} {s : Shared}
theorem key_at {F : Hp} (I : Inv X pins σ H s) (hs : Same F H) {d : PyData} {v : V} {u : Value} (hd : Dv X.K F v d) (r : RelV v u) (ok : okKey d = true) : ∃ b, v = .ref b ∧ u = .ref b ∧ (numK X.prog X.w).kd.is s.heap (kof d) b := by
  obtain ⟨h1, h2, ds, rfl⟩ := okKey_ni ok
  obtain ⟨as, rd⟩ := Dv.reads I _ _ _ (ni_noDict h1) (hd.mono hs) r
  have q := data_kof _ h1
  cases hd with
  | @tup a xs _ s1 d1 =>
    obtain rfl : u = Value.ref a := r
    exact ⟨a, rfl, rfl, ⟨is_kof rd h1, by rw [q.2.2]; exact h2⟩, q.2.1⟩
theorem keys_at {F : Hp} (I : Inv X pins σ H s) (hs : Same F H) : ∀ {ds : List PyData} {vs : List V} {us : List Value}, DvAll X.K F vs ds → Vals vs us → (∀ d ∈ ds, okKey d = true) →
    ∃ ks : List (Addr × NestedKey), us = (ks.map fun p => Value.ref p.1) ∧ ks.map (·.2) = ds.map kof ∧ (∀ p ∈ ks, (numK X.prog X.w).kd.is s.heap p.2 p.1) ∧ ∀ p ∈ ks, ∃ d ∈ ds, p.2 = kof d ∧ Dv X.K F (.ref p.1) d
  | _, _, _, .nil, .nil, _ => ⟨[], rfl, rfl, fun _ h => (by cases h), fun _ h => (by cases h)⟩
  | _, _, _, .cons (d := d) hd t, .cons r rs, ok => by
    obtain ⟨b, rfl, rfl, hb⟩ := key_at I hs hd r (ok d List.mem_cons_self)
    obtain ⟨ks, e1, e2, h1, h2⟩ := keys_at I hs t rs fun d h => ok d (List.mem_cons_of_mem _ h)
    refine ⟨(b, kof d) :: ks, by rw [List.map_cons, e1], by rw [List.map_cons, List.map_cons, e2], fun p hp => ?_, fun p hp => ?_⟩
    · rcases List.mem_cons.mp hp with e | e
      · rw [e]; exact hb
      · exact h1 p e
    · rcases List.mem_cons.mp hp with e | e
      · rw [e]; exact ⟨d, List.mem_cons_self, rfl, hd⟩
      · obtain ⟨d', m, q⟩ := h2 p e
        exact ⟨d', List.mem_cons_of_mem _ m, q⟩
end
/-- the items of a set of data ds, over the heap F -/
structure Its (K : PySem.W.Frag) (F : Hp) (ds : List PyData) (L : List (Addr × NestedKey)) : Prop where
  dat : ∀ p ∈ L, ∃ d ∈ ds, p.2 = kof d ∧ Dv K F (.ref p.1) d
  all : ∀ d ∈ ds, kof d ∈ L.map (·.2)
  nd : (L.map (·.2)).Nodup
def rSetN (K : PySem.W.Frag) (P : Program) (w : World) : List V → Hp → VK → Prop := fun xs H Q => ∃ F l vs ds, xs = [V.ref l] ∧ Same F H ∧ SqL K H l vs ∧ DvAll K F vs ds ∧ (∀ d ∈ ds, okKey d = true) ∧ ds.length < 64 ∧
  ∀ a L, H a = none → Its K F ds L → Q (.ref a) (upd H a (bO (numK P w) a L))
theorem cr_setN {X : Cx} (hc : X.calm = true) (hu : X.A.units + 64 < cLine) : CallR X (.type "set") (rSetN X.K X.prog X.w) := by
  intro pins s σ H xs us Q I r h
  obtain ⟨F, l, vs, ds, rfl, hs, hl, hd, ok, fw, q⟩ := h
  rw [Vals.ref1 r]
  obtain ⟨its, rv, pl, hz⟩ := I.list hl
  have hn : H s.heap.objs.size = none := I.hok.fresh (Nat.le_refl _)
  obtain ⟨ks, e1, e2, h1, h2⟩ := keys_at I hs hd rv ok
  have kl : ks.length = ds.length := by have := congrArg List.length e2; simpa using this
  refine call_set (G := numK X.prog X.w) ks (I.ok.hd hc) pl.isList (by simpa using e1) h1 (by rw [kl]; exact fw) (by omega) (by show _ + 8 < _; simp; omega) fun h' tk L es ep t T g k => ?_
  refine ⟨.ref s.heap.objs.size, upd H s.heap.objs.size (bO (numK X.prog X.w) s.heap.objs.size L), I.laid (t' := tk) k (Nat.le_refl _) (bO_new T.bare), rfl, q _ L hn ⟨fun p hp => h2 p (List.mem_of_mem_take (g.of p hp)), fun d m => ?_, T.dis⟩⟩
  have : kof d ∈ ks.map (·.2) := by rw [e2]; exact List.mem_map_of_mem m
  obtain ⟨p, hp, e⟩ := List.mem_map.mp this
  rw [← e]
  exact g.al p (by rw [List.take_length]; exact hp)
def rSortedN (K : PySem.W.Frag) (P : Program) (w : World) : List V → Hp → VK → Prop := fun xs H Q => ∃ F a L ds, xs = [V.ref a] ∧ Same F H ∧ H a = some (bO (numK P w) a L) ∧ Its K F ds L ∧ (∀ d ∈ ds, okKey d = true) ∧ AllAlike ds ∧
  ∀ p (M : List (Addr × NestedKey)), H p = none → M.Perm L → Q (.ref p) (upd H p (.lst ((M.mergeSort (dataLe false fun q => q.2.data)).map fun q => V.ref q.1)))
theorem vals_each : ∀ {us : List Value} {M : List (Addr × NestedKey)}, EachIs (fun v (q : Addr × NestedKey) => v = .ref q.1) us M → Vals (M.map fun q => V.ref q.1) us
  | _, _, .nil => .nil
  | _, _, .cons h t => by subst h; exact .cons rfl (vals_each t)
theorem cr_sortedN {X : Cx} (hc : X.calm = true) (hu : X.A.units + 64 < cLine) : CallR X (.builtin "sorted") (rSortedN X.K X.prog X.w) := by
  intro pins s σ H xs us Q I r h
  obtain ⟨F, a, L, ds, rfl, hs, ha, its, ok, al, q⟩ := h
  rw [Vals.ref1 r]
  have R : Bare (numK X.prog X.w) s.heap a L := (I.hok a _ ha).1
  have isk : ∀ p ∈ L, (numK X.prog X.w).kd.is s.heap p.2 p.1 := fun p hp => by
    obtain ⟨d, m, e, hd⟩ := its.dat p hp
    obtain ⟨b, e1, _, h3⟩ := key_at I hs hd rfl (ok d m)
    rw [e]
    cases e1
    exact h3
  have dt : ∀ p ∈ L, ∃ d ∈ ds, p.2.data = d ∧ Dv X.K F (.ref p.1) d := fun p hp => by
    obtain ⟨d, m, e, hd⟩ := its.dat p hp
    exact ⟨d, m, by rw [e]; exact (data_kof d (okKey_ni (ok d m)).1).1, hd⟩
  have inds : ∀ d ∈ L.map (fun p => p.2.data), d ∈ ds := fun d hd => by
    obtain ⟨p, hp, rfl⟩ := List.mem_map.mp hd
    obtain ⟨d, m, e, _⟩ := dt p hp
    rw [e]; exact m
  obtain ⟨es, ep, t, T⟩ := R.full isk
  refine sorted_set T (I.ok.hd hc) (fun p hp => ?_) (fun d h d' h' => al d (inds d h) d' (inds d' h')) (.inr fun d hd => (okKey_ni (ok d (inds d hd))).2.2) (fun p hp => ?_) fun s' p out c M k g o hp ho mp ev => ?_
  · obtain ⟨d, m, e, hd⟩ := dt p hp
    obtain ⟨as, rd⟩ := Dv.reads I _ _ _ (ni_noDict (okKey_ni (ok d m)).1) (hd.mono hs) (show RelV (V.ref p.1) (Value.ref p.1) from rfl)
    exact ⟨as, by rw [e]; exact rd⟩
  · obtain ⟨d, m, e, hd⟩ := dt p hp
    have := (okKey_ni (ok d m)).2.1
    rw [e]; omega
  have hn : H p = none := I.hok.fresh hp
  have hv := vals_each ev
  have hlen : ((M.mergeSort (dataLe false fun q => q.2.data)).map fun q => V.ref q.1).length ≤ sizeLine := by
    have := T.fw
    rw [List.length_map, (List.mergeSort_perm _ _).length_eq, mp.length_eq, sizeLine_eq]; omega
  have J : Inv X pins σ (upd H p (.lst ((M.mergeSort (dataLe false fun q => q.2.data)).map fun q => V.ref q.1))) { s with heap := s'.heap, gens := s'.gens, drawn := s'.drawn, toks := s'.toks } :=
    I.call (ch := []) (Un.laid k hp hn) (I.hok.laid k hp ⟨hlen, out.toList, c, hv, ho⟩) (by rw [g]; exact I.bare) (fun _ z => nomatch z)
  have e : s' = { s with heap := s'.heap, gens := s'.gens, drawn := s'.drawn, toks := s'.toks } := by
    cases s'; cases s; cases o; rfl
  rw [e]
  exact ⟨.ref p, _, J, rfl, q p M hn mp⟩
end GS

/-! GSh: what sorted(set(e)) gives, as a function of data -/
namespace GS
open PySem PySem.Spec L2 GL PySem.W
open PyProof.Rows hiding St
/-- each item once -/
def once : List NestedKey → List NestedKey
  | [] => []
  | k :: ks => if k ∈ ks then once ks else k :: once ks
theorem mem_once {a : NestedKey} : ∀ {l : List NestedKey}, a ∈ once l ↔ a ∈ l
  | [] => by simp [once]
  | k :: l => by
    unfold once
    split
    · rename_i h
      rw [mem_once, List.mem_cons]
      exact ⟨.inr, fun q => q.elim (fun e => e ▸ h) id⟩
    · rw [List.mem_cons, List.mem_cons, mem_once]
theorem nodup_once : ∀ l : List NestedKey, (once l).Nodup
  | [] => List.nodup_nil
  | k :: l => by
    unfold once
    split
    · exact nodup_once l
    · rename_i h
      exact List.nodup_cons.mpr ⟨fun q => h (mem_once.mp q), nodup_once l⟩
def kLe (a b : NestedKey) : Bool := dataLe false NestedKey.data a b
/-- the items of ds, each once, in order -/
def sortK (ds : List PyData) : List PyData := ((once (ds.map kof)).mergeSort kLe).map NestedKey.data
theorem toks_same {x y : PyData} (h : alike x y = true) (e : keyToks x = keyToks y) : PyData.eqv x y = true := by
  cases q : PyData.eqv x y with
  | true => rfl
  | false =>
    have z := (toks_eqv x y h).2 q [] [.inl 0]
    rw [e, List.append_nil, lex_irrefl] at z
    have z2 := lex_pre (keyToks y) [] [.inl 0]
    rw [List.append_nil, z] at z2
    simp [PyProof.Rows.lexLt] at z2
mutual
theorem eqv_ni : ∀ {x y : PyData}, ni x = true → ni y = true → PyData.eqv x y = true → x = y
  | .int i, y, _, hy, h => by
    cases y with
    | int j =>
      have q : i = j := by simpa [PyData.eqv] using h
      rw [q]
    | tuple _ => simp [PyData.eqv] at h
    | _ => simp [ni] at hy
  | .tuple xs, y, hx, hy, h => by
    cases y with
    | int j => simp [PyData.eqv] at h
    | tuple ys =>
      have q : xs = ys := eqv_niAll (by simpa [ni] using hx) (by simpa [ni] using hy) (by simpa [PyData.eqv] using h)
      rw [q]
    | _ => simp [ni] at hy
  | .none, _, hx, _, _ => by simp [ni] at hx
  | .bool _, _, hx, _, _ => by simp [ni] at hx
  | .str _, _, hx, _, _ => by simp [ni] at hx
  | .list _, _, hx, _, _ => by simp [ni] at hx
  | .dict _, _, hx, _, _ => by simp [ni] at hx
theorem eqv_niAll : ∀ {xs ys : List PyData}, niAll xs = true → niAll ys = true → PyData.eqvAll xs ys = true → xs = ys
  | [], [], _, _, _ => rfl
  | [], _ :: _, _, _, h => by simp [PyData.eqvAll] at h
  | _ :: _, [], _, _, h => by simp [PyData.eqvAll] at h
  | x :: xs, y :: ys, hx, hy, h => by
    have hx' : ni x = true ∧ niAll xs = true := by simpa [niAll] using hx
    have hy' : ni y = true ∧ niAll ys = true := by simpa [niAll] using hy
    have h' : PyData.eqv x y = true ∧ PyData.eqvAll xs ys = true := by simpa [PyData.eqvAll] using h
    rw [eqv_ni hx'.1 hy'.1 h'.1, eqv_niAll hx'.2 hy'.2 h'.2]
end
theorem le_tot (β : Type) (k : β → PyData) : (∀ a b c, dataLe false k a b = true → dataLe false k b c = true → dataLe false k a c = true) ∧ ∀ a b, (dataLe false k a b || dataLe false k b a) = true := ⟨(sortLe_total (listOrd itemOrd) false fun b => keyToks (k b)).trans, fun a b => by
  have := (sortLe_total (listOrd itemOrd) false fun b => keyToks (k b)).total a b
  simpa [dataLe] using this⟩
theorem le_anti {x y : PyData} (hx : ni x = true) (hy : ni y = true) (h : alike x y = true) (h1 : dataLe false id x y = true) (h2 : dataLe false id y x = true) : x = y := by
  have a1 : (listOrd itemOrd).blt (keyToks y) (keyToks x) = false := by
    have : (!(listOrd itemOrd).blt (keyToks y) (keyToks x)) = true := h1
    simpa using this
  have a2 : (listOrd itemOrd).blt (keyToks x) (keyToks y) = false := by
    have : (!(listOrd itemOrd).blt (keyToks x) (keyToks y)) = true := h2
    simpa using this
  exact eqv_ni hx hy (toks_same h ((listOrd itemOrd).total _ _ a2 a1))
/-- what is needed of the items -/
def okSet (ds : List PyData) : Bool := ds.all okKey && decide (ds.length < 64) && ds.all fun a => ds.all fun b => alike a b
theorem okSet_all {ds : List PyData} (h : okSet ds = true) : (∀ d ∈ ds, okKey d = true) ∧ ds.length < 64 ∧ AllAlike ds := by
  unfold okSet at h
  rw [Bool.and_eq_true, Bool.and_eq_true, List.all_eq_true, List.all_eq_true, decide_eq_true_eq] at h
  exact ⟨h.1.1, h.1.2, fun d hd d' hd' => List.all_eq_true.mp (h.2 d hd) d' hd'⟩
/-- rows of a set, sorted, are what sortK says -/
theorem sorted_is {K : PySem.W.Frag} {F : Hp} {ds : List PyData} {L M : List (Addr × NestedKey)} (its : Its K F ds L) (ok : okSet ds = true) (mp : M.Perm L) : (M.mergeSort (dataLe false fun q => q.2.data)).map (·.2) = (once (ds.map kof)).mergeSort kLe := by
  obtain ⟨o1, _, o3⟩ := okSet_all ok
  have inds : ∀ k, k ∈ L.map (·.2) → ∃ d ∈ ds, k = kof d := fun k hk => by
    obtain ⟨p, hp, rfl⟩ := List.mem_map.mp hk
    obtain ⟨d, m, e, _⟩ := its.dat p hp
    exact ⟨d, m, e⟩
  have pm : (M.map (·.2)).Perm (once (ds.map kof)) := by
    refine (List.perm_ext_iff_of_nodup (((mp.map _).nodup_iff).mpr its.nd) (nodup_once _)).mpr fun k => ?_
    rw [mem_once, (mp.map _).mem_iff]
    constructor
    · intro h
      obtain ⟨d, m, rfl⟩ := inds k h
      exact List.mem_map_of_mem m
    · intro h
      obtain ⟨d, m, rfl⟩ := List.mem_map.mp h
      exact its.all d m
  rw [sort_maps (r := dataLe false fun q : Addr × NestedKey => q.2.data) (s := kLe) (fun q : Addr × NestedKey => q.2) fun a _ b _ => rfl]
  have tt := le_tot NestedKey NestedKey.data
  refine List.Perm.eq_of_pairwise (le := fun a b => kLe a b = true) (fun a b ha hb h1 h2 => ?_) (List.pairwise_mergeSort tt.1 tt.2 _) (List.pairwise_mergeSort tt.1 tt.2 _) (((List.mergeSort_perm _ _).trans pm).trans (List.mergeSort_perm _ _).symm)
  have ha' := inds a ((mp.map _).mem_iff.mp ((List.mergeSort_perm _ _).mem_iff.mp ha))
  have hb' := mem_once.mp ((List.mergeSort_perm _ _).mem_iff.mp hb)
  obtain ⟨x, hx, rfl⟩ := ha'
  obtain ⟨y, hy, rfl⟩ := List.mem_map.mp hb'
  have nx := (okKey_ni (o1 x hx)).1
  have ny := (okKey_ni (o1 y hy)).1
  have e1 := (data_kof x nx).1
  have e2 := (data_kof y ny).1
  have q1 : dataLe false id x y = true := by
    have : dataLe false id (kof x).data (kof y).data = true := h1
    rwa [e1, e2] at this
  have q2 : dataLe false id y x = true := by
    have : dataLe false id (kof y).data (kof x).data = true := h2
    rwa [e1, e2] at this
  rw [le_anti nx ny (o3 x hx y hy) q1 q2]
def dSortSet : List PyData → Option (List PyData)
  | [.list ds] => if okSet ds = true then some (sortK ds) else none
  | _ => none
section
variable {X : Cx} {Bo : Option Addr} {W : WX} {e : Expr} {fa : PSt → Rs (List PyData)} {pos pos2 p p2 : Pos}
theorem junk {F H : Hp} (hs : Same F H) {a : Addr} {o : HO} (ha : H a = none) : Gr F H F (upd H a o) := ⟨.refl _, fun _ _ e => .inl e, same_upd ha, fun b u e => same_upd ha _ _ (hs b u e)⟩
theorem sortSet_data : ∀ σ H Q, tR X.K X.mg Bo W (RO X.K) (fAppO dSortSet fa) σ H Q → tCB (rSortedN X.K X.prog X.w) (tCons (tCB (rSetN X.K X.prog X.w) (tR X.K X.mg Bo W (RA X.K) fa)) tNil) σ H Q := fun σ H Q q => by
  refine tR_bind RO.rb q fun vs ds F F1 H1 ps ps1 sr st hv q => ?_
  split at q
  · rename_i es ee
    unfold dSortSet at ee
    split at ee
    · split at ee
      · rename_i ok
        cases ee
        rename_i ds
        obtain ⟨o1, o2, o3⟩ := okSet_all ok
        obtain ⟨v, rfl, hd⟩ := dpall1 hv
        cases hd with
        | lst s1 d1 =>
          refine ⟨F1, _, _, ds, rfl, sr.le, sr.le.seq s1, d1, o1, o2, fun a L ha its => ?_⟩
          have g := junk (o := bO (numK X.prog X.w) a L) sr.le ha
          have sr2 := sr.gr g
          refine ⟨F1, a, L, ds, rfl, sr2.le, upd_same, its, o1, o3, fun p M hp mp => ?_⟩
          have es := sorted_is its ok mp
          have hd : DvAll X.K F1 ((M.mergeSort (dataLe false fun q => q.2.data)).map fun q => V.ref q.1) (sortK ds) := by
            unfold sortK
            rw [← es, List.map_map]
            have key : ∀ N : List (Addr × NestedKey), (∀ q ∈ N, ∃ d ∈ ds, q.2 = kof d ∧ Dv X.K F1 (.ref q.1) d) → DvAll X.K F1 (N.map fun q => V.ref q.1) (N.map (NestedKey.data ∘ fun q => q.2)) := by
              intro N
              induction N with
              | nil => intro _; exact .nil
              | cons n N ih =>
                intro h
                obtain ⟨d, m, e, hd⟩ := h n List.mem_cons_self
                refine .cons ?_ (ih fun q hq => h q (List.mem_cons_of_mem _ hq))
                show Dv X.K F1 (.ref n.1) (NestedKey.data n.2)
                rw [e, (data_kof d (okKey_ni (o1 d m)).1).1]
                exact hd
            exact key _ fun n hn => its.dat n (mp.mem_iff.mp ((List.mergeSort_perm _ _).mem_iff.mp hn))
          obtain ⟨g2, s2, ro⟩ := new_own sr2 hp hd
          exact q (.ref p) _ _ ((Step.of_gr g).trans (.of_gr g2)) s2 (RO.rb _ _ _ _ _ _ _ _ _ _ _ _ (Step.of_gr g) ro)
      · cases ee
    · cases ee
  · exact q.elim
/-- sorted(set(e)) -/
theorem go_sortSet (hc : X.calm = true) (hu : X.A.units + 64 < cLine) (g1 : Gl X "sorted") (m1 : X.mg "sorted" = none) (g2 : Gl X "set") (m2 : X.mg "set" = none) (ha : GA X Bo W [e] fa)
    (he : starEach [e] X.env = (false, eval e X.env) :: starEach [] X.env := by rfl) (hpl : (backTo pos2 (starEach [] X.env)).any (·.1) = false := by rfl)
    (he2 : starEach [Expr.Call (.Name "set" p2) [e] [] pos2] X.env = (false, eval (Expr.Call (.Name "set" p2) [e] [] pos2) X.env) :: starEach [] X.env := by rfl) (hpl2 : (backTo pos (starEach [] X.env)).any (·.1) = false := by rfl) :
    GO X Bo W (.Call (.Name "sorted" p) [.Call (.Name "set" p2) [e] [] pos2] [] pos) (fAppO dSortSet fa) :=
  (pe_callB (cr_sortedN hc hu) g1 m1 (by rfl) (pa_cons (pe_callTy (cr_setN hc hu) g2 m2 (by rfl) ha (by decide) (by decide) he hpl) pa_nil he2) (by decide) (by decide) he2 hpl2).imp sortSet_data
end
end GS

/-! GLn: more of lists: list + list, sorted(list), sum(list) -/
namespace GL
open PySem PySem.Spec L2 GS PySem.W
open PyProof.Rows hiding St
section
variable {X : Cx} {Bo : Option Addr} {W : WX} {e e1 e2 e3 : Expr} {es : List Expr} {f f1 f2 f3 : PSt → Rs PyData} {fa : PSt → Rs (List PyData)} {pos p p2 : Pos}
/-! ### list + list -/
def rCatL (K : PySem.W.Frag) : R2 := fun x y H Q => ∃ a b xs ys, x = .ref a ∧ y = .ref b ∧ SqL K H a xs ∧ SqL K H b ys ∧ xs.length + ys.length ≤ sizeLine ∧ ∀ p, H p = none → Q (.ref p) (upd H p (.lst (xs ++ ys)))
theorem op_catL : OpR X (binaryOp .Add) (rCatL X.K) := by
  intro pins s σ H x y v u Q I rx ry h
  obtain ⟨a, b, xs, ys, rfl, rfl, ha, hb, hz, q⟩ := h
  cases rx
  cases ry
  obtain ⟨its, r1, p1, _⟩ := I.list ha
  obtain ⟨its2, r2, p2, _⟩ := I.list hb
  obtain ⟨⟨c1, d1, da1, s1⟩, n1, o1, e1, _, f1⟩ := id p1
  obtain ⟨⟨c2, d2, da2, s2⟩, n2, o2, e2, _, f2⟩ := id p2
  simp only at e1 f1 e2 f2
  subst e1 f1 e2 f2
  have z : its.length + its2.length ≤ sizeLine := by rw [← r1.length, ← r2.length]; exact hz
  refine concat_meets ⟨_, o1, rfl⟩ ⟨_, o2, rfl⟩ noFill_list_add seq_list_add PySem.F.slot_list_add PySem.F.entry_list_add (PySem.F.args_list_add_2 _ _) (list_addW a b its.toArray its2.toArray n1 n2 d1 d2 s1 s2 (by simpa using z)) ⟨o1, o2, ?_⟩
  rw [show its.toArray ++ its2.toArray = (its ++ its2).toArray by simp]
  exact ⟨.ref _, _, I.lnew (t' := s.toks) (r1.append r2) (by rw [List.length_append]; exact hz), rfl, q _ I.fresh⟩
/-- an operator that makes a new list, by data -/
def OpO (K : PySem.W.Frag) (r : R2) (D : PyData → PyData → Option (List PyData)) : Prop := ∀ F H x y a b d Q, Same F H → Dv K F x a → Dv K F y b → D a b = some d → (∀ p us, H p = none → DvAll K F us d → Q (.ref p) (upd H p (.lst us))) → r x y H Q
def fBinO (D : PyData → PyData → Option (List PyData)) (f1 f2 : PSt → Rs PyData) : PSt → Rs PV := fun ps => (f1 ps).bind fun a ps1 => (f2 ps1).bind fun b ps2 => match D a b with
  | some d => .ok (.own (.list d)) ps2
  | none => .bad
theorem go_bin {op : Operator} {r : R2} {D : PyData → PyData → Option (List PyData)} (ho : OpR X (binaryOp op) r) (hr : OpO X.K r D) (h1 : GV X Bo W e1 f1) (h2 : GV X Bo W e2 f2) : GO X Bo W (.BinOp e1 op e2 pos) (fBinO D f1 f2) :=
  (pe_op ho h1 h2).imp fun σ H Q q => by
    refine tR_bind RO.rb q fun v a F F1 H1 ps ps1 sr st hv q => ?_
    refine go_bind RO.rb sr q fun u b F2 H2 ps2 sr2 st2 hu q => ?_
    split at q
    · rename_i d ed
      refine hr F2 H2 v u a b d Q sr2.le (hv.mono st2.grow) hu ed fun p us hp h => ?_
      obtain ⟨g, s2, ro⟩ := new_own sr2 hp h
      exact q (.ref p) _ _ (.of_gr g) s2 ro
    · exact q.elim
def dCatL : PyData → PyData → Option (List PyData)
  | .list xs, .list ys => if xs.length + ys.length ≤ sizeLine then some (xs ++ ys) else none
  | _, _ => none
theorem catL_ok {K : PySem.W.Frag} : OpO K (rCatL K) dCatL := fun F H x y a b d Q hs hx hy e k => by
  unfold dCatL at e
  split at e
  · split at e
    · rename_i hl
      cases e
      cases hx with
      | lst s1 d1 =>
        cases hy with
        | lst s2 d2 =>
          exact ⟨_, _, _, _, rfl, rfl, hs.seq s1, hs.seq s2, by rw [d1.length, d2.length]; exact hl, fun p hp => k p _ hp (d1.append d2)⟩
    · cases e
  · cases e
theorem go_catL (h1 : GV X Bo W e1 f1) (h2 : GV X Bo W e2 f2) : GO X Bo W (.BinOp e1 .Add e2 pos) (fBinO dCatL f1 f2) := go_bin op_catL catL_ok h1 h2
/-! ### sum of whole numbers -/
def intsOf : List PyData → Option (List Int)
  | [] => some []
  | .int i :: ds => (intsOf ds).map (i :: ·)
  | _ :: _ => none
theorem intsOf_map : ∀ {ds : List PyData} {ns : List Int}, intsOf ds = some ns → ds = ns.map .int
  | [], _, h => by cases h; rfl
  | .int i :: ds, ns, h => by
    unfold intsOf at h
    cases q : intsOf ds with
    | none => rw [q] at h; cases h
    | some ms => rw [q] at h; cases h; rw [intsOf_map q]; rfl
  | .none :: _, _, h => by cases h
  | .bool _ :: _, _, h => by cases h
  | .str _ :: _, _, h => by cases h
  | .list _ :: _, _, h => by cases h
  | .tuple _ :: _, _, h => by cases h
  | .dict _ :: _, _, h => by cases h
theorem dp_ints {K : PySem.W.Frag} {F : Hp} : ∀ {xs : List V} {ns : List Int}, DvAll K F xs (ns.map .int) → xs = ns.map V.int
  | _, [], h => by cases h; rfl
  | _, n :: ns, h => by
    cases h with
    | cons h1 h2 => cases h1; rw [dp_ints h2]; rfl
def dSum : List PyData → Option PyData
  | [.list ds] => (intsOf ds).map fun ns => .int ns.sum
  | _ => none
theorem sum_ok {K : PySem.W.Frag} : CallD K (rSum K) dSum := fun F H xs ds d Q hs hx e k => by
  unfold dSum at e
  split at e
  · rename_i es
    obtain ⟨v, rfl, h⟩ := dpall1 hx
    cases q : intsOf es with
    | none => rw [q] at e; cases e
    | some ns =>
      rw [q] at e; cases e
      rw [intsOf_map q] at h
      cases h with
      | lst s1 d1 => exact ⟨_, ns, rfl, by rw [← dp_ints d1]; exact hs.seq s1, k _ F H (.refl hs) (.int _)⟩
  · cases e
/-! ### sorted(list) -/
def okSort (ds : List PyData) : Bool := ds.all okKey && decide (ds.length ≤ 100000) && ds.all fun a => ds.all fun b => alike a b
def dSorted : List PyData → Option (List PyData)
  | [.list ds] => if okSort ds = true then some (ds.mergeSort (dataLe false id)) else none
  | _ => none
end
/-! ### a statement, an expression that is never come to -/
section
variable {X : Cx} {Bo : Option Addr} {W : WX}
theorem gs_bad {st : Stmt} : GS X Bo W st (fun _ => .bad) := ⟨fun pins s σ H D I h => by
  obtain ⟨F, ps, sr, h⟩ := h
  exact h.elim⟩
theorem gv_bad {e : Expr} : GV X Bo W e (fun _ => .bad) := ⟨fun pins s σ H Q I h => by
  obtain ⟨F, ps, sr, h⟩ := h
  exact h.elim⟩
end
end GL

/-! GLo: sorted(list); list(range(..)) -/
namespace GL
open PySem PySem.Spec L2 GS PySem.W
open PyProof.Rows hiding St
theorem each_out {K : PySem.W.Frag} {F : Hp} : ∀ {us : List Value} {ds : List PyData}, EachIs (fun v d => ∃ x : V, RelV x v ∧ Dv K F x d) us ds → ∃ xs, Vals xs us ∧ DvAll K F xs ds
  | _, _, .nil => ⟨[], .nil, .nil⟩
  | _, _, .cons ⟨x, r, h⟩ t => by
    obtain ⟨xs, h1, h2⟩ := each_out t
    exact ⟨x :: xs, .cons r h1, .cons h h2⟩
theorem each_in {K : PySem.W.Frag} {F : Hp} {R : Value → PyData → Prop} (h : ∀ x v d, RelV x v → Dv K F x d → R v d) : ∀ {xs : List V} {us : List Value} {ds : List PyData}, Vals xs us → DvAll K F xs ds → EachIs R us ds
  | _, _, _, .nil, .nil => .nil
  | _, _, _, .cons r t, .cons d e => .cons (h _ _ _ r d) (each_in h t e)
theorem each_inM {K : PySem.W.Frag} {F : Hp} {R : Value → PyData → Prop} : ∀ {xs : List V} {us : List Value} {ds : List PyData}, (∀ x v d, d ∈ ds → RelV x v → Dv K F x d → R v d) → Vals xs us → DvAll K F xs ds → EachIs R us ds
  | _, _, _, _, .nil, .nil => .nil
  | _, _, _, h, .cons r t, .cons d e => .cons (h _ _ _ List.mem_cons_self r d) (each_inM (fun x v d m => h x v d (List.mem_cons_of_mem _ m)) t e)
theorem okSort_all {ds : List PyData} (h : okSort ds = true) : (∀ d ∈ ds, okKey d = true) ∧ ds.length ≤ 100000 ∧ AllAlike ds := by
  unfold okSort at h
  rw [Bool.and_eq_true, Bool.and_eq_true, List.all_eq_true, List.all_eq_true, decide_eq_true_eq] at h
  exact ⟨h.1.1, h.1.2, fun d hd d' hd' => List.all_eq_true.mp (h.2 d hd) d' hd'⟩
def rSortL (K : PySem.W.Frag) : List V → Hp → VK → Prop := fun xs H Q => ∃ F l vs ds, xs = [V.ref l] ∧ Same F H ∧ SqL K H l vs ∧ DvAll K F vs ds ∧ okSort ds = true ∧ ∀ p us, H p = none → DvAll K F us (ds.mergeSort (dataLe false id)) → Q (.ref p) (upd H p (.lst us))
theorem cr_sortL {X : Cx} (hc : X.calm = true) (hu : X.A.units + 64 < cLine) : CallR X (.builtin "sorted") (rSortL X.K) := by
  intro pins s σ H xs us Q I r h
  obtain ⟨F, l, vs, ds, rfl, hs, hl, hd, ok, q⟩ := h
  obtain ⟨o1, o2, o3⟩ := okSort_all ok
  rw [Vals.ref1 r]
  obtain ⟨its, rv, pl, hz⟩ := I.list hl
  have il : its.length = ds.length := by rw [← rv.length, hd.length]
  have er : EachIs (fun v d => ∃ as, Reads s.heap v d as) its ds := each_inM (fun x v d m hr hdd => Dv.reads I d x v (ni_noDict (okKey_ni (o1 d m)).1) (hdd.mono hs) hr) rv hd
  have er' : EachIs (fun v d => ∃ as, Reads (sortingHeap (copyHeap s.heap its) (s.heap.objs.size + 1) its) v d as) its ds := er.mono fun _ _ ⟨as, r⟩ => ⟨as, PyProof.Rows.Reads.keeps (fun _ _ => sorting_copy_old) r⟩
  have ev : EachIs (fun v d => ∃ x : V, RelV x v ∧ Dv X.K F x d) its ds := each_in (fun x v d hr hdd => ⟨x, hr, hdd⟩) rv hd
  refine sorted_vals (κ := dataKind (sortingHeap (copyHeap s.heap its) (s.heap.objs.size + 1) its) ds) pl.isList (sorts (s := { s with heap := sortingHeap (copyHeap s.heap its) (s.heap.objs.size + 1) its }) er' o3 (.inr fun d hd' => (okKey_ni (o1 d hd')).2.2) fun d hd' => ?_) (by rw [il, sizeLine_eq]; omega) ?_
  · have := (okKey_ni (o1 d hd')).2.1
    show X.A.in1.in1.units + _ < _
    simp
    omega
  · have out := sortVals_data (h' := sortingHeap (copyHeap s.heap its) (s.heap.objs.size + 1) its) (enc := id) false ev (by simpa using er') (by simpa using o3)
    rw [List.map_id] at out
    have ol := sortVals_length (κ := dataKind (sortingHeap (copyHeap s.heap its) (s.heap.objs.size + 1) its) ds) false (rfl : its.length = its.length)
    generalize sortVals (dataKind (sortingHeap (copyHeap s.heap its) (s.heap.objs.size + 1) its) ds) false its its = ov at out ol ⊢
    obtain ⟨ys, h1, h2⟩ := each_out out
    obtain ⟨e, he⟩ := sortedAll_at s.heap its ov.toArray
    have hn : H (s.heap.objs.size + 1) = none := I.hok.fresh (Nat.le_succ _)
    refine ⟨.ref (s.heap.objs.size + 1), _, I.laid (t' := s.toks) (a := s.heap.objs.size + 1) (o := .lst ys) (fun b u eb => sortedAll_old eb) (Nat.le_succ _) ⟨?_, ov, e, h1, he⟩, rfl, q _ ys hn h2⟩
    rw [h1.length, ol, il, sizeLine_eq]; omega
theorem sortL_ok {K : PySem.W.Frag} : CallO K (rSortL K) dSorted := fun F H xs ds d Q hs hx e k => by
  unfold dSorted at e
  split at e
  · split at e
    · rename_i ok
      cases e
      obtain ⟨v, rfl, h⟩ := dpall1 hx
      cases h with
      | lst s1 d1 => exact ⟨F, _, _, _, rfl, hs, hs.seq s1, d1, ok, k⟩
    · cases e
  · cases e
end GL

/-! GSi: set(a tuple of tuples) -/
namespace GS
open PySem PySem.Spec PyProof.Rows L2
theorem sub_tup_set : isSubtype (.type "tuple") (.type "set") = pure false := by rw [isSubtype_type]; kernel_rfl
theorem sub_tup_frz : isSubtype (.type "tuple") (.type "frozenset") = pure false := by rw [isSubtype_type]; kernel_rfl
section
variable {P : Program} {w : World} {K : Type} [DecidableEq K] {G : SK P w K}
variable {A : Around} {E : Value → Shared → Prop} {s : Shared}
set_option maxHeartbeats 3200000 in
/-- set(xs), xs a tuple of tuples -/
theorem call_setT {l : Addr} {vs : Array Value} (ks : List (Addr × K)) {Q : Value → Shared → Prop} (hh : A.handled = none) (hl : s.heap.IsTuple l vs) (hv : vs.toList = ks.map fun p => Value.ref p.1) (hk : ∀ p ∈ ks, G.kd.is s.heap p.2 p.1) (fw : ks.length < 64) (hu : A.units + 3 < cLine) (hr : G.kd.room A.in1.in1.in1)
    (h : ∀ (h' : Heap) (tk : Nat) (L : List (Addr × K)) es ep t, Tb G h' s.heap.objs.size L es ep t → Had ks ks.length L → (∀ b o, s.heap.get? b = some o → h'.get? b = some o) → Q (.ref s.heap.objs.size) { s with heap := h', toks := tk }) :
    wpAny (model P w) A (call (.type "set") [.ref l]) Q E s := by
  have vsz : vs.size = ks.length := by rw [← Array.length_toList, hv, List.length_map]
  obtain ⟨c, tl, hmro⟩ := F.called_set.mro
  have hmade := F.called_set.made
  have hsub := F.called_set.sub
  refine wpAny_call (codeAny_of_tree ?_)
  show wpAny _ _ (callAny (.type "set") _) _ _ _
  refine wpAny_pure ⟨Code.quiet_builtin _ (by decide +kernel), codeAny_builtin F.entry_type_call ?_⟩
  rw [Around.under_plain (weight_type_call_type "set" [.ref l] []) rfl]
  have h1 := F.called_set.notType
  have h2 := F.called_set.canCreate
  have hct := F.typeCall_set_1 (.ref l)
  repeat (any_goals (first | assumption | wp_step))
  refine codeAny_mono (code_set_led1 (.ref l) (E := E) (Q₁ := fun u z => u = .ref s.heap.objs.size ∧ z = { s with heap := s.heap.push (set0 w) }) ⟨rfl, rfl⟩) fun r s₁ hr₁ => ?_
  cases r with
  | error e => exact hr₁
  | ok fl =>
    cases fl with
    | ret u =>
      obtain ⟨rfl, rfl⟩ := hr₁
      have own : (s.heap.push (set0 w)).get? s.heap.objs.size = some (set0 w) := Heap.get?_push_size _ rfl
      have hT : Shared.TypeIs { s with heap := s.heap.push (set0 w) } (.ref s.heap.objs.size) "set" := ⟨_, own, rfl⟩
      have hli := F.called_set.init.lookup
      have hbi := F.called_set.init.bind (.ref s.heap.objs.size)
      repeat (any_goals (first | assumption | wp_step))
      refine codeAny_mono (codeAny_call_builtin (R := wants (fun r z => r = .none ∧ ∃ (h' : Heap) (tk : Nat) (L : List (Addr × K)) (es : Array (Int × Value)) (ep : Nat) (t : SetTable), z = { s with heap := h', toks := tk } ∧ Tb G h' s.heap.objs.size L es ep t ∧ Had ks ks.length L ∧
          ∀ b o, s.heap.get? b = some o → h'.get? b = some o) E) F.called_set.init.plain F.entry_set_init (check_set_init_1 hT ?_)) fun r₂ s₂ hr₂ => ?_
      · obtain ⟨⟨oc, od, oda, osl⟩, hol, hcl, nl, hdl⟩ := hl
        simp only at hcl hdl
        subst hcl; subst hdl
        have l1 : (s.heap.push (set0 w)).IsTuple l vs := ⟨_, Heap.get?_push_of_some _ hol, rfl, nl, rfl⟩
        have hol' := Heap.get?_push_of_some (set0 w) hol
        have hsls := sub_tup_set
        have hslf := sub_tup_frz
        have hne : (Value.type "tuple" == Value.type "dict") = false := by decide
        unfold Builtin.«set.__init__» noKeywords Builtin.Frozenset.updateFrom
        generalize hPI : pyIter = PI
        wp_walk
        subst hPI
        refine wpAny_pyIter_tuple l1 (wpAny_bind (wpAny_runValue ?_))
        have old : l < s.heap.objs.size := Heap.lt_size hol
        have sz : (s.heap.push (set0 w)).objs.size = s.heap.objs.size + 1 := Heap.size_push ..
        have ne : l ≠ (s.heap.push (set0 w)).objs.size := by rw [sz]; exact Nat.ne_of_lt (Nat.lt_succ_of_lt old)
        have h3 : A.in1.in1.in1.handled = none := by simp [hh]
        have bare : ∀ b, s.heap.objs.size ≤ b → s.heap.get? b = none := fun b hb => by
          cases q : s.heap.get? b with
          | none => rfl
          | some o => exact absurd (Heap.lt_size q) (Nat.not_lt.mpr hb)
        refine put_all (G := G) ((Walks.tuple h3 _ l ne vs).toS) s.heap.objs.size ?nf ks vsz fw ?val s.heap hk (bare _ (Nat.le_refl _)) ?wr hr (vs.size - 0) 0 _ (by omega) (Nat.zero_le _) ⟨⟨_, Heap.get?_push_size _ rfl, rfl, rfl⟩, l1.push _⟩ (fun b o e => Heap.get?_push_of_some _ (Heap.get?_push_of_some _ e)) ?em ?fin
        case nf =>
          rw [sz]; simp only [List.mem_cons, List.not_mem_nil, or_false, not_or]
          exact ⟨Nat.ne_of_lt (Nat.lt_succ_self _), Nat.ne_of_gt old⟩
        case val => 
          intro i v hi
          have q : vs.toList[i]? = some v := by rw [Array.getElem?_toList]; exact hi
          rw [hv, List.getElem?_map] at q
          cases z : ks[i]? with
          | none => rw [z] at q; cases q
          | some p => rw [z] at q; exact ⟨p, rfl, (Option.some.inj q).symm⟩
        case wr => intro b hb; rw [List.mem_singleton.mp hb, sz]; exact bare _ (Nat.le_succ _)
        case em => exact ⟨[], #[], 0, _, .empty (Heap.get?_push_of_some _ own), ⟨fun p hp => (by cases hp), fun p hp => (by simp at hp), Nat.le_refl _⟩⟩
        case fin =>
          intro s' L es ep t mv T g q
          obtain ⟨h', g2, d', tk', os'⟩ := s'
          obtain rfl : g2 = s.gens := mv.gens
          obtain rfl : d' = s.drawn := mv.drawn
          obtain rfl : os' = s.os := mv.os
          show wpAny _ _ _ _ _ _
          refine wpAny_pure ?_
          show wpAny _ _ (ret Value.none) _ _ _
          rw [vsz] at g
          exact wpAny_pure ⟨rfl, h', tk', L, es, ep, t, rfl, T, g, q⟩
      · cases r₂ with
        | error e => exact hr₂
        | ok fl₂ =>
          cases fl₂ with
          | ret r =>
            obtain ⟨rfl, h', tk, L, es, ep, t, rfl, T, g, q⟩ := hr₂
            repeat (any_goals (first | assumption | wp_step))
            exact h _ _ _ _ _ _ T g q
          | _ => exact hr₂.elim
    | _ => exact hr₁.elim
end
end GS

/-! GSj: sorted(set(e)), e a list or a tuple -/
namespace GS
open PySem PySem.Spec L2 GL PySem.W
open PyProof.Rows hiding St
def rSetT (K : PySem.W.Frag) (P : Program) (w : World) : List V → Hp → VK → Prop := fun xs H Q => ∃ F l vs ds, xs = [V.ref l] ∧ Same F H ∧ SqT K H l vs ∧ DvAll K F vs ds ∧ (∀ d ∈ ds, okKey d = true) ∧ ds.length < 64 ∧
  ∀ a L, H a = none → Its K F ds L → Q (.ref a) (upd H a (bO (numK P w) a L))
def rSetA (K : PySem.W.Frag) (P : Program) (w : World) : List V → Hp → VK → Prop := fun xs H Q => rSetN K P w xs H Q ∨ rSetT K P w xs H Q
theorem cr_setA {X : Cx} (hc : X.calm = true) (hu : X.A.units + 64 < cLine) : CallR X (.type "set") (rSetA X.K X.prog X.w) := by
  intro pins s σ H xs us Q I r h
  rcases h with h | h
  · exact cr_setN hc hu pins s σ H xs us Q I r h
  obtain ⟨F, l, vs, ds, rfl, hs, hl, hd, ok, fw, q⟩ := h
  rw [Vals.ref1 r]
  obtain ⟨its, rv, pl, hz⟩ := I.tuple hl
  have hn : H s.heap.objs.size = none := I.hok.fresh (Nat.le_refl _)
  obtain ⟨ks, e1, e2, h1, h2⟩ := keys_at I hs hd rv ok
  have kl : ks.length = ds.length := by have := congrArg List.length e2; simpa using this
  refine call_setT (G := numK X.prog X.w) ks (I.ok.hd hc) pl (by simpa using e1) h1 (by rw [kl]; exact fw) (by omega) (by show _ + 8 < _; simp; omega) fun h' tk L es ep t T g k => ?_
  refine ⟨.ref s.heap.objs.size, upd H s.heap.objs.size (bO (numK X.prog X.w) s.heap.objs.size L), I.laid (t' := tk) k (Nat.le_refl _) (bO_new T.bare), rfl, q _ L hn ⟨fun p hp => h2 p (List.mem_of_mem_take (g.of p hp)), fun d m => ?_, T.dis⟩⟩
  have : kof d ∈ ks.map (·.2) := by rw [e2]; exact List.mem_map_of_mem m
  obtain ⟨p, hp, e⟩ := List.mem_map.mp this
  rw [← e]
  exact g.al p (by rw [List.take_length]; exact hp)
def dSortSetA : List PyData → Option (List PyData)
  | [.list ds] => if okSet ds = true then some (sortK ds) else none
  | [.tuple ds] => if okSet ds = true then some (sortK ds) else none
  | _ => none
section
variable {X : Cx} {Bo : Option Addr} {W : WX} {e : Expr} {fa : PSt → Rs (List PyData)} {pos pos2 p p2 : Pos}
theorem sortSet_end {F1 H1 : Hp} {σ : St} {ps1 : PSt} {ds : List PyData} {a : Addr} {L : List (Addr × NestedKey)} {Q : V → Hp → Prop} (sr : SR X.K Bo F1 H1 σ ps1) (ok : okSet ds = true) (ha : H1 a = none) (its : Its X.K F1 ds L)
    (q : ∀ v F' H', Step F1 H1 σ ps1 F' H' σ ps1 → SR X.K Bo F' H' σ ps1 → RO X.K σ F1 H1 ps1 F' H' ps1 v (.own (.list (sortK ds))) → Q v H') : rSortedN X.K X.prog X.w [V.ref a] (upd H1 a (bO (numK X.prog X.w) a L)) Q := by
  obtain ⟨o1, o2, o3⟩ := okSet_all ok
  have g := junk (o := bO (numK X.prog X.w) a L) sr.le ha
  have sr2 := sr.gr g
  refine ⟨F1, a, L, ds, rfl, sr2.le, upd_same, its, o1, o3, fun p M hp mp => ?_⟩
  have es := sorted_is its ok mp
  have hd : DvAll X.K F1 ((M.mergeSort (dataLe false fun q => q.2.data)).map fun q => V.ref q.1) (sortK ds) := by
    unfold sortK
    rw [← es, List.map_map]
    have key : ∀ N : List (Addr × NestedKey), (∀ q ∈ N, ∃ d ∈ ds, q.2 = kof d ∧ Dv X.K F1 (.ref q.1) d) → DvAll X.K F1 (N.map fun q => V.ref q.1) (N.map (NestedKey.data ∘ fun q => q.2)) := by
      intro N
      induction N with
      | nil => intro _; exact .nil
      | cons n N ih =>
        intro h
        obtain ⟨d, m, e, hd⟩ := h n List.mem_cons_self
        refine .cons ?_ (ih fun q hq => h q (List.mem_cons_of_mem _ hq))
        show Dv X.K F1 (.ref n.1) (NestedKey.data n.2)
        rw [e, (data_kof d (okKey_ni (o1 d m)).1).1]
        exact hd
    exact key _ fun n hn => its.dat n (mp.mem_iff.mp ((List.mergeSort_perm _ _).mem_iff.mp hn))
  obtain ⟨g2, s2, ro⟩ := new_own sr2 hp hd
  exact q (.ref p) _ _ ((Step.of_gr g).trans (.of_gr g2)) s2 (RO.rb _ _ _ _ _ _ _ _ _ _ _ _ (Step.of_gr g) ro)
theorem sortSetA_data : ∀ σ H Q, tR X.K X.mg Bo W (RO X.K) (fAppO dSortSetA fa) σ H Q → tCB (rSortedN X.K X.prog X.w) (tCons (tCB (rSetA X.K X.prog X.w) (tR X.K X.mg Bo W (RA X.K) fa)) tNil) σ H Q := fun σ H Q q => by
  refine tR_bind RO.rb q fun vs ds F F1 H1 ps ps1 sr st hv q => ?_
  split at q
  · rename_i es ee
    unfold dSortSetA at ee
    split at ee
    · split at ee
      · rename_i ok
        cases ee
        obtain ⟨v, rfl, hd⟩ := dpall1 hv
        cases hd with
        | lst s1 d1 => exact .inl ⟨F1, _, _, _, rfl, sr.le, sr.le.seq s1, d1, (okSet_all ok).1, (okSet_all ok).2.1, fun a L ha its => sortSet_end sr ok ha its q⟩
      · cases ee
    · split at ee
      · rename_i ok
        cases ee
        obtain ⟨v, rfl, hd⟩ := dpall1 hv
        cases hd with
        | tup s1 d1 => exact .inr ⟨F1, _, _, _, rfl, sr.le, same_sqt sr.le s1, d1, (okSet_all ok).1, (okSet_all ok).2.1, fun a L ha its => sortSet_end sr ok ha its q⟩
      · cases ee
    · cases ee
  · exact q.elim
/-- sorted(set(e)) -/
theorem go_sortSetA (hc : X.calm = true) (hu : X.A.units + 64 < cLine) (g1 : Gl X "sorted") (m1 : X.mg "sorted" = none) (g2 : Gl X "set") (m2 : X.mg "set" = none) (ha : GA X Bo W [e] fa)
    (he : starEach [e] X.env = (false, eval e X.env) :: starEach [] X.env := by rfl) (hpl : (backTo pos2 (starEach [] X.env)).any (·.1) = false := by rfl)
    (he2 : starEach [Expr.Call (.Name "set" p2) [e] [] pos2] X.env = (false, eval (Expr.Call (.Name "set" p2) [e] [] pos2) X.env) :: starEach [] X.env := by rfl) (hpl2 : (backTo pos (starEach [] X.env)).any (·.1) = false := by rfl) :
    GO X Bo W (.Call (.Name "sorted" p) [.Call (.Name "set" p2) [e] [] pos2] [] pos) (fAppO dSortSetA fa) :=
  (pe_callB (cr_sortedN hc hu) g1 m1 (by rfl) (pa_cons (pe_callTy (cr_setA hc hu) g2 m2 (by rfl) ha (by decide) (by decide) he hpl) pa_nil he2) (by decide) (by decide) he2 hpl2).imp sortSetA_data
end
end GS

/-! GLp: x.pop(), x.pop(k) of a slot's own list -/
namespace GL
open PySem PySem.Spec L2
open PyProof.Rows hiding St
section
variable {X : Cx} {Bo : Option Addr} {W : WX} {e : Expr} {fa : PSt → Rs (List PyData)} {x : Str}
def fMethV (i : Nat) (D : List PyData → List PyData → Option (PyData × List PyData)) (fa : PSt → Rs (List PyData)) : PSt → Rs PyData := fun ps => match slotL i ps with
  | none => .bad
  | some _ => (fa ps).bind fun as ps1 => match slotL i ps1 with
    | none => .bad
    | some ds => match D ds as with
      | some (y, ds') => .ok y (ps1.set i (some (.own (.list ds'))))
      | none => .bad
def MethV (K : PySem.W.Frag) (r : V → List V → Hp → VK → Prop) (D : List PyData → List PyData → Option (PyData × List PyData)) : Prop := ∀ F H a xs ds vs as y ds' Q, Same F H → F a = none → H a = some (.lst xs) → DvAll K F xs ds → DvAll K F vs as → D ds as = some (y, ds') →
  (∀ v xs', Dv K F v y → DvAll K F xs' ds' → Q v (upd H a (.lst xs'))) → r (.ref a) vs H Q
theorem methV_data {r : V → List V → Hp → VK → Prop} {D : List PyData → List PyData → Option (PyData × List PyData)} {i : Nat} (hr : MethV X.K r D) : ∀ σ H Q, tR X.K X.mg Bo W (RV X.K) (fMethV i D fa) σ H Q → tBM X.K "list" r (tVar i) (tR X.K X.mg Bo W (RA X.K) fa) σ H Q := fun σ H Q ⟨F, ps, sr, q⟩ => by
  unfold fMethV at q
  cases e0 : slotL i ps with
  | none => rw [e0] at q; exact q.elim
  | some d0 =>
    rw [e0] at q
    obtain ⟨a, ha, _, xs0, _, _, hH0, _⟩ := sr.ownL (slotL_at e0)
    refine ⟨.ref a, ha, tyV_list hH0, ?_⟩
    refine go_bind RV.rb sr q fun vs as F2 H2 ps1 s1 st hvs q => ?_
    cases e1 : slotL i ps1 with
    | none => rw [e1] at q; exact q.elim
    | some ds =>
      rw [e1] at q
      have e1 := slotL_at e1
      obtain ⟨a', ha', hn, xs, ds2, ed, hH, hd⟩ := s1.ownL e1
      cases ed
      rw [ha] at ha'; cases ha'
      dsimp only at q
      cases e2 : D ds as with
      | none => rw [e2] at q; exact q.elim
      | some z =>
        obtain ⟨y, ds'⟩ := z
        rw [e2] at q
        refine hr F2 H2 a xs ds vs as y ds' Q s1.le hn hH hd hvs e2 fun v xs' hv hx' => ?_
        obtain ⟨s2, st2⟩ := s1.mut e1 ha hn (d' := .list ds') rfl hx'
        exact q v F2 _ st2 s2 hv
/-- x.pop(k) -/
def dPopAt : List PyData → List PyData → Option (PyData × List PyData)
  | ds, [.int (.ofNat k)] => (ds[k]?).bind fun y => if ds.length ≤ sizeLine then some (y, ds.eraseIdx k) else none
  | _, _ => none
theorem dpall_get {K : PySem.W.Frag} {F : Hp} : ∀ {xs : List V} {ds : List PyData} {k : Nat} {d : PyData}, DvAll K F xs ds → ds[k]? = some d → ∃ v, xs[k]? = some v ∧ Dv K F v d
  | _, _, _, _, .nil, h => by simp at h
  | _, _, 0, _, .cons h _, e => by simp at e; subst e; exact ⟨_, rfl, h⟩
  | _, _, k + 1, _, .cons _ t, e => by simpa using dpall_get t (by simpa using e)
theorem dpall_erase {K : PySem.W.Frag} {F : Hp} : ∀ {xs : List V} {ds : List PyData} (k : Nat), DvAll K F xs ds → DvAll K F (xs.eraseIdx k) (ds.eraseIdx k)
  | _, _, _, .nil => .nil
  | _, _, 0, .cons _ t => t
  | _, _, k + 1, .cons h t => .cons h (dpall_erase k t)
theorem popAt_ok {K : PySem.W.Frag} : MethV K rPopAt dPopAt := fun F H a xs ds vs as y ds' Q hs hn hH hd hv e k => by
  unfold dPopAt at e
  split at e
  · rename_i j
    cases q : ds[j]? with
    | none => rw [q] at e; cases e
    | some d =>
      rw [q] at e
      dsimp only [Option.bind] at e
      split at e
      · rename_i hz
        cases e
        obtain ⟨v, rfl, h⟩ := dpall1 hv
        cases h
        obtain ⟨u, h1, h2⟩ := dpall_get hd q
        have lt : j < xs.length := (List.getElem?_eq_some_iff.mp h1).1
        have hl : xs.length ≤ sizeLine := by rw [hd.length]; exact hz
        rw [sizeLine_eq] at hl
        refine ⟨a, xs, Int.ofNat j, j, u, rfl, rfl, hH, by first | (simp; done) | (simp; omega), by first | (simp; done) | (simp; omega), ?_, h1, k _ _ h2 (dpall_erase j hd)⟩
        unfold seqIndex?
        simp
        omega
      · cases e
  · cases e
theorem gv_popAt (i : Nat) {px apos cpos : Pos} (h : GA X Bo W [e] fa) (hN : X.N[i]? = some x := by rfl) (hv : Vis X.env.scope x := by first | exact Or.inl rfl | exact Or.inr (Or.inl rfl) | exact Or.inr (Or.inr rfl)) (hd : (x == ("__debug__" : Str)) = false := by decide) (hcd : (x == ("__classdict__" : Str)) = false := by decide)
    (hbase : attributeBase (.Name x px) "pop" X.env (eval (.Name x px) X.env) = eval (.Name x px) X.env := by rfl)
    (hfew : ((backTo cpos (starEach (e :: []) X.env)).all (fun x => !x.1) && (backToKw cpos (keywordEach [] X.env)).all (fun x => x.1.isSome)
      && decide ((e :: []).length + ([] : List Keyword).length + (if ([] : List Keyword).isEmpty then 0 else 1) < 30)) = true := by rfl)
    (hline : (apos.endLine == cpos.line) = true := by rfl) (hs : starEach (e :: []) X.env = (false, eval e X.env) :: starEach [] X.env := by rfl) (hplain : (backTo cpos (starEach [] X.env)).any (·.1) = false := by rfl) :
    GV X Bo W (.Call (.Attribute (.Name x px) "pop" apos) [e] [] cpos) (fMethV i dPopAt fa) :=
  (pe_bm PySem.F.plainAttrs_list PySem.F.slot_list_pop PySem.F.type_list_pop mt_popAt (pe_var hN hv hd hcd) h hbase hfew hline hs hplain).imp (methV_data popAt_ok)
/-- x.pop() -/
def dPop : List PyData → Option (PyData × List PyData) := fun ds => (ds[ds.length - 1]?).map fun y => (y, ds.dropLast)
def fPop (i : Nat) : PSt → Rs PyData := fun ps => match slotL i ps with
  | none => .bad
  | some ds => match dPop ds with
    | some (y, ds') => .ok y (ps.set i (some (.own (.list ds'))))
    | none => .bad
theorem dpall_last {K : PySem.W.Frag} {F : Hp} : ∀ {xs : List V} {ds : List PyData}, DvAll K F xs ds → DvAll K F xs.dropLast ds.dropLast
  | _, _, .nil => .nil
  | _, _, .cons _ .nil => .nil
  | _, _, .cons h (.cons h2 t) => by
    simp only [List.dropLast_cons_cons]
    exact .cons h (dpall_last (.cons h2 t))
theorem pop_data {i : Nat} : ∀ σ H Q, tR X.K X.mg Bo W (RV X.K) (fPop i) σ H Q → tBM0 X.K "list" rPop (tVar i) σ H Q := fun σ H Q ⟨F, ps, sr, q⟩ => by
  unfold fPop at q
  cases e0 : slotL i ps with
  | none => rw [e0] at q; exact q.elim
  | some ds =>
    rw [e0] at q
    have e1 := slotL_at e0
    obtain ⟨a, ha, hn, xs, ds2, ed, hH, hd⟩ := sr.ownL e1
    cases ed
    refine ⟨.ref a, ha, tyV_list hH, ?_⟩
    dsimp only at q
    cases e2 : dPop ds with
    | none => rw [e2] at q; exact q.elim
    | some z =>
      obtain ⟨y, ds'⟩ := z
      rw [e2] at q
      unfold dPop at e2
      cases e3 : ds[ds.length - 1]? with
      | none => rw [e3] at e2; cases e2
      | some y2 =>
        rw [e3] at e2
        cases e2
        obtain ⟨u, h1, h2⟩ := dpall_get hd e3
        rw [← hd.length] at h1
        obtain ⟨s2, st2⟩ := sr.mut e1 ha hn (d' := .list ds.dropLast) rfl (dpall_last hd)
        exact ⟨a, xs, u, rfl, rfl, hH, h1, q u F _ st2 s2 h2⟩
theorem gv_pop (i : Nat) {px apos cpos : Pos} (hN : X.N[i]? = some x := by rfl) (hv : Vis X.env.scope x := by first | exact Or.inl rfl | exact Or.inr (Or.inl rfl) | exact Or.inr (Or.inr rfl)) (hd : (x == ("__debug__" : Str)) = false := by decide) (hcd : (x == ("__classdict__" : Str)) = false := by decide)
    (hbase : attributeBase (.Name x px) "pop" X.env (eval (.Name x px) X.env) = eval (.Name x px) X.env := by rfl) (hline : (apos.endLine == cpos.line) = true := by rfl) :
    GV X Bo W (.Call (.Attribute (.Name x px) "pop" apos) [] [] cpos) (fPop i) :=
  (pe_bm0 PySem.F.plainAttrs_list PySem.F.slot_list_pop PySem.F.type_list_pop mt_pop (pe_var hN hv hd hcd) hbase hline).imp pop_data
end
end GL

/-! GLq: x.extend(e), e a list of its own -/
namespace GL
open PySem PySem.Spec L2
open PyProof.Rows hiding St
section
variable {X : Cx} {Bo : Option Addr} {W : WX} {e : Expr} {fo : PSt → Rs PV} {x : Str}
def fExt (i : Nat) (fo : PSt → Rs PV) : PSt → Rs PyData := fun ps => match slotL i ps with
  | none => .bad
  | some _ => (fo ps).bind fun p ps1 => match slotL i ps1 with
    | none => .bad
    | some ds => match p with
      | .own (.list es) => if ds.length + es.length ≤ sizeLine then .ok .none (ps1.set i (some (.own (.list (ds ++ es))))) else .bad
      | _ => .bad
theorem ext_data {i : Nat} : ∀ σ H Q, tR X.K X.mg Bo W (RV X.K) (fExt i fo) σ H Q → tBM X.K "list" rExtend (tVar i) (tCons (tR X.K X.mg Bo W (RO X.K) fo) tNil) σ H Q := fun σ H Q ⟨F, ps, sr, q⟩ => by
  unfold fExt at q
  cases e0 : slotL i ps with
  | none => rw [e0] at q; exact q.elim
  | some d0 =>
    rw [e0] at q
    obtain ⟨a, ha, _, xs0, _, _, hH0, _⟩ := sr.ownL (slotL_at e0)
    refine ⟨.ref a, ha, tyV_list hH0, ?_⟩
    refine go_bind RV.rb sr q fun v p F2 H2 ps1 s1 st hv q => ?_
    cases e1 : slotL i ps1 with
    | none => rw [e1] at q; exact q.elim
    | some ds =>
      rw [e1] at q
      have e1 := slotL_at e1
      obtain ⟨a', ha', hn, xs, ds2, ed, hH, hd⟩ := s1.ownL e1
      cases ed
      rw [ha] at ha'; cases ha'
      dsimp only at q
      split at q
      · rename_i es
        split at q
        · rename_i hz
          obtain ⟨b, rfl, hAt, _⟩ := hv; obtain ⟨hb, zs, es2, ed2, hB, hd2⟩ := hAt.l
          cases ed2
          obtain ⟨s2, st2⟩ := s1.mut e1 ha hn (d' := .list (ds ++ es)) rfl (hd.append hd2)
          exact ⟨a, b, xs, zs, rfl, rfl, hH, hB, by rw [hd.length, hd2.length]; exact hz, q .non F2 _ st2 s2 .non⟩
        · exact q.elim
      · exact q.elim
theorem gv_extend (i : Nat) {px apos cpos : Pos} (h : GO X Bo W e fo) (hN : X.N[i]? = some x := by rfl) (hv : Vis X.env.scope x := by first | exact Or.inl rfl | exact Or.inr (Or.inl rfl) | exact Or.inr (Or.inr rfl)) (hd : (x == ("__debug__" : Str)) = false := by decide) (hcd : (x == ("__classdict__" : Str)) = false := by decide)
    (hbase : attributeBase (.Name x px) "extend" X.env (eval (.Name x px) X.env) = eval (.Name x px) X.env := by rfl)
    (hfew : ((backTo cpos (starEach (e :: []) X.env)).all (fun x => !x.1) && (backToKw cpos (keywordEach [] X.env)).all (fun x => x.1.isSome)
      && decide ((e :: []).length + ([] : List Keyword).length + (if ([] : List Keyword).isEmpty then 0 else 1) < 30)) = true := by rfl)
    (hline : (apos.endLine == cpos.line) = true := by rfl) (hs : starEach (e :: []) X.env = (false, eval e X.env) :: starEach [] X.env := by rfl) (hplain : (backTo cpos (starEach [] X.env)).any (·.1) = false := by rfl) :
    GV X Bo W (.Call (.Attribute (.Name x px) "extend" apos) [e] [] cpos) (fExt i fo) :=
  (pe_bm PySem.F.plainAttrs_list PySem.F.slot_list_extend PySem.F.type_list_extend mt_extend (pe_var hN hv hd hcd) (pa_cons h pa_nil hs) hbase hfew hline hs hplain).imp ext_data
end
end GL

/-! GLr: x[::-1] of a list -/
namespace GL
open PySem PySem.Spec L2
open PyProof.Rows hiding St
section
variable {X : Cx} {Bo : Option Addr} {W : WX} {e : Expr} {f : PSt → Rs PyData}
def fRev (f : PSt → Rs PyData) : PSt → Rs PV := fun ps => (f ps).bind fun d ps1 => match d with
  | .list ds => .ok (.own (.list ds.reverse)) ps1
  | _ => .bad
theorem dpall_rev {K : PySem.W.Frag} {F : Hp} : ∀ {xs : List V} {ds : List PyData}, DvAll K F xs ds → DvAll K F xs.reverse ds.reverse
  | _, _, .nil => .nil
  | _, _, .cons h t => by
    rw [List.reverse_cons, List.reverse_cons]
    exact (dpall_rev t).append (.cons h .nil)
theorem go_rev {k : Nat} {p1 p2 p3 pos : Pos} (h : GV X Bo W e f) : GO X Bo W (.Subscript e (.Slice none none (some (.UnaryOp .USub (.Constant (.int 1) k p1) p2)) p3) pos) (fRev f) :=
  (pe_revL h).imp fun σ H Q q => by
    refine tR_bind RO.rb q fun v d F F1 H1 ps ps1 sr st hv q => ?_
    split at q
    · rename_i ds
      cases hv with
      | lst s1 d1 =>
        refine ⟨_, _, rfl, sr.le.seq s1, fun p hp => ?_⟩
        obtain ⟨g, s2, ro⟩ := new_own sr hp (dpall_rev d1)
        exact q (.ref p) _ _ (.of_gr g) s2 ro
    · exact q.elim
end
end GL

/-! GLs: len(set(e)), [..] * n, max(list), min(list) -/
namespace GL
open PySem PySem.Spec L2 GS PySem.W
open PyProof.Rows hiding St
/-! ### len(set(e)) -/
def rLenN (K : PySem.W.Frag) (P : Program) (w : World) : List V → Hp → VK → Prop := fun xs H Q => ∃ F a L ds, xs = [V.ref a] ∧ Same F H ∧ H a = some (bO (numK P w) a L) ∧ Its K F ds L ∧ (∀ d ∈ ds, okKey d = true) ∧ Q (.int L.length) H
theorem cr_lenN {X : Cx} : CallR X (.builtin "len") (rLenN X.K X.prog X.w) := by
  intro pins s σ H xs us Q I r h
  obtain ⟨F, a, L, ds, rfl, hs, ha, its, ok, q⟩ := h
  rw [Vals.ref1 r]
  have R : Bare (numK X.prog X.w) s.heap a L := (I.hok a _ ha).1
  have isk : ∀ p ∈ L, (numK X.prog X.w).kd.is s.heap p.2 p.1 := fun p hp => by
    obtain ⟨d, m, e, hd⟩ := its.dat p hp
    obtain ⟨b, e1, _, h3⟩ := key_at I hs hd rfl (ok d m)
    rw [e]
    cases e1
    exact h3
  obtain ⟨es, ep, t, T⟩ := R.full isk
  obtain ⟨o, ho, hex, hd⟩ := T.obj
  have ez := T.size
  have fw := T.fw
  exact call_len_set ho hex hd T.fit (by omega) ⟨.int L.length, H, I.tok _, ⟨_, by rw [ez]⟩, q⟩
def dLenSet : List PyData → Option PyData
  | [.list ds] => if okSet ds = true then some (.int (sortK ds).length) else none
  | [.tuple ds] => if okSet ds = true then some (.int (sortK ds).length) else none
  | _ => none
section
variable {X : Cx} {Bo : Option Addr} {W : WX} {e e1 e2 : Expr} {f f2 : PSt → Rs PyData} {fo : PSt → Rs PV} {fa : PSt → Rs (List PyData)} {pos pos2 p p2 : Pos}
theorem lenSet_end {F1 H1 : Hp} {σ : St} {ps1 : PSt} {ds : List PyData} {a : Addr} {L : List (Addr × NestedKey)} {Q : V → Hp → Prop} (sr : SR X.K Bo F1 H1 σ ps1) (ok : okSet ds = true) (ha : H1 a = none) (its : Its X.K F1 ds L)
    (q : ∀ v F' H', Step F1 H1 σ ps1 F' H' σ ps1 → SR X.K Bo F' H' σ ps1 → RV X.K σ F1 H1 ps1 F' H' ps1 v (.int (sortK ds).length) → Q v H') : rLenN X.K X.prog X.w [V.ref a] (upd H1 a (bO (numK X.prog X.w) a L)) Q := by
  obtain ⟨o1, o2, o3⟩ := okSet_all ok
  have g := junk (o := bO (numK X.prog X.w) a L) sr.le ha
  have sr2 := sr.gr g
  have es := congrArg List.length (sorted_is its ok (List.Perm.refl L))
  have el : L.length = (sortK ds).length := by
    unfold sortK
    rw [List.length_map, (List.mergeSort_perm _ _).length_eq] at es
    rw [List.length_map]
    exact es
  refine ⟨F1, a, L, ds, rfl, sr2.le, upd_same, its, o1, ?_⟩
  rw [el]
  exact q _ _ _ (Step.of_gr g) sr2 (.int _)
theorem lenSet_data : ∀ σ H Q, tR X.K X.mg Bo W (RV X.K) (fApp dLenSet fa) σ H Q → tCB (rLenN X.K X.prog X.w) (tCons (tCB (rSetA X.K X.prog X.w) (tR X.K X.mg Bo W (RA X.K) fa)) tNil) σ H Q := fun σ H Q q => by
  refine tR_bind RV.rb q fun vs ds F F1 H1 ps ps1 sr st hv q => ?_
  obtain ⟨d, ee, q⟩ : ∃ d, dLenSet ds = some d ∧ Goal X.K X.mg Bo W (RV X.K) (.ok d ps1) F1 H1 σ ps1 Q := by
    cases z : dLenSet ds with
    | none => rw [z] at q; exact q.elim
    | some d => rw [z] at q; exact ⟨d, rfl, q⟩
  unfold dLenSet at ee
  split at ee
  · split at ee
    · rename_i ok
      cases ee
      obtain ⟨v, rfl, hd⟩ := dpall1 hv
      cases hd with
      | lst s1 d1 => exact .inl ⟨F1, _, _, _, rfl, sr.le, sr.le.seq s1, d1, (okSet_all ok).1, (okSet_all ok).2.1, fun a L ha its => lenSet_end sr ok ha its q⟩
    · cases ee
  · split at ee
    · rename_i ok
      cases ee
      obtain ⟨v, rfl, hd⟩ := dpall1 hv
      cases hd with
      | tup s1 d1 => exact .inr ⟨F1, _, _, _, rfl, sr.le, same_sqt sr.le s1, d1, (okSet_all ok).1, (okSet_all ok).2.1, fun a L ha its => lenSet_end sr ok ha its q⟩
    · cases ee
  · cases ee
theorem gv_lenSet (hc : X.calm = true) (hu : X.A.units + 64 < cLine) (g1 : Gl X "len") (m1 : X.mg "len" = none) (g2 : Gl X "set") (m2 : X.mg "set" = none) (ha : GA X Bo W [e] fa)
    (he : starEach [e] X.env = (false, eval e X.env) :: starEach [] X.env := by rfl) (hpl : (backTo pos2 (starEach [] X.env)).any (·.1) = false := by rfl)
    (he2 : starEach [Expr.Call (.Name "set" p2) [e] [] pos2] X.env = (false, eval (Expr.Call (.Name "set" p2) [e] [] pos2) X.env) :: starEach [] X.env := by rfl) (hpl2 : (backTo pos (starEach [] X.env)).any (·.1) = false := by rfl) :
    GV X Bo W (.Call (.Name "len" p) [.Call (.Name "set" p2) [e] [] pos2] [] pos) (fApp dLenSet fa) :=
  (pe_callB cr_lenN g1 m1 (by rfl) (pa_cons (pe_callTy (cr_setA hc hu) g2 m2 (by rfl) ha (by decide) (by decide) he hpl) pa_nil he2) (by decide) (by decide) he2 hpl2).imp lenSet_data
/-! ### [..] * n -/
def fRep (fo : PSt → Rs PV) (f2 : PSt → Rs PyData) : PSt → Rs PV := fun ps => (fo ps).bind fun p ps1 => (f2 ps1).bind fun b ps2 => match p, b with
  | .own (.list ds), .int k => if 0 ≤ k ∧ k ≤ 1000 ∧ ds.length ≤ 1000 then .ok (.own (.list (List.replicate k.toNat ds).flatten)) ps2 else .bad
  | _, _ => .bad
theorem dp_rep {K : PySem.W.Frag} {F : Hp} {xs : List V} {ds : List PyData} (h : DvAll K F xs ds) : ∀ n : Nat, DvAll K F (List.replicate n xs).flatten (List.replicate n ds).flatten
  | 0 => .nil
  | n + 1 => by
    rw [List.replicate_succ, List.replicate_succ, List.flatten_cons, List.flatten_cons]
    exact h.append (dp_rep h n)
theorem go_rep (h1 : GO X Bo W e1 fo) (h2 : GV X Bo W e2 f2) : GO X Bo W (.BinOp e1 .Mult e2 pos) (fRep fo f2) :=
  (pe_op op_rep h1 h2).imp fun σ H Q q => by
    refine tR_bind RO.rb q fun v p F F1 H1 ps ps1 sr st hv q0 => ?_
    refine go_bind RO.rb sr q0 fun u b F2 H2 ps2 sr2 st2 hu q1 => ?_
    clear q q0
    split at q1
    · rename_i ds k
      split at q1
      · rename_i hz
        obtain ⟨z1, z2, z3⟩ := hz
        obtain ⟨a, rfl, hAt, hno, _⟩ := hv; obtain ⟨hn, xs, ds2, ed, hH, hd⟩ := hAt.l
        cases ed
        cases hu
        have hl := hd.length
        refine ⟨a, k, xs, rfl, rfl, st2.keep _ _ hH hno, by omega, by omega, ?_, fun p hp => ?_⟩
        · have a1 : xs.length * k.toNat ≤ 1000 * 1000 := Nat.mul_le_mul (by omega) (by omega)
          rw [sizeLine_eq]; omega
        · obtain ⟨g, s2, ro⟩ := new_own sr2 hp (dp_rep (hd.mono st2.grow) k.toNat)
          exact q1 (.ref p) _ _ (.of_gr g) s2 ro
      · exact q1.elim
    · exact q1.elim
end
/-! ### max, min of a list of whole numbers -/
def maxI : Int → List Int → Int
  | m, [] => m
  | m, n :: ns => maxI (if m < n then n else m) ns
theorem maxI_spec : ∀ (ns : List Int) (m : Int), (maxI m ns = m ∨ maxI m ns ∈ ns) ∧ m ≤ maxI m ns ∧ ∀ n ∈ ns, n ≤ maxI m ns
  | [], m => ⟨.inl rfl, Int.le_refl _, by simp⟩
  | n :: ns, m => by
    obtain ⟨h1, h2, h3⟩ := maxI_spec ns (if m < n then n else m)
    have e : maxI m (n :: ns) = maxI (if m < n then n else m) ns := rfl
    rw [e]
    generalize maxI (if m < n then n else m) ns = M at *
    refine ⟨?_, ?_, fun x hx => ?_⟩
    · split at h1
      · rcases h1 with h | h
        · exact .inr (h ▸ List.mem_cons_self)
        · exact .inr (List.mem_cons_of_mem _ h)
      · rcases h1 with h | h
        · exact .inl h
        · exact .inr (List.mem_cons_of_mem _ h)
    · split at h2 <;> omega
    · rcases List.mem_cons.mp hx with q | q
      · subst q; split at h2 <;> omega
      · exact h3 x q
def dMaxL : List PyData → Option PyData
  | [.list ds] => match intsOf ds with
    | some (n :: ns) => some (.int (maxI n ns))
    | _ => none
  | _ => none
theorem maxL_ok {K : PySem.W.Frag} : CallD K (rMax K) dMaxL := fun F H xs ds d Q hs hx e k => by
  unfold dMaxL at e
  split at e
  · rename_i es
    obtain ⟨v, rfl, h⟩ := dpall1 hx
    split at e
    · rename_i n ns q
      cases e
      rw [intsOf_map q] at h
      obtain ⟨h1, h2, h3⟩ := maxI_spec ns n
      cases h with
      | lst s1 d1 =>
        refine ⟨_, n :: ns, rfl, by rw [← dp_ints d1]; exact hs.seq s1, by simp, fun m hm hmx => ?_⟩
        have e : m = maxI n ns := by
          apply Int.le_antisymm
          · rcases List.mem_cons.mp hm with q | q
            · subst q; exact h2
            · exact h3 m q
          · rcases h1 with q | q
            · rw [q]; exact hmx n List.mem_cons_self
            · exact hmx _ (List.mem_cons_of_mem _ q)
        rw [e]
        exact k _ F H (.refl hs) (.int _)
    · cases e
  · cases e
end GL

/-! GLt: x in a list or a tuple -/
namespace GL
open PySem PySem.Spec L2 GS PySem.W
open PyProof.Rows hiding St
def rInT (K : PySem.W.Frag) : R2 := fun x y H Q => ∃ d ds, Dp K H x d ∧ Dp K H y (.tuple ds) ∧ SeqAt.shaped d = true ∧ SeqAt.shaped (.list ds) = true ∧ Q (.bl (ds.any fun z => PyData.eqv z d)) H
def rNotInT (K : PySem.W.Frag) : R2 := fun x y H Q => ∃ d ds, Dp K H x d ∧ Dp K H y (.tuple ds) ∧ SeqAt.shaped d = true ∧ SeqAt.shaped (.list ds) = true ∧ Q (.bl (!ds.any fun z => PyData.eqv z d)) H
section
variable {X : Cx}
theorem op_inT (hu : X.A.units + 65 < cLine) : OpR X (compareOp .In) (rInT X.K) := by
  intro pins s σ H x y v u Q I rx ry h
  obtain ⟨d, ds, hd, he, sd, se, q⟩ := h
  obtain ⟨as, r1⟩ := Dp.reads I d x v hd rx
  obtain ⟨bs, r2⟩ := Dp.reads I (.tuple ds) y u he ry
  exact SeqAt.in_tuple_reads r2 r1 (SeqAt.canLay_of_shaped se) (SeqAt.canLay_of_shaped sd) (room_in_shaped sd hu) ⟨.bl _, H, I, rfl, q⟩
theorem op_notInT (hu : X.A.units + 65 < cLine) : OpR X (compareOp .NotIn) (rNotInT X.K) := by
  intro pins s σ H x y v u Q I rx ry h
  obtain ⟨d, ds, hd, he, sd, se, q⟩ := h
  obtain ⟨as, r1⟩ := Dp.reads I d x v hd rx
  obtain ⟨bs, r2⟩ := Dp.reads I (.tuple ds) y u he ry
  exact SeqAt.notIn_tuple_reads r2 r1 (SeqAt.canLay_of_shaped se) (SeqAt.canLay_of_shaped sd) (room_in_shaped sd hu) ⟨.bl _, H, I, rfl, q⟩
def rInA (K : PySem.W.Frag) : R2 := fun x y H Q => rInD K x y H Q ∨ rInT K x y H Q
def rNotInA (K : PySem.W.Frag) : R2 := fun x y H Q => rNotInD K x y H Q ∨ rNotInT K x y H Q
theorem op_inA (hu : X.A.units + 65 < cLine) : OpR X (compareOp .In) (rInA X.K) := (op_inD hu).or (op_inT hu)
theorem op_notInA (hu : X.A.units + 65 < cLine) : OpR X (compareOp .NotIn) (rNotInA X.K) := (op_notInD hu).or (op_notInT hu)
def items : PyData → Option (List PyData)
  | .list ds => some ds
  | .tuple ds => some ds
  | _ => none
def dInA (d c : PyData) : Option PyData := match items c with
  | some ds => if SeqAt.shaped d = true ∧ SeqAt.shaped (.list ds) = true then some (.bool (ds.any fun z => PyData.eqv z d)) else none
  | none => none
def dNotInA (d c : PyData) : Option PyData := match items c with
  | some ds => if SeqAt.shaped d = true ∧ SeqAt.shaped (.list ds) = true then some (.bool (!ds.any fun z => PyData.eqv z d)) else none
  | none => none
theorem items_eq {c : PyData} {ds : List PyData} (h : items c = some ds) : c = .list ds ∨ c = .tuple ds := by
  cases c <;> first | (cases h; exact .inl rfl) | (cases h; exact .inr rfl) | cases h
theorem inA_ok {K : PySem.W.Frag} : OpD K (rInA K) dInA := fun F H x y a b d Q hs hx hy e k => by
  unfold dInA at e
  split at e
  · rename_i ds ei
    split at e
    · rename_i h; cases e
      rcases items_eq ei with rfl | rfl
      · exact .inl ⟨_, _, (hx.mono hs).dp (sh_nd h.1), (hy.mono hs).dp (sh_nd h.2), h.1, h.2, k _ F H (.refl hs) (.bl _)⟩
      · exact .inr ⟨_, _, (hx.mono hs).dp (sh_nd h.1), (hy.mono hs).dp (by have := sh_nd h.2; simpa [L2.noDict] using this), h.1, h.2, k _ F H (.refl hs) (.bl _)⟩
    · cases e
  · cases e
theorem notInA_ok {K : PySem.W.Frag} : OpD K (rNotInA K) dNotInA := fun F H x y a b d Q hs hx hy e k => by
  unfold dNotInA at e
  split at e
  · rename_i ds ei
    split at e
    · rename_i h; cases e
      rcases items_eq ei with rfl | rfl
      · exact .inl ⟨_, _, (hx.mono hs).dp (sh_nd h.1), (hy.mono hs).dp (sh_nd h.2), h.1, h.2, k _ F H (.refl hs) (.bl _)⟩
      · exact .inr ⟨_, _, (hx.mono hs).dp (sh_nd h.1), (hy.mono hs).dp (by have := sh_nd h.2; simpa [L2.noDict] using this), h.1, h.2, k _ F H (.refl hs) (.bl _)⟩
    · cases e
  · cases e
theorem bool_dInA (a b d : PyData) (h : dInA a b = some d) : ∃ k, d = .bool k := by
  unfold dInA at h
  split at h
  · split at h
    · cases h; exact ⟨_, rfl⟩
    · cases h
  · cases h
theorem bool_dNotInA (a b d : PyData) (h : dNotInA a b = some d) : ∃ k, d = .bool k := by
  unfold dNotInA at h
  split at h
  · split at h
    · cases h; exact ⟨_, rfl⟩
    · cases h
  · cases h
end
/-! ### a, b = e1, e2, when a or b is also a block's -/
section
variable {X : Cx} {Bo : Option Addr} {W : WX} {e1 e2 : Expr} {fo1 fo2 : PSt → Rs PV} {pos : Pos}
theorem gs_par2 (i j : Nat) {x y : Str} {px py pt pt2 : Pos} {kt k2 : Nat} (h1 : GO X Bo W e1 fo1) (h2 : GO X Bo W e2 fo2) (hc : X.calm = true) (hN : X.N.Nodup)
    (hij : i ≠ j := by decide) (hbi : Bo = none ∨ i ≠ 0 := by first | exact .inl rfl | exact .inr (by decide)) (hbj : Bo = none ∨ j ≠ 0 := by first | exact .inl rfl | exact .inr (by decide))
    (hi : X.N[i]? = some x := by rfl) (hj : X.N[j]? = some y := by rfl) (hx : Loc X.env.scope x := by first | exact .inl rfl | exact .inr rfl) (hy : Loc X.env.scope y := by first | exact .inl rfl | exact .inr rfl)
    (hfx : X.fn x = true ∨ X.env.scope.names.lookup x = some .local := by first | exact .inl rfl | exact .inr rfl) (hfy : X.fn y = true ∨ X.env.scope.names.lookup y = some .local := by first | exact .inl rfl | exact .inr rfl)
    (hs1 : starEach (e1 :: [e2]) X.env = (false, eval e1 X.env) :: starEach [e2] X.env := by rfl) (hs2 : starEach (e2 :: []) X.env = (false, eval e2 X.env) :: starEach [] X.env := by rfl)
    (hs : swapsWithSole [.Tuple [.Name x px, .Name y py] kt pt] (.Tuple [e1, e2] k2 pt2) pos.line X.env = pure false := by rfl) (hw : swappedStores [.Tuple [.Name x px, .Name y py] kt pt] (.Tuple [e1, e2] k2 pt2) X.env = pure none := by rfl)
    (ha : (assignEach [.Tuple [.Name x px, .Name y py] kt pt] X.env).map (·.2) = [assign (.Tuple [.Name x px, .Name y py] kt pt) X.env] := by rfl) :
    GS X Bo W (.Assign [.Tuple [.Name x px, .Name y py] kt pt] (.Tuple [e1, e2] k2 pt2) pos) (fPar i j fo1 fo2) := by
  refine (ps_asg (pe_tup (pa_cons h1 (pa_cons h2 pa_nil hs2) hs1)) (pg_tup hc (pgs_cons (pg_name hN hi hx hfx) (pgs_cons (pg_name hN hj hy hfy) pgs_nil))) hs hw ha).imp fun D σ H ⟨F, ps, sr, q⟩ => ?_
  show tR X.K X.mg Bo W (RO X.K) fo1 σ H _
  refine ⟨F, ps, sr, ?_⟩
  unfold fPar at q
  cases e1 : fo1 ps with
  | bad => rw [e1] at q; exact q
  | exc x ps1 => rw [e1] at q; exact fun cls dd F' H' st s1 r => q cls dd σ F' H' st s1 r
  | ok p ps1 =>
    rw [e1] at q
    intro v F1 H1 st1 s1 hv
    have q : GoalS X.K X.mg Bo W ((fo2 ps1).st fun q ps2 => .nx ((ps2.set i (some p)).set j (some q))) F H σ ps D := q
    show tR X.K X.mg Bo W (RO X.K) fo2 σ H1 _
    refine ⟨F1, ps1, s1, ?_⟩
    cases e2 : fo2 ps1 with
    | bad => rw [e2] at q; exact q
    | exc x ps2 => rw [e2] at q; exact fun cls dd F' H' st s2 r => q cls dd σ F' H' (st1.trans st) s2 r
    | ok r ps2 =>
      rw [e2] at q
      intro w F2 H2 st2 s2 hw
      obtain ⟨s3, st3⟩ := ro2 hij hbi hbj s2 st1 st2 hv hw
      refine ⟨by rw [sizeLine_eq]; simp, fun a ha => ?_⟩
      have g := GS.junk (o := .tup [v, w]) s2.le ha
      exact ⟨a, [v, w], rfl, SqT.of upd_same, rfl, v, [w], rfl, w, [], rfl, rfl, q _ F2 _ (st3.trans (.of_gr g)) (s3.gr g)⟩
end
/-! ### a comparison of two names, only looked at -/
section
variable {X : Cx} {Bo : Option Addr} {W : WX} {x y : Str} {pos : Pos}
def fBinSS (D : PyData → PyData → Option PyData) (i j : Nat) : PSt → Rs PyData := fun ps => match look i ps with
  | none => .bad
  | some a => match look j ps with
    | none => .bad
    | some b => opt (D a b) ps
theorem opSS_data {r : R2} {D : PyData → PyData → Option PyData} {i j : Nat} (hr : OpD X.K r D) (hD : ∀ a b d, D a b = some d → ∃ k, d = .bool k) : ∀ σ H Q, tR X.K X.mg Bo W (RV X.K) (fBinSS D i j) σ H Q → tOp r (tVar i) (tVar j) σ H Q := fun σ H Q ⟨F, ps, sr, q⟩ => by
  unfold fBinSS at q
  cases e0 : look i ps with
  | none => rw [e0] at q; exact q.elim
  | some a =>
    rw [e0] at q
    dsimp only at q
    cases e1 : look j ps with
    | none => rw [e1] at q; exact q.elim
    | some b =>
      rw [e1] at q
      obtain ⟨v, hv, hdp, _⟩ := sr.look e0
      obtain ⟨w, hw, hdw, _⟩ := sr.look e1
      obtain ⟨d, ed, k⟩ := go_end sr q
      obtain ⟨kb, rfl⟩ := hD _ _ _ ed
      refine ⟨v, hv, w, hw, hr H H v w a b _ Q (.refl _) hdp hdw ed fun z F' H' g hz => ?_⟩
      cases hz
      exact k _ F H' ⟨.refl _, fun _ _ e => .inl e, g.keep, sr.le.trans g.keep⟩ (.bl _)
theorem gv_cmpSS (i j : Nat) {px py : Pos} {op : CmpOp} {r : R2} {D : PyData → PyData → Option PyData} (ho : OpR X (compareOp op) r) (hr : OpD X.K r D) (hD : ∀ a b d, D a b = some d → ∃ k, d = .bool k) (hm : behindInMarks op (.Name y py) = false := by first | exact nomark _ | rfl)
    (hN : X.N[i]? = some x := by rfl) (hv : Vis X.env.scope x := by first | exact Or.inl rfl | exact Or.inr (Or.inl rfl) | exact Or.inr (Or.inr rfl)) (hd : (x == ("__debug__" : Str)) = false := by decide) (hcd : (x == ("__classdict__" : Str)) = false := by decide)
    (hN2 : X.N[j]? = some y := by rfl) (hv2 : Vis X.env.scope y := by first | exact Or.inl rfl | exact Or.inr (Or.inl rfl) | exact Or.inr (Or.inr rfl)) (hd2 : (y == ("__debug__" : Str)) = false := by decide) (hcd2 : (y == ("__classdict__" : Str)) = false := by decide) :
    GV X Bo W (.Compare (.Name x px) [op] [.Name y py] pos) (fBinSS D i j) := (pe_cmpR ho (pe_var hN hv hd hcd) (pe_var hN2 hv2 hd2 hcd2) hm).imp (opSS_data hr hD)
theorem gt_cmpSS (i j : Nat) {px py : Pos} {op : CmpOp} {r : R2} {D : PyData → PyData → Option PyData} (ho : OpR X (compareOp op) r) (hr : OpD X.K r D) (hD : ∀ a b d, D a b = some d → ∃ k, d = .bool k) (hm : behindInMarks op (.Name y py) = false := by first | exact nomark _ | rfl)
    (hN : X.N[i]? = some x := by rfl) (hv : Vis X.env.scope x := by first | exact Or.inl rfl | exact Or.inr (Or.inl rfl) | exact Or.inr (Or.inr rfl)) (hd : (x == ("__debug__" : Str)) = false := by decide) (hcd : (x == ("__classdict__" : Str)) = false := by decide)
    (hN2 : X.N[j]? = some y := by rfl) (hv2 : Vis X.env.scope y := by first | exact Or.inl rfl | exact Or.inr (Or.inl rfl) | exact Or.inr (Or.inr rfl)) (hd2 : (y == ("__debug__" : Str)) = false := by decide) (hcd2 : (y == ("__classdict__" : Str)) = false := by decide) :
    GT X Bo W (.Compare (.Name x px) [op] [.Name y py] pos) (fTest (fBinSS D i j)) := (pt_cmpR ho (pe_var hN hv hd hcd) (pe_var hN2 hv2 hd2 hcd2) hm).imp (test_data (opSS_data hr hD))
end
end GL

/-! GTa: kinds of data: values of Lean as data of whole numbers and tuples -/
namespace GT
open PySem PySem.Spec L2 GL GS PySem.W
open PyProof.Rows hiding St
mutual
theorem ni_lay : ∀ {d : PyData}, ni d = true → d.canLay0 = true
  | .int _, _ => rfl
  | .tuple ds, h => by
    have h' : niAll ds = true := by simpa [ni] using h
    simpa [PyData.canLay0] using niAll_lay h'
  | .none, h => by simp [ni] at h
  | .bool _, h => by simp [ni] at h
  | .str _, h => by simp [ni] at h
  | .list _, h => by simp [ni] at h
  | .dict _, h => by simp [ni] at h
theorem niAll_lay : ∀ {ds : List PyData}, niAll ds = true → PyData.canLayAll0 ds = true
  | [], _ => rfl
  | d :: ds, h => by
    have h' : ni d = true ∧ niAll ds = true := by simpa [niAll] using h
    simp [PyData.canLayAll0, ni_lay h'.1, niAll_lay h'.2]
end
mutual
theorem ni_refl : ∀ {d : PyData}, ni d = true → PyData.eqv d d = true
  | .int _, _ => by simp [PyData.eqv]
  | .tuple ds, h => by
    have h' : niAll ds = true := by simpa [ni] using h
    simpa [PyData.eqv] using niAll_refl h'
  | .none, h => by simp [ni] at h
  | .bool _, h => by simp [ni] at h
  | .str _, h => by simp [ni] at h
  | .list _, h => by simp [ni] at h
  | .dict _, h => by simp [ni] at h
theorem niAll_refl : ∀ {ds : List PyData}, niAll ds = true → PyData.eqvAll ds ds = true
  | [], _ => rfl
  | d :: ds, h => by
    have h' : ni d = true ∧ niAll ds = true := by simpa [niAll] using h
    simp [PyData.eqvAll, ni_refl h'.1, niAll_refl h'.2]
end
/-- a kind: what stands for a, as data -/
structure Ty {α : Type} (en : α → PyData) (k : Nat) : Prop where
  inj : ∀ a b, en a = en b → a = b
  ni : ∀ a, GS.ni (en a) = true
  al : ∀ a b, alike (en a) (en b) = true
  dp : ∀ a, (en a).depth ≤ k
def eT {α : Type} (en : α → PyData) (l : List α) : PyData := .tuple (l.map en)
def eP2 {α β : Type} (e1 : α → PyData) (e2 : β → PyData) (p : α × β) : PyData := .tuple [e1 p.1, e2 p.2]
theorem depthAll_le {k : Nat} : ∀ {ds : List PyData}, (∀ d ∈ ds, d.depth ≤ k) → PyData.depthAll ds ≤ k
  | [], _ => Nat.zero_le _
  | d :: ds, h => by
    simp only [PyData.depthAll]
    exact Nat.max_le.mpr ⟨h d List.mem_cons_self, depthAll_le fun e m => h e (List.mem_cons_of_mem _ m)⟩
theorem niAll_of : ∀ {ds : List PyData}, (∀ d ∈ ds, ni d = true) → niAll ds = true
  | [], _ => rfl
  | d :: ds, h => by simp [niAll, h d List.mem_cons_self, niAll_of fun e m => h e (List.mem_cons_of_mem _ m)]
theorem alikeAll_map {α : Type} {en : α → PyData} (h : ∀ a b, alike (en a) (en b) = true) : ∀ l m : List α, alikeAll (l.map en) (m.map en) = true
  | [], _ => by simp [alikeAll]
  | _ :: _, [] => by simp [alikeAll]
  | a :: l, b :: m => by simp [alikeAll, h a b, alikeAll_map h l m]
theorem Ty.le {α : Type} {en : α → PyData} {k m : Nat} (t : Ty en k) (h : k ≤ m) : Ty en m := ⟨t.inj, t.ni, t.al, fun a => Nat.le_trans (t.dp a) h⟩
theorem Ty.int : Ty PyData.int 0 := ⟨fun a b e => by cases e; rfl, fun a => rfl, fun a b => rfl, fun a => Nat.le_refl _⟩
theorem map_inj {α : Type} {en : α → PyData} (h : ∀ a b, en a = en b → a = b) : ∀ {l m : List α}, l.map en = m.map en → l = m
  | [], [], _ => rfl
  | [], _ :: _, e => by cases e
  | _ :: _, [], e => by cases e
  | a :: l, b :: m, e => by
    simp only [List.map_cons, List.cons.injEq] at e
    rw [h _ _ e.1, map_inj h e.2]
theorem Ty.list {α : Type} {en : α → PyData} {k : Nat} (t : Ty en k) : Ty (eT en) (k + 1) where
  inj := fun a b e => by
    have e : PyData.tuple _ = PyData.tuple _ := e
    injection e with e; exact map_inj t.inj e
  ni := fun a => by
    show GS.ni (.tuple _) = true
    simp only [GS.ni]
    exact niAll_of fun d m => by obtain ⟨x, _, rfl⟩ := List.mem_map.mp m; exact t.ni x
  al := fun a b => by show alike (.tuple _) (.tuple _) = true; simp only [alike]; exact alikeAll_map t.al a b
  dp := fun a => by
    show PyData.depth (.tuple _) ≤ _
    simp only [PyData.depth]
    exact Nat.succ_le_succ (depthAll_le fun d m => by obtain ⟨x, _, rfl⟩ := List.mem_map.mp m; exact t.dp x)
theorem Ty.pair {α β : Type} {e1 : α → PyData} {e2 : β → PyData} {k : Nat} (t : Ty e1 k) (u : Ty e2 k) : Ty (eP2 e1 e2) (k + 1) where
  inj := fun a b e => by
    have e : PyData.tuple _ = PyData.tuple _ := e
    injection e with e
    simp only [List.cons.injEq, and_true] at e
    exact Prod.ext (t.inj _ _ e.1) (u.inj _ _ e.2)
  ni := fun a => by
    show GS.ni (.tuple _) = true
    simp [GS.ni, niAll, t.ni, u.ni]
  al := fun a b => by show alike (.tuple _) (.tuple _) = true; simp [alike, alikeAll, t.al, u.al]
  dp := fun a => by
    show PyData.depth (.tuple _) ≤ _
    simp only [PyData.depth]
    exact Nat.succ_le_succ (depthAll_le fun d m => by
      simp only [List.mem_cons, List.not_mem_nil, or_false] at m
      rcases m with rfl | rfl
      · exact t.dp _
      · exact u.dp _)
section
variable {α : Type} {en : α → PyData} {k : Nat} (t : Ty en k)
include t
theorem Ty.shaped (hk : k ≤ 64) (a : α) : SeqAt.shaped (en a) = true := by
  unfold SeqAt.shaped
  rw [ni_lay (t.ni a), Bool.true_and]
  exact decide_eq_true (Nat.le_trans (t.dp a) hk)
theorem Ty.shapedL (hk : k ≤ 63) (l : List α) : SeqAt.shaped (.list (l.map en)) = true := by
  unfold SeqAt.shaped
  have h1 : PyData.canLay0 (.list (l.map en)) = true := by
    simp only [PyData.canLay0]
    exact niAll_lay (niAll_of fun d m => by obtain ⟨x, _, rfl⟩ := List.mem_map.mp m; exact t.ni x)
  rw [h1, Bool.true_and]
  refine decide_eq_true ?_
  simp only [PyData.depth]
  have := depthAll_le (k := k) (ds := l.map en) fun d m => by obtain ⟨x, _, rfl⟩ := List.mem_map.mp m; exact t.dp x
  omega
theorem Ty.eqv [DecidableEq α] (a b : α) : PyData.eqv (en a) (en b) = decide (a = b) := by
  by_cases h : a = b
  · subst h; rw [decide_eq_true rfl]; exact ni_refl (t.ni a)
  · rw [decide_eq_false h]
    cases q : PyData.eqv (en a) (en b) with
    | false => rfl
    | true => exact absurd (t.inj _ _ (eqv_ni (t.ni a) (t.ni b) q)) h
theorem Ty.eqv' (a b : α) : PyData.eqv (en a) (en b) = true ↔ a = b := by
  constructor
  · intro q; exact t.inj _ _ (eqv_ni (t.ni a) (t.ni b) q)
  · rintro rfl; exact ni_refl (t.ni a)
theorem Ty.dEq [DecidableEq α] (hk : k ≤ 64) {a b : α} {c : Bool} (h : decide (a = b) = c) : dEq (en a) (en b) = some (.bool c) := by
  unfold GL.dEq; rw [if_pos ⟨t.shaped hk a, t.shaped hk b⟩, t.eqv, h]
theorem Ty.dNe [DecidableEq α] (hk : k ≤ 64) {a b : α} {c : Bool} (h : (!decide (a = b)) = c) : dNe (en a) (en b) = some (.bool c) := by
  unfold GL.dNe; rw [if_pos ⟨t.shaped hk a, t.shaped hk b⟩, t.eqv, h]
theorem Ty.any [DecidableEq α] (a : α) (l : List α) : ((l.map en).any fun z => PyData.eqv z (en a)) = decide (a ∈ l) := by
  induction l with
  | nil => rfl
  | cons b l ih =>
    rw [List.map_cons, List.any_cons, ih, t.eqv]
    by_cases h : b = a
    · subst h; simp
    · simp [h, show ¬ a = b from fun e => h e.symm]
theorem Ty.dIn [DecidableEq α] (hk : k ≤ 63) {a : α} {l : List α} {c : Bool} {d : PyData} (hd : d = .list (l.map en) ∨ d = .tuple (l.map en)) (h : decide (a ∈ l) = c) : dInA (en a) d = some (.bool c) := by
  have e : items d = some (l.map en) := by rcases hd with rfl | rfl <;> rfl
  unfold GL.dInA; rw [e]; dsimp only; rw [if_pos ⟨t.shaped (by omega) a, t.shapedL hk l⟩, t.any, h]
theorem Ty.dNotIn [DecidableEq α] (hk : k ≤ 63) {a : α} {l : List α} {c : Bool} {d : PyData} (hd : d = .list (l.map en) ∨ d = .tuple (l.map en)) (h : (!decide (a ∈ l)) = c) : dNotInA (en a) d = some (.bool c) := by
  have e : items d = some (l.map en) := by rcases hd with rfl | rfl <;> rfl
  unfold GL.dNotInA; rw [e]; dsimp only; rw [if_pos ⟨t.shaped (by omega) a, t.shapedL hk l⟩, t.any, h]
theorem Ty.dIn' (hk : k ≤ 63) {a : α} {l : List α} {c : Bool} {d : PyData} (hd : d = .list (l.map en) ∨ d = .tuple (l.map en)) (h : c = true ↔ a ∈ l) : dInA (en a) d = some (.bool c) := by
  classical
  exact t.dIn hk hd (by rw [Bool.eq_iff_iff, decide_eq_true_eq, h])
theorem Ty.dNotIn' (hk : k ≤ 63) {a : α} {l : List α} {c : Bool} {d : PyData} (hd : d = .list (l.map en) ∨ d = .tuple (l.map en)) (h : c = true ↔ a ∉ l) : dNotInA (en a) d = some (.bool c) := by
  classical
  exact t.dNotIn hk hd (by rw [Bool.eq_iff_iff, h]; simp)
theorem Ty.dNeL (hk : k ≤ 63) {l : List α} {c : Bool} (h : (!l.isEmpty) = c) : GL.dNe (.list (l.map en)) (.list []) = some (.bool c) := by
  have s0 : SeqAt.shaped (.list []) = true := by unfold SeqAt.shaped; simp [PyData.canLay0, PyData.canLayAll0, PyData.depth, PyData.depthAll]
  unfold GL.dNe; rw [if_pos ⟨t.shapedL hk l, s0⟩]
  cases l with
  | nil => subst h; simp [PyData.eqv, PyData.eqvAll]
  | cons a l => subst h; simp [PyData.eqv, PyData.eqvAll]
theorem Ty.dEqL (hk : k ≤ 63) {l : List α} {c : Bool} (h : l.isEmpty = c) : GL.dEq (.list (l.map en)) (.list []) = some (.bool c) := by
  have s0 : SeqAt.shaped (.list []) = true := by unfold SeqAt.shaped; simp [PyData.canLay0, PyData.canLayAll0, PyData.depth, PyData.depthAll]
  unfold GL.dEq; rw [if_pos ⟨t.shapedL hk l, s0⟩]
  cases l with
  | nil => subst h; simp [PyData.eqv, PyData.eqvAll]
  | cons a l => subst h; simp [PyData.eqv, PyData.eqvAll]
theorem Ty.okSet (hk : k ≤ 8) (hT : ∀ a, ∃ ds, en a = .tuple ds) {l : List α} (h : l.length < 64) : okSet (l.map en) = true := by
  unfold GS.okSet
  rw [Bool.and_eq_true, Bool.and_eq_true, List.all_eq_true, List.all_eq_true, decide_eq_true_eq]
  refine ⟨⟨fun d m => ?_, by simpa using h⟩, fun d m => List.all_eq_true.mpr fun e n => ?_⟩
  · obtain ⟨a, _, rfl⟩ := List.mem_map.mp m
    obtain ⟨ds, e⟩ := hT a
    have h1 := t.ni a; have h2 := t.dp a
    rw [e] at h1 h2 ⊢
    simp only [okKey, Bool.and_eq_true, decide_eq_true_eq]
    exact ⟨by simpa [GS.ni] using h1, Nat.le_trans h2 hk⟩
  · obtain ⟨a, _, rfl⟩ := List.mem_map.mp m
    obtain ⟨b, _, rfl⟩ := List.mem_map.mp n
    exact t.al a b
end
/-! ### sorted sets, as lists of values -/
structure Srt {α : Type} (sp : List α → List α) : Prop where
  mem : ∀ l x, x ∈ sp l ↔ x ∈ l
  nd : ∀ l, (sp l).Nodup
  ext : ∀ l m, (∀ x, x ∈ l ↔ x ∈ m) → sp l = sp m
open Classical in
noncomputable def dec {α : Type} (en : α → PyData) (d : PyData) : Option α := if h : ∃ a, en a = d then some h.choose else none
noncomputable def srt {α : Type} (en : α → PyData) (l : List α) : List α := (sortK (l.map en)).filterMap (dec en)
section
variable {α : Type} {en : α → PyData} {k : Nat} (t : Ty en k)
include t
theorem Ty.dec (a : α) : dec en (en a) = some a := by
  have h : ∃ b, en b = en a := ⟨a, rfl⟩
  unfold GT.dec
  rw [dif_pos h]
  exact congrArg some (t.inj _ _ h.choose_spec)
theorem Ty.decs : ∀ l : List α, (l.map en).filterMap (GT.dec en) = l
  | [] => rfl
  | a :: l => by rw [List.map_cons, List.filterMap_cons, t.dec a]; dsimp only; rw [Ty.decs l]
theorem Ty.kofI {a b : α} (h : kof (en a) = kof (en b)) : a = b := by
  have := congrArg NestedKey.data h
  rw [(data_kof _ (t.ni a)).1, (data_kof _ (t.ni b)).1] at this
  exact t.inj _ _ this
theorem Ty.mem_once {l : List α} {κ : NestedKey} (h : κ ∈ (once ((l.map en).map kof)).mergeSort kLe) : ∃ a ∈ l, κ = kof (en a) := by
  have := GS.mem_once.mp ((List.mergeSort_perm _ _).mem_iff.mp h)
  obtain ⟨d, m, rfl⟩ := List.mem_map.mp this
  obtain ⟨a, ma, rfl⟩ := List.mem_map.mp m
  exact ⟨a, ma, rfl⟩
theorem Ty.srt_eq (l : List α) : sortK (l.map en) = (srt en l).map en := by
  have hm : ∀ d ∈ sortK (l.map en), ∃ a, d = en a := fun d m => by
    obtain ⟨κ, mκ, rfl⟩ := List.mem_map.mp m
    obtain ⟨a, _, rfl⟩ := t.mem_once mκ
    exact ⟨a, (data_kof _ (t.ni a)).1⟩
  unfold srt
  generalize sortK (l.map en) = ds at hm ⊢
  induction ds with
  | nil => rfl
  | cons d ds ih =>
    obtain ⟨a, rfl⟩ := hm d List.mem_cons_self
    rw [List.filterMap_cons, t.dec a]
    dsimp only
    rw [List.map_cons, ← ih fun e m => hm e (List.mem_cons_of_mem _ m)]
theorem Ty.mem_srt (l : List α) (x : α) : x ∈ srt en l ↔ x ∈ l := by
  have h1 : x ∈ srt en l ↔ en x ∈ (srt en l).map en := by
    rw [List.mem_map]
    exact ⟨fun m => ⟨x, m, rfl⟩, fun ⟨y, m, e⟩ => t.inj _ _ e ▸ m⟩
  rw [h1, ← t.srt_eq l]
  constructor
  · intro m
    obtain ⟨κ, mκ, e⟩ := List.mem_map.mp m
    obtain ⟨a, ma, rfl⟩ := t.mem_once mκ
    rw [(data_kof _ (t.ni a)).1] at e
    exact t.inj _ _ e ▸ ma
  · intro m
    refine List.mem_map.mpr ⟨kof (en x), (List.mergeSort_perm _ _).mem_iff.mpr (GS.mem_once.mpr (List.mem_map_of_mem (List.mem_map_of_mem m))), (data_kof _ (t.ni x)).1⟩
theorem Ty.keys (l : List α) : (srt en l).map (fun a => kof (en a)) = (once ((l.map en).map kof)).mergeSort kLe := by
  have h : ∀ κ ∈ (once ((l.map en).map kof)).mergeSort kLe, kof κ.data = κ := fun κ m => by
    obtain ⟨a, _, rfl⟩ := t.mem_once m
    rw [(data_kof _ (t.ni a)).1]
  have e := congrArg (List.map kof) (t.srt_eq l)
  unfold sortK at e
  generalize (once ((l.map en).map kof)).mergeSort kLe = M at h e ⊢
  have e2 : (M.map NestedKey.data).map kof = M := by
    rw [List.map_map]
    conv => rhs; rw [← List.map_id M]
    exact List.map_congr_left h
  rw [e2, List.map_map] at e
  exact e.symm
theorem Ty.nd_srt (l : List α) : (srt en l).Nodup := by
  have h : ((srt en l).map fun a => kof (en a)).Nodup := by
    rw [t.keys]
    exact (List.mergeSort_perm _ _).nodup_iff.mpr (nodup_once _)
  exact (List.pairwise_map.mp h).imp fun h e => h (by rw [e])
theorem Ty.sorted_uniq {l m : List NestedKey} (hl : ∀ κ ∈ l, ∃ a, κ = kof (en a)) (hm : ∀ κ ∈ m, ∃ a, κ = kof (en a)) (p : l.Perm m) : l.mergeSort kLe = m.mergeSort kLe := by
  have tt := le_tot NestedKey NestedKey.data
  refine List.Perm.eq_of_pairwise (le := fun a b => kLe a b = true) (fun a b ha hb h1 h2 => ?_) (List.pairwise_mergeSort tt.1 tt.2 _) (List.pairwise_mergeSort tt.1 tt.2 _) (((List.mergeSort_perm _ _).trans p).trans (List.mergeSort_perm _ _).symm)
  obtain ⟨x, rfl⟩ := hl a ((List.mergeSort_perm _ _).mem_iff.mp ha)
  obtain ⟨y, rfl⟩ := hm b ((List.mergeSort_perm _ _).mem_iff.mp hb)
  have e1 := (data_kof _ (t.ni x)).1
  have e2 := (data_kof _ (t.ni y)).1
  have q1 : dataLe false id (en x) (en y) = true := by
    have : dataLe false id (kof (en x)).data (kof (en y)).data = true := h1
    rwa [e1, e2] at this
  have q2 : dataLe false id (en y) (en x) = true := by
    have : dataLe false id (kof (en y)).data (kof (en x)).data = true := h2
    rwa [e1, e2] at this
  rw [le_anti (t.ni x) (t.ni y) (t.al x y) q1 q2]
theorem Ty.srt : Srt (srt en) := by
  refine ⟨t.mem_srt, t.nd_srt, fun l m h => ?_⟩
  have inl : ∀ l : List α, ∀ κ ∈ once ((l.map en).map kof), ∃ a, κ = kof (en a) := fun l κ mκ => by
    obtain ⟨d, md, rfl⟩ := List.mem_map.mp (GS.mem_once.mp mκ)
    obtain ⟨a, _, rfl⟩ := List.mem_map.mp md
    exact ⟨a, rfl⟩
  have p : (once ((l.map en).map kof)).Perm (once ((m.map en).map kof)) := by
    refine (List.perm_ext_iff_of_nodup (nodup_once _) (nodup_once _)).mpr fun κ => ?_
    rw [GS.mem_once, GS.mem_once, List.map_map, List.map_map, List.mem_map, List.mem_map]
    exact ⟨fun ⟨a, b, c⟩ => ⟨a, (h a).mp b, c⟩, fun ⟨a, b, c⟩ => ⟨a, (h a).mpr b, c⟩⟩
  have e := t.sorted_uniq (inl l) (inl m) p
  unfold GT.srt sortK
  rw [e]
theorem Ty.srt_nil : GT.srt en [] = [] := by
  cases q : GT.srt en [] with
  | nil => rfl
  | cons a l => exact absurd ((t.mem_srt [] a).mp (by rw [q]; simp)) (by simp)
theorem Ty.len_srt {l : List α} (nd : l.Nodup) : (GT.srt en l).length = l.length :=
  ((List.perm_ext_iff_of_nodup (t.nd_srt l) nd).mpr fun a => t.mem_srt l a).length_eq
/-- sorted(set(e)) -/
theorem Ty.dSortSet (hk : k ≤ 8) (hT : ∀ a, ∃ ds, en a = .tuple ds) {l : List α} {d : PyData} (hd : d = .list (l.map en) ∨ d = .tuple (l.map en)) (h : l.length < 64) : dSortSetA [d] = some ((GT.srt en l).map en) := by
  rcases hd with rfl | rfl
  · show (if GS.okSet _ = true then some (sortK _) else none) = _
    rw [if_pos (t.okSet hk hT h), t.srt_eq]
  · show (if GS.okSet _ = true then some (sortK _) else none) = _
    rw [if_pos (t.okSet hk hT h), t.srt_eq]
theorem Ty.dLenSet (hk : k ≤ 8) (hT : ∀ a, ∃ ds, en a = .tuple ds) {l : List α} {d : PyData} (hd : d = .list (l.map en) ∨ d = .tuple (l.map en)) (h : l.length < 64) : dLenSet [d] = some (.int (GT.srt en l).length) := by
  rcases hd with rfl | rfl
  · show (if GS.okSet _ = true then some (PyData.int (sortK _).length) else none) = _
    rw [if_pos (t.okSet hk hT h), t.srt_eq, List.length_map]
  · show (if GS.okSet _ = true then some (PyData.int (sortK _).length) else none) = _
    rw [if_pos (t.okSet hk hT h), t.srt_eq, List.length_map]
/-- sorted(l), each item once -/
theorem Ty.dSorted (hk : k ≤ 8) (hT : ∀ a, ∃ ds, en a = .tuple ds) {l : List α} (nd : l.Nodup) (h : l.length < 64) : dSorted [.list (l.map en)] = some ((GT.srt en l).map en) := by
  have ok : okSort (l.map en) = true := by
    have := t.okSet hk hT h
    unfold GS.okSet at this
    unfold GL.okSort
    rw [Bool.and_eq_true, Bool.and_eq_true] at this ⊢
    exact ⟨⟨this.1.1, decide_eq_true (by simp; omega)⟩, this.2⟩
  show (if okSort _ = true then some _ else none) = _
  rw [if_pos ok]
  congr 1
  -- the same through the keys
  have e1 : (l.map en).mergeSort (dataLe false id) = (((l.map fun a => kof (en a))).mergeSort kLe).map NestedKey.data := by
    rw [sort_maps (r := kLe) (s := dataLe false id) NestedKey.data fun a _ b _ => rfl, List.map_map]
    congr 1
    refine List.map_congr_left fun a _ => ?_
    exact ((data_kof _ (t.ni a)).1).symm
  have nk : (l.map fun a => kof (en a)).Nodup := by
    exact List.pairwise_map.mpr (nd.imp fun h e => h (t.kofI e))
  have e2 := t.sorted_uniq (l := l.map fun a => kof (en a)) (m := once ((l.map en).map kof)) (fun κ m => by obtain ⟨a, _, rfl⟩ := List.mem_map.mp m; exact ⟨a, rfl⟩) (fun κ m => by
    obtain ⟨d, md, rfl⟩ := List.mem_map.mp (GS.mem_once.mp m)
    obtain ⟨a, _, rfl⟩ := List.mem_map.mp md
    exact ⟨a, rfl⟩) ((List.perm_ext_iff_of_nodup nk (nodup_once _)).mpr fun κ => by
      rw [GS.mem_once, List.map_map]; rfl)
  rw [e1, e2, ← t.srt_eq]
  rfl
end
end GT

/-! GTb: rules of evaluation for the newer functions; loops and comprehensions over lists of values -/
namespace GL
open PySem PySem.Spec L2
open PyProof.Rows hiding St
section
variable {f f1 f2 f3 : PSt → Rs PyData} {fo fo1 fo2 : PSt → Rs PV} {fa : PSt → Rs (List PyData)} {c c1 c2 : PSt → Rs Bool} {g g1 g2 : PSt → Os} {ps ps1 ps2 ps3 ps4 : PSt} {a b d e : PyData} {p q : PV} {ds es : List PyData} {i j n : Nat} {o : Os}
theorem ev_binO {D : PyData → PyData → Option (List PyData)} (h1 : Ev f1 ps a ps1) (h2 : Ev f2 ps1 b ps2) (h : D a b = some es) : Ev (fBinO D f1 f2) ps (.own (.list es)) ps2 := by unfold Ev at *; unfold fBinO; rw [h1]; dsimp only [Rs.bind]; rw [h2]; dsimp only; rw [h]
theorem dCatL_l {xs ys : List PyData} (h : xs.length + ys.length ≤ 16777216) : dCatL (.list xs) (.list ys) = some (xs ++ ys) := by unfold dCatL; dsimp only; rw [sizeLine_eq, if_pos h]
theorem ev_rep {k : Int} (h1 : Ev fo ps (.own (.list ds)) ps1) (h2 : Ev f2 ps1 (.int k) ps2) (hz : 0 ≤ k ∧ k ≤ 1000 ∧ ds.length ≤ 1000) : Ev (fRep fo f2) ps (.own (.list (List.replicate k.toNat ds).flatten)) ps2 := by
  unfold Ev at *; unfold fRep; rw [h1]; dsimp only [Rs.bind]; rw [h2]; dsimp only; rw [if_pos hz]
theorem ev_rev (h : Ev f ps (.list ds) ps1) : Ev (fRev f) ps (.own (.list ds.reverse)) ps1 := by unfold Ev at *; unfold fRev; rw [h]; rfl
theorem ev_ext {ds0 : List PyData} (h0 : ps[i]? = some (some (.own (.list ds0)))) (h : Ev fo ps (.own (.list es)) ps1) (h1 : ps1[i]? = some (some (.own (.list ds)))) (hz : ds.length + es.length ≤ 16777216) : Ev (fExt i fo) ps .none (ps1.set i (some (.own (.list (ds ++ es))))) := by
  unfold Ev at *; unfold fExt
  have z : slotL i ps = some ds0 := by unfold slotL; rw [h0]
  have z1 : slotL i ps1 = some ds := by unfold slotL; rw [h1]
  rw [z]; dsimp only; rw [h]; dsimp only [Rs.bind]; rw [z1]; dsimp only; rw [sizeLine_eq, if_pos hz]
theorem ev_pop (h : ps[i]? = some (some (.own (.list (ds ++ [d]))))) : Ev (fPop i) ps d (ps.set i (some (.own (.list ds)))) := by
  unfold Ev; unfold fPop
  have z : slotL i ps = some (ds ++ [d]) := by unfold slotL; rw [h]
  have e : dPop (ds ++ [d]) = some (d, ds) := by unfold dPop; simp
  rw [z]; dsimp only; rw [e]
theorem ev_binSS {D : PyData → PyData → Option PyData} (h0 : look i ps = some a) (h1 : look j ps = some b) (h : D a b = some d) : Ev (fBinSS D i j) ps d ps := by unfold Ev at *; unfold fBinSS; rw [h0]; dsimp only; rw [h1]; dsimp only; rw [h]; rfl
theorem ev_methV {DM : List PyData → List PyData → Option (PyData × List PyData)} {as es' ds0 : List PyData} (h0 : ps[i]? = some (some (.own (.list ds0)))) (h : Ev fa ps as ps1) (h1 : ps1[i]? = some (some (.own (.list ds)))) (hd : DM ds as = some (d, es')) : Ev (fMethV i DM fa) ps d (ps1.set i (some (.own (.list es')))) := by
  unfold Ev at *; unfold fMethV
  have z : slotL i ps = some ds0 := by unfold slotL; rw [h0]
  have z1 : slotL i ps1 = some ds := by unfold slotL; rw [h1]
  rw [z]; dsimp only; rw [h]; dsimp only [Rs.bind]; rw [z1]; dsimp only; rw [hd]
theorem es_expr' {ps2 : PSt} (h : Ev f ps d ps1) (e : ps1 = ps2) : Es (fExpr f) ps (.nx ps2) := by subst e; exact es_expr h
theorem forL_ct {u : PyData → PSt → Option PSt} (hu : Et u d ps ps1) (h : Es g ps1 (.ct ps2)) (h2 : forL u g ds ps2 = o) : forL u g (d :: ds) ps = o := by unfold Et Es at *; unfold forL; rw [hu]; dsimp only; rw [h]; exact h2
/-- a loop over values: the state is given by s -/
theorem forL_fold {α σ : Type} {en : α → PyData} {u : PyData → PSt → Option PSt} (st : σ → PSt) (P : σ → Prop) (step : σ → α → σ) : ∀ (l : List α) (s : σ), P s → (∀ s a, P s → a ∈ l → P (step s a) ∧ ∃ p1, Et u (en a) (st s) p1 ∧ Es g p1 (.nx (st (step s a)))) → forL u g (l.map en) (st s) = .nx (st (l.foldl step s)) ∧ P (l.foldl step s)
  | [], s, hP, _ => ⟨rfl, hP⟩
  | a :: l, s, hP, h => by
    obtain ⟨hP', p1, h1, h2⟩ := h s a hP List.mem_cons_self
    obtain ⟨r1, r2⟩ := forL_fold st P step l (step s a) hP' fun s b q m => h s b q (List.mem_cons_of_mem _ m)
    exact ⟨forL_cons h1 h2 r1, r2⟩
/-- a comprehension over values -/
theorem compL_tyA {α β : Type} {en : α → PyData} {en' : β → PyData} {u : PyData → PSt → Option PSt} {fe : PSt → Rs PyData} {vs : List Nat} (kp : α → Bool) (gg : α → β) : ∀ (l : List α) (acc : List PyData), acc.length + l.length ≤ 16777216 →
    (∀ a ∈ l, ∃ p1 p2, Et u (en a) ps p1 ∧ Ev c p1 (kp a) p2 ∧ (kp a = true → ∃ p3, Ev fe p2 (en' (gg a)) p3 ∧ wipeP p3 vs = ps) ∧ (kp a = false → wipeP p2 vs = ps)) → compL u c fe vs (l.map en) ps acc = .ok (acc ++ ((l.filter kp).map gg).map en') ps
  | [], acc, _, _ => by show compL u c fe vs [] ps acc = _; unfold compL; simp
  | a :: l, acc, hz, hh => by
    obtain ⟨p1, p2, h1, h2, h3, h4⟩ := hh a List.mem_cons_self
    simp only [List.length_cons] at hz
    cases q : kp a with
    | true =>
      obtain ⟨p3, h5, h6⟩ := h3 q
      rw [q] at h2
      refine compL_cons h1 h2 h5 (by omega) ?_
      rw [h6, compL_tyA kp gg l (acc ++ [en' (gg a)]) (by simp; omega) fun b m => hh b (List.mem_cons_of_mem _ m), List.filter_cons, if_pos q]
      simp
    | false =>
      rw [q] at h2
      refine compL_skip h1 h2 ?_
      rw [h4 q, compL_tyA kp gg l acc (by omega) fun b m => hh b (List.mem_cons_of_mem _ m), List.filter_cons, if_neg (by rw [q]; decide)]
theorem compL_ty {α β : Type} {en : α → PyData} {en' : β → PyData} {u : PyData → PSt → Option PSt} {fe : PSt → Rs PyData} {vs : List Nat} (kp : α → Bool) (gg : α → β) (l : List α) (hz : l.length ≤ 16777216)
    (hh : ∀ a ∈ l, ∃ p1 p2, Et u (en a) ps p1 ∧ Ev c p1 (kp a) p2 ∧ (kp a = true → ∃ p3, Ev fe p2 (en' (gg a)) p3 ∧ wipeP p3 vs = ps) ∧ (kp a = false → wipeP p2 vs = ps)) : compL u c fe vs (l.map en) ps [] = .ok (((l.filter kp).map gg).map en') ps := by
  have := compL_tyA (en := en) (en' := en') (c := c) kp gg l [] (by simpa using hz) hh
  simpa using this
/-- .. each item itself, if kept -/
theorem compL_keep {α : Type} {en : α → PyData} {u : PyData → PSt → Option PSt} {fe : PSt → Rs PyData} {vs : List Nat} (kp : α → Bool) (l : List α) (hz : l.length ≤ 16777216)
    (hh : ∀ a ∈ l, ∃ p1, Et u (en a) ps p1 ∧ Ev c p1 (kp a) p1 ∧ Ev fe p1 (en a) p1 ∧ wipeP p1 vs = ps) : compL u c fe vs (l.map en) ps [] = .ok ((l.filter kp).map en) ps := by
  have := compL_ty (en := en) (en' := en) (c := c) kp id l hz fun a m => by
    obtain ⟨p1, h1, h2, h3, h4⟩ := hh a m
    exact ⟨p1, p1, h1, h2, fun _ => ⟨p1, h3, h4⟩, fun _ => h4⟩
  simpa using this
/-- .. each item's -/
theorem compL_each {α β : Type} {en : α → PyData} {en' : β → PyData} {u : PyData → PSt → Option PSt} {fe : PSt → Rs PyData} {vs : List Nat} (gg : α → β) (l : List α) (hz : l.length ≤ 16777216)
    (hh : ∀ a ∈ l, ∃ p1, Et u (en a) ps p1 ∧ ∃ p3, Ev fe p1 (en' (gg a)) p3 ∧ wipeP p3 vs = ps) : compL u cYes fe vs (l.map en) ps [] = .ok ((l.map gg).map en') ps := by
  have := compL_ty (en := en) (en' := en') (c := cYes) (fun _ => true) gg l hz fun a m => by
    obtain ⟨p1, h1, p3, h3, h4⟩ := hh a m
    exact ⟨p1, p1, h1, ev_cYes, fun _ => ⟨p3, h3, h4⟩, fun q => by cases q⟩
  rwa [List.filter_eq_self.mpr fun _ _ => rfl] at this
end
end GL

/-! GTc: data of small sizes; tuples for lists, lists for tuples -/
namespace GT
open PySem PySem.Spec L2 GL GS PySem.W
open PyProof.Rows hiding St
mutual
def sz : PyData → Bool
  | .list ds => decide (ds.length ≤ 1000) && szAll ds
  | .tuple ds => decide (ds.length ≤ 1000) && szAll ds
  | .dict _ => false
  | .str x => PyData.canLay0 (.str x)
  | _ => true
def szAll : List PyData → Bool
  | [] => true
  | d :: ds => sz d && szAll ds
end
mutual
def tup : PyData → PyData
  | .list ds => .tuple (tupAll ds)
  | .tuple ds => .tuple (tupAll ds)
  | .none => .none
  | .bool b => .bool b
  | .int i => .int i
  | .str x => .str x
  | .dict x => .dict x
def tupAll : List PyData → List PyData
  | [] => []
  | d :: ds => tup d :: tupAll ds
end
mutual
def lis : PyData → PyData
  | .list ds => .list (lisAll ds)
  | .tuple ds => .list (lisAll ds)
  | .none => .none
  | .bool b => .bool b
  | .int i => .int i
  | .str x => .str x
  | .dict x => .dict x
def lisAll : List PyData → List PyData
  | [] => []
  | d :: ds => lis d :: lisAll ds
end
theorem szAll_mem : ∀ {ds : List PyData}, szAll ds = true → ∀ d ∈ ds, sz d = true
  | [], _, _, m => by cases m
  | e :: ds, h, d, m => by
    have h' : sz e = true ∧ szAll ds = true := by simpa [szAll] using h
    rcases List.mem_cons.mp m with q | q
    · rw [q]; exact h'.1
    · exact szAll_mem h'.2 d q
theorem szAll_of : ∀ {ds : List PyData}, (∀ d ∈ ds, sz d = true) → szAll ds = true
  | [], _ => rfl
  | d :: ds, h => by simp [szAll, h d List.mem_cons_self, szAll_of fun e m => h e (List.mem_cons_of_mem _ m)]
theorem tupAll_map : ∀ ds : List PyData, tupAll ds = ds.map tup
  | [] => rfl
  | d :: ds => by rw [tupAll, tupAll_map ds]; rfl
theorem lisAll_map : ∀ ds : List PyData, lisAll ds = ds.map lis
  | [] => rfl
  | d :: ds => by rw [lisAll, lisAll_map ds]; rfl
theorem depth_mem : ∀ {ds : List PyData} {d : PyData}, d ∈ ds → d.depth ≤ PyData.depthAll ds
  | e :: ds, d, m => by
    simp only [PyData.depthAll]
    rcases List.mem_cons.mp m with q | q
    · rw [q]; exact Nat.le_max_left _ _
    · exact Nat.le_trans (depth_mem q) (Nat.le_max_right _ _)
mutual
theorem tup_ni : ∀ {d : PyData}, GS.ni d = true → tup d = d
  | .int _, _ => rfl
  | .tuple ds, h => by
    have h' : GS.niAll ds = true := by simpa [GS.ni] using h
    rw [tup, tup_niAll h']
  | .none, h => by simp [GS.ni] at h
  | .bool _, h => by simp [GS.ni] at h
  | .str _, h => by simp [GS.ni] at h
  | .list _, h => by simp [GS.ni] at h
  | .dict _, h => by simp [GS.ni] at h
theorem tup_niAll : ∀ {ds : List PyData}, GS.niAll ds = true → tupAll ds = ds
  | [], _ => rfl
  | d :: ds, h => by
    have h' : GS.ni d = true ∧ GS.niAll ds = true := by simpa [GS.niAll] using h
    rw [tupAll, tup_ni h'.1, tup_niAll h'.2]
end
mutual
theorem tup_lis : ∀ {d : PyData}, GS.ni d = true → tup (lis d) = d
  | .int _, _ => rfl
  | .tuple ds, h => by
    have h' : GS.niAll ds = true := by simpa [GS.ni] using h
    rw [lis, tup, tup_lisAll h']
  | .none, h => by simp [GS.ni] at h
  | .bool _, h => by simp [GS.ni] at h
  | .str _, h => by simp [GS.ni] at h
  | .list _, h => by simp [GS.ni] at h
  | .dict _, h => by simp [GS.ni] at h
theorem tup_lisAll : ∀ {ds : List PyData}, GS.niAll ds = true → tupAll (lisAll ds) = ds
  | [], _ => rfl
  | d :: ds, h => by
    have h' : GS.ni d = true ∧ GS.niAll ds = true := by simpa [GS.niAll] using h
    rw [lisAll, tupAll, tup_lis h'.1, tup_lisAll h'.2]
end
mutual
theorem sz_lis : ∀ {d : PyData}, sz d = true → sz (lis d) = true ∧ (lis d).depth = d.depth
  | .int _, _ => ⟨rfl, rfl⟩
  | .none, h => ⟨rfl, rfl⟩
  | .bool _, h => ⟨rfl, rfl⟩
  | .str _, h => ⟨h, rfl⟩
  | .list ds, h => by
    have h' : ds.length ≤ 1000 ∧ szAll ds = true := by simpa [sz] using h
    have q := sz_lisAll h'.2
    simp [lis, sz, PyData.depth, q.1, q.2.1, q.2.2, h'.1]
  | .tuple ds, h => by
    have h' : ds.length ≤ 1000 ∧ szAll ds = true := by simpa [sz] using h
    have q := sz_lisAll h'.2
    simp [lis, sz, PyData.depth, q.1, q.2.1, q.2.2, h'.1]
  | .dict _, h => by simp [sz] at h
theorem sz_lisAll : ∀ {ds : List PyData}, szAll ds = true → szAll (lisAll ds) = true ∧ PyData.depthAll (lisAll ds) = PyData.depthAll ds ∧ (lisAll ds).length = ds.length
  | [], _ => ⟨rfl, rfl, rfl⟩
  | d :: ds, h => by
    have h' : sz d = true ∧ szAll ds = true := by simpa [szAll] using h
    have q := sz_lis h'.1
    have r := sz_lisAll h'.2
    simp [lisAll, szAll, PyData.depthAll, q.1, q.2, r.1, r.2.1, r.2.2]
end
end GT

/-! GDa: dicts: what is had, what is put -/
namespace GD
open PySem PySem.Spec L2 GL GS PySem.W
open PyProof.Rows hiding St
def lGet (L : DL) (κ : NestedKey) : Option V := (L.find? fun p => decide (p.1 = κ)).map (·.2.2)
def lPut (L : DL) (κ : NestedKey) (k v : V) : DL := if (lGet L κ).isSome then L.map (fun p => if p.1 = κ then (p.1, p.2.1, v) else p) else L ++ [(κ, k, v)]
def kGet (kvs : List (PyData × PyData)) (k : PyData) : Option PyData := (kvs.find? fun p => decide (kof p.1 = kof k)).map (·.2)
def kPut (kvs : List (PyData × PyData)) (k v : PyData) : List (PyData × PyData) := if (kGet kvs k).isSome then kvs.map (fun p => if kof p.1 = kof k then (p.1, v) else p) else kvs ++ [(k, v)]
inductive OptR {γ δ : Type} (T : γ → δ → Prop) : Option γ → Option δ → Prop
  | none : OptR T none none
  | some {c : γ} {d : δ} : T c d → OptR T (some c) (some d)
/-- two lists walked together -/
theorem paired_get {α β γ δ : Type} {R : α → β → Prop} {T : γ → δ → Prop} {p : α → Bool} {q : β → Bool} {f : α → γ} {g : β → δ} (hpq : ∀ a b, R a b → p a = q b) (hfg : ∀ a b, R a b → T (f a) (g b)) : ∀ {l : List α} {m : List β}, Paired R l m →
    OptR T ((l.find? p).map f) ((m.find? q).map g)
  | _, _, .nil => .none
  | a :: _, b :: _, .cons h t => by
    rw [List.find?_cons, List.find?_cons, hpq _ _ h]
    cases q b with
    | true => exact .some (hfg _ _ h)
    | false => exact paired_get hpq hfg t
theorem paired_map {α β : Type} {R : α → β → Prop} {f : α → α} {g : β → β} (h : ∀ a b, R a b → R (f a) (g b)) : ∀ {l : List α} {m : List β}, Paired R l m → Paired R (l.map f) (m.map g)
  | _, _, .nil => .nil
  | _, _, .cons r t => .cons (h _ _ r) (paired_map h t)
theorem paired_snoc {α β : Type} {R : α → β → Prop} {a : α} {b : β} (h : R a b) : ∀ {l : List α} {m : List β}, Paired R l m → Paired R (l ++ [a]) (m ++ [b])
  | _, _, .nil => .cons h .nil
  | _, _, .cons r t => .cons r (paired_snoc h t)
def LY (L : DL) (ys : List (NestedKey × Addr × Value)) : Prop := Paired (fun (p : NestedKey × V × V) (q : NestedKey × Addr × Value) => p.1 = q.1 ∧ p.2.1 = .ref q.2.1 ∧ RelV p.2.2 q.2.2) L ys
def LZ (L : DL) (zs : List (Int × Value)) : Prop := Paired (fun (p : NestedKey × V × V) (q : Int × Value) => p.1 = .num q.1 ∧ p.2.1 = .int q.1 ∧ RelV p.2.2 q.2) L zs
theorem relO_of {a : Option V} {b : Option Value} (h : OptR RelV a b) : RelO a b := by
  cases h with
  | none => trivial
  | some h => exact h
theorem LY.get {L : DL} {ys : List (NestedKey × Addr × Value)} (r : LY L ys) (κ : NestedKey) : RelO (lGet L κ) ((atKey ys κ).map (·.2)) := by
  have := paired_get (p := fun p : NestedKey × V × V => decide (p.1 = κ)) (q := fun q : NestedKey × Addr × Value => decide (q.1 = κ)) (f := (·.2.2)) (g := (·.2.2)) (T := RelV) (fun a b h => by rw [h.1]) (fun a b h => h.2.2) r
  unfold lGet atKey
  rw [Option.map_map]
  exact relO_of this
theorem LZ.get {L : DL} {zs : List (Int × Value)} (r : LZ L zs) (i : Int) : RelO (lGet L (.num i)) (valueAt zs i) := by
  have := paired_get (p := fun p : NestedKey × V × V => decide (p.1 = .num i)) (q := fun q : Int × Value => decide (q.1 = i)) (f := (·.2.2)) (g := (·.2)) (T := RelV) (fun a b h => by rw [h.1]; simp) (fun a b h => h.2.2) r
  unfold lGet valueAt
  exact relO_of this
theorem relO_some {a : Option V} {b : Option Value} (h : RelO a b) : a.isSome = b.isSome := by cases a <;> cases b <;> first | rfl | exact h.elim
theorem LY.put {L : DL} {ys : List (NestedKey × Addr × Value)} (r : LY L ys) (κ : NestedKey) (b : Addr) {v : V} {w : Value} (rv : RelV v w) : LY (lPut L κ (.ref b) v) (storedH ys κ b w) := by
  have e := relO_some (r.get κ)
  rw [Option.isSome_map] at e
  unfold lPut storedH
  rw [e]
  split
  · refine paired_map (fun p q h => ?_) r
    unfold putAt
    by_cases c : q.1 = κ
    · rw [if_pos c, if_pos (h.1.trans c)]; exact ⟨h.1, h.2.1, rv⟩
    · rw [if_neg c, if_neg (by rw [h.1]; exact c)]; exact h
  · exact paired_snoc ⟨rfl, rfl, rv⟩ r
theorem any_isSome (zs : List (Int × Value)) (i : Int) : zs.any (fun kv => decide (kv.1 = i)) = (valueAt zs i).isSome := by
  unfold valueAt
  rw [Option.isSome_map]
  induction zs with
  | nil => rfl
  | cons z zs ih =>
    rw [List.any_cons, List.find?_cons]
    split
    · rename_i h; rw [h]; rfl
    · rename_i h; rw [h, ih]; rfl
theorem LZ.put {L : DL} {zs : List (Int × Value)} (r : LZ L zs) (i : Int) {v : V} {w : Value} (rv : RelV v w) : LZ (lPut L (.num i) (.int i) v) (stored zs i w) := by
  have e := relO_some (r.get i)
  unfold lPut stored
  rw [any_isSome, e]
  split
  · refine paired_map (fun p q h => ?_) r
    by_cases c : q.1 = i
    · rw [if_pos c, if_pos (by rw [h.1, c])]
      exact ⟨h.1, h.2.1, rv⟩
    · rw [if_neg c, if_neg (by rw [h.1]; simpa using c)]
      exact h
  · exact paired_snoc ⟨rfl, rfl, rv⟩ r
/-! ### data -/
section
variable {K : PySem.W.Frag} {F : Hp}
theorem DvKv.get : ∀ {L : DL} {kvs : List (PyData × PyData)} (_ : DvKv K F L kvs) (kd : PyData), OptR (Dv K F) (lGet L (kof kd)) (kGet kvs kd)
  | _, _, .nil, _ => .none
  | _, _, .cons (kd := kd0) o h1 h2 t, kd => by
    have ih := DvKv.get t kd
    unfold lGet kGet at ih ⊢
    rw [List.find?_cons, List.find?_cons]
    cases decide (kof kd0 = kof kd) with
    | true => exact .some h2
    | false => exact ih
theorem DvKv.snoc {k v : V} {kd vd : PyData} (o : okK kd = true) (h1 : Dv K F k kd) (h2 : Dv K F v vd) : ∀ {L : DL} {kvs : List (PyData × PyData)}, DvKv K F L kvs → DvKv K F (L ++ [(kof kd, k, v)]) (kvs ++ [(kd, vd)])
  | _, _, .nil => .cons o h1 h2 .nil
  | _, _, .cons o' a b t => .cons o' a b (DvKv.snoc o h1 h2 t)
theorem DvKv.repl {v : V} {kd vd : PyData} (h2 : Dv K F v vd) : ∀ {L : DL} {kvs : List (PyData × PyData)}, DvKv K F L kvs → DvKv K F (L.map fun p => if p.1 = kof kd then (p.1, p.2.1, v) else p) (kvs.map fun p => if kof p.1 = kof kd then (p.1, vd) else p)
  | _, _, .nil => .nil
  | _, _, .cons (kd := kd0) o a b t => by
    have ih := DvKv.repl (kd := kd) h2 t
    rw [List.map_cons, List.map_cons]
    by_cases c : kof kd0 = kof kd
    · rw [if_pos c, if_pos c]; exact .cons o a h2 ih
    · rw [if_neg c, if_neg c]; exact .cons o a b ih
theorem DvKv.put {k v : V} {kd vd : PyData} {L : DL} {kvs : List (PyData × PyData)} (o : okK kd = true) (h1 : Dv K F k kd) (h2 : Dv K F v vd) (t : DvKv K F L kvs) : DvKv K F (lPut L (kof kd) k v) (kPut kvs kd vd) := by
  have g := DvKv.get t kd
  unfold lPut kPut
  generalize lGet L (kof kd) = x at g ⊢
  generalize kGet kvs kd = y at g ⊢
  cases g with
  | none => exact DvKv.snoc o h1 h2 t
  | some h => exact DvKv.repl h2 t
theorem DvKv.length : ∀ {L : DL} {kvs : List (PyData × PyData)}, DvKv K F L kvs → L.length = kvs.length
  | _, _, .nil => rfl
  | _, _, .cons _ _ _ t => by simp [DvKv.length t]
end
def isTp : PyData → Bool
  | .tuple _ => true
  | _ => false
def isIn : PyData → Bool
  | .int _ => true
  | _ => false
theorem okK_key {ds : List PyData} (h : okK (.tuple ds) = true) : okKey (.tuple ds) = true := by
  unfold okK at h
  rw [Bool.and_eq_true] at h
  simp only [okKey, Bool.and_eq_true]
  exact ⟨by simpa [ni] using h.1, h.2⟩
section
variable {X : Cx} {pins : List (Addr × Obj)} {σ : St} {F H : Hp} {s : Shared} {a : Addr}
theorem side_tup (I : Inv X pins σ H s) (hs : Same F H) : ∀ {L : DL} {kvs : List (PyData × PyData)} {xs : DX}, DvKv X.K F L kvs → DRel L xs → (∀ p ∈ kvs, isTp p.1 = true) →
    ∃ ys, LY L ys ∧ xs = ys.map (fun y => (y.1, Value.ref y.2.1, y.2.2)) ∧ ∀ y ∈ ys, (numK X.prog X.w).kd.is s.heap y.1 y.2.1
  | _, _, _, .nil, .nil, _ => ⟨[], .nil, rfl, fun _ h => (by cases h)⟩
  | _, _, (b1, b2, b3) :: _, .cons (kd := kd) o h1 h2 t, .cons ⟨r1, r2, r3⟩ rs, ht => by
    have htp := ht _ List.mem_cons_self
    obtain ⟨ds, rfl⟩ : ∃ ds, kd = .tuple ds := by
      cases kd <;> first | exact ⟨_, rfl⟩ | cases htp
    obtain ⟨c, e1, e2, hc⟩ := key_at I hs h1 r2 (okK_key o)
    obtain ⟨ys, q1, q2, q3⟩ := side_tup I hs t rs fun p m => ht p (List.mem_cons_of_mem _ m)
    dsimp only at r1 r2 r3 e1 e2
    subst e1 e2
    refine ⟨(b1, c, b3) :: ys, .cons ⟨r1, rfl, r3⟩ q1, by rw [List.map_cons, ← q2], fun y m => ?_⟩
    rcases List.mem_cons.mp m with z | z
    · rw [z]
      have e : b1 = kof (.tuple ds) := r1.symm
      rw [e]; exact hc
    · exact q3 y z
theorem hash_numK {P : Program} {w : World} {κ : NestedKey} (h : nt κ = true) : (numK P w).kd.hash κ = hsh κ := hsh_eq w κ h
/-- a dict over tuples, as the kit has it -/
theorem dict_tup (I : Inv X pins σ H s) (hs : Same F H) {L : DL} {kvs : List (PyData × PyData)} (ha : H a = some (dO a L)) (hd : DvKv X.K F L kvs) (ht : ∀ p ∈ kvs, isTp p.1 = true) :
    ∃ ys, LY L ys ∧ s.heap.DictOfH (numK X.prog X.w).kd a ys ∧ (a == sysModules) = false ∧ L.length ≤ sizeLine := by
  obtain ⟨z, ns, xs, r, o, es, ep, ho, hx, hdt, hes, hnd⟩ : dPhi a L s.heap := (I.hok a _ ha).1
  obtain ⟨ys, q1, q2, q3⟩ := side_tup I hs hd r ht
  refine ⟨ys, q1, ⟨o, es, ep, ho, hx, hdt, ?_, q3, ?_⟩, ns, z⟩
  · rw [hes, q2, List.map_map]
    refine List.map_congr_left fun y m => ?_
    show (⟨hsh y.1, Value.ref y.2.1, y.2.2⟩ : DictEntry) = ⟨(numK X.prog X.w).kd.hash y.1, .ref y.2.1, y.2.2⟩
    rw [hash_numK (q3 y m).2]
  · rw [q2, List.map_map] at hnd
    exact hnd
theorem phi_tup {P : Program} {w : World} {h : Heap} {L : DL} {ys : List (NestedKey × Addr × Value)} (r : LY L ys) (d : h.DictOfH (numK P w).kd a ys) (ns : (a == sysModules) = false) (z : L.length ≤ sizeLine) : dPhi a L h := by
  obtain ⟨o, es, ep, ho, hx, hdt, hes, his, hnd⟩ := d
  refine ⟨z, ns, ys.map (fun y => (y.1, Value.ref y.2.1, y.2.2)), ?_, o, es, ep, ho, hx, hdt, ?_, ?_⟩
  · have key : ∀ {L : DL} {ys : List (NestedKey × Addr × Value)}, LY L ys → DRel L (ys.map (fun y => (y.1, Value.ref y.2.1, y.2.2))) := by
      intro L ys r
      induction r with
      | nil => exact .nil
      | cons h _ ih => exact .cons ⟨h.1, by rw [h.2.1]; rfl, h.2.2⟩ ih
    exact key r
  · rw [hes, List.map_map]
    refine List.map_congr_left fun y m => ?_
    show (⟨(numK P w).kd.hash y.1, .ref y.2.1, y.2.2⟩ : DictEntry) = ⟨hsh y.1, Value.ref y.2.1, y.2.2⟩
    rw [hash_numK (his y m).2]
  · rw [List.map_map]; exact hnd
theorem lPut_len (L : DL) (κ : NestedKey) (k v : V) : (lPut L κ k v).length ≤ L.length + 1 := by
  unfold lPut
  split
  · rw [List.length_map]; omega
  · simp
/-- d[k] = v, k a tuple -/
theorem put_tup {E : Value → Shared → Prop} {A : Around} {Q : Unit → Shared → Prop} (I : Inv X pins σ H s) (hs : Same F H) {L : DL} {kvs : List (PyData × PyData)} (ha : H a = some (dO a L)) (hd : DvKv X.K F L kvs) (ht : ∀ p ∈ kvs, isTp p.1 = true) (hu : A.units + 64 < cLine)
    {k v : V} {ds : List PyData} {u r : Value} (hk : Dv X.K F k (.tuple ds)) (ok : okK (.tuple ds) = true) (ru : RelV k u) (rr : RelV v r) (hz : L.length < sizeLine)
    (h : ∀ s', Inv X pins σ (upd H a (dO a (lPut L (kof (.tuple ds)) k v))) s' → Q () s') : wpAny (model X.prog X.w) A (setItem (.ref a) u r) Q E s := by
  obtain ⟨ys, q1, q2, ns, z⟩ := dict_tup I hs ha hd ht
  obtain ⟨b, rfl, rfl, hb⟩ := key_at I hs hk ru (okK_key ok)
  have hlen : ys.length = L.length := (Paired.length q1).symm
  refine wpAny_setItem_heap (hsz := by omega) (by show _ + 8 < _; simp; omega) hb q2 fun h' dd hs' => h _ ?_
  have he : ∃ q, h'.get? a = some q := let ⟨q, _, _, hq, _⟩ := dd; ⟨q, hq⟩
  have zz := lPut_len L (kof (.tuple ds)) (.ref b) v
  exact d_write I (by rw [ha]; exact True.intro) hs' he (dO_ok (phi_tup (q1.put _ b rr) dd ns (by omega)))
/-- d.get(k, x), k a tuple -/
theorem get2_tup {E : Value → Shared → Prop} {A : Around} {Q : Value → Shared → Prop} (I : Inv X pins σ H s) (hs : Same F H) {L : DL} {kvs : List (PyData × PyData)} (ha : H a = some (dO a L)) (hd : DvKv X.K F L kvs) (ht : ∀ p ∈ kvs, isTp p.1 = true) (hu : A.units + 64 < cLine)
    {k x : V} {ds : List PyData} {u y : Value} (hk : Dv X.K F k (.tuple ds)) (ok : okK (.tuple ds) = true) (ru : RelV k u) (rx : RelV x y)
    (h : ∀ r s', Inv X pins σ H s' → RelV ((lGet L (kof (.tuple ds))).getD x) r → Q r s') : wpAny (model X.prog X.w) A (call (.builtin "dict.get") [.ref a, u, y]) Q E s := by
  obtain ⟨ys, q1, q2, ns, z⟩ := dict_tup I hs ha hd ht
  obtain ⟨b, rfl, rfl, hb⟩ := key_at I hs hk ru (okK_key ok)
  refine call_meetsIn PySem.F.slot_dict_get q2.typeIs PySem.F.entry_dict_get (PySem.F.args_dict_get_3 _ _ _) (meetsH_dict_get_default (numK X.prog X.w).kd a b ns y) ⟨by show _ + 8 < _; simp; omega, _, ys, hb, q2, ?_⟩
  exact h _ _ (I.tok _) ((q1.get _).getD rx)
end
end GD

/-! GDb: {}, d[k] = v, d.get(k, x), as rules of the layer (d a slot's own dict over tuples) -/
namespace GD
open PySem PySem.Spec L2 GL GS PySem.W
open PyProof.Rows hiding St
theorem phi_empty {h : Heap} (hb : sysModules < h.objs.size) : dPhi h.objs.size [] (h.push { cls := .type "dict", data := .dict #[] }) :=
  ⟨Nat.zero_le _, beq_eq_false_iff_ne.mpr (Ne.symm (Nat.ne_of_lt hb)), [], .nil, _, #[], 0, Heap.get?_push_size _ rfl, ⟨rfl, rfl, rfl⟩, rfl, rfl, List.nodup_nil⟩
section
variable {X : Cx} {Bo : Option Addr} {W : WX} {e ei : Expr} {f fi : PSt → Rs PyData} {fa : PSt → Rs (List PyData)} {pos : Pos} {x : Str}
theorem pe_dict0 : PE X (.Dict [] [] pos) (fun _ H Q => ∀ p, H p = none → Q (.ref p) (upd H p (dO p []))) := ⟨fun pins s σ H Q I h =>
  wpAny_Dict_empty ⟨.ref s.heap.objs.size, _, I.laid (a := s.heap.objs.size) (o := dO s.heap.objs.size []) (t' := s.toks) (fun _ _ q => Heap.get?_push_of_some _ q) (Nat.le_refl _) (dO_ok (phi_empty I.big)), rfl, h _ (I.hok.fresh (Nat.le_refl _))⟩⟩
theorem new_dict {K : PySem.W.Frag} {F H : Hp} {σ : St} {ps : PSt} {p : Addr} {L : DL} {kvs : List (PyData × PyData)} (sr : SR K Bo F H σ ps) (hp : H p = none) (h : DvKv K F L kvs) :
    Gr F H F (upd H p (dO p L)) ∧ SR K Bo F (upd H p (dO p L)) σ ps ∧ RO K σ F H ps F (upd H p (dO p L)) ps (.ref p) (.own (.dict kvs)) := by
  have g : Gr F H F (upd H p (dO p L)) := ⟨.refl _, fun _ _ e => .inl e, same_upd hp, sr.le.trans (same_upd hp)⟩
  refine ⟨g, sr.gr g, p, rfl, OwnD.at ⟨sr.le.free hp, L, upd_same, h⟩, ?_, .inr hp⟩
  rintro ⟨i, d, h1, h2⟩
  obtain ⟨a, h3, _, ys, h4, _⟩ := sr.own h1
  rw [h2] at h3; cases h3
  rw [hp] at h4; cases h4
def fDict0 : PSt → Rs PV := fun ps => .ok (.own (.dict [])) ps
theorem go_dict0 : GO X Bo W (.Dict [] [] pos) fDict0 := pe_dict0.imp fun σ H Q ⟨F, ps, sr, q⟩ p hp => by
  obtain ⟨g, s2, ro⟩ := new_dict (kvs := []) sr hp .nil
  exact q (.ref p) _ _ (.of_gr g) s2 ro
/-! ### d[k] = v -/
def slotD (i : Nat) (ps : PSt) : Option (List (PyData × PyData)) := match ps[i]? with
  | some (some (.own (.dict kvs))) => some kvs
  | _ => none
theorem slotD_at {i : Nat} {ps : PSt} {kvs : List (PyData × PyData)} (h : slotD i ps = some kvs) : ps[i]? = some (some (.own (.dict kvs))) := by
  unfold slotD at h
  split at h
  · rename_i e; cases h; exact e
  · cases h
/-- the key fits the dict -/
def fits (kvs : List (PyData × PyData)) (k : PyData) : Bool := isTp k && okK k && kvs.all fun p => isTp p.1
theorem fits_of {kvs : List (PyData × PyData)} {k : PyData} (h : fits kvs k = true) : (∃ ds, k = .tuple ds) ∧ okK k = true ∧ ∀ p ∈ kvs, isTp p.1 = true := by
  unfold fits at h
  rw [Bool.and_eq_true, Bool.and_eq_true, List.all_eq_true] at h
  refine ⟨?_, h.1.2, h.2⟩
  cases k <;> first | exact ⟨_, rfl⟩ | exact absurd h.1.1 (by simp [isTp])
def rSetD (K : PySem.W.Frag) : TSet := fun o i v H Q => ∃ F a L kvs ds, o = .ref a ∧ Same F H ∧ H a = some (dO a L) ∧ DvKv K F L kvs ∧ (∀ p ∈ kvs, isTp p.1 = true) ∧ Dv K F i (.tuple ds) ∧ okK (.tuple ds) = true ∧ L.length < sizeLine ∧ Q (upd H a (dO a (lPut L (kof (.tuple ds)) i v)))
theorem set_dict (hu : X.A.units + 64 < cLine) : PSet X (rSetD X.K) := by
  intro pins s σ H o i v ov iv u Q I ro ri rv h
  obtain ⟨F, a, L, kvs, ds, rfl, hs, ha, hd, ht, hk, ok, hz, q⟩ := h
  obtain rfl : ov = Value.ref a := ro
  exact put_tup I hs ha hd ht hu hk ok ri rv hz fun s' I' => ⟨_, I', q⟩
def fSetKey (i : Nat) (fi f : PSt → Rs PyData) : PSt → Os := fun ps => (f ps).st fun v ps1 => match slotD i ps1 with
  | none => .bad
  | some _ => (fi ps1).st fun k ps2 => match slotD i ps2 with
    | some kvs => if fits kvs k = true ∧ kvs.length < sizeLine then .nx (ps2.set i (some (.own (.dict (kPut kvs k v))))) else .bad
    | none => .bad
theorem gs_setKey (i : Nat) {px sp : Pos} (hu : X.A.units + 65 < cLine) (hb : Bo = none ∨ i ≠ 0) (h : GV X Bo W e f) (hi : GV X Bo W ei fi) (hN : X.N[i]? = some x := by rfl) (hv : Vis X.env.scope x := by first | exact Or.inl rfl | exact Or.inr (Or.inl rfl) | exact Or.inr (Or.inr rfl)) (hd : (x == ("__debug__" : Str)) = false := by decide) (hcd : (x == ("__classdict__" : Str)) = false := by decide)
    (ha : ∀ v, assign (.Subscript (.Name x px) ei sp) X.env v = (do
      let ov ← holding [v] (eval (.Name x px) X.env)
      let iv ← holding [v, ov] (eval ei X.env)
      standAt sp
      holding [v, ov, iv] (setItem ov iv v)
      release [v, ov, iv] []) := by intro _; rfl)
    (hs : swapsWithSole [.Subscript (.Name x px) ei sp] e pos.line X.env = pure false := by rfl) (hw : swappedStores [.Subscript (.Name x px) ei sp] e X.env = pure none := by rfl)
    (h1 : (assignEach [.Subscript (.Name x px) ei sp] X.env).map (·.2) = [assign (.Subscript (.Name x px) ei sp) X.env] := by rfl) : GS X Bo W (.Assign [.Subscript (.Name x px) ei sp] e pos) (fSetKey i fi f) := by
  refine (ps_asg h (pg_sub (pe_var hN hv hd hcd) hi (set_dict (by omega)) ha) hs hw h1).imp fun D σ H q => ?_
  refine tS_bind q fun v d F F1 H1 ps ps1 sr s1 st hv q => ?_
  have hv : Dv X.K F1 v d := hv
  cases e0 : slotD i ps1 with
  | none => rw [e0] at q; exact q.elim
  | some d0 =>
    rw [e0] at q
    obtain ⟨a, ha, _⟩ := s1.ownD (slotD_at e0)
    refine ⟨.ref a, ha, ?_⟩
    refine gos_bind (R1 := RV X.K) s1 q fun y k F2 H2 ps2 s2 st2 hy q => ?_
    have hy : Dv X.K F2 y k := hy
    cases e1 : slotD i ps2 with
    | none => rw [e1] at q; exact q.elim
    | some kvs =>
      rw [e1] at q
      have e1 := slotD_at e1
      obtain ⟨a', ha', hn, L, hH, hL⟩ := s2.ownD e1
      rw [ha] at ha'; cases ha'
      dsimp only at q
      split at q
      · rename_i hf
        obtain ⟨⟨ds, rfl⟩, ok, ht⟩ := fits_of hf.1
        refine ⟨F2, a, L, kvs, ds, rfl, s2.le, hH, hL, ht, hy, ok, by rw [DvKv.length hL]; exact hf.2, ?_⟩
        obtain ⟨s3, st3⟩ := s2.mutA (d' := .dict (kPut kvs (.tuple ds) d)) (xs := dO a (lPut L (kof (.tuple ds)) y v)) e1 ha hn (.inr ⟨_, _, rfl, rfl, DvKv.put ok hy (hv.mono st2.grow) hL⟩) (.inl hb)
        exact q σ F2 _ st3 s3
      · exact q.elim
/-! ### d.get(k, x) -/
def tBMD (r : V → List V → Hp → VK → Prop) (to : TE) (t : TA) : TE := fun σ H Q => to σ H fun x H1 => (∃ a L, x = .ref a ∧ H1 a = some (dO a L)) ∧ t σ H1 fun xs H2 => r x xs H2 Q
theorem dict_is {pins : List (Addr × Obj)} {σ : St} {H : Hp} {s : Shared} {a : Addr} {L : DL} (I : Inv X pins σ H s) (h : H a = some (dO a L)) : s.TypeIs (.ref a) "dict" ∧ ∀ b, Value.ref a = .ref b → ∃ ob, s.heap.get? b = some ob ∧ ob.dict = none := by
  obtain ⟨_, _, xs, _, o, es, ep, ho, hx, _⟩ : dPhi a L s.heap := (I.hok a _ h).1
  exact ⟨⟨o, ho, hx.1⟩, fun b e => by cases e; exact ⟨o, ho, hx.2.1⟩⟩
variable {o e1 : Expr} {es : List Expr} {to : TE} {t : TA} {name : Str} {apos cpos : Pos} {id : String} {r : V → List V → Hp → VK → Prop}
theorem pe_bmD (slot : Slot "dict" name id) (hty : typeOf (.builtin id) = pure (.type "method_descriptor")) (hm : MtR X id r) (ho : PE X o to) (hA : PA X (e1 :: es) t)
    (hbase : attributeBase o name X.env (eval o X.env) = eval o X.env := by rfl)
    (hfew : ((backTo cpos (starEach (e1 :: es) X.env)).all (fun x => !x.1) && (backToKw cpos (keywordEach [] X.env)).all (fun x => x.1.isSome) && decide ((e1 :: es).length + ([] : List Keyword).length + (if ([] : List Keyword).isEmpty then 0 else 1) < 30)) = true := by rfl)
    (hline : (apos.endLine == cpos.line) = true := by rfl) (hs : starEach (e1 :: es) X.env = (false, eval e1 X.env) :: starEach es X.env := by rfl) (hplain : (backTo cpos (starEach es X.env)).any (·.1) = false := by rfl) :
    PE X (.Call (.Attribute o name apos) (e1 :: es) [] cpos) (tBMD r to t) := by
  refine ⟨fun pins s σ H Q I h => wpAny_Call_method_late hbase hfew hline rfl (thn (ho.run pins s σ H _ I h) fun v s1 ⟨x, H1, I1, r1, ⟨a, L, ex, ea⟩, q1⟩ => ?_)⟩
  subst ex
  obtain rfl : v = Value.ref a := r1
  obtain ⟨h1, h2⟩ := dict_is I1 ea
  refine ⟨"dict", id, PySem.F.plainAttrs_dict, slot, hty, h1, h2, ?_⟩
  have hR := hA.run cpos pins s1 σ H1 _ I1 q1
  rw [hs] at hR ⊢
  refine Calls.callWith_builtin (by show (false || (backTo cpos (starEach es X.env)).any (·.1)) = false; rw [hplain] <;> rfl) (Calls.evalArgs_plain ?_)
  exact thn hR fun us s2 ⟨vs, H2, I2, r2, q2⟩ => hm pins s2 σ H2 (.ref a) vs _ us Q I2 rfl r2 q2
theorem pe_bmD0 (slot : Slot "dict" name id) (hty : typeOf (.builtin id) = pure (.type "method_descriptor")) (hm : MtR X id r) (ho : PE X o to)
    (hbase : attributeBase o name X.env (eval o X.env) = eval o X.env := by rfl) (hline : (apos.endLine == cpos.line) = true := by rfl) :
    PE X (.Call (.Attribute o name apos) [] [] cpos) (fun σ H Q => to σ H fun x H1 => (∃ a L, x = .ref a ∧ H1 a = some (dO a L)) ∧ r x [] H1 Q) := by
  refine ⟨fun pins s σ H Q I h => wpAny_Call_method0_late hbase hline (thn (ho.run pins s σ H _ I h) fun v s1 ⟨x, H1, I1, r1, ⟨a, L, ex, ea⟩, q1⟩ => ?_)⟩
  subst ex
  obtain rfl : v = Value.ref a := r1
  obtain ⟨h1, h2⟩ := dict_is I1 ea
  exact ⟨"dict", id, PySem.F.plainAttrs_dict, slot, hty, h1, h2, Calls.callWith_builtin rfl (PySem.evalArgs_none (hm pins s1 σ H1 (.ref a) [] _ [] Q I1 rfl .nil q1))⟩
def rGet2 (K : PySem.W.Frag) : V → List V → Hp → VK → Prop := fun o vs H Q => ∃ F a L kvs k y ds, o = .ref a ∧ vs = [k, y] ∧ Same F H ∧ H a = some (dO a L) ∧ DvKv K F L kvs ∧ (∀ p ∈ kvs, isTp p.1 = true) ∧ Dv K F k (.tuple ds) ∧ okK (.tuple ds) = true ∧ Q ((lGet L (kof (.tuple ds))).getD y) H
theorem mt_get2 (hu : X.A.units + 64 < cLine) : MtR X "dict.get" (rGet2 X.K) := by
  intro pins s σ H o vs v us Q I ro rvs h
  obtain ⟨F, a, L, kvs, k, y, ds, rfl, rfl, hs, ha, hd, ht, hk, ok, q⟩ := h
  obtain rfl : v = Value.ref a := ro
  obtain ⟨u1, u2, rfl, r1, r2⟩ := vals2 rvs
  exact get2_tup I hs ha hd ht hu hk ok r1 r2 fun r s' I' rr => ⟨_, H, I', rr, q⟩
def fGet2 (i : Nat) (fa : PSt → Rs (List PyData)) : PSt → Rs PyData := fun ps => match slotD i ps with
  | none => .bad
  | some _ => (fa ps).bind fun as ps1 => match slotD i ps1, as with
    | some kvs, [k, d] => if fits kvs k = true then .ok ((kGet kvs k).getD d) ps1 else .bad
    | _, _ => .bad
theorem gv_get2 (i : Nat) {px : Pos} {e2 : Expr} (hu : X.A.units + 65 < cLine) (h : GA X Bo W [e1, e2] fa) (hN : X.N[i]? = some x := by rfl) (hv : Vis X.env.scope x := by first | exact Or.inl rfl | exact Or.inr (Or.inl rfl) | exact Or.inr (Or.inr rfl)) (hd : (x == ("__debug__" : Str)) = false := by decide) (hcd : (x == ("__classdict__" : Str)) = false := by decide)
    (hbase : attributeBase (.Name x px) "get" X.env (eval (.Name x px) X.env) = eval (.Name x px) X.env := by rfl)
    (hfew : ((backTo cpos (starEach [e1, e2] X.env)).all (fun x => !x.1) && (backToKw cpos (keywordEach [] X.env)).all (fun x => x.1.isSome) && decide ([e1, e2].length + ([] : List Keyword).length + (if ([] : List Keyword).isEmpty then 0 else 1) < 30)) = true := by rfl)
    (hline : (apos.endLine == cpos.line) = true := by rfl) (hs : starEach [e1, e2] X.env = (false, eval e1 X.env) :: starEach [e2] X.env := by rfl) (hplain : (backTo cpos (starEach [e2] X.env)).any (·.1) = false := by rfl) :
    GV X Bo W (.Call (.Attribute (.Name x px) "get" apos) [e1, e2] [] cpos) (fGet2 i fa) := by
  refine (pe_bmD PySem.F.slot_dict_get PySem.F.type_dict_get (mt_get2 (by omega)) (pe_var hN hv hd hcd) h hbase hfew hline hs hplain).imp fun σ H Q ⟨F, ps, sr, q⟩ => ?_
  unfold fGet2 at q
  cases e0 : slotD i ps with
  | none => rw [e0] at q; exact q.elim
  | some d0 =>
    rw [e0] at q
    obtain ⟨a, ha, _, L0, hH0, _⟩ := sr.ownD (slotD_at e0)
    refine ⟨.ref a, ha, ⟨a, L0, rfl, hH0⟩, ?_⟩
    refine go_bind RV.rb sr q fun vs as F2 H2 ps1 s1 st hvs q => ?_
    have hvs : DvAll X.K F2 vs as := hvs
    cases e1 : slotD i ps1 with
    | none => rw [e1] at q; exact q.elim
    | some kvs =>
      rw [e1] at q
      obtain ⟨a', ha', hn, L, hH, hL⟩ := s1.ownD (slotD_at e1)
      rw [ha] at ha'; cases ha'
      match as, hvs, q with
      | [k, d], hvs, q =>
        dsimp only at q
        split at q
        · rename_i hf
          obtain ⟨⟨ds, rfl⟩, ok, ht⟩ := fits_of hf
          obtain ⟨v1, v2, rfl, h1, h2⟩ := dpall2 hvs
          refine ⟨F2, a, L, kvs, v1, v2, ds, rfl, rfl, s1.le, hH, hL, ht, h1, ok, ?_⟩
          refine q _ F2 H2 .refl s1 ?_
          show Dv X.K F2 _ _
          have g := DvKv.get hL (.tuple ds)
          generalize lGet L (kof (.tuple ds)) = y at g ⊢
          generalize kGet kvs (.tuple ds) = z at g ⊢
          cases g with
          | none => exact h2
          | some g => exact g
        · exact q.elim
      | [], _, q => exact q.elim
      | [_], _, q => exact q.elim
      | _ :: _ :: _ :: _, _, q => exact q.elim
end
end GD

/-! GDc: list(d.values()) -/
namespace GD
open PySem PySem.Spec L2 GL GS PySem.W
open PyProof.Rows hiding St
section
variable {prog : Program} {w : World} {A : Around} {E : Value → Shared → Prop} {s : Shared} {d : Addr} {es : Array DictEntry} {ep : Nat}
/-- d.values(): a view, whatever the keys -/
theorem meets_vals (ns : (d == sysModules) = false) : MeetsIn prog w (Builtin.«dict.values» ⟨[.ref d], []⟩) (fun _ R s => DT.Raw s.heap d es ep ∧ R (.ok (.ret (.ref s.heap.objs.size))) { s with heap := s.heap.push { cls := .type "dict_values", data := .fields #[.ref d] } }) :=
  .of_wp fun A R s ⟨hm, h⟩ => by
    (refine wpAny_bind ?_; unfold Builtin.Dict.noArgs; refine wpAny_bind (wpAny_notOrdered_dict hm.typeIs ?_); show wpAny _ _ (pure d) _ _ s; refine wpAny_pure ?_; show wpAny _ _ (Builtin.Dict.showsAll d >>= _) _ _ s)
    (unfold Builtin.Dict.showsAll; rw [if_neg (by rw [ns]; exact Bool.false_ne_true)]; refine wpAny_bind (wpAny_pure ?_); exact wpAny_bind (wpAny_newObj_type (wpAny_pure ⟨_, rfl, h⟩)))
theorem iterV {v : Addr} {Q : Value → Shared → Prop} (hv : s.heap.IsValuesView v d) (hm : DT.Raw s.heap d es ep)
    (hQ : Q (.ref s.heap.objs.size) { s with heap := s.heap.push { cls := .type "dict_valueiterator", data := .fields #[.ref d, .int 0 0, .int es.size 0, .int ep 0] } }) : wpAny (model prog w) A (pyIter (.ref v)) Q E s := by
  have ⟨ov, hov, hcv, hdv⟩ := hv
  have ⟨o, ho, hc, hdat⟩ := hm
  have hown : Builtin.Dict_items.ownsTuple "dict_valueiterator" = false := by decide
  refine wpAny_pyIter_slot hv.typeIs F.slot_dict_values_iter (wpAny_call_entry F.slot_dict_values_iter hv.typeIs F.entry_dict_values_iter (by
    (unfold Builtin.«dict_values.__iter__»; refine wpAny_bind (wpAny_pure ?_); refine wpAny_bind ?_; unfold Builtin.Dict_items.dictOf; refine wpAny_bind (wpAny_field hov hdv (x := .ref d) rfl (wpAny_pure ?_)); refine wpAny_bind ?_)
    (unfold Builtin.Dict_items.newIterator; refine wpAny_bind (wpAny_dictEntries ho hdat ?_); refine wpAny_bind (wpAny_dictEpoch ho hdat ?_); simp only [hown, Bool.false_eq_true, if_false])
    (refine wpAny_newObj_type (wpAny_pure ⟨_, rfl, "dict_valueiterator", _, ⟨_, Heap.get?_push_size _ rfl, rfl⟩, F.slot_dict_valueiterator_next.lookup, ?_⟩); simpa [rawInt] using hQ)) (F.args_dict_values_iter_1 _))
theorem nextV {it : Addr} {i : Nat} {Q : Option Value → Shared → Prop} (hit : s.heap.IsValIter it d i es.size ep) (hm : DT.Raw s.heap d es ep) (hi : i < es.size)
    (hQ : ∀ h', h'.IsValIter it d (i + 1) es.size ep → Heap.SameBut it s.heap h' → Q (some es[i].val) { s with heap := h' }) : wpAny (model prog w) A (pyNext (.ref it)) Q E s := by
  have ⟨o, ho, hc, hd⟩ := hit
  have ⟨od, hod, hcd, hdd⟩ := hm
  have hown : Builtin.Dict_items.ownsTuple "dict_valueiterator" = false := by decide
  have hit' : (s.heap.update it (Obj.mapFields (·.setIfInBounds 1 (rawInt ((i : Int) + 1))))).IsValIter it d (i + 1) es.size ep :=
    ⟨_, Heap.get?_update_self _ ho (Obj.isFreed_of_fields (Obj.data_mapFields hd _)), (Obj.cls_mapFields ..).trans hc, by rw [Obj.data_mapFields hd]; simp [rawInt]⟩
  unfold pyNext
  refine wpAny_bind (wpAny_attempt (wpAny_callSpecial?_slot (name := Str.ofString "__next__") hit.typeIs F.slot_dict_valueiterator_next (wpAny_call_entry F.slot_dict_valueiterator_next hit.typeIs F.entry_dict_valueiterator_next ?_ (F.args_dict_valueiterator_next_1 _))))
  (refine wpAny_bind (wpAny_pure ?_); refine wpAny_bind ?_; refine wpAny_bind ?_)
  (first | refine wpAny_bind (wpAny_typeNameOfWhole_valiter hit.typeIs (wpAny_pure ?_)) | refine wpAny_bind (wpAny_typeNameOf_valiter hit.typeIs (wpAny_pure ?_))); refine wpAny_bind (wpAny_fieldsOf ho hd ?_); simp only [hown, Bool.false_eq_true, if_false]
  (show wpAny _ _ (if (Value.ref d == Value.none) = true then _ else _) _ _ s; rw [if_neg (show ¬ ((Value.ref d == Value.none) = true) from Bool.false_ne_true)]; refine wpAny_bind (wpAny_pure ?_); refine wpAny_bind (wpAny_dictEntries hod hdd ?_); rw [if_neg (by simp)])
  (refine wpAny_bind (wpAny_pure ?_); refine wpAny_bind (wpAny_dictEpoch hod hdd ?_); rw [if_neg (by simp)]; refine wpAny_pure ?_; simp only [show ¬ ((i : Int) < 0) from by omega, if_false, Int.toNat_natCast, Array.getElem?_eq_getElem hi]; refine wpAny_bind ?_)
  (first | refine wpAny_bind (wpAny_typeNameOfWhole_valiter hit.typeIs (wpAny_pure ?_)) | refine wpAny_bind (wpAny_typeNameOf_valiter hit.typeIs (wpAny_pure ?_))); refine wpAny_bind (wpAny_isOneOf_valiter hit.typeIs ?_)
  (show wpAny _ _ (setField (.ref it) 1 (rawInt ((i : Int) + 1)) >>= _) _ _ s; refine wpAny_bind (wpAny_setField ho hd (by simp) ?_); refine wpAny_bind (wpAny_holding ?_))
  refine wpAny_bind (wpAny_isOneOf_valiter (s := { s with heap := s.heap.update it (Obj.mapFields (·.setIfInBounds 1 (rawInt ((i : Int) + 1)))) }) hit'.typeIs (wpAny_bind (wpAny_isOneOf_valiter (s := { s with heap := s.heap.update it (Obj.mapFields (·.setIfInBounds 1 (rawInt ((i : Int) + 1)))) }) hit'.typeIs ?_)))
  (show wpAny _ _ (pure es[i].val) _ _ _; exact wpAny_pure (wpAny_pure ⟨_, rfl, wpAny_pure (hQ _ hit' (Heap.SameBut.update ..))⟩))
theorem endV {it : Addr} {Q : Option Value → Shared → Prop} (hh : A.handled = none) (hit : s.heap.IsValIter it d es.size es.size ep) (hm : DT.Raw s.heap d es ep) (hQ : ∀ h', Heap.ExtBut it s.heap h' → Q none { s with heap := h' }) : wpAny (model prog w) A (pyNext (.ref it)) Q E s := by
  have ⟨o, ho, hc, hd⟩ := hit
  have ⟨od, hod, hcd, hdd⟩ := hm
  have hown : Builtin.Dict_items.ownsTuple "dict_valueiterator" = false := by decide
  unfold pyNext
  refine wpAny_bind (wpAny_attempt (wpAny_callSpecial?_slot (name := Str.ofString "__next__") hit.typeIs F.slot_dict_valueiterator_next (wpAny_call_entry F.slot_dict_valueiterator_next hit.typeIs F.entry_dict_valueiterator_next ?_ (F.args_dict_valueiterator_next_1 _))))
  (refine wpAny_bind (wpAny_pure ?_); refine wpAny_bind ?_; refine wpAny_bind ?_)
  (first | refine wpAny_bind (wpAny_typeNameOfWhole_valiter hit.typeIs (wpAny_pure ?_)) | refine wpAny_bind (wpAny_typeNameOf_valiter hit.typeIs (wpAny_pure ?_))); refine wpAny_bind (wpAny_fieldsOf ho hd ?_); simp only [hown, Bool.false_eq_true, if_false]
  (show wpAny _ _ (if (Value.ref d == Value.none) = true then _ else _) _ _ s; rw [if_neg (show ¬ ((Value.ref d == Value.none) = true) from Bool.false_ne_true)]; refine wpAny_bind (wpAny_pure ?_); refine wpAny_bind (wpAny_dictEntries hod hdd ?_); rw [if_neg (by simp)])
  (refine wpAny_bind (wpAny_pure ?_); refine wpAny_bind (wpAny_dictEpoch hod hdd ?_); rw [if_neg (by simp)]; refine wpAny_pure ?_; simp only [show ¬ ((es.size : Int) < 0) from by omega, if_false, Int.toNat_natCast, Array.getElem?_eq_none (Nat.le_refl es.size)]; refine wpAny_bind ?_)
  (first | refine wpAny_bind (wpAny_typeNameOfWhole_valiter hit.typeIs (wpAny_pure ?_)) | refine wpAny_bind (wpAny_typeNameOf_valiter hit.typeIs (wpAny_pure ?_))); show wpAny _ _ (setField (.ref it) 0 .none >>= _) _ _ s
  (refine wpAny_bind (wpAny_setField ho hd (by simp) ?_); show wpAny _ _ (newExc (.type "StopIteration") [] >>= _) _ _ _; refine wpAny_bind ?_; simp only [newExc, newTuple]; refine wpAny_bind (wpAny_newObj_type ?_ (by size_fits)))
  (refine wpAny_bind (m := firstArgMember _ _) (wpAny_of_eq (a := Value.none) (by first | rfl | (simp only [firstArgMember]; rfl)) ?_); refine wpAny_newObj_type ?_ (by size_fits); simp only [raiseNew]; refine wpAny_bind (wpAny_handled ?_))
  (rw [show A.in1.handled = none from hh]; refine wpAny_bind (wpAny_pure (wpAny_throw ?_)); refine wpAny_bind (wpAny_isInstance (T := "StopIteration") (b := true) ⟨_, Heap.get?_push_size _ rfl, rfl⟩ isSubtype_stop ?_); exact wpAny_pure (hQ _ (((Heap.SameBut.update ..).extBut.push _).push _)))
theorem walksV (hh : A.handled = none) (I d : Addr) (hne : d ≠ I) (es : Array DictEntry) (ep : Nat) : Walks prog w A I [I, d] [I] es.size (fun i v => ∃ e, es[i]? = some e ∧ v = e.val) (fun i h => h.IsValIter I d i es.size ep ∧ DT.Raw h d es ep) where
  sub := fun b hb => by simp only [List.mem_singleton] at hb; simp [hb]
  frame := fun _ _ _ st hk => ⟨Heap.IsValIter.at st.1 fun o e => hk I (by simp) o e, st.2.at' fun o e => hk d (by simp) o e⟩
  item := fun i s Q E hi st hQ => nextV st.1 st.2 hi fun h' hit' hs' => hQ _ h' s.toks ⟨es[i], by simp [hi], rfl⟩ ⟨hit', st.2.at' fun o e => hs'.extBut d o hne e⟩ fun b o hb e => hs'.extBut b o (fun h => hb (by simp [h])) e
  done := fun s Q E st hQ => endV hh st.1 st.2 fun h' he' => hQ h' s.toks fun b o hb e => he' b o (fun h => hb (by simp [h])) e
  self := fun _ _ _ _ st hQ => wpAny_pyIter_valiter st.1 hQ
theorem srcV {r : Addr} : KdlSrc prog w "dict_values" r d es.size (fun i v => ∃ e, es[i]? = some e ∧ v = e.val) (fun h => h.IsValuesView r d ∧ DT.Raw h d es ep) where
  type := fun _ hm => hm.1.typeIs
  there := fun _ hm => ⟨let ⟨_, ho, _⟩ := hm.1; Heap.lt_size ho, hm.2.lt⟩
  keep := fun _ _ hm hk => ⟨let ⟨o, ho, x⟩ := hm.1; ⟨o, hk r (.inl rfl) o ho, x⟩, hm.2.at' fun o e => hk d (.inr rfl) o e⟩
  notList := by decide
  notTuple := by decide
  hint := fun _ _ _ _ hm hq => kdl_hint_values hm.1.typeIs hq
  iter := fun _ _ hh hm => ⟨_, _, (fun _ _ hq => iterV hm.1 hm.2 hq), walksV hh _ d (Nat.ne_of_lt hm.2.lt) es ep, ⟨⟨_, Heap.get?_push_size _ rfl, rfl, rfl⟩, hm.2.push _⟩⟩
end
/-- a view of the values of the dict at d -/
def vO (v d : Addr) : HO := .ext fun h => h.IsValuesView v d
theorem vO_ok {P : Program} {w : World} {H : Hp} {h : Heap} {v d : Addr} (x : h.IsValuesView v d) : ObjOk P w H h v (vO v d) := by
  obtain ⟨o, ho, q⟩ := id x
  refine ⟨x, ⟨o, ho⟩, fun h1 h2 p k => ?_⟩
  obtain ⟨o', ho', q'⟩ := (p : h1.IsValuesView v d)
  exact ⟨o', k o' ho', q'⟩
section
variable {X : Cx} {Bo : Option Addr} {W : WX} {x : Str} {apos cpos pos p : Pos}
def rVals : V → List V → Hp → VK → Prop := fun o vs H Q => ∃ a L, o = .ref a ∧ vs = [] ∧ H a = some (dO a L) ∧ ∀ v, H v = none → Q (.ref v) (upd H v (vO v a))
theorem mt_vals : MtR X "dict.values" rVals := by
  intro pins s σ H o vs v us Q I ro rvs h
  obtain ⟨a, L, rfl, rfl, ha, q⟩ := h
  obtain rfl : v = Value.ref a := ro
  have e := rvs.zero
  subst e
  obtain ⟨_, ns, xs, _, ob, es, ep, ho, hx, hdt, _⟩ : dPhi a L s.heap := (I.hok a _ ha).1
  have rw0 : DT.Raw s.heap a es ep := ⟨ob, ho, hx, hdt⟩
  refine call_meetsIn PySem.F.slot_dict_values rw0.typeIs PySem.F.entry_dict_values (PySem.F.args_dict_values_1 _) (meets_vals ns) ⟨rw0, ?_⟩
  exact ⟨.ref s.heap.objs.size, _, I.laid (t' := s.toks) (fun b o e => Heap.get?_push_of_some _ e) (Nat.le_refl _) (vO_ok ⟨_, Heap.get?_push_size _ rfl, rfl, rfl⟩), rfl, q _ (I.hok.fresh (Nat.le_refl _))⟩
def rListV (K : PySem.W.Frag) : List V → Hp → VK → Prop := fun xs H Q => ∃ v a L, xs = [V.ref v] ∧ H v = some (vO v a) ∧ H a = some (dO a L) ∧ ∀ l, H l = none → Q (.ref l) (upd H l (.lst (L.map (·.2.2))))
theorem vals_of : ∀ {L : DL} {xs : DX}, DRel L xs → Vals (L.map (·.2.2)) (xs.map (·.2.2))
  | _, _, .nil => .nil
  | _, _, .cons h t => .cons h.2.2 (vals_of t)
theorem cr_listV (hc : X.calm = true) : CallR X (.type "list") (rListV X.K) := by
  intro pins s σ H xs us Q I r h
  obtain ⟨v, a, L, rfl, hv, ha, q⟩ := h
  rw [Vals.ref1 r]
  have hvw : s.heap.IsValuesView v a := (I.hok v _ hv).1
  obtain ⟨z, ns, xs, rel, ob, es, ep, ho, hx, hdt, hes, _⟩ : dPhi a L s.heap := (I.hok a _ ha).1
  have esz : es.size = L.length := by rw [← Array.length_toList, hes, List.length_map]; exact (Paired.length rel).symm
  refine kdl_call (srcV (es := es) (ep := ep)) (I.ok.hd hc) ⟨hvw, ob, ho, hx, hdt⟩ (by omega) fun h' tk acc c k hS hacc => ?_
  have eacc : acc.toList = xs.map (·.2.2) := by
    refine List.ext_getElem? fun j => ?_
    have e1 : es[j]? = (xs.map fun x => (⟨hsh x.1, x.2.1, x.2.2⟩ : DictEntry))[j]? := by rw [← hes, Array.getElem?_toList]
    rw [List.getElem?_map] at e1 ⊢
    rw [Array.getElem?_toList]
    cases e2 : acc[j]? with
    | none =>
      have : es.size ≤ j := by rw [← hacc.1]; exact Array.getElem?_eq_none_iff.mp e2
      rw [Array.getElem?_eq_none this] at e1
      cases e3 : xs[j]? with
      | none => rfl
      | some y => rw [e3] at e1; cases e1
    | some u =>
      obtain ⟨e, he, hu⟩ := hacc.2 j u e2
      rw [he] at e1
      cases e3 : xs[j]? with
      | none => rw [e3] at e1; cases e1
      | some y => rw [e3] at e1; cases e1; rw [hu]; rfl
  refine ⟨.ref s.heap.objs.size, _, I.laid (t' := tk) (a := s.heap.objs.size) (o := .lst (L.map (·.2.2))) k (Nat.le_refl _) ⟨by rw [List.length_map]; exact z, acc.toList, c, by rw [eacc]; exact vals_of rel, by rw [Array.toArray_toList]; exact hS⟩, rfl, q _ (I.hok.fresh (Nat.le_refl _))⟩
theorem dvkv_vals {K : PySem.W.Frag} {F : Hp} : ∀ {L : DL} {kvs : List (PyData × PyData)}, DvKv K F L kvs → DvAll K F (L.map (·.2.2)) (kvs.map (·.2))
  | _, _, .nil => .nil
  | _, _, .cons _ _ h t => .cons h (dvkv_vals t)
def fVals (i : Nat) : PSt → Rs PV := fun ps => match slotD i ps with
  | some kvs => .ok (.own (.list (kvs.map (·.2)))) ps
  | none => .bad
theorem go_vals (i : Nat) {px : Pos} (hc : X.calm = true) (g1 : Gl X "list") (m1 : X.mg "list" = none) (hN : X.N[i]? = some x := by rfl) (hv : Vis X.env.scope x := by first | exact Or.inl rfl | exact Or.inr (Or.inl rfl) | exact Or.inr (Or.inr rfl)) (hd : (x == ("__debug__" : Str)) = false := by decide) (hcd : (x == ("__classdict__" : Str)) = false := by decide)
    (hbase : attributeBase (.Name x px) "values" X.env (eval (.Name x px) X.env) = eval (.Name x px) X.env := by rfl) (hline : (apos.endLine == cpos.line) = true := by rfl)
    (he : starEach [Expr.Call (.Attribute (.Name x px) "values" apos) [] [] cpos] X.env = (false, eval (Expr.Call (.Attribute (.Name x px) "values" apos) [] [] cpos) X.env) :: starEach [] X.env := by rfl) (hpl : (backTo pos (starEach [] X.env)).any (·.1) = false := by rfl) :
    GO X Bo W (.Call (.Name "list" p) [.Call (.Attribute (.Name x px) "values" apos) [] [] cpos] [] pos) (fVals i) := by
  refine (pe_callTy (cr_listV hc) g1 m1 (by rfl) (pa_cons (pe_bmD0 PySem.F.slot_dict_values PySem.F.type_dict_values mt_vals (pe_var hN hv hd hcd) hbase hline) pa_nil he) (by decide) (by decide) he hpl).imp fun σ H Q ⟨F, ps, sr, q⟩ => ?_
  unfold fVals at q
  cases e0 : slotD i ps with
  | none => rw [e0] at q; exact q.elim
  | some kvs =>
    rw [e0] at q
    obtain ⟨a, ha, hn, L, hH, hL⟩ := sr.ownD (slotD_at e0)
    refine ⟨.ref a, ha, ⟨a, L, rfl, hH⟩, a, L, rfl, rfl, hH, fun v hv => ?_⟩
    have g := GS.junk (o := vO v a) sr.le hv
    have sr2 := sr.gr g
    have ne : a ≠ v := ne_of_none hH hv
    refine ⟨v, a, L, rfl, upd_same, by rw [upd_ne ne]; exact hH, fun l hl => ?_⟩
    obtain ⟨g2, s2, ro⟩ := new_own sr2 hl (dvkv_vals hL)
    exact q (.ref l) _ _ ((Step.of_gr g).trans (.of_gr g2)) s2 (RO.rb _ _ _ _ _ _ _ _ _ _ _ _ (Step.of_gr g) ro)
end
end GD

/-! GLu: list(range(..)) -/
namespace GL
open PySem PySem.Spec L2
open PyProof.Rows hiding St
theorem dv_rg {K : PySem.W.Frag} {F : Hp} (a : Int) : ∀ l : List Nat, DvAll K F (l.map fun i => V.int (a + (i : Nat))) (l.map fun (i : Nat) => PyData.int (a + (i : Int)))
  | [] => .nil
  | i :: l => .cons (.int _) (dv_rg a l)
section
variable {X : Cx} {Bo : Option Addr} {W : WX} {e1 e2 : Expr} {f1 f2 : PSt → Rs PyData} {pos pos2 p p2 : Pos}
def okRg (a b : Int) : Bool := decide (-(2 ^ 62) ≤ a ∧ a < 2 ^ 62 ∧ -(2 ^ 62) ≤ b ∧ b < 2 ^ 62 ∧ (b - a).toNat ≤ 2 ^ 24)
theorem okRg_ok {a b : Int} (h : okRg a b = true) : RgOk a b := by
  unfold okRg at h
  have h := of_decide_eq_true h
  exact h
def fLRg1 (f1 : PSt → Rs PyData) : PSt → Rs PV := fun ps => (f1 ps).bind fun d ps1 => match d with
  | .int n => if okRg 0 n = true then .ok (.own (.list (rangeD 0 n.toNat))) ps1 else .bad
  | _ => .bad
def fLRg2 (f1 f2 : PSt → Rs PyData) : PSt → Rs PV := fun ps => (f1 ps).bind fun d ps1 => (f2 ps1).bind fun d2 ps2 => match d, d2 with
  | .int a, .int b => if okRg a b = true then .ok (.own (.list (rangeD a (b - a).toNat))) ps2 else .bad
  | _, _ => .bad
theorem go_listRg1 (hc : X.calm = true) (g1 : Gl X "list") (m1 : X.mg "list" = none) (g2 : Gl X "range") (m2 : X.mg "range" = none) (h1 : GV X Bo W e1 f1)
    (na : starEach [e1] X.env = (false, eval e1 X.env) :: starEach [] X.env := by rfl) (nb : starEach [Expr.Call (.Name "range" p2) [e1] [] pos2] X.env = (false, eval (Expr.Call (.Name "range" p2) [e1] [] pos2) X.env) :: starEach [] X.env := by rfl) :
    GO X Bo W (.Call (.Name "list" p) [.Call (.Name "range" p2) [e1] [] pos2] [] pos) (fLRg1 f1) := by
  refine (pe_listRg hc g1 m1 (prg_1 g2 m2 h1 na) nb).imp fun σ H Q q => ?_
  refine tR_bind RO.rb q fun v d F F1 H1 ps ps1 sr st hv q => ?_
  split at q
  · rename_i n
    split at q
    · rename_i ok
      cases (show Dv X.K F1 v (.int n) from hv)
      refine ⟨n, rfl, okRg_ok ok, fun q' hq => ?_⟩
      have hd := dv_rg (K := X.K) (F := F1) 0 (List.range (n - 0).toNat)
      obtain ⟨g, s2, ro⟩ := new_own sr hq hd
      have e : rangeD 0 n.toNat = (List.range (n - 0).toNat).map fun (i : Nat) => PyData.int (0 + (i : Int)) := by unfold rangeD; rw [Int.sub_zero]
      rw [e] at q
      exact q (.ref q') _ _ (.of_gr g) s2 ro
    · exact q.elim
  · exact q.elim
theorem go_listRg2 (hc : X.calm = true) (g1 : Gl X "list") (m1 : X.mg "list" = none) (g2 : Gl X "range") (m2 : X.mg "range" = none) (h1 : GV X Bo W e1 f1) (h2 : GV X Bo W e2 f2)
    (na : starEach [e1, e2] X.env = (false, eval e1 X.env) :: starEach [e2] X.env := by rfl) (nb : starEach [e2] X.env = (false, eval e2 X.env) :: starEach [] X.env := by rfl) (hp : (backTo pos2 (starEach [e2] X.env)).any (·.1) = false := by rfl)
    (nc : starEach [Expr.Call (.Name "range" p2) [e1, e2] [] pos2] X.env = (false, eval (Expr.Call (.Name "range" p2) [e1, e2] [] pos2) X.env) :: starEach [] X.env := by rfl) :
    GO X Bo W (.Call (.Name "list" p) [.Call (.Name "range" p2) [e1, e2] [] pos2] [] pos) (fLRg2 f1 f2) := by
  refine (pe_listRg hc g1 m1 (prg_2 g2 m2 h1 h2 na nb hp) nc).imp fun σ H Q q => ?_
  refine tR_bind RO.rb q fun v d F F1 H1 ps ps1 sr st hv q0 => ?_
  refine go_bind RO.rb sr q0 fun u d2 F2 H2 ps2 sr2 st2 hu q1 => ?_
  clear q q0
  split at q1
  · rename_i a b
    split at q1
    · rename_i ok
      cases (show Dv X.K F1 v (.int a) from hv)
      cases (show Dv X.K F2 u (.int b) from hu)
      refine ⟨a, b, rfl, rfl, okRg_ok ok, fun q' hq => ?_⟩
      obtain ⟨g, s2, ro⟩ := new_own sr2 hq (dv_rg (K := X.K) (F := F2) a (List.range (b - a).toNat))
      exact q1 (.ref q') _ _ (.of_gr g) s2 ro
    · exact q1.elim
  · exact q1.elim
end
end GL

/-! GLv: (..) * k -/
namespace GL
open PySem PySem.Spec L2
open PyProof.Rows hiding St
theorem tuple_mul1 (l : Addr) (items : Array Value) (n : Nat) (dd : Option Addr) (sl : Array (Option Value)) (u : Tok) :
    Meets (Builtin.«tuple.__mul__» ⟨[.ref l, .int 1 u], []⟩) (fun _ R s => s.heap.get? l = some { cls := .type "tuple", dict := dd, data := .seq items n, slots := sl } ∧ R (.ok (.ret (.ref l))) s) :=
  .of_wp fun prog w A R s h => by
    obtain ⟨hp, g, d, tk, os⟩ := s
    obtain ⟨hl, h⟩ := h
    have f1 := AutoSeq1.idx_int
    wp_walk using wpAny_loadPart' hl
    repeat (first
      | (refine wpAny_ite_false (by decide) ?_; wp_walk using wpAny_loadPart' hl)
      | (refine wpAny_ite_true (by simp) ?_; wp_walk using wpAny_loadPart' hl))
    all_goals exact ⟨_, rfl, h⟩
def rRep1 (K : PySem.W.Frag) : R2 := fun x y H Q => ∃ l xs, x = .ref l ∧ y = .int 1 ∧ SqT K H l xs ∧ Q (.ref l) H
theorem op_rep1 {X : Cx} : OpR X (binaryOp .Mult) (rRep1 X.K) := by
  intro pins s σ H x y v u Q I rx ry h
  obtain ⟨l, xs, rfl, rfl, hT, q⟩ := h
  cases rx
  obtain ⟨t, rfl⟩ := ry
  obtain ⟨its, r, ⟨⟨cls, dd, data, sl⟩, ho, hc, n, hd⟩, hs⟩ := I.tuple hT
  simp only at hc hd
  subst hc hd
  exact wpAny_binaryOp_repeat_ref (T := "tuple") (U := "int") (by decide) ⟨_, ho, rfl⟩ (fun s' => typeIs_int s' 1 t) noFill_tuple_mul F.fills_int_mul F.slot_int_rmul repeat_tuple F.slot_int_index.lookup
    (call_meets F.slot_int_rmul (typeIs_int s 1 t) F.entry_int_rmul (F.args_int_rmul_2 _ _) (int_rmul_tuple 1 t l its.toArray n dd sl)
      ⟨ho, rfl, ⟨_, ho, rfl⟩, call_meets F.slot_tuple_mul ⟨_, ho, rfl⟩ F.entry_tuple_mul (F.args_tuple_mul_2 _ _) (tuple_mul1 l its.toArray n dd sl t) ⟨ho, .ref l, H, I, rfl, q⟩⟩)
def dMulT : PyData → PyData → Option PyData
  | .tuple ds, .int k => if ds ≠ [] ∧ 1 ≤ k ∧ k ≤ 1000 ∧ ds.length ≤ 1000 then some (.tuple (List.replicate k.toNat ds).flatten) else none
  | _, _ => none
theorem dv_rep {K : PySem.W.Frag} {F : Hp} {xs : List V} {ds : List PyData} (h : DvAll K F xs ds) : ∀ n : Nat, DvAll K F (List.replicate n xs).flatten (List.replicate n ds).flatten
  | 0 => .nil
  | n + 1 => by
    rw [List.replicate_succ, List.replicate_succ, List.flatten_cons, List.flatten_cons]
    exact h.append (dv_rep h n)
theorem mulT_ok {K : PySem.W.Frag} : OpD K (fun x y H Q => rRepT K x y H Q ∨ rRep1 K x y H Q) dMulT := fun F H x y a b d Q hs hx hy e k => by
  unfold dMulT at e
  split at e
  · rename_i ds n
    split at e
    · rename_i h
      cases e
      cases hy
      cases hx with
      | @tup ax xs _ s1 d1 =>
        by_cases h1 : n = 1
        · subst h1
          have e1 : (List.replicate (1 : Int).toNat ds).flatten = ds := by simp
          rw [e1] at k
          exact .inr ⟨_, _, rfl, rfl, same_sqt hs s1, k _ F H (.refl hs) (.tup s1 d1)⟩
        · refine .inl ⟨_, n, _, rfl, rfl, same_sqt hs s1, ?_, by omega, h.2.2.1, by rw [d1.length]; exact h.2.2.2, fun p hp => ?_⟩
          · intro z
            subst z
            cases d1
            exact h.1 rfl
          · have g : Gr F H (upd F p (.tup (List.replicate n.toNat xs).flatten)) (upd H p (.tup (List.replicate n.toNat xs).flatten)) := .new hs hp
            exact k (.ref p) _ _ g (.tup (SqT.of upd_same) ((dv_rep d1 n.toNat).mono g.grow))
    · cases e
  · cases e
theorem op_mulT {X : Cx} : OpR X (binaryOp .Mult) (fun x y H Q => rRepT X.K x y H Q ∨ rRep1 X.K x y H Q) := op_repT.or op_rep1
end GL

/-! GLw: a, b, c = e1, e2, e3 with plain local names -/
namespace GL
open PySem PySem.Spec L2
open PyProof.Rows hiding St
section
variable {X : Cx} {Bo : Option Addr} {W : WX} {e1 e2 e3 : Expr} {fa : PSt → Rs (List PyData)} {pos : Pos} {i j k : Nat} {x y z : Str} {ta : TA} {px py pz pt pt2 : Pos} {kt k2 : Nat}
def tPar3 (i j k : Nat) (ta : TA) : TS := fun D σ H => ta σ H fun vs H1 => ∃ a b c, vs = [a, b, c] ∧ D.nx (((σ.set k (some c)).set j (some b)).set i (some a)) H1
theorem ps_par3 (hc : X.calm = true) (hN : X.N.Nodup) (hi : X.N[i]? = some x) (hj : X.N[j]? = some y) (hk : X.N[k]? = some z) (hx : X.env.scope.names.lookup x = some .local) (hy : X.env.scope.names.lookup y = some .local) (hz : X.env.scope.names.lookup z = some .local) (hA : PA X [e1, e2, e3] ta)
    (hw : swappedStores [.Tuple [.Name x px, .Name y py, .Name z pz] kt pt] (.Tuple [e1, e2, e3] k2 pt2) X.env = pure (some [x, y, z])) (hs : swapsWithSole [.Tuple [.Name x px, .Name y py, .Name z pz] kt pt] (.Tuple [e1, e2, e3] k2 pt2) pos.line X.env = pure false) :
    PS X (.Assign [.Tuple [.Name x px, .Name y py, .Name z pz] kt pt] (.Tuple [e1, e2, e3] k2 pt2) pos) (tPar3 i j k ta) := by
  refine ⟨fun pins s σ H D I h => ?_⟩
  (rw [exec_Assign_arm]; refine wpAny_bind (wpAny_standAt ?_); rw [hs]; refine wpAny_bind (wpAny_pure ?_); rw [if_neg (by decide)])
  refine wpAny_bind (Tuple_ (thn (hA.run _ pins s σ H _ I h) fun us s1 ⟨vs, H1, I1, r1, a, b, c, ev, q1⟩ => ?_))
  subst ev
  obtain ⟨u1, u2, u3, rfl, ra, rb, rc⟩ : ∃ u1 u2 u3, us = [u1, u2, u3] ∧ RelV a u1 ∧ RelV b u2 ∧ RelV c u3 := by
    cases r1 with
    | cons p q => cases q with
      | cons p' q' => cases q' with
        | cons p2 q2 => cases q2; exact ⟨_, _, _, rfl, p, p', p2⟩
  refine wpAny_newObj_type ?_ (by show 3 ≤ sizeLine; decide)
  have I2 : Inv X pins σ H1 { s1 with heap := s1.heap.push { cls := .type "tuple", data := .seq [u1, u2, u3].toArray } } := I1.kept (t' := s1.toks) fun b o e => Heap.get?_push_of_some _ e
  (rw [hw]; refine wpAny_bind (wpAny_pure ?_))
  show wpAny (model X.prog X.w) X.A (do rule "assign.swapped-stores"; let items ← unpackItems (.ref s1.heap.objs.size) 3 none; assignInOrder [fun v => bindName X.env z v, fun v => bindName X.env y v, fun v => bindName X.env x v] items.reverse; pure Flow.next) _ _ _
  refine wpAny_bind (wpAny_rule (wpAny_bind (unpackItems_tuple (items := #[u1, u2, u3]) (I.ok.hd hc) (IsTup.new s1.heap _) fun h' hx' => ?_)))
  have I3 := I2.kept (h' := h') (t' := s1.toks) fun b o e => hx' b o (Nat.ne_of_lt (Heap.lt_size e)) e
  show wpAny _ _ (assignInOrder [fun v => bindName X.env z v, fun v => bindName X.env y v, fun v => bindName X.env x v] [u3, u2, u1] >>= fun _ => pure Flow.next) _ _ _
  refine wpAny_bind (assignInOrder_cons (wpAny_bindName (store_ok I3 hN hk (.inl hz) rc (fun s2 I4 => ?_) (.inr hz))))
  refine assignInOrder_cons (wpAny_bindName (store_ok I4 hN hj (.inl hy) rb (fun s3 I5 => assignInOrder_cons (wpAny_bindName (store_ok I5 hN hi (.inl hx) ra (fun s4 I6 => assignInOrder_nil (wpAny_pure ⟨_, H1, I6, q1⟩)) (.inr hx)))) (.inr hy)))
def fPar3 (i j k : Nat) (fa : PSt → Rs (List PyData)) : PSt → Os := fun ps => (fa ps).st fun ds ps1 => match ds with
  | [a, b, c] => .nx (((ps1.set k (some (.val c))).set j (some (.val b))).set i (some (.val a)))
  | _ => .bad
theorem gs_par3 (i j k : Nat) (hA : GA X Bo W [e1, e2, e3] fa) (hc : X.calm = true) (hN : X.N.Nodup) (hx : X.env.scope.names.lookup x = some .local) (hy : X.env.scope.names.lookup y = some .local) (hz : X.env.scope.names.lookup z = some .local)
    (hw : swappedStores [.Tuple [.Name x px, .Name y py, .Name z pz] kt pt] (.Tuple [e1, e2, e3] k2 pt2) X.env = pure (some [x, y, z])) (hbi : Bo = none ∨ i ≠ 0 := by first | exact .inl rfl | exact .inr (by decide)) (hbj : Bo = none ∨ j ≠ 0 := by first | exact .inl rfl | exact .inr (by decide)) (hbk : Bo = none ∨ k ≠ 0 := by first | exact .inl rfl | exact .inr (by decide))
    (hi : X.N[i]? = some x := by rfl) (hj : X.N[j]? = some y := by rfl) (hk : X.N[k]? = some z := by rfl)
    (hs : swapsWithSole [.Tuple [.Name x px, .Name y py, .Name z pz] kt pt] (.Tuple [e1, e2, e3] k2 pt2) pos.line X.env = pure false := by rfl) :
    GS X Bo W (.Assign [.Tuple [.Name x px, .Name y py, .Name z pz] kt pt] (.Tuple [e1, e2, e3] k2 pt2) pos) (fPar3 i j k fa) := by
  refine (ps_par3 hc hN hi hj hk hx hy hz hA hw hs).imp fun D σ H q => ?_
  refine tS_bind q fun vs ds F F1 H1 ps ps1 sr s1 st hv q => ?_
  have hv : DvAll X.K F1 vs ds := hv
  match ds, hv, q with
  | [a, b, c], hv, q =>
    cases hv with
    | cons h1 t => cases t with
      | cons h2 t => cases t with
        | cons h3 t =>
          cases t
          exact ⟨_, _, _, rfl, q _ F1 H1 ((Step.setV (i := k)).trans ((Step.setV (i := j)).trans (Step.setV (i := i)))) (((s1.setV hbk h3).setV hbj h2).setV hbi h1)⟩
  | [], _, q => exact q.elim
  | [_], _, q => exact q.elim
  | [_, _], _, q => exact q.elim
  | _ :: _ :: _ :: _ :: _, _, q => exact q.elim
end
end GL

/-! GDd: grouping by keys in a dict -/
namespace GD
open PySem PySem.Spec L2 GL GT GS
open PyProof.Rows hiding St
section
variable {f fi : PSt → Rs PyData} {fa : PSt → Rs (List PyData)} {ps ps1 ps2 ps3 : PSt} {i : Nat} {v k d : PyData} {kvs kvs0 : List (PyData × PyData)}
theorem ev_dict0 : Ev fDict0 ps (.own (.dict [])) ps := rfl
theorem es_setKey (h : Ev f ps v ps1) (h0 : ps1[i]? = some (some (.own (.dict kvs0)))) (hi : Ev fi ps1 k ps2) (h1 : ps2[i]? = some (some (.own (.dict kvs)))) (hf : fits kvs k = true) (hz : kvs.length ≤ 1000) (hs : ps2.set i (some (.own (.dict (kPut kvs k v)))) = ps3) : Es (fSetKey i fi f) ps (.nx ps3) := by
  subst hs
  unfold Ev Es at *
  unfold fSetKey
  rw [h]
  dsimp only [Rs.st]
  have z : slotD i ps1 = some kvs0 := by unfold slotD; rw [h0]
  have z1 : slotD i ps2 = some kvs := by unfold slotD; rw [h1]
  rw [z]
  dsimp only
  rw [hi]
  dsimp only [Rs.st]
  rw [z1]
  dsimp only
  rw [if_pos ⟨hf, by rw [sizeLine_eq]; omega⟩]
theorem ev_get2 {d' : PyData} (h0 : ps[i]? = some (some (.own (.dict kvs0)))) (h : Ev fa ps [k, d] ps1) (h1 : ps1[i]? = some (some (.own (.dict kvs)))) (hf : fits kvs k = true) (he : (kGet kvs k).getD d = d') : Ev (fGet2 i fa) ps d' ps1 := by
  subst he
  unfold Ev at *
  unfold fGet2
  have z : slotD i ps = some kvs0 := by unfold slotD; rw [h0]
  have z1 : slotD i ps1 = some kvs := by unfold slotD; rw [h1]
  rw [z]
  dsimp only
  rw [h]
  dsimp only [Rs.bind]
  rw [z1]
  dsimp only
  rw [if_pos hf]
theorem ev_vals {es : List PyData} (h0 : ps[i]? = some (some (.own (.dict kvs)))) (he : kvs.map (·.2) = es) : Ev (fVals i) ps (.own (.list es)) ps := by
  subst he
  unfold Ev
  unfold fVals
  have z : slotD i ps = some kvs := by unfold slotD; rw [h0]
  rw [z]
end
section
variable {κ τ : Type} [DecidableEq κ]
def gGet (G : List (κ × List τ)) (k : κ) : Option (List τ) := (G.find? fun g => decide (g.1 = k)).map (·.2)
def gPut (G : List (κ × List τ)) (k : κ) (l : List τ) : List (κ × List τ) := if (gGet G k).isSome then G.map (fun g => if g.1 = k then (g.1, l) else g) else G ++ [(k, l)]
def gAdd (K : τ → κ) (G : List (κ × List τ)) (t : τ) : List (κ × List τ) := gPut G (K t) ((gGet G (K t)).getD [] ++ [t])
def eG (ek : κ → PyData) (et : τ → PyData) (G : List (κ × List τ)) : List (PyData × PyData) := G.map fun g => (ek g.1, .list (g.2.map et))
theorem gGet_some {G : List (κ × List τ)} {k : κ} {l : List τ} (h : gGet G k = some l) : (k, l) ∈ G := by
  unfold gGet at h
  cases q : G.find? fun g => decide (g.1 = k) with
  | none => rw [q] at h; cases h
  | some g =>
    rw [q] at h
    have e1 := List.find?_some q
    have e2 := List.mem_of_find?_eq_some q
    have : g.1 = k := of_decide_eq_true e1
    have e3 : g.2 = l := by simpa using h
    rw [← this, ← e3]
    exact e2
theorem gGet_none {G : List (κ × List τ)} {k : κ} (h : gGet G k = none) : ∀ g ∈ G, g.1 ≠ k := by
  unfold gGet at h
  rw [Option.map_eq_none_iff, List.find?_eq_none] at h
  intro g hg
  have := h g hg
  simpa using this
variable {ek : κ → PyData} {et : τ → PyData} {n : Nat} (tk : Ty ek n)
include tk
theorem kGet_eG (G : List (κ × List τ)) (k : κ) : kGet (eG ek et G) (ek k) = (gGet G k).map fun l => .list (l.map et) := by
  unfold kGet gGet eG
  induction G with
  | nil => rfl
  | cons g G ih =>
    rw [List.map_cons, List.find?_cons, List.find?_cons]
    have : decide (kof (ek g.1, PyData.list (g.2.map et)).1 = kof (ek k)) = decide (g.1 = k) := by
      refine decide_eq_decide.mpr ⟨fun h => tk.kofI h, fun h => by subst h; rfl⟩
    rw [this]
    cases decide (g.1 = k) with
    | true => rfl
    | false => exact ih
theorem kPut_eG (G : List (κ × List τ)) (k : κ) (l : List τ) : kPut (eG ek et G) (ek k) (.list (l.map et)) = eG ek et (gPut G k l) := by
  unfold kPut gPut
  rw [kGet_eG tk, Option.isSome_map]
  cases (gGet G k).isSome with
  | false =>
    rw [if_neg (by decide), if_neg (by decide)]
    unfold eG
    rw [List.map_append]
    rfl
  | true =>
    rw [if_pos rfl, if_pos rfl]
    unfold eG
    rw [List.map_map, List.map_map]
    refine List.map_congr_left fun g _ => ?_
    dsimp only [Function.comp]
    by_cases h : g.1 = k
    · rw [if_pos h, if_pos (by rw [h])]
    · rw [if_neg h, if_neg fun e => h (tk.kofI e)]
theorem fits_eG (hn : n ≤ 8) (hT : ∀ k, ∃ ds, ek k = .tuple ds) (G : List (κ × List τ)) (k : κ) : fits (eG ek et G) (ek k) = true := by
  have tp : ∀ k, isTp (ek k) = true := fun k => by obtain ⟨ds, e⟩ := hT k; rw [e]; rfl
  unfold fits
  rw [tp k, Bool.true_and, Bool.and_eq_true]
  refine ⟨?_, ?_⟩
  · unfold okK
    rw [tk.ni k, Bool.true_and]
    exact decide_eq_true (Nat.le_trans (tk.dp k) hn)
  · rw [List.all_eq_true]
    intro p hp
    obtain ⟨g, _, rfl⟩ := List.mem_map.mp hp
    exact tp g.1
end
section
variable {κ τ : Type} [DecidableEq κ]
structure GInv (K : τ → κ) (G : List (κ × List τ)) (L : List τ) : Prop where
  nd : (G.map (·.1)).Nodup
  own : ∀ g ∈ G, g.2 ≠ [] ∧ ∀ t ∈ g.2, t ∈ L ∧ K t = g.1
  all : ∀ t ∈ L, ∃ g ∈ G, t ∈ g.2
  len : G.length ≤ L.length
  lens : ∀ g ∈ G, g.2.length ≤ L.length
theorem GInv.nil (K : τ → κ) : GInv K [] [] := ⟨by simp, by simp, by simp, by simp, by simp⟩
theorem GInv.add {K : τ → κ} {G : List (κ × List τ)} {L : List τ} (h : GInv K G L) (t : τ) : GInv K (gAdd K G t) (L ++ [t]) := by
  unfold gAdd gPut
  cases q : gGet G (K t) with
  | none =>
    have no := gGet_none q
    rw [if_neg (by simp)]
    refine ⟨?_, ?_, ?_, ?_, ?_⟩
    · rw [List.map_append, List.nodup_append]
      refine ⟨h.nd, by simp, fun a ha b hb => ?_⟩
      obtain ⟨g, hg, rfl⟩ := List.mem_map.mp ha
      have : b = K t := by simpa using hb
      subst this
      exact no g hg
    · intro g hg
      rcases List.mem_append.mp hg with m | m
      · exact ⟨(h.own g m).1, fun x hx => ⟨List.mem_append_left _ ((h.own g m).2 x hx).1, ((h.own g m).2 x hx).2⟩⟩
      · rw [List.mem_singleton] at m
        subst m
        exact ⟨by simp, fun x hx => by have : x = t := by simpa using hx
                                       subst this; exact ⟨by simp, rfl⟩⟩
    · intro x hx
      rcases List.mem_append.mp hx with m | m
      · obtain ⟨g, hg, hm⟩ := h.all x m
        exact ⟨g, List.mem_append_left _ hg, hm⟩
      · have : x = t := by simpa using m
        subst this
        exact ⟨_, List.mem_append_right _ (List.mem_singleton.mpr rfl), by simp⟩
    · simp [h.len]
    · intro g hg
      rcases List.mem_append.mp hg with m | m
      · have := h.lens g m
        simp; omega
      · rw [List.mem_singleton] at m
        subst m
        simp
  | some l =>
    have hm := gGet_some q
    rw [if_pos (show (some l).isSome = true from rfl)]
    have uniq : ∀ g ∈ G, g.1 = K t → g.2 = l := by
      intro g hg he
      have nd := h.nd
      have : ∀ (G : List (κ × List τ)), (G.map (·.1)).Nodup → g ∈ G → (K t, l) ∈ G → g.2 = l := by
        intro G
        induction G with
        | nil => intro _ m; cases m
        | cons a G ih =>
          intro nd m1 m2
          rw [List.map_cons, List.nodup_cons] at nd
          rcases List.mem_cons.mp m1 with e1 | m1
          · rcases List.mem_cons.mp m2 with e2 | m2
            · rw [← e1] at e2; rw [← e2]
            · exact absurd (List.mem_map_of_mem (f := (·.1)) m2) (by rw [← e1] at nd; show K t ∉ _; rw [← he]; exact nd.1)
          · rcases List.mem_cons.mp m2 with e2 | m2
            · exact absurd (List.mem_map_of_mem (f := (·.1)) m1) (by rw [← e2] at nd; rw [he]; exact nd.1)
            · exact ih nd.2 m1 m2
      exact this G nd hg hm
    refine ⟨?_, ?_, ?_, ?_, ?_⟩
    · rw [List.map_map]
      have : (fun g : κ × List τ => g.1) ∘ (fun g => if g.1 = K t then (g.1, (some l).getD [] ++ [t]) else g) = fun g => g.1 := by
        funext g
        dsimp only [Function.comp]
        split <;> rfl
      rw [this]
      exact h.nd
    · intro g hg
      obtain ⟨g0, hg0, rfl⟩ := List.mem_map.mp hg
      have o := h.own g0 hg0
      split
      · rename_i he
        have e2 := uniq g0 hg0 he
        refine ⟨by simp, fun x hx => ?_⟩
        rcases List.mem_append.mp hx with m | m
        · have m : x ∈ l := m
          rw [← e2] at m
          exact ⟨List.mem_append_left _ (o.2 x m).1, (o.2 x m).2⟩
        · have : x = t := by simpa using m
          subst this
          exact ⟨by simp, he.symm⟩
      · exact ⟨o.1, fun x hx => ⟨List.mem_append_left _ (o.2 x hx).1, (o.2 x hx).2⟩⟩
    · intro x hx
      rcases List.mem_append.mp hx with m | m
      · obtain ⟨g, hg, hm2⟩ := h.all x m
        refine ⟨_, List.mem_map_of_mem hg, ?_⟩
        split
        · rename_i he
          have e2 := uniq g hg he
          rw [e2] at hm2
          exact List.mem_append_left _ hm2
        · exact hm2
      · have : x = t := by simpa using m
        subst this
        refine ⟨_, List.mem_map_of_mem hm, ?_⟩
        rw [if_pos rfl]
        simp
    · simp; have := h.len; omega
    · intro g hg
      obtain ⟨g0, hg0, rfl⟩ := List.mem_map.mp hg
      have := h.lens g0 hg0
      have := h.lens _ hm
      split
      · simp; exact this
      · simp; omega
theorem GInv.foldA {K : τ → κ} : ∀ (M : List τ) {G : List (κ × List τ)} {L : List τ}, GInv K G L → GInv K (M.foldl (gAdd K) G) (L ++ M)
  | [], G, L, h => by simpa using h
  | t :: M, G, L, h => by
    have := GInv.foldA M (h.add t)
    rwa [List.append_assoc] at this
theorem GInv.fold (K : τ → κ) (M : List τ) : GInv K (M.foldl (gAdd K) []) M := GInv.foldA M (GInv.nil K)
/-- two lots are one just if they have things of one key -/
theorem GInv.same {K : τ → κ} {G : List (κ × List τ)} {L : List τ} (h : GInv K G L) {l m : List τ} (hl : l ∈ G.map (·.2)) (hm : m ∈ G.map (·.2)) {a c : τ} (ha : a ∈ l) (hc : c ∈ m) : l = m ↔ K a = K c := by
  obtain ⟨g1, h1, rfl⟩ := List.mem_map.mp hl
  obtain ⟨g2, h2, rfl⟩ := List.mem_map.mp hm
  have e1 := ((h.own g1 h1).2 a ha).2
  have e2 := ((h.own g2 h2).2 c hc).2
  constructor
  · intro e
    have hc' : c ∈ g1.2 := by rw [e]; exact hc
    rw [e1, ((h.own g1 h1).2 c hc').2]
  · intro e
    have ee : g1.1 = g2.1 := by rw [← e1, e, e2]
    have : ∀ (G : List (κ × List τ)), (G.map (·.1)).Nodup → g1 ∈ G → g2 ∈ G → g1.2 = g2.2 := by
      intro G
      induction G with
      | nil => intro _ m; cases m
      | cons b G ih =>
        intro nd m1 m2
        rw [List.map_cons, List.nodup_cons] at nd
        rcases List.mem_cons.mp m1 with q1 | m1
        · rcases List.mem_cons.mp m2 with q2 | m2
          · rw [q1, q2]
          · exact absurd (List.mem_map_of_mem (f := (·.1)) m2) (by rw [← q1] at nd; rw [← ee]; exact nd.1)
        · rcases List.mem_cons.mp m2 with q2 | m2
          · exact absurd (List.mem_map_of_mem (f := (·.1)) m1) (by rw [← q2] at nd; rw [ee]; exact nd.1)
          · exact ih nd.2 m1 m2
    exact this G h.nd h1 h2
end
section
variable {α : Type} {en : α → PyData} {k : Nat} (t : Ty en k)
include t
theorem eqvL_T (l m : List α) : PyData.eqv (.list (l.map en)) (.list (m.map en)) = PyData.eqv (.tuple (l.map en)) (.tuple (m.map en)) := by simp [PyData.eqv]
theorem _root_.GT.Ty.dEqLL [DecidableEq α] (hk : k ≤ 63) {l m : List α} {c : Bool} (h : decide (l = m) = c) : GL.dEq (.list (l.map en)) (.list (m.map en)) = some (.bool c) := by
  unfold GL.dEq
  rw [if_pos ⟨t.shapedL hk l, t.shapedL hk m⟩, eqvL_T t, ← h]
  have := (t.list).eqv l m
  show some (PyData.bool (PyData.eqv (eT en l) (eT en m))) = _
  rw [this]
theorem _root_.GT.Ty.dNeLL [DecidableEq α] (hk : k ≤ 63) {l m : List α} {c : Bool} (h : (!decide (l = m)) = c) : GL.dNe (.list (l.map en)) (.list (m.map en)) = some (.bool c) := by
  unfold GL.dNe
  rw [if_pos ⟨t.shapedL hk l, t.shapedL hk m⟩, eqvL_T t, ← h]
  have := (t.list).eqv l m
  show some (PyData.bool (!PyData.eqv (eT en l) (eT en m))) = _
  rw [this]
end
end GD

/-! EF: moves behind moves, effects of texts -/
namespace Ef
abbrev Mv := Int × List Int
abbrev Rw := Int × List Mv
structure Pn where
  s0 : Int
  sh : List (List Int)
  rows : List (List Rw)
  ends : List (List Mv)
def lat (p : Pn) (s c : Int) : Rw := (p.rows.getD s.toNat []).getD (c - 1).toNat (0, [])
def shBy (sh : List (List Int)) (mv : List Mv) : List (List Int) := mv.map fun m => sh.getD m.1.toNat [] ++ m.2
def beh (mv more : List Mv) : List Mv := more.map fun m => ((mv.getD m.1.toNat (0, [])).1, (mv.getD m.1.toNat (0, [])).2 ++ m.2)
def still (n : Nat) : List Mv := (List.range n).map fun k => (((k : Nat) : Int), ([] : List Int))
def VM (n : Nat) (mv : List Mv) : Prop := ∀ m ∈ mv, 0 ≤ m.1 ∧ m.1 < n
def stepE (p : Pn) (x : Int × List Mv) (c : Int) : Int × List Mv := ((lat p x.1 c).1, beh x.2 (lat p x.1 c).2)
def effF (p : Pn) (s : Int) (t : List Int) : Int × List Mv := t.foldl (stepE p) (s, still p.sh.length)
def stepG (p : Pn) (x : Int × List (List Int)) (c : Int) : Int × List (List Int) := ((lat p x.1 c).1, shBy x.2 (lat p x.1 c).2)
def goF (p : Pn) (x : Int × List (List Int)) (t : List Int) : Int × List (List Int) := t.foldl (stepG p) x
/-- what is asked of pens: rows lead to states, moves come from sheets -/
structure Fit (p : Pn) (wide : Nat) : Prop where
  row : ∀ s c : Int, 0 ≤ s → s < p.rows.length → 1 ≤ c → c ≤ wide → 0 ≤ (lat p s c).1 ∧ (lat p s c).1 < p.rows.length ∧ (lat p s c).2.length = p.sh.length ∧ VM p.sh.length (lat p s c).2
def Tx (wide : Nat) (t : List Int) : Prop := ∀ c ∈ t, 1 ≤ c ∧ c ≤ (wide : Int)
theorem Tx.app {wide : Nat} {t u : List Int} (h : Tx wide t) (g : Tx wide u) : Tx wide (t ++ u) := fun c m => (List.mem_append.mp m).elim (h c) (g c)
theorem still_len (n : Nat) : (still n).length = n := by simp [still]
theorem still_get {n i : Nat} (h : i < n) : (still n).getD i (0, []) = ((i : Int), []) := by simp [still, h]
theorem still_vm (n : Nat) : VM n (still n) := fun m h => by
  obtain ⟨k, hk, rfl⟩ := List.mem_map.mp h
  have := List.mem_range.mp hk
  exact ⟨by simp, by simpa using this⟩
theorem beh_still_left {n : Nat} {mv : List Mv} (h : VM n mv) : beh (still n) mv = mv := by
  unfold beh
  conv => rhs; rw [← List.map_id mv]
  refine List.map_congr_left fun m hm => ?_
  obtain ⟨h0, h1⟩ := h m hm
  rw [still_get (by omega)]
  have : ((m.1.toNat : Nat) : Int) = m.1 := by omega
  simp [this]
theorem beh_still {n : Nat} {mv : List Mv} (h : mv.length = n) : beh mv (still n) = mv := by
  unfold beh still
  rw [List.map_map]
  refine List.ext_getElem (by simp [h]) fun i h1 h2 => ?_
  simp [h2]
theorem beh_len (a b : List Mv) : (beh a b).length = b.length := by simp [beh]
theorem beh_vm {n : Nat} {a b : List Mv} (ha : VM n a) (hb : VM a.length b) : VM n (beh a b) := fun m h => by
  obtain ⟨x, hx, rfl⟩ := List.mem_map.mp h
  obtain ⟨h0, h1⟩ := hb x hx
  have hi : x.1.toNat < a.length := by omega
  have : a.getD x.1.toNat (0, []) = a[x.1.toNat] := by simp [hi]
  rw [this]
  exact ⟨(ha _ (List.getElem_mem hi)).1, (ha _ (List.getElem_mem hi)).2⟩
theorem beh_assoc {a b c : List Mv} (hc : VM b.length c) : beh (beh a b) c = beh a (beh b c) := by
  unfold beh
  rw [List.map_map]
  refine List.map_congr_left fun m hm => ?_
  obtain ⟨h0, h1⟩ := hc m hm
  have hi : m.1.toNat < b.length := by omega
  simp [hi]
theorem shBy_len (sh : List (List Int)) (mv : List Mv) : (shBy sh mv).length = mv.length := by simp [shBy]
theorem shBy_still {sh : List (List Int)} : shBy sh (still sh.length) = sh := by
  unfold shBy still
  rw [List.map_map]
  refine List.ext_getElem (by simp) fun i h1 h2 => ?_
  simp [h2]
theorem shBy_beh {sh : List (List Int)} {a b : List Mv} (hb : VM a.length b) : shBy (shBy sh a) b = shBy sh (beh a b) := by
  unfold shBy beh
  rw [List.map_map]
  refine List.map_congr_left fun m hm => ?_
  obtain ⟨h0, h1⟩ := hb m hm
  have hi : m.1.toNat < a.length := by omega
  simp [hi]
section
variable {p : Pn} {wide : Nat} (F : Fit p wide)
include F
/-- going on from moves that were done -/
theorem eff_from (hs : Int → Prop := fun s => 0 ≤ s ∧ s < p.rows.length) : ∀ (t : List Int) (s : Int) (mv : List Mv), Tx wide t → 0 ≤ s → s < p.rows.length → mv.length = p.sh.length →
    t.foldl (stepE p) (s, mv) = ((effF p s t).1, beh mv (effF p s t).2) ∧ (0 ≤ (effF p s t).1 ∧ (effF p s t).1 < p.rows.length) ∧ (effF p s t).2.length = p.sh.length ∧ VM p.sh.length (effF p s t).2
  | [], s, mv, _, h0, h1, hm => by
    refine ⟨?_, ⟨h0, h1⟩, still_len _, still_vm _⟩
    show (s, mv) = (s, beh mv (still p.sh.length))
    rw [beh_still hm]
  | c :: t, s, mv, ht, h0, h1, hm => by
    have hc := ht c List.mem_cons_self
    obtain ⟨r0, r1, rl, rv⟩ := F.row s c h0 h1 hc.1 hc.2
    have ht' : Tx wide t := fun x m => ht x (List.mem_cons_of_mem _ m)
    have i1 := eff_from hs t (lat p s c).1 (beh mv (lat p s c).2) ht' r0 r1 (by rw [beh_len]; exact rl)
    have i2 := eff_from hs t (lat p s c).1 (beh (still p.sh.length) (lat p s c).2) ht' r0 r1 (by rw [beh_len]; exact rl)
    have e2 : effF p s (c :: t) = ((effF p (lat p s c).1 t).1, beh (lat p s c).2 (effF p (lat p s c).1 t).2) := by
      have : effF p s (c :: t) = t.foldl (stepE p) ((lat p s c).1, beh (still p.sh.length) (lat p s c).2) := rfl
      rw [this, i2.1, beh_still_left rv]
    have e1 : (c :: t).foldl (stepE p) (s, mv) = t.foldl (stepE p) ((lat p s c).1, beh mv (lat p s c).2) := rfl
    have hv2 : VM (lat p s c).2.length (effF p (lat p s c).1 t).2 := by rw [rl]; exact i1.2.2.2
    refine ⟨?_, ?_, ?_, ?_⟩
    · rw [e1, i1.1, e2]
      dsimp only
      rw [beh_assoc hv2]
    · rw [e2]; exact i1.2.1
    · rw [e2]; rw [beh_len]; exact i1.2.2.1
    · rw [e2]; exact beh_vm rv hv2
theorem eff_ok {t : List Int} {s : Int} (ht : Tx wide t) (h0 : 0 ≤ s) (h1 : s < p.rows.length) : (0 ≤ (effF p s t).1 ∧ (effF p s t).1 < p.rows.length) ∧ (effF p s t).2.length = p.sh.length ∧ VM p.sh.length (effF p s t).2 :=
  (eff_from F (fun _ => True) t s (still p.sh.length) ht h0 h1 (still_len _)).2
theorem eff_app {t u : List Int} {s : Int} (ht : Tx wide t) (hu : Tx wide u) (h0 : 0 ≤ s) (h1 : s < p.rows.length) : effF p s (t ++ u) = ((effF p (effF p s t).1 u).1, beh (effF p s t).2 (effF p (effF p s t).1 u).2) := by
  have ok := eff_ok F ht h0 h1
  have : effF p s (t ++ u) = u.foldl (stepE p) ((effF p s t).1, (effF p s t).2) := by unfold effF; rw [List.foldl_append]
  rw [this]
  exact (eff_from F (fun _ => True) u _ _ hu ok.1.1 ok.1.2 ok.2.1).1
/-- texts of one effect may stand for one another -/
theorem eff_mid {a b n f : List Int} (ha : Tx wide a) (hb : Tx wide b) (hn : Tx wide n) (hf : Tx wide f) (e : ∀ s : Int, 0 ≤ s → s < p.rows.length → effF p s a = effF p s b) {s : Int} (h0 : 0 ≤ s) (h1 : s < p.rows.length) : effF p s (n ++ a ++ f) = effF p s (n ++ b ++ f) := by
  have ok := eff_ok F hn h0 h1
  rw [eff_app F (hn.app ha) hf h0 h1, eff_app F (hn.app hb) hf h0 h1, eff_app F hn ha h0 h1, eff_app F hn hb h0 h1, e _ ok.1.1 ok.1.2]
theorem go_eff : ∀ (t : List Int) (s : Int) (sh : List (List Int)), Tx wide t → 0 ≤ s → s < p.rows.length → sh.length = p.sh.length → goF p (s, sh) t = ((effF p s t).1, shBy sh (effF p s t).2)
  | [], s, sh, _, _, _, hl => by
    show (s, sh) = (s, shBy sh (still p.sh.length))
    rw [← hl, shBy_still]
  | c :: t, s, sh, ht, h0, h1, hl => by
    have hc := ht c List.mem_cons_self
    obtain ⟨r0, r1, rl, rv⟩ := F.row s c h0 h1 hc.1 hc.2
    have ht' : Tx wide t := fun x m => ht x (List.mem_cons_of_mem _ m)
    have hc1 : Tx wide [c] := fun x m => by rw [List.mem_singleton.mp m]; exact hc
    have e0 : effF p s [c] = ((lat p s c).1, (lat p s c).2) := by
      show (_, beh (still p.sh.length) (lat p s c).2) = _
      rw [beh_still_left rv]
    have e1 : goF p (s, sh) (c :: t) = goF p ((lat p s c).1, shBy sh (lat p s c).2) t := rfl
    have e2 := eff_app F hc1 ht' h0 h1
    rw [e0] at e2
    have hv2 : VM (lat p s c).2.length (effF p (lat p s c).1 t).2 := by rw [rl]; exact (eff_ok F ht' r0 r1).2.2
    rw [e1, go_eff t _ _ ht' r0 r1 (by rw [shBy_len]; exact rl), show c :: t = [c] ++ t from rfl, e2]
    dsimp only
    rw [shBy_beh hv2]
end
end Ef

namespace TT
open PySem PySem.Spec L2 GL
open PyProof.Rows hiding St
def top (i : Nat) : Stmt := PySem.Challenge.pw_copysheets_k26_main_texts_by_their_effec.main.body.getD i (.Pass ⟨0, 0, 0, 0⟩)
structure Ex (K : PySem.W.Frag) (mg : Str → Option Value) (x : Str) (C : Addr) : Prop where
  g : mg x = some (.ref C)
  x : PySem.W.excIn K C He.veBase "ValueError.__new__" = true
  k : PySem.W.keepIn K (.ref C) = true
  s : PySem.W.subIn K (.ref C) (.type "BaseException") = some true
  t : PySem.W.typeIn K (.ref C) = some (.type "type")
  m : PySem.W.exmOne K (.ref C) (.ref C) = some true
structure Hy (K : PySem.W.Frag) (mg : Str → Option Value) (C_CanNot : Addr) (C_Unfit : Addr) : Prop where
  n_abs : mg "abs" = none
  n_all : mg "all" = none
  n_bool : mg "bool" = none
  n_enumerate : mg "enumerate" = none
  n_int : mg "int" = none
  n_isinstance : mg "isinstance" = none
  n_len : mg "len" = none
  n_list : mg "list" = none
  n_range : mg "range" = none
  n_set : mg "set" = none
  n_sorted : mg "sorted" = none
  n_str : mg "str" = none
  n_tuple : mg "tuple" = none
  n_zip : mg "zip" = none
  c_MOST_WIDE : ∃ t, mg "MOST_WIDE" = some (.int 3 t)
  c_SIGNS : ∃ t, mg "SIGNS" = some (.int 10 t)
  e_CanNot : Ex K mg "CanNot" C_CanNot
  e_Unfit : Ex K mg "Unfit" C_Unfit
/-! is_number -/
abbrev s_is_number : Stmt := top 5
theorem sc_is_number : FnScope ["thing"] ["thing"] (defScope s_is_number) := ⟨rfl, rfl, rfl, by decide +kernel, rfl, by decide +kernel, by decide +kernel⟩
noncomputable def b_is_number : PSt → Os :=
  (fRet (fun ps => ((fAndV (fIsi (isaD "int") (fN 0)) (fNotV (fIsi (isaD "bool") (fN 0)))) ps).map PV.val))
noncomputable def M_is_number : List PyData → FR := fun ds => (b_is_number (startP 1 ds)).fin
theorem bd_is_number {K : PySem.W.Frag} {f : Addr} {fd : FuncData} (Fn : FunD K "is_number" "is_number" (defArgs s_is_number) (defBody s_is_number) (defScope s_is_number) [] [] f fd) : Binds K fd ["thing"] [] := Fn.bindsN fun _ _ _ _ _ _ us hl => match us, hl with | [_], _ => rfl
theorem ok_is_number {P : Program} {w : World} {K : PySem.W.Frag} {mg : Str → Option Value} {base : Heap} {f : Addr} {fd : FuncData} {C_CanNot : Addr} {C_Unfit : Addr} (Fn : FunD K "is_number" "is_number" (defArgs s_is_number) (defBody s_is_number) (defScope s_is_number) [] [] f fd) (hy : Hy K mg C_CanNot C_Unfit) (gf : mg "is_number" = some (.ref f)) : GFn P w K mg base "is_number" 1 1 M_is_number := by
  refine GFn.of_body (k := 0) (n := 1) (N := ["thing"]) (ps := ["thing"]) Fn gf (bd_is_number Fn) sc_is_number rfl (g := b_is_number) fun cdv A outer s H E hr => ?_
  have nd := sc_is_number.nd
  exact (gss_one (gs_ret (go_of (gv_and (gv_isi (tn := "int") (gv_name 0) rfl hy.n_isinstance rfl hy.n_int (by decide +kernel)) (gv_one (gv_not (gv_isi (tn := "bool") (gv_name 0) rfl hy.n_isinstance rfl hy.n_bool (by decide +kernel))))))))
/-! tuple_of -/
abbrev s_tuple_of : Stmt := top 6
theorem sc_tuple_of : FnScope ["thing", "part"] ["thing"] (defScope s_tuple_of) := ⟨rfl, rfl, rfl, by decide +kernel, rfl, by decide +kernel, by decide +kernel⟩
noncomputable def b_tuple_of (M : List PyData → FR) : PSt → Os :=
  (fSeq (fIfS (fTest (fIsi (isa2 "list" "tuple") (fN 0))) (fRet (fun ps => ((fApp dTuple (fCons (fun ps => ((fLc (fSeqI (fN 0)) (uN 1) cYes (fun ps => ((fCall 1 M (fCons (fN 1) (fun ps => .ok [] ps))) ps).map PV.data) [1]) ps).map PV.data) (fun ps => .ok [] ps))) ps).map PV.val)) fSkip)
  (fRet (fMv 0)))
noncomputable def R_tuple_of : Nat → List PyData → FR
  | 0 => fun _ => .bad
  | k + 1 => fun ds => (b_tuple_of (R_tuple_of k) (startP 2 ds)).fin
noncomputable def M_tuple_of : List PyData → FR := R_tuple_of 40
theorem bd_tuple_of {K : PySem.W.Frag} {f : Addr} {fd : FuncData} (Fn : FunD K "tuple_of" "tuple_of" (defArgs s_tuple_of) (defBody s_tuple_of) (defScope s_tuple_of) [] [] f fd) : Binds K fd ["thing"] [] := Fn.bindsN fun _ _ _ _ _ _ us hl => match us, hl with | [_], _ => rfl
theorem okR_tuple_of {P : Program} {w : World} {K : PySem.W.Frag} {mg : Str → Option Value} {base : Heap} {f : Addr} {fd : FuncData} {C_CanNot : Addr} {C_Unfit : Addr} (Fn : FunD K "tuple_of" "tuple_of" (defArgs s_tuple_of) (defBody s_tuple_of) (defScope s_tuple_of) [] [] f fd) (hy : Hy K mg C_CanNot C_Unfit) (gf : mg "tuple_of" = some (.ref f)) : ∀ j, GFn P w K mg base "tuple_of" (j + 0) 1 (R_tuple_of j)
  | 0 => GFn.zero (ps := ["thing"]) rfl gf Fn.kp (bd_tuple_of Fn)
  | j + 1 => by
    have G_tuple_of := okR_tuple_of (P := P) (w := w) (base := base) Fn hy gf j
    refine GFn.mono (k := j + 0 + 1) (M := fun ds => (b_tuple_of (R_tuple_of j) (startP 2 ds)).fin) ?_ (by omega) fun ds => .inr rfl
    refine GFn.of_body (k := j + 0) (n := 1) (N := ["thing", "part"]) (ps := ["thing"]) Fn gf (bd_tuple_of Fn) sc_tuple_of rfl (g := b_tuple_of (R_tuple_of j)) fun cdv A outer s H E hr => ?_
    have nd := sc_tuple_of.nd
    exact (gss_cons (gs_if (gt_val (gv_isi2 (tn := "list") (tn2 := "tuple") (gv_name 0) rfl hy.n_isinstance rfl hy.n_list (by decide +kernel) rfl hy.n_tuple (by decide +kernel))) (gss_one (gs_ret (go_of (gv_callTy call_tuple_of (tuple_ok) rfl hy.n_tuple (by decide +kernel) (ga_cons (gv_of (go_lc [("part", 1)] rfl nd (gi_seq (gv_name 0)) (blkOk_by (N := ["thing", "part"]) (sc := defScope s_tuple_of) (own := [("part", 1)]) (by decide +kernel)) (fun _ _ _ _ _ => (gg_name 1 nd)) (fun _ _ _ _ _ => gts_nil) (fun _ _ _ _ _ => (gv_of (go_call G_tuple_of hr rfl takes0 (ga_cons (gv_name 1) ga_nil)))))) ga_nil))))) gss_nil)
    (gss_one (gs_ret (go_move 0))))
theorem ok_tuple_of {P : Program} {w : World} {K : PySem.W.Frag} {mg : Str → Option Value} {base : Heap} {f : Addr} {fd : FuncData} {C_CanNot : Addr} {C_Unfit : Addr} (Fn : FunD K "tuple_of" "tuple_of" (defArgs s_tuple_of) (defBody s_tuple_of) (defScope s_tuple_of) [] [] f fd) (hy : Hy K mg C_CanNot C_Unfit) (gf : mg "tuple_of" = some (.ref f)) : GFn P w K mg base "tuple_of" 40 1 M_tuple_of := okR_tuple_of Fn hy gf 40
/-! is_tuple_of -/
abbrev s_is_tuple_of : Stmt := top 7
theorem sc_is_tuple_of : FnScope ["thing", "many"] ["thing", "many"] (defScope s_is_tuple_of) := ⟨rfl, rfl, rfl, by decide +kernel, rfl, by decide +kernel, by decide +kernel⟩
noncomputable def b_is_tuple_of : PSt → Os :=
  (fRet (fun ps => ((fAndV (fIsi (isaD "tuple") (fN 0)) (fBin dEq (fLenS 0) (fN 1))) ps).map PV.val))
noncomputable def M_is_tuple_of : List PyData → FR := fun ds => (b_is_tuple_of (startP 2 ds)).fin
theorem bd_is_tuple_of {K : PySem.W.Frag} {f : Addr} {fd : FuncData} (Fn : FunD K "is_tuple_of" "is_tuple_of" (defArgs s_is_tuple_of) (defBody s_is_tuple_of) (defScope s_is_tuple_of) [] [] f fd) : Binds K fd ["thing", "many"] [] := Fn.bindsN fun _ _ _ _ _ _ us hl => match us, hl with | [_, _], _ => rfl
theorem ok_is_tuple_of {P : Program} {w : World} {K : PySem.W.Frag} {mg : Str → Option Value} {base : Heap} {f : Addr} {fd : FuncData} {C_CanNot : Addr} {C_Unfit : Addr} (Fn : FunD K "is_tuple_of" "is_tuple_of" (defArgs s_is_tuple_of) (defBody s_is_tuple_of) (defScope s_is_tuple_of) [] [] f fd) (hy : Hy K mg C_CanNot C_Unfit) (gf : mg "is_tuple_of" = some (.ref f)) : GFn P w K mg base "is_tuple_of" 1 2 M_is_tuple_of := by
  refine GFn.of_body (k := 0) (n := 2) (N := ["thing", "many"]) (ps := ["thing", "many"]) Fn gf (bd_is_tuple_of Fn) sc_is_tuple_of rfl (g := b_is_tuple_of) fun cdv A outer s H E hr => ?_
  have nd := sc_is_tuple_of.nd
  exact (gss_one (gs_ret (go_of (gv_and (gv_isi (tn := "tuple") (gv_name 0) rfl hy.n_isinstance rfl hy.n_tuple (by decide +kernel)) (gv_one (gv_cmp (op_eqD hr.units) eq_ok (gv_lenS 0 rfl hy.n_len) (gv_name 1)))))))
/-! is_below -/
abbrev s_is_below : Stmt := top 8
theorem sc_is_below : FnScope ["thing", "many"] ["thing", "many"] (defScope s_is_below) := ⟨rfl, rfl, rfl, by decide +kernel, rfl, by decide +kernel, by decide +kernel⟩
noncomputable def b_is_below : PSt → Os :=
  (fRet (fun ps => ((fAndV (fun ps => ((fCall 1 M_is_number (fCons (fN 0) (fun ps => .ok [] ps))) ps).map PV.data) (fChain dLe dLt (fK (.int 0)) (fN 0) (fN 1))) ps).map PV.val))
noncomputable def M_is_below : List PyData → FR := fun ds => (b_is_below (startP 2 ds)).fin
theorem bd_is_below {K : PySem.W.Frag} {f : Addr} {fd : FuncData} (Fn : FunD K "is_below" "is_below" (defArgs s_is_below) (defBody s_is_below) (defScope s_is_below) [] [] f fd) : Binds K fd ["thing", "many"] [] := Fn.bindsN fun _ _ _ _ _ _ us hl => match us, hl with | [_, _], _ => rfl
theorem ok_is_below {P : Program} {w : World} {K : PySem.W.Frag} {mg : Str → Option Value} {base : Heap} {f : Addr} {fd : FuncData} {C_CanNot : Addr} {C_Unfit : Addr} (Fn : FunD K "is_below" "is_below" (defArgs s_is_below) (defBody s_is_below) (defScope s_is_below) [] [] f fd) (hy : Hy K mg C_CanNot C_Unfit) (gf : mg "is_below" = some (.ref f)) (G_is_number : GFn P w K mg base "is_number" 1 1 M_is_number) : GFn P w K mg base "is_below" 2 2 M_is_below := by
  refine GFn.of_body (k := 1) (n := 2) (N := ["thing", "many"]) (ps := ["thing", "many"]) Fn gf (bd_is_below Fn) sc_is_below rfl (g := b_is_below) fun cdv A outer s H E hr => ?_
  have nd := sc_is_below.nd
  exact (gss_one (gs_ret (go_of (gv_and (gv_of (go_call G_is_number (hr.mono (by decide)) rfl (takes_of rfl rfl rfl rfl) (ga_cons (gv_name 0) ga_nil))) (gv_one (gv_chain op_le (op_ltD hr.units) le_ok lt_ok gv_int (gv_name 0) (gv_name 1)))))))
/-! is_within -/
abbrev s_is_within : Stmt := top 9
theorem sc_is_within : FnScope ["thing", "least", "most"] ["thing", "least", "most"] (defScope s_is_within) := ⟨rfl, rfl, rfl, by decide +kernel, rfl, by decide +kernel, by decide +kernel⟩
noncomputable def b_is_within : PSt → Os :=
  (fRet (fun ps => ((fAndV (fun ps => ((fCall 1 M_is_number (fCons (fN 0) (fun ps => .ok [] ps))) ps).map PV.data) (fChain dLe dLe (fN 1) (fN 0) (fN 2))) ps).map PV.val))
noncomputable def M_is_within : List PyData → FR := fun ds => (b_is_within (startP 3 ds)).fin
theorem bd_is_within {K : PySem.W.Frag} {f : Addr} {fd : FuncData} (Fn : FunD K "is_within" "is_within" (defArgs s_is_within) (defBody s_is_within) (defScope s_is_within) [] [] f fd) : Binds K fd ["thing", "least", "most"] [] := Fn.bindsN fun _ _ _ _ _ _ us hl => match us, hl with | [_, _, _], _ => rfl
theorem ok_is_within {P : Program} {w : World} {K : PySem.W.Frag} {mg : Str → Option Value} {base : Heap} {f : Addr} {fd : FuncData} {C_CanNot : Addr} {C_Unfit : Addr} (Fn : FunD K "is_within" "is_within" (defArgs s_is_within) (defBody s_is_within) (defScope s_is_within) [] [] f fd) (hy : Hy K mg C_CanNot C_Unfit) (gf : mg "is_within" = some (.ref f)) (G_is_number : GFn P w K mg base "is_number" 1 1 M_is_number) : GFn P w K mg base "is_within" 2 3 M_is_within := by
  refine GFn.of_body (k := 1) (n := 3) (N := ["thing", "least", "most"]) (ps := ["thing", "least", "most"]) Fn gf (bd_is_within Fn) sc_is_within rfl (g := b_is_within) fun cdv A outer s H E hr => ?_
  have nd := sc_is_within.nd
  exact (gss_one (gs_ret (go_of (gv_and (gv_of (go_call G_is_number (hr.mono (by decide)) rfl (takes_of rfl rfl rfl rfl) (ga_cons (gv_name 0) ga_nil))) (gv_one (gv_chain op_le op_le le_ok le_ok (gv_name 1) (gv_name 0) (gv_name 2)))))))
/-! is_set -/
abbrev s_is_set : Stmt := top 10
theorem sc_is_set : FnScope ["thing", "k"] ["thing"] (defScope s_is_set) := ⟨rfl, rfl, rfl, by decide +kernel, rfl, by decide +kernel, by decide +kernel⟩
noncomputable def b_is_set : PSt → Os :=
  (fRet (fun ps => ((fAndV (fIsi (isaD "tuple") (fN 0)) (fApp dAll (fCons (fun ps => ((fLc (fRange1 (fCons (fBin dSub (fLenS 0) (fK (.int 1))) (fun ps => .ok [] ps))) (uN 1) cYes (fBin dLt (fIxS 0 (fN 1)) (fIxS 0 (fBin dAdd (fN 1) (fK (.int 1))))) [1]) ps).map PV.data) (fun ps => .ok [] ps)))) ps).map PV.val))
noncomputable def M_is_set : List PyData → FR := fun ds => (b_is_set (startP 2 ds)).fin
theorem bd_is_set {K : PySem.W.Frag} {f : Addr} {fd : FuncData} (Fn : FunD K "is_set" "is_set" (defArgs s_is_set) (defBody s_is_set) (defScope s_is_set) [] [] f fd) : Binds K fd ["thing"] [] := Fn.bindsN fun _ _ _ _ _ _ us hl => match us, hl with | [_], _ => rfl
theorem ok_is_set {P : Program} {w : World} {K : PySem.W.Frag} {mg : Str → Option Value} {base : Heap} {f : Addr} {fd : FuncData} {C_CanNot : Addr} {C_Unfit : Addr} (Fn : FunD K "is_set" "is_set" (defArgs s_is_set) (defBody s_is_set) (defScope s_is_set) [] [] f fd) (hy : Hy K mg C_CanNot C_Unfit) (gf : mg "is_set" = some (.ref f)) : GFn P w K mg base "is_set" 1 1 M_is_set := by
  refine GFn.of_body (k := 0) (n := 1) (N := ["thing", "k"]) (ps := ["thing"]) Fn gf (bd_is_set Fn) sc_is_set rfl (g := b_is_set) fun cdv A outer s H E hr => ?_
  have nd := sc_is_set.nd
  exact (gss_one (gs_ret (go_of (gv_and (gv_isi (tn := "tuple") (gv_name 0) rfl hy.n_isinstance rfl hy.n_tuple (by decide +kernel)) (gv_one (gv_callB (cr_all rfl) all_ok rfl hy.n_all (by decide +kernel) (ga_cons (gv_of (go_lc [("k", 1)] rfl nd (gi_range1 rfl hy.n_range (ga_cons (gv_bin op_sub sub_ok (gv_lenS 0 rfl hy.n_len) gv_int) ga_nil)) (blkOk_by (N := ["thing", "k"]) (sc := defScope s_is_set) (own := [("k", 1)]) (by decide +kernel)) (fun _ _ _ _ _ => (gg_name 1 nd)) (fun _ _ _ _ _ => gts_nil) (fun _ _ _ _ _ => (gv_cmp (op_ltD hr.units) lt_ok (gv_ixS 0 (gv_name 1)) (gv_ixS 0 (gv_bin op_addD add_ok (gv_name 1) gv_int)))))) ga_nil)))))))
/-! sure -/
abbrev s_sure : Stmt := top 11
theorem sc_sure : FnScope ["good"] ["good"] (defScope s_sure) := ⟨rfl, rfl, rfl, by decide +kernel, rfl, by decide +kernel, by decide +kernel⟩
noncomputable def b_sure : PSt → Os :=
  (fIfS (fNot (fTest (fN 0))) (fun ps => .exc ⟨"Unfit", none⟩ ps) fSkip)
noncomputable def M_sure : List PyData → FR := fun ds => (b_sure (startP 1 ds)).fin
theorem bd_sure {K : PySem.W.Frag} {f : Addr} {fd : FuncData} (Fn : FunD K "sure" "sure" (defArgs s_sure) (defBody s_sure) (defScope s_sure) [] [] f fd) : Binds K fd ["good"] [] := Fn.bindsN fun _ _ _ _ _ _ us hl => match us, hl with | [_], _ => rfl
theorem ok_sure {P : Program} {w : World} {K : PySem.W.Frag} {mg : Str → Option Value} {base : Heap} {f : Addr} {fd : FuncData} {C_CanNot : Addr} {C_Unfit : Addr} (Fn : FunD K "sure" "sure" (defArgs s_sure) (defBody s_sure) (defScope s_sure) [] [] f fd) (hy : Hy K mg C_CanNot C_Unfit) (gf : mg "sure" = some (.ref f)) : GFn P w K mg base "sure" 1 1 M_sure := by
  refine GFn.of_body (k := 0) (n := 1) (N := ["good"]) (ps := ["good"]) Fn gf (bd_sure Fn) sc_sure rfl (g := b_sure) fun cdv A outer s H E hr => ?_
  have nd := sc_sure.nd
  exact (gss_one (gs_if (gt_not (gt_val (gv_name 0))) (gss_one (gs_raise0 hy.e_Unfit.g rfl (takes_of rfl rfl rfl rfl) (pmk_own0 PySem.F.excBase_ValueError hy.e_Unfit.x hy.e_Unfit.g hy.e_Unfit.k (raises_own hy.e_Unfit.s hy.e_Unfit.t) rfl))) gss_nil))
/-! sure_place -/
abbrev s_sure_place : Stmt := top 12
theorem sc_sure_place : FnScope ["place", "many"] ["place", "many"] (defScope s_sure_place) := ⟨rfl, rfl, rfl, by decide +kernel, rfl, by decide +kernel, by decide +kernel⟩
noncomputable def b_sure_place : PSt → Os :=
  (fSeq (fExpr (fun ps => ((fCall 1 M_sure (fCons (fun ps => ((fCall 1 M_is_number (fCons (fN 0) (fun ps => .ok [] ps))) ps).map PV.data) (fun ps => .ok [] ps))) ps).map PV.data))
  (fIfS (fNot (fTest (fChain dLe dLt (fK (.int 0)) (fN 0) (fN 1)))) (fun _ => .bad) fSkip))
noncomputable def M_sure_place : List PyData → FR := fun ds => (b_sure_place (startP 2 ds)).fin
theorem bd_sure_place {K : PySem.W.Frag} {f : Addr} {fd : FuncData} (Fn : FunD K "sure_place" "sure_place" (defArgs s_sure_place) (defBody s_sure_place) (defScope s_sure_place) [] [] f fd) : Binds K fd ["place", "many"] [] := Fn.bindsN fun _ _ _ _ _ _ us hl => match us, hl with | [_, _], _ => rfl
theorem ok_sure_place {P : Program} {w : World} {K : PySem.W.Frag} {mg : Str → Option Value} {base : Heap} {f : Addr} {fd : FuncData} {C_CanNot : Addr} {C_Unfit : Addr} (Fn : FunD K "sure_place" "sure_place" (defArgs s_sure_place) (defBody s_sure_place) (defScope s_sure_place) [] [] f fd) (hy : Hy K mg C_CanNot C_Unfit) (gf : mg "sure_place" = some (.ref f)) (G_is_number : GFn P w K mg base "is_number" 1 1 M_is_number) (G_sure : GFn P w K mg base "sure" 1 1 M_sure) : GFn P w K mg base "sure_place" 2 2 M_sure_place := by
  refine GFn.of_body (k := 1) (n := 2) (N := ["place", "many"]) (ps := ["place", "many"]) Fn gf (bd_sure_place Fn) sc_sure_place rfl (g := b_sure_place) fun cdv A outer s H E hr => ?_
  have nd := sc_sure_place.nd
  exact (gss_cons (gs_expr (gv_of (go_call G_sure (hr.mono (by decide)) rfl (takes_of rfl rfl rfl rfl) (ga_cons (gv_of (go_call G_is_number (hr.mono (by decide)) rfl (takes_of rfl rfl rfl rfl) (ga_cons (gv_name 0) ga_nil))) ga_nil))))
    (gss_one (gs_if (gt_not (gt_chain op_le (op_ltD hr.units) le_ok lt_ok gv_int (gv_name 0) (gv_name 1))) (gss_one gs_bad) gss_nil)))
/-! is_piece -/
abbrev s_is_piece : Stmt := top 15
theorem sc_is_piece : FnScope ["thing", "own"] ["thing"] (defScope s_is_piece) := ⟨rfl, rfl, rfl, by decide +kernel, rfl, by decide +kernel, by decide +kernel⟩
noncomputable def b_is_piece : PSt → Os :=
  (fRet (fun ps => ((fAndV (fIsi (isaD "tuple") (fN 0)) (fApp dAll (fCons (fun ps => ((fLc (fSeqI (fN 0)) (uN 1) cYes (fun ps => ((fCall 3 M_is_within (fCons (fN 1) (fCons (fK (.int 0)) (fCons (fBin dSub (fK (.int 10)) (fK (.int 1))) (fun ps => .ok [] ps))))) ps).map PV.data) [1]) ps).map PV.data) (fun ps => .ok [] ps)))) ps).map PV.val))
noncomputable def M_is_piece : List PyData → FR := fun ds => (b_is_piece (startP 2 ds)).fin
theorem bd_is_piece {K : PySem.W.Frag} {f : Addr} {fd : FuncData} (Fn : FunD K "is_piece" "is_piece" (defArgs s_is_piece) (defBody s_is_piece) (defScope s_is_piece) [] [] f fd) : Binds K fd ["thing"] [] := Fn.bindsN fun _ _ _ _ _ _ us hl => match us, hl with | [_], _ => rfl
theorem ok_is_piece {P : Program} {w : World} {K : PySem.W.Frag} {mg : Str → Option Value} {base : Heap} {f : Addr} {fd : FuncData} {C_CanNot : Addr} {C_Unfit : Addr} (Fn : FunD K "is_piece" "is_piece" (defArgs s_is_piece) (defBody s_is_piece) (defScope s_is_piece) [] [] f fd) (hy : Hy K mg C_CanNot C_Unfit) (gf : mg "is_piece" = some (.ref f)) (G_is_within : GFn P w K mg base "is_within" 2 3 M_is_within) : GFn P w K mg base "is_piece" 3 1 M_is_piece := by
  refine GFn.of_body (k := 2) (n := 1) (N := ["thing", "own"]) (ps := ["thing"]) Fn gf (bd_is_piece Fn) sc_is_piece rfl (g := b_is_piece) fun cdv A outer s H E hr => ?_
  have nd := sc_is_piece.nd
  exact (gss_one (gs_ret (go_of (gv_and (gv_isi (tn := "tuple") (gv_name 0) rfl hy.n_isinstance rfl hy.n_tuple (by decide +kernel)) (gv_one (gv_callB (cr_all rfl) all_ok rfl hy.n_all (by decide +kernel) (ga_cons (gv_of (go_lc [("own", 1)] rfl nd (gi_seq (gv_name 0)) (blkOk_by (N := ["thing", "own"]) (sc := defScope s_is_piece) (own := [("own", 1)]) (by decide +kernel)) (fun _ _ _ _ _ => (gg_name 1 nd)) (fun _ _ _ _ _ => gts_nil) (fun _ _ _ _ _ => (gv_of (go_call G_is_within (hr.mono (by decide)) rfl takes0 (ga_cons (gv_name 1) (ga_cons gv_int (ga_cons (gv_bin op_sub sub_ok (gv_gint rfl hy.c_SIGNS.choose_spec) gv_int) ga_nil)))))))) ga_nil)))))))
/-! is_text -/
abbrev s_is_text : Stmt := top 18
theorem sc_is_text : FnScope ["wide", "thing", "own"] ["wide", "thing"] (defScope s_is_text) := ⟨rfl, rfl, rfl, by decide +kernel, rfl, by decide +kernel, by decide +kernel⟩
noncomputable def b_is_text : PSt → Os :=
  (fRet (fun ps => ((fAndV (fIsi (isaD "tuple") (fN 1)) (fApp dAll (fCons (fun ps => ((fLc (fSeqI (fN 1)) (uN 2) cYes (fun ps => ((fCall 3 M_is_within (fCons (fN 2) (fCons (fK (.int 1)) (fCons (fN 0) (fun ps => .ok [] ps))))) ps).map PV.data) [2]) ps).map PV.data) (fun ps => .ok [] ps)))) ps).map PV.val))
noncomputable def M_is_text : List PyData → FR := fun ds => (b_is_text (startP 3 ds)).fin
theorem bd_is_text {K : PySem.W.Frag} {f : Addr} {fd : FuncData} (Fn : FunD K "is_text" "is_text" (defArgs s_is_text) (defBody s_is_text) (defScope s_is_text) [] [] f fd) : Binds K fd ["wide", "thing"] [] := Fn.bindsN fun _ _ _ _ _ _ us hl => match us, hl with | [_, _], _ => rfl
theorem ok_is_text {P : Program} {w : World} {K : PySem.W.Frag} {mg : Str → Option Value} {base : Heap} {f : Addr} {fd : FuncData} {C_CanNot : Addr} {C_Unfit : Addr} (Fn : FunD K "is_text" "is_text" (defArgs s_is_text) (defBody s_is_text) (defScope s_is_text) [] [] f fd) (hy : Hy K mg C_CanNot C_Unfit) (gf : mg "is_text" = some (.ref f)) (G_is_within : GFn P w K mg base "is_within" 2 3 M_is_within) : GFn P w K mg base "is_text" 3 2 M_is_text := by
  refine GFn.of_body (k := 2) (n := 2) (N := ["wide", "thing", "own"]) (ps := ["wide", "thing"]) Fn gf (bd_is_text Fn) sc_is_text rfl (g := b_is_text) fun cdv A outer s H E hr => ?_
  have nd := sc_is_text.nd
  exact (gss_one (gs_ret (go_of (gv_and (gv_isi (tn := "tuple") (gv_name 1) rfl hy.n_isinstance rfl hy.n_tuple (by decide +kernel)) (gv_one (gv_callB (cr_all rfl) all_ok rfl hy.n_all (by decide +kernel) (ga_cons (gv_of (go_lc [("own", 2)] rfl nd (gi_seq (gv_name 1)) (blkOk_by (N := ["wide", "thing", "own"]) (sc := defScope s_is_text) (own := [("own", 2)]) (by decide +kernel)) (fun _ _ _ _ _ => (gg_name 2 nd)) (fun _ _ _ _ _ => gts_nil) (fun _ _ _ _ _ => (gv_of (go_call G_is_within (hr.mono (by decide)) rfl takes0 (ga_cons (gv_name 2) (ga_cons gv_int (ga_cons (gv_name 0) ga_nil)))))))) ga_nil)))))))
/-! sure_text -/
abbrev s_sure_text : Stmt := top 19
theorem sc_sure_text : FnScope ["wide", "text", "own"] ["wide", "text"] (defScope s_sure_text) := ⟨rfl, rfl, rfl, by decide +kernel, rfl, by decide +kernel, by decide +kernel⟩
noncomputable def b_sure_text : PSt → Os :=
  (fSeq (fSet 2 (fCall 1 M_tuple_of (fCons (fN 1) (fun ps => .ok [] ps))))
  (fSeq (fExpr (fun ps => ((fCall 1 M_sure (fCons (fun ps => ((fCall 2 M_is_text (fCons (fN 0) (fCons (fN 2) (fun ps => .ok [] ps)))) ps).map PV.data) (fun ps => .ok [] ps))) ps).map PV.data))
  (fRet (fMv 2))))
noncomputable def M_sure_text : List PyData → FR := fun ds => (b_sure_text (startP 3 ds)).fin
theorem bd_sure_text {K : PySem.W.Frag} {f : Addr} {fd : FuncData} (Fn : FunD K "sure_text" "sure_text" (defArgs s_sure_text) (defBody s_sure_text) (defScope s_sure_text) [] [] f fd) : Binds K fd ["wide", "text"] [] := Fn.bindsN fun _ _ _ _ _ _ us hl => match us, hl with | [_, _], _ => rfl
theorem ok_sure_text {P : Program} {w : World} {K : PySem.W.Frag} {mg : Str → Option Value} {base : Heap} {f : Addr} {fd : FuncData} {C_CanNot : Addr} {C_Unfit : Addr} (Fn : FunD K "sure_text" "sure_text" (defArgs s_sure_text) (defBody s_sure_text) (defScope s_sure_text) [] [] f fd) (hy : Hy K mg C_CanNot C_Unfit) (gf : mg "sure_text" = some (.ref f)) (G_tuple_of : GFn P w K mg base "tuple_of" 40 1 M_tuple_of) (G_sure : GFn P w K mg base "sure" 1 1 M_sure) (G_is_text : GFn P w K mg base "is_text" 3 2 M_is_text) : GFn P w K mg base "sure_text" 41 2 M_sure_text := by
  refine GFn.of_body (k := 40) (n := 2) (N := ["wide", "text", "own"]) (ps := ["wide", "text"]) Fn gf (bd_sure_text Fn) sc_sure_text rfl (g := b_sure_text) fun cdv A outer s H E hr => ?_
  have nd := sc_sure_text.nd
  exact (gss_cons (gs_set 2 (go_call G_tuple_of (hr.mono (by decide)) rfl (takes_of rfl rfl rfl rfl) (ga_cons (gv_name 1) ga_nil)) nd)
    (gss_cons (gs_expr (gv_of (go_call G_sure (hr.mono (by decide)) rfl (takes_of rfl rfl rfl rfl) (ga_cons (gv_of (go_call G_is_text (hr.mono (by decide)) rfl (takes_of rfl rfl rfl rfl) (ga_cons (gv_name 0) (ga_cons (gv_name 2) ga_nil)))) ga_nil))))
    (gss_one (gs_ret (go_move 2)))))
/-! is_move -/
abbrev s_is_move : Stmt := top 21
theorem sc_is_move : FnScope ["thing", "many"] ["thing", "many"] (defScope s_is_move) := ⟨rfl, rfl, rfl, by decide +kernel, rfl, by decide +kernel, by decide +kernel⟩
noncomputable def b_is_move : PSt → Os :=
  (fRet (fun ps => ((fAndV (fun ps => ((fCall 2 M_is_tuple_of (fCons (fN 0) (fCons (fK (.int 2)) (fun ps => .ok [] ps)))) ps).map PV.data) (fAndV (fun ps => ((fCall 2 M_is_below (fCons (fIxS 0 (fK (.int 0))) (fCons (fN 1) (fun ps => .ok [] ps)))) ps).map PV.data) (fun ps => ((fCall 1 M_is_piece (fCons (fIxS 0 (fK (.int 1))) (fun ps => .ok [] ps))) ps).map PV.data))) ps).map PV.val))
noncomputable def M_is_move : List PyData → FR := fun ds => (b_is_move (startP 2 ds)).fin
theorem bd_is_move {K : PySem.W.Frag} {f : Addr} {fd : FuncData} (Fn : FunD K "is_move" "is_move" (defArgs s_is_move) (defBody s_is_move) (defScope s_is_move) [] [] f fd) : Binds K fd ["thing", "many"] [] := Fn.bindsN fun _ _ _ _ _ _ us hl => match us, hl with | [_, _], _ => rfl
theorem ok_is_move {P : Program} {w : World} {K : PySem.W.Frag} {mg : Str → Option Value} {base : Heap} {f : Addr} {fd : FuncData} {C_CanNot : Addr} {C_Unfit : Addr} (Fn : FunD K "is_move" "is_move" (defArgs s_is_move) (defBody s_is_move) (defScope s_is_move) [] [] f fd) (hy : Hy K mg C_CanNot C_Unfit) (gf : mg "is_move" = some (.ref f)) (G_is_tuple_of : GFn P w K mg base "is_tuple_of" 1 2 M_is_tuple_of) (G_is_below : GFn P w K mg base "is_below" 2 2 M_is_below) (G_is_piece : GFn P w K mg base "is_piece" 3 1 M_is_piece) : GFn P w K mg base "is_move" 4 2 M_is_move := by
  refine GFn.of_body (k := 3) (n := 2) (N := ["thing", "many"]) (ps := ["thing", "many"]) Fn gf (bd_is_move Fn) sc_is_move rfl (g := b_is_move) fun cdv A outer s H E hr => ?_
  have nd := sc_is_move.nd
  exact (gss_one (gs_ret (go_of (gv_and (gv_of (go_call G_is_tuple_of (hr.mono (by decide)) rfl (takes_of rfl rfl rfl rfl) (ga_cons (gv_name 0) (ga_cons gv_int ga_nil)))) (gv_and (gv_of (go_call G_is_below (hr.mono (by decide)) rfl (takes_of rfl rfl rfl rfl) (ga_cons (gv_ixS 0 gv_int) (ga_cons (gv_name 1) ga_nil)))) (gv_one (gv_of (go_call G_is_piece (hr.mono (by decide)) rfl (takes_of rfl rfl rfl rfl) (ga_cons (gv_ixS 0 gv_int) ga_nil)))))))))
/-! is_row -/
abbrev s_is_row : Stmt := top 22
theorem sc_is_row : FnScope ["thing", "states", "many", "own"] ["thing", "states", "many"] (defScope s_is_row) := ⟨rfl, rfl, rfl, by decide +kernel, rfl, by decide +kernel, by decide +kernel⟩
noncomputable def b_is_row : PSt → Os :=
  (fSeq (fIfS (fOr (fNot (fTest (fun ps => ((fCall 2 M_is_tuple_of (fCons (fN 0) (fCons (fK (.int 2)) (fun ps => .ok [] ps)))) ps).map PV.data))) (fNot (fTest (fun ps => ((fCall 2 M_is_below (fCons (fIxS 0 (fK (.int 0))) (fCons (fN 1) (fun ps => .ok [] ps)))) ps).map PV.data)))) (fRet (fun ps => ((fK (.bool false)) ps).map PV.val)) fSkip)
  (fRet (fun ps => ((fAndV (fun ps => ((fCall 2 M_is_tuple_of (fCons (fIxS 0 (fK (.int 1))) (fCons (fN 2) (fun ps => .ok [] ps)))) ps).map PV.data) (fApp dAll (fCons (fun ps => ((fLc (fSeqI (fIxS 0 (fK (.int 1)))) (uN 3) cYes (fun ps => ((fCall 2 M_is_move (fCons (fN 3) (fCons (fN 2) (fun ps => .ok [] ps)))) ps).map PV.data) [3]) ps).map PV.data) (fun ps => .ok [] ps)))) ps).map PV.val)))
noncomputable def M_is_row : List PyData → FR := fun ds => (b_is_row (startP 4 ds)).fin
theorem bd_is_row {K : PySem.W.Frag} {f : Addr} {fd : FuncData} (Fn : FunD K "is_row" "is_row" (defArgs s_is_row) (defBody s_is_row) (defScope s_is_row) [] [] f fd) : Binds K fd ["thing", "states", "many"] [] := Fn.bindsN fun _ _ _ _ _ _ us hl => match us, hl with | [_, _, _], _ => rfl
theorem ok_is_row {P : Program} {w : World} {K : PySem.W.Frag} {mg : Str → Option Value} {base : Heap} {f : Addr} {fd : FuncData} {C_CanNot : Addr} {C_Unfit : Addr} (Fn : FunD K "is_row" "is_row" (defArgs s_is_row) (defBody s_is_row) (defScope s_is_row) [] [] f fd) (hy : Hy K mg C_CanNot C_Unfit) (gf : mg "is_row" = some (.ref f)) (G_is_tuple_of : GFn P w K mg base "is_tuple_of" 1 2 M_is_tuple_of) (G_is_below : GFn P w K mg base "is_below" 2 2 M_is_below) (G_is_move : GFn P w K mg base "is_move" 4 2 M_is_move) : GFn P w K mg base "is_row" 5 3 M_is_row := by
  refine GFn.of_body (k := 4) (n := 3) (N := ["thing", "states", "many", "own"]) (ps := ["thing", "states", "many"]) Fn gf (bd_is_row Fn) sc_is_row rfl (g := b_is_row) fun cdv A outer s H E hr => ?_
  have nd := sc_is_row.nd
  exact (gss_cons (gs_if (gt_w (gw_or (gt_not (gt_val (gv_of (go_call G_is_tuple_of (hr.mono (by decide)) rfl (takes_of rfl rfl rfl rfl) (ga_cons (gv_name 0) (ga_cons gv_int ga_nil)))))) (gw_or1 (gt_not (gt_val (gv_of (go_call G_is_below (hr.mono (by decide)) rfl (takes_of rfl rfl rfl rfl) (ga_cons (gv_ixS 0 gv_int) (ga_cons (gv_name 1) ga_nil))))))))) (gss_one (gs_ret (go_of gv_bl))) gss_nil)
    (gss_one (gs_ret (go_of (gv_and (gv_of (go_call G_is_tuple_of (hr.mono (by decide)) rfl (takes_of rfl rfl rfl rfl) (ga_cons (gv_ixS 0 gv_int) (ga_cons (gv_name 2) ga_nil)))) (gv_one (gv_callB (cr_all rfl) all_ok rfl hy.n_all (by decide +kernel) (ga_cons (gv_of (go_lc [("own", 3)] rfl nd (gi_seq (gv_ixS 0 gv_int)) (blkOk_by (N := ["thing", "states", "many", "own"]) (sc := defScope s_is_row) (own := [("own", 3)]) (by decide +kernel)) (fun _ _ _ _ _ => (gg_name 3 nd)) (fun _ _ _ _ _ => gts_nil) (fun _ _ _ _ _ => (gv_of (go_call G_is_move (hr.mono (by decide)) rfl takes0 (ga_cons (gv_name 3) (ga_cons (gv_name 2) ga_nil))))))) ga_nil))))))))
/-! are_ends -/
abbrev s_are_ends : Stmt := top 23
theorem sc_are_ends : FnScope ["thing", "many", "own"] ["thing", "many"] (defScope s_are_ends) := ⟨rfl, rfl, rfl, by decide +kernel, rfl, by decide +kernel, by decide +kernel⟩
noncomputable def b_are_ends : PSt → Os :=
  (fRet (fun ps => ((fAndV (fIsi (isaD "tuple") (fN 0)) (fAndV (fApp dAll (fCons (fun ps => ((fLc (fSeqI (fN 0)) (uN 2) cYes (fun ps => ((fCall 2 M_is_move (fCons (fN 2) (fCons (fN 1) (fun ps => .ok [] ps)))) ps).map PV.data) [2]) ps).map PV.data) (fun ps => .ok [] ps))) (fun ps => ((fCall 1 M_is_set (fCons (fN 0) (fun ps => .ok [] ps))) ps).map PV.data))) ps).map PV.val))
noncomputable def M_are_ends : List PyData → FR := fun ds => (b_are_ends (startP 3 ds)).fin
theorem bd_are_ends {K : PySem.W.Frag} {f : Addr} {fd : FuncData} (Fn : FunD K "are_ends" "are_ends" (defArgs s_are_ends) (defBody s_are_ends) (defScope s_are_ends) [] [] f fd) : Binds K fd ["thing", "many"] [] := Fn.bindsN fun _ _ _ _ _ _ us hl => match us, hl with | [_, _], _ => rfl
theorem ok_are_ends {P : Program} {w : World} {K : PySem.W.Frag} {mg : Str → Option Value} {base : Heap} {f : Addr} {fd : FuncData} {C_CanNot : Addr} {C_Unfit : Addr} (Fn : FunD K "are_ends" "are_ends" (defArgs s_are_ends) (defBody s_are_ends) (defScope s_are_ends) [] [] f fd) (hy : Hy K mg C_CanNot C_Unfit) (gf : mg "are_ends" = some (.ref f)) (G_is_set : GFn P w K mg base "is_set" 1 1 M_is_set) (G_is_move : GFn P w K mg base "is_move" 4 2 M_is_move) : GFn P w K mg base "are_ends" 5 2 M_are_ends := by
  refine GFn.of_body (k := 4) (n := 2) (N := ["thing", "many", "own"]) (ps := ["thing", "many"]) Fn gf (bd_are_ends Fn) sc_are_ends rfl (g := b_are_ends) fun cdv A outer s H E hr => ?_
  have nd := sc_are_ends.nd
  exact (gss_one (gs_ret (go_of (gv_and (gv_isi (tn := "tuple") (gv_name 0) rfl hy.n_isinstance rfl hy.n_tuple (by decide +kernel)) (gv_and (gv_callB (cr_all rfl) all_ok rfl hy.n_all (by decide +kernel) (ga_cons (gv_of (go_lc [("own", 2)] rfl nd (gi_seq (gv_name 0)) (blkOk_by (N := ["thing", "many", "own"]) (sc := defScope s_are_ends) (own := [("own", 2)]) (by decide +kernel)) (fun _ _ _ _ _ => (gg_name 2 nd)) (fun _ _ _ _ _ => gts_nil) (fun _ _ _ _ _ => (gv_of (go_call G_is_move (hr.mono (by decide)) rfl takes0 (ga_cons (gv_name 2) (ga_cons (gv_name 1) ga_nil))))))) ga_nil)) (gv_one (gv_of (go_call G_is_set (hr.mono (by decide)) rfl (takes_of rfl rfl rfl rfl) (ga_cons (gv_name 0) ga_nil)))))))))
/-! is_pens -/
abbrev s_is_pens : Stmt := top 24
theorem sc_is_pens : FnScope ["thing", "rows", "ends", "states", "many", "state", "sheets", "row", "own"] ["thing"] (defScope s_is_pens) := ⟨rfl, rfl, rfl, by decide +kernel, rfl, by decide +kernel, by decide +kernel⟩
noncomputable def b_is_pens : PSt → Os :=
  (fSeq (fIfS (fOr (fNot (fTest (fun ps => ((fCall 2 M_is_tuple_of (fCons (fN 0) (fCons (fK (.int 3)) (fun ps => .ok [] ps)))) ps).map PV.data))) (fOr (fNot (fTest (fun ps => ((fCall 2 M_is_tuple_of (fCons (fIxS 0 (fK (.int 0))) (fCons (fK (.int 2)) (fun ps => .ok [] ps)))) ps).map PV.data))) (fOr (fNot (fTest (fIsi (isaD "tuple") (fIxS 0 (fK (.int 1)))))) (fTest (fBin dEq (fIxS 0 (fK (.int 1))) (fTup (fun ps => .ok [] ps))))))) (fRet (fun ps => ((fK (.bool false)) ps).map PV.val)) fSkip)
  (fSeq (fAsg (uTup 3 (uCons (uTup 2 (uCons (uN 5) (uCons (uN 6) uNil))) (uCons (uN 1) (uCons (uN 2) uNil)))) (fN 0))
  (fSeq (fIfS (fOr (fNot (fTest (fIsi (isaD "tuple") (fN 6)))) (fOr (fTest (fBinS dEq 6 (fTup (fun ps => .ok [] ps)))) (fNot (fTest (fApp dAll (fCons (fun ps => ((fLc (fSeqI (fN 6)) (uN 8) cYes (fun ps => ((fCall 1 M_is_piece (fCons (fN 8) (fun ps => .ok [] ps))) ps).map PV.data) [8]) ps).map PV.data) (fun ps => .ok [] ps))))))) (fRet (fun ps => ((fK (.bool false)) ps).map PV.val)) fSkip)
  (fSeq (fPar 3 4 (fun ps => ((fLenS 1) ps).map PV.val) (fun ps => ((fLenS 6) ps).map PV.val))
  (fSeq (fIfS (fOr (fNot (fTest (fun ps => ((fCall 2 M_is_below (fCons (fN 5) (fCons (fN 3) (fun ps => .ok [] ps)))) ps).map PV.data))) (fOr (fNot (fTest (fIsi (isaD "tuple") (fIxS 1 (fK (.int 0)))))) (fNot (fTest (fun ps => ((fCall 3 M_is_within (fCons (fApp dLen (fCons (fIxS 1 (fK (.int 0))) (fun ps => .ok [] ps))) (fCons (fK (.int 1)) (fCons (fK (.int 3)) (fun ps => .ok [] ps))))) ps).map PV.data))))) (fRet (fun ps => ((fK (.bool false)) ps).map PV.val)) fSkip)
  (fSeq (fIfS (fNot (fTest (fApp dAll (fCons (fun ps => ((fLc (fSeqI (fN 1)) (uN 7) cYes (fAndV (fun ps => ((fCall 2 M_is_tuple_of (fCons (fN 7) (fCons (fApp dLen (fCons (fIxS 1 (fK (.int 0))) (fun ps => .ok [] ps))) (fun ps => .ok [] ps)))) ps).map PV.data) (fApp dAll (fCons (fun ps => ((fLc (fSeqI (fN 7)) (uN 8) cYes (fun ps => ((fCall 3 M_is_row (fCons (fN 8) (fCons (fN 3) (fCons (fN 4) (fun ps => .ok [] ps))))) ps).map PV.data) [8]) ps).map PV.data) (fun ps => .ok [] ps)))) [7]) ps).map PV.data) (fun ps => .ok [] ps))))) (fRet (fun ps => ((fK (.bool false)) ps).map PV.val)) fSkip)
  (fRet (fun ps => ((fAndV (fun ps => ((fCall 2 M_is_tuple_of (fCons (fN 2) (fCons (fN 3) (fun ps => .ok [] ps)))) ps).map PV.data) (fApp dAll (fCons (fun ps => ((fLc (fSeqI (fN 2)) (uN 8) cYes (fun ps => ((fCall 2 M_are_ends (fCons (fN 8) (fCons (fN 4) (fun ps => .ok [] ps)))) ps).map PV.data) [8]) ps).map PV.data) (fun ps => .ok [] ps)))) ps).map PV.val))))))))
noncomputable def M_is_pens : List PyData → FR := fun ds => (b_is_pens (startP 9 ds)).fin
theorem bd_is_pens {K : PySem.W.Frag} {f : Addr} {fd : FuncData} (Fn : FunD K "is_pens" "is_pens" (defArgs s_is_pens) (defBody s_is_pens) (defScope s_is_pens) [] [] f fd) : Binds K fd ["thing"] [] := Fn.bindsN fun _ _ _ _ _ _ us hl => match us, hl with | [_], _ => rfl
theorem ok_is_pens {P : Program} {w : World} {K : PySem.W.Frag} {mg : Str → Option Value} {base : Heap} {f : Addr} {fd : FuncData} {C_CanNot : Addr} {C_Unfit : Addr} (Fn : FunD K "is_pens" "is_pens" (defArgs s_is_pens) (defBody s_is_pens) (defScope s_is_pens) [] [] f fd) (hy : Hy K mg C_CanNot C_Unfit) (gf : mg "is_pens" = some (.ref f)) (G_is_tuple_of : GFn P w K mg base "is_tuple_of" 1 2 M_is_tuple_of) (G_is_below : GFn P w K mg base "is_below" 2 2 M_is_below) (G_is_within : GFn P w K mg base "is_within" 2 3 M_is_within) (G_is_piece : GFn P w K mg base "is_piece" 3 1 M_is_piece) (G_is_row : GFn P w K mg base "is_row" 5 3 M_is_row) (G_are_ends : GFn P w K mg base "are_ends" 5 2 M_are_ends) : GFn P w K mg base "is_pens" 6 1 M_is_pens := by
  refine GFn.of_body (k := 5) (n := 1) (N := ["thing", "rows", "ends", "states", "many", "state", "sheets", "row", "own"]) (ps := ["thing"]) Fn gf (bd_is_pens Fn) sc_is_pens rfl (g := b_is_pens) fun cdv A outer s H E hr => ?_
  have nd := sc_is_pens.nd
  exact (gss_cons (gs_if (gt_w (gw_or (gt_not (gt_val (gv_of (go_call G_is_tuple_of (hr.mono (by decide)) rfl (takes_of rfl rfl rfl rfl) (ga_cons (gv_name 0) (ga_cons gv_int ga_nil)))))) (gw_or (gt_not (gt_val (gv_of (go_call G_is_tuple_of (hr.mono (by decide)) rfl (takes_of rfl rfl rfl rfl) (ga_cons (gv_ixS 0 gv_int) (ga_cons gv_int ga_nil)))))) (gw_or (gt_not (gt_val (gv_isi (tn := "tuple") (gv_ixS 0 gv_int) rfl hy.n_isinstance rfl hy.n_tuple (by decide +kernel)))) (gw_or1 (gt_cmp (op_eqD hr.units) eq_ok (gv_ixS 0 gv_int) (gv_tup ga_nil))))))) (gss_one (gs_ret (go_of gv_bl))) gss_nil)
    (gss_cons (gs_asg (gv_name 0) (gg_tup rfl (ggs_cons (gg_tup rfl (ggs_cons (gg_name 5 nd) (ggs_cons (gg_name 6 nd) ggs_nil))) (ggs_cons (gg_name 1 nd) (ggs_cons (gg_name 2 nd) ggs_nil)))))
    (gss_cons (gs_if (gt_w (gw_or (gt_not (gt_val (gv_isi (tn := "tuple") (gv_name 6) rfl hy.n_isinstance rfl hy.n_tuple (by decide +kernel)))) (gw_or (gt_cmpS 6 (op_eqD hr.units) eq_ok bool_dEq (gv_tup ga_nil)) (gw_or1 (gt_not (gt_val (gv_callB (cr_all rfl) all_ok rfl hy.n_all (by decide +kernel) (ga_cons (gv_of (go_lc [("own", 8)] rfl nd (gi_seq (gv_name 6)) (blkOk_by (N := ["thing", "rows", "ends", "states", "many", "state", "sheets", "row", "own"]) (sc := defScope s_is_pens) (own := [("own", 8)]) (by decide +kernel)) (fun _ _ _ _ _ => (gg_name 8 nd)) (fun _ _ _ _ _ => gts_nil) (fun _ _ _ _ _ => (gv_of (go_call G_is_piece (hr.mono (by decide)) rfl takes0 (ga_cons (gv_name 8) ga_nil)))))) ga_nil)))))))) (gss_one (gs_ret (go_of gv_bl))) gss_nil)
    (gss_cons (gs_par2 3 4 (go_of (gv_lenS 1 rfl hy.n_len)) (go_of (gv_lenS 6 rfl hy.n_len)) rfl nd)
    (gss_cons (gs_if (gt_w (gw_or (gt_not (gt_val (gv_of (go_call G_is_below (hr.mono (by decide)) rfl (takes_of rfl rfl rfl rfl) (ga_cons (gv_name 5) (ga_cons (gv_name 3) ga_nil)))))) (gw_or (gt_not (gt_val (gv_isi (tn := "tuple") (gv_ixS 1 gv_int) rfl hy.n_isinstance rfl hy.n_tuple (by decide +kernel)))) (gw_or1 (gt_not (gt_val (gv_of (go_call G_is_within (hr.mono (by decide)) rfl (takes_of rfl rfl rfl rfl) (ga_cons (gv_callB call_len_seq (len_ok) rfl hy.n_len (by decide +kernel) (ga_cons (gv_ixS 1 gv_int) ga_nil)) (ga_cons gv_int (ga_cons (gv_gint rfl hy.c_MOST_WIDE.choose_spec) ga_nil))))))))))) (gss_one (gs_ret (go_of gv_bl))) gss_nil)
    (gss_cons (gs_if (gt_not (gt_val (gv_callB (cr_all rfl) all_ok rfl hy.n_all (by decide +kernel) (ga_cons (gv_of (go_lc [("row", 7)] rfl nd (gi_seq (gv_name 1)) (blkOk_by (N := ["thing", "rows", "ends", "states", "many", "state", "sheets", "row", "own"]) (sc := defScope s_is_pens) (own := [("row", 7)]) (by decide +kernel)) (fun _ _ _ _ _ => (gg_name 7 nd)) (fun _ _ _ _ _ => gts_nil) (fun _ _ _ _ _ => (gv_and (gv_of (go_call G_is_tuple_of (hr.mono (by decide)) rfl takes0 (ga_cons (gv_name 7) (ga_cons (gv_callB call_len_seq (len_ok) rfl hy.n_len (by decide +kernel) (ga_cons (gv_ixS 1 gv_int) ga_nil)) ga_nil)))) (gv_one (gv_callB (cr_all rfl) all_ok rfl hy.n_all (by decide +kernel) (ga_cons (gv_of (go_lc [("own", 8)] rfl nd (gi_seq (gv_name 7)) (blkOk_by (N := ["thing", "rows", "ends", "states", "many", "state", "sheets", "row", "own"]) (sc := { kind := .function, names := [(".0", .local), ("row", .local), ("is_tuple_of", .globalImplicit), ("len", .globalImplicit), ("all", .globalImplicit), ("many", .cell), ("rows", .cell), ("states", .cell)], isGenerator := false, isCoroutine := false }) (own := [("own", 8)]) (by decide +kernel)) (fun _ _ _ _ _ => (gg_name 8 nd)) (fun _ _ _ _ _ => gts_nil) (fun _ _ _ _ _ => (gv_of (go_call G_is_row (hr.mono (by decide)) rfl takes0 (ga_cons (gv_name 8) (ga_cons (gv_name 3) (ga_cons (gv_name 4) ga_nil)))))))) ga_nil))))))) ga_nil)))) (gss_one (gs_ret (go_of gv_bl))) gss_nil)
    (gss_one (gs_ret (go_of (gv_and (gv_of (go_call G_is_tuple_of (hr.mono (by decide)) rfl (takes_of rfl rfl rfl rfl) (ga_cons (gv_name 2) (ga_cons (gv_name 3) ga_nil)))) (gv_one (gv_callB (cr_all rfl) all_ok rfl hy.n_all (by decide +kernel) (ga_cons (gv_of (go_lc [("own", 8)] rfl nd (gi_seq (gv_name 2)) (blkOk_by (N := ["thing", "rows", "ends", "states", "many", "state", "sheets", "row", "own"]) (sc := defScope s_is_pens) (own := [("own", 8)]) (by decide +kernel)) (fun _ _ _ _ _ => (gg_name 8 nd)) (fun _ _ _ _ _ => gts_nil) (fun _ _ _ _ _ => (gv_of (go_call G_are_ends (hr.mono (by decide)) rfl takes0 (ga_cons (gv_name 8) (ga_cons (gv_name 4) ga_nil))))))) ga_nil)))))))))))))
/-! sure_pens -/
abbrev s_sure_pens : Stmt := top 25
theorem sc_sure_pens : FnScope ["pens", "own"] ["pens"] (defScope s_sure_pens) := ⟨rfl, rfl, rfl, by decide +kernel, rfl, by decide +kernel, by decide +kernel⟩
noncomputable def b_sure_pens : PSt → Os :=
  (fSeq (fSet 1 (fCall 1 M_tuple_of (fCons (fN 0) (fun ps => .ok [] ps))))
  (fSeq (fExpr (fun ps => ((fCall 1 M_sure (fCons (fun ps => ((fCall 1 M_is_pens (fCons (fN 1) (fun ps => .ok [] ps))) ps).map PV.data) (fun ps => .ok [] ps))) ps).map PV.data))
  (fRet (fMv 1))))
noncomputable def M_sure_pens : List PyData → FR := fun ds => (b_sure_pens (startP 2 ds)).fin
theorem bd_sure_pens {K : PySem.W.Frag} {f : Addr} {fd : FuncData} (Fn : FunD K "sure_pens" "sure_pens" (defArgs s_sure_pens) (defBody s_sure_pens) (defScope s_sure_pens) [] [] f fd) : Binds K fd ["pens"] [] := Fn.bindsN fun _ _ _ _ _ _ us hl => match us, hl with | [_], _ => rfl
theorem ok_sure_pens {P : Program} {w : World} {K : PySem.W.Frag} {mg : Str → Option Value} {base : Heap} {f : Addr} {fd : FuncData} {C_CanNot : Addr} {C_Unfit : Addr} (Fn : FunD K "sure_pens" "sure_pens" (defArgs s_sure_pens) (defBody s_sure_pens) (defScope s_sure_pens) [] [] f fd) (hy : Hy K mg C_CanNot C_Unfit) (gf : mg "sure_pens" = some (.ref f)) (G_tuple_of : GFn P w K mg base "tuple_of" 40 1 M_tuple_of) (G_sure : GFn P w K mg base "sure" 1 1 M_sure) (G_is_pens : GFn P w K mg base "is_pens" 6 1 M_is_pens) : GFn P w K mg base "sure_pens" 41 1 M_sure_pens := by
  refine GFn.of_body (k := 40) (n := 1) (N := ["pens", "own"]) (ps := ["pens"]) Fn gf (bd_sure_pens Fn) sc_sure_pens rfl (g := b_sure_pens) fun cdv A outer s H E hr => ?_
  have nd := sc_sure_pens.nd
  exact (gss_cons (gs_set 1 (go_call G_tuple_of (hr.mono (by decide)) rfl (takes_of rfl rfl rfl rfl) (ga_cons (gv_name 0) ga_nil)) nd)
    (gss_cons (gs_expr (gv_of (go_call G_sure (hr.mono (by decide)) rfl (takes_of rfl rfl rfl rfl) (ga_cons (gv_of (go_call G_is_pens (hr.mono (by decide)) rfl (takes_of rfl rfl rfl rfl) (ga_cons (gv_name 1) ga_nil))) ga_nil))))
    (gss_one (gs_ret (go_move 1)))))
/-! pens_wide -/
abbrev s_pens_wide : Stmt := top 26
theorem sc_pens_wide : FnScope ["own"] ["own"] (defScope s_pens_wide) := ⟨rfl, rfl, rfl, by decide +kernel, rfl, by decide +kernel, by decide +kernel⟩
noncomputable def b_pens_wide : PSt → Os :=
  (fRet (fun ps => ((fApp dLen (fCons (fBin dIx (fIxS 0 (fK (.int 1))) (fK (.int 0))) (fun ps => .ok [] ps))) ps).map PV.val))
noncomputable def M_pens_wide : List PyData → FR := fun ds => (b_pens_wide (startP 1 ds)).fin
theorem bd_pens_wide {K : PySem.W.Frag} {f : Addr} {fd : FuncData} (Fn : FunD K "pens_wide" "pens_wide" (defArgs s_pens_wide) (defBody s_pens_wide) (defScope s_pens_wide) [] [] f fd) : Binds K fd ["own"] [] := Fn.bindsN fun _ _ _ _ _ _ us hl => match us, hl with | [_], _ => rfl
theorem ok_pens_wide {P : Program} {w : World} {K : PySem.W.Frag} {mg : Str → Option Value} {base : Heap} {f : Addr} {fd : FuncData} {C_CanNot : Addr} {C_Unfit : Addr} (Fn : FunD K "pens_wide" "pens_wide" (defArgs s_pens_wide) (defBody s_pens_wide) (defScope s_pens_wide) [] [] f fd) (hy : Hy K mg C_CanNot C_Unfit) (gf : mg "pens_wide" = some (.ref f)) : GFn P w K mg base "pens_wide" 1 1 M_pens_wide := by
  refine GFn.of_body (k := 0) (n := 1) (N := ["own"]) (ps := ["own"]) Fn gf (bd_pens_wide Fn) sc_pens_wide rfl (g := b_pens_wide) fun cdv A outer s H E hr => ?_
  have nd := sc_pens_wide.nd
  exact (gss_one (gs_ret (go_of (gv_callB call_len_seq (len_ok) rfl hy.n_len (by decide +kernel) (ga_cons (gv_ix (gv_ixS 0 gv_int) gv_int) ga_nil)))))
/-! later -/
abbrev s_later : Stmt := top 27
theorem sc_later : FnScope ["pens", "state", "letter"] ["pens", "state", "letter"] (defScope s_later) := ⟨rfl, rfl, rfl, by decide +kernel, rfl, by decide +kernel, by decide +kernel⟩
noncomputable def b_later : PSt → Os :=
  (fRet (fun ps => ((fBin dIx (fBin dIx (fIxS 0 (fK (.int 1))) (fN 1)) (fBin dSub (fN 2) (fK (.int 1)))) ps).map PV.val))
noncomputable def M_later : List PyData → FR := fun ds => (b_later (startP 3 ds)).fin
theorem bd_later {K : PySem.W.Frag} {f : Addr} {fd : FuncData} (Fn : FunD K "later" "later" (defArgs s_later) (defBody s_later) (defScope s_later) [] [] f fd) : Binds K fd ["pens", "state", "letter"] [] := Fn.bindsN fun _ _ _ _ _ _ us hl => match us, hl with | [_, _, _], _ => rfl
theorem ok_later {P : Program} {w : World} {K : PySem.W.Frag} {mg : Str → Option Value} {base : Heap} {f : Addr} {fd : FuncData} {C_CanNot : Addr} {C_Unfit : Addr} (Fn : FunD K "later" "later" (defArgs s_later) (defBody s_later) (defScope s_later) [] [] f fd) (hy : Hy K mg C_CanNot C_Unfit) (gf : mg "later" = some (.ref f)) : GFn P w K mg base "later" 1 3 M_later := by
  refine GFn.of_body (k := 0) (n := 3) (N := ["pens", "state", "letter"]) (ps := ["pens", "state", "letter"]) Fn gf (bd_later Fn) sc_later rfl (g := b_later) fun cdv A outer s H E hr => ?_
  have nd := sc_later.nd
  exact (gss_one (gs_ret (go_of (gv_ix (gv_ix (gv_ixS 0 gv_int) (gv_name 1)) (gv_bin op_sub sub_ok (gv_name 2) gv_int)))))
/-! sheets_by -/
abbrev s_sheets_by : Stmt := top 28
theorem sc_sheets_by : FnScope ["sheets", "moves", "source", "piece"] ["sheets", "moves"] (defScope s_sheets_by) := ⟨rfl, rfl, rfl, by decide +kernel, rfl, by decide +kernel, by decide +kernel⟩
noncomputable def b_sheets_by : PSt → Os :=
  (fRet (fun ps => ((fApp dTuple (fCons (fun ps => ((fLc (fSeqI (fN 1)) (uTup 2 (uCons (uN 2) (uCons (uN 3) uNil))) cYes (fBin dAdd (fIxS 0 (fN 2)) (fN 3)) [2, 3]) ps).map PV.data) (fun ps => .ok [] ps))) ps).map PV.val))
noncomputable def M_sheets_by : List PyData → FR := fun ds => (b_sheets_by (startP 4 ds)).fin
theorem bd_sheets_by {K : PySem.W.Frag} {f : Addr} {fd : FuncData} (Fn : FunD K "sheets_by" "sheets_by" (defArgs s_sheets_by) (defBody s_sheets_by) (defScope s_sheets_by) [] [] f fd) : Binds K fd ["sheets", "moves"] [] := Fn.bindsN fun _ _ _ _ _ _ us hl => match us, hl with | [_, _], _ => rfl
theorem ok_sheets_by {P : Program} {w : World} {K : PySem.W.Frag} {mg : Str → Option Value} {base : Heap} {f : Addr} {fd : FuncData} {C_CanNot : Addr} {C_Unfit : Addr} (Fn : FunD K "sheets_by" "sheets_by" (defArgs s_sheets_by) (defBody s_sheets_by) (defScope s_sheets_by) [] [] f fd) (hy : Hy K mg C_CanNot C_Unfit) (gf : mg "sheets_by" = some (.ref f)) : GFn P w K mg base "sheets_by" 1 2 M_sheets_by := by
  refine GFn.of_body (k := 0) (n := 2) (N := ["sheets", "moves", "source", "piece"]) (ps := ["sheets", "moves"]) Fn gf (bd_sheets_by Fn) sc_sheets_by rfl (g := b_sheets_by) fun cdv A outer s H E hr => ?_
  have nd := sc_sheets_by.nd
  exact (gss_one (gs_ret (go_of (gv_callTy call_tuple_of (tuple_ok) rfl hy.n_tuple (by decide +kernel) (ga_cons (gv_of (go_lc [("source", 2), ("piece", 3)] rfl nd (gi_seq (gv_name 1)) (blkOk_by (N := ["sheets", "moves", "source", "piece"]) (sc := defScope s_sheets_by) (own := [("source", 2), ("piece", 3)]) (by decide +kernel)) (fun _ _ _ _ _ => (gg_tup rfl (ggs_cons (gg_name 2 nd) (ggs_cons (gg_name 3 nd) ggs_nil)))) (fun _ _ _ _ _ => gts_nil) (fun _ _ _ _ _ => (gv_bin op_addD add_ok (gv_ixS 0 (gv_name 2)) (gv_name 3))))) ga_nil)))))
/-! gone_over -/
abbrev s_gone_over : Stmt := top 29
theorem sc_gone_over : FnScope ["own", "text", "letter", "state", "sheets", "moves"] ["own", "text"] (defScope s_gone_over) := ⟨rfl, rfl, rfl, by decide +kernel, rfl, by decide +kernel, by decide +kernel⟩
noncomputable def b_gone_over : PSt → Os :=
  (fSeq (fAsg (uTup 2 (uCons (uN 3) (uCons (uN 4) uNil))) (fIxS 0 (fK (.int 0))))
  (fSeq (fFor (fSeqI (fN 1)) (uN 2) (fSeq (fAsg (uTup 2 (uCons (uN 3) (uCons (uN 5) uNil))) (fun ps => ((fCall 3 M_later (fCons (fN 0) (fCons (fN 3) (fCons (fN 2) (fun ps => .ok [] ps))))) ps).map PV.data))
  (fSet 4 (fCall 2 M_sheets_by (fCons (fN 4) (fCons (fN 5) (fun ps => .ok [] ps)))))))
  (fRet (fun ps => ((fTup (fCons (fN 3) (fCons (fN 4) (fun ps => .ok [] ps)))) ps).map PV.val))))
noncomputable def M_gone_over : List PyData → FR := fun ds => (b_gone_over (startP 6 ds)).fin
theorem bd_gone_over {K : PySem.W.Frag} {f : Addr} {fd : FuncData} (Fn : FunD K "gone_over" "gone_over" (defArgs s_gone_over) (defBody s_gone_over) (defScope s_gone_over) [] [] f fd) : Binds K fd ["own", "text"] [] := Fn.bindsN fun _ _ _ _ _ _ us hl => match us, hl with | [_, _], _ => rfl
theorem ok_gone_over {P : Program} {w : World} {K : PySem.W.Frag} {mg : Str → Option Value} {base : Heap} {f : Addr} {fd : FuncData} {C_CanNot : Addr} {C_Unfit : Addr} (Fn : FunD K "gone_over" "gone_over" (defArgs s_gone_over) (defBody s_gone_over) (defScope s_gone_over) [] [] f fd) (hy : Hy K mg C_CanNot C_Unfit) (gf : mg "gone_over" = some (.ref f)) (G_later : GFn P w K mg base "later" 1 3 M_later) (G_sheets_by : GFn P w K mg base "sheets_by" 1 2 M_sheets_by) : GFn P w K mg base "gone_over" 2 2 M_gone_over := by
  refine GFn.of_body (k := 1) (n := 2) (N := ["own", "text", "letter", "state", "sheets", "moves"]) (ps := ["own", "text"]) Fn gf (bd_gone_over Fn) sc_gone_over rfl (g := b_gone_over) fun cdv A outer s H E hr => ?_
  have nd := sc_gone_over.nd
  exact (gss_cons (gs_asg (gv_ixS 0 gv_int) (gg_tup rfl (ggs_cons (gg_name 3 nd) (ggs_cons (gg_name 4 nd) ggs_nil))))
    (gss_cons (gs_for (passes_of rfl) rfl (gi_seq (gv_name 1)) (gg_name 2 nd) (gss_cons (gs_asg (gv_of (go_call G_later (hr.mono (by decide)) rfl (takes_of rfl rfl rfl rfl) (ga_cons (gv_name 0) (ga_cons (gv_name 3) (ga_cons (gv_name 2) ga_nil))))) (gg_tup rfl (ggs_cons (gg_name 3 nd) (ggs_cons (gg_name 5 nd) ggs_nil))))
    (gss_one (gs_set 4 (go_call G_sheets_by (hr.mono (by decide)) rfl (takes_of rfl rfl rfl rfl) (ga_cons (gv_name 4) (ga_cons (gv_name 5) ga_nil))) nd))))
    (gss_one (gs_ret (go_of (gv_tup (ga_cons (gv_name 3) (ga_cons (gv_name 4) ga_nil))))))))
/-! results_in -/
abbrev s_results_in : Stmt := top 30
theorem sc_results_in : FnScope ["own", "state", "sheets", "sheet", "piece"] ["own", "state", "sheets"] (defScope s_results_in) := ⟨rfl, rfl, rfl, by decide +kernel, rfl, by decide +kernel, by decide +kernel⟩
noncomputable def b_results_in : PSt → Os :=
  (fRet (fun ps => ((fApp dTuple (fCons (fun ps => ((fAppO GS.dSortSetA (fCons (fun ps => ((fLc (fSeqI (fBin dIx (fIxS 0 (fK (.int 2))) (fN 1))) (uTup 2 (uCons (uN 3) (uCons (uN 4) uNil))) cYes (fBin dAdd (fIxS 2 (fN 3)) (fN 4)) [3, 4]) ps).map PV.data) (fun ps => .ok [] ps))) ps).map PV.data) (fun ps => .ok [] ps))) ps).map PV.val))
noncomputable def M_results_in : List PyData → FR := fun ds => (b_results_in (startP 5 ds)).fin
theorem bd_results_in {K : PySem.W.Frag} {f : Addr} {fd : FuncData} (Fn : FunD K "results_in" "results_in" (defArgs s_results_in) (defBody s_results_in) (defScope s_results_in) [] [] f fd) : Binds K fd ["own", "state", "sheets"] [] := Fn.bindsN fun _ _ _ _ _ _ us hl => match us, hl with | [_, _, _], _ => rfl
theorem ok_results_in {P : Program} {w : World} {K : PySem.W.Frag} {mg : Str → Option Value} {base : Heap} {f : Addr} {fd : FuncData} {C_CanNot : Addr} {C_Unfit : Addr} (Fn : FunD K "results_in" "results_in" (defArgs s_results_in) (defBody s_results_in) (defScope s_results_in) [] [] f fd) (hy : Hy K mg C_CanNot C_Unfit) (gf : mg "results_in" = some (.ref f)) : GFn P w K mg base "results_in" 1 3 M_results_in := by
  refine GFn.of_body (k := 0) (n := 3) (N := ["own", "state", "sheets", "sheet", "piece"]) (ps := ["own", "state", "sheets"]) Fn gf (bd_results_in Fn) sc_results_in rfl (g := b_results_in) fun cdv A outer s H E hr => ?_
  have nd := sc_results_in.nd
  exact (gss_one (gs_ret (go_of (gv_callTy call_tuple_of (tuple_ok) rfl hy.n_tuple (by decide +kernel) (ga_cons (gv_of (GS.go_sortSetA rfl (Nat.lt_of_succ_lt hr.u65) rfl hy.n_sorted rfl hy.n_set (ga_cons (gv_of (go_lc [("sheet", 3), ("piece", 4)] rfl nd (gi_seq (gv_ix (gv_ixS 0 gv_int) (gv_name 1))) (blkOk_by (N := ["own", "state", "sheets", "sheet", "piece"]) (sc := defScope s_results_in) (own := [("sheet", 3), ("piece", 4)]) (by decide +kernel)) (fun _ _ _ _ _ => (gg_tup rfl (ggs_cons (gg_name 3 nd) (ggs_cons (gg_name 4 nd) ggs_nil)))) (fun _ _ _ _ _ => gts_nil) (fun _ _ _ _ _ => (gv_bin op_addD add_ok (gv_ixS 2 (gv_name 3)) (gv_name 4))))) ga_nil))) ga_nil)))))
/-! sure_both -/
abbrev s_sure_both : Stmt := top 31
theorem sc_sure_both : FnScope ["pens", "text", "own"] ["pens", "text"] (defScope s_sure_both) := ⟨rfl, rfl, rfl, by decide +kernel, rfl, by decide +kernel, by decide +kernel⟩
noncomputable def b_sure_both : PSt → Os :=
  (fSeq (fSet 2 (fCall 1 M_sure_pens (fCons (fN 0) (fun ps => .ok [] ps))))
  (fRet (fun ps => ((fTup (fCons (fN 2) (fCons (fun ps => ((fCall 2 M_sure_text (fCons (fun ps => ((fCall 1 M_pens_wide (fCons (fN 2) (fun ps => .ok [] ps))) ps).map PV.data) (fCons (fN 1) (fun ps => .ok [] ps)))) ps).map PV.data) (fun ps => .ok [] ps)))) ps).map PV.val)))
noncomputable def M_sure_both : List PyData → FR := fun ds => (b_sure_both (startP 3 ds)).fin
theorem bd_sure_both {K : PySem.W.Frag} {f : Addr} {fd : FuncData} (Fn : FunD K "sure_both" "sure_both" (defArgs s_sure_both) (defBody s_sure_both) (defScope s_sure_both) [] [] f fd) : Binds K fd ["pens", "text"] [] := Fn.bindsN fun _ _ _ _ _ _ us hl => match us, hl with | [_, _], _ => rfl
theorem ok_sure_both {P : Program} {w : World} {K : PySem.W.Frag} {mg : Str → Option Value} {base : Heap} {f : Addr} {fd : FuncData} {C_CanNot : Addr} {C_Unfit : Addr} (Fn : FunD K "sure_both" "sure_both" (defArgs s_sure_both) (defBody s_sure_both) (defScope s_sure_both) [] [] f fd) (hy : Hy K mg C_CanNot C_Unfit) (gf : mg "sure_both" = some (.ref f)) (G_sure_text : GFn P w K mg base "sure_text" 41 2 M_sure_text) (G_sure_pens : GFn P w K mg base "sure_pens" 41 1 M_sure_pens) (G_pens_wide : GFn P w K mg base "pens_wide" 1 1 M_pens_wide) : GFn P w K mg base "sure_both" 42 2 M_sure_both := by
  refine GFn.of_body (k := 41) (n := 2) (N := ["pens", "text", "own"]) (ps := ["pens", "text"]) Fn gf (bd_sure_both Fn) sc_sure_both rfl (g := b_sure_both) fun cdv A outer s H E hr => ?_
  have nd := sc_sure_both.nd
  exact (gss_cons (gs_set 2 (go_call G_sure_pens (hr.mono (by decide)) rfl (takes_of rfl rfl rfl rfl) (ga_cons (gv_name 0) ga_nil)) nd)
    (gss_one (gs_ret (go_of (gv_tup (ga_cons (gv_name 2) (ga_cons (gv_of (go_call G_sure_text (hr.mono (by decide)) rfl (takes_of rfl rfl rfl rfl) (ga_cons (gv_of (go_call G_pens_wide (hr.mono (by decide)) rfl (takes_of rfl rfl rfl rfl) (ga_cons (gv_name 2) ga_nil))) (ga_cons (gv_name 1) ga_nil)))) ga_nil)))))))
/-! pens_results -/
abbrev s_pens_results : Stmt := top 32
theorem sc_pens_results : FnScope ["pens", "text", "own", "letters", "state", "sheets"] ["pens", "text"] (defScope s_pens_results) := ⟨rfl, rfl, rfl, by decide +kernel, rfl, by decide +kernel, by decide +kernel⟩
noncomputable def b_pens_results : PSt → Os :=
  (fSeq (fAsg (uTup 2 (uCons (uN 2) (uCons (uN 3) uNil))) (fun ps => ((fCall 2 M_sure_both (fCons (fN 0) (fCons (fN 1) (fun ps => .ok [] ps)))) ps).map PV.data))
  (fSeq (fAsg (uTup 2 (uCons (uN 4) (uCons (uN 5) uNil))) (fun ps => ((fCall 2 M_gone_over (fCons (fN 2) (fCons (fN 3) (fun ps => .ok [] ps)))) ps).map PV.data))
  (fRet (fCall 3 M_results_in (fCons (fN 2) (fCons (fN 4) (fCons (fN 5) (fun ps => .ok [] ps))))))))
noncomputable def M_pens_results : List PyData → FR := fun ds => (b_pens_results (startP 6 ds)).fin
theorem bd_pens_results {K : PySem.W.Frag} {f : Addr} {fd : FuncData} (Fn : FunD K "pens_results" "pens_results" (defArgs s_pens_results) (defBody s_pens_results) (defScope s_pens_results) [] [] f fd) : Binds K fd ["pens", "text"] [] := Fn.bindsN fun _ _ _ _ _ _ us hl => match us, hl with | [_, _], _ => rfl
theorem ok_pens_results {P : Program} {w : World} {K : PySem.W.Frag} {mg : Str → Option Value} {base : Heap} {f : Addr} {fd : FuncData} {C_CanNot : Addr} {C_Unfit : Addr} (Fn : FunD K "pens_results" "pens_results" (defArgs s_pens_results) (defBody s_pens_results) (defScope s_pens_results) [] [] f fd) (hy : Hy K mg C_CanNot C_Unfit) (gf : mg "pens_results" = some (.ref f)) (G_gone_over : GFn P w K mg base "gone_over" 2 2 M_gone_over) (G_results_in : GFn P w K mg base "results_in" 1 3 M_results_in) (G_sure_both : GFn P w K mg base "sure_both" 42 2 M_sure_both) : GFn P w K mg base "pens_results" 43 2 M_pens_results := by
  refine GFn.of_body (k := 42) (n := 2) (N := ["pens", "text", "own", "letters", "state", "sheets"]) (ps := ["pens", "text"]) Fn gf (bd_pens_results Fn) sc_pens_results rfl (g := b_pens_results) fun cdv A outer s H E hr => ?_
  have nd := sc_pens_results.nd
  exact (gss_cons (gs_asg (gv_of (go_call G_sure_both (hr.mono (by decide)) rfl (takes_of rfl rfl rfl rfl) (ga_cons (gv_name 0) (ga_cons (gv_name 1) ga_nil)))) (gg_tup rfl (ggs_cons (gg_name 2 nd) (ggs_cons (gg_name 3 nd) ggs_nil))))
    (gss_cons (gs_asg (gv_of (go_call G_gone_over (hr.mono (by decide)) rfl (takes_of rfl rfl rfl rfl) (ga_cons (gv_name 2) (ga_cons (gv_name 3) ga_nil)))) (gg_tup rfl (ggs_cons (gg_name 4 nd) (ggs_cons (gg_name 5 nd) ggs_nil))))
    (gss_one (gs_ret (go_call G_results_in (hr.mono (by decide)) rfl (takes_of rfl rfl rfl rfl) (ga_cons (gv_name 2) (ga_cons (gv_name 4) (ga_cons (gv_name 5) ga_nil))))))))
/-! still_moves -/
abbrev s_still_moves : Stmt := top 34
theorem sc_still_moves : FnScope ["many", "sheet"] ["many"] (defScope s_still_moves) := ⟨rfl, rfl, rfl, by decide +kernel, rfl, by decide +kernel, by decide +kernel⟩
noncomputable def b_still_moves : PSt → Os :=
  (fRet (fun ps => ((fApp dTuple (fCons (fun ps => ((fLc (fRange1 (fCons (fN 0) (fun ps => .ok [] ps))) (uN 1) cYes (fTup (fCons (fN 1) (fCons (fTup (fun ps => .ok [] ps)) (fun ps => .ok [] ps)))) [1]) ps).map PV.data) (fun ps => .ok [] ps))) ps).map PV.val))
noncomputable def M_still_moves : List PyData → FR := fun ds => (b_still_moves (startP 2 ds)).fin
theorem bd_still_moves {K : PySem.W.Frag} {f : Addr} {fd : FuncData} (Fn : FunD K "still_moves" "still_moves" (defArgs s_still_moves) (defBody s_still_moves) (defScope s_still_moves) [] [] f fd) : Binds K fd ["many"] [] := Fn.bindsN fun _ _ _ _ _ _ us hl => match us, hl with | [_], _ => rfl
theorem ok_still_moves {P : Program} {w : World} {K : PySem.W.Frag} {mg : Str → Option Value} {base : Heap} {f : Addr} {fd : FuncData} {C_CanNot : Addr} {C_Unfit : Addr} (Fn : FunD K "still_moves" "still_moves" (defArgs s_still_moves) (defBody s_still_moves) (defScope s_still_moves) [] [] f fd) (hy : Hy K mg C_CanNot C_Unfit) (gf : mg "still_moves" = some (.ref f)) : GFn P w K mg base "still_moves" 1 1 M_still_moves := by
  refine GFn.of_body (k := 0) (n := 1) (N := ["many", "sheet"]) (ps := ["many"]) Fn gf (bd_still_moves Fn) sc_still_moves rfl (g := b_still_moves) fun cdv A outer s H E hr => ?_
  have nd := sc_still_moves.nd
  exact (gss_one (gs_ret (go_of (gv_callTy call_tuple_of (tuple_ok) rfl hy.n_tuple (by decide +kernel) (ga_cons (gv_of (go_lc [("sheet", 1)] rfl nd (gi_range1 rfl hy.n_range (ga_cons (gv_name 0) ga_nil)) (blkOk_by (N := ["many", "sheet"]) (sc := defScope s_still_moves) (own := [("sheet", 1)]) (by decide +kernel)) (fun _ _ _ _ _ => (gg_name 1 nd)) (fun _ _ _ _ _ => gts_nil) (fun _ _ _ _ _ => (gv_tup (ga_cons (gv_name 1) (ga_cons (gv_tup ga_nil) ga_nil)))))) ga_nil)))))
/-! moves_behind -/
abbrev s_moves_behind : Stmt := top 35
theorem sc_moves_behind : FnScope ["moves", "more", "source", "piece"] ["moves", "more"] (defScope s_moves_behind) := ⟨rfl, rfl, rfl, by decide +kernel, rfl, by decide +kernel, by decide +kernel⟩
noncomputable def b_moves_behind : PSt → Os :=
  (fRet (fun ps => ((fApp dTuple (fCons (fun ps => ((fLc (fSeqI (fN 1)) (uTup 2 (uCons (uN 2) (uCons (uN 3) uNil))) cYes (fTup (fCons (fBin dIx (fIxS 0 (fN 2)) (fK (.int 0))) (fCons (fBin dAdd (fBin dIx (fIxS 0 (fN 2)) (fK (.int 1))) (fN 3)) (fun ps => .ok [] ps)))) [2, 3]) ps).map PV.data) (fun ps => .ok [] ps))) ps).map PV.val))
noncomputable def M_moves_behind : List PyData → FR := fun ds => (b_moves_behind (startP 4 ds)).fin
theorem bd_moves_behind {K : PySem.W.Frag} {f : Addr} {fd : FuncData} (Fn : FunD K "moves_behind" "moves_behind" (defArgs s_moves_behind) (defBody s_moves_behind) (defScope s_moves_behind) [] [] f fd) : Binds K fd ["moves", "more"] [] := Fn.bindsN fun _ _ _ _ _ _ us hl => match us, hl with | [_, _], _ => rfl
theorem ok_moves_behind {P : Program} {w : World} {K : PySem.W.Frag} {mg : Str → Option Value} {base : Heap} {f : Addr} {fd : FuncData} {C_CanNot : Addr} {C_Unfit : Addr} (Fn : FunD K "moves_behind" "moves_behind" (defArgs s_moves_behind) (defBody s_moves_behind) (defScope s_moves_behind) [] [] f fd) (hy : Hy K mg C_CanNot C_Unfit) (gf : mg "moves_behind" = some (.ref f)) : GFn P w K mg base "moves_behind" 1 2 M_moves_behind := by
  refine GFn.of_body (k := 0) (n := 2) (N := ["moves", "more", "source", "piece"]) (ps := ["moves", "more"]) Fn gf (bd_moves_behind Fn) sc_moves_behind rfl (g := b_moves_behind) fun cdv A outer s H E hr => ?_
  have nd := sc_moves_behind.nd
  exact (gss_one (gs_ret (go_of (gv_callTy call_tuple_of (tuple_ok) rfl hy.n_tuple (by decide +kernel) (ga_cons (gv_of (go_lc [("source", 2), ("piece", 3)] rfl nd (gi_seq (gv_name 1)) (blkOk_by (N := ["moves", "more", "source", "piece"]) (sc := defScope s_moves_behind) (own := [("source", 2), ("piece", 3)]) (by decide +kernel)) (fun _ _ _ _ _ => (gg_tup rfl (ggs_cons (gg_name 2 nd) (ggs_cons (gg_name 3 nd) ggs_nil)))) (fun _ _ _ _ _ => gts_nil) (fun _ _ _ _ _ => (gv_tup (ga_cons (gv_ix (gv_ixS 0 (gv_name 2)) gv_int) (ga_cons (gv_bin op_addD add_ok (gv_ix (gv_ixS 0 (gv_name 2)) gv_int) (gv_name 3)) ga_nil)))))) ga_nil)))))
/-! effect_of -/
abbrev s_effect_of : Stmt := top 36
theorem sc_effect_of : FnScope ["own", "state", "text", "found", "letter", "moves"] ["own", "state", "text"] (defScope s_effect_of) := ⟨rfl, rfl, rfl, by decide +kernel, rfl, by decide +kernel, by decide +kernel⟩
noncomputable def b_effect_of : PSt → Os :=
  (fSeq (fSet 3 (fCall 1 M_still_moves (fCons (fApp dLen (fCons (fBin dIx (fIxS 0 (fK (.int 0))) (fK (.int 1))) (fun ps => .ok [] ps))) (fun ps => .ok [] ps))))
  (fSeq (fFor (fSeqI (fN 2)) (uN 4) (fSeq (fAsg (uTup 2 (uCons (uN 1) (uCons (uN 5) uNil))) (fun ps => ((fCall 3 M_later (fCons (fN 0) (fCons (fN 1) (fCons (fN 4) (fun ps => .ok [] ps))))) ps).map PV.data))
  (fSet 3 (fCall 2 M_moves_behind (fCons (fN 3) (fCons (fN 5) (fun ps => .ok [] ps)))))))
  (fRet (fun ps => ((fTup (fCons (fN 1) (fCons (fN 3) (fun ps => .ok [] ps)))) ps).map PV.val))))
noncomputable def M_effect_of : List PyData → FR := fun ds => (b_effect_of (startP 6 ds)).fin
theorem bd_effect_of {K : PySem.W.Frag} {f : Addr} {fd : FuncData} (Fn : FunD K "effect_of" "effect_of" (defArgs s_effect_of) (defBody s_effect_of) (defScope s_effect_of) [] [] f fd) : Binds K fd ["own", "state", "text"] [] := Fn.bindsN fun _ _ _ _ _ _ us hl => match us, hl with | [_, _, _], _ => rfl
theorem ok_effect_of {P : Program} {w : World} {K : PySem.W.Frag} {mg : Str → Option Value} {base : Heap} {f : Addr} {fd : FuncData} {C_CanNot : Addr} {C_Unfit : Addr} (Fn : FunD K "effect_of" "effect_of" (defArgs s_effect_of) (defBody s_effect_of) (defScope s_effect_of) [] [] f fd) (hy : Hy K mg C_CanNot C_Unfit) (gf : mg "effect_of" = some (.ref f)) (G_later : GFn P w K mg base "later" 1 3 M_later) (G_still_moves : GFn P w K mg base "still_moves" 1 1 M_still_moves) (G_moves_behind : GFn P w K mg base "moves_behind" 1 2 M_moves_behind) : GFn P w K mg base "effect_of" 2 3 M_effect_of := by
  refine GFn.of_body (k := 1) (n := 3) (N := ["own", "state", "text", "found", "letter", "moves"]) (ps := ["own", "state", "text"]) Fn gf (bd_effect_of Fn) sc_effect_of rfl (g := b_effect_of) fun cdv A outer s H E hr => ?_
  have nd := sc_effect_of.nd
  exact (gss_cons (gs_set 3 (go_call G_still_moves (hr.mono (by decide)) rfl (takes_of rfl rfl rfl rfl) (ga_cons (gv_callB call_len_seq (len_ok) rfl hy.n_len (by decide +kernel) (ga_cons (gv_ix (gv_ixS 0 gv_int) gv_int) ga_nil)) ga_nil)) nd)
    (gss_cons (gs_for (passes_of rfl) rfl (gi_seq (gv_name 2)) (gg_name 4 nd) (gss_cons (gs_asg (gv_of (go_call G_later (hr.mono (by decide)) rfl (takes_of rfl rfl rfl rfl) (ga_cons (gv_name 0) (ga_cons (gv_name 1) (ga_cons (gv_name 4) ga_nil))))) (gg_tup rfl (ggs_cons (gg_name 1 nd) (ggs_cons (gg_name 5 nd) ggs_nil))))
    (gss_one (gs_set 3 (go_call G_moves_behind (hr.mono (by decide)) rfl (takes_of rfl rfl rfl rfl) (ga_cons (gv_name 3) (ga_cons (gv_name 5) ga_nil))) nd))))
    (gss_one (gs_ret (go_of (gv_tup (ga_cons (gv_name 1) (ga_cons (gv_name 3) ga_nil))))))))
/-! effect -/
abbrev s_effect : Stmt := top 37
theorem sc_effect : FnScope ["pens", "state", "text", "own", "letters"] ["pens", "state", "text"] (defScope s_effect) := ⟨rfl, rfl, rfl, by decide +kernel, rfl, by decide +kernel, by decide +kernel⟩
noncomputable def b_effect : PSt → Os :=
  (fSeq (fAsg (uTup 2 (uCons (uN 3) (uCons (uN 4) uNil))) (fun ps => ((fCall 2 M_sure_both (fCons (fN 0) (fCons (fN 2) (fun ps => .ok [] ps)))) ps).map PV.data))
  (fSeq (fExpr (fun ps => ((fCall 2 M_sure_place (fCons (fN 1) (fCons (fApp dLen (fCons (fIxS 3 (fK (.int 1))) (fun ps => .ok [] ps))) (fun ps => .ok [] ps)))) ps).map PV.data))
  (fRet (fCall 3 M_effect_of (fCons (fN 3) (fCons (fN 1) (fCons (fN 4) (fun ps => .ok [] ps))))))))
noncomputable def M_effect : List PyData → FR := fun ds => (b_effect (startP 5 ds)).fin
theorem bd_effect {K : PySem.W.Frag} {f : Addr} {fd : FuncData} (Fn : FunD K "effect" "effect" (defArgs s_effect) (defBody s_effect) (defScope s_effect) [] [] f fd) : Binds K fd ["pens", "state", "text"] [] := Fn.bindsN fun _ _ _ _ _ _ us hl => match us, hl with | [_, _, _], _ => rfl
theorem ok_effect {P : Program} {w : World} {K : PySem.W.Frag} {mg : Str → Option Value} {base : Heap} {f : Addr} {fd : FuncData} {C_CanNot : Addr} {C_Unfit : Addr} (Fn : FunD K "effect" "effect" (defArgs s_effect) (defBody s_effect) (defScope s_effect) [] [] f fd) (hy : Hy K mg C_CanNot C_Unfit) (gf : mg "effect" = some (.ref f)) (G_sure_place : GFn P w K mg base "sure_place" 2 2 M_sure_place) (G_sure_both : GFn P w K mg base "sure_both" 42 2 M_sure_both) (G_effect_of : GFn P w K mg base "effect_of" 2 3 M_effect_of) : GFn P w K mg base "effect" 43 3 M_effect := by
  refine GFn.of_body (k := 42) (n := 3) (N := ["pens", "state", "text", "own", "letters"]) (ps := ["pens", "state", "text"]) Fn gf (bd_effect Fn) sc_effect rfl (g := b_effect) fun cdv A outer s H E hr => ?_
  have nd := sc_effect.nd
  exact (gss_cons (gs_asg (gv_of (go_call G_sure_both (hr.mono (by decide)) rfl (takes_of rfl rfl rfl rfl) (ga_cons (gv_name 0) (ga_cons (gv_name 2) ga_nil)))) (gg_tup rfl (ggs_cons (gg_name 3 nd) (ggs_cons (gg_name 4 nd) ggs_nil))))
    (gss_cons (gs_expr (gv_of (go_call G_sure_place (hr.mono (by decide)) rfl (takes_of rfl rfl rfl rfl) (ga_cons (gv_name 1) (ga_cons (gv_callB call_len_seq (len_ok) rfl hy.n_len (by decide +kernel) (ga_cons (gv_ixS 3 gv_int) ga_nil)) ga_nil)))))
    (gss_one (gs_ret (go_call G_effect_of (hr.mono (by decide)) rfl (takes_of rfl rfl rfl rfl) (ga_cons (gv_name 3) (ga_cons (gv_name 1) (ga_cons (gv_name 4) ga_nil))))))))
/-! first_unlike -/
abbrev s_first_unlike : Stmt := top 38
theorem sc_first_unlike : FnScope ["pens", "text", "other", "more", "state", "own", "letters"] ["pens", "text", "other"] (defScope s_first_unlike) := ⟨rfl, rfl, rfl, by decide +kernel, rfl, by decide +kernel, by decide +kernel⟩
noncomputable def b_first_unlike : PSt → Os :=
  (fSeq (fAsg (uTup 2 (uCons (uN 5) (uCons (uN 6) uNil))) (fun ps => ((fCall 2 M_sure_both (fCons (fN 0) (fCons (fN 1) (fun ps => .ok [] ps)))) ps).map PV.data))
  (fSeq (fSet 3 (fCall 2 M_sure_text (fCons (fun ps => ((fCall 1 M_pens_wide (fCons (fN 5) (fun ps => .ok [] ps))) ps).map PV.data) (fCons (fN 2) (fun ps => .ok [] ps)))))
  (fSeq (fFor (fRange1 (fCons (fApp dLen (fCons (fIxS 5 (fK (.int 1))) (fun ps => .ok [] ps))) (fun ps => .ok [] ps))) (uN 4) (fIfS (fTest (fBin dNe (fun ps => ((fCall 3 M_effect_of (fCons (fN 5) (fCons (fN 4) (fCons (fN 6) (fun ps => .ok [] ps))))) ps).map PV.data) (fun ps => ((fCall 3 M_effect_of (fCons (fN 5) (fCons (fN 4) (fCons (fN 3) (fun ps => .ok [] ps))))) ps).map PV.data))) (fRet (fMv 4)) fSkip))
  (fRet (fun ps => ((fK .none) ps).map PV.val)))))
noncomputable def M_first_unlike : List PyData → FR := fun ds => (b_first_unlike (startP 7 ds)).fin
theorem bd_first_unlike {K : PySem.W.Frag} {f : Addr} {fd : FuncData} (Fn : FunD K "first_unlike" "first_unlike" (defArgs s_first_unlike) (defBody s_first_unlike) (defScope s_first_unlike) [] [] f fd) : Binds K fd ["pens", "text", "other"] [] := Fn.bindsN fun _ _ _ _ _ _ us hl => match us, hl with | [_, _, _], _ => rfl
theorem ok_first_unlike {P : Program} {w : World} {K : PySem.W.Frag} {mg : Str → Option Value} {base : Heap} {f : Addr} {fd : FuncData} {C_CanNot : Addr} {C_Unfit : Addr} (Fn : FunD K "first_unlike" "first_unlike" (defArgs s_first_unlike) (defBody s_first_unlike) (defScope s_first_unlike) [] [] f fd) (hy : Hy K mg C_CanNot C_Unfit) (gf : mg "first_unlike" = some (.ref f)) (G_sure_text : GFn P w K mg base "sure_text" 41 2 M_sure_text) (G_pens_wide : GFn P w K mg base "pens_wide" 1 1 M_pens_wide) (G_sure_both : GFn P w K mg base "sure_both" 42 2 M_sure_both) (G_effect_of : GFn P w K mg base "effect_of" 2 3 M_effect_of) : GFn P w K mg base "first_unlike" 43 3 M_first_unlike := by
  refine GFn.of_body (k := 42) (n := 3) (N := ["pens", "text", "other", "more", "state", "own", "letters"]) (ps := ["pens", "text", "other"]) Fn gf (bd_first_unlike Fn) sc_first_unlike rfl (g := b_first_unlike) fun cdv A outer s H E hr => ?_
  have nd := sc_first_unlike.nd
  exact (gss_cons (gs_asg (gv_of (go_call G_sure_both (hr.mono (by decide)) rfl (takes_of rfl rfl rfl rfl) (ga_cons (gv_name 0) (ga_cons (gv_name 1) ga_nil)))) (gg_tup rfl (ggs_cons (gg_name 5 nd) (ggs_cons (gg_name 6 nd) ggs_nil))))
    (gss_cons (gs_set 3 (go_call G_sure_text (hr.mono (by decide)) rfl (takes_of rfl rfl rfl rfl) (ga_cons (gv_of (go_call G_pens_wide (hr.mono (by decide)) rfl (takes_of rfl rfl rfl rfl) (ga_cons (gv_name 5) ga_nil))) (ga_cons (gv_name 2) ga_nil))) nd)
    (gss_cons (gs_for (passes_of rfl) rfl (gi_range1 rfl hy.n_range (ga_cons (gv_callB call_len_seq (len_ok) rfl hy.n_len (by decide +kernel) (ga_cons (gv_ixS 5 gv_int) ga_nil)) ga_nil)) (gg_name 4 nd) (gss_one (gs_if (gt_cmp (op_neD hr.units) ne_ok (gv_of (go_call G_effect_of (hr.mono (by decide)) rfl (takes_of rfl rfl rfl rfl) (ga_cons (gv_name 5) (ga_cons (gv_name 4) (ga_cons (gv_name 6) ga_nil))))) (gv_of (go_call G_effect_of (hr.mono (by decide)) rfl (takes_of rfl rfl rfl rfl) (ga_cons (gv_name 5) (ga_cons (gv_name 4) (ga_cons (gv_name 3) ga_nil)))))) (gss_one (gs_ret (go_move 4))) gss_nil)))
    (gss_one (gs_ret (go_of gv_non))))))
/-! same_effect -/
abbrev s_same_effect : Stmt := top 39
theorem sc_same_effect : FnScope ["pens", "text", "other"] ["pens", "text", "other"] (defScope s_same_effect) := ⟨rfl, rfl, rfl, by decide +kernel, rfl, by decide +kernel, by decide +kernel⟩
noncomputable def b_same_effect : PSt → Os :=
  (fRet (fun ps => ((fBin dIs (fun ps => ((fCall 3 M_first_unlike (fCons (fN 0) (fCons (fN 1) (fCons (fN 2) (fun ps => .ok [] ps))))) ps).map PV.data) (fK .none)) ps).map PV.val))
noncomputable def M_same_effect : List PyData → FR := fun ds => (b_same_effect (startP 3 ds)).fin
theorem bd_same_effect {K : PySem.W.Frag} {f : Addr} {fd : FuncData} (Fn : FunD K "same_effect" "same_effect" (defArgs s_same_effect) (defBody s_same_effect) (defScope s_same_effect) [] [] f fd) : Binds K fd ["pens", "text", "other"] [] := Fn.bindsN fun _ _ _ _ _ _ us hl => match us, hl with | [_, _, _], _ => rfl
theorem ok_same_effect {P : Program} {w : World} {K : PySem.W.Frag} {mg : Str → Option Value} {base : Heap} {f : Addr} {fd : FuncData} {C_CanNot : Addr} {C_Unfit : Addr} (Fn : FunD K "same_effect" "same_effect" (defArgs s_same_effect) (defBody s_same_effect) (defScope s_same_effect) [] [] f fd) (hy : Hy K mg C_CanNot C_Unfit) (gf : mg "same_effect" = some (.ref f)) (G_first_unlike : GFn P w K mg base "first_unlike" 43 3 M_first_unlike) : GFn P w K mg base "same_effect" 44 3 M_same_effect := by
  refine GFn.of_body (k := 43) (n := 3) (N := ["pens", "text", "other"]) (ps := ["pens", "text", "other"]) Fn gf (bd_same_effect Fn) sc_same_effect rfl (g := b_same_effect) fun cdv A outer s H E hr => ?_
  have nd := sc_same_effect.nd
  exact (gss_one (gs_ret (go_of (gv_cmp op_isD is_ok (gv_of (go_call G_first_unlike (hr.mono (by decide)) rfl (takes_of rfl rfl rfl rfl) (ga_cons (gv_name 0) (ga_cons (gv_name 1) (ga_cons (gv_name 2) ga_nil))))) gv_non))))
/-! unlike_effect -/
abbrev s_unlike_effect : Stmt := top 40
theorem sc_unlike_effect : FnScope ["pens", "text", "other", "found"] ["pens", "text", "other"] (defScope s_unlike_effect) := ⟨rfl, rfl, rfl, by decide +kernel, rfl, by decide +kernel, by decide +kernel⟩
noncomputable def b_unlike_effect : PSt → Os :=
  (fSeq (fSet 3 (fCall 3 M_first_unlike (fCons (fN 0) (fCons (fN 1) (fCons (fN 2) (fun ps => .ok [] ps))))))
  (fSeq (fIfS (fTest (fBinS dIs 3 (fK .none))) (fun ps => .exc ⟨"CanNot", none⟩ ps) fSkip)
  (fRet (fMv 3))))
noncomputable def M_unlike_effect : List PyData → FR := fun ds => (b_unlike_effect (startP 4 ds)).fin
theorem bd_unlike_effect {K : PySem.W.Frag} {f : Addr} {fd : FuncData} (Fn : FunD K "unlike_effect" "unlike_effect" (defArgs s_unlike_effect) (defBody s_unlike_effect) (defScope s_unlike_effect) [] [] f fd) : Binds K fd ["pens", "text", "other"] [] := Fn.bindsN fun _ _ _ _ _ _ us hl => match us, hl with | [_, _, _], _ => rfl
theorem ok_unlike_effect {P : Program} {w : World} {K : PySem.W.Frag} {mg : Str → Option Value} {base : Heap} {f : Addr} {fd : FuncData} {C_CanNot : Addr} {C_Unfit : Addr} (Fn : FunD K "unlike_effect" "unlike_effect" (defArgs s_unlike_effect) (defBody s_unlike_effect) (defScope s_unlike_effect) [] [] f fd) (hy : Hy K mg C_CanNot C_Unfit) (gf : mg "unlike_effect" = some (.ref f)) (G_first_unlike : GFn P w K mg base "first_unlike" 43 3 M_first_unlike) : GFn P w K mg base "unlike_effect" 44 3 M_unlike_effect := by
  refine GFn.of_body (k := 43) (n := 3) (N := ["pens", "text", "other", "found"]) (ps := ["pens", "text", "other"]) Fn gf (bd_unlike_effect Fn) sc_unlike_effect rfl (g := b_unlike_effect) fun cdv A outer s H E hr => ?_
  have nd := sc_unlike_effect.nd
  exact (gss_cons (gs_set 3 (go_call G_first_unlike (hr.mono (by decide)) rfl (takes_of rfl rfl rfl rfl) (ga_cons (gv_name 0) (ga_cons (gv_name 1) (ga_cons (gv_name 2) ga_nil)))) nd)
    (gss_cons (gs_if (gt_cmpS 3 op_isD is_ok bool_dIs gv_non) (gss_one (gs_raise0 hy.e_CanNot.g rfl (takes_of rfl rfl rfl rfl) (pmk_own0 PySem.F.excBase_ValueError hy.e_CanNot.x hy.e_CanNot.g hy.e_CanNot.k (raises_own hy.e_CanNot.s hy.e_CanNot.t) rfl))) gss_nil)
    (gss_one (gs_ret (go_move 3)))))
/-! _law_box -/
abbrev s__law_box : Stmt := top 42
theorem sc__law_box : FnScope ["script", "k", "cell"] ["script", "k"] (defScope s__law_box) := ⟨rfl, rfl, rfl, by decide +kernel, rfl, by decide +kernel, by decide +kernel⟩
noncomputable def b__law_box : PSt → Os :=
  (fSeq (fSet 2 (fun ps => ((fIf (fTest (fBinS dLt 1 (fLenS 0))) (fIxS 0 (fN 1)) (fK (.int 0))) ps).map PV.val))
  (fRet (fLst (fCons (fBin dMul (fApp dAbs (fCons (fN 2) (fun ps => .ok [] ps))) (fApp dInt (fCons (fBin dGe (fApp dAbs (fCons (fN 2) (fun ps => .ok [] ps))) (fBin dPow (fK (.int 10)) (fK (.int 18)))) (fun ps => .ok [] ps)))) (fCons (fBin dAdd (fBin dAdd (fBin dMod (fApp dInt (fCons (fN 2) (fun ps => .ok [] ps))) (fK (.int 2305843009213693951))) (fBin dMul (fK (.int 41183)) (fN 1))) (fK (.int 97048124))) (fCons (fK (.int 0)) (fun ps => .ok [] ps)))))))
noncomputable def M__law_box : List PyData → FR := fun ds => (b__law_box (startP 3 ds)).fin
theorem bd__law_box {K : PySem.W.Frag} {f : Addr} {fd : FuncData} (Fn : FunD K "_law_box" "_law_box" (defArgs s__law_box) (defBody s__law_box) (defScope s__law_box) [] [] f fd) : Binds K fd ["script", "k"] [] := Fn.bindsN fun _ _ _ _ _ _ us hl => match us, hl with | [_, _], _ => rfl
theorem ok__law_box {P : Program} {w : World} {K : PySem.W.Frag} {mg : Str → Option Value} {base : Heap} {f : Addr} {fd : FuncData} {C_CanNot : Addr} {C_Unfit : Addr} (Fn : FunD K "_law_box" "_law_box" (defArgs s__law_box) (defBody s__law_box) (defScope s__law_box) [] [] f fd) (hy : Hy K mg C_CanNot C_Unfit) (gf : mg "_law_box" = some (.ref f)) : GFn P w K mg base "_law_box" 1 2 M__law_box := by
  refine GFn.of_body (k := 0) (n := 2) (N := ["script", "k", "cell"]) (ps := ["script", "k"]) Fn gf (bd__law_box Fn) sc__law_box rfl (g := b__law_box) fun cdv A outer s H E hr => ?_
  have nd := sc__law_box.nd
  exact (gss_cons (gs_set 2 (go_of (gv_if (gt_cmpS 1 (op_ltD hr.units) lt_ok bool_dLt (gv_lenS 0 rfl hy.n_len)) (gv_ixS 0 (gv_name 1)) gv_int)) nd)
    (gss_one (gs_ret (go_lst (ga_cons (gv_bin op_mul mul_ok (gv_callB call_abs abs_ok rfl hy.n_abs (by decide +kernel) (ga_cons (gv_name 2) ga_nil)) (gv_callTy call_int1 int1_ok rfl hy.n_int (by decide +kernel) (ga_cons (gv_cmp op_ge ge_ok (gv_callB call_abs abs_ok rfl hy.n_abs (by decide +kernel) (ga_cons (gv_name 2) ga_nil)) (gv_bin op_pow pow_ok gv_int gv_int)) ga_nil))) (ga_cons (gv_bin op_addD add_ok (gv_bin op_addD add_ok (gv_bin op_mod mod_ok (gv_callTy call_int1 int1_ok rfl hy.n_int (by decide +kernel) (ga_cons (gv_name 2) ga_nil)) gv_int) (gv_bin op_mul mul_ok gv_int (gv_name 1))) gv_int) (ga_cons gv_int ga_nil)))))))
/-! _law_take -/
abbrev s__law_take : Stmt := top 43
theorem sc__law_take : FnScope ["urn", "below", "once", "far", "twice", "drawn"] ["urn", "below"] (defScope s__law_take) := ⟨rfl, rfl, rfl, by decide +kernel, rfl, by decide +kernel, by decide +kernel⟩
noncomputable def b__law_take : PSt → Os :=
  (fSeq (fIfS (fTest (fBin dGt (fIxS 0 (fK (.int 0))) (fK (.int 0)))) (fSeq (fSet 5 (fun ps => ((fBin dMod (fApp dInt (fCons (fIxS 0 (fK (.int 0))) (fun ps => .ok [] ps))) (fN 1)) ps).map PV.val))
  (fSeq (fSetIx 0 (fK (.int 0)) (fBin dFdiv (fIxS 0 (fK (.int 0))) (fN 1)))
  (fRet (fMv 5)))) fSkip)
  (fSeq (fSetIx 0 (fK (.int 2)) (fBin dAdd (fIxS 0 (fK (.int 2))) (fK (.int 1))))
  (fSeq (fSet 2 (fun ps => ((fBin dMod (fApp dInt (fCons (fBin dMul (fBin dAdd (fIxS 0 (fK (.int 1))) (fBin dMul (fK (.int 48271)) (fIxS 0 (fK (.int 2))))) (fBin dAdd (fK (.int 39373)) (fIxS 0 (fK (.int 2))))) (fun ps => .ok [] ps))) (fK (.int 2147483647))) ps).map PV.val))
  (fSeq (fSet 3 (fun ps => ((fBin dAdd (fBin dMod (fApp dInt (fCons (fN 2) (fun ps => .ok [] ps))) (fK (.int 40009))) (fK (.int 7))) ps).map PV.val))
  (fSeq (fSet 4 (fun ps => ((fBin dMod (fApp dInt (fCons (fBin dMul (fBin dAdd (fBin dAdd (fN 2) (fIxS 0 (fK (.int 2)))) (fBin dFdiv (fIxS 0 (fK (.int 1))) (fK (.int 1000003)))) (fN 3)) (fun ps => .ok [] ps))) (fK (.int 2147483629))) ps).map PV.val))
  (fRet (fun ps => ((fBin dMod (fApp dInt (fCons (fBin dFdiv (fBin dMod (fApp dInt (fCons (fBin dAdd (fBin dMul (fN 4) (fK (.int 48271))) (fN 2)) (fun ps => .ok [] ps))) (fK (.int 2147483587))) (fK (.int 64))) (fun ps => .ok [] ps))) (fN 1)) ps).map PV.val)))))))
noncomputable def M__law_take : List PyData → List PyData → FRU := fun u ds => (b__law_take (startU 6 u ds)).finU
theorem bd__law_take {K : PySem.W.Frag} {f : Addr} {fd : FuncData} (Fn : FunD K "_law_take" "_law_take" (defArgs s__law_take) (defBody s__law_take) (defScope s__law_take) [] [] f fd) : Binds K fd ["urn", "below"] [] := Fn.bindsN fun _ _ _ _ _ _ us hl => match us, hl with | [_, _], _ => rfl
theorem ok__law_take {P : Program} {w : World} {K : PySem.W.Frag} {mg : Str → Option Value} {base : Heap} {f : Addr} {fd : FuncData} {C_CanNot : Addr} {C_Unfit : Addr} (Fn : FunD K "_law_take" "_law_take" (defArgs s__law_take) (defBody s__law_take) (defScope s__law_take) [] [] f fd) (hy : Hy K mg C_CanNot C_Unfit) (gf : mg "_law_take" = some (.ref f)) : GFu P w K mg base "_law_take" 1 1 M__law_take := by
  refine GFu.of_body (k := 0) (n := 1) (N := ["urn", "below", "once", "far", "twice", "drawn"]) (ps := ["urn", "below"]) Fn gf (bd__law_take Fn) sc__law_take rfl (g := b__law_take) fun cdv A outer s H E a hr => ?_
  have nd := sc__law_take.nd
  exact (gss_cons (gs_if (gt_cmp op_gt gt_ok (gv_ixS 0 gv_int) gv_int) (gss_cons (gs_set 5 (go_of (gv_bin op_mod mod_ok (gv_callTy call_int1 int1_ok rfl hy.n_int (by decide +kernel) (ga_cons (gv_ixS 0 gv_int) ga_nil)) (gv_name 1))) nd)
    (gss_cons (gs_setIx 0 (gv_bin op_fdiv fdiv_ok (gv_ixS 0 gv_int) (gv_name 1)) gv_int)
    (gss_one (gs_ret (go_move 5))))) gss_nil)
    (gss_cons (gs_setIx 0 (gv_bin op_addD add_ok (gv_ixS 0 gv_int) gv_int) gv_int)
    (gss_cons (gs_set 2 (go_of (gv_bin op_mod mod_ok (gv_callTy call_int1 int1_ok rfl hy.n_int (by decide +kernel) (ga_cons (gv_bin op_mul mul_ok (gv_bin op_addD add_ok (gv_ixS 0 gv_int) (gv_bin op_mul mul_ok gv_int (gv_ixS 0 gv_int))) (gv_bin op_addD add_ok gv_int (gv_ixS 0 gv_int))) ga_nil)) gv_int)) nd)
    (gss_cons (gs_set 3 (go_of (gv_bin op_addD add_ok (gv_bin op_mod mod_ok (gv_callTy call_int1 int1_ok rfl hy.n_int (by decide +kernel) (ga_cons (gv_name 2) ga_nil)) gv_int) gv_int)) nd)
    (gss_cons (gs_set 4 (go_of (gv_bin op_mod mod_ok (gv_callTy call_int1 int1_ok rfl hy.n_int (by decide +kernel) (ga_cons (gv_bin op_mul mul_ok (gv_bin op_addD add_ok (gv_bin op_addD add_ok (gv_name 2) (gv_ixS 0 gv_int)) (gv_bin op_fdiv fdiv_ok (gv_ixS 0 gv_int) gv_int)) (gv_name 3)) ga_nil)) gv_int)) nd)
    (gss_one (gs_ret (go_of (gv_bin op_mod mod_ok (gv_callTy call_int1 int1_ok rfl hy.n_int (by decide +kernel) (ga_cons (gv_bin op_fdiv fdiv_ok (gv_bin op_mod mod_ok (gv_callTy call_int1 int1_ok rfl hy.n_int (by decide +kernel) (ga_cons (gv_bin op_addD add_ok (gv_bin op_mul mul_ok (gv_name 4) gv_int) (gv_name 2)) ga_nil)) gv_int) gv_int) ga_nil)) (gv_name 1))))))))))
/-! _law_cells -/
abbrev s__law_cells : Stmt := top 44
theorem sc__law_cells : FnScope ["script", "many", "cells", "k", "cell", "at"] ["script", "many"] (defScope s__law_cells) := ⟨rfl, rfl, rfl, by decide +kernel, rfl, by decide +kernel, by decide +kernel⟩
noncomputable def b__law_cells : PSt → Os :=
  (fSeq (fSet 2 (fOrT (fAppO dList (fCons (fun ps => ((fSl (fN 0) fNoPart (fSomePart (fN 1))) ps).map PV.data) (fun ps => .ok [] ps))) (fLst (fCons (fK (.int 0)) (fun ps => .ok [] ps)))))
  (fSeq (fFor (fEnum (fCons (fun ps => ((fSl (fN 0) (fSomePart (fN 1)) (fSomePart (fK (.int 63)))) ps).map PV.data) (fun ps => .ok [] ps))) (uTup 2 (uCons (uN 3) (uCons (uN 4) uNil))) (fSeq (fSet 5 (fun ps => ((fBin dMod (fApp dInt (fCons (fN 3) (fun ps => .ok [] ps))) (fLenS 2)) ps).map PV.val))
  (fSetIx 2 (fN 5) (fBin dAdd (fIxS 2 (fN 5)) (fBin dMul (fN 4) (fBin dAdd (fN 3) (fK (.int 2))))))))
  (fRet (fMv 2))))
noncomputable def M__law_cells : List PyData → FR := fun ds => (b__law_cells (startP 6 ds)).fin
theorem bd__law_cells {K : PySem.W.Frag} {f : Addr} {fd : FuncData} (Fn : FunD K "_law_cells" "_law_cells" (defArgs s__law_cells) (defBody s__law_cells) (defScope s__law_cells) [] [] f fd) : Binds K fd ["script", "many"] [] := Fn.bindsN fun _ _ _ _ _ _ us hl => match us, hl with | [_, _], _ => rfl
theorem ok__law_cells {P : Program} {w : World} {K : PySem.W.Frag} {mg : Str → Option Value} {base : Heap} {f : Addr} {fd : FuncData} {C_CanNot : Addr} {C_Unfit : Addr} (Fn : FunD K "_law_cells" "_law_cells" (defArgs s__law_cells) (defBody s__law_cells) (defScope s__law_cells) [] [] f fd) (hy : Hy K mg C_CanNot C_Unfit) (gf : mg "_law_cells" = some (.ref f)) : GFn P w K mg base "_law_cells" 1 2 M__law_cells := by
  refine GFn.of_body (k := 0) (n := 2) (N := ["script", "many", "cells", "k", "cell", "at"]) (ps := ["script", "many"]) Fn gf (bd__law_cells Fn) sc__law_cells rfl (g := b__law_cells) fun cdv A outer s H E hr => ?_
  have nd := sc__law_cells.nd
  exact (gss_cons (gs_set 2 (go_orT (go_callTy call_list_of (list_ok) rfl hy.n_list (by decide +kernel) (ga_cons (gv_of (go_slice (gv_name 0) gp_none (gp_some (gv_name 1)))) ga_nil)) (go_one (go_lst (ga_cons gv_int ga_nil)))) nd)
    (gss_cons (gs_for (passes_of rfl) rfl (gi_enum rfl hy.n_enumerate (ga_cons (gv_of (go_slice (gv_name 0) (gp_some (gv_name 1)) (gp_some gv_int))) ga_nil)) (gg_tup rfl (ggs_cons (gg_name 3 nd) (ggs_cons (gg_name 4 nd) ggs_nil))) (gss_cons (gs_set 5 (go_of (gv_bin op_mod mod_ok (gv_callTy call_int1 int1_ok rfl hy.n_int (by decide +kernel) (ga_cons (gv_name 3) ga_nil)) (gv_lenS 2 rfl hy.n_len))) nd)
    (gss_one (gs_setIx 2 (gv_bin op_addD add_ok (gv_ixS 2 (gv_name 5)) (gv_bin op_mul mul_ok (gv_name 4) (gv_bin op_addD add_ok (gv_name 3) gv_int))) (gv_name 5)))))
    (gss_one (gs_ret (go_move 2)))))
/-! _law_of -/
abbrev s__law_of : Stmt := top 45
theorem sc__law_of : FnScope ["urn", "some"] ["urn", "some"] (defScope s__law_of) := ⟨rfl, rfl, rfl, by decide +kernel, rfl, by decide +kernel, by decide +kernel⟩
noncomputable def b__law_of : PSt → Os :=
  (fRet (fun ps => ((fIxS 1 (fun ps => ((fCallU 0 1 M__law_take (fCons (fLenS 1) (fun ps => .ok [] ps))) ps).map PV.data)) ps).map PV.val))
noncomputable def M__law_of : List PyData → List PyData → FRU := fun u ds => (b__law_of (startU 2 u ds)).finU
theorem bd__law_of {K : PySem.W.Frag} {f : Addr} {fd : FuncData} (Fn : FunD K "_law_of" "_law_of" (defArgs s__law_of) (defBody s__law_of) (defScope s__law_of) [] [] f fd) : Binds K fd ["urn", "some"] [] := Fn.bindsN fun _ _ _ _ _ _ us hl => match us, hl with | [_, _], _ => rfl
theorem ok__law_of {P : Program} {w : World} {K : PySem.W.Frag} {mg : Str → Option Value} {base : Heap} {f : Addr} {fd : FuncData} {C_CanNot : Addr} {C_Unfit : Addr} (Fn : FunD K "_law_of" "_law_of" (defArgs s__law_of) (defBody s__law_of) (defScope s__law_of) [] [] f fd) (hy : Hy K mg C_CanNot C_Unfit) (gf : mg "_law_of" = some (.ref f)) (G__law_take : GFu P w K mg base "_law_take" 1 1 M__law_take) : GFu P w K mg base "_law_of" 2 1 M__law_of := by
  refine GFu.of_body (k := 1) (n := 1) (N := ["urn", "some"]) (ps := ["urn", "some"]) Fn gf (bd__law_of Fn) sc__law_of rfl (g := b__law_of) fun cdv A outer s H E a hr => ?_
  have nd := sc__law_of.nd
  exact (gss_one (gs_ret (go_of (gv_ixS 1 (gv_of (go_callU 0 G__law_take (hr.mono (by decide)) rfl (takes_of rfl rfl rfl rfl) (ga_cons (gv_lenS 1 rfl hy.n_len) ga_nil)))))))
/-! _law_same -/
abbrev s__law_same : Stmt := top 46
theorem sc__law_same : FnScope ["got", "goal", "mine", "own"] ["got", "goal"] (defScope s__law_same) := ⟨rfl, rfl, rfl, by decide +kernel, rfl, by decide +kernel, by decide +kernel⟩
noncomputable def b__law_same (M : List PyData → FR) : PSt → Os :=
  (fSeq (fIfS (fTest (fIsi (isa2 "list" "tuple") (fN 1))) (fSeq (fIfS (fOr (fTest (fBin dNe (fIsi (isaD "list") (fN 0)) (fIsi (isaD "list") (fN 1)))) (fTest (fBin dNe (fIsi (isaD "tuple") (fN 0)) (fIsi (isaD "tuple") (fN 1))))) (fRet (fun ps => ((fK (.bool false)) ps).map PV.val)) fSkip)
  (fRet (fun ps => ((fAndV (fBin dEq (fLenS 0) (fLenS 1)) (fApp dAll (fCons (fun ps => ((fLc (fZip (fCons (fN 0) (fCons (fN 1) (fun ps => .ok [] ps)))) (uTup 2 (uCons (uN 2) (uCons (uN 3) uNil))) cYes (fun ps => ((fCall 2 M (fCons (fN 2) (fCons (fN 3) (fun ps => .ok [] ps)))) ps).map PV.data) [2, 3]) ps).map PV.data) (fun ps => .ok [] ps)))) ps).map PV.val))) fSkip)
  (fSeq (fIfS (fOr (fTest (fBinS dIs 1 (fK .none))) (fTest (fIsi (isa2 "bool" "str") (fN 1)))) (fRet (fun ps => ((fAndV (fBinS dEq 0 (fN 1)) (fAndV (fBin dEq (fIsi (isaD "str") (fN 0)) (fIsi (isaD "str") (fN 1))) (fAndV (fBin dEq (fIsi (isaD "bool") (fN 0)) (fIsi (isaD "bool") (fN 1))) (fBin dEq (fBinS dIs 0 (fK .none)) (fBinS dIs 1 (fK .none)))))) ps).map PV.val)) fSkip)
  (fRet (fun ps => ((fAndV (fIsi (isaD "int") (fN 0)) (fAndV (fNotV (fIsi (isaD "bool") (fN 0))) (fBinS dEq 0 (fN 1)))) ps).map PV.val))))
noncomputable def R__law_same : Nat → List PyData → FR
  | 0 => fun _ => .bad
  | k + 1 => fun ds => (b__law_same (R__law_same k) (startP 4 ds)).fin
noncomputable def M__law_same : List PyData → FR := R__law_same 40
theorem bd__law_same {K : PySem.W.Frag} {f : Addr} {fd : FuncData} (Fn : FunD K "_law_same" "_law_same" (defArgs s__law_same) (defBody s__law_same) (defScope s__law_same) [] [] f fd) : Binds K fd ["got", "goal"] [] := Fn.bindsN fun _ _ _ _ _ _ us hl => match us, hl with | [_, _], _ => rfl
theorem okR__law_same {P : Program} {w : World} {K : PySem.W.Frag} {mg : Str → Option Value} {base : Heap} {f : Addr} {fd : FuncData} {C_CanNot : Addr} {C_Unfit : Addr} (Fn : FunD K "_law_same" "_law_same" (defArgs s__law_same) (defBody s__law_same) (defScope s__law_same) [] [] f fd) (hy : Hy K mg C_CanNot C_Unfit) (gf : mg "_law_same" = some (.ref f)) : ∀ j, GFn P w K mg base "_law_same" (j + 0) 2 (R__law_same j)
  | 0 => GFn.zero (ps := ["got", "goal"]) rfl gf Fn.kp (bd__law_same Fn)
  | j + 1 => by
    have G__law_same := okR__law_same (P := P) (w := w) (base := base) Fn hy gf j
    refine GFn.mono (k := j + 0 + 1) (M := fun ds => (b__law_same (R__law_same j) (startP 4 ds)).fin) ?_ (by omega) fun ds => .inr rfl
    refine GFn.of_body (k := j + 0) (n := 2) (N := ["got", "goal", "mine", "own"]) (ps := ["got", "goal"]) Fn gf (bd__law_same Fn) sc__law_same rfl (g := b__law_same (R__law_same j)) fun cdv A outer s H E hr => ?_
    have nd := sc__law_same.nd
    exact (gss_cons (gs_if (gt_val (gv_isi2 (tn := "list") (tn2 := "tuple") (gv_name 1) rfl hy.n_isinstance rfl hy.n_list (by decide +kernel) rfl hy.n_tuple (by decide +kernel))) (gss_cons (gs_if (gt_w (gw_or (gt_cmp (op_neD hr.units) ne_ok (gv_isi (tn := "list") (gv_name 0) rfl hy.n_isinstance rfl hy.n_list (by decide +kernel)) (gv_isi (tn := "list") (gv_name 1) rfl hy.n_isinstance rfl hy.n_list (by decide +kernel))) (gw_or1 (gt_cmp (op_neD hr.units) ne_ok (gv_isi (tn := "tuple") (gv_name 0) rfl hy.n_isinstance rfl hy.n_tuple (by decide +kernel)) (gv_isi (tn := "tuple") (gv_name 1) rfl hy.n_isinstance rfl hy.n_tuple (by decide +kernel)))))) (gss_one (gs_ret (go_of gv_bl))) gss_nil)
    (gss_one (gs_ret (go_of (gv_and (gv_cmp (op_eqD hr.units) eq_ok (gv_lenS 0 rfl hy.n_len) (gv_lenS 1 rfl hy.n_len)) (gv_one (gv_callB (cr_all rfl) all_ok rfl hy.n_all (by decide +kernel) (ga_cons (gv_of (go_lc [("mine", 2), ("own", 3)] rfl nd (gi_zip rfl hy.n_zip (ga_cons (gv_name 0) (ga_cons (gv_name 1) ga_nil))) (blkOk_by (N := ["got", "goal", "mine", "own"]) (sc := defScope s__law_same) (own := [("mine", 2), ("own", 3)]) (by decide +kernel)) (fun _ _ _ _ _ => (gg_tup rfl (ggs_cons (gg_name 2 nd) (ggs_cons (gg_name 3 nd) ggs_nil)))) (fun _ _ _ _ _ => gts_nil) (fun _ _ _ _ _ => (gv_of (go_call G__law_same hr rfl takes0 (ga_cons (gv_name 2) (ga_cons (gv_name 3) ga_nil))))))) ga_nil)))))))) gss_nil)
    (gss_cons (gs_if (gt_w (gw_or (gt_cmpS 1 op_isD is_ok bool_dIs gv_non) (gw_or1 (gt_val (gv_isi2 (tn := "bool") (tn2 := "str") (gv_name 1) rfl hy.n_isinstance rfl hy.n_bool (by decide +kernel) rfl hy.n_str (by decide +kernel)))))) (gss_one (gs_ret (go_of (gv_and (gv_cmpS 0 (op_eqD hr.units) eq_ok bool_dEq (gv_name 1)) (gv_and (gv_cmp (op_eqD hr.units) eq_ok (gv_isi (tn := "str") (gv_name 0) rfl hy.n_isinstance rfl hy.n_str (by decide +kernel)) (gv_isi (tn := "str") (gv_name 1) rfl hy.n_isinstance rfl hy.n_str (by decide +kernel))) (gv_and (gv_cmp (op_eqD hr.units) eq_ok (gv_isi (tn := "bool") (gv_name 0) rfl hy.n_isinstance rfl hy.n_bool (by decide +kernel)) (gv_isi (tn := "bool") (gv_name 1) rfl hy.n_isinstance rfl hy.n_bool (by decide +kernel))) (gv_one (gv_cmp (op_eqD hr.units) eq_ok (gv_cmpS 0 op_isD is_ok bool_dIs gv_non) (gv_cmpS 1 op_isD is_ok bool_dIs gv_non))))))))) gss_nil)
    (gss_one (gs_ret (go_of (gv_and (gv_isi (tn := "int") (gv_name 0) rfl hy.n_isinstance rfl hy.n_int (by decide +kernel)) (gv_and (gv_not (gv_isi (tn := "bool") (gv_name 0) rfl hy.n_isinstance rfl hy.n_bool (by decide +kernel))) (gv_one (gv_cmpS 0 (op_eqD hr.units) eq_ok bool_dEq (gv_name 1))))))))))
theorem ok__law_same {P : Program} {w : World} {K : PySem.W.Frag} {mg : Str → Option Value} {base : Heap} {f : Addr} {fd : FuncData} {C_CanNot : Addr} {C_Unfit : Addr} (Fn : FunD K "_law_same" "_law_same" (defArgs s__law_same) (defBody s__law_same) (defScope s__law_same) [] [] f fd) (hy : Hy K mg C_CanNot C_Unfit) (gf : mg "_law_same" = some (.ref f)) : GFn P w K mg base "_law_same" 40 2 M__law_same := okR__law_same Fn hy gf 40
/-! _law_pairs -/
abbrev s__law_pairs : Stmt := top 47
theorem sc__law_pairs : FnScope ["one", "other", "found", "near", "far"] ["one", "other"] (defScope s__law_pairs) := ⟨rfl, rfl, rfl, by decide +kernel, rfl, by decide +kernel, by decide +kernel⟩
noncomputable def b__law_pairs : PSt → Os :=
  (fSeq (fSet 2 (fLst (fun ps => .ok [] ps)))
  (fSeq (fFor (fSeqI (fN 0)) (uN 3) (fSet 2 (fBinO dCatL (fN 2) (fun ps => ((fLc (fSeqI (fN 1)) (uN 4) cYes (fTup (fCons (fN 3) (fCons (fN 4) (fun ps => .ok [] ps)))) [4]) ps).map PV.data))))
  (fRet (fMv 2))))
noncomputable def M__law_pairs : List PyData → FR := fun ds => (b__law_pairs (startP 5 ds)).fin
theorem bd__law_pairs {K : PySem.W.Frag} {f : Addr} {fd : FuncData} (Fn : FunD K "_law_pairs" "_law_pairs" (defArgs s__law_pairs) (defBody s__law_pairs) (defScope s__law_pairs) [] [] f fd) : Binds K fd ["one", "other"] [] := Fn.bindsN fun _ _ _ _ _ _ us hl => match us, hl with | [_, _], _ => rfl
theorem ok__law_pairs {P : Program} {w : World} {K : PySem.W.Frag} {mg : Str → Option Value} {base : Heap} {f : Addr} {fd : FuncData} {C_CanNot : Addr} {C_Unfit : Addr} (Fn : FunD K "_law_pairs" "_law_pairs" (defArgs s__law_pairs) (defBody s__law_pairs) (defScope s__law_pairs) [] [] f fd) (hy : Hy K mg C_CanNot C_Unfit) (gf : mg "_law_pairs" = some (.ref f)) : GFn P w K mg base "_law_pairs" 1 2 M__law_pairs := by
  refine GFn.of_body (k := 0) (n := 2) (N := ["one", "other", "found", "near", "far"]) (ps := ["one", "other"]) Fn gf (bd__law_pairs Fn) sc__law_pairs rfl (g := b__law_pairs) fun cdv A outer s H E hr => ?_
  have nd := sc__law_pairs.nd
  exact (gss_cons (gs_set 2 (go_lst ga_nil) nd)
    (gss_cons (gs_for (passes_of rfl) rfl (gi_seq (gv_name 0)) (gg_name 3 nd) (gss_one (gs_set 2 (go_catL (gv_name 2) (gv_of (go_lc [("far", 4)] rfl nd (gi_seq (gv_name 1)) (blkOk_by (N := ["one", "other", "found", "near", "far"]) (sc := defScope s__law_pairs) (own := [("far", 4)]) (by decide +kernel)) (fun _ _ _ _ _ => (gg_name 4 nd)) (fun _ _ _ _ _ => gts_nil) (fun _ _ _ _ _ => (gv_tup (ga_cons (gv_name 3) (ga_cons (gv_name 4) ga_nil))))))) nd)))
    (gss_one (gs_ret (go_move 2)))))
/-! _law_piece -/
abbrev s__law_piece : Stmt := top 48
theorem sc__law_piece : FnScope ["urn", "most", "k"] ["urn", "most"] (defScope s__law_piece) := ⟨rfl, rfl, rfl, by decide +kernel, rfl, by decide +kernel, by decide +kernel⟩
noncomputable def b__law_piece : PSt → Os :=
  (fRet (fun ps => ((fApp dTuple (fCons (fun ps => ((fLc (fRange1 (fCons (fun ps => ((fCallU 0 1 M__law_take (fCons (fBin dAdd (fN 1) (fK (.int 1))) (fun ps => .ok [] ps))) ps).map PV.data) (fun ps => .ok [] ps))) (uN 2) cYes (fBin dIx (fTup (fCons (fK (.int 0)) (fCons (fK (.int 1)) (fCons (fK (.int 1)) (fCons (fK (.int 2)) (fun ps => .ok [] ps)))))) (fun ps => ((fCallU 0 1 M__law_take (fCons (fK (.int 4)) (fun ps => .ok [] ps))) ps).map PV.data)) [2]) ps).map PV.data) (fun ps => .ok [] ps))) ps).map PV.val))
noncomputable def M__law_piece : List PyData → List PyData → FRU := fun u ds => (b__law_piece (startU 3 u ds)).finU
theorem bd__law_piece {K : PySem.W.Frag} {f : Addr} {fd : FuncData} (Fn : FunD K "_law_piece" "_law_piece" (defArgs s__law_piece) (defBody s__law_piece) (defScope s__law_piece) [] [] f fd) : Binds K fd ["urn", "most"] [] := Fn.bindsN fun _ _ _ _ _ _ us hl => match us, hl with | [_, _], _ => rfl
theorem ok__law_piece {P : Program} {w : World} {K : PySem.W.Frag} {mg : Str → Option Value} {base : Heap} {f : Addr} {fd : FuncData} {C_CanNot : Addr} {C_Unfit : Addr} (Fn : FunD K "_law_piece" "_law_piece" (defArgs s__law_piece) (defBody s__law_piece) (defScope s__law_piece) [] [] f fd) (hy : Hy K mg C_CanNot C_Unfit) (gf : mg "_law_piece" = some (.ref f)) (G__law_take : GFu P w K mg base "_law_take" 1 1 M__law_take) : GFu P w K mg base "_law_piece" 2 1 M__law_piece := by
  refine GFu.of_body (k := 1) (n := 1) (N := ["urn", "most", "k"]) (ps := ["urn", "most"]) Fn gf (bd__law_piece Fn) sc__law_piece rfl (g := b__law_piece) fun cdv A outer s H E a hr => ?_
  have nd := sc__law_piece.nd
  exact (gss_one (gs_ret (go_of (gv_callTy call_tuple_of (tuple_ok) rfl hy.n_tuple (by decide +kernel) (ga_cons (gv_of (go_lc [("k", 2)] rfl nd (gi_range1 rfl hy.n_range (ga_cons (gv_of (go_callU 0 G__law_take (hr.mono (by decide)) rfl (takes_of rfl rfl rfl rfl) (ga_cons (gv_bin op_addD add_ok (gv_name 1) gv_int) ga_nil))) ga_nil)) (blkOk_by (N := ["urn", "most", "k"]) (sc := defScope s__law_piece) (own := [("k", 2)]) (by decide +kernel)) (fun _ _ _ _ _ => (gg_name 2 nd)) (fun _ _ _ _ _ => gts_nil) (fun _ _ _ _ _ => (gv_ix (gv_tup (ga_cons gv_int (ga_cons gv_int (ga_cons gv_int (ga_cons gv_int ga_nil))))) (gv_of (go_callU 0 G__law_take (hr.mono (by decide)) rfl takes0 (ga_cons gv_int ga_nil))))))) ga_nil)))))
/-! _law_text -/
abbrev s__law_text : Stmt := top 49
theorem sc__law_text : FnScope ["urn", "wide", "most", "k"] ["urn", "wide", "most"] (defScope s__law_text) := ⟨rfl, rfl, rfl, by decide +kernel, rfl, by decide +kernel, by decide +kernel⟩
noncomputable def b__law_text : PSt → Os :=
  (fRet (fun ps => ((fApp dTuple (fCons (fun ps => ((fLc (fRange1 (fCons (fun ps => ((fCallU 0 1 M__law_take (fCons (fBin dAdd (fN 2) (fK (.int 1))) (fun ps => .ok [] ps))) ps).map PV.data) (fun ps => .ok [] ps))) (uN 3) cYes (fBin dAdd (fK (.int 1)) (fun ps => ((fCallU 0 1 M__law_take (fCons (fN 1) (fun ps => .ok [] ps))) ps).map PV.data)) [3]) ps).map PV.data) (fun ps => .ok [] ps))) ps).map PV.val))
noncomputable def M__law_text : List PyData → List PyData → FRU := fun u ds => (b__law_text (startU 4 u ds)).finU
theorem bd__law_text {K : PySem.W.Frag} {f : Addr} {fd : FuncData} (Fn : FunD K "_law_text" "_law_text" (defArgs s__law_text) (defBody s__law_text) (defScope s__law_text) [] [] f fd) : Binds K fd ["urn", "wide", "most"] [] := Fn.bindsN fun _ _ _ _ _ _ us hl => match us, hl with | [_, _, _], _ => rfl
theorem ok__law_text {P : Program} {w : World} {K : PySem.W.Frag} {mg : Str → Option Value} {base : Heap} {f : Addr} {fd : FuncData} {C_CanNot : Addr} {C_Unfit : Addr} (Fn : FunD K "_law_text" "_law_text" (defArgs s__law_text) (defBody s__law_text) (defScope s__law_text) [] [] f fd) (hy : Hy K mg C_CanNot C_Unfit) (gf : mg "_law_text" = some (.ref f)) (G__law_take : GFu P w K mg base "_law_take" 1 1 M__law_take) : GFu P w K mg base "_law_text" 2 2 M__law_text := by
  refine GFu.of_body (k := 1) (n := 2) (N := ["urn", "wide", "most", "k"]) (ps := ["urn", "wide", "most"]) Fn gf (bd__law_text Fn) sc__law_text rfl (g := b__law_text) fun cdv A outer s H E a hr => ?_
  have nd := sc__law_text.nd
  exact (gss_one (gs_ret (go_of (gv_callTy call_tuple_of (tuple_ok) rfl hy.n_tuple (by decide +kernel) (ga_cons (gv_of (go_lc [("k", 3)] rfl nd (gi_range1 rfl hy.n_range (ga_cons (gv_of (go_callU 0 G__law_take (hr.mono (by decide)) rfl (takes_of rfl rfl rfl rfl) (ga_cons (gv_bin op_addD add_ok (gv_name 2) gv_int) ga_nil))) ga_nil)) (blkOk_by (N := ["urn", "wide", "most", "k"]) (sc := defScope s__law_text) (own := [("k", 3)]) (by decide +kernel)) (fun _ _ _ _ _ => (gg_name 3 nd)) (fun _ _ _ _ _ => gts_nil) (fun _ _ _ _ _ => (gv_bin op_addD add_ok gv_int (gv_of (go_callU 0 G__law_take (hr.mono (by decide)) rfl takes0 (ga_cons (gv_name 1) ga_nil))))))) ga_nil)))))
/-! _law_texts -/
abbrev s__law_texts : Stmt := top 50
theorem sc__law_texts : FnScope ["wide", "most", "lap", "found", "last", "own", "letter"] ["wide", "most"] (defScope s__law_texts) := ⟨rfl, rfl, rfl, by decide +kernel, rfl, by decide +kernel, by decide +kernel⟩
noncomputable def b__law_texts : PSt → Os :=
  (fSeq (fPar 3 4 (fLst (fCons (fTup (fun ps => .ok [] ps)) (fun ps => .ok [] ps))) (fLst (fCons (fTup (fun ps => .ok [] ps)) (fun ps => .ok [] ps))))
  (fSeq (fFor (fRange1 (fCons (fN 1) (fun ps => .ok [] ps))) (uN 2) (fSeq (fSet 4 (fLc (fSeqI (fun ps => ((fCall 2 M__law_pairs (fCons (fN 4) (fCons (fun ps => ((fLRg2 (fK (.int 1)) (fBin dAdd (fN 0) (fK (.int 1)))) ps).map PV.data) (fun ps => .ok [] ps)))) ps).map PV.data)) (uTup 2 (uCons (uN 5) (uCons (uN 6) uNil))) cYes (fBin dAdd (fN 5) (fTup (fCons (fN 6) (fun ps => .ok [] ps)))) [5, 6]))
  (fSet 3 (fBinO dCatL (fN 3) (fN 4)))))
  (fRet (fMv 3))))
noncomputable def M__law_texts : List PyData → FR := fun ds => (b__law_texts (startP 7 ds)).fin
theorem bd__law_texts {K : PySem.W.Frag} {f : Addr} {fd : FuncData} (Fn : FunD K "_law_texts" "_law_texts" (defArgs s__law_texts) (defBody s__law_texts) (defScope s__law_texts) [] [] f fd) : Binds K fd ["wide", "most"] [] := Fn.bindsN fun _ _ _ _ _ _ us hl => match us, hl with | [_, _], _ => rfl
theorem ok__law_texts {P : Program} {w : World} {K : PySem.W.Frag} {mg : Str → Option Value} {base : Heap} {f : Addr} {fd : FuncData} {C_CanNot : Addr} {C_Unfit : Addr} (Fn : FunD K "_law_texts" "_law_texts" (defArgs s__law_texts) (defBody s__law_texts) (defScope s__law_texts) [] [] f fd) (hy : Hy K mg C_CanNot C_Unfit) (gf : mg "_law_texts" = some (.ref f)) (G__law_pairs : GFn P w K mg base "_law_pairs" 1 2 M__law_pairs) : GFn P w K mg base "_law_texts" 2 2 M__law_texts := by
  refine GFn.of_body (k := 1) (n := 2) (N := ["wide", "most", "lap", "found", "last", "own", "letter"]) (ps := ["wide", "most"]) Fn gf (bd__law_texts Fn) sc__law_texts rfl (g := b__law_texts) fun cdv A outer s H E hr => ?_
  have nd := sc__law_texts.nd
  exact (gss_cons (gs_par 3 4 (go_lst (ga_cons (gv_tup ga_nil) ga_nil)) (go_lst (ga_cons (gv_tup ga_nil) ga_nil)) rfl nd rfl rfl (by rfl))
    (gss_cons (gs_for (passes_of rfl) rfl (gi_range1 rfl hy.n_range (ga_cons (gv_name 1) ga_nil)) (gg_name 2 nd) (gss_cons (gs_setLc 4 [("own", 5), ("letter", 6)] rfl nd rfl (sw_true rfl rfl rfl (by decide +kernel)) (gi_seq (gv_of (go_call G__law_pairs (hr.mono (by decide)) rfl (takes_of rfl rfl rfl rfl) (ga_cons (gv_name 4) (ga_cons (gv_of (go_listRg2 rfl rfl hy.n_list rfl hy.n_range gv_int (gv_bin op_addD add_ok (gv_name 0) gv_int))) ga_nil))))) (blkOk_by (N := ["wide", "most", "lap", "found", "last", "own", "letter"]) (sc := defScope s__law_texts) (own := [("own", 5), ("letter", 6)]) (by decide +kernel)) (fun _ _ _ _ _ => (gg_tup rfl (ggs_cons (gg_name 5 nd) (ggs_cons (gg_name 6 nd) ggs_nil)))) (fun _ _ _ _ _ => gts_nil) (fun _ _ _ _ _ => (gv_bin op_addD add_ok (gv_name 5) (gv_tup (ga_cons (gv_name 6) ga_nil)))))
    (gss_one (gs_set 3 (go_catL (gv_name 3) (gv_name 4)) nd))))
    (gss_one (gs_ret (go_move 3)))))
/-! _law_set -/
abbrev s__law_set : Stmt := top 51
theorem sc__law_set : FnScope ["things"] ["things"] (defScope s__law_set) := ⟨rfl, rfl, rfl, by decide +kernel, rfl, by decide +kernel, by decide +kernel⟩
noncomputable def b__law_set : PSt → Os :=
  (fRet (fun ps => ((fApp dTuple (fCons (fun ps => ((fAppO GS.dSortSetA (fCons (fN 0) (fun ps => .ok [] ps))) ps).map PV.data) (fun ps => .ok [] ps))) ps).map PV.val))
noncomputable def M__law_set : List PyData → FR := fun ds => (b__law_set (startP 1 ds)).fin
theorem bd__law_set {K : PySem.W.Frag} {f : Addr} {fd : FuncData} (Fn : FunD K "_law_set" "_law_set" (defArgs s__law_set) (defBody s__law_set) (defScope s__law_set) [] [] f fd) : Binds K fd ["things"] [] := Fn.bindsN fun _ _ _ _ _ _ us hl => match us, hl with | [_], _ => rfl
theorem ok__law_set {P : Program} {w : World} {K : PySem.W.Frag} {mg : Str → Option Value} {base : Heap} {f : Addr} {fd : FuncData} {C_CanNot : Addr} {C_Unfit : Addr} (Fn : FunD K "_law_set" "_law_set" (defArgs s__law_set) (defBody s__law_set) (defScope s__law_set) [] [] f fd) (hy : Hy K mg C_CanNot C_Unfit) (gf : mg "_law_set" = some (.ref f)) : GFn P w K mg base "_law_set" 1 1 M__law_set := by
  refine GFn.of_body (k := 0) (n := 1) (N := ["things"]) (ps := ["things"]) Fn gf (bd__law_set Fn) sc__law_set rfl (g := b__law_set) fun cdv A outer s H E hr => ?_
  have nd := sc__law_set.nd
  exact (gss_one (gs_ret (go_of (gv_callTy call_tuple_of (tuple_ok) rfl hy.n_tuple (by decide +kernel) (ga_cons (gv_of (GS.go_sortSetA rfl (Nat.lt_of_succ_lt hr.u65) rfl hy.n_sorted rfl hy.n_set (ga_cons (gv_name 0) ga_nil))) ga_nil)))))
/-! _law_after -/
abbrev s__law_after : Stmt := top 52
theorem sc__law_after : FnScope ["pens", "text", "letter", "state", "sheets", "moves", "source", "piece"] ["pens", "text"] (defScope s__law_after) := ⟨rfl, rfl, rfl, by decide +kernel, rfl, by decide +kernel, by decide +kernel⟩
noncomputable def b__law_after : PSt → Os :=
  (fSeq (fAsg (uTup 2 (uCons (uN 3) (uCons (uN 4) uNil))) (fIxS 0 (fK (.int 0))))
  (fSeq (fFor (fSeqI (fN 1)) (uN 2) (fSeq (fAsg (uTup 2 (uCons (uN 3) (uCons (uN 5) uNil))) (fBin dIx (fBin dIx (fIxS 0 (fK (.int 1))) (fN 3)) (fBin dSub (fN 2) (fK (.int 1)))))
  (fSet 4 (fun ps => ((fApp dTuple (fCons (fun ps => ((fLc (fSeqI (fN 5)) (uTup 2 (uCons (uN 6) (uCons (uN 7) uNil))) cYes (fBin dAdd (fIxS 4 (fN 6)) (fN 7)) [6, 7]) ps).map PV.data) (fun ps => .ok [] ps))) ps).map PV.val))))
  (fRet (fun ps => ((fTup (fCons (fN 3) (fCons (fN 4) (fun ps => .ok [] ps)))) ps).map PV.val))))
noncomputable def M__law_after : List PyData → FR := fun ds => (b__law_after (startP 8 ds)).fin
theorem bd__law_after {K : PySem.W.Frag} {f : Addr} {fd : FuncData} (Fn : FunD K "_law_after" "_law_after" (defArgs s__law_after) (defBody s__law_after) (defScope s__law_after) [] [] f fd) : Binds K fd ["pens", "text"] [] := Fn.bindsN fun _ _ _ _ _ _ us hl => match us, hl with | [_, _], _ => rfl
theorem ok__law_after {P : Program} {w : World} {K : PySem.W.Frag} {mg : Str → Option Value} {base : Heap} {f : Addr} {fd : FuncData} {C_CanNot : Addr} {C_Unfit : Addr} (Fn : FunD K "_law_after" "_law_after" (defArgs s__law_after) (defBody s__law_after) (defScope s__law_after) [] [] f fd) (hy : Hy K mg C_CanNot C_Unfit) (gf : mg "_law_after" = some (.ref f)) : GFn P w K mg base "_law_after" 1 2 M__law_after := by
  refine GFn.of_body (k := 0) (n := 2) (N := ["pens", "text", "letter", "state", "sheets", "moves", "source", "piece"]) (ps := ["pens", "text"]) Fn gf (bd__law_after Fn) sc__law_after rfl (g := b__law_after) fun cdv A outer s H E hr => ?_
  have nd := sc__law_after.nd
  exact (gss_cons (gs_asg (gv_ixS 0 gv_int) (gg_tup rfl (ggs_cons (gg_name 3 nd) (ggs_cons (gg_name 4 nd) ggs_nil))))
    (gss_cons (gs_for (passes_of rfl) rfl (gi_seq (gv_name 1)) (gg_name 2 nd) (gss_cons (gs_asg (gv_ix (gv_ix (gv_ixS 0 gv_int) (gv_name 3)) (gv_bin op_sub sub_ok (gv_name 2) gv_int)) (gg_tup rfl (ggs_cons (gg_name 3 nd) (ggs_cons (gg_name 5 nd) ggs_nil))))
    (gss_one (gs_set 4 (go_of (gv_callTy call_tuple_of (tuple_ok) rfl hy.n_tuple (by decide +kernel) (ga_cons (gv_of (go_lc [("source", 6), ("piece", 7)] rfl nd (gi_seq (gv_name 5)) (blkOk_by (N := ["pens", "text", "letter", "state", "sheets", "moves", "source", "piece"]) (sc := defScope s__law_after) (own := [("source", 6), ("piece", 7)]) (by decide +kernel)) (fun _ _ _ _ _ => (gg_tup rfl (ggs_cons (gg_name 6 nd) (ggs_cons (gg_name 7 nd) ggs_nil)))) (fun _ _ _ _ _ => gts_nil) (fun _ _ _ _ _ => (gv_bin op_addD add_ok (gv_ixS 4 (gv_name 6)) (gv_name 7))))) ga_nil))) nd))))
    (gss_one (gs_ret (go_of (gv_tup (ga_cons (gv_name 3) (ga_cons (gv_name 4) ga_nil))))))))
/-! _law_pen_results -/
abbrev s__law_pen_results : Stmt := top 53
theorem sc__law_pen_results : FnScope ["pens", "text", "state", "sheets", "sheet", "piece"] ["pens", "text"] (defScope s__law_pen_results) := ⟨rfl, rfl, rfl, by decide +kernel, rfl, by decide +kernel, by decide +kernel⟩
noncomputable def b__law_pen_results : PSt → Os :=
  (fSeq (fAsg (uTup 2 (uCons (uN 2) (uCons (uN 3) uNil))) (fun ps => ((fCall 2 M__law_after (fCons (fN 0) (fCons (fN 1) (fun ps => .ok [] ps)))) ps).map PV.data))
  (fRet (fCall 1 M__law_set (fCons (fun ps => ((fLc (fSeqI (fBin dIx (fIxS 0 (fK (.int 2))) (fN 2))) (uTup 2 (uCons (uN 4) (uCons (uN 5) uNil))) cYes (fBin dAdd (fIxS 3 (fN 4)) (fN 5)) [4, 5]) ps).map PV.data) (fun ps => .ok [] ps)))))
noncomputable def M__law_pen_results : List PyData → FR := fun ds => (b__law_pen_results (startP 6 ds)).fin
theorem bd__law_pen_results {K : PySem.W.Frag} {f : Addr} {fd : FuncData} (Fn : FunD K "_law_pen_results" "_law_pen_results" (defArgs s__law_pen_results) (defBody s__law_pen_results) (defScope s__law_pen_results) [] [] f fd) : Binds K fd ["pens", "text"] [] := Fn.bindsN fun _ _ _ _ _ _ us hl => match us, hl with | [_, _], _ => rfl
theorem ok__law_pen_results {P : Program} {w : World} {K : PySem.W.Frag} {mg : Str → Option Value} {base : Heap} {f : Addr} {fd : FuncData} {C_CanNot : Addr} {C_Unfit : Addr} (Fn : FunD K "_law_pen_results" "_law_pen_results" (defArgs s__law_pen_results) (defBody s__law_pen_results) (defScope s__law_pen_results) [] [] f fd) (hy : Hy K mg C_CanNot C_Unfit) (gf : mg "_law_pen_results" = some (.ref f)) (G__law_set : GFn P w K mg base "_law_set" 1 1 M__law_set) (G__law_after : GFn P w K mg base "_law_after" 1 2 M__law_after) : GFn P w K mg base "_law_pen_results" 2 2 M__law_pen_results := by
  refine GFn.of_body (k := 1) (n := 2) (N := ["pens", "text", "state", "sheets", "sheet", "piece"]) (ps := ["pens", "text"]) Fn gf (bd__law_pen_results Fn) sc__law_pen_results rfl (g := b__law_pen_results) fun cdv A outer s H E hr => ?_
  have nd := sc__law_pen_results.nd
  exact (gss_cons (gs_asg (gv_of (go_call G__law_after (hr.mono (by decide)) rfl (takes_of rfl rfl rfl rfl) (ga_cons (gv_name 0) (ga_cons (gv_name 1) ga_nil)))) (gg_tup rfl (ggs_cons (gg_name 2 nd) (ggs_cons (gg_name 3 nd) ggs_nil))))
    (gss_one (gs_ret (go_call G__law_set (hr.mono (by decide)) rfl (takes_of rfl rfl rfl rfl) (ga_cons (gv_of (go_lc [("sheet", 4), ("piece", 5)] rfl nd (gi_seq (gv_ix (gv_ixS 0 gv_int) (gv_name 2))) (blkOk_by (N := ["pens", "text", "state", "sheets", "sheet", "piece"]) (sc := defScope s__law_pen_results) (own := [("sheet", 4), ("piece", 5)]) (by decide +kernel)) (fun _ _ _ _ _ => (gg_tup rfl (ggs_cons (gg_name 4 nd) (ggs_cons (gg_name 5 nd) ggs_nil)))) (fun _ _ _ _ _ => gts_nil) (fun _ _ _ _ _ => (gv_bin op_addD add_ok (gv_ixS 3 (gv_name 4)) (gv_name 5))))) ga_nil)))))
/-! _law_unlike -/
abbrev s__law_unlike : Stmt := top 54
theorem sc__law_unlike : FnScope ["pens", "one", "other"] ["pens", "one", "other"] (defScope s__law_unlike) := ⟨rfl, rfl, rfl, by decide +kernel, rfl, by decide +kernel, by decide +kernel⟩
noncomputable def b__law_unlike : PSt → Os :=
  (fTry [] "CanNot" (fRet (fCall 3 M_unlike_effect (fCons (fN 0) (fCons (fN 1) (fCons (fN 2) (fun ps => .ok [] ps)))))) (fRet (fun ps => ((fK .none) ps).map PV.val)))
noncomputable def M__law_unlike : List PyData → FR := fun ds => (b__law_unlike (startP 3 ds)).fin
theorem bd__law_unlike {K : PySem.W.Frag} {f : Addr} {fd : FuncData} (Fn : FunD K "_law_unlike" "_law_unlike" (defArgs s__law_unlike) (defBody s__law_unlike) (defScope s__law_unlike) [] [] f fd) : Binds K fd ["pens", "one", "other"] [] := Fn.bindsN fun _ _ _ _ _ _ us hl => match us, hl with | [_, _, _], _ => rfl
theorem ok__law_unlike {P : Program} {w : World} {K : PySem.W.Frag} {mg : Str → Option Value} {base : Heap} {f : Addr} {fd : FuncData} {C_CanNot : Addr} {C_Unfit : Addr} (Fn : FunD K "_law_unlike" "_law_unlike" (defArgs s__law_unlike) (defBody s__law_unlike) (defScope s__law_unlike) [] [] f fd) (hy : Hy K mg C_CanNot C_Unfit) (gf : mg "_law_unlike" = some (.ref f)) (G_unlike_effect : GFn P w K mg base "unlike_effect" 44 3 M_unlike_effect) : GFn P w K mg base "_law_unlike" 45 3 M__law_unlike := by
  refine GFn.of_body (k := 44) (n := 3) (N := ["pens", "one", "other"]) (ps := ["pens", "one", "other"]) Fn gf (bd__law_unlike Fn) sc__law_unlike rfl (g := b__law_unlike) fun cdv A outer s H E hr => ?_
  have nd := sc__law_unlike.nd
  exact (gss_one (gs_try (L := []) rfl rfl rfl hy.e_CanNot.g (takes_of rfl rfl rfl rfl) hy.e_CanNot.m (fun _ h => by cases h) (fun W pn xe tk hp => (gss_one (gs_ret (go_call G_unlike_effect (hr.mono (by decide)) rfl tk (ga_cons (gv_name 0) (ga_cons (gv_name 1) (ga_cons (gv_name 2) ga_nil))))))) (fun a oe pn => (gss_one (gs_ret (go_of gv_non))))))
/-! _law_turning -/
abbrev s__law_turning : Stmt := top 55
theorem sc__law_turning : FnScope ["urn", "wide", "rows", "many", "width", "state", "letter", "k"] ["urn", "wide"] (defScope s__law_turning) := ⟨rfl, rfl, rfl, by decide +kernel, rfl, by decide +kernel, by decide +kernel⟩
noncomputable def b__law_turning : PSt → Os :=
  (fSeq (fPar 3 4 (fun ps => ((fBin dAdd (fK (.int 1)) (fun ps => ((fCallU 0 1 M__law_take (fCons (fK (.int 3)) (fun ps => .ok [] ps))) ps).map PV.data)) ps).map PV.val) (fun ps => ((fBin dAdd (fK (.int 1)) (fun ps => ((fCallU 0 1 M__law_take (fCons (fK (.int 2)) (fun ps => .ok [] ps))) ps).map PV.data)) ps).map PV.val))
  (fSeq (fSet 2 (fun ps => ((fApp dTuple (fCons (fun ps => ((fLc (fRange1 (fCons (fN 3) (fun ps => .ok [] ps))) (uN 5) cYes (fApp dTuple (fCons (fun ps => ((fLc (fRange1 (fCons (fN 1) (fun ps => .ok [] ps))) (uN 6) cYes (fTup (fCons (fun ps => ((fCallU 0 1 M__law_take (fCons (fN 3) (fun ps => .ok [] ps))) ps).map PV.data) (fCons (fApp dTuple (fCons (fun ps => ((fLc (fRange1 (fCons (fN 4) (fun ps => .ok [] ps))) (uN 7) cYes (fTup (fCons (fun ps => ((fCallU 0 1 M__law_take (fCons (fN 4) (fun ps => .ok [] ps))) ps).map PV.data) (fCons (fIf (fTest (fBin dEq (fun ps => ((fCallU 0 1 M__law_take (fCons (fK (.int 8)) (fun ps => .ok [] ps))) ps).map PV.data) (fK (.int 0)))) (fTup (fCons (fK (.int 1)) (fun ps => .ok [] ps))) (fTup (fun ps => .ok [] ps))) (fun ps => .ok [] ps)))) [7]) ps).map PV.data) (fun ps => .ok [] ps))) (fun ps => .ok [] ps)))) [6]) ps).map PV.data) (fun ps => .ok [] ps))) [5]) ps).map PV.data) (fun ps => .ok [] ps))) ps).map PV.val))
  (fRet (fun ps => ((fTup (fCons (fTup (fCons (fK (.int 0)) (fCons (fBin dMulT (fTup (fCons (fTup (fun ps => .ok [] ps)) (fun ps => .ok [] ps))) (fN 4)) (fun ps => .ok [] ps)))) (fCons (fN 2) (fCons (fApp dTuple (fCons (fun ps => ((fLc (fRange1 (fCons (fN 3) (fun ps => .ok [] ps))) (uN 5) cYes (fun ps => ((fCall 1 M__law_set (fCons (fun ps => ((fLst (fCons (fTup (fCons (fun ps => ((fCallU 0 1 M__law_take (fCons (fN 4) (fun ps => .ok [] ps))) ps).map PV.data) (fCons (fun ps => ((fCallU 0 1 M__law_piece (fCons (fK (.int 1)) (fun ps => .ok [] ps))) ps).map PV.data) (fun ps => .ok [] ps)))) (fun ps => .ok [] ps))) ps).map PV.data) (fun ps => .ok [] ps))) ps).map PV.data) [5]) ps).map PV.data) (fun ps => .ok [] ps))) (fun ps => .ok [] ps))))) ps).map PV.val))))
noncomputable def M__law_turning : List PyData → List PyData → FRU := fun u ds => (b__law_turning (startU 8 u ds)).finU
theorem bd__law_turning {K : PySem.W.Frag} {f : Addr} {fd : FuncData} (Fn : FunD K "_law_turning" "_law_turning" (defArgs s__law_turning) (defBody s__law_turning) (defScope s__law_turning) [] [] f fd) : Binds K fd ["urn", "wide"] [] := Fn.bindsN fun _ _ _ _ _ _ us hl => match us, hl with | [_, _], _ => rfl
theorem ok__law_turning {P : Program} {w : World} {K : PySem.W.Frag} {mg : Str → Option Value} {base : Heap} {f : Addr} {fd : FuncData} {C_CanNot : Addr} {C_Unfit : Addr} (Fn : FunD K "_law_turning" "_law_turning" (defArgs s__law_turning) (defBody s__law_turning) (defScope s__law_turning) [] [] f fd) (hy : Hy K mg C_CanNot C_Unfit) (gf : mg "_law_turning" = some (.ref f)) (G__law_take : GFu P w K mg base "_law_take" 1 1 M__law_take) (G__law_piece : GFu P w K mg base "_law_piece" 2 1 M__law_piece) (G__law_set : GFn P w K mg base "_law_set" 1 1 M__law_set) : GFu P w K mg base "_law_turning" 3 1 M__law_turning := by
  refine GFu.of_body (k := 2) (n := 1) (N := ["urn", "wide", "rows", "many", "width", "state", "letter", "k"]) (ps := ["urn", "wide"]) Fn gf (bd__law_turning Fn) sc__law_turning rfl (g := b__law_turning) fun cdv A outer s H E a hr => ?_
  have nd := sc__law_turning.nd
  exact (gss_cons (gs_par2 3 4 (go_of (gv_bin op_addD add_ok gv_int (gv_of (go_callU 0 G__law_take (hr.mono (by decide)) rfl (takes_of rfl rfl rfl rfl) (ga_cons gv_int ga_nil))))) (go_of (gv_bin op_addD add_ok gv_int (gv_of (go_callU 0 G__law_take (hr.mono (by decide)) rfl (takes_of rfl rfl rfl rfl) (ga_cons gv_int ga_nil))))) rfl nd)
    (gss_cons (gs_set 2 (go_of (gv_callTy call_tuple_of (tuple_ok) rfl hy.n_tuple (by decide +kernel) (ga_cons (gv_of (go_lc [("state", 5)] rfl nd (gi_range1 rfl hy.n_range (ga_cons (gv_name 3) ga_nil)) (blkOk_by (N := ["urn", "wide", "rows", "many", "width", "state", "letter", "k"]) (sc := defScope s__law_turning) (own := [("state", 5)]) (by decide +kernel)) (fun _ _ _ _ _ => (gg_name 5 nd)) (fun _ _ _ _ _ => gts_nil) (fun _ _ _ _ _ => (gv_callTy call_tuple_of (tuple_ok) rfl hy.n_tuple (by decide +kernel) (ga_cons (gv_of (go_lc [("letter", 6)] rfl nd (gi_range1 rfl hy.n_range (ga_cons (gv_name 1) ga_nil)) (blkOk_by (N := ["urn", "wide", "rows", "many", "width", "state", "letter", "k"]) (sc := { kind := .function, names := [(".0", .local), ("state", .local), ("tuple", .globalImplicit), ("range", .globalImplicit), ("many", .cell), ("urn", .cell), ("wide", .cell), ("width", .cell)], isGenerator := false, isCoroutine := false }) (own := [("letter", 6)]) (by decide +kernel)) (fun _ _ _ _ _ => (gg_name 6 nd)) (fun _ _ _ _ _ => gts_nil) (fun _ _ _ _ _ => (gv_tup (ga_cons (gv_of (go_callU 0 G__law_take (hr.mono (by decide)) rfl takes0 (ga_cons (gv_name 3) ga_nil))) (ga_cons (gv_callTy call_tuple_of (tuple_ok) rfl hy.n_tuple (by decide +kernel) (ga_cons (gv_of (go_lc [("k", 7)] rfl nd (gi_range1 rfl hy.n_range (ga_cons (gv_name 4) ga_nil)) (blkOk_by (N := ["urn", "wide", "rows", "many", "width", "state", "letter", "k"]) (sc := { kind := .function, names := [(".0", .local), ("letter", .local), ("_law_take", .globalImplicit), ("tuple", .globalImplicit), ("range", .globalImplicit), ("many", .cell), ("urn", .cell), ("width", .cell)], isGenerator := false, isCoroutine := false }) (own := [("k", 7)]) (by decide +kernel)) (fun _ _ _ _ _ => (gg_name 7 nd)) (fun _ _ _ _ _ => gts_nil) (fun _ _ _ _ _ => (gv_tup (ga_cons (gv_of (go_callU 0 G__law_take (hr.mono (by decide)) rfl takes0 (ga_cons (gv_name 4) ga_nil))) (ga_cons (gv_if (gt_cmp (op_eqD hr.units) eq_ok (gv_of (go_callU 0 G__law_take (hr.mono (by decide)) rfl takes0 (ga_cons gv_int ga_nil))) gv_int) (gv_tup (ga_cons gv_int ga_nil)) (gv_tup ga_nil)) ga_nil)))))) ga_nil)) ga_nil)))))) ga_nil))))) ga_nil))) nd)
    (gss_one (gs_ret (go_of (gv_tup (ga_cons (gv_tup (ga_cons gv_int (ga_cons (gv_bin op_mulT mulT_ok (gv_tup (ga_cons (gv_tup ga_nil) ga_nil)) (gv_name 4)) ga_nil))) (ga_cons (gv_name 2) (ga_cons (gv_callTy call_tuple_of (tuple_ok) rfl hy.n_tuple (by decide +kernel) (ga_cons (gv_of (go_lc [("state", 5)] rfl nd (gi_range1 rfl hy.n_range (ga_cons (gv_name 3) ga_nil)) (blkOk_by (N := ["urn", "wide", "rows", "many", "width", "state", "letter", "k"]) (sc := defScope s__law_turning) (own := [("state", 5)]) (by decide +kernel)) (fun _ _ _ _ _ => (gg_name 5 nd)) (fun _ _ _ _ _ => gts_nil) (fun _ _ _ _ _ => (gv_of (go_call G__law_set (hr.mono (by decide)) rfl takes0 (ga_cons (gv_of (go_lst (ga_cons (gv_tup (ga_cons (gv_of (go_callU 0 G__law_take (hr.mono (by decide)) rfl takes0 (ga_cons (gv_name 4) ga_nil))) (ga_cons (gv_of (go_callU 0 G__law_piece (hr.mono (by decide)) rfl takes0 (ga_cons gv_int ga_nil))) ga_nil))) ga_nil))) ga_nil)))))) ga_nil)) ga_nil)))))))))
/-! law -/
abbrev s_law : Stmt := top 56
theorem sc_law : FnScope ["script", "urn", "wide", "pens", "kinds", "text", "lots", "nothing", "lap", "many", "width", "texts", "key", "got", "due", "quiet", "state", "apart", "one", "other", "a", "b", "c", "near", "far", "begun", "whole", "lot", "own", "k"] ["script"] (defScope s_law) := ⟨rfl, rfl, rfl, by decide +kernel, rfl, by decide +kernel, by decide +kernel⟩
noncomputable def b_law : PSt → Os :=
  (fSeq (fSet 1 (fCall 2 M__law_box (fCons (fun ps => ((fCall 2 M__law_cells (fCons (fN 0) (fCons (fK (.int 1)) (fun ps => .ok [] ps)))) ps).map PV.data) (fCons (fK (.int 0)) (fun ps => .ok [] ps)))))
  (fSeq (fSet 2 (fun ps => ((fBin dAdd (fK (.int 1)) (fun ps => ((fCallU 1 1 M__law_take (fCons (fK (.int 2)) (fun ps => .ok [] ps))) ps).map PV.data)) ps).map PV.val))
  (fSeq (fSet 3 (fCallU 1 1 M__law_turning (fCons (fN 2) (fun ps => .ok [] ps))))
  (fSeq (fPar3 9 10 11 (fCons (fApp dLen (fCons (fIxS 3 (fK (.int 1))) (fun ps => .ok [] ps))) (fCons (fApp dLen (fCons (fBin dIx (fIxS 3 (fK (.int 0))) (fK (.int 1))) (fun ps => .ok [] ps))) (fCons (fun ps => ((fCall 2 M__law_texts (fCons (fN 2) (fCons (fK (.int 3)) (fun ps => .ok [] ps)))) ps).map PV.data) (fun ps => .ok [] ps)))))
  (fSeq (fSet 4 GD.fDict0)
  (fSeq (fFor (fSeqI (fN 11)) (uN 5) (fSeq (fSet 12 (fun ps => ((fApp dTuple (fCons (fun ps => ((fLc (fRange1 (fCons (fN 9) (fun ps => .ok [] ps))) (uN 16) cYes (fun ps => ((fCall 3 M_effect (fCons (fN 3) (fCons (fN 16) (fCons (fN 5) (fun ps => .ok [] ps))))) ps).map PV.data) [16]) ps).map PV.data) (fun ps => .ok [] ps))) ps).map PV.val))
  (GD.fSetKey 4 (fN 12) (fun ps => ((fBinO dCatL (GD.fGet2 4 (fCons (fN 12) (fCons (fun ps => ((fLst (fun ps => .ok [] ps)) ps).map PV.data) (fun ps => .ok [] ps)))) (fun ps => ((fLst (fCons (fN 5) (fun ps => .ok [] ps))) ps).map PV.data)) ps).map PV.data))))
  (fSeq (fSet 6 (GD.fVals 4))
  (fSeq (fSet 7 (fun ps => ((fBin dIx (fun ps => ((fLc (fSeqI (fN 6)) (uN 27) (fTest (fBin dInA (fTup (fun ps => .ok [] ps)) (fN 27))) (fN 27) [27]) ps).map PV.data) (fK (.int 0))) ps).map PV.val))
  (fSeq (fFor (fRange1 (fCons (fK (.int 4)) (fun ps => .ok [] ps))) (uN 8) (fSeq (fPar 18 19 (fCallU 1 1 M__law_of (fCons (fN 6) (fun ps => .ok [] ps))) (fCallU 1 1 M__law_of (fCons (fN 6) (fun ps => .ok [] ps))))
  (fSeq (fPar3 20 21 22 (fCons (fun ps => ((fCallU 1 1 M__law_of (fCons (fN 18) (fun ps => .ok [] ps))) ps).map PV.data) (fCons (fun ps => ((fCallU 1 1 M__law_of (fCons (fN 18) (fun ps => .ok [] ps))) ps).map PV.data) (fCons (fun ps => ((fCallU 1 1 M__law_of (fCons (fN 19) (fun ps => .ok [] ps))) ps).map PV.data) (fun ps => .ok [] ps)))))
  (fSeq (fPar 23 24 (fCallU 1 2 M__law_text (fCons (fN 2) (fCons (fK (.int 2)) (fun ps => .ok [] ps)))) (fCallU 1 2 M__law_text (fCons (fN 2) (fCons (fK (.int 2)) (fun ps => .ok [] ps)))))
  (fSeq (fSet 13 (fLst (fCons (fun ps => ((fCall 3 M_same_effect (fCons (fN 3) (fCons (fN 20) (fCons (fN 21) (fun ps => .ok [] ps))))) ps).map PV.data) (fCons (fun ps => ((fCall 3 M_same_effect (fCons (fN 3) (fCons (fBin dAdd (fBin dAdd (fN 23) (fN 20)) (fN 24)) (fCons (fBin dAdd (fBin dAdd (fN 23) (fN 21)) (fN 24)) (fun ps => .ok [] ps))))) ps).map PV.data) (fCons (fun ps => ((fCall 3 M_same_effect (fCons (fN 3) (fCons (fN 20) (fCons (fN 22) (fun ps => .ok [] ps))))) ps).map PV.data) (fCons (fun ps => ((fCall 3 M_same_effect (fCons (fN 3) (fCons (fN 22) (fCons (fN 21) (fun ps => .ok [] ps))))) ps).map PV.data) (fCons (fBin dIs (fun ps => ((fCall 3 M__law_unlike (fCons (fN 3) (fCons (fN 20) (fCons (fN 22) (fun ps => .ok [] ps))))) ps).map PV.data) (fK .none)) (fCons (fun ps => ((fCall 3 M__law_unlike (fCons (fN 3) (fCons (fN 22) (fCons (fN 21) (fun ps => .ok [] ps))))) ps).map PV.data) (fun ps => .ok [] ps)))))))))
  (fSeq (fSet 14 (fLst (fCons (fK (.bool true)) (fCons (fK (.bool true)) (fCons (fBinS dEq 18 (fN 19)) (fCons (fBinS dEq 18 (fN 19)) (fCons (fBinS dEq 18 (fN 19)) (fCons (fun ps => ((fCall 3 M__law_unlike (fCons (fN 3) (fCons (fN 22) (fCons (fN 20) (fun ps => .ok [] ps))))) ps).map PV.data) (fun ps => .ok [] ps)))))))))
  (fSeq (fIfS (fNot (fTest (fun ps => ((fCall 2 M__law_same (fCons (fN 13) (fCons (fN 14) (fun ps => .ok [] ps)))) ps).map PV.data))) (fRet (fun ps => ((fK (.bool false)) ps).map PV.val)) fSkip)
  (fSeq (fSet 15 (fCallU 1 1 M__law_of (fCons (fN 7) (fun ps => .ok [] ps))))
  (fSeq (fIfS (fTest (fBin dIsNot (fun ps => ((fCall 3 M_same_effect (fCons (fN 3) (fCons (fBin dAdd (fBin dAdd (fN 23) (fN 15)) (fN 24)) (fCons (fBin dAdd (fN 23) (fN 24)) (fun ps => .ok [] ps))))) ps).map PV.data) (fK (.bool true)))) (fRet (fun ps => ((fK (.bool false)) ps).map PV.val)) fSkip)
  (fSeq (fFor (fRange1 (fCons (fN 9) (fun ps => .ok [] ps))) (uN 16) (fSeq (fSet 25 (fun ps => ((fTup (fCons (fTup (fCons (fN 16) (fCons (fApp dTuple (fCons (fun ps => ((fLc (fRange1 (fCons (fN 10) (fun ps => .ok [] ps))) (uN 29) cYes (fun ps => ((fCallU 1 1 M__law_piece (fCons (fK (.int 2)) (fun ps => .ok [] ps))) ps).map PV.data) [29]) ps).map PV.data) (fun ps => .ok [] ps))) (fun ps => .ok [] ps)))) (fCons (fIxS 3 (fK (.int 1))) (fCons (fIxS 3 (fK (.int 2))) (fun ps => .ok [] ps))))) ps).map PV.val))
  (fSeq (fSet 26 (fLc (fSeqI (fTup (fCons (fBin dAdd (fBin dAdd (fN 23) (fN 20)) (fN 24)) (fCons (fBin dAdd (fBin dAdd (fN 23) (fN 21)) (fN 24)) (fCons (fBin dAdd (fBin dAdd (fBin dAdd (fBin dAdd (fN 23) (fN 15)) (fN 20)) (fN 15)) (fN 24)) (fun ps => .ok [] ps)))))) (uN 28) cYes (fun ps => ((fCall 2 M_pens_results (fCons (fN 25) (fCons (fN 28) (fun ps => .ok [] ps)))) ps).map PV.data) [28]))
  (fIfS (fTest (fBinS dNe 26 (fun ps => ((fRep (fLst (fCons (fun ps => ((fCall 2 M__law_pen_results (fCons (fN 25) (fCons (fBin dAdd (fBin dAdd (fN 23) (fN 20)) (fN 24)) (fun ps => .ok [] ps)))) ps).map PV.data) (fun ps => .ok [] ps))) (fK (.int 3))) ps).map PV.data))) (fRet (fun ps => ((fK (.bool false)) ps).map PV.val)) fSkip))))
  (fSeq (fSet 17 (fCall 3 M__law_unlike (fCons (fN 3) (fCons (fN 20) (fCons (fN 22) (fun ps => .ok [] ps))))))
  (fIfS (fAnd (fTest (fBinS dIsNot 17 (fK .none))) (fTest (fBin dEq (fun ps => ((fCall 3 M_effect (fCons (fN 3) (fCons (fN 17) (fCons (fN 20) (fun ps => .ok [] ps))))) ps).map PV.data) (fun ps => ((fCall 3 M_effect (fCons (fN 3) (fCons (fN 17) (fCons (fN 22) (fun ps => .ok [] ps))))) ps).map PV.data)))) (fRet (fun ps => ((fK (.bool false)) ps).map PV.val)) fSkip))))))))))))
  (fRet (fun ps => ((fBin dIs (fun ps => ((fCall 3 M_same_effect (fCons (fN 3) (fCons (fTup (fun ps => .ok [] ps)) (fCons (fTup (fun ps => .ok [] ps)) (fun ps => .ok [] ps))))) ps).map PV.data) (fK (.bool true))) ps).map PV.val)))))))))))
noncomputable def M_law : List PyData → FR := fun ds => (b_law (startP 30 ds)).fin
theorem bd_law {K : PySem.W.Frag} {f : Addr} {fd : FuncData} (Fn : FunD K "law" "law" (defArgs s_law) (defBody s_law) (defScope s_law) [] [] f fd) : Binds K fd ["script"] [] := Fn.bindsN fun _ _ _ _ _ _ us hl => match us, hl with | [_], _ => rfl
theorem ok_law {P : Program} {w : World} {K : PySem.W.Frag} {mg : Str → Option Value} {base : Heap} {f : Addr} {fd : FuncData} {C_CanNot : Addr} {C_Unfit : Addr} (Fn : FunD K "law" "law" (defArgs s_law) (defBody s_law) (defScope s_law) [] [] f fd) (hy : Hy K mg C_CanNot C_Unfit) (gf : mg "law" = some (.ref f)) (G_pens_results : GFn P w K mg base "pens_results" 43 2 M_pens_results) (G_effect : GFn P w K mg base "effect" 43 3 M_effect) (G_same_effect : GFn P w K mg base "same_effect" 44 3 M_same_effect) (G__law_box : GFn P w K mg base "_law_box" 1 2 M__law_box) (G__law_take : GFu P w K mg base "_law_take" 1 1 M__law_take) (G__law_cells : GFn P w K mg base "_law_cells" 1 2 M__law_cells) (G__law_of : GFu P w K mg base "_law_of" 2 1 M__law_of) (G__law_same : GFn P w K mg base "_law_same" 40 2 M__law_same) (G__law_piece : GFu P w K mg base "_law_piece" 2 1 M__law_piece) (G__law_text : GFu P w K mg base "_law_text" 2 2 M__law_text) (G__law_texts : GFn P w K mg base "_law_texts" 2 2 M__law_texts) (G__law_pen_results : GFn P w K mg base "_law_pen_results" 2 2 M__law_pen_results) (G__law_unlike : GFn P w K mg base "_law_unlike" 45 3 M__law_unlike) (G__law_turning : GFu P w K mg base "_law_turning" 3 1 M__law_turning) : FnOk P w K mg base (L2.CX P w) 46 f fd ["script"] (spP K mg 1 M_law) := by
  refine fn_body (k := 45) (n := 1) (N := ["script", "urn", "wide", "pens", "kinds", "text", "lots", "nothing", "lap", "many", "width", "texts", "key", "got", "due", "quiet", "state", "apart", "one", "other", "a", "b", "c", "near", "far", "begun", "whole", "lot", "own", "k"]) (ps := ["script"]) Fn sc_law rfl (g := b_law) fun cdv A outer s H E hr => ?_
  have nd := sc_law.nd
  exact (gss_cons (gs_set 1 (go_call G__law_box (hr.mono (by decide)) rfl (takes_of rfl rfl rfl rfl) (ga_cons (gv_of (go_call G__law_cells (hr.mono (by decide)) rfl (takes_of rfl rfl rfl rfl) (ga_cons (gv_name 0) (ga_cons gv_int ga_nil)))) (ga_cons gv_int ga_nil))) nd)
    (gss_cons (gs_set 2 (go_of (gv_bin op_addD add_ok gv_int (gv_of (go_callU 1 G__law_take (hr.mono (by decide)) rfl (takes_of rfl rfl rfl rfl) (ga_cons gv_int ga_nil))))) nd)
    (gss_cons (gs_set 3 (go_callU 1 G__law_turning (hr.mono (by decide)) rfl (takes_of rfl rfl rfl rfl) (ga_cons (gv_name 2) ga_nil)) nd)
    (gss_cons (gs_par3 9 10 11 (ga_cons (gv_callB call_len_seq (len_ok) rfl hy.n_len (by decide +kernel) (ga_cons (gv_ixS 3 gv_int) ga_nil)) (ga_cons (gv_callB call_len_seq (len_ok) rfl hy.n_len (by decide +kernel) (ga_cons (gv_ix (gv_ixS 3 gv_int) gv_int) ga_nil)) (ga_cons (gv_of (go_call G__law_texts (hr.mono (by decide)) rfl (takes_of rfl rfl rfl rfl) (ga_cons (gv_name 2) (ga_cons gv_int ga_nil)))) ga_nil))) rfl nd rfl rfl rfl (by rfl))
    (gss_cons (gs_set 4 GD.go_dict0 nd)
    (gss_cons (gs_for (passes_of rfl) rfl (gi_seq (gv_name 11)) (gg_name 5 nd) (gss_cons (gs_set 12 (go_of (gv_callTy call_tuple_of (tuple_ok) rfl hy.n_tuple (by decide +kernel) (ga_cons (gv_of (go_lc [("state", 16)] rfl nd (gi_range1 rfl hy.n_range (ga_cons (gv_name 9) ga_nil)) (blkOk_by (N := ["script", "urn", "wide", "pens", "kinds", "text", "lots", "nothing", "lap", "many", "width", "texts", "key", "got", "due", "quiet", "state", "apart", "one", "other", "a", "b", "c", "near", "far", "begun", "whole", "lot", "own", "k"]) (sc := defScope s_law) (own := [("state", 16)]) (by decide +kernel)) (fun _ _ _ _ _ => (gg_name 16 nd)) (fun _ _ _ _ _ => gts_nil) (fun _ _ _ _ _ => (gv_of (go_call G_effect (hr.mono (by decide)) rfl takes0 (ga_cons (gv_name 3) (ga_cons (gv_name 16) (ga_cons (gv_name 5) ga_nil)))))))) ga_nil))) nd)
    (gss_one (GD.gs_setKey 4 hr.u65 (by first | exact .inl rfl | exact .inr (by decide)) (gv_of (go_catL (GD.gv_get2 4 hr.u65 (ga_cons (gv_name 12) (ga_cons (gv_of (go_lst ga_nil)) ga_nil))) (gv_of (go_lst (ga_cons (gv_name 5) ga_nil))))) (gv_name 12)))))
    (gss_cons (gs_set 6 (GD.go_vals 4 rfl rfl hy.n_list) nd)
    (gss_cons (gs_set 7 (go_of (gv_ix (gv_of (go_lc [("lot", 27)] rfl nd (gi_seq (gv_name 6)) (blkOk_by (N := ["script", "urn", "wide", "pens", "kinds", "text", "lots", "nothing", "lap", "many", "width", "texts", "key", "got", "due", "quiet", "state", "apart", "one", "other", "a", "b", "c", "near", "far", "begun", "whole", "lot", "own", "k"]) (sc := defScope s_law) (own := [("lot", 27)]) (by decide +kernel)) (fun _ _ _ _ _ => (gg_name 27 nd)) (fun _ _ _ _ _ => (gts_one (gt_cmp (op_inA hr.u65) inA_ok (gv_tup ga_nil) (gv_name 27)))) (fun _ _ _ _ _ => (gv_name 27)))) gv_int)) nd)
    (gss_cons (gs_for (passes_of rfl) rfl (gi_range1 rfl hy.n_range (ga_cons gv_int ga_nil)) (gg_name 8 nd) (gss_cons (gs_par 18 19 (go_callU 1 G__law_of (hr.mono (by decide)) rfl (takes_of rfl rfl rfl rfl) (ga_cons (gv_name 6) ga_nil)) (go_callU 1 G__law_of (hr.mono (by decide)) rfl (takes_of rfl rfl rfl rfl) (ga_cons (gv_name 6) ga_nil)) rfl nd rfl rfl (by rfl))
    (gss_cons (gs_par3 20 21 22 (ga_cons (gv_of (go_callU 1 G__law_of (hr.mono (by decide)) rfl (takes_of rfl rfl rfl rfl) (ga_cons (gv_name 18) ga_nil))) (ga_cons (gv_of (go_callU 1 G__law_of (hr.mono (by decide)) rfl (takes_of rfl rfl rfl rfl) (ga_cons (gv_name 18) ga_nil))) (ga_cons (gv_of (go_callU 1 G__law_of (hr.mono (by decide)) rfl (takes_of rfl rfl rfl rfl) (ga_cons (gv_name 19) ga_nil))) ga_nil))) rfl nd rfl rfl rfl (by rfl))
    (gss_cons (gs_par 23 24 (go_callU 1 G__law_text (hr.mono (by decide)) rfl (takes_of rfl rfl rfl rfl) (ga_cons (gv_name 2) (ga_cons gv_int ga_nil))) (go_callU 1 G__law_text (hr.mono (by decide)) rfl (takes_of rfl rfl rfl rfl) (ga_cons (gv_name 2) (ga_cons gv_int ga_nil))) rfl nd rfl rfl (by rfl))
    (gss_cons (gs_set 13 (go_lst (ga_cons (gv_of (go_call G_same_effect (hr.mono (by decide)) rfl (takes_of rfl rfl rfl rfl) (ga_cons (gv_name 3) (ga_cons (gv_name 20) (ga_cons (gv_name 21) ga_nil))))) (ga_cons (gv_of (go_call G_same_effect (hr.mono (by decide)) rfl (takes_of rfl rfl rfl rfl) (ga_cons (gv_name 3) (ga_cons (gv_bin op_addD add_ok (gv_bin op_addD add_ok (gv_name 23) (gv_name 20)) (gv_name 24)) (ga_cons (gv_bin op_addD add_ok (gv_bin op_addD add_ok (gv_name 23) (gv_name 21)) (gv_name 24)) ga_nil))))) (ga_cons (gv_of (go_call G_same_effect (hr.mono (by decide)) rfl (takes_of rfl rfl rfl rfl) (ga_cons (gv_name 3) (ga_cons (gv_name 20) (ga_cons (gv_name 22) ga_nil))))) (ga_cons (gv_of (go_call G_same_effect (hr.mono (by decide)) rfl (takes_of rfl rfl rfl rfl) (ga_cons (gv_name 3) (ga_cons (gv_name 22) (ga_cons (gv_name 21) ga_nil))))) (ga_cons (gv_cmp op_isD is_ok (gv_of (go_call G__law_unlike (hr.mono (by decide)) rfl (takes_of rfl rfl rfl rfl) (ga_cons (gv_name 3) (ga_cons (gv_name 20) (ga_cons (gv_name 22) ga_nil))))) gv_non) (ga_cons (gv_of (go_call G__law_unlike (hr.mono (by decide)) rfl (takes_of rfl rfl rfl rfl) (ga_cons (gv_name 3) (ga_cons (gv_name 22) (ga_cons (gv_name 21) ga_nil))))) ga_nil))))))) nd)
    (gss_cons (gs_set 14 (go_lst (ga_cons gv_bl (ga_cons gv_bl (ga_cons (gv_cmpS 18 (op_eqD hr.units) eq_ok bool_dEq (gv_name 19)) (ga_cons (gv_cmpS 18 (op_eqD hr.units) eq_ok bool_dEq (gv_name 19)) (ga_cons (gv_cmpS 18 (op_eqD hr.units) eq_ok bool_dEq (gv_name 19)) (ga_cons (gv_of (go_call G__law_unlike (hr.mono (by decide)) rfl (takes_of rfl rfl rfl rfl) (ga_cons (gv_name 3) (ga_cons (gv_name 22) (ga_cons (gv_name 20) ga_nil))))) ga_nil))))))) nd)
    (gss_cons (gs_if (gt_not (gt_val (gv_of (go_call G__law_same (hr.mono (by decide)) rfl (takes_of rfl rfl rfl rfl) (ga_cons (gv_name 13) (ga_cons (gv_name 14) ga_nil)))))) (gss_one (gs_ret (go_of gv_bl))) gss_nil)
    (gss_cons (gs_set 15 (go_callU 1 G__law_of (hr.mono (by decide)) rfl (takes_of rfl rfl rfl rfl) (ga_cons (gv_name 7) ga_nil)) nd)
    (gss_cons (gs_if (gt_cmp op_isNotD isNot_ok (gv_of (go_call G_same_effect (hr.mono (by decide)) rfl (takes_of rfl rfl rfl rfl) (ga_cons (gv_name 3) (ga_cons (gv_bin op_addD add_ok (gv_bin op_addD add_ok (gv_name 23) (gv_name 15)) (gv_name 24)) (ga_cons (gv_bin op_addD add_ok (gv_name 23) (gv_name 24)) ga_nil))))) gv_bl) (gss_one (gs_ret (go_of gv_bl))) gss_nil)
    (gss_cons (gs_for (passes_of rfl) rfl (gi_range1 rfl hy.n_range (ga_cons (gv_name 9) ga_nil)) (gg_name 16 nd) (gss_cons (gs_set 25 (go_of (gv_tup (ga_cons (gv_tup (ga_cons (gv_name 16) (ga_cons (gv_callTy call_tuple_of (tuple_ok) rfl hy.n_tuple (by decide +kernel) (ga_cons (gv_of (go_lc [("k", 29)] rfl nd (gi_range1 rfl hy.n_range (ga_cons (gv_name 10) ga_nil)) (blkOk_by (N := ["script", "urn", "wide", "pens", "kinds", "text", "lots", "nothing", "lap", "many", "width", "texts", "key", "got", "due", "quiet", "state", "apart", "one", "other", "a", "b", "c", "near", "far", "begun", "whole", "lot", "own", "k"]) (sc := defScope s_law) (own := [("k", 29)]) (by decide +kernel)) (fun _ _ _ _ _ => (gg_name 29 nd)) (fun _ _ _ _ _ => gts_nil) (fun _ _ _ _ _ => (gv_of (go_callU 1 G__law_piece (hr.mono (by decide)) rfl takes0 (ga_cons gv_int ga_nil)))))) ga_nil)) ga_nil))) (ga_cons (gv_ixS 3 gv_int) (ga_cons (gv_ixS 3 gv_int) ga_nil))))) nd)
    (gss_cons (gs_setLc 26 [("own", 28)] rfl nd rfl (sw_true rfl rfl rfl (by decide +kernel)) (gi_seq (gv_tup (ga_cons (gv_bin op_addD add_ok (gv_bin op_addD add_ok (gv_name 23) (gv_name 20)) (gv_name 24)) (ga_cons (gv_bin op_addD add_ok (gv_bin op_addD add_ok (gv_name 23) (gv_name 21)) (gv_name 24)) (ga_cons (gv_bin op_addD add_ok (gv_bin op_addD add_ok (gv_bin op_addD add_ok (gv_bin op_addD add_ok (gv_name 23) (gv_name 15)) (gv_name 20)) (gv_name 15)) (gv_name 24)) ga_nil))))) (blkOk_by (N := ["script", "urn", "wide", "pens", "kinds", "text", "lots", "nothing", "lap", "many", "width", "texts", "key", "got", "due", "quiet", "state", "apart", "one", "other", "a", "b", "c", "near", "far", "begun", "whole", "lot", "own", "k"]) (sc := defScope s_law) (own := [("own", 28)]) (by decide +kernel)) (fun _ _ _ _ _ => (gg_name 28 nd)) (fun _ _ _ _ _ => gts_nil) (fun _ _ _ _ _ => (gv_of (go_call G_pens_results (hr.mono (by decide)) rfl takes0 (ga_cons (gv_name 25) (ga_cons (gv_name 28) ga_nil))))))
    (gss_one (gs_if (gt_cmpS 26 (op_neD hr.units) ne_ok bool_dNe (gv_of (go_rep (go_lst (ga_cons (gv_of (go_call G__law_pen_results (hr.mono (by decide)) rfl (takes_of rfl rfl rfl rfl) (ga_cons (gv_name 25) (ga_cons (gv_bin op_addD add_ok (gv_bin op_addD add_ok (gv_name 23) (gv_name 20)) (gv_name 24)) ga_nil)))) ga_nil)) gv_int))) (gss_one (gs_ret (go_of gv_bl))) gss_nil)))))
    (gss_cons (gs_set 17 (go_call G__law_unlike (hr.mono (by decide)) rfl (takes_of rfl rfl rfl rfl) (ga_cons (gv_name 3) (ga_cons (gv_name 20) (ga_cons (gv_name 22) ga_nil)))) nd)
    (gss_one (gs_if (gt_w (gw_and (gt_cmpS 17 op_isNotD isNot_ok bool_dIsNot gv_non) (gw_and1 (gt_cmp (op_eqD hr.units) eq_ok (gv_of (go_call G_effect (hr.mono (by decide)) rfl (takes_of rfl rfl rfl rfl) (ga_cons (gv_name 3) (ga_cons (gv_name 17) (ga_cons (gv_name 20) ga_nil))))) (gv_of (go_call G_effect (hr.mono (by decide)) rfl (takes_of rfl rfl rfl rfl) (ga_cons (gv_name 3) (ga_cons (gv_name 17) (ga_cons (gv_name 22) ga_nil))))))))) (gss_one (gs_ret (go_of gv_bl))) gss_nil)))))))))))))
    (gss_one (gs_ret (go_of (gv_cmp op_isD is_ok (gv_of (go_call G_same_effect (hr.mono (by decide)) rfl (takes_of rfl rfl rfl rfl) (ga_cons (gv_name 3) (ga_cons (gv_tup ga_nil) (ga_cons (gv_tup ga_nil) ga_nil))))) gv_bl)))))))))))))
def d_is_number : He.DefD := ⟨("is_number", none), "is_number", "is_number", defArgs s_is_number, defBody s_is_number, defScope s_is_number, [], []⟩
def d_tuple_of : He.DefD := ⟨("tuple_of", none), "tuple_of", "tuple_of", defArgs s_tuple_of, defBody s_tuple_of, defScope s_tuple_of, [], []⟩
def d_is_tuple_of : He.DefD := ⟨("is_tuple_of", none), "is_tuple_of", "is_tuple_of", defArgs s_is_tuple_of, defBody s_is_tuple_of, defScope s_is_tuple_of, [], []⟩
def d_is_below : He.DefD := ⟨("is_below", none), "is_below", "is_below", defArgs s_is_below, defBody s_is_below, defScope s_is_below, [], []⟩
def d_is_within : He.DefD := ⟨("is_within", none), "is_within", "is_within", defArgs s_is_within, defBody s_is_within, defScope s_is_within, [], []⟩
def d_is_set : He.DefD := ⟨("is_set", none), "is_set", "is_set", defArgs s_is_set, defBody s_is_set, defScope s_is_set, [], []⟩
def d_sure : He.DefD := ⟨("sure", none), "sure", "sure", defArgs s_sure, defBody s_sure, defScope s_sure, [], []⟩
def d_sure_place : He.DefD := ⟨("sure_place", none), "sure_place", "sure_place", defArgs s_sure_place, defBody s_sure_place, defScope s_sure_place, [], []⟩
def d_is_piece : He.DefD := ⟨("is_piece", none), "is_piece", "is_piece", defArgs s_is_piece, defBody s_is_piece, defScope s_is_piece, [], []⟩
def d_is_text : He.DefD := ⟨("is_text", none), "is_text", "is_text", defArgs s_is_text, defBody s_is_text, defScope s_is_text, [], []⟩
def d_sure_text : He.DefD := ⟨("sure_text", none), "sure_text", "sure_text", defArgs s_sure_text, defBody s_sure_text, defScope s_sure_text, [], []⟩
def d_is_move : He.DefD := ⟨("is_move", none), "is_move", "is_move", defArgs s_is_move, defBody s_is_move, defScope s_is_move, [], []⟩
def d_is_row : He.DefD := ⟨("is_row", none), "is_row", "is_row", defArgs s_is_row, defBody s_is_row, defScope s_is_row, [], []⟩
def d_are_ends : He.DefD := ⟨("are_ends", none), "are_ends", "are_ends", defArgs s_are_ends, defBody s_are_ends, defScope s_are_ends, [], []⟩
def d_is_pens : He.DefD := ⟨("is_pens", none), "is_pens", "is_pens", defArgs s_is_pens, defBody s_is_pens, defScope s_is_pens, [], []⟩
def d_sure_pens : He.DefD := ⟨("sure_pens", none), "sure_pens", "sure_pens", defArgs s_sure_pens, defBody s_sure_pens, defScope s_sure_pens, [], []⟩
def d_pens_wide : He.DefD := ⟨("pens_wide", none), "pens_wide", "pens_wide", defArgs s_pens_wide, defBody s_pens_wide, defScope s_pens_wide, [], []⟩
def d_later : He.DefD := ⟨("later", none), "later", "later", defArgs s_later, defBody s_later, defScope s_later, [], []⟩
def d_sheets_by : He.DefD := ⟨("sheets_by", none), "sheets_by", "sheets_by", defArgs s_sheets_by, defBody s_sheets_by, defScope s_sheets_by, [], []⟩
def d_gone_over : He.DefD := ⟨("gone_over", none), "gone_over", "gone_over", defArgs s_gone_over, defBody s_gone_over, defScope s_gone_over, [], []⟩
def d_results_in : He.DefD := ⟨("results_in", none), "results_in", "results_in", defArgs s_results_in, defBody s_results_in, defScope s_results_in, [], []⟩
def d_sure_both : He.DefD := ⟨("sure_both", none), "sure_both", "sure_both", defArgs s_sure_both, defBody s_sure_both, defScope s_sure_both, [], []⟩
def d_pens_results : He.DefD := ⟨("pens_results", none), "pens_results", "pens_results", defArgs s_pens_results, defBody s_pens_results, defScope s_pens_results, [], []⟩
def d_still_moves : He.DefD := ⟨("still_moves", none), "still_moves", "still_moves", defArgs s_still_moves, defBody s_still_moves, defScope s_still_moves, [], []⟩
def d_moves_behind : He.DefD := ⟨("moves_behind", none), "moves_behind", "moves_behind", defArgs s_moves_behind, defBody s_moves_behind, defScope s_moves_behind, [], []⟩
def d_effect_of : He.DefD := ⟨("effect_of", none), "effect_of", "effect_of", defArgs s_effect_of, defBody s_effect_of, defScope s_effect_of, [], []⟩
def d_effect : He.DefD := ⟨("effect", none), "effect", "effect", defArgs s_effect, defBody s_effect, defScope s_effect, [], []⟩
def d_first_unlike : He.DefD := ⟨("first_unlike", none), "first_unlike", "first_unlike", defArgs s_first_unlike, defBody s_first_unlike, defScope s_first_unlike, [], []⟩
def d_same_effect : He.DefD := ⟨("same_effect", none), "same_effect", "same_effect", defArgs s_same_effect, defBody s_same_effect, defScope s_same_effect, [], []⟩
def d_unlike_effect : He.DefD := ⟨("unlike_effect", none), "unlike_effect", "unlike_effect", defArgs s_unlike_effect, defBody s_unlike_effect, defScope s_unlike_effect, [], []⟩
def d__law_box : He.DefD := ⟨("_law_box", none), "_law_box", "_law_box", defArgs s__law_box, defBody s__law_box, defScope s__law_box, [], []⟩
def d__law_take : He.DefD := ⟨("_law_take", none), "_law_take", "_law_take", defArgs s__law_take, defBody s__law_take, defScope s__law_take, [], []⟩
def d__law_cells : He.DefD := ⟨("_law_cells", none), "_law_cells", "_law_cells", defArgs s__law_cells, defBody s__law_cells, defScope s__law_cells, [], []⟩
def d__law_of : He.DefD := ⟨("_law_of", none), "_law_of", "_law_of", defArgs s__law_of, defBody s__law_of, defScope s__law_of, [], []⟩
def d__law_same : He.DefD := ⟨("_law_same", none), "_law_same", "_law_same", defArgs s__law_same, defBody s__law_same, defScope s__law_same, [], []⟩
def d__law_pairs : He.DefD := ⟨("_law_pairs", none), "_law_pairs", "_law_pairs", defArgs s__law_pairs, defBody s__law_pairs, defScope s__law_pairs, [], []⟩
def d__law_piece : He.DefD := ⟨("_law_piece", none), "_law_piece", "_law_piece", defArgs s__law_piece, defBody s__law_piece, defScope s__law_piece, [], []⟩
def d__law_text : He.DefD := ⟨("_law_text", none), "_law_text", "_law_text", defArgs s__law_text, defBody s__law_text, defScope s__law_text, [], []⟩
def d__law_texts : He.DefD := ⟨("_law_texts", none), "_law_texts", "_law_texts", defArgs s__law_texts, defBody s__law_texts, defScope s__law_texts, [], []⟩
def d__law_set : He.DefD := ⟨("_law_set", none), "_law_set", "_law_set", defArgs s__law_set, defBody s__law_set, defScope s__law_set, [], []⟩
def d__law_after : He.DefD := ⟨("_law_after", none), "_law_after", "_law_after", defArgs s__law_after, defBody s__law_after, defScope s__law_after, [], []⟩
def d__law_pen_results : He.DefD := ⟨("_law_pen_results", none), "_law_pen_results", "_law_pen_results", defArgs s__law_pen_results, defBody s__law_pen_results, defScope s__law_pen_results, [], []⟩
def d__law_unlike : He.DefD := ⟨("_law_unlike", none), "_law_unlike", "_law_unlike", defArgs s__law_unlike, defBody s__law_unlike, defScope s__law_unlike, [], []⟩
def d__law_turning : He.DefD := ⟨("_law_turning", none), "_law_turning", "_law_turning", defArgs s__law_turning, defBody s__law_turning, defScope s__law_turning, [], []⟩
def d_law : He.DefD := ⟨("law", none), "law", "law", defArgs s_law, defBody s_law, defScope s_law, [], []⟩
def fns : List He.DefD := [d_is_number, d_tuple_of, d_is_tuple_of, d_is_below, d_is_within, d_is_set, d_sure, d_sure_place, d_is_piece, d_is_text, d_sure_text, d_is_move, d_is_row, d_are_ends, d_is_pens, d_sure_pens, d_pens_wide, d_later, d_sheets_by, d_gone_over, d_results_in, d_sure_both, d_pens_results, d_still_moves, d_moves_behind, d_effect_of, d_effect, d_first_unlike, d_same_effect, d_unlike_effect, d__law_box, d__law_take, d__law_cells, d__law_of, d__law_same, d__law_pairs, d__law_piece, d__law_text, d__law_texts, d__law_set, d__law_after, d__law_pen_results, d__law_unlike, d__law_turning, d_law]
def fas : List He.Fa := [.glo "is_number", .glo "tuple_of", .glo "is_tuple_of", .glo "is_below", .glo "is_within", .glo "is_set", .glo "sure", .glo "sure_place", .glo "is_piece", .glo "is_text", .glo "sure_text", .glo "is_move", .glo "is_row", .glo "are_ends", .glo "is_pens", .glo "sure_pens", .glo "pens_wide", .glo "later", .glo "sheets_by", .glo "gone_over", .glo "results_in", .glo "sure_both", .glo "pens_results", .glo "still_moves", .glo "moves_behind", .glo "effect_of", .glo "effect", .glo "first_unlike", .glo "same_effect", .glo "unlike_effect", .glo "_law_box", .glo "_law_take", .glo "_law_cells", .glo "_law_of", .glo "_law_same", .glo "_law_pairs", .glo "_law_piece", .glo "_law_text", .glo "_law_texts", .glo "_law_set", .glo "_law_after", .glo "_law_pen_results", .glo "_law_unlike", .glo "_law_turning", .glo "law", .free "abs", .free "all", .free "bool", .free "enumerate", .free "int", .free "isinstance", .free "len", .free "list", .free "range", .free "set", .free "sorted", .free "str", .free "tuple", .free "zip", .int "MOST_WIDE" 3, .int "SIGNS" 10, .glo "CanNot", .exc "CanNot", .exm "CanNot" "CanNot" true, .glo "Unfit", .exc "Unfit", .exm "Unfit" "Unfit" true]
abbrev R : PySem.W.OpenRow := PySem.W.OpenLaw.row PySem.Challenge.rw_copysheets_k26_main_texts_by_their_effec
abbrev hk : PySem.W.Hook := He.hookD 4 fas fns
def ob (s : PySem.W.SharedT) : He.AlD := He.obsDG 4 fas fns (HandSHeadRun.getT s)
theorem ob_eq (s : PySem.W.SharedT) : ob s = hk.obs s.abs := He.obsDG_eq (HandSHeadRun.getT_eq s)
def loose : List Str := (["is_number", "tuple_of", "is_tuple_of", "is_below", "is_within", "is_set", "sure", "sure_place", "is_piece", "is_text", "sure_text", "is_move", "is_row", "are_ends", "is_pens", "sure_pens", "pens_wide", "later", "sheets_by", "gone_over", "results_in", "sure_both", "pens_results", "still_moves", "moves_behind", "effect_of", "effect", "first_unlike", "same_effect", "unlike_effect"] : List Str) ++ (["_law_box", "_law_take", "_law_cells", "_law_of", "_law_same", "_law_pairs", "_law_piece", "_law_text", "_law_texts", "_law_set", "_law_after", "_law_pen_results", "_law_unlike", "_law_turning", "NoPlace", "CanNot", "Unfit", "SIGNS", "MOST_WIDE"] : List Str)
theorem run (w : World) : HandSHeadRun.RunEq R (PySem.W.view R.prog [56]) hk ob 3000 loose w := by
  intro os
  kernel_rfl
theorem facts {P : Program} {w : World} {K : PySem.W.Frag} {h : Heap} {mg : Str → Option Value} {fa : Addr} (X : K.In h) (G : h.Ns mainGlobals mg) (hfa : mg ("law" : Str) = some (.ref fa)) (c : He.SaysD fas fns K) :
    ∃ fd : FuncData, (∀ (s : Shared) (v : Value), BindsTo s fd ⟨[v], []⟩ [("script", v)]) ∧ ∀ base : Heap, K.In base → base.Ns mainGlobals mg → FnOk P w K mg base (L2.CX P w) 46 fa fd ["script"] (spP K mg 1 M_law) := by
  obtain ⟨fd_is_number, F_is_number⟩ := c.def_ 0 (d := d_is_number) rfl
  obtain ⟨fd_tuple_of, F_tuple_of⟩ := c.def_ 1 (d := d_tuple_of) rfl
  obtain ⟨fd_is_tuple_of, F_is_tuple_of⟩ := c.def_ 2 (d := d_is_tuple_of) rfl
  obtain ⟨fd_is_below, F_is_below⟩ := c.def_ 3 (d := d_is_below) rfl
  obtain ⟨fd_is_within, F_is_within⟩ := c.def_ 4 (d := d_is_within) rfl
  obtain ⟨fd_is_set, F_is_set⟩ := c.def_ 5 (d := d_is_set) rfl
  obtain ⟨fd_sure, F_sure⟩ := c.def_ 6 (d := d_sure) rfl
  obtain ⟨fd_sure_place, F_sure_place⟩ := c.def_ 7 (d := d_sure_place) rfl
  obtain ⟨fd_is_piece, F_is_piece⟩ := c.def_ 8 (d := d_is_piece) rfl
  obtain ⟨fd_is_text, F_is_text⟩ := c.def_ 9 (d := d_is_text) rfl
  obtain ⟨fd_sure_text, F_sure_text⟩ := c.def_ 10 (d := d_sure_text) rfl
  obtain ⟨fd_is_move, F_is_move⟩ := c.def_ 11 (d := d_is_move) rfl
  obtain ⟨fd_is_row, F_is_row⟩ := c.def_ 12 (d := d_is_row) rfl
  obtain ⟨fd_are_ends, F_are_ends⟩ := c.def_ 13 (d := d_are_ends) rfl
  obtain ⟨fd_is_pens, F_is_pens⟩ := c.def_ 14 (d := d_is_pens) rfl
  obtain ⟨fd_sure_pens, F_sure_pens⟩ := c.def_ 15 (d := d_sure_pens) rfl
  obtain ⟨fd_pens_wide, F_pens_wide⟩ := c.def_ 16 (d := d_pens_wide) rfl
  obtain ⟨fd_later, F_later⟩ := c.def_ 17 (d := d_later) rfl
  obtain ⟨fd_sheets_by, F_sheets_by⟩ := c.def_ 18 (d := d_sheets_by) rfl
  obtain ⟨fd_gone_over, F_gone_over⟩ := c.def_ 19 (d := d_gone_over) rfl
  obtain ⟨fd_results_in, F_results_in⟩ := c.def_ 20 (d := d_results_in) rfl
  obtain ⟨fd_sure_both, F_sure_both⟩ := c.def_ 21 (d := d_sure_both) rfl
  obtain ⟨fd_pens_results, F_pens_results⟩ := c.def_ 22 (d := d_pens_results) rfl
  obtain ⟨fd_still_moves, F_still_moves⟩ := c.def_ 23 (d := d_still_moves) rfl
  obtain ⟨fd_moves_behind, F_moves_behind⟩ := c.def_ 24 (d := d_moves_behind) rfl
  obtain ⟨fd_effect_of, F_effect_of⟩ := c.def_ 25 (d := d_effect_of) rfl
  obtain ⟨fd_effect, F_effect⟩ := c.def_ 26 (d := d_effect) rfl
  obtain ⟨fd_first_unlike, F_first_unlike⟩ := c.def_ 27 (d := d_first_unlike) rfl
  obtain ⟨fd_same_effect, F_same_effect⟩ := c.def_ 28 (d := d_same_effect) rfl
  obtain ⟨fd_unlike_effect, F_unlike_effect⟩ := c.def_ 29 (d := d_unlike_effect) rfl
  obtain ⟨fd__law_box, F__law_box⟩ := c.def_ 30 (d := d__law_box) rfl
  obtain ⟨fd__law_take, F__law_take⟩ := c.def_ 31 (d := d__law_take) rfl
  obtain ⟨fd__law_cells, F__law_cells⟩ := c.def_ 32 (d := d__law_cells) rfl
  obtain ⟨fd__law_of, F__law_of⟩ := c.def_ 33 (d := d__law_of) rfl
  obtain ⟨fd__law_same, F__law_same⟩ := c.def_ 34 (d := d__law_same) rfl
  obtain ⟨fd__law_pairs, F__law_pairs⟩ := c.def_ 35 (d := d__law_pairs) rfl
  obtain ⟨fd__law_piece, F__law_piece⟩ := c.def_ 36 (d := d__law_piece) rfl
  obtain ⟨fd__law_text, F__law_text⟩ := c.def_ 37 (d := d__law_text) rfl
  obtain ⟨fd__law_texts, F__law_texts⟩ := c.def_ 38 (d := d__law_texts) rfl
  obtain ⟨fd__law_set, F__law_set⟩ := c.def_ 39 (d := d__law_set) rfl
  obtain ⟨fd__law_after, F__law_after⟩ := c.def_ 40 (d := d__law_after) rfl
  obtain ⟨fd__law_pen_results, F__law_pen_results⟩ := c.def_ 41 (d := d__law_pen_results) rfl
  obtain ⟨fd__law_unlike, F__law_unlike⟩ := c.def_ 42 (d := d__law_unlike) rfl
  obtain ⟨fd__law_turning, F__law_turning⟩ := c.def_ 43 (d := d__law_turning) rfl
  obtain ⟨fd_law, F_law⟩ := c.def_ 44 (d := d_law) rfl
  have g_is_number := He.glo_ok X G (c.fact 0 (f := .glo "is_number") rfl)
  have g_tuple_of := He.glo_ok X G (c.fact 1 (f := .glo "tuple_of") rfl)
  have g_is_tuple_of := He.glo_ok X G (c.fact 2 (f := .glo "is_tuple_of") rfl)
  have g_is_below := He.glo_ok X G (c.fact 3 (f := .glo "is_below") rfl)
  have g_is_within := He.glo_ok X G (c.fact 4 (f := .glo "is_within") rfl)
  have g_is_set := He.glo_ok X G (c.fact 5 (f := .glo "is_set") rfl)
  have g_sure := He.glo_ok X G (c.fact 6 (f := .glo "sure") rfl)
  have g_sure_place := He.glo_ok X G (c.fact 7 (f := .glo "sure_place") rfl)
  have g_is_piece := He.glo_ok X G (c.fact 8 (f := .glo "is_piece") rfl)
  have g_is_text := He.glo_ok X G (c.fact 9 (f := .glo "is_text") rfl)
  have g_sure_text := He.glo_ok X G (c.fact 10 (f := .glo "sure_text") rfl)
  have g_is_move := He.glo_ok X G (c.fact 11 (f := .glo "is_move") rfl)
  have g_is_row := He.glo_ok X G (c.fact 12 (f := .glo "is_row") rfl)
  have g_are_ends := He.glo_ok X G (c.fact 13 (f := .glo "are_ends") rfl)
  have g_is_pens := He.glo_ok X G (c.fact 14 (f := .glo "is_pens") rfl)
  have g_sure_pens := He.glo_ok X G (c.fact 15 (f := .glo "sure_pens") rfl)
  have g_pens_wide := He.glo_ok X G (c.fact 16 (f := .glo "pens_wide") rfl)
  have g_later := He.glo_ok X G (c.fact 17 (f := .glo "later") rfl)
  have g_sheets_by := He.glo_ok X G (c.fact 18 (f := .glo "sheets_by") rfl)
  have g_gone_over := He.glo_ok X G (c.fact 19 (f := .glo "gone_over") rfl)
  have g_results_in := He.glo_ok X G (c.fact 20 (f := .glo "results_in") rfl)
  have g_sure_both := He.glo_ok X G (c.fact 21 (f := .glo "sure_both") rfl)
  have g_pens_results := He.glo_ok X G (c.fact 22 (f := .glo "pens_results") rfl)
  have g_still_moves := He.glo_ok X G (c.fact 23 (f := .glo "still_moves") rfl)
  have g_moves_behind := He.glo_ok X G (c.fact 24 (f := .glo "moves_behind") rfl)
  have g_effect_of := He.glo_ok X G (c.fact 25 (f := .glo "effect_of") rfl)
  have g_effect := He.glo_ok X G (c.fact 26 (f := .glo "effect") rfl)
  have g_first_unlike := He.glo_ok X G (c.fact 27 (f := .glo "first_unlike") rfl)
  have g_same_effect := He.glo_ok X G (c.fact 28 (f := .glo "same_effect") rfl)
  have g_unlike_effect := He.glo_ok X G (c.fact 29 (f := .glo "unlike_effect") rfl)
  have g__law_box := He.glo_ok X G (c.fact 30 (f := .glo "_law_box") rfl)
  have g__law_take := He.glo_ok X G (c.fact 31 (f := .glo "_law_take") rfl)
  have g__law_cells := He.glo_ok X G (c.fact 32 (f := .glo "_law_cells") rfl)
  have g__law_of := He.glo_ok X G (c.fact 33 (f := .glo "_law_of") rfl)
  have g__law_same := He.glo_ok X G (c.fact 34 (f := .glo "_law_same") rfl)
  have g__law_pairs := He.glo_ok X G (c.fact 35 (f := .glo "_law_pairs") rfl)
  have g__law_piece := He.glo_ok X G (c.fact 36 (f := .glo "_law_piece") rfl)
  have g__law_text := He.glo_ok X G (c.fact 37 (f := .glo "_law_text") rfl)
  have g__law_texts := He.glo_ok X G (c.fact 38 (f := .glo "_law_texts") rfl)
  have g__law_set := He.glo_ok X G (c.fact 39 (f := .glo "_law_set") rfl)
  have g__law_after := He.glo_ok X G (c.fact 40 (f := .glo "_law_after") rfl)
  have g__law_pen_results := He.glo_ok X G (c.fact 41 (f := .glo "_law_pen_results") rfl)
  have g__law_unlike := He.glo_ok X G (c.fact 42 (f := .glo "_law_unlike") rfl)
  have g__law_turning := He.glo_ok X G (c.fact 43 (f := .glo "_law_turning") rfl)
  have g_law := He.glo_ok X G (c.fact 44 (f := .glo "law") rfl)
  have x_CanNot := He.exc_ok (c.fact 62 (f := .exc "CanNot") rfl)
  have x_Unfit := He.exc_ok (c.fact 65 (f := .exc "Unfit") rfl)
  have hy : Hy K mg (He.ga K "CanNot") (He.ga K "Unfit") := ⟨He.free_ok X G (c.fact 45 (f := .free "abs") rfl), He.free_ok X G (c.fact 46 (f := .free "all") rfl), He.free_ok X G (c.fact 47 (f := .free "bool") rfl), He.free_ok X G (c.fact 48 (f := .free "enumerate") rfl), He.free_ok X G (c.fact 49 (f := .free "int") rfl), He.free_ok X G (c.fact 50 (f := .free "isinstance") rfl), He.free_ok X G (c.fact 51 (f := .free "len") rfl), He.free_ok X G (c.fact 52 (f := .free "list") rfl), He.free_ok X G (c.fact 53 (f := .free "range") rfl), He.free_ok X G (c.fact 54 (f := .free "set") rfl), He.free_ok X G (c.fact 55 (f := .free "sorted") rfl), He.free_ok X G (c.fact 56 (f := .free "str") rfl), He.free_ok X G (c.fact 57 (f := .free "tuple") rfl), He.free_ok X G (c.fact 58 (f := .free "zip") rfl), He.int_ok X G (c.fact 59 (f := .int "MOST_WIDE" 3) rfl), He.int_ok X G (c.fact 60 (f := .int "SIGNS" 10) rfl), ⟨He.glo_ok X G (c.fact 61 (f := .glo "CanNot") rfl), x_CanNot.1, x_CanNot.2.1, x_CanNot.2.2.1, x_CanNot.2.2.2, He.exm_ok (c.fact 63 (f := .exm "CanNot" "CanNot" true) rfl)⟩, ⟨He.glo_ok X G (c.fact 64 (f := .glo "Unfit") rfl), x_Unfit.1, x_Unfit.2.1, x_Unfit.2.2.1, x_Unfit.2.2.2, He.exm_ok (c.fact 66 (f := .exm "Unfit" "Unfit" true) rfl)⟩⟩
  have e := hfa.symm.trans g_law
  cases e
  have b := FunD.bindsA (ps := ["script"]) F_law fun _ _ _ _ _ _ us hl => match us, hl with | [_], _ => rfl
  refine ⟨fd_law, fun s v => b s [v] rfl, fun base _ _ => ?_⟩
  have G_is_number : GFn P w K mg base "is_number" 1 1 M_is_number := ok_is_number F_is_number hy g_is_number
  have G_tuple_of : GFn P w K mg base "tuple_of" 40 1 M_tuple_of := ok_tuple_of F_tuple_of hy g_tuple_of
  have G_is_tuple_of : GFn P w K mg base "is_tuple_of" 1 2 M_is_tuple_of := ok_is_tuple_of F_is_tuple_of hy g_is_tuple_of
  have G_is_below : GFn P w K mg base "is_below" 2 2 M_is_below := ok_is_below F_is_below hy g_is_below G_is_number
  have G_is_within : GFn P w K mg base "is_within" 2 3 M_is_within := ok_is_within F_is_within hy g_is_within G_is_number
  have G_is_set : GFn P w K mg base "is_set" 1 1 M_is_set := ok_is_set F_is_set hy g_is_set
  have G_sure : GFn P w K mg base "sure" 1 1 M_sure := ok_sure F_sure hy g_sure
  have G_sure_place : GFn P w K mg base "sure_place" 2 2 M_sure_place := ok_sure_place F_sure_place hy g_sure_place G_is_number G_sure
  have G_is_piece : GFn P w K mg base "is_piece" 3 1 M_is_piece := ok_is_piece F_is_piece hy g_is_piece G_is_within
  have G_is_text : GFn P w K mg base "is_text" 3 2 M_is_text := ok_is_text F_is_text hy g_is_text G_is_within
  have G_sure_text : GFn P w K mg base "sure_text" 41 2 M_sure_text := ok_sure_text F_sure_text hy g_sure_text G_tuple_of G_sure G_is_text
  have G_is_move : GFn P w K mg base "is_move" 4 2 M_is_move := ok_is_move F_is_move hy g_is_move G_is_tuple_of G_is_below G_is_piece
  have G_is_row : GFn P w K mg base "is_row" 5 3 M_is_row := ok_is_row F_is_row hy g_is_row G_is_tuple_of G_is_below G_is_move
  have G_are_ends : GFn P w K mg base "are_ends" 5 2 M_are_ends := ok_are_ends F_are_ends hy g_are_ends G_is_set G_is_move
  have G_is_pens : GFn P w K mg base "is_pens" 6 1 M_is_pens := ok_is_pens F_is_pens hy g_is_pens G_is_tuple_of G_is_below G_is_within G_is_piece G_is_row G_are_ends
  have G_sure_pens : GFn P w K mg base "sure_pens" 41 1 M_sure_pens := ok_sure_pens F_sure_pens hy g_sure_pens G_tuple_of G_sure G_is_pens
  have G_pens_wide : GFn P w K mg base "pens_wide" 1 1 M_pens_wide := ok_pens_wide F_pens_wide hy g_pens_wide
  have G_later : GFn P w K mg base "later" 1 3 M_later := ok_later F_later hy g_later
  have G_sheets_by : GFn P w K mg base "sheets_by" 1 2 M_sheets_by := ok_sheets_by F_sheets_by hy g_sheets_by
  have G_gone_over : GFn P w K mg base "gone_over" 2 2 M_gone_over := ok_gone_over F_gone_over hy g_gone_over G_later G_sheets_by
  have G_results_in : GFn P w K mg base "results_in" 1 3 M_results_in := ok_results_in F_results_in hy g_results_in
  have G_sure_both : GFn P w K mg base "sure_both" 42 2 M_sure_both := ok_sure_both F_sure_both hy g_sure_both G_sure_text G_sure_pens G_pens_wide
  have G_pens_results : GFn P w K mg base "pens_results" 43 2 M_pens_results := ok_pens_results F_pens_results hy g_pens_results G_gone_over G_results_in G_sure_both
  have G_still_moves : GFn P w K mg base "still_moves" 1 1 M_still_moves := ok_still_moves F_still_moves hy g_still_moves
  have G_moves_behind : GFn P w K mg base "moves_behind" 1 2 M_moves_behind := ok_moves_behind F_moves_behind hy g_moves_behind
  have G_effect_of : GFn P w K mg base "effect_of" 2 3 M_effect_of := ok_effect_of F_effect_of hy g_effect_of G_later G_still_moves G_moves_behind
  have G_effect : GFn P w K mg base "effect" 43 3 M_effect := ok_effect F_effect hy g_effect G_sure_place G_sure_both G_effect_of
  have G_first_unlike : GFn P w K mg base "first_unlike" 43 3 M_first_unlike := ok_first_unlike F_first_unlike hy g_first_unlike G_sure_text G_pens_wide G_sure_both G_effect_of
  have G_same_effect : GFn P w K mg base "same_effect" 44 3 M_same_effect := ok_same_effect F_same_effect hy g_same_effect G_first_unlike
  have G_unlike_effect : GFn P w K mg base "unlike_effect" 44 3 M_unlike_effect := ok_unlike_effect F_unlike_effect hy g_unlike_effect G_first_unlike
  have G__law_box : GFn P w K mg base "_law_box" 1 2 M__law_box := ok__law_box F__law_box hy g__law_box
  have G__law_take : GFu P w K mg base "_law_take" 1 1 M__law_take := ok__law_take F__law_take hy g__law_take
  have G__law_cells : GFn P w K mg base "_law_cells" 1 2 M__law_cells := ok__law_cells F__law_cells hy g__law_cells
  have G__law_of : GFu P w K mg base "_law_of" 2 1 M__law_of := ok__law_of F__law_of hy g__law_of G__law_take
  have G__law_same : GFn P w K mg base "_law_same" 40 2 M__law_same := ok__law_same F__law_same hy g__law_same
  have G__law_pairs : GFn P w K mg base "_law_pairs" 1 2 M__law_pairs := ok__law_pairs F__law_pairs hy g__law_pairs
  have G__law_piece : GFu P w K mg base "_law_piece" 2 1 M__law_piece := ok__law_piece F__law_piece hy g__law_piece G__law_take
  have G__law_text : GFu P w K mg base "_law_text" 2 2 M__law_text := ok__law_text F__law_text hy g__law_text G__law_take
  have G__law_texts : GFn P w K mg base "_law_texts" 2 2 M__law_texts := ok__law_texts F__law_texts hy g__law_texts G__law_pairs
  have G__law_set : GFn P w K mg base "_law_set" 1 1 M__law_set := ok__law_set F__law_set hy g__law_set
  have G__law_after : GFn P w K mg base "_law_after" 1 2 M__law_after := ok__law_after F__law_after hy g__law_after
  have G__law_pen_results : GFn P w K mg base "_law_pen_results" 2 2 M__law_pen_results := ok__law_pen_results F__law_pen_results hy g__law_pen_results G__law_set G__law_after
  have G__law_unlike : GFn P w K mg base "_law_unlike" 45 3 M__law_unlike := ok__law_unlike F__law_unlike hy g__law_unlike G_unlike_effect
  have G__law_turning : GFu P w K mg base "_law_turning" 3 1 M__law_turning := ok__law_turning F__law_turning hy g__law_turning G__law_take G__law_piece G__law_set
  exact ok_law F_law hy g_law G_pens_results G_effect G_same_effect G__law_box G__law_take G__law_cells G__law_of G__law_same G__law_piece G__law_text G__law_texts G__law_pen_results G__law_unlike G__law_turning
theorem law_holds (hM : ∀ ns : List Int, ns.length ≤ 63 → M_law [.list (ns.map PyData.int)] = .ok (.val (.bool true))) : PySem.Challenge.rw_copysheets_k26_main_texts_by_their_effec.Holds := by
  w_on; o_law
  refine HandSHeadRun.head_any (r := PySem.W.OpenLaw.row PySem.Challenge.rw_copysheets_k26_main_texts_by_their_effec) (q := PySem.W.view (PySem.W.OpenLaw.row PySem.Challenge.rw_copysheets_k26_main_texts_by_their_effec).prog [56]) (H := hk) (ob := ob) (M := 3000) (loose := loose) (d := HandSHeadRun.topDef (PySem.W.OpenLaw.row PySem.Challenge.rw_copysheets_k26_main_texts_by_their_effec).prog 56) (kwd := []) ob_eq
    (by kernel_rfl) (fun s => by kernel_rfl) run (by kernel_rfl) (by kernel_rfl) (by kernel_rfl) (by rfl) (by first | assumption | decide +kernel) (by decide +kernel) ⟨rfl, rfl, rfl, rfl, rfl, by decide +kernel⟩ ?hw ?hc
  case hw => w_witness2
  case hc =>
    refine walk_ofEw (l := PySem.Challenge.rw_copysheets_k26_main_texts_by_their_effec) (n := 63) (k := 46) (x := "script") rfl (by decide) (by kernel_rfl) ⟨rfl, by decide, by decide⟩ ?F
    intro w mg fa h Y G hmg0
    obtain ⟨K, KX, c⟩ := Y
    have hmg : mg ("law" : PySem.Str) = some (.ref fa) := by
      have e : (HandSHeadRun.topDef (PySem.W.OpenLaw.row PySem.Challenge.rw_copysheets_k26_main_texts_by_their_effec).prog 56).name = ("law" : PySem.Str) := by kernel_rfl
      rw [← e]
      exact hmg0
    obtain ⟨fd, hb, hF⟩ := facts (P := (PySem.Challenge.rw_copysheets_k26_main_texts_by_their_effec).prog) (w := w) KX G hmg c
    exact ⟨K, fd, _, KX, hb, fun H a ns hl _ hS => law_sp hM H a ns hl hS, hF⟩
end TT

namespace TT
open PySem PySem.Spec L2 GL GT
open PyProof.Rows hiding St
local macro_rules | `(tactic| infer_instance) => `(tactic| first
  | (with_reducible apply es_seqS)
  | (with_reducible apply es_setS)
  | (with_reducible apply es_seqA)
  | (with_reducible apply es_seqE)
  | (with_reducible apply es_ret)
  | (with_reducible apply es_expr)
  | (with_reducible apply es_asg)
  | (with_reducible exact es_skip)
  | (with_reducible exact ev_K)
  | (with_reducible exact ev_nil)
  | ((with_reducible apply ev_nilE); exact rfl)
  | ((with_reducible apply ev_KE); exact rfl)
  | (with_reducible exact ev_cYes)
  | (with_reducible exact ev_partN)
  | (with_reducible apply ev_cons)
  | ((with_reducible apply ev_N); exact rfl)
  | ((with_reducible apply ev_MvS); exact rfl)
  | ((with_reducible apply ev_NoS); exact rfl)
  | (with_reducible apply ev_dataE)
  | (with_reducible apply ev_val)
  | (with_reducible apply ev_bin)
  | (with_reducible apply ev_un)
  | ((with_reducible apply ev_binS))
  | ((with_reducible apply ev_ixS))
  | ((with_reducible apply ev_lenS))
  | (with_reducible apply ev_test)
  | (with_reducible apply ev_notE)
  | (with_reducible apply ev_notVE)
  | (with_reducible apply ev_tupE)
  | (with_reducible apply ev_lstE)
  | (with_reducible apply ev_app)
  | (with_reducible apply ev_appO)
  | (with_reducible apply ev_isi)
  | (with_reducible apply ev_callE)
  | ((with_reducible apply ev_callUE); exact rfl)
  | (with_reducible apply ev_partS)
  | (with_reducible apply ev_seqI)
  | (with_reducible apply ev_lcS)
  | (with_reducible apply et_NS)
  | (with_reducible exact ets_nil)
  | ((with_reducible apply et_TE); exact rfl)
  | ((with_reducible apply et_LE); exact rfl)
  | focus ((with_reducible show List.length _ = _); exact rfl)
  | focus ((with_reducible show List.length (α := PyData) _ ≤ 1000); (simp only [List.length_cons, List.length_nil]; omega))
  | (with_reducible apply ets_cons)
  | (with_reducible apply dAdd_iE)
  | (with_reducible apply dSub_iE)
  | (with_reducible apply dLt_iE)
  | (with_reducible apply dGt_iE)
  | (with_reducible apply dLe_iE)
  | (with_reducible apply dGe_iE)
  | (with_reducible apply dEq_iE)
  | (with_reducible apply dNe_iE)
  | (with_reducible apply dEq_bE)
  | (with_reducible apply dNe_bE)
  | (with_reducible apply dLen_lE)
  | (with_reducible apply dLen_tE)
  | (with_reducible exact dAbs_i)
  | (with_reducible exact dInt_i)
  | (with_reducible exact dInt_b)
  | (with_reducible exact dTuple_l)
  | (with_reducible exact dTuple_t)
  | focus ((with_reducible show dTuple _ = _); exact rfl)
  | (with_reducible exact dList_l)
  | (with_reducible exact dList_t)
  | (with_reducible exact dMin2_i)
  | (with_reducible exact dMax2_i)
  | focus ((with_reducible show _ = some (some _)); exact rfl)
  | (with_reducible exact data_val)
  | (with_reducible exact data_own)
  | focus ((with_reducible show (!_) = _); exact rfl)
  | ((with_reducible apply look_val); exact rfl)
  | ((with_reducible apply look_own); exact rfl)
  | focus ((with_reducible show seqOf _ = _); exact rfl)
  | focus ((with_reducible show @Eq PV _ _); exact rfl)
  | focus ((with_reducible show @Eq PSt _ _); first | (focus (dsimp only [List.set, List.set_cons_succ, List.set_cons_zero, wipeP, restP, keepV, List.getElem?_cons_succ, List.getElem?_cons_zero]; try exact rfl)) | exact rfl)
  | focus ((with_reducible show isaD _ _ = _); exact rfl)
  | focus ((with_reducible show isa2 _ _ _ = _); exact rfl)
  | focus ((with_reducible show dIx _ _ = _); first | exact rfl | exact dIx_t0 rfl | exact dIx_l0 rfl)
  | focus ((with_reducible show (_ && _) = _); exact rfl)
  | focus ((with_reducible show (_ || _) = _); exact rfl)
  | (with_reducible apply dMul_iE)
  | (with_reducible apply dMod_iE)
  | (with_reducible apply dFdiv_iE)
  | (with_reducible exact (rfl : (_ : Bool) = _))
  | (with_reducible exact (rfl : (_ : Int) = _))
  | exact decide_eq_true (by omega)
  | exact decide_eq_false (by omega)
  | focus ((with_reducible show (_ : Int) = _); omega)
  | focus ((with_reducible show (_ : Int) < _); omega)
  )
local macro_rules | `(tactic| infer_instance) => `(tactic| first
  | (with_reducible apply ev_binO)
  | (with_reducible apply ev_rev)
  | (with_reducible apply ev_binSS)
  | ((with_reducible apply ev_pop); exact rfl)

  | focus ((with_reducible show ixN _ _ = _); exact rfl)
  | focus ((with_reducible show _ = some (some (PV.own _))); exact rfl)
  | focus ((with_reducible show _ ∨ _); first | (left; omega) | (right; omega))
  | focus ((with_reducible show _ ∧ _ < (1073741824 : Int)); omega)
  | focus ((with_reducible show dIs _ _ = _); exact rfl)
  | focus ((with_reducible show dIsNot _ _ = _); exact rfl)
  | (with_reducible exact decide_eq_true rfl)
  | focus ((with_reducible show decide (@Eq Bool _ _) = _); exact rfl))
abbrev eP (p : List Int) : PyData := .tuple (p.map .int)
theorem t_is_number {i : Int} : M_is_number [.int i] = .ok (.val (.bool true)) := by
  show (b_is_number [some (.val (.int i))]).fin = _
  apply fin_ret
  unfold b_is_number
  refine es_ret (ev_val (ev_andVP (k := true) (l := true) ?_ ?_))
  repeat infer_instance
theorem t_is_within {i : Int} (h : 0 ≤ i ∧ i ≤ 9) : M_is_within [.int i, .int 0, .int 9] = .ok (.val (.bool true)) := by
  show (b_is_within [some (.val (.int i)), some (.val (.int 0)), some (.val (.int 9))]).fin = _
  apply fin_ret
  unfold b_is_within
  refine es_ret (ev_val (ev_andVP (k := true) (l := true) ?_ ?_))
  repeat infer_instance
  exact t_is_number
  repeat infer_instance
  apply ev_chainT
  repeat infer_instance
theorem t_tuple_i {k : Nat} {i : Int} : R_tuple_of (k + 1) [.int i] = .ok (.val (.int i)) := by
  show (b_tuple_of (R_tuple_of k) [some (.val (.int i)), none]).fin = _
  apply fin_ret
  unfold b_tuple_of
  apply es_seq
  apply es_ifF
  repeat infer_instance
theorem t_tuple_map {k : Nat} (h : PyData → PyData) (ds : List PyData) (hl : ds.length ≤ 1000) (hh : ∀ d ∈ ds, R_tuple_of k [d] = .ok (.val (h d))) {d : PyData} (hd : d = .list ds ∨ d = .tuple ds) : R_tuple_of (k + 1) [d] = .ok (.val (.tuple (ds.map h))) := by
  show (b_tuple_of (R_tuple_of k) [some (.val d), none]).fin = _
  apply fin_ret
  unfold b_tuple_of
  apply es_seqR
  apply es_ifT
  · refine ev_test (ev_isi (d := d) (ev_N rfl) (k := true) ?_)
    rcases hd with e | e <;> subst e <;> rfl
  · apply es_ret
    apply ev_val
    apply ev_app
    apply ev_cons
    apply ev_dataE
    · refine ev_lcS (ev_seqI (ev_N rfl) (?_ : _ = some ds)) rfl (compL_map0 h ds (by omega) fun e he => ?_) rfl
      · rcases hd with e | e <;> subst e <;> rfl
      · refine ⟨_, _, _, et_N, ev_cYes, ev_dataE (ev_callE (ev_cons (ev_N rfl) ev_nil) rfl (hh e he)) rfl, rfl⟩
    repeat infer_instance
def Vp (p : List Int) : Prop := (∀ i ∈ p, 0 ≤ i ∧ i ≤ 9) ∧ p.length ≤ 1000
theorem t_tuple_leaf {k : Nat} {d : PyData} (h : isa2 "list" "tuple" d = some false) : R_tuple_of (k + 1) [d] = .ok (.val d) := by
  show (b_tuple_of (R_tuple_of k) [some (.val d), none]).fin = _
  apply fin_ret
  unfold b_tuple_of
  apply es_seq
  · apply es_ifF
    · exact ev_test (ev_isi (ev_N rfl) h)
    · exact es_skip
  · exact es_ret (ev_MvS rfl rfl)
theorem t_tupG : ∀ (k : Nat) (d : PyData), sz d = true → d.depth < k → R_tuple_of k [d] = .ok (.val (tup d))
  | 0, _, _, h => by omega
  | k + 1, .int i, _, _ => t_tuple_leaf rfl
  | k + 1, .none, _, _ => t_tuple_leaf rfl
  | k + 1, .bool i, _, _ => t_tuple_leaf rfl
  | k + 1, .str i, _, _ => t_tuple_leaf rfl
  | k + 1, .dict _, h, _ => by simp [sz] at h
  | k + 1, .list ds, h, hd => by
    have h' : ds.length ≤ 1000 ∧ szAll ds = true := by simpa [sz] using h
    simp only [PyData.depth] at hd
    rw [tup, tupAll_map]
    exact t_tuple_map tup ds h'.1 (fun e m => t_tupG k e (szAll_mem h'.2 e m) (by have := depth_mem m; omega)) (.inl rfl)
  | k + 1, .tuple ds, h, hd => by
    have h' : ds.length ≤ 1000 ∧ szAll ds = true := by simpa [sz] using h
    simp only [PyData.depth] at hd
    rw [tup, tupAll_map]
    exact t_tuple_map tup ds h'.1 (fun e m => t_tupG k e (szAll_mem h'.2 e m) (by have := depth_mem m; omega)) (.inr rfl)
theorem t_tuple_of {d e : PyData} (h : sz d = true) (hd : d.depth < 40) (he : tup d = e) : M_tuple_of [d] = .ok (.val e) := by subst he; exact t_tupG 40 d h hd
theorem map_drop' (x : List Int) (n : Nat) : (x.map PyData.int).drop n = (x.drop n).map PyData.int := by simp
theorem map_take' (x : List Int) (n : Nat) : (x.map PyData.int).take n = (x.take n).map PyData.int := by simp
abbrev tyP : Ty eP 1 := Ty.list Ty.int
theorem sz_P {p : List Int} (h : p.length ≤ 1000) : sz (eP p) = true := by
  have : szAll (p.map .int) = true := szAll_of fun d m => by obtain ⟨i, _, rfl⟩ := List.mem_map.mp m; rfl
  simp [sz, this, h]
theorem isT_P (p : List Int) : ∃ ds, eP p = .tuple ds := ⟨_, rfl⟩
theorem t_is_tuple_of {ds : List PyData} {n : Int} (h : (ds.length : Int) = n) : M_is_tuple_of [.tuple ds, .int n] = .ok (.val (.bool true)) := by
  show (b_is_tuple_of [some (.val (.tuple ds)), some (.val (.int n))]).fin = _
  apply fin_ret
  unfold b_is_tuple_of
  refine es_ret (ev_val (ev_andVP (k := true) (l := true) ?_ ?_))
  repeat infer_instance
theorem t_sure : M_sure [.bool true] = .ok (.val .none) := by
  show (b_sure [some (.val (.bool true))]).fin = _
  apply fin_nx
  unfold b_sure
  apply es_ifF
  repeat infer_instance
theorem t_sureX : M_sure [.bool false] = .exc ⟨"Unfit", none⟩ := by
  show (b_sure [some (.val (.bool false))]).fin = _
  apply fin_exc
  unfold b_sure
  apply es_ifT
  repeat infer_instance
  exact es_exc
theorem t_sureE {k : Bool} (h : k = true) : M_sure [.bool k] = .ok (.val .none) := by subst h; exact t_sure
theorem t_is_piece {p : List Int} (h : Vp p) : M_is_piece [eP p] = .ok (.val (.bool true)) := by
  show (b_is_piece [some (.val (.tuple (p.map .int))), none]).fin = _
  apply fin_ret
  unfold b_is_piece
  refine es_ret (ev_val (ev_andVP (k := true) (l := true) ?_ ?_))
  repeat infer_instance
  · refine compL_map0 (fun _ => .bool true) _ (by have := h.2; simp; omega) fun e he => ?_
    obtain ⟨i, hi, rfl⟩ := List.mem_map.mp he
    refine ⟨_, _, _, et_N, ev_cYes, ev_dataE (ev_callE (ev_cons (ev_N rfl) (ev_cons ev_K (ev_cons (ev_bin ev_K ev_K dSub_i) ev_nil))) rfl (t_is_within (h.1 i hi))) rfl, rfl⟩
  repeat infer_instance
  · exact dAll_true fun d hd => by
      obtain ⟨_, _, rfl⟩ := List.mem_map.mp hd
      rfl
end TT

namespace TT
open PySem PySem.Spec L2 GL GT
open PyProof.Rows hiding St
local macro_rules | `(tactic| infer_instance) => `(tactic| first
  | (with_reducible apply es_seqS)
  | (with_reducible apply es_setS)
  | (with_reducible apply es_seqA)
  | (with_reducible apply es_seqE)
  | (with_reducible apply es_ret)
  | (with_reducible apply es_expr)
  | (with_reducible apply es_asg)
  | (with_reducible exact es_skip)
  | (with_reducible exact ev_K)
  | (with_reducible exact ev_nil)
  | ((with_reducible apply ev_nilE); exact rfl)
  | ((with_reducible apply ev_KE); exact rfl)
  | (with_reducible exact ev_cYes)
  | (with_reducible exact ev_partN)
  | (with_reducible apply ev_cons)
  | ((with_reducible apply ev_N); exact rfl)
  | ((with_reducible apply ev_MvS); exact rfl)
  | ((with_reducible apply ev_NoS); exact rfl)
  | (with_reducible apply ev_dataE)
  | (with_reducible apply ev_val)
  | (with_reducible apply ev_bin)
  | (with_reducible apply ev_un)
  | ((with_reducible apply ev_binS))
  | ((with_reducible apply ev_ixS))
  | ((with_reducible apply ev_lenS))
  | (with_reducible apply ev_test)
  | (with_reducible apply ev_notE)
  | (with_reducible apply ev_notVE)
  | (with_reducible apply ev_tupE)
  | (with_reducible apply ev_lstE)
  | (with_reducible apply ev_app)
  | (with_reducible apply ev_appO)
  | (with_reducible apply ev_isi)
  | (with_reducible apply ev_callE)
  | ((with_reducible apply ev_callUE); exact rfl)
  | (with_reducible apply ev_partS)
  | (with_reducible apply ev_seqI)
  | (with_reducible apply ev_lcS)
  | (with_reducible apply et_NS)
  | (with_reducible exact ets_nil)
  | ((with_reducible apply et_TE); exact rfl)
  | ((with_reducible apply et_LE); exact rfl)
  | focus ((with_reducible show List.length _ = _); exact rfl)
  | focus ((with_reducible show List.length (α := PyData) _ ≤ 1000); (simp only [List.length_cons, List.length_nil]; omega))
  | (with_reducible apply ets_cons)
  | (with_reducible apply dAdd_iE)
  | (with_reducible apply dSub_iE)
  | (with_reducible apply dLt_iE)
  | (with_reducible apply dGt_iE)
  | (with_reducible apply dLe_iE)
  | (with_reducible apply dGe_iE)
  | (with_reducible apply dEq_iE)
  | (with_reducible apply dNe_iE)
  | (with_reducible apply dEq_bE)
  | (with_reducible apply dNe_bE)
  | (with_reducible apply dLen_lE)
  | (with_reducible apply dLen_tE)
  | (with_reducible exact dAbs_i)
  | (with_reducible exact dInt_i)
  | (with_reducible exact dInt_b)
  | (with_reducible exact dTuple_l)
  | (with_reducible exact dTuple_t)
  | focus ((with_reducible show dTuple _ = _); exact rfl)
  | (with_reducible exact dList_l)
  | (with_reducible exact dList_t)
  | (with_reducible exact dMin2_i)
  | (with_reducible exact dMax2_i)
  | focus ((with_reducible show _ = some (some _)); exact rfl)
  | (with_reducible exact data_val)
  | (with_reducible exact data_own)
  | focus ((with_reducible show (!_) = _); exact rfl)
  | ((with_reducible apply look_val); exact rfl)
  | ((with_reducible apply look_own); exact rfl)
  | focus ((with_reducible show seqOf _ = _); exact rfl)
  | focus ((with_reducible show @Eq PV _ _); exact rfl)
  | focus ((with_reducible show @Eq PSt _ _); first | (focus (dsimp only [List.set, List.set_cons_succ, List.set_cons_zero, wipeP, restP, keepV, List.getElem?_cons_succ, List.getElem?_cons_zero]; try exact rfl)) | exact rfl)
  | focus ((with_reducible show isaD _ _ = _); exact rfl)
  | focus ((with_reducible show isa2 _ _ _ = _); exact rfl)
  | focus ((with_reducible show dIx _ _ = _); first | exact rfl | exact dIx_t0 rfl | exact dIx_l0 rfl)
  | focus ((with_reducible show (_ && _) = _); exact rfl)
  | focus ((with_reducible show (_ || _) = _); exact rfl)
  | (with_reducible apply dMul_iE)
  | (with_reducible apply dMod_iE)
  | (with_reducible apply dFdiv_iE)
  | (with_reducible exact (rfl : (_ : Bool) = _))
  | (with_reducible exact (rfl : (_ : Int) = _))
  | exact decide_eq_true (by omega)
  | exact decide_eq_false (by omega)
  | focus ((with_reducible show (_ : Int) = _); omega)
  | focus ((with_reducible show (_ : Int) < _); omega)
  )
local macro_rules | `(tactic| infer_instance) => `(tactic| first
  | (with_reducible apply ev_binO)
  | (with_reducible apply ev_rev)
  | (with_reducible apply ev_binSS)
  | ((with_reducible apply ev_pop); exact rfl)

  | focus ((with_reducible show ixN _ _ = _); exact rfl)
  | focus ((with_reducible show _ = some (some (PV.own _))); exact rfl)
  | focus ((with_reducible show _ ∨ _); first | (left; omega) | (right; omega))
  | focus ((with_reducible show _ ∧ _ < (1073741824 : Int)); omega)
  | focus ((with_reducible show dIs _ _ = _); exact rfl)
  | focus ((with_reducible show dIsNot _ _ = _); exact rfl)
  | (with_reducible exact decide_eq_true rfl)
  | focus ((with_reducible show decide (@Eq Bool _ _) = _); exact rfl))
theorem es_seqIx {f fi : PSt → Rs PyData} {g2 : PSt → Os} {ps ps1 ps2 ps3 : PSt} {i j : Nat} {d : PyData} {k : Int} {es es0 : List PyData} {o : Os} (h : Ev f ps d ps1) (h0 : ps1[i]? = some (some (.own (.list es0)))) (hi : Ev fi ps1 (.int k) ps2) (h1 : ps2[i]? = some (some (.own (.list es)))) (hj : ixN es.length k = some j) (hs : ps2.set i (some (.own (.list (es.set j d)))) = ps3) (h2 : Es g2 ps3 o) : Es (fSeq (fSetIx i fi f) g2) ps o := by subst hs; exact es_seq (es_setIx h h0 hi h1 hj) h2
theorem es_setIxE {f fi : PSt → Rs PyData} {ps ps1 ps2 ps3 : PSt} {i j : Nat} {d : PyData} {k : Int} {es es0 : List PyData} (h : Ev f ps d ps1) (h0 : ps1[i]? = some (some (.own (.list es0)))) (hi : Ev fi ps1 (.int k) ps2) (h1 : ps2[i]? = some (some (.own (.list es)))) (hj : ixN es.length k = some j) (hs : ps2.set i (some (.own (.list (es.set j d)))) = ps3) : Es (fSetIx i fi f) ps (.nx ps3) := by subst hs; exact es_setIx h h0 hi h1 hj
local macro_rules | `(tactic| infer_instance) => `(tactic| first
  | (with_reducible apply es_seqIx)
  | (with_reducible apply es_setIxE))
/-- the urn: its place 0 and 1 at least 0, its place 2 at most N -/
def Urn (N : Nat) (u : List PyData) : Prop := ∃ x y z : Int, u = [.int x, .int y, .int z] ∧ 0 ≤ x ∧ 0 ≤ y ∧ 0 ≤ z ∧ z ≤ N
theorem Urn.le {N M : Nat} {u : List PyData} (h : Urn N u) (hn : N ≤ M) : Urn M u := by
  obtain ⟨x, y, z, e, a, b, c, d⟩ := h
  exact ⟨x, y, z, e, a, b, c, by omega⟩
theorem t_box {c : Int} : ∃ u, M__law_box [.list [.int c], .int 0] = .ok (.own (.list u)) ∧ Urn 0 u := by
  refine ⟨[.int ((if c < 0 then -c else c) * (if (decide ((10 : Int) ^ 18 ≤ (if c < 0 then -c else c))) then 1 else 0)), .int (c % 2305843009213693951 + 41183 * 0 + 97048124), .int 0], ?_, ⟨_, _, _, rfl, ?_, ?_, by omega, by omega⟩⟩
  · show (b__law_box [some (.val (.list [.int c])), some (.val (.int 0)), none]).fin = _
    apply fin_retE
    unfold b__law_box
    apply es_seqS
    · apply ev_val
      apply ev_ifT
      · repeat infer_instance
        rfl
      repeat infer_instance
    repeat infer_instance
    · show dPow (.int 10) (.int 18) = some (.int (10 ^ 18))
      rfl
    repeat infer_instance
  · split <;> split <;> omega
  · have := Int.emod_nonneg c (b := 2305843009213693951) (by decide); omega
theorem t_take {N : Nat} {u : List PyData} {n : Int} (hu : Urn N u) (hN : N < 2 ^ 60) (hn : 0 < n) (hn' : n < 1073741824) : ∃ k u', M__law_take u [.int n] = .ok (.val (.int k)) u' ∧ (0 ≤ k ∧ k < n) ∧ Urn (N + 1) u' := by
  obtain ⟨x, y, z, rfl, hx, hy, hz, hz'⟩ := hu
  by_cases h : 0 < x
  · refine ⟨x % n, [.int (x / n), .int y, .int z], ?_, ⟨Int.emod_nonneg _ (by omega), Int.emod_lt_of_pos _ hn⟩, ⟨_, _, _, rfl, Int.ediv_nonneg hx (by omega), hy, hz, by omega⟩⟩
    show (b__law_take [some (.own (.list [.int x, .int y, .int z])), some (.val (.int n)), none, none, none, none]).finU = _
    apply finU_retE
    unfold b__law_take
    apply es_seqR
    apply es_ifT
    repeat infer_instance
    rfl
  · have hh : ∃ m : Int, M__law_take [.int x, .int y, .int z] [.int n] = .ok (.val (.int (m % n))) [.int x, .int y, .int (z + 1)] := by
      apply Exists.intro
      show (b__law_take [some (.own (.list [.int x, .int y, .int z])), some (.val (.int n)), none, none, none, none]).finU = _
      apply finU_retE
      unfold b__law_take
      apply es_seq
      · apply es_ifF
        repeat infer_instance
      repeat infer_instance
      rfl
    obtain ⟨m, hm⟩ := hh
    exact ⟨_, _, hm, ⟨Int.emod_nonneg _ (by omega), Int.emod_lt_of_pos _ hn⟩, ⟨_, _, _, rfl, hx, hy, by omega, by omega⟩⟩

theorem t_piece {N : Nat} {u : List PyData} {m : Nat} (hu : Urn N u) (hN : N + m + 1 < 2 ^ 50) (hm : m ≤ 20) : ∃ p u', M__law_piece u [.int m] = .ok (.val (eP p)) u' ∧ (Vp p ∧ p.length ≤ m) ∧ Urn (N + m + 1) u' := by
  obtain ⟨k, u1, h1, hk, hu1⟩ := t_take (n := (m : Int) + 1) hu (by omega) (by omega) (by omega)
  have key : ∀ (ds : List PyData) (acc : List Int) (u : List PyData) (N : Nat), Urn N u → N + ds.length < 2 ^ 55 → ds.length + acc.length ≤ 1000 → ∃ p u', compL (uN 2) cYes (fBin dIx (fTup (fCons (fK (.int 0)) (fCons (fK (.int 1)) (fCons (fK (.int 1)) (fCons (fK (.int 2)) (fun ps => .ok [] ps)))))) (fun ps => ((fCallU 0 1 M__law_take (fCons (fK (.int 4)) (fun ps => .ok [] ps))) ps).map PV.data)) [2] ds [some (.own (.list u)), some (.val (.int m)), none] (acc.map .int) = .ok ((acc ++ p).map .int) [some (.own (.list u')), some (.val (.int m)), none] ∧ ((∀ i ∈ p, 0 ≤ i ∧ i ≤ 9) ∧ p.length = ds.length) ∧ Urn (N + ds.length) u' := by
    intro ds
    induction ds with
    | nil => intro acc u N hu _ _; exact ⟨[], u, by simp [compL], ⟨by simp, rfl⟩, hu⟩
    | cons d ds ih =>
      intro acc u N hu hN hl
      simp only [List.length_cons] at hN hl
      obtain ⟨k, u1, h1, hk, hu1⟩ := t_take (n := 4) hu (by omega) (by omega) (by omega)
      obtain ⟨q, hq, hq'⟩ : ∃ q : Int, dIx (.tuple [.int 0, .int 1, .int 1, .int 2]) (.int k) = some (.int q) ∧ 0 ≤ q ∧ q ≤ 9 := by
        have : k = 0 ∨ k = 1 ∨ k = 2 ∨ k = 3 := by omega
        rcases this with e | e | e | e <;> subst e
        · exact ⟨0, rfl, by omega⟩
        · exact ⟨1, rfl, by omega⟩
        · exact ⟨1, rfl, by omega⟩
        · exact ⟨2, rfl, by omega⟩
      obtain ⟨p, u', e1, e2, e3⟩ := ih (acc ++ [q]) u1 (N + 1) hu1 (by omega) (by simp; omega)
      refine ⟨q :: p, u', ?_, ⟨?_, by simp [e2.2]⟩, e3.le (by simp; omega)⟩
      · have e : acc ++ q :: p = (acc ++ [q]) ++ p := by simp
        rw [e, ← e1]
        refine compL_cons et_N ev_cYes (ps3 := [some (.own (.list u1)), some (.val (.int m)), some (.val d)]) (e := .int q) ?_ (by simp; omega) ?_
        · repeat infer_instance
          · exact h1
          repeat infer_instance
          · exact hq
        · rw [List.map_append]; rfl
      · intro i hi
        rcases List.mem_cons.mp hi with e | e
        · subst e; exact hq'
        · exact e2.1 i e
  obtain ⟨p, u', e1, e2, e3⟩ := key (rangeD 0 k.toNat) [] u1 (N + 1) hu1 (by unfold rangeD; simp; omega) (by unfold rangeD; simp; omega)
  have hl : (rangeD 0 k.toNat).length = k.toNat := by unfold rangeD; simp
  rw [hl] at e2 e3
  refine ⟨p, u', ?_, ⟨⟨e2.1, by omega⟩, by omega⟩, e3.le (by omega)⟩
  show (b__law_piece [some (.own (.list u)), some (.val (.int m)), none]).finU = _
  apply finU_retE
  unfold b__law_piece
  apply es_ret
  apply ev_val
  apply ev_app
  · apply ev_cons
    apply ev_dataE
    · refine ev_lcS (ev_range1 (k := k) (ps1 := [some (.own (.list u1)), some (.val (.int m)), none]) ?_ (by omega)) rfl e1 rfl
      repeat infer_instance
      · exact h1
      repeat infer_instance
    repeat infer_instance
  repeat infer_instance
  rfl

theorem t_cells {ns : List Int} (hl : ns.length ≤ 63) : ∃ c : Int, M__law_cells [.list (ns.map .int), .int 1] = .ok (.own (.list [.int c])) := by
  have key : ∀ (ms : List Int) (j : Nat) (c : Int) (s t r : Option PV), j + ms.length ≤ 100 → ∃ (c' : Int) (s' t' r' : Option PV), forL (uTup 2 (uCons (uN 3) (uCons (uN 4) uNil))) (fSeq (fSet 5 (fun ps => ((fBin dMod (fApp dInt (fCons (fN 3) (fun ps => .ok [] ps))) (fLenS 2)) ps).map PV.val)) (fSetIx 2 (fN 5) (fBin dAdd (fIxS 2 (fN 5)) (fBin dMul (fN 4) (fBin dAdd (fN 3) (fK (.int 2)))))))
      ((ms.zipIdx j).map fun p => PyData.tuple [.int (p.2 : Nat), .int p.1]) [some (.val (.list (ns.map .int))), some (.val (.int 1)), some (.own (.list [.int c])), s, t, r] = .nx [some (.val (.list (ns.map .int))), some (.val (.int 1)), some (.own (.list [.int c'])), s', t', r'] := by
    intro ms
    induction ms with
    | nil => intro j c s t r _; exact ⟨c, s, t, r, rfl⟩
    | cons m ms ih =>
      intro j c s t r hj
      simp only [List.length_cons] at hj
      obtain ⟨c', s', t', r', e⟩ := ih (j + 1) (c + m * ((j : Int) + 2)) (some (.val (.int j))) (some (.val (.int m))) (some (.val (.int 0))) (by omega)
      refine ⟨c', s', t', r', ?_⟩
      rw [List.zipIdx_cons, List.map_cons, ← e]
      refine forL_cons (ps1 := [some (.val (.list (ns.map .int))), some (.val (.int 1)), some (.own (.list [.int c])), some (.val (.int j)), some (.val (.int m)), r]) rfl (ps2 := [some (.val (.list (ns.map .int))), some (.val (.int 1)), some (.own (.list [.int (c + m * ((j : Int) + 2))])), some (.val (.int j)), some (.val (.int m)), some (.val (.int 0))]) ?_ rfl
      refine es_seqS (ps1 := [some (.val (.list (ns.map .int))), some (.val (.int 1)), some (.own (.list [.int c])), some (.val (.int j)), some (.val (.int m)), r]) (ev_val (d := .int 0) ?_) rfl ?_
      · repeat infer_instance
        all_goals simp
      · dsimp only [List.set]
        refine es_to (o1 := .nx [some (.val (.list (ns.map .int))), some (.val (.int 1)), some (.own (.list [.int (c + m * ((j : Int) + 2))])), some (.val (.int j)), some (.val (.int m)), some (.val (.int 0))]) ?_ rfl
        refine es_setIxE (k := 0) (j := 0) (d := .int (c + m * ((j : Int) + 2))) (es := [.int c]) (es0 := [.int c]) (ps1 := [some (.val (.list (ns.map .int))), some (.val (.int 1)), some (.own (.list [.int c])), some (.val (.int j)), some (.val (.int m)), some (.val (.int 0))]) (ps2 := [some (.val (.list (ns.map .int))), some (.val (.int 1)), some (.own (.list [.int c])), some (.val (.int j)), some (.val (.int m)), some (.val (.int 0))]) ?_ rfl ?_ rfl rfl rfl
        · repeat infer_instance
        · repeat infer_instance
  have hcut : ∀ lo hi : Option Int, ∃ ms : List Int, cutD (ns.map PyData.int) lo hi = ms.map .int ∧ ms.length ≤ ns.length := fun lo hi => by
    refine ⟨(ns.drop (HT.sIx (ns.map PyData.int).length 0 lo)).take (HT.sIx (ns.map PyData.int).length (ns.map PyData.int).length hi - HT.sIx (ns.map PyData.int).length 0 lo), ?_, by simp; omega⟩
    unfold GL.cutD; rw [map_drop', map_take']
  have h1 : ∃ c0 : Int, Ev (fOrT (fAppO dList (fCons (fun ps => ((fSl (fN 0) fNoPart (fSomePart (fN 1))) ps).map PV.data) (fun ps => .ok [] ps))) (fLst (fCons (fK (.int 0)) (fun ps => .ok [] ps)))) [some (.val (.list (ns.map .int))), some (.val (.int 1)), none, none, none, none] (.own (.list [.int c0])) [some (.val (.list (ns.map .int))), some (.val (.int 1)), none, none, none, none] := by
    have hs : Ev (fAppO dList (fCons (fun ps => ((fSl (fN 0) fNoPart (fSomePart (fN 1))) ps).map PV.data) (fun ps => .ok [] ps))) [some (.val (.list (ns.map .int))), some (.val (.int 1)), none, none, none, none] (.own (.list (cutD (ns.map .int) none (some ((1 : Nat) : Int))))) [some (.val (.list (ns.map .int))), some (.val (.int 1)), none, none, none, none] :=
      ev_appO (ev_cons (ev_data (ev_slL (ev_N rfl) ev_partN (ev_partS (ev_N rfl)))) ev_nil) rfl
    rw [cutD_to] at hs
    cases ns with
    | nil => exact ⟨0, ev_orT2 hs rfl (ev_lstE (ev_cons ev_K ev_nil) (by simp))⟩
    | cons n ns => exact ⟨n, ev_orT1 hs rfl⟩
  obtain ⟨c0, h1⟩ := h1
  obtain ⟨ms, hm, hml⟩ := hcut (some 1) (some 63)
  obtain ⟨c', s', t', r', e⟩ := key ms 0 c0 none none none (by omega)
  refine ⟨c', ?_⟩
  show (b__law_cells [some (.val (.list (ns.map .int))), some (.val (.int 1)), none, none, none, none]).fin = _
  apply fin_retE
  unfold b__law_cells
  · refine es_seqS h1 rfl ?_
    dsimp only [List.set]
    refine es_seq (ps1 := [some (.val (.list (ns.map .int))), some (.val (.int 1)), some (.own (.list [.int c'])), s', t', r']) (es_for (ds := enumD (ms.map .int)) (ps1 := [some (.val (.list (ns.map .int))), some (.val (.int 1)), some (.own (.list [.int c0])), none, none, none]) (ev_enum (ev_cons (ev_dataE (ev_slL (ev_N rfl) (ev_partS (ev_N rfl)) (ev_partS ev_K)) ?_) ev_nil)) ?_) ?_
    · rw [← hm]; rfl
    · have : enumD (ms.map PyData.int) = (ms.zipIdx 0).map fun p => PyData.tuple [.int (p.2 : Nat), .int p.1] := by
        unfold enumD
        rw [List.mapIdx_eq_zipIdx_map, List.zipIdx_map, List.map_map]
        rfl
      rw [this]; exact e
    · exact es_ret (ev_MvS rfl rfl)
  · rfl
theorem t_same_i {k : Nat} {i : Int} : R__law_same (k + 1) [.int i, .int i] = .ok (.val (.bool true)) := by
  show (b__law_same (R__law_same k) [some (.val (.int i)), some (.val (.int i)), none, none]).fin = _
  apply fin_retE
  unfold b__law_same
  apply es_seq
  · apply es_ifF
    repeat infer_instance
  apply es_seq
  · apply es_ifF
    · refine ev_to (ev_orP (k := false) (l := false) ?_ ?_) rfl rfl
      repeat infer_instance
    repeat infer_instance
  apply es_ret
  apply ev_val
  · refine ev_andVP (k := true) (l := true) ?_ (ev_andVP (k := true) (l := true) ?_ ?_)
    repeat infer_instance
  · rfl
theorem t_same_b {k : Nat} {i : Bool} : R__law_same (k + 1) [.bool i, .bool i] = .ok (.val (.bool true)) := by
  show (b__law_same (R__law_same k) [some (.val (.bool i)), some (.val (.bool i)), none, none]).fin = _
  apply fin_retE
  unfold b__law_same
  apply es_seq
  · apply es_ifF
    repeat infer_instance
  apply es_seqR
  apply es_ifT
  · refine ev_to (ev_orP (k := false) (l := true) ?_ ?_) rfl rfl
    repeat infer_instance
  apply es_ret
  apply ev_val
  · refine ev_andVP (k := true) (l := true) ?_ (ev_andVP (k := true) (l := true) ?_ (ev_andVP (k := true) (l := true) ?_ ?_))
    repeat infer_instance
  · rfl
theorem t_same_s {k : Nat} {ds : List PyData} {d : PyData} (hl : ds.length ≤ 1000) (hd : d = .list ds ∨ d = .tuple ds) (h : ∀ e ∈ ds, R__law_same k [e, e] = .ok (.val (.bool true))) : R__law_same (k + 1) [d, d] = .ok (.val (.bool true)) := by
  show (b__law_same (R__law_same k) [some (.val d), some (.val d), none, none]).fin = _
  apply fin_retE
  unfold b__law_same
  apply es_seqR
  apply es_ifT
  · refine ev_test (ev_isi (d := d) (ev_N rfl) (k := true) ?_)
    rcases hd with e | e <;> subst e <;> rfl
  obtain ⟨kl, hkl, kt, hkt, hn⟩ : ∃ kl, isaD "list" d = some kl ∧ ∃ kt, isaD "tuple" d = some kt ∧ dLen [d] = some (.int ds.length) := by
    rcases hd with e | e <;> subst e
    · exact ⟨_, rfl, _, rfl, rfl⟩
    · exact ⟨_, rfl, _, rfl, rfl⟩
  have hz : (fZip (fCons (fN 0) (fCons (fN 1) (fun ps => .ok [] ps)))) [some (.val d), some (.val d), none, none] = .ok (zipD ds ds) [some (.val d), some (.val d), none, none] := by
    rcases hd with e | e <;> subst e
    · exact ev_zipL (ev_cons (ev_N rfl) (ev_cons (ev_N rfl) ev_nil))
    · exact ev_zipT (ev_cons (ev_N rfl) (ev_cons (ev_N rfl) ev_nil))
  apply es_seq
  · apply es_ifF
    · refine ev_to (ev_orP (k := false) (l := false) ?_ ?_) rfl rfl
      · refine ev_test (ev_bin (ev_isi (ev_N rfl) hkl) (ev_isi (ev_N rfl) hkl) (dNe_bE ?_)); simp
      · refine ev_test (ev_bin (ev_isi (ev_N rfl) hkt) (ev_isi (ev_N rfl) hkt) (dNe_bE ?_)); simp
    repeat infer_instance
  apply es_ret
  apply ev_val
  · refine ev_andVP (k := true) (l := true) (ev_bin (ev_lenS (look_val rfl) hn) (ev_lenS (look_val rfl) hn) (dEq_iE (by simp))) ?_
    refine ev_app (ev_cons (ev_dataE (ev_lcS hz rfl (compL_map0 (fun _ => .bool true) _ (by unfold zipD; simp; omega) fun e he => ?_) rfl) rfl) ev_nil) (dAll_true fun d hd => ?_)
    · have hv : ∃ z, e = .tuple [z, z] ∧ z ∈ ds := by
        have : ∀ ds : List PyData, e ∈ zipD ds ds → ∃ z, e = .tuple [z, z] ∧ z ∈ ds := by
          intro ds
          induction ds with
          | nil => intro h; simp [zipD] at h
          | cons a ds ih =>
            intro h
            simp only [zipD, List.zipWith_cons_cons, List.mem_cons] at h
            rcases h with e | e
            · exact ⟨a, e, List.mem_cons_self⟩
            · obtain ⟨z, h1, h2⟩ := ih e; exact ⟨z, h1, List.mem_cons_of_mem _ h2⟩
        exact this ds he
      obtain ⟨z, rfl, hz⟩ := hv
      exact ⟨_, _, _, et_TE rfl (ets_cons et_N (ets_cons et_N ets_nil)), ev_cYes, ev_dataE (ev_callE (ev_cons (ev_N rfl) (ev_cons (ev_N rfl) ev_nil)) rfl (h z hz)) rfl, rfl⟩
    · obtain ⟨_, _, rfl⟩ := List.mem_map.mp hd
      rfl
  · rfl
theorem t_same_n {k : Nat} : R__law_same (k + 1) [.none, .none] = .ok (.val (.bool true)) := by
  show (b__law_same (R__law_same k) [some (.val .none), some (.val .none), none, none]).fin = _
  apply fin_retE
  unfold b__law_same
  apply es_seq
  · apply es_ifF
    repeat infer_instance
  apply es_seqR
  apply es_ifT
  · apply ev_orF
    repeat infer_instance
  apply es_ret
  apply ev_val
  · refine ev_andVP (k := true) (l := true) ?_ (ev_andVP (k := true) (l := true) ?_ (ev_andVP (k := true) (l := true) ?_ ?_))
    repeat infer_instance
    · unfold dEq; rw [if_pos ⟨sh_none, sh_none⟩]; rfl
    repeat infer_instance
  · rfl
theorem t_same_st {k : Nat} {x : Str} (h : PyData.canLay0 (.str x) = true) : R__law_same (k + 1) [.str x, .str x] = .ok (.val (.bool true)) := by
  show (b__law_same (R__law_same k) [some (.val (.str x)), some (.val (.str x)), none, none]).fin = _
  apply fin_retE
  unfold b__law_same
  apply es_seq
  · apply es_ifF
    repeat infer_instance
  apply es_seqR
  apply es_ifT
  · refine ev_to (ev_orP (k := false) (l := true) ?_ ?_) rfl rfl
    repeat infer_instance
  apply es_ret
  apply ev_val
  · refine ev_andVP (k := true) (l := true) ?_ (ev_andVP (k := true) (l := true) ?_ (ev_andVP (k := true) (l := true) ?_ ?_))
    · refine ev_binS (look_val rfl) (ev_N rfl) (look_val rfl) ?_
      unfold dEq
      have hs : SeqAt.shaped (.str x) = true := by unfold SeqAt.shaped; rw [h]; simp [PyData.depth]
      rw [if_pos ⟨hs, hs⟩]
      simp [PyData.eqv]
    repeat infer_instance
  · rfl
theorem t_sameG : ∀ (k : Nat) (d : PyData), sz d = true → d.depth < k → R__law_same k [d, d] = .ok (.val (.bool true))
  | 0, _, _, h => by omega
  | k + 1, .int i, _, _ => t_same_i
  | k + 1, .none, _, _ => t_same_n
  | k + 1, .bool i, _, _ => t_same_b
  | k + 1, .str i, h, _ => t_same_st (by simpa [sz] using h)
  | k + 1, .dict _, h, _ => by simp [sz] at h
  | k + 1, .list ds, h, hd => by
    have h' : ds.length ≤ 1000 ∧ szAll ds = true := by simpa [sz] using h
    simp only [PyData.depth] at hd
    exact t_same_s h'.1 (.inl rfl) fun e m => t_sameG k e (szAll_mem h'.2 e m) (by have := depth_mem m; omega)
  | k + 1, .tuple ds, h, hd => by
    have h' : ds.length ≤ 1000 ∧ szAll ds = true := by simpa [sz] using h
    simp only [PyData.depth] at hd
    exact t_same_s h'.1 (.inr rfl) fun e m => t_sameG k e (szAll_mem h'.2 e m) (by have := depth_mem m; omega)
theorem t_same {d e : PyData} (h : sz d = true) (hd : d.depth < 40) (he : d = e) : M__law_same [d, e] = .ok (.val (.bool true)) := by subst he; exact t_sameG 40 d h hd
end TT

namespace TT
open PySem PySem.Spec L2 GL GT
open PyProof.Rows hiding St
local macro_rules | `(tactic| infer_instance) => `(tactic| first
  | (with_reducible apply es_seqS)
  | (with_reducible apply es_setS)
  | (with_reducible apply es_seqA)
  | (with_reducible apply es_seqE)
  | (with_reducible apply es_ret)
  | (with_reducible apply es_expr)
  | (with_reducible apply es_asg)
  | (with_reducible exact es_skip)
  | (with_reducible exact ev_K)
  | (with_reducible exact ev_nil)
  | ((with_reducible apply ev_nilE); exact rfl)
  | ((with_reducible apply ev_KE); exact rfl)
  | (with_reducible exact ev_cYes)
  | (with_reducible exact ev_partN)
  | (with_reducible apply ev_cons)
  | ((with_reducible apply ev_N); exact rfl)
  | ((with_reducible apply ev_MvS); exact rfl)
  | ((with_reducible apply ev_NoS); exact rfl)
  | (with_reducible apply ev_dataE)
  | (with_reducible apply ev_val)
  | (with_reducible apply ev_bin)
  | (with_reducible apply ev_un)
  | ((with_reducible apply ev_binS))
  | ((with_reducible apply ev_ixS))
  | ((with_reducible apply ev_lenS))
  | (with_reducible apply ev_test)
  | (with_reducible apply ev_notE)
  | (with_reducible apply ev_notVE)
  | (with_reducible apply ev_tupE)
  | (with_reducible apply ev_lstE)
  | (with_reducible apply ev_app)
  | (with_reducible apply ev_appO)
  | (with_reducible apply ev_isi)
  | (with_reducible apply ev_callE)
  | ((with_reducible apply ev_callUE); exact rfl)
  | (with_reducible apply ev_partS)
  | (with_reducible apply ev_seqI)
  | (with_reducible apply ev_lcS)
  | (with_reducible apply et_NS)
  | (with_reducible exact ets_nil)
  | ((with_reducible apply et_TE); exact rfl)
  | ((with_reducible apply et_LE); exact rfl)
  | focus ((with_reducible show List.length _ = _); exact rfl)
  | focus ((with_reducible show List.length (α := PyData) _ ≤ 1000); (simp only [List.length_cons, List.length_nil]; omega))
  | (with_reducible apply ets_cons)
  | (with_reducible apply dAdd_iE)
  | (with_reducible apply dSub_iE)
  | (with_reducible apply dLt_iE)
  | (with_reducible apply dGt_iE)
  | (with_reducible apply dLe_iE)
  | (with_reducible apply dGe_iE)
  | (with_reducible apply dEq_iE)
  | (with_reducible apply dNe_iE)
  | (with_reducible apply dEq_bE)
  | (with_reducible apply dNe_bE)
  | (with_reducible apply dLen_lE)
  | (with_reducible apply dLen_tE)
  | (with_reducible exact dAbs_i)
  | (with_reducible exact dInt_i)
  | (with_reducible exact dInt_b)
  | (with_reducible exact dTuple_l)
  | (with_reducible exact dTuple_t)
  | focus ((with_reducible show dTuple _ = _); exact rfl)
  | (with_reducible exact dList_l)
  | (with_reducible exact dList_t)
  | (with_reducible exact dMin2_i)
  | (with_reducible exact dMax2_i)
  | focus ((with_reducible show _ = some (some _)); exact rfl)
  | (with_reducible exact data_val)
  | (with_reducible exact data_own)
  | focus ((with_reducible show (!_) = _); exact rfl)
  | ((with_reducible apply look_val); exact rfl)
  | ((with_reducible apply look_own); exact rfl)
  | focus ((with_reducible show seqOf _ = _); exact rfl)
  | focus ((with_reducible show @Eq PV _ _); exact rfl)
  | focus ((with_reducible show @Eq PSt _ _); first | (focus (dsimp only [List.set, List.set_cons_succ, List.set_cons_zero, wipeP, restP, keepV, List.getElem?_cons_succ, List.getElem?_cons_zero]; try exact rfl)) | exact rfl)
  | focus ((with_reducible show isaD _ _ = _); exact rfl)
  | focus ((with_reducible show isa2 _ _ _ = _); exact rfl)
  | focus ((with_reducible show dIx _ _ = _); first | exact rfl | exact dIx_t0 rfl | exact dIx_l0 rfl)
  | focus ((with_reducible show (_ && _) = _); exact rfl)
  | focus ((with_reducible show (_ || _) = _); exact rfl)
  | (with_reducible apply dMul_iE)
  | (with_reducible apply dMod_iE)
  | (with_reducible apply dFdiv_iE)
  | (with_reducible exact (rfl : (_ : Bool) = _))
  | (with_reducible exact (rfl : (_ : Int) = _))
  | exact decide_eq_true (by omega)
  | exact decide_eq_false (by omega)
  | focus ((with_reducible show (_ : Int) = _); omega)
  | focus ((with_reducible show (_ : Int) < _); omega)
  )
local macro_rules | `(tactic| infer_instance) => `(tactic| first
  | (with_reducible apply ev_binO)
  | (with_reducible apply ev_rev)
  | (with_reducible apply ev_binSS)
  | ((with_reducible apply ev_pop); exact rfl)

  | focus ((with_reducible show ixN _ _ = _); exact rfl)
  | focus ((with_reducible show _ = some (some (PV.own _))); exact rfl)
  | focus ((with_reducible show _ ∨ _); first | (left; omega) | (right; omega))
  | focus ((with_reducible show _ ∧ _ < (1073741824 : Int)); omega)
  | focus ((with_reducible show dIs _ _ = _); exact rfl)
  | focus ((with_reducible show dIsNot _ _ = _); exact rfl)
  | (with_reducible exact decide_eq_true rfl)
  | focus ((with_reducible show decide (@Eq Bool _ _) = _); exact rfl))
theorem t_law_set {α : Type} {en : α → PyData} {k : Nat} (t : Ty en k) (hk : k ≤ 8) (hT : ∀ a, ∃ ds, en a = .tuple ds) {l : List α} {d : PyData} (hd : d = .list (l.map en) ∨ d = .tuple (l.map en)) (h : l.length < 64) :
    M__law_set [d] = .ok (.val (.tuple ((srt en l).map en))) := by
  show (b__law_set [some (.val d)]).fin = _
  apply fin_retE
  unfold b__law_set
  repeat infer_instance
  · exact t.dSortSet hk hT hd h
  repeat infer_instance
end TT

namespace TT
open PySem PySem.Spec L2 GL GT
open PyProof.Rows hiding St
def pairsOf {α β : Type} (l : List α) (m : List β) : List (α × β) := l.flatMap fun a => m.map fun b => (a, b)
theorem mem_pairsOf {α β : Type} {l : List α} {m : List β} {p : α × β} : p ∈ pairsOf l m ↔ p.1 ∈ l ∧ p.2 ∈ m := by
  unfold pairsOf
  rw [List.mem_flatMap]
  constructor
  · rintro ⟨a, ha, hp⟩
    obtain ⟨b, hb, rfl⟩ := List.mem_map.mp hp
    exact ⟨ha, hb⟩
  · rintro ⟨h1, h2⟩
    exact ⟨p.1, h1, List.mem_map.mpr ⟨p.2, h2, rfl⟩⟩
theorem t_law_pairs {α β : Type} {e1 : α → PyData} {e2 : β → PyData} (l : List α) (m : List β) (hz : l.length * m.length ≤ 1000) (hm : m.length ≤ 1000) : M__law_pairs [.list (l.map e1), .list (m.map e2)] = .ok (.own (.list ((pairsOf l m).map (eP2 e1 e2)))) := by
  show (b__law_pairs [some (.val (.list (l.map e1))), some (.val (.list (m.map e2))), none, none, none]).fin = _
  have key : ∀ (l' : List α) (acc : List (α × β)) (x : Option PV), acc.length + l'.length * m.length ≤ 1000 → ∃ y, forL (uN 3) (fSet 2 (fBinO dCatL (fN 2) (fun ps => ((fLc (fSeqI (fN 1)) (uN 4) cYes (fTup (fCons (fN 3) (fCons (fN 4) (fun ps => .ok [] ps)))) [4]) ps).map PV.data))) (l'.map e1)
      [some (.val (.list (l.map e1))), some (.val (.list (m.map e2))), some (.own (.list (acc.map (eP2 e1 e2)))), x, none] = .nx [some (.val (.list (l.map e1))), some (.val (.list (m.map e2))), some (.own (.list ((acc ++ pairsOf l' m).map (eP2 e1 e2)))), y, none] := by
    intro l'
    induction l' with
    | nil => intro acc x _; exact ⟨x, by simp [pairsOf, forL]⟩
    | cons a l' ih =>
      intro acc x hz
      have hz' : acc.length + (l'.length * m.length + m.length) ≤ 1000 := by simpa [Nat.add_mul] using hz
      obtain ⟨y, e⟩ := ih (acc ++ m.map fun b => (a, b)) (some (.val (e1 a))) (by simp; omega)
      refine ⟨y, ?_⟩
      have e' : acc ++ pairsOf (a :: l') m = (acc ++ m.map fun b => (a, b)) ++ pairsOf l' m := by simp [pairsOf]
      rw [e', ← e, List.map_cons]
      refine forL_cons (ps1 := [some (.val (.list (l.map e1))), some (.val (.list (m.map e2))), some (.own (.list (acc.map (eP2 e1 e2)))), some (.val (e1 a)), none]) rfl (ps2 := [some (.val (.list (l.map e1))), some (.val (.list (m.map e2))), some (.own (.list ((acc ++ m.map fun b => (a, b)).map (eP2 e1 e2)))), some (.val (e1 a)), none]) ?_ rfl
      have hc : compL (uN 4) cYes (fTup (fCons (fN 3) (fCons (fN 4) (fun ps => .ok [] ps)))) [4] (m.map e2) [some (.val (.list (l.map e1))), some (.val (.list (m.map e2))), some (.val (.list (acc.map (eP2 e1 e2)))), some (.val (e1 a)), none] [] =
          .ok ((m.map fun b => (a, b)).map (eP2 e1 e2)) [some (.val (.list (l.map e1))), some (.val (.list (m.map e2))), some (.val (.list (acc.map (eP2 e1 e2)))), some (.val (e1 a)), none] := by
        refine compL_each (fun b => (a, b)) m (by omega) fun b _ => ⟨_, et_N, _, ev_tupE (ev_cons (ev_N rfl) (ev_cons (ev_N rfl) ev_nil)) (by simp), rfl⟩
      refine es_setS (p := .own (.list ((acc ++ m.map fun b => (a, b)).map (eP2 e1 e2)))) (ev_to (ev_binO (ev_NoS rfl rfl) (ev_dataE (ev_lcS (ev_seqI (ev_N rfl) rfl) rfl hc rfl) rfl) (dCatL_l ?_)) ?_ rfl) rfl
      · simp; omega
      · rw [List.map_append]
  obtain ⟨y, e⟩ := key l [] none (by simpa using hz)
  refine fin_retE (ps1 := [some (.val (.list (l.map e1))), some (.val (.list (m.map e2))), none, y, none]) (p := .own (.list ((pairsOf l m).map (eP2 e1 e2)))) ?_ rfl
  unfold b__law_pairs
  refine es_seqS (ev_lstE ev_nil (by simp)) rfl ?_
  refine es_seq (es_for (ev_seqI (ev_N rfl) rfl) e) ?_
  refine es_ret (ev_MvS rfl ?_)
  rfl
end TT

namespace TT
open PySem PySem.Spec L2 GL GT
open PyProof.Rows hiding St
/-! values that pens are made of -/
theorem sl_from {f : PSt → Rs PyData} {l : PSt → Rs (Option Int)} {ps ps1 ps2 : PSt} {x : List Int} {n : Nat} (h : Ev f ps (.tuple (x.map .int)) ps1) (h2 : Ev l ps1 (some (n : Int)) ps2) (hn : n ≤ x.length) : Ev (fSl f l fNoPart) ps (.val (eP (x.drop n))) ps2 := by
  have := ev_slT h h2 (ev_partN (ps := ps2))
  rwa [cutD_from (by simpa using hn), map_drop'] at this
theorem dAdd_P {x y : List Int} (h : x.length + y.length ≤ 16777216) : dAdd (eP x) (eP y) = some (eP (x ++ y)) := by
  rw [dAdd_t (by simpa using h), ← List.map_append]
theorem dLen_P {x : List Int} {k : Int} (h : (x.length : Int) = k) : dLen [eP x] = some (.int k) := dLen_tE (by simpa using h)
theorem dp_P (p : List Int) : (eP p).depth = 1 := by simp [PyData.depth, depth_ints]
theorem Vp.app {x y : List Int} (h : Vp x) (g : Vp y) (hz : x.length + y.length ≤ 1000) : Vp (x ++ y) := ⟨fun i m => (List.mem_append.mp m).elim (h.1 i) (g.1 i), by simpa using hz⟩
abbrev eQ (l : List (List Int)) : PyData := .tuple (l.map eP)
abbrev tyQ : Ty eQ 2 := tyP.list
theorem isT_Q (l : List (List Int)) : ∃ ds, eQ l = .tuple ds := ⟨_, rfl⟩
abbrev eM (m : Ef.Mv) : PyData := .tuple [.int m.1, eP m.2]
abbrev tyM : Ty eM 2 := Ty.pair (Ty.int.le (by omega)) tyP
theorem isT_M (m : Ef.Mv) : ∃ ds, eM m = .tuple ds := ⟨_, rfl⟩
abbrev eMs (l : List Ef.Mv) : PyData := .tuple (l.map eM)
abbrev tyMs : Ty eMs 3 := tyM.list
abbrev eW (w : Ef.Rw) : PyData := .tuple [.int w.1, eMs w.2]
abbrev tyW : Ty eW 4 := Ty.pair (Ty.int.le (by omega)) tyMs
abbrev eWs (l : List Ef.Rw) : PyData := .tuple (l.map eW)
abbrev tyWs : Ty eWs 5 := tyW.list
abbrev ePn (p : Ef.Pn) : PyData := .tuple [.tuple [.int p.s0, eQ p.sh], .tuple (p.rows.map eWs), .tuple (p.ends.map eMs)]
theorem sz_list {α : Type} {en : α → PyData} {l : List α} (hz : l.length ≤ 1000) (h : ∀ a ∈ l, sz (en a) = true) : sz (.tuple (l.map en)) = true := by
  have : szAll (l.map en) = true := szAll_of fun d m => by obtain ⟨a, ha, rfl⟩ := List.mem_map.mp m; exact h a ha
  simp only [sz, this, Bool.and_true, decide_eq_true_eq]
  simpa using hz
theorem sz_two {a b : PyData} (h : sz a = true) (g : sz b = true) : sz (.tuple [a, b]) = true := by simp [sz, szAll, h, g]
theorem sz_three {a b c : PyData} (h : sz a = true) (g : sz b = true) (k : sz c = true) : sz (.tuple [a, b, c]) = true := by simp [sz, szAll, h, g, k]
/-- moves that come from fewer than n sheets, with small pieces -/
def OkM (n : Nat) (m : Ef.Mv) : Prop := (0 ≤ m.1 ∧ m.1 < n) ∧ Vp m.2 ∧ m.2.length ≤ 10
theorem sz_M {n : Nat} {m : Ef.Mv} (h : OkM n m) : sz (eM m) = true := sz_two rfl (sz_P h.2.1.2)
structure OkP (p : Ef.Pn) (wide : Nat) : Prop where
  w : 1 ≤ wide ∧ wide ≤ 3
  n : 1 ≤ p.rows.length ∧ p.rows.length ≤ 20
  s0 : 0 ≤ p.s0 ∧ p.s0 < p.rows.length
  sn : 1 ≤ p.sh.length ∧ p.sh.length ≤ 20
  sh : ∀ x ∈ p.sh, Vp x ∧ x.length ≤ 10
  row : ∀ r ∈ p.rows, r.length = wide ∧ ∀ x ∈ r, (0 ≤ x.1 ∧ x.1 < p.rows.length) ∧ x.2.length = p.sh.length ∧ ∀ m ∈ x.2, OkM p.sh.length m
  en : p.ends.length = p.rows.length
  ends : ∀ l ∈ p.ends, l.length ≤ 60 ∧ (∀ m ∈ l, OkM p.sh.length m) ∧ M_is_set [eMs l] = .ok (.val (.bool true))
theorem OkP.get {p : Ef.Pn} {wide : Nat} (h : OkP p wide) {s c : Int} (h0 : 0 ≤ s) (h1 : s < p.rows.length) (c0 : 1 ≤ c) (c1 : c ≤ wide) : ∃ r, p.rows[s.toNat]? = some r ∧ r ∈ p.rows ∧ r[(c - 1).toNat]? = some (Ef.lat p s c) ∧ Ef.lat p s c ∈ r := by
  have hs : s.toNat < p.rows.length := by omega
  have hm := List.getElem_mem hs
  have hl := (h.row _ hm).1
  have hc : (c - 1).toNat < (p.rows[s.toNat]).length := by omega
  have e : Ef.lat p s c = (p.rows[s.toNat])[(c - 1).toNat] := by
    unfold Ef.lat
    rw [List.getD_eq_getElem?_getD, List.getD_eq_getElem?_getD, List.getElem?_eq_getElem hs, Option.getD_some, List.getElem?_eq_getElem hc, Option.getD_some]
  refine ⟨p.rows[s.toNat], by simp [hs], hm, ?_, ?_⟩
  · rw [e]; exact List.getElem?_eq_getElem hc
  · rw [e]; exact List.getElem_mem hc
theorem OkP.lat {p : Ef.Pn} {wide : Nat} (h : OkP p wide) {s c : Int} (h0 : 0 ≤ s) (h1 : s < p.rows.length) (c0 : 1 ≤ c) (c1 : c ≤ wide) : (0 ≤ (Ef.lat p s c).1 ∧ (Ef.lat p s c).1 < p.rows.length) ∧ (Ef.lat p s c).2.length = p.sh.length ∧ ∀ m ∈ (Ef.lat p s c).2, OkM p.sh.length m := by
  obtain ⟨r, _, hr, _, hm⟩ := h.get h0 h1 c0 c1
  exact (h.row r hr).2 _ hm
theorem OkP.fit {p : Ef.Pn} {wide : Nat} (h : OkP p wide) : Ef.Fit p wide := ⟨fun s c h0 h1 c0 c1 => by
  obtain ⟨a, b, d⟩ := h.lat h0 h1 c0 c1
  exact ⟨a.1, a.2, b, fun m hm => (d m hm).1⟩⟩
theorem OkP.sz {p : Ef.Pn} {wide : Nat} (h : OkP p wide) : GT.sz (ePn p) = true := by
  have hn := h.n; have hsn := h.sn; have hw := h.w; have he := h.en
  refine sz_three (sz_two rfl (sz_list (by omega) fun x hx => sz_P (h.sh x hx).1.2)) (sz_list (by omega) fun r hr => ?_) (sz_list (by omega) fun l hl => ?_)
  · obtain ⟨h1, h2⟩ := h.row r hr
    refine sz_list (by omega) fun x hx => ?_
    obtain ⟨_, h4, h5⟩ := h2 x hx
    exact sz_two rfl (sz_list (by omega) fun m hm => sz_M (h5 m hm))
  · obtain ⟨h1, h2, _⟩ := h.ends l hl
    exact sz_list (by omega) fun m hm => sz_M (h2 m hm)
theorem ni_Pn (p : Ef.Pn) : GS.ni (ePn p) = true := by
  have h1 : GS.ni (eQ p.sh) = true := tyQ.ni _
  have h2 : GS.ni (.tuple (p.rows.map eWs)) = true := tyWs.list.ni p.rows
  have h3 : GS.ni (.tuple (p.ends.map eMs)) = true := tyMs.list.ni p.ends
  simp only [GS.ni, GS.niAll, Bool.and_true, Bool.and_eq_true] at h1 h2 h3 ⊢
  exact ⟨⟨trivial, h1⟩, h2, h3⟩
theorem dp_Pn (p : Ef.Pn) : (ePn p).depth ≤ 7 := by
  have h1 := tyQ.dp p.sh
  have h2 := tyWs.list.dp p.rows
  have h3 := tyMs.list.dp p.ends
  have e2 : (eT eWs p.rows).depth = (PyData.tuple (p.rows.map eWs)).depth := rfl
  have e3 : (eT eMs p.ends).depth = (PyData.tuple (p.ends.map eMs)).depth := rfl
  rw [e2] at h2; rw [e3] at h3
  have : ∀ a b c : PyData, a.depth ≤ 6 → b.depth ≤ 6 → c.depth ≤ 6 → (PyData.tuple [a, b, c]).depth ≤ 7 := fun a b c x y z => by
    simp only [PyData.depth, PyData.depthAll]; omega
  refine this _ _ _ ?_ (by omega) (by omega)
  simp only [PyData.depth, PyData.depthAll] at h1 ⊢
  omega
theorem dIx_tI {xs : List PyData} {i : Int} {d : PyData} (h0 : 0 ≤ i) (h : xs[i.toNat]? = some d) : dIx (.tuple xs) (.int i) = some d := by
  have := dIx_t (n := i.toNat) h
  rwa [show ((i.toNat : Nat) : Int) = i by omega] at this
theorem dIx_lI {xs : List PyData} {i : Int} {d : PyData} (h0 : 0 ≤ i) (h : xs[i.toNat]? = some d) : dIx (.list xs) (.int i) = some d := by
  have := dIx_l (n := i.toNat) h
  rwa [show ((i.toNat : Nat) : Int) = i by omega] at this
theorem map_get {α : Type} {en : α → PyData} {l : List α} {i : Nat} {a : α} (h : l[i]? = some a) : (l.map en)[i]? = some (en a) := by simp [h]
end TT

namespace TT
open PySem PySem.Spec L2 GL GT
open PyProof.Rows hiding St
/-! the pens' functions -/
theorem t_below {i n : Int} (h0 : 0 ≤ i) (h1 : i < n) : M_is_below [.int i, .int n] = .ok (.val (.bool true)) := by
  show (b_is_below [some (.val (.int i)), some (.val (.int n))]).fin = _
  apply fin_ret
  unfold b_is_below
  refine es_ret (ev_val (ev_andVP (k := true) (l := true) (ev_data (ev_callE (ev_cons (ev_N rfl) ev_nil) rfl t_is_number)) ?_))
  exact ev_chainT (ev_K) (ev_N rfl) (dLe_iE (decide_eq_true h0)) (ev_N rfl) (dLt_iE (decide_eq_true h1))
theorem t_within {i a b : Int} (h0 : a ≤ i) (h1 : i ≤ b) : M_is_within [.int i, .int a, .int b] = .ok (.val (.bool true)) := by
  show (b_is_within [some (.val (.int i)), some (.val (.int a)), some (.val (.int b))]).fin = _
  apply fin_ret
  unfold b_is_within
  refine es_ret (ev_val (ev_andVP (k := true) (l := true) (ev_data (ev_callE (ev_cons (ev_N rfl) ev_nil) rfl t_is_number)) ?_))
  exact ev_chainT (ev_N rfl) (ev_N rfl) (dLe_iE (decide_eq_true h0)) (ev_N rfl) (dLe_iE (decide_eq_true h1))
theorem t_sure_place {i n : Int} (h0 : 0 ≤ i) (h1 : i < n) : M_sure_place [.int i, .int n] = .ok (.val .none) := by
  show (b_sure_place [some (.val (.int i)), some (.val (.int n))]).fin = _
  apply fin_nx
  unfold b_sure_place
  refine es_seqE (ev_data (ev_callE (ev_cons (ev_data (ev_callE (ev_cons (ev_N rfl) ev_nil) rfl t_is_number)) ev_nil) rfl (t_sureE rfl))) ?_
  exact es_ifF (ev_notE (k := true) (ev_test (ev_chainT ev_K (ev_N rfl) (dLe_iE (decide_eq_true h0)) (ev_N rfl) (dLt_iE (decide_eq_true h1)))) rfl) es_skip
/-- all([g(own) for own in some]) -/
theorem ev_allC {α : Type} {en : α → PyData} {l : List α} {fi : PSt → Rs (List PyData)} {u : PyData → PSt → Option PSt} {fe : PSt → Rs PyData} {vs : List Nat} {ps ps1 : PSt} (hi : Ev fi ps (l.map en) ps1) (hw : wipeP ps1 vs = ps1) (hr : restP ps1 ps1 vs = ps1) (hz : l.length ≤ 1000)
    (hh : ∀ a ∈ l, ∃ p1, Et u (en a) ps1 p1 ∧ ∃ p3, Ev fe p1 (.bool true) p3 ∧ wipeP p3 vs = ps1) : Ev (fApp dAll (fCons (fun ps => ((fLc fi u cYes fe vs) ps).map PV.data) (fun ps => .ok [] ps))) ps (.bool true) ps1 := by
  refine ev_app (ds := [.list ((l.map en).map fun _ => .bool true)]) (ev_cons (ev_dataE (ev_lcS hi hw (compL_map0 (fun _ => .bool true) _ (by simp; omega) fun e he => ?_) hr) rfl) ev_nil) (dAll_true fun d hd => ?_)
  · obtain ⟨a, ha, rfl⟩ := List.mem_map.mp he
    obtain ⟨p1, h1, p3, h2, h3⟩ := hh a ha
    exact ⟨p1, p1, p3, h1, ev_cYes, h2, h3⟩
  · obtain ⟨_, _, rfl⟩ := List.mem_map.mp hd
    rfl
theorem t_is_text {wide : Nat} {t : List Int} (h : Ef.Tx wide t) (hz : t.length ≤ 1000) : M_is_text [.int wide, eP t] = .ok (.val (.bool true)) := by
  show (b_is_text [some (.val (.int wide)), some (.val (eP t)), none]).fin = _
  apply fin_ret
  unfold b_is_text
  refine es_ret (ev_val (ev_andVP (k := true) (l := true) (ev_isi (ev_N rfl) rfl) (ev_allC (en := PyData.int) (l := t) (ev_seqI (ev_N rfl) rfl) rfl rfl hz fun c hc => ?_)))
  exact ⟨_, et_N, _, ev_data (ev_callE (ev_cons (ev_N rfl) (ev_cons ev_K (ev_cons (ev_N rfl) ev_nil))) rfl (t_within (h c hc).1 (h c hc).2)), rfl⟩
theorem t_tupP {t : List Int} (hz : t.length ≤ 1000) : M_tuple_of [eP t] = .ok (.val (eP t)) := t_tuple_of (sz_P hz) (by rw [dp_P]; omega) (tup_ni (tyP.ni _))
theorem t_sure_text {wide : Nat} {t : List Int} (h : Ef.Tx wide t) (hz : t.length ≤ 1000) : M_sure_text [.int wide, eP t] = .ok (.val (eP t)) := by
  show (b_sure_text [some (.val (.int wide)), some (.val (eP t)), none]).fin = _
  apply fin_ret
  unfold b_sure_text
  refine es_seqS (ev_callE (ev_cons (ev_N rfl) ev_nil) rfl (t_tupP hz)) rfl ?_
  dsimp only [List.set]
  refine es_seqE (ev_data (ev_callE (ev_cons (ev_data (ev_callE (ev_cons (ev_N rfl) (ev_cons (ev_N rfl) ev_nil)) rfl (t_is_text h hz))) ev_nil) rfl (t_sureE rfl))) ?_
  exact es_ret (ev_MvS rfl rfl)
theorem t_is_move {n : Nat} {m : Ef.Mv} (h : OkM n m) : M_is_move [eM m, .int n] = .ok (.val (.bool true)) := by
  show (b_is_move [some (.val (eM m)), some (.val (.int n))]).fin = _
  apply fin_ret
  unfold b_is_move
  refine es_ret (ev_val (ev_andVP (k := true) (l := true) (ev_data (ev_callE (ev_cons (ev_N rfl) (ev_cons ev_K ev_nil)) rfl (t_is_tuple_of (n := 2) rfl))) (ev_andVP (k := true) (l := true) (ev_data (ev_callE (ev_cons (ev_ixS (look_val rfl) ev_K (look_val rfl) (dIx_t0 rfl)) (ev_cons (ev_N rfl) ev_nil)) rfl (t_below h.1.1 h.1.2))) (ev_data (ev_callE (ev_cons (ev_ixS (look_val rfl) ev_K (look_val rfl) (dIx_t (n := 1) rfl)) ev_nil) rfl (t_is_piece h.2.1))))))
theorem t_is_row {states n : Nat} {w : Ef.Rw} (h0 : 0 ≤ w.1) (h1 : w.1 < states) (hl : w.2.length = n) (hn : n ≤ 1000) (hm : ∀ m ∈ w.2, OkM n m) : M_is_row [eW w, .int states, .int n] = .ok (.val (.bool true)) := by
  show (b_is_row [some (.val (eW w)), some (.val (.int states)), some (.val (.int n)), none]).fin = _
  apply fin_ret
  unfold b_is_row
  refine es_seq (es_ifF (ev_to (ev_orP (k := false) (l := false) (ev_notE (k := true) (ev_test (ev_data (ev_callE (ev_cons (ev_N rfl) (ev_cons ev_K ev_nil)) rfl (t_is_tuple_of (n := 2) rfl)))) rfl) (ev_notE (k := true) (ev_test (ev_data (ev_callE (ev_cons (ev_ixS (look_val rfl) ev_K (look_val rfl) (dIx_t0 rfl)) (ev_cons (ev_N rfl) ev_nil)) rfl (t_below h0 h1)))) rfl)) rfl rfl) es_skip) ?_
  refine es_ret (ev_val (ev_andVP (k := true) (l := true) (ev_data (ev_callE (ev_cons (ev_ixS (look_val rfl) ev_K (look_val rfl) (dIx_t (n := 1) rfl)) (ev_cons (ev_N rfl) ev_nil)) rfl (t_is_tuple_of (by simp [hl])))) (ev_allC (en := eM) (l := w.2) (ev_seqI (ev_ixS (look_val rfl) ev_K (look_val rfl) (dIx_t (n := 1) rfl)) rfl) rfl rfl (by omega) fun m mm => ?_)))
  exact ⟨_, et_N, _, ev_data (ev_callE (ev_cons (ev_N rfl) (ev_cons (ev_N rfl) ev_nil)) rfl (t_is_move (hm m mm))), rfl⟩
theorem t_are_ends {n : Nat} {l : List Ef.Mv} (hz : l.length ≤ 1000) (hm : ∀ m ∈ l, OkM n m) (hs : M_is_set [eMs l] = .ok (.val (.bool true))) : M_are_ends [eMs l, .int n] = .ok (.val (.bool true)) := by
  show (b_are_ends [some (.val (eMs l)), some (.val (.int n)), none]).fin = _
  apply fin_ret
  unfold b_are_ends
  refine es_ret (ev_val (ev_andVP (k := true) (l := true) (ev_isi (ev_N rfl) rfl) (ev_andVP (k := true) (l := true) (ev_allC (en := eM) (l := l) (ev_seqI (ev_N rfl) rfl) rfl rfl hz fun m mm => ?_) (ev_data (ev_callE (ev_cons (ev_N rfl) ev_nil) rfl hs)))))
  exact ⟨_, et_N, _, ev_data (ev_callE (ev_cons (ev_N rfl) (ev_cons (ev_N rfl) ev_nil)) rfl (t_is_move (hm m mm))), rfl⟩
theorem dEq_no {α : Type} {en : α → PyData} {k : Nat} (t : Ty en k) (hk : k ≤ 60) {l : List α} (h : l ≠ []) : dEq (.tuple (l.map en)) (.tuple []) = some (.bool false) := by
  classical
  exact (t.list).dEq (a := l) (b := []) (c := false) (by omega) (decide_eq_false h)
theorem t_is_pens {p : Ef.Pn} {wide : Nat} (h : OkP p wide) : M_is_pens [ePn p] = .ok (.val (.bool true)) := by
  have hn := h.n; have hsn := h.sn; have hw := h.w; have he := h.en
  obtain ⟨r0, hr0⟩ : ∃ r0, p.rows[0]? = some r0 := ⟨p.rows[0]'(by omega), List.getElem?_eq_getElem _⟩
  have mr0 : r0 ∈ p.rows := List.mem_of_getElem? hr0
  have wr0 := (h.row r0 mr0).1
  have nr : p.rows ≠ [] := fun e => by rw [e] at mr0; cases mr0
  have ns : p.sh ≠ [] := fun e => by rw [e] at hsn; simp at hsn
  have ix0 : dIx (.tuple (p.rows.map eWs)) (.int 0) = some (eWs r0) := dIx_t0 (map_get hr0)
  show (b_is_pens [some (.val (ePn p)), none, none, none, none, none, none, none, none]).fin = _
  apply fin_ret
  unfold b_is_pens
  refine es_seq (es_ifF (ev_to (ev_orP (k := false) (l := false) (ev_notE (k := true) (ev_test (ev_data (ev_callE (ev_cons (ev_N rfl) (ev_cons ev_K ev_nil)) rfl (t_is_tuple_of (n := 3) rfl)))) rfl)
    (ev_orP (k := false) (l := false) (ev_notE (k := true) (ev_test (ev_data (ev_callE (ev_cons (ev_ixS (look_val rfl) ev_K (look_val rfl) (dIx_t0 rfl)) (ev_cons ev_K ev_nil)) rfl (t_is_tuple_of (n := 2) rfl)))) rfl)
    (ev_orP (k := false) (l := false) (ev_notE (k := true) (ev_test (ev_isi (ev_ixS (look_val rfl) ev_K (look_val rfl) (dIx_t (n := 1) rfl)) rfl)) rfl) (ev_test (ev_bin (ev_ixS (look_val rfl) ev_K (look_val rfl) (dIx_t (n := 1) rfl)) (ev_tupE ev_nil (by simp)) (dEq_no tyWs (by omega) nr)))))) rfl rfl) es_skip) ?_
  refine es_seq (es_asg (ev_N rfl) (et_TE rfl (ets_cons (et_TE rfl (ets_cons et_N (ets_cons et_N ets_nil))) (ets_cons et_N (ets_cons et_N ets_nil))))) ?_
  dsimp only [List.set]
  refine es_seq (es_ifF (ev_to (ev_orP (k := false) (l := false) (ev_notE (k := true) (ev_test (ev_isi (ev_N rfl) rfl)) rfl) (ev_orP (k := false) (l := false) (ev_test (ev_binS (look_val rfl) (ev_tupE ev_nil (by simp)) (look_val rfl) (dEq_no tyP (by omega) ns))) (ev_notE (k := true) (ev_test (ev_allC (en := eP) (l := p.sh) (ev_seqI (ev_N rfl) rfl) rfl rfl (by omega) fun x hx => ⟨_, et_N, _, ev_data (ev_callE (ev_cons (ev_N rfl) ev_nil) rfl (t_is_piece (h.sh x hx).1)), rfl⟩)) rfl))) rfl rfl) es_skip) ?_
  refine es_seq (es_par (ev_val (ev_lenS (look_val rfl) (dLen_tE (k := (p.rows.length : Int)) (by simp)))) (ev_val (ev_lenS (look_val rfl) (dLen_tE (k := (p.sh.length : Int)) (by simp))))) ?_
  dsimp only [List.set]
  refine es_seq (es_ifF (ev_to (ev_orP (k := false) (l := false) (ev_notE (k := true) (ev_test (ev_data (ev_callE (ev_cons (ev_N rfl) (ev_cons (ev_N rfl) ev_nil)) rfl (t_below h.s0.1 h.s0.2)))) rfl) (ev_orP (k := false) (l := false) (ev_notE (k := true) (ev_test (ev_isi (ev_ixS (look_val rfl) ev_K (look_val rfl) ix0) rfl)) rfl)
    (ev_notE (k := true) (ev_test (ev_data (ev_callE (ev_cons (ev_app (ev_cons (ev_ixS (look_val rfl) ev_K (look_val rfl) ix0) ev_nil) (dLen_tE (k := (wide : Int)) (by simp [wr0]))) (ev_cons ev_K (ev_cons ev_K ev_nil))) rfl (t_within (by omega) (by omega))))) rfl))) rfl rfl) es_skip) ?_
  refine es_seq (es_ifF (ev_notE (k := true) (ev_test (ev_allC (en := eWs) (l := p.rows) (ev_seqI (ev_N rfl) rfl) rfl rfl (by omega) fun r hr => ⟨_, et_N, _, ev_andVP (k := true) (l := true) (ev_data (ev_callE (ev_cons (ev_N rfl) (ev_cons (ev_app (ev_cons (ev_ixS (look_val rfl) ev_K (look_val rfl) ix0) ev_nil) (dLen_tE (k := (wide : Int)) (by simp [wr0]))) ev_nil)) rfl (t_is_tuple_of (by simp [(h.row r hr).1])))) (ev_allC (en := eW) (l := r) (ev_seqI (ev_N rfl) rfl) rfl rfl (by have := (h.row r hr).1; omega) fun w hwm => ?_), rfl⟩)) rfl) es_skip) ?_
  · obtain ⟨a, b, c⟩ := (h.row r hr).2 w hwm
    exact ⟨_, et_N, _, ev_data (ev_callE (ev_cons (ev_N rfl) (ev_cons (ev_N rfl) (ev_cons (ev_N rfl) ev_nil))) rfl (t_is_row a.1 a.2 b (by omega) c)), rfl⟩
  refine es_ret (ev_val (ev_andVP (k := true) (l := true) (ev_data (ev_callE (ev_cons (ev_N rfl) (ev_cons (ev_N rfl) ev_nil)) rfl (t_is_tuple_of (by simp [he])))) (ev_allC (en := eMs) (l := p.ends) (ev_seqI (ev_N rfl) rfl) rfl rfl (by omega) fun l hl => ?_)))
  obtain ⟨a, b, c⟩ := h.ends l hl
  exact ⟨_, et_N, _, ev_data (ev_callE (ev_cons (ev_N rfl) (ev_cons (ev_N rfl) ev_nil)) rfl (t_are_ends (by omega) b c)), rfl⟩
theorem t_sure_pens {p : Ef.Pn} {wide : Nat} (h : OkP p wide) : M_sure_pens [ePn p] = .ok (.val (ePn p)) := by
  show (b_sure_pens [some (.val (ePn p)), none]).fin = _
  apply fin_ret
  unfold b_sure_pens
  refine es_seqS (ev_callE (ev_cons (ev_N rfl) ev_nil) rfl (t_tuple_of h.sz (by have := dp_Pn p; omega) (tup_ni (ni_Pn p)))) rfl ?_
  dsimp only [List.set]
  refine es_seqE (ev_data (ev_callE (ev_cons (ev_data (ev_callE (ev_cons (ev_N rfl) ev_nil) rfl (t_is_pens h))) ev_nil) rfl (t_sureE rfl))) ?_
  exact es_ret (ev_MvS rfl rfl)
theorem t_pens_wide {p : Ef.Pn} {wide : Nat} (h : OkP p wide) : M_pens_wide [ePn p] = .ok (.val (.int wide)) := by
  have hn := h.n
  obtain ⟨r0, hr0⟩ : ∃ r0, p.rows[0]? = some r0 := ⟨p.rows[0]'(by omega), List.getElem?_eq_getElem _⟩
  have wr0 := (h.row r0 (List.mem_of_getElem? hr0)).1
  show (b_pens_wide [some (.val (ePn p))]).fin = _
  apply fin_ret
  unfold b_pens_wide
  exact es_ret (ev_val (ev_app (ev_cons (ev_bin (ev_ixS (look_val rfl) ev_K (look_val rfl) (dIx_t (n := 1) rfl)) ev_K (dIx_t0 (map_get hr0))) ev_nil) (dLen_tE (by simp [wr0]))))
theorem t_later {p : Ef.Pn} {wide : Nat} (h : OkP p wide) {s c : Int} (h0 : 0 ≤ s) (h1 : s < p.rows.length) (c0 : 1 ≤ c) (c1 : c ≤ wide) : M_later [ePn p, .int s, .int c] = .ok (.val (eW (Ef.lat p s c))) := by
  obtain ⟨r, h2, _, h3, _⟩ := h.get h0 h1 c0 c1
  show (b_later [some (.val (ePn p)), some (.val (.int s)), some (.val (.int c))]).fin = _
  apply fin_ret
  unfold b_later
  exact es_ret (ev_val (ev_bin (ev_bin (ev_ixS (look_val rfl) ev_K (look_val rfl) (dIx_t (n := 1) rfl)) (ev_N rfl) (dIx_tI h0 (map_get h2))) (ev_bin (ev_N rfl) ev_K (dSub_iE rfl)) (dIx_tI (by omega) (map_get h3))))
theorem t_sheets_by {sh : List (List Int)} {mv : List Ef.Mv} (hm : ∀ m ∈ mv, 0 ≤ m.1 ∧ m.1 < sh.length ∧ m.2.length ≤ 1000) (hs : ∀ x ∈ sh, x.length ≤ 100000) (hz : mv.length ≤ 1000) : M_sheets_by [eQ sh, eMs mv] = .ok (.val (eQ (Ef.shBy sh mv))) := by
  show (b_sheets_by [some (.val (eQ sh)), some (.val (eMs mv)), none, none]).fin = _
  apply fin_retE
  unfold b_sheets_by
  · refine es_ret (ev_val (ev_app (ev_cons (ev_dataE (ev_lcS (es := (mv.map fun m => sh.getD m.1.toNat [] ++ m.2).map eP) (ev_seqI (ev_N rfl) rfl) rfl (compL_each (en := eM) (en' := eP) (fun m => sh.getD m.1.toNat [] ++ m.2) mv (by omega) fun m mm => ?_) rfl) rfl) ev_nil) dTuple_l))
    obtain ⟨a, b, c⟩ := hm m mm
    have hi : m.1.toNat < sh.length := by omega
    have e : sh.getD m.1.toNat [] = sh[m.1.toNat] := by rw [List.getD_eq_getElem?_getD, List.getElem?_eq_getElem hi]; rfl
    have l := hs _ (List.getElem_mem hi)
    refine ⟨_, et_TE rfl (ets_cons et_N (ets_cons et_N ets_nil)), _, ev_bin (ev_ixS (look_val rfl) (ev_N rfl) (look_val rfl) (dIx_tI a (map_get (List.getElem?_eq_getElem hi)))) (ev_N rfl) ?_, rfl⟩
    rw [e]
    exact dAdd_P (by omega)
  · rfl
end TT

namespace TT
open PySem PySem.Spec L2 GL GT
open PyProof.Rows hiding St
/-! going over texts, effects -/
def lenB (n : Nat) (sh : List (List Int)) : Prop := ∀ x ∈ sh, x.length ≤ n
theorem shBy_lenB {n : Nat} {sh : List (List Int)} {mv : List Ef.Mv} {w : Nat} (h : lenB n sh) (hm : ∀ m ∈ mv, OkM w m) : lenB (n + 10) (Ef.shBy sh mv) := fun x hx => by
  obtain ⟨m, mm, rfl⟩ := List.mem_map.mp hx
  have h1 := (hm m mm).2.2
  rw [List.length_append]
  by_cases hi : m.1.toNat < sh.length
  · have e : sh.getD m.1.toNat [] = sh[m.1.toNat] := by rw [List.getD_eq_getElem?_getD, List.getElem?_eq_getElem hi]; rfl
    have := h _ (List.getElem_mem hi)
    rw [e]; omega
  · have e : sh.getD m.1.toNat [] = [] := by rw [List.getD_eq_getElem?_getD, List.getElem?_eq_none (by omega)]; rfl
    rw [e]; simp; omega
theorem go_len {p : Ef.Pn} {wide : Nat} (h : OkP p wide) : ∀ (t : List Int) (s : Int) (sh : List (List Int)) (n : Nat), Ef.Tx wide t → 0 ≤ s → s < p.rows.length → lenB n sh → lenB (n + 10 * t.length) (Ef.goF p (s, sh) t).2
  | [], s, sh, n, _, _, _, hl => by
    show lenB (n + 10 * 0) sh
    simpa using hl
  | c :: t, s, sh, n, ht, h0, h1, hl => by
    have hc := ht c List.mem_cons_self
    obtain ⟨a, b, d⟩ := h.lat h0 h1 hc.1 hc.2
    have ih := go_len h t (Ef.lat p s c).1 (Ef.shBy sh (Ef.lat p s c).2) (n + 10) (fun x m => ht x (List.mem_cons_of_mem _ m)) a.1 a.2 (shBy_lenB hl d)
    have e : Ef.goF p (s, sh) (c :: t) = Ef.goF p ((Ef.lat p s c).1, Ef.shBy sh (Ef.lat p s c).2) t := rfl
    rw [e, List.length_cons, show n + 10 * (t.length + 1) = n + 10 + 10 * t.length by omega]
    exact ih
theorem t_gone_over {p : Ef.Pn} {wide : Nat} (h : OkP p wide) {t : List Int} (ht : Ef.Tx wide t) (hz : t.length ≤ 1000) : M_gone_over [ePn p, eP t] = .ok (.val (.tuple [.int (Ef.goF p (p.s0, p.sh) t).1, eQ (Ef.goF p (p.s0, p.sh) t).2])) := by
  have hn := h.sn
  show (b_gone_over [some (.val (ePn p)), some (.val (eP t)), none, none, none, none]).fin = _
  have key : ∀ (u : List Int) (s : Int) (sh : List (List Int)) (n : Nat) (o2 o5 : Option PV), Ef.Tx wide u → 0 ≤ s → s < p.rows.length → sh.length = p.sh.length → lenB n sh → n + 10 * u.length ≤ 100000 → ∃ o2' o5', forL (uN 2) (fSeq (fAsg (uTup 2 (uCons (uN 3) (uCons (uN 5) uNil))) (fun ps => ((fCall 3 M_later (fCons (fN 0) (fCons (fN 3) (fCons (fN 2) (fun ps => .ok [] ps))))) ps).map PV.data)) (fSet 4 (fCall 2 M_sheets_by (fCons (fN 4) (fCons (fN 5) (fun ps => .ok [] ps)))))) (u.map .int)
      [some (.val (ePn p)), some (.val (eP t)), o2, some (.val (.int s)), some (.val (eQ sh)), o5] = .nx [some (.val (ePn p)), some (.val (eP t)), o2', some (.val (.int (Ef.goF p (s, sh) u).1)), some (.val (eQ (Ef.goF p (s, sh) u).2)), o5'] := by
    intro u
    induction u with
    | nil => intro s sh n o2 o5 _ _ _ _ _ _; exact ⟨o2, o5, rfl⟩
    | cons c u ih =>
      intro s sh n o2 o5 hu h0 h1 hl hb hz
      simp only [List.length_cons] at hz
      have hc := hu c List.mem_cons_self
      obtain ⟨a, b, d⟩ := h.lat h0 h1 hc.1 hc.2
      obtain ⟨o2', o5', e⟩ := ih (Ef.lat p s c).1 (Ef.shBy sh (Ef.lat p s c).2) (n + 10) (some (.val (.int c))) (some (.val (eMs (Ef.lat p s c).2))) (fun x m => hu x (List.mem_cons_of_mem _ m)) a.1 a.2 (by rw [Ef.shBy_len]; exact b) (shBy_lenB hb d) (by omega)
      refine ⟨o2', o5', ?_⟩
      rw [List.map_cons]
      refine forL_cons (ps1 := [some (.val (ePn p)), some (.val (eP t)), some (.val (.int c)), some (.val (.int s)), some (.val (eQ sh)), o5]) rfl ?_ e
      refine es_seqA (ev_data (ev_callE (ev_cons (ev_N rfl) (ev_cons (ev_N rfl) (ev_cons (ev_N rfl) ev_nil))) rfl (t_later h h0 h1 hc.1 hc.2))) (et_TE rfl (ets_cons et_N (ets_cons et_N ets_nil))) ?_
      dsimp only [List.set]
      exact es_setS (ev_callE (ev_cons (ev_N rfl) (ev_cons (ev_N rfl) ev_nil)) rfl (t_sheets_by (fun m mm => ⟨(d m mm).1.1, by rw [hl]; exact (d m mm).1.2, by have := (d m mm).2.2; omega⟩) (fun x hx => by have := hb x hx; omega) (by omega))) rfl
  obtain ⟨o2', o5', e⟩ := key t p.s0 p.sh 10 none none ht h.s0.1 h.s0.2 rfl (fun x hx => (h.sh x hx).2) (by omega)
  apply fin_retE
  unfold b_gone_over
  · refine es_seqA (ev_ixS (look_val rfl) ev_K (look_val rfl) (dIx_t0 rfl)) (et_TE rfl (ets_cons et_N (ets_cons et_N ets_nil))) ?_
    dsimp only [List.set]
    refine es_seq (es_for (ev_seqI (ev_N rfl) rfl) e) ?_
    exact es_ret (ev_val (ev_tupE (ev_cons (ev_N rfl) (ev_cons (ev_N rfl) ev_nil)) (by simp)))
  · rfl
/-- results: what the sheets hold, with the ends -/
def resOf (sh : List (List Int)) (l : List Ef.Mv) : List (List Int) := l.map fun m => sh.getD m.1.toNat [] ++ m.2
theorem t_results_in {p : Ef.Pn} {wide : Nat} (h : OkP p wide) {s : Int} {sh : List (List Int)} (h0 : 0 ≤ s) (h1 : s < p.rows.length) (hl : sh.length = p.sh.length) (hb : lenB 100000 sh) : M_results_in [ePn p, .int s, eQ sh] = .ok (.val (eQ (srt eP (resOf sh (p.ends.getD s.toNat []))))) := by
  have hi : s.toNat < p.ends.length := by rw [h.en]; omega
  have e : p.ends.getD s.toNat [] = p.ends[s.toNat] := by rw [List.getD_eq_getElem?_getD, List.getElem?_eq_getElem hi]; rfl
  obtain ⟨a, b, _⟩ := h.ends _ (List.getElem_mem hi)
  rw [e]
  show (b_results_in [some (.val (ePn p)), some (.val (.int s)), some (.val (eQ sh)), none, none]).fin = _
  apply fin_retE
  unfold b_results_in
  · refine es_ret (ev_val (ev_app (ev_cons (ev_dataE (ev_appO (ev_cons (ev_dataE (ev_lcS (es := (resOf sh p.ends[s.toNat]).map eP) (ev_seqI (ev_bin (ev_ixS (look_val rfl) ev_K (look_val rfl) (dIx_t (n := 2) rfl)) (ev_N rfl) (dIx_tI h0 (map_get (List.getElem?_eq_getElem hi)))) rfl) rfl (compL_each (en := eM) (en' := eP) (fun m => sh.getD m.1.toNat [] ++ m.2) p.ends[s.toNat] (by omega) fun m mm => ?_) rfl) rfl) ev_nil) (tyP.dSortSet (by omega) isT_P (.inl rfl) (by simp [resOf]; omega))) rfl) ev_nil) dTuple_l))
    obtain ⟨c, d, f⟩ := b m mm
    have hj : m.1.toNat < sh.length := by omega
    have e2 : sh.getD m.1.toNat [] = sh[m.1.toNat] := by rw [List.getD_eq_getElem?_getD, List.getElem?_eq_getElem hj]; rfl
    have l := hb _ (List.getElem_mem hj)
    refine ⟨_, et_TE rfl (ets_cons et_N (ets_cons et_N ets_nil)), _, ev_bin (ev_ixS (look_val rfl) (ev_N rfl) (look_val rfl) (dIx_tI c.1 (map_get (List.getElem?_eq_getElem hj)))) (ev_N rfl) ?_, rfl⟩
    rw [e2]
    exact dAdd_P (by omega)
  · rfl
theorem t_sure_both {p : Ef.Pn} {wide : Nat} (h : OkP p wide) {t : List Int} (ht : Ef.Tx wide t) (hz : t.length ≤ 1000) : M_sure_both [ePn p, eP t] = .ok (.val (.tuple [ePn p, eP t])) := by
  show (b_sure_both [some (.val (ePn p)), some (.val (eP t)), none]).fin = _
  apply fin_ret
  unfold b_sure_both
  refine es_seqS (ev_callE (ev_cons (ev_N rfl) ev_nil) rfl (t_sure_pens h)) rfl ?_
  dsimp only [List.set]
  exact es_ret (ev_val (ev_tupE (ev_cons (ev_N rfl) (ev_cons (ev_data (ev_callE (ev_cons (ev_data (ev_callE (ev_cons (ev_N rfl) ev_nil) rfl (t_pens_wide h))) (ev_cons (ev_N rfl) ev_nil)) rfl (t_sure_text ht hz))) ev_nil)) (by simp)))
noncomputable def resF (p : Ef.Pn) (t : List Int) : List (List Int) := srt eP (resOf (Ef.goF p (p.s0, p.sh) t).2 (p.ends.getD (Ef.goF p (p.s0, p.sh) t).1.toNat []))
theorem go_ok {p : Ef.Pn} {wide : Nat} (h : OkP p wide) {t : List Int} (ht : Ef.Tx wide t) (hz : t.length ≤ 1000) : (0 ≤ (Ef.goF p (p.s0, p.sh) t).1 ∧ (Ef.goF p (p.s0, p.sh) t).1 < p.rows.length) ∧ (Ef.goF p (p.s0, p.sh) t).2.length = p.sh.length ∧ lenB 100000 (Ef.goF p (p.s0, p.sh) t).2 := by
  have e := Ef.go_eff h.fit t p.s0 p.sh ht h.s0.1 h.s0.2 rfl
  have ok := Ef.eff_ok h.fit ht h.s0.1 h.s0.2
  have l := go_len h t p.s0 p.sh 10 ht h.s0.1 h.s0.2 (fun x hx => (h.sh x hx).2)
  refine ⟨by rw [e]; exact ok.1, by rw [e, Ef.shBy_len]; exact ok.2.1, fun x hx => by have := l x hx; omega⟩
theorem t_pens_results {p : Ef.Pn} {wide : Nat} (h : OkP p wide) {t : List Int} (ht : Ef.Tx wide t) (hz : t.length ≤ 1000) : M_pens_results [ePn p, eP t] = .ok (.val (eQ (resF p t))) := by
  obtain ⟨a, b, c⟩ := go_ok h ht hz
  show (b_pens_results [some (.val (ePn p)), some (.val (eP t)), none, none, none, none]).fin = _
  apply fin_ret
  unfold b_pens_results
  refine es_seqA (ev_data (ev_callE (ev_cons (ev_N rfl) (ev_cons (ev_N rfl) ev_nil)) rfl (t_sure_both h ht hz))) (et_TE rfl (ets_cons et_N (ets_cons et_N ets_nil))) ?_
  dsimp only [List.set]
  refine es_seqA (ev_data (ev_callE (ev_cons (ev_N rfl) (ev_cons (ev_N rfl) ev_nil)) rfl (t_gone_over h ht hz))) (et_TE rfl (ets_cons et_N (ets_cons et_N ets_nil))) ?_
  dsimp only [List.set]
  exact es_ret (ev_callE (ev_cons (ev_N rfl) (ev_cons (ev_N rfl) (ev_cons (ev_N rfl) ev_nil))) rfl (t_results_in h a.1 a.2 b c))
theorem still_map (n : Nat) : ((Ef.still n).map eM) = (rangeD 0 n).map fun d => match d with | .int k => .tuple [.int k, .tuple []] | _ => .none := by
  unfold Ef.still rangeD
  rw [List.map_map, List.map_map]
  refine List.map_congr_left fun k _ => ?_
  simp
theorem t_still {n : Nat} (hn : n ≤ 1000) : M_still_moves [.int n] = .ok (.val (eMs (Ef.still n))) := by
  show (b_still_moves [some (.val (.int n)), none]).fin = _
  apply fin_retE
  unfold b_still_moves
  · refine es_ret (ev_val (ev_app (ev_cons (ev_dataE (ev_lcS (es := (Ef.still n).map eM) (ev_range1 (k := (n : Int)) (ev_cons (ev_N rfl) ev_nil) (by omega)) rfl (?_ : compL _ _ _ _ _ _ _ = .ok _ [some (.val (.int n)), none]) rfl) rfl) ev_nil) dTuple_l))
    rw [still_map]
    have e : ((n : Int)).toNat = n := by simp
    rw [e]
    refine compL_map0 _ _ (by unfold rangeD; simp; omega) fun d hd => ?_
    unfold rangeD at hd
    obtain ⟨k, _, rfl⟩ := List.mem_map.mp hd
    exact ⟨_, _, _, et_N, ev_cYes, ev_tupE (ev_cons (ev_N rfl) (ev_cons (ev_tupE ev_nil (by simp)) ev_nil)) (by simp), rfl⟩
  · rfl
def mvB (n : Nat) (mv : List Ef.Mv) : Prop := ∀ m ∈ mv, m.2.length ≤ n
theorem getM {mv : List Ef.Mv} {i : Nat} (h : i < mv.length) : mv.getD i (0, []) = mv[i] := by rw [List.getD_eq_getElem?_getD, List.getElem?_eq_getElem h]; rfl
theorem beh_mvB {n w : Nat} {a b : List Ef.Mv} (h : mvB n a) (hb : ∀ m ∈ b, OkM w m) (hw : w = a.length) : mvB (n + 10) (Ef.beh a b) := fun x hx => by
  obtain ⟨m, mm, rfl⟩ := List.mem_map.mp hx
  obtain ⟨c, _, d⟩ := hb m mm
  have hi : m.1.toNat < a.length := by omega
  have := h _ (List.getElem_mem hi)
  show ((a.getD m.1.toNat (0, [])).2 ++ m.2).length ≤ _
  rw [getM hi, List.length_append]
  omega
theorem t_moves_behind {a b : List Ef.Mv} {w : Nat} (hw : w = a.length) (ha : mvB 100000 a) (hb : ∀ m ∈ b, OkM w m) (hz : b.length ≤ 1000) : M_moves_behind [eMs a, eMs b] = .ok (.val (eMs (Ef.beh a b))) := by
  show (b_moves_behind [some (.val (eMs a)), some (.val (eMs b)), none, none]).fin = _
  apply fin_retE
  unfold b_moves_behind
  · refine es_ret (ev_val (ev_app (ev_cons (ev_dataE (ev_lcS (es := (Ef.beh a b).map eM) (ev_seqI (ev_N rfl) rfl) rfl (compL_each (en := eM) (en' := eM) (fun m => ((a.getD m.1.toNat (0, [])).1, (a.getD m.1.toNat (0, [])).2 ++ m.2)) b (by omega) fun m mm => ?_) rfl) rfl) ev_nil) dTuple_l))
    obtain ⟨c, _, d⟩ := hb m mm
    have hi : m.1.toNat < a.length := by omega
    have l := ha _ (List.getElem_mem hi)
    have ix : dIx (eMs a) (.int m.1) = some (eM a[m.1.toNat]) := dIx_tI c.1 (map_get (List.getElem?_eq_getElem hi))
    refine ⟨_, et_TE rfl (ets_cons et_N (ets_cons et_N ets_nil)), [some (.val (eMs a)), some (.val (eMs b)), some (.val (.int m.1)), some (.val (eP m.2))], ?_, rfl⟩
    show Ev _ _ (eM ((a.getD m.1.toNat (0, [])).1, (a.getD m.1.toNat (0, [])).2 ++ m.2)) _
    rw [getM hi]
    exact ev_tupE (ev_cons (ev_bin (ev_ixS (look_val rfl) (ev_N rfl) (look_val rfl) ix) ev_K (dIx_t0 rfl)) (ev_cons (ev_bin (ev_bin (ev_ixS (look_val rfl) (ev_N rfl) (look_val rfl) ix) ev_K (dIx_t (n := 1) rfl)) (ev_N rfl) (dAdd_P (by omega))) ev_nil)) (by simp)
  · rfl
abbrev eEf (x : Int × List Ef.Mv) : PyData := .tuple [.int x.1, eMs x.2]
abbrev tyEf : Ty eEf 4 := Ty.pair (Ty.int.le (by omega)) tyMs
theorem t_effect_of {p : Ef.Pn} {wide : Nat} (h : OkP p wide) {t : List Int} {s : Int} (ht : Ef.Tx wide t) (hz : t.length ≤ 1000) (h0 : 0 ≤ s) (h1 : s < p.rows.length) : M_effect_of [ePn p, .int s, eP t] = .ok (.val (eEf (Ef.effF p s t))) := by
  have hsn := h.sn
  show (b_effect_of [some (.val (ePn p)), some (.val (.int s)), some (.val (eP t)), none, none, none]).fin = _
  have key : ∀ (u : List Int) (s : Int) (mv : List Ef.Mv) (n : Nat) (o4 o5 : Option PV), Ef.Tx wide u → 0 ≤ s → s < p.rows.length → mv.length = p.sh.length → mvB n mv → n + 10 * u.length ≤ 100000 → ∃ o4' o5', forL (uN 4) (fSeq (fAsg (uTup 2 (uCons (uN 1) (uCons (uN 5) uNil))) (fun ps => ((fCall 3 M_later (fCons (fN 0) (fCons (fN 1) (fCons (fN 4) (fun ps => .ok [] ps))))) ps).map PV.data)) (fSet 3 (fCall 2 M_moves_behind (fCons (fN 3) (fCons (fN 5) (fun ps => .ok [] ps)))))) (u.map .int)
      [some (.val (ePn p)), some (.val (.int s)), some (.val (eP t)), some (.val (eMs mv)), o4, o5] = .nx [some (.val (ePn p)), some (.val (.int (u.foldl (Ef.stepE p) (s, mv)).1)), some (.val (eP t)), some (.val (eMs (u.foldl (Ef.stepE p) (s, mv)).2)), o4', o5'] := by
    intro u
    induction u with
    | nil => intro s mv n o4 o5 _ _ _ _ _ _; exact ⟨o4, o5, rfl⟩
    | cons c u ih =>
      intro s mv n o4 o5 hu h0 h1 hl hb hz
      simp only [List.length_cons] at hz
      have hc := hu c List.mem_cons_self
      obtain ⟨a, b, d⟩ := h.lat h0 h1 hc.1 hc.2
      obtain ⟨o4', o5', e⟩ := ih (Ef.lat p s c).1 (Ef.beh mv (Ef.lat p s c).2) (n + 10) (some (.val (.int c))) (some (.val (eMs (Ef.lat p s c).2))) (fun x m => hu x (List.mem_cons_of_mem _ m)) a.1 a.2 (by rw [Ef.beh_len]; exact b) (beh_mvB hb d hl.symm) (by omega)
      refine ⟨o4', o5', ?_⟩
      rw [List.map_cons]
      refine forL_cons (ps1 := [some (.val (ePn p)), some (.val (.int s)), some (.val (eP t)), some (.val (eMs mv)), some (.val (.int c)), o5]) rfl ?_ e
      refine es_seqA (ev_data (ev_callE (ev_cons (ev_N rfl) (ev_cons (ev_N rfl) (ev_cons (ev_N rfl) ev_nil))) rfl (t_later h h0 h1 hc.1 hc.2))) (et_TE rfl (ets_cons et_N (ets_cons et_N ets_nil))) ?_
      dsimp only [List.set]
      exact es_setS (ev_callE (ev_cons (ev_N rfl) (ev_cons (ev_N rfl) ev_nil)) rfl (t_moves_behind hl.symm (fun m mm => by have := hb m mm; omega) d (by omega))) rfl
  obtain ⟨o4', o5', e⟩ := key t s (Ef.still p.sh.length) 0 none none ht h0 h1 (Ef.still_len _) (fun m mm => by obtain ⟨k, _, rfl⟩ := List.mem_map.mp mm; simp) (by omega)
  apply fin_retE
  unfold b_effect_of
  · refine es_seqS (ev_callE (ev_cons (ev_app (ev_cons (ev_bin (ev_ixS (look_val rfl) ev_K (look_val rfl) (dIx_t0 rfl)) ev_K (dIx_t (n := 1) rfl)) ev_nil) (dLen_tE (k := (p.sh.length : Int)) (by simp))) ev_nil) rfl (t_still (by omega))) rfl ?_
    dsimp only [List.set]
    refine es_seq (es_for (ev_seqI (ev_N rfl) rfl) e) ?_
    exact es_ret (ev_val (ev_tupE (ev_cons (ev_N rfl) (ev_cons (ev_N rfl) ev_nil)) (by simp)))
  · rfl
theorem t_effect {p : Ef.Pn} {wide : Nat} (h : OkP p wide) {t : List Int} {s : Int} (ht : Ef.Tx wide t) (hz : t.length ≤ 1000) (h0 : 0 ≤ s) (h1 : s < p.rows.length) : M_effect [ePn p, .int s, eP t] = .ok (.val (eEf (Ef.effF p s t))) := by
  show (b_effect [some (.val (ePn p)), some (.val (.int s)), some (.val (eP t)), none, none]).fin = _
  apply fin_ret
  unfold b_effect
  refine es_seqA (ev_data (ev_callE (ev_cons (ev_N rfl) (ev_cons (ev_N rfl) ev_nil)) rfl (t_sure_both h ht hz))) (et_TE rfl (ets_cons et_N (ets_cons et_N ets_nil))) ?_
  dsimp only [List.set]
  refine es_seqE (ev_data (ev_callE (ev_cons (ev_N rfl) (ev_cons (ev_app (ev_cons (ev_ixS (look_val rfl) ev_K (look_val rfl) (dIx_t (n := 1) rfl)) ev_nil) (dLen_tE (k := (p.rows.length : Int)) (by simp))) ev_nil)) rfl (t_sure_place h0 h1))) ?_
  exact es_ret (ev_callE (ev_cons (ev_N rfl) (ev_cons (ev_N rfl) (ev_cons (ev_N rfl) ev_nil))) rfl (t_effect_of h ht hz h0 h1))
/-- the least state of unlike effect -/
def unl (p : Ef.Pn) (a b : List Int) : Option Nat := (List.range p.rows.length).find? fun s => !decide (Ef.effF p (s : Nat) a = Ef.effF p (s : Nat) b)
def oI : Option Nat → PyData
  | some s => .int s
  | none => .none
theorem forL_find {u : PyData → PSt → Option PSt} {g : PSt → Os} {kp : Nat → Bool} {st : Option PV → PSt} (hu : ∀ (k : Nat) o, u (.int k) (st o) = some (st (some (.val (.int k))))) : ∀ (l : List Nat) (o : Option PV), (∀ k ∈ l, (kp k = false → Es g (st (some (.val (.int k)))) (.nx (st (some (.val (.int k)))))) ∧ (kp k = true → ∃ ps, Es g (st (some (.val (.int k)))) (.ret (.val (.int k)) ps))) →
    (∃ k ps, l.find? kp = some k ∧ forL u g (l.map fun k => .int ((k : Nat) : Int)) (st o) = .ret (.val (.int k)) ps) ∨ ∃ o', l.find? kp = none ∧ forL u g (l.map fun k => .int ((k : Nat) : Int)) (st o) = .nx (st o')
  | [], o, _ => .inr ⟨o, rfl, rfl⟩
  | k :: l, o, h => by
    have hk := h k List.mem_cons_self
    rw [List.find?_cons, List.map_cons]
    cases q : kp k with
    | true =>
      obtain ⟨ps, e⟩ := hk.2 q
      exact .inl ⟨k, ps, rfl, forL_ret (hu k o) e⟩
    | false =>
      have e := hk.1 q
      rcases forL_find hu l (some (.val (.int k))) fun j m => h j (List.mem_cons_of_mem _ m) with ⟨j, ps, q2, e2⟩ | ⟨o', q2, e2⟩
      · exact .inl ⟨j, ps, q2, forL_cons (hu k o) e e2⟩
      · exact .inr ⟨o', q2, forL_cons (hu k o) e e2⟩
theorem t_first_unlike {p : Ef.Pn} {wide : Nat} (h : OkP p wide) {a b : List Int} (ha : Ef.Tx wide a) (hb : Ef.Tx wide b) (za : a.length ≤ 1000) (zb : b.length ≤ 1000) : M_first_unlike [ePn p, eP a, eP b] = .ok (.val (oI (unl p a b))) := by
  have hn := h.n
  show (b_first_unlike [some (.val (ePn p)), some (.val (eP a)), some (.val (eP b)), none, none, none, none]).fin = _
  have er : rangeD 0 ((p.rows.length : Nat) : Int).toNat = (List.range p.rows.length).map fun k => .int ((k : Nat) : Int) := by
    unfold rangeD
    simp
  have run := forL_find (u := uN 4) (g := fIfS (fTest (fBin dNe (fun ps => ((fCall 3 M_effect_of (fCons (fN 5) (fCons (fN 4) (fCons (fN 6) (fun ps => .ok [] ps))))) ps).map PV.data) (fun ps => ((fCall 3 M_effect_of (fCons (fN 5) (fCons (fN 4) (fCons (fN 3) (fun ps => .ok [] ps))))) ps).map PV.data))) (fRet (fMv 4)) fSkip)
    (kp := fun s => !decide (Ef.effF p (s : Nat) a = Ef.effF p (s : Nat) b)) (st := fun o => [some (.val (ePn p)), some (.val (eP a)), some (.val (eP b)), some (.val (eP b)), o, some (.val (ePn p)), some (.val (eP a))]) (fun k o => rfl) (List.range p.rows.length) none fun k hk => by
    have hk := List.mem_range.mp hk
    have t1 : ∀ c : Bool, (!decide (Ef.effF p (k : Nat) a = Ef.effF p (k : Nat) b)) = c → Ev (fTest (fBin dNe (fun ps => ((fCall 3 M_effect_of (fCons (fN 5) (fCons (fN 4) (fCons (fN 6) (fun ps => .ok [] ps))))) ps).map PV.data) (fun ps => ((fCall 3 M_effect_of (fCons (fN 5) (fCons (fN 4) (fCons (fN 3) (fun ps => .ok [] ps))))) ps).map PV.data))) [some (.val (ePn p)), some (.val (eP a)), some (.val (eP b)), some (.val (eP b)), some (.val (.int k)), some (.val (ePn p)), some (.val (eP a))] c [some (.val (ePn p)), some (.val (eP a)), some (.val (eP b)), some (.val (eP b)), some (.val (.int k)), some (.val (ePn p)), some (.val (eP a))] := fun c hc =>
      ev_test (ev_bin (ev_data (ev_callE (ev_cons (ev_N rfl) (ev_cons (ev_N rfl) (ev_cons (ev_N rfl) ev_nil))) rfl (t_effect_of h ha za (by omega) (by omega)))) (ev_data (ev_callE (ev_cons (ev_N rfl) (ev_cons (ev_N rfl) (ev_cons (ev_N rfl) ev_nil))) rfl (t_effect_of h hb zb (by omega) (by omega)))) (tyEf.dNe (by omega) hc))
    exact ⟨fun q => es_ifF (t1 false q) es_skip, fun q => ⟨_, es_ifT (t1 true q) (es_ret (ev_MvS rfl rfl))⟩⟩
  have pre : ∀ o, (∃ ps, Es (fSeq (fFor (fRange1 (fCons (fApp dLen (fCons (fIxS 5 (fK (.int 1))) (fun ps => .ok [] ps))) (fun ps => .ok [] ps))) (uN 4) (fIfS (fTest (fBin dNe (fun ps => ((fCall 3 M_effect_of (fCons (fN 5) (fCons (fN 4) (fCons (fN 6) (fun ps => .ok [] ps))))) ps).map PV.data) (fun ps => ((fCall 3 M_effect_of (fCons (fN 5) (fCons (fN 4) (fCons (fN 3) (fun ps => .ok [] ps))))) ps).map PV.data))) (fRet (fMv 4)) fSkip)) (fRet (fun ps => ((fK .none) ps).map PV.val))) [some (.val (ePn p)), some (.val (eP a)), some (.val (eP b)), some (.val (eP b)), none, some (.val (ePn p)), some (.val (eP a))] (.ret (.val o) ps)) → ∃ ps, Es b_first_unlike [some (.val (ePn p)), some (.val (eP a)), some (.val (eP b)), none, none, none, none] (.ret (.val o) ps) := fun o ⟨ps, e⟩ => by
    refine ⟨ps, ?_⟩
    unfold b_first_unlike
    refine es_seqA (ev_data (ev_callE (ev_cons (ev_N rfl) (ev_cons (ev_N rfl) ev_nil)) rfl (t_sure_both h ha za))) (et_TE rfl (ets_cons et_N (ets_cons et_N ets_nil))) ?_
    dsimp only [List.set]
    refine es_seqS (ev_callE (ev_cons (ev_data (ev_callE (ev_cons (ev_N rfl) ev_nil) rfl (t_pens_wide h))) (ev_cons (ev_N rfl) ev_nil)) rfl (t_sure_text hb zb)) rfl ?_
    dsimp only [List.set]
    exact e
  have rg : Ev (fRange1 (fCons (fApp dLen (fCons (fIxS 5 (fK (.int 1))) (fun ps => .ok [] ps))) (fun ps => .ok [] ps))) [some (.val (ePn p)), some (.val (eP a)), some (.val (eP b)), some (.val (eP b)), none, some (.val (ePn p)), some (.val (eP a))] ((List.range p.rows.length).map fun k => .int ((k : Nat) : Int)) [some (.val (ePn p)), some (.val (eP a)), some (.val (eP b)), some (.val (eP b)), none, some (.val (ePn p)), some (.val (eP a))] := by
    rw [← er]
    exact ev_range1 (ev_cons (ev_app (ev_cons (ev_ixS (look_val rfl) ev_K (look_val rfl) (dIx_t (n := 1) rfl)) ev_nil) (dLen_tE (by simp))) ev_nil) (by omega)
  unfold unl
  rcases run with ⟨k, ps, q, e⟩ | ⟨o', q, e⟩
  · rw [q]
    obtain ⟨ps', e'⟩ := pre (.int k) ⟨ps, by
      refine es_seqR (es_for rg e)⟩
    exact fin_ret e'
  · rw [q]
    obtain ⟨ps', e'⟩ := pre .none ⟨_, es_seq (es_for rg e) (es_ret (ev_val ev_K))⟩
    exact fin_ret e'
theorem isNone_oI (o : Option Nat) : isNone (oI o) = o.isNone := by cases o <;> rfl
theorem t_same_effect {p : Ef.Pn} {wide : Nat} (h : OkP p wide) {a b : List Int} (ha : Ef.Tx wide a) (hb : Ef.Tx wide b) (za : a.length ≤ 1000) (zb : b.length ≤ 1000) : M_same_effect [ePn p, eP a, eP b] = .ok (.val (.bool (unl p a b).isNone)) := by
  show (b_same_effect [some (.val (ePn p)), some (.val (eP a)), some (.val (eP b))]).fin = _
  apply fin_ret
  unfold b_same_effect
  exact es_ret (ev_val (ev_bin (ev_data (ev_callE (ev_cons (ev_N rfl) (ev_cons (ev_N rfl) (ev_cons (ev_N rfl) ev_nil))) rfl (t_first_unlike h ha hb za zb))) ev_K (by show some (PyData.bool (isNone (oI (unl p a b)))) = _; rw [isNone_oI])))
theorem t_unlike {p : Ef.Pn} {wide : Nat} (h : OkP p wide) {a b : List Int} (ha : Ef.Tx wide a) (hb : Ef.Tx wide b) (za : a.length ≤ 1000) (zb : b.length ≤ 1000) : M__law_unlike [ePn p, eP a, eP b] = .ok (.val (oI (unl p a b))) := by
  have hf := t_first_unlike h ha hb za zb
  show (b__law_unlike [some (.val (ePn p)), some (.val (eP a)), some (.val (eP b))]).fin = _
  cases q : unl p a b with
  | none =>
    rw [q] at hf
    have hx : M_unlike_effect [ePn p, eP a, eP b] = .exc ⟨"CanNot", none⟩ := by
      show (b_unlike_effect [some (.val (ePn p)), some (.val (eP a)), some (.val (eP b)), none]).fin = _
      apply fin_exc
      unfold b_unlike_effect
      refine es_seqS (ev_callE (ev_cons (ev_N rfl) (ev_cons (ev_N rfl) (ev_cons (ev_N rfl) ev_nil))) rfl hf) rfl ?_
      dsimp only [List.set]
      exact es_seqX (es_ifT (ev_test (ev_binS (look_val rfl) ev_K (look_val rfl) rfl)) es_exc)
    refine fin_ret (ps1 := [some (.val (ePn p)), some (.val (eP a)), some (.val (eP b))]) ?_
    unfold b__law_unlike
    exact es_tryX (ret_callX (ev_cons (ev_N rfl) (ev_cons (ev_N rfl) (ev_cons (ev_N rfl) ev_nil))) hx rfl) rfl (es_ret (ev_val ev_K))
  | some k =>
    rw [q] at hf
    have hx : M_unlike_effect [ePn p, eP a, eP b] = .ok (.val (.int k)) := by
      show (b_unlike_effect [some (.val (ePn p)), some (.val (eP a)), some (.val (eP b)), none]).fin = _
      apply fin_ret
      unfold b_unlike_effect
      refine es_seqS (ev_callE (ev_cons (ev_N rfl) (ev_cons (ev_N rfl) (ev_cons (ev_N rfl) ev_nil))) rfl hf) rfl ?_
      dsimp only [List.set]
      exact es_seq (es_ifF (ev_test (ev_binS (look_val rfl) ev_K (look_val rfl) rfl)) es_skip) (es_ret (ev_MvS rfl rfl))
    apply fin_ret
    unfold b__law_unlike
    exact es_try (es_ret (ev_callE (ev_cons (ev_N rfl) (ev_cons (ev_N rfl) (ev_cons (ev_N rfl) ev_nil))) rfl hx))
end TT

namespace TT
open PySem PySem.Spec L2 GL GT
open PyProof.Rows hiding St
/-! drawing -/
theorem comp_draw {α : Type} {en : α → PyData} {P : α → Prop} {u : PyData → PSt → Option PSt} {fe : PSt → Rs PyData} {vs : List Nat} {st : List PyData → PSt} (B c : Nat)
    (hstep : ∀ (d : PyData) (urn : List PyData) (N : Nat), Urn N urn → N + c ≤ B → ∃ a urn' p1 p3, P a ∧ Urn (N + c) urn' ∧ Et u d (st urn) p1 ∧ Ev fe p1 (en a) p3 ∧ wipeP p3 vs = st urn') :
    ∀ (ds : List PyData) (acc : List α) (urn : List PyData) (N : Nat), Urn N urn → N + ds.length * c ≤ B → ds.length + acc.length ≤ 1000 → ∃ (l : List α) (urn' : List PyData), compL u cYes fe vs ds (st urn) (acc.map en) = .ok ((acc ++ l).map en) (st urn') ∧ l.length = ds.length ∧ (∀ a ∈ l, P a) ∧ Urn (N + ds.length * c) urn'
  | [], acc, urn, N, hu, _, _ => ⟨[], urn, by simp [compL], rfl, by simp, by simpa using hu⟩
  | d :: ds, acc, urn, N, hu, hN, hz => by
    simp only [List.length_cons, Nat.add_mul, Nat.one_mul] at hN hz
    obtain ⟨a, u1, p1, p3, hP, hu1, e1, e2, e3⟩ := hstep d urn N hu (by omega)
    obtain ⟨l, u', f1, f2, f3, f4⟩ := comp_draw B c hstep ds (acc ++ [a]) u1 (N + c) hu1 (by omega) (by simp; omega)
    refine ⟨a :: l, u', ?_, by simp [f2], fun b m => (List.mem_cons.mp m).elim (fun e => e ▸ hP) (f3 b), f4.le (by simp only [List.length_cons, Nat.add_mul, Nat.one_mul]; omega)⟩
    rw [show acc ++ a :: l = (acc ++ [a]) ++ l by simp, ← f1]
    refine compL_cons e1 ev_cYes e2 (by simp; omega) ?_
    rw [e3, List.map_append]
    rfl
theorem t_law_of {α : Type} {en : α → PyData} {l : List α} {N : Nat} {u : List PyData} {d : PyData} (hu : Urn N u) (hN : N < 2 ^ 50) (hl : l ≠ []) (hz : l.length < 1073741824) (hd : d = .list (l.map en) ∨ d = .tuple (l.map en)) : ∃ a ∈ l, ∃ u', M__law_of u [d] = .ok (.val (en a)) u' ∧ Urn (N + 1) u' := by
  have hp : 0 < l.length := by cases l with
    | nil => exact absurd rfl hl
    | cons _ _ => simp
  obtain ⟨k, u', h1, hk, hu'⟩ := t_take (n := (l.length : Int)) hu (by omega) (by omega) (by omega)
  have hi : k.toNat < l.length := by omega
  refine ⟨l[k.toNat], List.getElem_mem hi, u', ?_, hu'⟩
  show (b__law_of [some (.own (.list u)), some (.val d)]).finU = _
  have hlen : dLen [d] = some (.int l.length) := by
    rcases hd with e | e <;> subst e
    · exact dLen_lE (by simp)
    · exact dLen_tE (by simp)
  have hix : dIx d (.int k) = some (en l[k.toNat]) := by
    rcases hd with e | e <;> subst e
    · exact dIx_lI hk.1 (map_get (List.getElem?_eq_getElem hi))
    · exact dIx_tI hk.1 (map_get (List.getElem?_eq_getElem hi))
  apply finU_retE
  unfold b__law_of
  · exact es_ret (ev_val (ev_ixS (look_val rfl) (ev_data (ev_callUE rfl (ev_cons (ev_lenS (look_val rfl) hlen) ev_nil) rfl rfl h1 rfl)) (look_val rfl) hix))
  · rfl
  · rfl
theorem rangeD_len (k : Nat) : (rangeD 0 k).length = k := by unfold rangeD; simp
theorem t_law_text {N wide m : Nat} {u : List PyData} (hu : Urn N u) (hN : N + m + 1 < 2 ^ 50) (hw : 1 ≤ wide ∧ wide ≤ 20) (hm : m ≤ 20) : ∃ t u', M__law_text u [.int wide, .int m] = .ok (.val (eP t)) u' ∧ (Ef.Tx wide t ∧ t.length ≤ m) ∧ Urn (N + m + 1) u' := by
  obtain ⟨k, u1, h1, hk, hu1⟩ := t_take (n := (m : Int) + 1) hu (by omega) (by omega) (by omega)
  obtain ⟨t, u', e1, e2, e3, e4⟩ := comp_draw (en := PyData.int) (P := fun c => 1 ≤ c ∧ c ≤ (wide : Int)) (u := uN 3) (fe := fBin dAdd (fK (.int 1)) (fun ps => ((fCallU 0 1 M__law_take (fCons (fN 1) (fun ps => .ok [] ps))) ps).map PV.data)) (vs := [3]) (st := fun u => [some (.own (.list u)), some (.val (.int wide)), some (.val (.int m)), none]) (2 ^ 50) 1
    (fun d urn N hu hN => by
      obtain ⟨k, u2, h2, hk, hu2⟩ := t_take (n := (wide : Int)) hu (by omega) (by omega) (by omega)
      exact ⟨1 + k, u2, _, _, ⟨by omega, by omega⟩, hu2, et_N, ev_bin ev_K (ev_data (ev_callUE rfl (ev_cons (ev_N rfl) ev_nil) rfl rfl h2 rfl)) (dAdd_iE rfl), rfl⟩) (rangeD 0 k.toNat) [] u1 (N + 1) hu1 (by rw [rangeD_len]; omega) (by rw [rangeD_len]; simp; omega)
  rw [rangeD_len] at e2 e4
  refine ⟨t, u', ?_, ⟨e3, by omega⟩, e4.le (by omega)⟩
  show (b__law_text [some (.own (.list u)), some (.val (.int wide)), some (.val (.int m)), none]).finU = _
  apply finU_retE
  unfold b__law_text
  · exact es_ret (ev_val (ev_app (ev_cons (ev_dataE (ev_lcS (ev_range1 (ev_cons (ev_data (ev_callUE rfl (ev_cons (ev_bin (ev_N rfl) ev_K (dAdd_iE rfl)) ev_nil) rfl rfl h1 rfl)) ev_nil) (by omega)) rfl e1 rfl) rfl) ev_nil) dTuple_l))
  · rfl
  · rfl
/-- one letter more behind each -/
theorem pairsOf_len {α β : Type} (l : List α) (m : List β) : (pairsOf l m).length = l.length * m.length := by
  unfold pairsOf
  induction l with
  | nil => simp
  | cons a l ih =>
    rw [List.flatMap_cons, List.length_append, ih, List.length_map, List.length_cons, Nat.add_mul]
    omega
def nxtT (wide : Nat) (l : List (List Int)) : List (List Int) := (pairsOf l ((List.range wide).map fun k => 1 + ((k : Nat) : Int))).map fun p => p.1 ++ [p.2]
def txs (wide : Nat) : Nat → List (List Int) × List (List Int)
  | 0 => ([[]], [[]])
  | n + 1 => ((txs wide n).1 ++ nxtT wide (txs wide n).2, nxtT wide (txs wide n).2)
theorem ev_lrg2 {f1 f2 : PSt → Rs PyData} {ps ps1 ps2 : PSt} {a b : Int} {es : List PyData} (h1 : Ev f1 ps (.int a) ps1) (h2 : Ev f2 ps1 (.int b) ps2) (ok : okRg a b = true) (he : rangeD a (b - a).toNat = es) : Ev (fLRg2 f1 f2) ps (.own (.list es)) ps2 := by
  subst he
  unfold Ev at *
  unfold fLRg2
  rw [h1]
  dsimp only [Rs.bind]
  rw [h2]
  dsimp only
  rw [if_pos ok]
theorem t_law_texts {wide : Nat} (hw : 1 ≤ wide ∧ wide ≤ 2) : M__law_texts [.int wide, .int 3] = .ok (.own (.list ((txs wide 3).1.map eP))) := by
  have hb : ∀ n < 3, (txs wide n).2.length * wide ≤ 1000 ∧ (∀ t ∈ (txs wide n).2, t.length ≤ 1000) ∧ (txs wide n).1.length + (txs wide (n + 1)).2.length ≤ 1000 := by
    have : wide = 1 ∨ wide = 2 := by omega
    rcases this with e | e <;> subst e <;> decide
  have hrg : rangeD 1 (((wide : Int) + 1) - 1).toNat = ((List.range wide).map fun k => 1 + ((k : Nat) : Int)).map .int := by
    unfold rangeD
    rw [show (((wide : Int) + 1) - 1).toNat = wide by omega, List.map_map]
    rfl
  have hok : okRg 1 ((wide : Int) + 1) = true := by
    have : wide = 1 ∨ wide = 2 := by omega
    rcases this with e | e <;> subst e <;> decide
  have step : ∀ n < 3, ∀ (o : Option PV) (q : PV), q = .own (.list ((txs wide n).2.map eP)) ∨ q = .val (.list ((txs wide n).2.map eP)) → Es (fSeq (fSet 4 (fLc (fSeqI (fun ps => ((fCall 2 M__law_pairs (fCons (fN 4) (fCons (fun ps => ((fLRg2 (fK (.int 1)) (fBin dAdd (fN 0) (fK (.int 1)))) ps).map PV.data) (fun ps => .ok [] ps)))) ps).map PV.data)) (uTup 2 (uCons (uN 5) (uCons (uN 6) uNil))) cYes (fBin dAdd (fN 5) (fTup (fCons (fN 6) (fun ps => .ok [] ps)))) [5, 6]))
      (fSet 3 (fBinO dCatL (fN 3) (fN 4)))) [some (.val (.int wide)), some (.val (.int 3)), o, some (.own (.list ((txs wide n).1.map eP))), some q, none, none] (.nx [some (.val (.int wide)), some (.val (.int 3)), o, some (.own (.list ((txs wide (n + 1)).1.map eP))), some (.val (.list ((txs wide (n + 1)).2.map eP))), none, none]) := by
    intro n hn o q hq
    obtain ⟨h1, h2, h3⟩ := hb n hn
    have e4 : Ev (fN 4) [some (.val (.int wide)), some (.val (.int 3)), o, some (.own (.list ((txs wide n).1.map eP))), some q, none, none] (.list ((txs wide n).2.map eP)) [some (.val (.int wide)), some (.val (.int 3)), o, some (.own (.list ((txs wide n).1.map eP))), some (.val (.list ((txs wide n).2.map eP))), none, none] := by
      rcases hq with e | e <;> subst e
      · exact ev_NoS rfl rfl
      · exact ev_N rfl
    have hp := t_law_pairs (e1 := eP) (e2 := PyData.int) (txs wide n).2 ((List.range wide).map fun k => 1 + ((k : Nat) : Int)) (by simpa using h1) (by simp; omega)
    have hpl : (pairsOf (txs wide n).2 ((List.range wide).map fun k => 1 + ((k : Nat) : Int))).length ≤ 1000 := by rw [pairsOf_len]; simpa using h1
    refine es_seqS (ev_lcS (es := (nxtT wide (txs wide n).2).map eP) (ev_seqI (ev_data (ev_callE (ev_cons e4 (ev_cons (ev_data (ev_lrg2 ev_K (ev_bin (ev_N rfl) ev_K (dAdd_iE rfl)) hok hrg)) ev_nil)) rfl hp)) rfl) rfl (compL_each (en := eP2 eP PyData.int) (en' := eP) (fun p => p.1 ++ [p.2]) _ (by have := hpl; omega) fun p mp => ?_) rfl) rfl ?_
    · refine ⟨_, et_TE rfl (ets_cons et_N (ets_cons et_N ets_nil)), _, ev_bin (ev_N rfl) (ev_tupE (ev_cons (ev_N rfl) ev_nil) (by simp)) (dAdd_P (y := [p.2]) ?_), rfl⟩
      have := h2 p.1 (by unfold pairsOf at mp; obtain ⟨a, ha, hb⟩ := List.mem_flatMap.mp mp; obtain ⟨b, _, rfl⟩ := List.mem_map.mp hb; exact ha)
      simp; omega
    · refine es_setS (ev_binO (ev_NoS rfl rfl) (ev_NoS rfl rfl) (dCatL_l ?_)) ?_
      · have : (txs wide (n + 1)).2 = nxtT wide (txs wide n).2 := rfl
        rw [this] at h3
        simp only [List.length_map]
        omega
      · rw [← List.map_append]
        rfl
  have hr3 : rangeD 0 (3 : Int).toNat = [.int 0, .int 1, .int 2] := rfl
  show (b__law_texts [some (.val (.int wide)), some (.val (.int 3)), none, none, none, none, none]).fin = _
  apply fin_retE
  unfold b__law_texts
  · refine es_seq (es_par (ev_lstE (ev_cons (ev_tupE ev_nil (by simp)) ev_nil) (by simp)) (ev_lstE (ev_cons (ev_tupE ev_nil (by simp)) ev_nil) (by simp))) ?_
    dsimp only [List.set]
    refine es_seq (ps1 := [some (.val (.int wide)), some (.val (.int 3)), some (.val (.int 2)), some (.own (.list ((txs wide 3).1.map eP))), some (.val (.list ((txs wide 3).2.map eP))), none, none]) (es_for (ev_range1 (k := 3) (ev_cons (ev_N rfl) ev_nil) (by omega)) ?_) (es_ret (ev_MvS rfl rfl))
    rw [hr3]
    exact forL_cons (et_NS rfl) (step 0 (by omega) _ _ (.inl rfl)) (forL_cons (et_NS rfl) (step 1 (by omega) _ _ (.inr rfl)) (forL_cons (et_NS rfl) (step 2 (by omega) _ _ (.inr rfl)) forL_nil))
  · rfl
theorem ev_after {p : Ef.Pn} {wide : Nat} (h : OkP p wide) {t : List Int} (ht : Ef.Tx wide t) (hz : t.length ≤ 1000) : M__law_after [ePn p, eP t] = .ok (.val (.tuple [.int (Ef.goF p (p.s0, p.sh) t).1, eQ (Ef.goF p (p.s0, p.sh) t).2])) := by
  have hn := h.sn
  show (b__law_after [some (.val (ePn p)), some (.val (eP t)), none, none, none, none, none, none]).fin = _
  have key : ∀ (u : List Int) (s : Int) (sh : List (List Int)) (n : Nat) (o2 o5 : Option PV), Ef.Tx wide u → 0 ≤ s → s < p.rows.length → sh.length = p.sh.length → lenB n sh → n + 10 * u.length ≤ 100000 → ∃ o2' o5', forL (uN 2) (fSeq (fAsg (uTup 2 (uCons (uN 3) (uCons (uN 5) uNil))) (fBin dIx (fBin dIx (fIxS 0 (fK (.int 1))) (fN 3)) (fBin dSub (fN 2) (fK (.int 1)))))
  (fSet 4 (fun ps => ((fApp dTuple (fCons (fun ps => ((fLc (fSeqI (fN 5)) (uTup 2 (uCons (uN 6) (uCons (uN 7) uNil))) cYes (fBin dAdd (fIxS 4 (fN 6)) (fN 7)) [6, 7]) ps).map PV.data) (fun ps => .ok [] ps))) ps).map PV.val))) (u.map .int)
      [some (.val (ePn p)), some (.val (eP t)), o2, some (.val (.int s)), some (.val (eQ sh)), o5, none, none] = .nx [some (.val (ePn p)), some (.val (eP t)), o2', some (.val (.int (Ef.goF p (s, sh) u).1)), some (.val (eQ (Ef.goF p (s, sh) u).2)), o5', none, none] := by
    intro u
    induction u with
    | nil => intro s sh n o2 o5 _ _ _ _ _ _; exact ⟨o2, o5, rfl⟩
    | cons c u ih =>
      intro s sh n o2 o5 hu h0 h1 hl hb hz
      simp only [List.length_cons] at hz
      have hc := hu c List.mem_cons_self
      obtain ⟨a, b, d⟩ := h.lat h0 h1 hc.1 hc.2
      obtain ⟨r, g2, _, g3, _⟩ := h.get h0 h1 hc.1 hc.2
      obtain ⟨o2', o5', e⟩ := ih (Ef.lat p s c).1 (Ef.shBy sh (Ef.lat p s c).2) (n + 10) (some (.val (.int c))) (some (.val (eMs (Ef.lat p s c).2))) (fun x m => hu x (List.mem_cons_of_mem _ m)) a.1 a.2 (by rw [Ef.shBy_len]; exact b) (shBy_lenB hb d) (by omega)
      refine ⟨o2', o5', ?_⟩
      rw [List.map_cons]
      refine forL_cons (ps1 := [some (.val (ePn p)), some (.val (eP t)), some (.val (.int c)), some (.val (.int s)), some (.val (eQ sh)), o5, none, none]) rfl ?_ e
      refine es_seqA (ev_bin (ev_bin (ev_ixS (look_val rfl) ev_K (look_val rfl) (dIx_t (n := 1) rfl)) (ev_N rfl) (dIx_tI h0 (map_get g2))) (ev_bin (ev_N rfl) ev_K (dSub_iE rfl)) (dIx_tI (by omega) (map_get g3))) (et_TE rfl (ets_cons et_N (ets_cons et_N ets_nil))) ?_
      dsimp only [List.set]
      refine es_setS (ev_val (ev_app (ev_cons (ev_dataE (ev_lcS (es := ((Ef.lat p s c).2.map fun m => sh.getD m.1.toNat [] ++ m.2).map eP) (ev_seqI (ev_N rfl) rfl) rfl (compL_each (en := eM) (en' := eP) (fun m => sh.getD m.1.toNat [] ++ m.2) (Ef.lat p s c).2 (by omega) fun m mm => ?_) rfl) rfl) ev_nil) dTuple_l)) rfl
      have hm := d m mm
      have hi : m.1.toNat < sh.length := by have := hm.1; omega
      have e3 : sh.getD m.1.toNat [] = sh[m.1.toNat] := by rw [List.getD_eq_getElem?_getD, List.getElem?_eq_getElem hi]; rfl
      have l := hb _ (List.getElem_mem hi)
      refine ⟨_, et_TE rfl (ets_cons et_N (ets_cons et_N ets_nil)), _, ev_bin (ev_ixS (look_val rfl) (ev_N rfl) (look_val rfl) (dIx_tI hm.1.1 (map_get (List.getElem?_eq_getElem hi)))) (ev_N rfl) ?_, rfl⟩
      rw [e3]
      have := hm.2.2
      exact dAdd_P (by omega)
  obtain ⟨o2', o5', e⟩ := key t p.s0 p.sh 10 none none ht h.s0.1 h.s0.2 rfl (fun x hx => (h.sh x hx).2) (by omega)
  apply fin_retE
  unfold b__law_after
  · refine es_seqA (ev_ixS (look_val rfl) ev_K (look_val rfl) (dIx_t0 rfl)) (et_TE rfl (ets_cons et_N (ets_cons et_N ets_nil))) ?_
    dsimp only [List.set]
    refine es_seq (es_for (ev_seqI (ev_N rfl) rfl) e) ?_
    exact es_ret (ev_val (ev_tupE (ev_cons (ev_N rfl) (ev_cons (ev_N rfl) ev_nil)) (by simp)))
  · rfl
theorem t_law_pen_results {p : Ef.Pn} {wide : Nat} (h : OkP p wide) {t : List Int} (ht : Ef.Tx wide t) (hz : t.length ≤ 1000) : M__law_pen_results [ePn p, eP t] = .ok (.val (eQ (resF p t))) := by
  obtain ⟨g1, g2, g3⟩ := go_ok h ht hz
  have hi : (Ef.goF p (p.s0, p.sh) t).1.toNat < p.ends.length := by rw [h.en]; omega
  obtain ⟨a, b, _⟩ := h.ends _ (List.getElem_mem hi)
  have e : p.ends.getD (Ef.goF p (p.s0, p.sh) t).1.toNat [] = p.ends[(Ef.goF p (p.s0, p.sh) t).1.toNat] := by rw [List.getD_eq_getElem?_getD, List.getElem?_eq_getElem hi]; rfl
  unfold resF
  rw [e]
  show (b__law_pen_results [some (.val (ePn p)), some (.val (eP t)), none, none, none, none]).fin = _
  apply fin_ret
  unfold b__law_pen_results
  refine es_seqA (ev_data (ev_callE (ev_cons (ev_N rfl) (ev_cons (ev_N rfl) ev_nil)) rfl (ev_after h ht hz))) (et_TE rfl (ets_cons et_N (ets_cons et_N ets_nil))) ?_
  dsimp only [List.set]
  refine es_ret (ev_callE (ev_cons (ev_dataE (ev_lcS (es := (resOf (Ef.goF p (p.s0, p.sh) t).2 p.ends[(Ef.goF p (p.s0, p.sh) t).1.toNat]).map eP) (ev_seqI (ev_bin (ev_ixS (look_val rfl) ev_K (look_val rfl) (dIx_t (n := 2) rfl)) (ev_N rfl) (dIx_tI g1.1 (map_get (List.getElem?_eq_getElem hi)))) rfl) rfl (compL_each (en := eM) (en' := eP) (fun m => (Ef.goF p (p.s0, p.sh) t).2.getD m.1.toNat [] ++ m.2) p.ends[(Ef.goF p (p.s0, p.sh) t).1.toNat] (by omega) fun m mm => ?_) rfl) rfl) ev_nil) rfl (t_law_set tyP (by omega) isT_P (.inl rfl) (by simp [resOf]; omega)))
  obtain ⟨c, d, f⟩ := b m mm
  have hj : m.1.toNat < (Ef.goF p (p.s0, p.sh) t).2.length := by omega
  have e2 : (Ef.goF p (p.s0, p.sh) t).2.getD m.1.toNat [] = (Ef.goF p (p.s0, p.sh) t).2[m.1.toNat] := by rw [List.getD_eq_getElem?_getD, List.getElem?_eq_getElem hj]; rfl
  have l := g3 _ (List.getElem_mem hj)
  refine ⟨_, et_TE rfl (ets_cons et_N (ets_cons et_N ets_nil)), _, ev_bin (ev_ixS (look_val rfl) (ev_N rfl) (look_val rfl) (dIx_tI c.1 (map_get (List.getElem?_eq_getElem hj)))) (ev_N rfl) ?_, rfl⟩
  rw [e2]
  exact dAdd_P (by omega)
/-- one thing alone is a set -/
theorem t_is_set1 (m : Ef.Mv) : M_is_set [eMs [m]] = .ok (.val (.bool true)) := by
  show (b_is_set [some (.val (eMs [m])), none]).fin = _
  apply fin_ret
  unfold b_is_set
  exact es_ret (ev_val (ev_andVP (k := true) (l := true) (ev_isi (ev_N rfl) rfl) (ev_app (ev_cons (ev_dataE (ev_lcS (ev_range1 (k := 0) (ev_cons (ev_bin (ev_lenS (look_val rfl) (dLen_tE (k := 1) rfl)) ev_K (dSub_iE rfl)) ev_nil) (by omega)) rfl (rfl : compL _ _ _ _ (rangeD 0 (0 : Int).toNat) _ [] = .ok [] _) rfl) rfl) ev_nil) rfl)))
theorem srt_one {α : Type} {en : α → PyData} {k : Nat} (t : Ty en k) (a : α) : srt en [a] = [a] := by
  have hl := t.len_srt (l := [a]) (by simp)
  have hm := t.mem_srt [a]
  match h : srt en [a], hl with
  | [b], _ =>
    have : b ∈ srt en [a] := by rw [h]; simp
    have := (hm b).mp this
    rw [List.mem_singleton.mp this]
theorem repl_flat {α : Type} (a : α) (n : Nat) : (List.replicate n [a]).flatten = List.replicate n a := by
  induction n with
  | zero => rfl
  | succ n ih => rw [List.replicate_succ, List.flatten_cons, ih]; rfl
structure OkT (p : Ef.Pn) (wide width : Nat) : Prop extends OkP p wide where
  wd : p.sh = List.replicate width []
  w2 : 1 ≤ width ∧ width ≤ 2
  n3 : p.rows.length ≤ 3
theorem t_law_turning {N wide : Nat} {u : List PyData} (hu : Urn N u) (hN : N < 2 ^ 40) (hw : 1 ≤ wide ∧ wide ≤ 3) : ∃ p width u', M__law_turning u [.int wide] = .ok (.val (ePn p)) u' ∧ OkT p wide width ∧ Urn (N + 1000) u' := by
  obtain ⟨k1, u1, h1, hk1, hu1⟩ := t_take (n := 3) hu (by omega) (by omega) (by omega)
  obtain ⟨k2, u2, h2, hk2, hu2⟩ := t_take (n := 2) hu1 (by omega) (by omega) (by omega)
  obtain ⟨many, em⟩ : ∃ many : Nat, (1 : Int) + k1 = many := ⟨(1 + k1).toNat, by omega⟩
  obtain ⟨width, ew⟩ : ∃ width : Nat, (1 : Int) + k2 = width := ⟨(1 + k2).toNat, by omega⟩
  have inner : ∀ (d5 d6 : PyData) (urn : List PyData) (N : Nat), Urn N urn → N < 2 ^ 44 → ∃ (l : List Ef.Mv) (urn' : List PyData), Ev (fApp dTuple (fCons (fun ps => ((fLc (fRange1 (fCons (fN 4) (fun ps => .ok [] ps))) (uN 7) cYes (fTup (fCons (fun ps => ((fCallU 0 1 M__law_take (fCons (fN 4) (fun ps => .ok [] ps))) ps).map PV.data) (fCons (fIf (fTest (fBin dEq (fun ps => ((fCallU 0 1 M__law_take (fCons (fK (.int 8)) (fun ps => .ok [] ps))) ps).map PV.data) (fK (.int 0)))) (fTup (fCons (fK (.int 1)) (fun ps => .ok [] ps))) (fTup (fun ps => .ok [] ps))) (fun ps => .ok [] ps)))) [7]) ps).map PV.data) (fun ps => .ok [] ps)))
      [some (.own (.list urn)), some (.val (.int wide)), none, some (.val (.int many)), some (.val (.int width)), some (.val d5), some (.val d6), none] (eMs l) [some (.own (.list urn')), some (.val (.int wide)), none, some (.val (.int many)), some (.val (.int width)), some (.val d5), some (.val d6), none] ∧ l.length = width ∧ (∀ m ∈ l, OkM width m) ∧ Urn (N + width * 2) urn' := by
    intro d5 d6 urn N hu hN
    obtain ⟨l, u', e1, e2, e3, e4⟩ := comp_draw (en := eM) (P := OkM width) (u := uN 7) (fe := fTup (fCons (fun ps => ((fCallU 0 1 M__law_take (fCons (fN 4) (fun ps => .ok [] ps))) ps).map PV.data) (fCons (fIf (fTest (fBin dEq (fun ps => ((fCallU 0 1 M__law_take (fCons (fK (.int 8)) (fun ps => .ok [] ps))) ps).map PV.data) (fK (.int 0)))) (fTup (fCons (fK (.int 1)) (fun ps => .ok [] ps))) (fTup (fun ps => .ok [] ps))) (fun ps => .ok [] ps)))) (vs := [7]) (st := fun u => [some (.own (.list u)), some (.val (.int wide)), none, some (.val (.int many)), some (.val (.int width)), some (.val d5), some (.val d6), none]) (2 ^ 45) 2
      (fun d urn N hu hN => by
        obtain ⟨i, v1, g1, hi, hv1⟩ := t_take (n := (width : Int)) hu (by omega) (by omega) (by omega)
        obtain ⟨j, v2, g2, hj, hv2⟩ := t_take (n := 8) hv1 (by omega) (by omega) (by omega)
        by_cases hj0 : j = 0
        · refine ⟨(i, [1]), v2, _, _, ⟨hi, ⟨by simp, by simp⟩, by simp⟩, hv2, et_N, ev_tupE (ev_cons (ev_data (ev_callUE rfl (ev_cons (ev_N rfl) ev_nil) rfl rfl g1 rfl)) (ev_cons (ev_ifT (ev_test (ev_bin (ev_data (ev_callUE rfl (ev_cons ev_K ev_nil) rfl rfl g2 rfl)) ev_K (dEq_iE (decide_eq_true hj0)))) (ev_tupE (ev_cons ev_K ev_nil) (by simp))) ev_nil)) (by simp), rfl⟩
        · refine ⟨(i, []), v2, _, _, ⟨hi, ⟨by simp, by simp⟩, by simp⟩, hv2, et_N, ev_tupE (ev_cons (ev_data (ev_callUE rfl (ev_cons (ev_N rfl) ev_nil) rfl rfl g1 rfl)) (ev_cons (ev_ifF (ev_test (ev_bin (ev_data (ev_callUE rfl (ev_cons ev_K ev_nil) rfl rfl g2 rfl)) ev_K (dEq_iE (decide_eq_false hj0)))) (ev_tupE ev_nil (by simp))) ev_nil)) (by simp), rfl⟩) (rangeD 0 width) [] urn N hu (by rw [rangeD_len]; omega) (by rw [rangeD_len]; simp; omega)
    rw [rangeD_len] at e2 e4
    refine ⟨l, u', ev_app (ev_cons (ev_dataE (ev_lcS (ev_range1 (k := (width : Int)) (ev_cons (ev_N rfl) ev_nil) (by omega)) rfl e1 rfl) rfl) ev_nil) dTuple_l, e2, e3, e4⟩
  have middle : ∀ (d5 : PyData) (urn : List PyData) (N : Nat), Urn N urn → N < 2 ^ 42 → ∃ (r : List Ef.Rw) (urn' : List PyData), Ev (fApp dTuple (fCons (fun ps => ((fLc (fRange1 (fCons (fN 1) (fun ps => .ok [] ps))) (uN 6) cYes (fTup (fCons (fun ps => ((fCallU 0 1 M__law_take (fCons (fN 3) (fun ps => .ok [] ps))) ps).map PV.data) (fCons (fApp dTuple (fCons (fun ps => ((fLc (fRange1 (fCons (fN 4) (fun ps => .ok [] ps))) (uN 7) cYes (fTup (fCons (fun ps => ((fCallU 0 1 M__law_take (fCons (fN 4) (fun ps => .ok [] ps))) ps).map PV.data) (fCons (fIf (fTest (fBin dEq (fun ps => ((fCallU 0 1 M__law_take (fCons (fK (.int 8)) (fun ps => .ok [] ps))) ps).map PV.data) (fK (.int 0)))) (fTup (fCons (fK (.int 1)) (fun ps => .ok [] ps))) (fTup (fun ps => .ok [] ps))) (fun ps => .ok [] ps)))) [7]) ps).map PV.data) (fun ps => .ok [] ps))) (fun ps => .ok [] ps)))) [6]) ps).map PV.data) (fun ps => .ok [] ps)))
      [some (.own (.list urn)), some (.val (.int wide)), none, some (.val (.int many)), some (.val (.int width)), some (.val d5), none, none] (eWs r) [some (.own (.list urn')), some (.val (.int wide)), none, some (.val (.int many)), some (.val (.int width)), some (.val d5), none, none] ∧ r.length = wide ∧ (∀ x ∈ r, (0 ≤ x.1 ∧ x.1 < many) ∧ x.2.length = width ∧ ∀ m ∈ x.2, OkM width m) ∧ Urn (N + wide * 5) urn' := by
    intro d5 urn N hu hN
    obtain ⟨l, u', e1, e2, e3, e4⟩ := comp_draw (en := eW) (P := fun x => (0 ≤ x.1 ∧ x.1 < many) ∧ x.2.length = width ∧ ∀ m ∈ x.2, OkM width m) (u := uN 6) (fe := fTup (fCons (fun ps => ((fCallU 0 1 M__law_take (fCons (fN 3) (fun ps => .ok [] ps))) ps).map PV.data) (fCons (fApp dTuple (fCons (fun ps => ((fLc (fRange1 (fCons (fN 4) (fun ps => .ok [] ps))) (uN 7) cYes (fTup (fCons (fun ps => ((fCallU 0 1 M__law_take (fCons (fN 4) (fun ps => .ok [] ps))) ps).map PV.data) (fCons (fIf (fTest (fBin dEq (fun ps => ((fCallU 0 1 M__law_take (fCons (fK (.int 8)) (fun ps => .ok [] ps))) ps).map PV.data) (fK (.int 0)))) (fTup (fCons (fK (.int 1)) (fun ps => .ok [] ps))) (fTup (fun ps => .ok [] ps))) (fun ps => .ok [] ps)))) [7]) ps).map PV.data) (fun ps => .ok [] ps))) (fun ps => .ok [] ps)))) (vs := [6]) (st := fun u => [some (.own (.list u)), some (.val (.int wide)), none, some (.val (.int many)), some (.val (.int width)), some (.val d5), none, none]) (2 ^ 43) 5
      (fun d urn N hu hN => by
        obtain ⟨i, v1, g1, hi, hv1⟩ := t_take (n := (many : Int)) hu (by omega) (by omega) (by omega)
        obtain ⟨l, v2, g2, g3, g4, g5⟩ := inner d5 d v1 (N + 1) hv1 (by omega)
        exact ⟨(i, l), v2, _, _, ⟨hi, g3, g4⟩, g5.le (by omega), et_N, ev_tupE (ev_cons (ev_data (ev_callUE rfl (ev_cons (ev_N rfl) ev_nil) rfl rfl g1 rfl)) (ev_cons g2 ev_nil)) (by simp), rfl⟩) (rangeD 0 wide) [] urn N hu (by rw [rangeD_len]; omega) (by rw [rangeD_len]; simp; omega)
    rw [rangeD_len] at e2 e4
    refine ⟨l, u', ev_app (ev_cons (ev_dataE (ev_lcS (ev_range1 (k := (wide : Int)) (ev_cons (ev_N rfl) ev_nil) (by omega)) rfl e1 rfl) rfl) ev_nil) dTuple_l, e2, e3, e4⟩
  obtain ⟨rows, u3, r1, r2, r3, r4⟩ := comp_draw (en := eWs) (P := fun r => r.length = wide ∧ ∀ x ∈ r, (0 ≤ x.1 ∧ x.1 < many) ∧ x.2.length = width ∧ ∀ m ∈ x.2, OkM width m) (u := uN 5) (fe := fApp dTuple (fCons (fun ps => ((fLc (fRange1 (fCons (fN 1) (fun ps => .ok [] ps))) (uN 6) cYes (fTup (fCons (fun ps => ((fCallU 0 1 M__law_take (fCons (fN 3) (fun ps => .ok [] ps))) ps).map PV.data) (fCons (fApp dTuple (fCons (fun ps => ((fLc (fRange1 (fCons (fN 4) (fun ps => .ok [] ps))) (uN 7) cYes (fTup (fCons (fun ps => ((fCallU 0 1 M__law_take (fCons (fN 4) (fun ps => .ok [] ps))) ps).map PV.data) (fCons (fIf (fTest (fBin dEq (fun ps => ((fCallU 0 1 M__law_take (fCons (fK (.int 8)) (fun ps => .ok [] ps))) ps).map PV.data) (fK (.int 0)))) (fTup (fCons (fK (.int 1)) (fun ps => .ok [] ps))) (fTup (fun ps => .ok [] ps))) (fun ps => .ok [] ps)))) [7]) ps).map PV.data) (fun ps => .ok [] ps))) (fun ps => .ok [] ps)))) [6]) ps).map PV.data) (fun ps => .ok [] ps))) (vs := [5]) (st := fun u => [some (.own (.list u)), some (.val (.int wide)), none, some (.val (.int many)), some (.val (.int width)), none, none, none]) (2 ^ 41) 15
      (fun d urn N hu hN => by
        obtain ⟨r, v2, g2, g3, g4, g5⟩ := middle d urn N hu (by omega)
        exact ⟨r, v2, _, _, ⟨g3, g4⟩, g5.le (by omega), et_N, g2, rfl⟩) (rangeD 0 many) [] u2 (N + 2) hu2 (by rw [rangeD_len]; omega) (by rw [rangeD_len]; simp; omega)
  rw [rangeD_len] at r2 r4
  obtain ⟨ends, u4, s1, s2, s3, s4⟩ := comp_draw (en := eMs) (P := fun l => ∃ m, l = [m] ∧ OkM width m) (u := uN 5) (fe := fun ps => ((fCall 1 M__law_set (fCons (fun ps => ((fLst (fCons (fTup (fCons (fun ps => ((fCallU 0 1 M__law_take (fCons (fN 4) (fun ps => .ok [] ps))) ps).map PV.data) (fCons (fun ps => ((fCallU 0 1 M__law_piece (fCons (fK (.int 1)) (fun ps => .ok [] ps))) ps).map PV.data) (fun ps => .ok [] ps)))) (fun ps => .ok [] ps))) ps).map PV.data) (fun ps => .ok [] ps))) ps).map PV.data) (vs := [5]) (st := fun u => [some (.own (.list u)), some (.val (.int wide)), some (.val (.tuple (rows.map eWs))), some (.val (.int many)), some (.val (.int width)), none, none, none]) (2 ^ 41) 3
      (fun d urn N hu hN => by
        obtain ⟨i, v1, g1, hi, hv1⟩ := t_take (n := (width : Int)) hu (by omega) (by omega) (by omega)
        obtain ⟨q, v2, g2, hq, hv2⟩ := t_piece (m := 1) hv1 (by omega) (by omega)
        refine ⟨[(i, q)], v2, _, _, ⟨(i, q), rfl, hi, hq.1, by have := hq.2; show q.length ≤ 10; omega⟩, hv2.le (by omega), et_N, ev_data (ev_callE (ev_cons (ev_dataE (ev_lstE (ev_cons (ev_tupE (ev_cons (ev_data (ev_callUE rfl (ev_cons (ev_N rfl) ev_nil) rfl rfl g1 rfl)) (ev_cons (ev_data (ev_callUE rfl (ev_cons ev_K ev_nil) rfl rfl g2 rfl)) ev_nil)) (by simp)) ev_nil) (by simp)) rfl) ev_nil) rfl (p := .val (eMs [(i, q)])) ?_), rfl⟩
        have := t_law_set tyM (by omega) isT_M (l := [(i, q)]) (d := .list [eM (i, q)]) (.inl rfl) (by simp)
        rw [srt_one tyM] at this
        exact this) (rangeD 0 many) [] u3 (N + 2 + many * 15) r4 (by rw [rangeD_len]; omega) (by rw [rangeD_len]; simp; omega)
  rw [rangeD_len] at s2 s4
  refine ⟨⟨0, List.replicate width [], rows, ends⟩, width, u4, ?_, ?_, s4.le (by omega)⟩
  · show (b__law_turning [some (.own (.list u)), some (.val (.int wide)), none, none, none, none, none, none]).finU = _
    apply finU_retE
    unfold b__law_turning
    · refine es_seq (es_par (ev_val (ev_bin ev_K (ev_data (ev_callUE rfl (ev_cons ev_K ev_nil) rfl rfl h1 rfl)) (dAdd_iE em))) (ev_val (ev_bin ev_K (ev_data (ev_callUE rfl (ev_cons ev_K ev_nil) rfl rfl h2 rfl)) (dAdd_iE ew)))) ?_
      refine es_seqS (ev_val (ev_app (ev_cons (ev_dataE (ev_lcS (ev_range1 (k := (many : Int)) (ev_cons (ev_N rfl) ev_nil) (by omega)) rfl r1 rfl) rfl) ev_nil) dTuple_l)) rfl ?_
      refine es_ret (ev_val (ev_tupE (ev_cons (ev_tupE (ev_cons ev_K (ev_cons (ev_bin (ev_tupE (ev_cons (ev_tupE ev_nil (by simp)) ev_nil) (by simp)) (ev_N rfl) (d := eQ (List.replicate width [])) ?_) ev_nil)) (by simp)) (ev_cons (ev_N rfl) (ev_cons (ev_app (ev_cons (ev_dataE (ev_lcS (ev_range1 (k := (many : Int)) (ev_cons (ev_N rfl) ev_nil) (by omega)) rfl s1 rfl) rfl) ev_nil) dTuple_l) ev_nil))) (by simp)))
      unfold dMulT
      dsimp only
      rw [if_pos ⟨by simp, by omega, by omega, by simp⟩, show ((width : Int)).toNat = width by omega, repl_flat]
      simp
    · rfl
    · rfl
  · refine ⟨⟨⟨hw.1, hw.2⟩, ⟨by show 1 ≤ rows.length; omega, by show rows.length ≤ 20; omega⟩, ⟨by show (0 : Int) ≤ 0; omega, by show (0 : Int) < rows.length; omega⟩, ⟨by simp; omega, by simp; omega⟩, ?_, ?_, ?_, ?_⟩, rfl, by omega, by show rows.length ≤ 3; omega⟩
    · intro x hx
      have := List.eq_of_mem_replicate hx
      subst this
      exact ⟨⟨by simp, by simp⟩, by simp⟩
    · intro r hr
      obtain ⟨a, b⟩ := r3 r hr
      refine ⟨a, fun x hx => ?_⟩
      obtain ⟨c, d, e⟩ := b x hx
      exact ⟨⟨c.1, by show x.1 < rows.length; omega⟩, by simpa using d, by simpa using e⟩
    · show ends.length = rows.length
      omega
    · intro l hl
      obtain ⟨m, rfl, hm⟩ := s3 l hl
      exact ⟨by simp, fun x hx => by rw [List.mem_singleton.mp hx]; simpa using hm, t_is_set1 m⟩
end TT

namespace TT
open PySem PySem.Spec L2 GL GT
open PyProof.Rows hiding St
abbrev eL (l : List (List Int)) : PyData := .list (l.map eP)
def keyT (p : Ef.Pn) (t : List Int) : List (Int × List Ef.Mv) := (List.range p.rows.length).map fun s => Ef.effF p ((s : Nat) : Int) t
theorem key_eff {p : Ef.Pn} {a b : List Int} : keyT p a = keyT p b ↔ ∀ s : Int, 0 ≤ s → s < p.rows.length → Ef.effF p s a = Ef.effF p s b := by
  unfold keyT
  rw [List.map_inj_left]
  constructor
  · intro h s h0 h1
    have := h s.toNat (List.mem_range.mpr (by omega))
    rwa [show ((s.toNat : Nat) : Int) = s by omega] at this
  · intro h s hs
    have := List.mem_range.mp hs
    exact h s (by omega) (by omega)
theorem unl_none {p : Ef.Pn} {a b : List Int} : unl p a b = none ↔ keyT p a = keyT p b := by
  unfold unl keyT
  rw [List.find?_eq_none, List.map_inj_left]
  constructor
  · intro h s hs; simpa using h s hs
  · intro h s hs; simpa using h s hs
theorem unl_isNone {p : Ef.Pn} {a b : List Int} : (unl p a b).isNone = decide (keyT p a = keyT p b) := by
  have := unl_none (p := p) (a := a) (b := b)
  cases q : unl p a b with
  | none => rw [q] at this; simp [this.mp rfl]
  | some s =>
    have h : ¬ keyT p a = keyT p b := fun e => by rw [this.mpr e] at q; cases q
    simp [h]
theorem find_congr {α : Type} {f g : α → Bool} : ∀ {l : List α}, (∀ a ∈ l, f a = g a) → l.find? f = l.find? g
  | [], _ => rfl
  | a :: l, h => by rw [List.find?_cons, List.find?_cons, h a List.mem_cons_self, find_congr fun b m => h b (List.mem_cons_of_mem _ m)]
theorem unl_right {p : Ef.Pn} {a b c : List Int} (h : keyT p a = keyT p b) : unl p c a = unl p c b := by
  have e := key_eff.mp h
  unfold unl
  refine find_congr fun s hs => ?_
  have := List.mem_range.mp hs
  rw [e s (by omega) (by omega)]
theorem unl_some {p : Ef.Pn} {a b : List Int} {s : Nat} (h : unl p a b = some s) : s < p.rows.length ∧ Ef.effF p (s : Int) a ≠ Ef.effF p (s : Int) b := by
  unfold unl at h
  have h1 := List.find?_some h
  have h2 := List.mem_range.mp (List.mem_of_find?_eq_some h)
  exact ⟨h2, by simpa using h1⟩
theorem eff_same {p b : Ef.Pn} (hr : b.rows = p.rows) (hl : b.sh.length = p.sh.length) (s : Int) (t : List Int) : Ef.effF b s t = Ef.effF p s t := by
  unfold Ef.effF
  rw [hl]
  have : Ef.stepE b = Ef.stepE p := by
    funext x c
    unfold Ef.stepE Ef.lat
    rw [hr]
  rw [this]
theorem res_congr {b : Ef.Pn} {wide : Nat} (h : OkP b wide) {t t' : List Int} (ht : Ef.Tx wide t) (ht' : Ef.Tx wide t') (e : Ef.effF b b.s0 t = Ef.effF b b.s0 t') : resF b t = resF b t' := by
  have e1 := Ef.go_eff h.fit t b.s0 b.sh ht h.s0.1 h.s0.2 rfl
  have e2 := Ef.go_eff h.fit t' b.s0 b.sh ht' h.s0.1 h.s0.2 rfl
  unfold resF
  rw [e1, e2, e]
theorem es_par3 {fa : PSt → Rs (List PyData)} {i j k : Nat} {ps ps1 ps2 : PSt} {a b c : PyData} (h : Ev fa ps [a, b, c] ps1) (hs : ((ps1.set k (some (.val c))).set j (some (.val b))).set i (some (.val a)) = ps2) : Es (fPar3 i j k fa) ps (.nx ps2) := by
  subst hs
  unfold Ev Es at *
  unfold fPar3
  rw [h]
  rfl
theorem range_ints (n : Nat) : rangeD 0 ((n : Nat) : Int).toNat = (List.range n).map fun k => PyData.int ((k : Nat) : Int) := by
  unfold rangeD
  simp
/-- what is known when the laps begin -/
structure LC (p : Ef.Pn) (wide width : Nat) (Ls : List (List (List Int))) (Q0 : List (List Int)) : Prop where
  ok : OkT p wide width
  ls : Ls ≠ [] ∧ Ls.length ≤ 100
  lot : ∀ l ∈ Ls, l ≠ [] ∧ l.length ≤ 100 ∧ ∀ t ∈ l, Ef.Tx wide t ∧ t.length ≤ 3
  key : ∀ l ∈ Ls, ∀ m ∈ Ls, ∀ a ∈ l, ∀ c ∈ m, (l = m ↔ keyT p a = keyT p c)
  q : Q0 ≠ [] ∧ Q0.length ≤ 100 ∧ ∀ t ∈ Q0, (Ef.Tx wide t ∧ t.length ≤ 3) ∧ keyT p t = keyT p []
/-- the texts of a lap -/
structure TT7 (p : Ef.Pn) (wide : Nat) (one other : List (List Int)) (a b c near far : List Int) : Prop where
  ha : Ef.Tx wide a ∧ a.length ≤ 3
  hb : Ef.Tx wide b ∧ b.length ≤ 3
  hc : Ef.Tx wide c ∧ c.length ≤ 3
  hn : Ef.Tx wide near ∧ near.length ≤ 2
  hf : Ef.Tx wide far ∧ far.length ≤ 2
  ab : keyT p a = keyT p b
  ac : one = other ↔ keyT p a = keyT p c
theorem mid_key {p : Ef.Pn} {wide : Nat} (h : OkP p wide) {a b n f : List Int} (ha : Ef.Tx wide a) (hb : Ef.Tx wide b) (hn : Ef.Tx wide n) (hf : Ef.Tx wide f) (e : keyT p a = keyT p b) : keyT p (n ++ a ++ f) = keyT p (n ++ b ++ f) :=
  key_eff.mpr fun s h0 h1 => Ef.eff_mid h.fit ha hb hn hf (key_eff.mp e) h0 h1
theorem tx_nil (wide : Nat) : Ef.Tx wide [] := fun _ m => by cases m
theorem add3 {x y z : List Int} (hx : x.length ≤ 100) (hy : y.length ≤ 100) (hz : z.length ≤ 100) {i j k : Nat} {ps : PSt} (h1 : ps[i]? = some (some (.val (eP x)))) (h2 : ps[j]? = some (some (.val (eP y)))) (h3 : ps[k]? = some (some (.val (eP z)))) : Ev (fBin dAdd (fBin dAdd (fN i) (fN j)) (fN k)) ps (eP (x ++ y ++ z)) ps :=
  ev_bin (ev_bin (ev_N h1) (ev_N h2) (dAdd_P (by omega))) (ev_N h3) (dAdd_P (by simp; omega))
theorem t_sameE {p : Ef.Pn} {wide : Nat} (h : OkP p wide) {a b : List Int} (ha : Ef.Tx wide a) (hb : Ef.Tx wide b) (za : a.length ≤ 1000) (zb : b.length ≤ 1000) {k : Bool} (e : decide (keyT p a = keyT p b) = k) : M_same_effect [ePn p, eP a, eP b] = .ok (.val (.bool k)) := by
  rw [t_same_effect h ha hb za zb, unl_isNone, e]
noncomputable def d1 : PSt → Os :=
  (fPar 18 19 (fCallU 1 1 M__law_of (fCons (fN 6) (fun ps => .ok [] ps))) (fCallU 1 1 M__law_of (fCons (fN 6) (fun ps => .ok [] ps))))
noncomputable def d2 : PSt → Os :=
  (fPar3 20 21 22 (fCons (fun ps => ((fCallU 1 1 M__law_of (fCons (fN 18) (fun ps => .ok [] ps))) ps).map PV.data) (fCons (fun ps => ((fCallU 1 1 M__law_of (fCons (fN 18) (fun ps => .ok [] ps))) ps).map PV.data) (fCons (fun ps => ((fCallU 1 1 M__law_of (fCons (fN 19) (fun ps => .ok [] ps))) ps).map PV.data) (fun ps => .ok [] ps)))))
noncomputable def d3 : PSt → Os :=
  (fPar 23 24 (fCallU 1 2 M__law_text (fCons (fN 2) (fCons (fK (.int 2)) (fun ps => .ok [] ps)))) (fCallU 1 2 M__law_text (fCons (fN 2) (fCons (fK (.int 2)) (fun ps => .ok [] ps)))))
noncomputable def d4 : PSt → Os :=
  (fSet 13 (fLst (fCons (fun ps => ((fCall 3 M_same_effect (fCons (fN 3) (fCons (fN 20) (fCons (fN 21) (fun ps => .ok [] ps))))) ps).map PV.data) (fCons (fun ps => ((fCall 3 M_same_effect (fCons (fN 3) (fCons (fBin dAdd (fBin dAdd (fN 23) (fN 20)) (fN 24)) (fCons (fBin dAdd (fBin dAdd (fN 23) (fN 21)) (fN 24)) (fun ps => .ok [] ps))))) ps).map PV.data) (fCons (fun ps => ((fCall 3 M_same_effect (fCons (fN 3) (fCons (fN 20) (fCons (fN 22) (fun ps => .ok [] ps))))) ps).map PV.data) (fCons (fun ps => ((fCall 3 M_same_effect (fCons (fN 3) (fCons (fN 22) (fCons (fN 21) (fun ps => .ok [] ps))))) ps).map PV.data) (fCons (fBin dIs (fun ps => ((fCall 3 M__law_unlike (fCons (fN 3) (fCons (fN 20) (fCons (fN 22) (fun ps => .ok [] ps))))) ps).map PV.data) (fK .none)) (fCons (fun ps => ((fCall 3 M__law_unlike (fCons (fN 3) (fCons (fN 22) (fCons (fN 21) (fun ps => .ok [] ps))))) ps).map PV.data) (fun ps => .ok [] ps)))))))))
noncomputable def d5 : PSt → Os :=
  (fSet 14 (fLst (fCons (fK (.bool true)) (fCons (fK (.bool true)) (fCons (fBinS dEq 18 (fN 19)) (fCons (fBinS dEq 18 (fN 19)) (fCons (fBinS dEq 18 (fN 19)) (fCons (fun ps => ((fCall 3 M__law_unlike (fCons (fN 3) (fCons (fN 22) (fCons (fN 20) (fun ps => .ok [] ps))))) ps).map PV.data) (fun ps => .ok [] ps)))))))))
noncomputable def d6 : PSt → Os :=
  (fIfS (fNot (fTest (fun ps => ((fCall 2 M__law_same (fCons (fN 13) (fCons (fN 14) (fun ps => .ok [] ps)))) ps).map PV.data))) (fRet (fun ps => ((fK (.bool false)) ps).map PV.val)) fSkip)
noncomputable def d7 : PSt → Os :=
  (fSet 15 (fCallU 1 1 M__law_of (fCons (fN 7) (fun ps => .ok [] ps))))
noncomputable def d8 : PSt → Os :=
  (fIfS (fTest (fBin dIsNot (fun ps => ((fCall 3 M_same_effect (fCons (fN 3) (fCons (fBin dAdd (fBin dAdd (fN 23) (fN 15)) (fN 24)) (fCons (fBin dAdd (fN 23) (fN 24)) (fun ps => .ok [] ps))))) ps).map PV.data) (fK (.bool true)))) (fRet (fun ps => ((fK (.bool false)) ps).map PV.val)) fSkip)
noncomputable def d10 : PSt → Os :=
  (fSet 17 (fCall 3 M__law_unlike (fCons (fN 3) (fCons (fN 20) (fCons (fN 22) (fun ps => .ok [] ps))))))
noncomputable def d11 : PSt → Os :=
  (fIfS (fAnd (fTest (fBinS dIsNot 17 (fK .none))) (fTest (fBin dEq (fun ps => ((fCall 3 M_effect (fCons (fN 3) (fCons (fN 17) (fCons (fN 20) (fun ps => .ok [] ps))))) ps).map PV.data) (fun ps => ((fCall 3 M_effect (fCons (fN 3) (fCons (fN 17) (fCons (fN 22) (fun ps => .ok [] ps))))) ps).map PV.data)))) (fRet (fun ps => ((fK (.bool false)) ps).map PV.val)) fSkip)
noncomputable def e1 : PSt → Os :=
  (fSet 25 (fun ps => ((fTup (fCons (fTup (fCons (fN 16) (fCons (fApp dTuple (fCons (fun ps => ((fLc (fRange1 (fCons (fN 10) (fun ps => .ok [] ps))) (uN 29) cYes (fun ps => ((fCallU 1 1 M__law_piece (fCons (fK (.int 2)) (fun ps => .ok [] ps))) ps).map PV.data) [29]) ps).map PV.data) (fun ps => .ok [] ps))) (fun ps => .ok [] ps)))) (fCons (fIxS 3 (fK (.int 1))) (fCons (fIxS 3 (fK (.int 2))) (fun ps => .ok [] ps))))) ps).map PV.val))
noncomputable def e2 : PSt → Os :=
  (fSet 26 (fLc (fSeqI (fTup (fCons (fBin dAdd (fBin dAdd (fN 23) (fN 20)) (fN 24)) (fCons (fBin dAdd (fBin dAdd (fN 23) (fN 21)) (fN 24)) (fCons (fBin dAdd (fBin dAdd (fBin dAdd (fBin dAdd (fN 23) (fN 15)) (fN 20)) (fN 15)) (fN 24)) (fun ps => .ok [] ps)))))) (uN 28) cYes (fun ps => ((fCall 2 M_pens_results (fCons (fN 25) (fCons (fN 28) (fun ps => .ok [] ps)))) ps).map PV.data) [28]))
noncomputable def e3 : PSt → Os :=
  (fIfS (fTest (fBinS dNe 26 (fun ps => ((fRep (fLst (fCons (fun ps => ((fCall 2 M__law_pen_results (fCons (fN 25) (fCons (fBin dAdd (fBin dAdd (fN 23) (fN 20)) (fN 24)) (fun ps => .ok [] ps)))) ps).map PV.data) (fun ps => .ok [] ps))) (fK (.int 3))) ps).map PV.data))) (fRet (fun ps => ((fK (.bool false)) ps).map PV.val)) fSkip)
noncomputable def d9 : PSt → Os :=
  (fFor (fRange1 (fCons (fN 9) (fun ps => .ok [] ps))) (uN 16) (fSeq e1 (fSeq e2 e3)))
noncomputable def c1 : PSt → Os :=
  (fSet 1 (fCall 2 M__law_box (fCons (fun ps => ((fCall 2 M__law_cells (fCons (fN 0) (fCons (fK (.int 1)) (fun ps => .ok [] ps)))) ps).map PV.data) (fCons (fK (.int 0)) (fun ps => .ok [] ps)))))
noncomputable def c2 : PSt → Os :=
  (fSet 2 (fun ps => ((fBin dAdd (fK (.int 1)) (fun ps => ((fCallU 1 1 M__law_take (fCons (fK (.int 2)) (fun ps => .ok [] ps))) ps).map PV.data)) ps).map PV.val))
noncomputable def c3 : PSt → Os :=
  (fSet 3 (fCallU 1 1 M__law_turning (fCons (fN 2) (fun ps => .ok [] ps))))
noncomputable def c4 : PSt → Os :=
  (fPar3 9 10 11 (fCons (fApp dLen (fCons (fIxS 3 (fK (.int 1))) (fun ps => .ok [] ps))) (fCons (fApp dLen (fCons (fBin dIx (fIxS 3 (fK (.int 0))) (fK (.int 1))) (fun ps => .ok [] ps))) (fCons (fun ps => ((fCall 2 M__law_texts (fCons (fN 2) (fCons (fK (.int 3)) (fun ps => .ok [] ps)))) ps).map PV.data) (fun ps => .ok [] ps)))))
noncomputable def c5 : PSt → Os :=
  (fSet 4 GD.fDict0)
noncomputable def c7 : PSt → Os :=
  (fSet 6 (GD.fVals 4))
noncomputable def c8 : PSt → Os :=
  (fSet 7 (fun ps => ((fBin dIx (fun ps => ((fLc (fSeqI (fN 6)) (uN 27) (fTest (fBin dInA (fTup (fun ps => .ok [] ps)) (fN 27))) (fN 27) [27]) ps).map PV.data) (fK (.int 0))) ps).map PV.val))
noncomputable def c10 : PSt → Os :=
  (fRet (fun ps => ((fBin dIs (fun ps => ((fCall 3 M_same_effect (fCons (fN 3) (fCons (fTup (fun ps => .ok [] ps)) (fCons (fTup (fun ps => .ok [] ps)) (fun ps => .ok [] ps))))) ps).map PV.data) (fK (.bool true))) ps).map PV.val))
noncomputable def f6 : PSt → Os :=
  (fSeq (fSet 12 (fun ps => ((fApp dTuple (fCons (fun ps => ((fLc (fRange1 (fCons (fN 9) (fun ps => .ok [] ps))) (uN 16) cYes (fun ps => ((fCall 3 M_effect (fCons (fN 3) (fCons (fN 16) (fCons (fN 5) (fun ps => .ok [] ps))))) ps).map PV.data) [16]) ps).map PV.data) (fun ps => .ok [] ps))) ps).map PV.val))
  (GD.fSetKey 4 (fN 12) (fun ps => ((fBinO dCatL (GD.fGet2 4 (fCons (fN 12) (fCons (fun ps => ((fLst (fun ps => .ok [] ps)) ps).map PV.data) (fun ps => .ok [] ps)))) (fun ps => ((fLst (fCons (fN 5) (fun ps => .ok [] ps))) ps).map PV.data)) ps).map PV.data)))
noncomputable def c6 : PSt → Os :=
  (fFor (fSeqI (fN 11)) (uN 5) f6)
noncomputable def dA : PSt → Os :=
  (fSeq d1 (fSeq d2 (fSeq d3 (fSeq d4 (fSeq d5 (fSeq d6 (fSeq d7 (fSeq d8 (fSeq d9 (fSeq d10 d11))))))))))
noncomputable def c9 : PSt → Os :=
  (fFor (fRange1 (fCons (fK (.int 4)) (fun ps => .ok [] ps))) (uN 8) dA)
theorem law_split : b_law = (fSeq c1 (fSeq c2 (fSeq c3 (fSeq c4 (fSeq c5 (fSeq c6 (fSeq c7 (fSeq c8 (fSeq c9 c10))))))))) := rfl
end TT

namespace TT
open PySem PySem.Spec L2 GL GT
open PyProof.Rows hiding St
theorem t_d1 {o4 o5 o8 o11 o12 o13 o14 o15 o16 o17 o18 o19 o20 o21 o22 o23 o24 o25 o26 : Option PV} {sc : PyData} {u : List PyData} {p : Ef.Pn} {wide width : Nat} {Ls : List (List (List Int))} {Q0 : List (List Int)} (H : LC p wide width Ls Q0) {N : Nat} (hu : Urn N u) (hN : N < 2 ^ 40) : ∃ one ∈ Ls, ∃ other ∈ Ls, ∃ u', Urn (N + 2) u' ∧ Es d1 [some (.val sc), some (.own (.list u)), some (.val (.int wide)), some (.val (ePn p)), o4, o5, some (.val (.list (Ls.map eL))), some (.val (eL Q0)), o8, some (.val (.int p.rows.length)), some (.val (.int width)), o11, o12, o13, o14, o15, o16, o17, o18, o19, o20, o21, o22, o23, o24, o25, o26, none, none, none] (.nx [some (.val sc), some (.own (.list u')), some (.val (.int wide)), some (.val (ePn p)), o4, o5, some (.val (.list (Ls.map eL))), some (.val (eL Q0)), o8, some (.val (.int p.rows.length)), some (.val (.int width)), o11, o12, o13, o14, o15, o16, o17, some (.val (eL one)), some (.val (eL other)), o20, o21, o22, o23, o24, o25, o26, none, none, none]) := by
  obtain ⟨one, m1, u1, e1, hu1⟩ := t_law_of (en := eL) (l := Ls) hu (by omega) H.ls.1 (by have := H.ls.2; omega) (.inl rfl)
  obtain ⟨other, m2, u2, e2, hu2⟩ := t_law_of (en := eL) (l := Ls) hu1 (by omega) H.ls.1 (by have := H.ls.2; omega) (.inl rfl)
  refine ⟨one, m1, other, m2, u2, hu2, ?_⟩
  unfold d1
  exact es_par (ev_callUE rfl (ev_cons (ev_N rfl) ev_nil) rfl rfl e1 rfl) (ev_callUE rfl (ev_cons (ev_N rfl) ev_nil) rfl rfl e2 rfl)
theorem t_d2 {o4 o5 o8 o11 o12 o13 o14 o15 o16 o17 o20 o21 o22 o23 o24 o25 o26 : Option PV} {sc : PyData} {u : List PyData} {p : Ef.Pn} {wide width : Nat} {Ls : List (List (List Int))} {Q0 : List (List Int)} (H : LC p wide width Ls Q0) {one other : List (List Int)} (m1 : one ∈ Ls) (m2 : other ∈ Ls) {N : Nat} (hu : Urn N u) (hN : N < 2 ^ 40) : ∃ a ∈ one, ∃ b ∈ one, ∃ c ∈ other, ∃ u', Urn (N + 3) u' ∧ Es d2 [some (.val sc), some (.own (.list u)), some (.val (.int wide)), some (.val (ePn p)), o4, o5, some (.val (.list (Ls.map eL))), some (.val (eL Q0)), o8, some (.val (.int p.rows.length)), some (.val (.int width)), o11, o12, o13, o14, o15, o16, o17, some (.val (eL one)), some (.val (eL other)), o20, o21, o22, o23, o24, o25, o26, none, none, none] (.nx [some (.val sc), some (.own (.list u')), some (.val (.int wide)), some (.val (ePn p)), o4, o5, some (.val (.list (Ls.map eL))), some (.val (eL Q0)), o8, some (.val (.int p.rows.length)), some (.val (.int width)), o11, o12, o13, o14, o15, o16, o17, some (.val (eL one)), some (.val (eL other)), some (.val (eP a)), some (.val (eP b)), some (.val (eP c)), o23, o24, o25, o26, none, none, none]) := by
  obtain ⟨n1, z1, _⟩ := H.lot one m1
  obtain ⟨n2, z2, _⟩ := H.lot other m2
  obtain ⟨a, ma, u1, e1, hu1⟩ := t_law_of (en := eP) (l := one) (d := eL one) hu (by omega) n1 (by omega) (.inl rfl)
  obtain ⟨b, mb, u2, e2, hu2⟩ := t_law_of (en := eP) (l := one) (d := eL one) hu1 (by omega) n1 (by omega) (.inl rfl)
  obtain ⟨c, mc, u3, e3, hu3⟩ := t_law_of (en := eP) (l := other) (d := eL other) hu2 (by omega) n2 (by omega) (.inl rfl)
  refine ⟨a, ma, b, mb, c, mc, u3, hu3, ?_⟩
  unfold d2
  exact es_par3 (ev_cons (ev_data (ev_callUE rfl (ev_cons (ev_N rfl) ev_nil) rfl rfl e1 rfl)) (ev_cons (ev_data (ev_callUE rfl (ev_cons (ev_N rfl) ev_nil) rfl rfl e2 rfl)) (ev_cons (ev_data (ev_callUE rfl (ev_cons (ev_N rfl) ev_nil) rfl rfl e3 rfl)) ev_nil))) rfl
theorem t_d3 {o4 o5 o8 o11 o12 o13 o14 o15 o16 o17 o18 o19 o20 o21 o22 o23 o24 o25 o26 : Option PV} {sc : PyData} {u : List PyData} {p : Ef.Pn} {wide width : Nat} {Ls : List (List (List Int))} {Q0 : List (List Int)} (H : LC p wide width Ls Q0) {N : Nat} (hw : wide ≤ 2) (hu : Urn N u) (hN : N < 2 ^ 40) : ∃ near far : List Int, (Ef.Tx wide near ∧ near.length ≤ 2) ∧ (Ef.Tx wide far ∧ far.length ≤ 2) ∧ ∃ u', Urn (N + 6) u' ∧ Es d3 [some (.val sc), some (.own (.list u)), some (.val (.int wide)), some (.val (ePn p)), o4, o5, some (.val (.list (Ls.map eL))), some (.val (eL Q0)), o8, some (.val (.int p.rows.length)), some (.val (.int width)), o11, o12, o13, o14, o15, o16, o17, o18, o19, o20, o21, o22, o23, o24, o25, o26, none, none, none] (.nx [some (.val sc), some (.own (.list u')), some (.val (.int wide)), some (.val (ePn p)), o4, o5, some (.val (.list (Ls.map eL))), some (.val (eL Q0)), o8, some (.val (.int p.rows.length)), some (.val (.int width)), o11, o12, o13, o14, o15, o16, o17, o18, o19, o20, o21, o22, some (.val (eP near)), some (.val (eP far)), o25, o26, none, none, none]) := by
  have hw1 := H.ok.w
  obtain ⟨near, u1, e1, hn, hu1⟩ := t_law_text (m := 2) hu (by omega) ⟨hw1.1, by omega⟩ (by omega)
  obtain ⟨far, u2, e2, hf, hu2⟩ := t_law_text (m := 2) hu1 (by omega) ⟨hw1.1, by omega⟩ (by omega)
  refine ⟨near, far, hn, hf, u2, hu2, ?_⟩
  unfold d3
  exact es_par (ev_callUE rfl (ev_cons (ev_N rfl) (ev_cons ev_K ev_nil)) rfl rfl e1 rfl) (ev_callUE rfl (ev_cons (ev_N rfl) (ev_cons ev_K ev_nil)) rfl rfl e2 rfl)
theorem t_d4 {o4 o5 o8 o11 o12 o13 o14 o15 o16 o17 o25 o26 : Option PV} {sc : PyData} {u : List PyData} {p : Ef.Pn} {wide width : Nat} {Ls : List (List (List Int))} {Q0 : List (List Int)} (H : LC p wide width Ls Q0) {one other : List (List Int)} {a b c near far : List Int} (T : TT7 p wide one other a b c near far) : Es d4 [some (.val sc), some (.own (.list u)), some (.val (.int wide)), some (.val (ePn p)), o4, o5, some (.val (.list (Ls.map eL))), some (.val (eL Q0)), o8, some (.val (.int p.rows.length)), some (.val (.int width)), o11, o12, o13, o14, o15, o16, o17, some (.val (eL one)), some (.val (eL other)), some (.val (eP a)), some (.val (eP b)), some (.val (eP c)), some (.val (eP near)), some (.val (eP far)), o25, o26, none, none, none] (.nx [some (.val sc), some (.own (.list u)), some (.val (.int wide)), some (.val (ePn p)), o4, o5, some (.val (.list (Ls.map eL))), some (.val (eL Q0)), o8, some (.val (.int p.rows.length)), some (.val (.int width)), o11, o12, some (.own (.list [.bool true, .bool true, .bool (decide (one = other)), .bool (decide (one = other)), .bool (decide (one = other)), oI (unl p c a)])), o14, o15, o16, o17, some (.val (eL one)), some (.val (eL other)), some (.val (eP a)), some (.val (eP b)), some (.val (eP c)), some (.val (eP near)), some (.val (eP far)), o25, o26, none, none, none]) := by
  have h := H.ok.toOkP
  obtain ⟨a1, a2⟩ := T.ha
  obtain ⟨b1, b2⟩ := T.hb
  obtain ⟨c1, c2⟩ := T.hc
  obtain ⟨n1, n2⟩ := T.hn
  obtain ⟨f1, f2⟩ := T.hf
  have q1 : decide (keyT p a = keyT p c) = decide (one = other) := decide_eq_decide.mpr T.ac.symm
  have q2 : decide (keyT p c = keyT p b) = decide (one = other) := decide_eq_decide.mpr ⟨fun e => T.ac.mpr (T.ab.trans e.symm), fun e => (T.ac.mp e).symm.trans T.ab⟩
  have e1 := t_sameE h a1 b1 (by omega) (by omega) (decide_eq_true T.ab)
  have e2 := t_sameE h ((n1.app a1).app f1) ((n1.app b1).app f1) (by simp; omega) (by simp; omega) (decide_eq_true (mid_key h a1 b1 n1 f1 T.ab))
  have e3 := t_sameE h a1 c1 (by omega) (by omega) q1
  have e4 := t_sameE h c1 b1 (by omega) (by omega) q2
  have e5 := t_unlike h a1 c1 (by omega) (by omega)
  have e6 := t_unlike h c1 b1 (by omega) (by omega)
  rw [← unl_right T.ab] at e6
  have e7 : isNone (oI (unl p a c)) = decide (one = other) := by rw [isNone_oI, unl_isNone, q1]
  unfold d4
  refine es_setS (ev_lstE (ev_cons (ev_data (ev_callE (ev_cons (ev_N rfl) (ev_cons (ev_N rfl) (ev_cons (ev_N rfl) ev_nil))) rfl e1)) (ev_cons (ev_data (ev_callE (ev_cons (ev_N rfl) (ev_cons (add3 (by omega) (by omega) (by omega) rfl rfl rfl) (ev_cons (add3 (by omega) (by omega) (by omega) rfl rfl rfl) ev_nil))) rfl e2)) (ev_cons (ev_data (ev_callE (ev_cons (ev_N rfl) (ev_cons (ev_N rfl) (ev_cons (ev_N rfl) ev_nil))) rfl e3)) (ev_cons (ev_data (ev_callE (ev_cons (ev_N rfl) (ev_cons (ev_N rfl) (ev_cons (ev_N rfl) ev_nil))) rfl e4)) (ev_cons (ev_bin (ev_data (ev_callE (ev_cons (ev_N rfl) (ev_cons (ev_N rfl) (ev_cons (ev_N rfl) ev_nil))) rfl e5)) ev_K ?_) (ev_cons (ev_data (ev_callE (ev_cons (ev_N rfl) (ev_cons (ev_N rfl) (ev_cons (ev_N rfl) ev_nil))) rfl e6)) ev_nil)))))) (by simp)) rfl
  show some (PyData.bool (isNone (oI (unl p a c)))) = _
  rw [e7]
theorem t_d5 {o4 o5 o8 o11 o12 o14 o15 o16 o17 o25 o26 : Option PV} {sc : PyData} {u : List PyData} {p : Ef.Pn} {wide width : Nat} {Ls : List (List (List Int))} {Q0 : List (List Int)} (H : LC p wide width Ls Q0) {one other : List (List Int)} {a b c near far : List Int} (T : TT7 p wide one other a b c near far) : Es d5 [some (.val sc), some (.own (.list u)), some (.val (.int wide)), some (.val (ePn p)), o4, o5, some (.val (.list (Ls.map eL))), some (.val (eL Q0)), o8, some (.val (.int p.rows.length)), some (.val (.int width)), o11, o12, some (.own (.list [.bool true, .bool true, .bool (decide (one = other)), .bool (decide (one = other)), .bool (decide (one = other)), oI (unl p c a)])), o14, o15, o16, o17, some (.val (eL one)), some (.val (eL other)), some (.val (eP a)), some (.val (eP b)), some (.val (eP c)), some (.val (eP near)), some (.val (eP far)), o25, o26, none, none, none] (.nx [some (.val sc), some (.own (.list u)), some (.val (.int wide)), some (.val (ePn p)), o4, o5, some (.val (.list (Ls.map eL))), some (.val (eL Q0)), o8, some (.val (.int p.rows.length)), some (.val (.int width)), o11, o12, some (.own (.list [.bool true, .bool true, .bool (decide (one = other)), .bool (decide (one = other)), .bool (decide (one = other)), oI (unl p c a)])), some (.own (.list [.bool true, .bool true, .bool (decide (one = other)), .bool (decide (one = other)), .bool (decide (one = other)), oI (unl p c a)])), o15, o16, o17, some (.val (eL one)), some (.val (eL other)), some (.val (eP a)), some (.val (eP b)), some (.val (eP c)), some (.val (eP near)), some (.val (eP far)), o25, o26, none, none, none]) := by
  have h := H.ok.toOkP
  obtain ⟨a1, a2⟩ := T.ha
  obtain ⟨c1, c2⟩ := T.hc
  have e6 := t_unlike h c1 a1 (by omega) (by omega)
  unfold d5
  exact es_setS (ev_lstE (ev_cons ev_K (ev_cons ev_K (ev_cons (ev_binS (look_val rfl) (ev_N rfl) (look_val rfl) (tyP.dEqLL (by omega) rfl)) (ev_cons (ev_binS (look_val rfl) (ev_N rfl) (look_val rfl) (tyP.dEqLL (by omega) rfl)) (ev_cons (ev_binS (look_val rfl) (ev_N rfl) (look_val rfl) (tyP.dEqLL (by omega) rfl)) (ev_cons (ev_data (ev_callE (ev_cons (ev_N rfl) (ev_cons (ev_N rfl) (ev_cons (ev_N rfl) ev_nil))) rfl e6)) ev_nil)))))) (by simp)) rfl
theorem sz_oI (x : Option Nat) : sz (oI x) = true ∧ (oI x).depth ≤ 0 := by cases x <;> exact ⟨rfl, Nat.le_refl _⟩
theorem t_d6 {o4 o5 o8 o11 o12 o15 o16 o17 o25 o26 : Option PV} {sc : PyData} {u : List PyData} {p : Ef.Pn} {wide width : Nat} {Ls : List (List (List Int))} {Q0 : List (List Int)} {one other : List (List Int)} {a b c near far : List Int} : Es d6 [some (.val sc), some (.own (.list u)), some (.val (.int wide)), some (.val (ePn p)), o4, o5, some (.val (.list (Ls.map eL))), some (.val (eL Q0)), o8, some (.val (.int p.rows.length)), some (.val (.int width)), o11, o12, some (.own (.list [.bool true, .bool true, .bool (decide (one = other)), .bool (decide (one = other)), .bool (decide (one = other)), oI (unl p c a)])), some (.own (.list [.bool true, .bool true, .bool (decide (one = other)), .bool (decide (one = other)), .bool (decide (one = other)), oI (unl p c a)])), o15, o16, o17, some (.val (eL one)), some (.val (eL other)), some (.val (eP a)), some (.val (eP b)), some (.val (eP c)), some (.val (eP near)), some (.val (eP far)), o25, o26, none, none, none] (.nx [some (.val sc), some (.own (.list u)), some (.val (.int wide)), some (.val (ePn p)), o4, o5, some (.val (.list (Ls.map eL))), some (.val (eL Q0)), o8, some (.val (.int p.rows.length)), some (.val (.int width)), o11, o12, some (.val (.list [.bool true, .bool true, .bool (decide (one = other)), .bool (decide (one = other)), .bool (decide (one = other)), oI (unl p c a)])), some (.val (.list [.bool true, .bool true, .bool (decide (one = other)), .bool (decide (one = other)), .bool (decide (one = other)), oI (unl p c a)])), o15, o16, o17, some (.val (eL one)), some (.val (eL other)), some (.val (eP a)), some (.val (eP b)), some (.val (eP c)), some (.val (eP near)), some (.val (eP far)), o25, o26, none, none, none]) := by
  obtain ⟨z1, z2⟩ := sz_oI (unl p c a)
  have e := t_same (d := .list [.bool true, .bool true, .bool (decide (one = other)), .bool (decide (one = other)), .bool (decide (one = other)), oI (unl p c a)]) (e := .list [.bool true, .bool true, .bool (decide (one = other)), .bool (decide (one = other)), .bool (decide (one = other)), oI (unl p c a)]) (by simp [sz, szAll, z1]) (by simp only [PyData.depth, PyData.depthAll]; omega) rfl
  unfold d6
  exact es_ifF (ev_notE (k := true) (ev_test (ev_data (ev_callE (ev_cons (ev_NoS rfl rfl) (ev_cons (ev_NoS rfl rfl) ev_nil)) rfl e))) rfl) es_skip
theorem t_d7 {o4 o5 o8 o11 o12 o13 o14 o15 o16 o17 o18 o19 o20 o21 o22 o23 o24 o25 o26 : Option PV} {sc : PyData} {u : List PyData} {p : Ef.Pn} {wide width : Nat} {Ls : List (List (List Int))} {Q0 : List (List Int)} (H : LC p wide width Ls Q0) {N : Nat} (hu : Urn N u) (hN : N < 2 ^ 40) : ∃ qu ∈ Q0, ∃ u', Urn (N + 1) u' ∧ Es d7 [some (.val sc), some (.own (.list u)), some (.val (.int wide)), some (.val (ePn p)), o4, o5, some (.val (.list (Ls.map eL))), some (.val (eL Q0)), o8, some (.val (.int p.rows.length)), some (.val (.int width)), o11, o12, o13, o14, o15, o16, o17, o18, o19, o20, o21, o22, o23, o24, o25, o26, none, none, none] (.nx [some (.val sc), some (.own (.list u')), some (.val (.int wide)), some (.val (ePn p)), o4, o5, some (.val (.list (Ls.map eL))), some (.val (eL Q0)), o8, some (.val (.int p.rows.length)), some (.val (.int width)), o11, o12, o13, o14, some (.val (eP qu)), o16, o17, o18, o19, o20, o21, o22, o23, o24, o25, o26, none, none, none]) := by
  obtain ⟨qu, m, u1, e1, hu1⟩ := t_law_of (en := eP) (l := Q0) (d := eL Q0) hu (by omega) H.q.1 (by have := H.q.2.1; omega) (.inl rfl)
  refine ⟨qu, m, u1, hu1, ?_⟩
  unfold d7
  exact es_setS (ev_callUE rfl (ev_cons (ev_N rfl) ev_nil) rfl rfl e1 rfl) rfl
theorem t_d8 {o4 o5 o8 o11 o12 o13 o14 o16 o17 o25 o26 : Option PV} {sc : PyData} {u : List PyData} {p : Ef.Pn} {wide width : Nat} {Ls : List (List (List Int))} {Q0 : List (List Int)} (H : LC p wide width Ls Q0) {one other : List (List Int)} {a b c near far : List Int} (T : TT7 p wide one other a b c near far) {qu : List Int} (mq : qu ∈ Q0) : Es d8 [some (.val sc), some (.own (.list u)), some (.val (.int wide)), some (.val (ePn p)), o4, o5, some (.val (.list (Ls.map eL))), some (.val (eL Q0)), o8, some (.val (.int p.rows.length)), some (.val (.int width)), o11, o12, o13, o14, some (.val (eP qu)), o16, o17, some (.val (eL one)), some (.val (eL other)), some (.val (eP a)), some (.val (eP b)), some (.val (eP c)), some (.val (eP near)), some (.val (eP far)), o25, o26, none, none, none] (.nx [some (.val sc), some (.own (.list u)), some (.val (.int wide)), some (.val (ePn p)), o4, o5, some (.val (.list (Ls.map eL))), some (.val (eL Q0)), o8, some (.val (.int p.rows.length)), some (.val (.int width)), o11, o12, o13, o14, some (.val (eP qu)), o16, o17, some (.val (eL one)), some (.val (eL other)), some (.val (eP a)), some (.val (eP b)), some (.val (eP c)), some (.val (eP near)), some (.val (eP far)), o25, o26, none, none, none]) := by
  have h := H.ok.toOkP
  obtain ⟨n1, n2⟩ := T.hn
  obtain ⟨f1, f2⟩ := T.hf
  obtain ⟨⟨q1, q2⟩, q3⟩ := H.q.2.2 qu mq
  have k := mid_key h q1 (tx_nil wide) n1 f1 q3
  rw [List.append_nil] at k
  have e2 := t_sameE h ((n1.app q1).app f1) (n1.app f1) (by simp; omega) (by simp; omega) (decide_eq_true k)
  unfold d8
  exact es_ifF (ev_test (ev_bin (ev_data (ev_callE (ev_cons (ev_N rfl) (ev_cons (add3 (by omega) (by omega) (by omega) rfl rfl rfl) (ev_cons (ev_bin (ev_N rfl) (ev_N rfl) (dAdd_P (by omega))) ev_nil))) rfl e2)) ev_K rfl)) es_skip
theorem ok_begun {p : Ef.Pn} {wide width : Nat} (h : OkT p wide width) {s : Int} {sh : List (List Int)} (h0 : 0 ≤ s) (h1 : s < p.rows.length) (hl : sh.length = width) (hs : ∀ x ∈ sh, Vp x ∧ x.length ≤ 10) : OkP (⟨s, sh, p.rows, p.ends⟩ : Ef.Pn) wide := by
  have hw : p.sh.length = width := by rw [h.wd]; simp
  refine ⟨h.w, h.n, ⟨h0, h1⟩, ⟨by show 1 ≤ sh.length; have := h.w2; omega, by show sh.length ≤ 20; have := h.w2; omega⟩, hs, ?_, h.en, ?_⟩
  · intro r hr
    have := h.row r hr
    rw [hw] at this
    show _ ∧ ∀ x ∈ r, _ ∧ x.2.length = sh.length ∧ ∀ m ∈ x.2, OkM sh.length m
    rw [hl]
    exact this
  · intro l hl2
    have := h.ends l hl2
    rw [hw] at this
    show _ ∧ (∀ m ∈ l, OkM sh.length m) ∧ _
    rw [hl]
    exact this
theorem t_e1 {o4 o5 o8 o11 o12 o13 o14 o15 o17 o18 o19 o20 o21 o22 o23 o24 o25 o26 : Option PV} {sc : PyData} {u : List PyData} {p : Ef.Pn} {wide width : Nat} {Ls : List (List (List Int))} {Q0 : List (List Int)} (H : LC p wide width Ls Q0) {s : Int} {N : Nat} (hu : Urn N u) (hN : N < 2 ^ 40) : ∃ sh u', (sh.length = width ∧ ∀ x ∈ sh, Vp x ∧ x.length ≤ 10) ∧ Urn (N + width * 3) u' ∧ Es e1 [some (.val sc), some (.own (.list u)), some (.val (.int wide)), some (.val (ePn p)), o4, o5, some (.val (.list (Ls.map eL))), some (.val (eL Q0)), o8, some (.val (.int p.rows.length)), some (.val (.int width)), o11, o12, o13, o14, o15, some (.val (.int s)), o17, o18, o19, o20, o21, o22, o23, o24, o25, o26, none, none, none] (.nx [some (.val sc), some (.own (.list u')), some (.val (.int wide)), some (.val (ePn p)), o4, o5, some (.val (.list (Ls.map eL))), some (.val (eL Q0)), o8, some (.val (.int p.rows.length)), some (.val (.int width)), o11, o12, o13, o14, o15, some (.val (.int s)), o17, o18, o19, o20, o21, o22, o23, o24, some (.val (ePn (⟨s, sh, p.rows, p.ends⟩ : Ef.Pn))), o26, none, none, none]) := by
  have hw := H.ok.w2
  obtain ⟨sh, u', g1, g2, g3, g4⟩ := comp_draw (en := eP) (P := fun x => Vp x ∧ x.length ≤ 10) (u := uN 29) (fe := fun ps => ((fCallU 1 1 M__law_piece (fCons (fK (.int 2)) (fun ps => .ok [] ps))) ps).map PV.data) (vs := [29]) (st := fun u => [some (.val sc), some (.own (.list u)), some (.val (.int wide)), some (.val (ePn p)), o4, o5, some (.val (.list (Ls.map eL))), some (.val (eL Q0)), o8, some (.val (.int p.rows.length)), some (.val (.int width)), o11, o12, o13, o14, o15, some (.val (.int s)), o17, o18, o19, o20, o21, o22, o23, o24, o25, o26, none, none, none]) (2 ^ 41) 3
    (fun d urn N hu hN => by
      obtain ⟨x, v, k1, k2, k3⟩ := t_piece (m := 2) hu (by omega) (by omega)
      exact ⟨x, v, _, _, ⟨k2.1, by have := k2.2; omega⟩, k3, et_N, ev_data (ev_callUE rfl (ev_cons ev_K ev_nil) rfl rfl k1 rfl), rfl⟩) (rangeD 0 width) [] u N hu (by rw [rangeD_len]; omega) (by rw [rangeD_len]; simp; omega)
  rw [rangeD_len] at g2 g4
  refine ⟨sh, u', ⟨g2, g3⟩, g4, ?_⟩
  unfold e1
  exact es_setS (ev_val (ev_tupE (ev_cons (ev_tupE (ev_cons (ev_N rfl) (ev_cons (ev_app (ev_cons (ev_dataE (ev_lcS (ev_range1 (k := (width : Int)) (ev_cons (ev_N rfl) ev_nil) (by omega)) rfl g1 rfl) rfl) ev_nil) dTuple_l) ev_nil)) (by simp)) (ev_cons (ev_ixS (look_val rfl) ev_K (look_val rfl) (dIx_t (n := 1) rfl)) (ev_cons (ev_ixS (look_val rfl) ev_K (look_val rfl) (dIx_t (n := 2) rfl)) ev_nil))) (by simp))) rfl
theorem t_e2 {o4 o5 o8 o11 o12 o13 o14 o17 o26 : Option PV} {sc : PyData} {u : List PyData} {p : Ef.Pn} {wide width : Nat} {Ls : List (List (List Int))} {Q0 : List (List Int)} (H : LC p wide width Ls Q0) {one other : List (List Int)} {a b c near far : List Int} (T : TT7 p wide one other a b c near far) {qu : List Int} (mq : qu ∈ Q0) {s : Int} {sh : List (List Int)} (h0 : 0 ≤ s) (h1 : s < p.rows.length) (hl : sh.length = width) (hs : ∀ x ∈ sh, Vp x ∧ x.length ≤ 10) : Es e2 [some (.val sc), some (.own (.list u)), some (.val (.int wide)), some (.val (ePn p)), o4, o5, some (.val (.list (Ls.map eL))), some (.val (eL Q0)), o8, some (.val (.int p.rows.length)), some (.val (.int width)), o11, o12, o13, o14, some (.val (eP qu)), some (.val (.int s)), o17, some (.val (eL one)), some (.val (eL other)), some (.val (eP a)), some (.val (eP b)), some (.val (eP c)), some (.val (eP near)), some (.val (eP far)), some (.val (ePn (⟨s, sh, p.rows, p.ends⟩ : Ef.Pn))), o26, none, none, none] (.nx [some (.val sc), some (.own (.list u)), some (.val (.int wide)), some (.val (ePn p)), o4, o5, some (.val (.list (Ls.map eL))), some (.val (eL Q0)), o8, some (.val (.int p.rows.length)), some (.val (.int width)), o11, o12, o13, o14, some (.val (eP qu)), some (.val (.int s)), o17, some (.val (eL one)), some (.val (eL other)), some (.val (eP a)), some (.val (eP b)), some (.val (eP c)), some (.val (eP near)), some (.val (eP far)), some (.val (ePn (⟨s, sh, p.rows, p.ends⟩ : Ef.Pn))), some (.own (.list [eQ (resF (⟨s, sh, p.rows, p.ends⟩ : Ef.Pn) (near ++ a ++ far)), eQ (resF (⟨s, sh, p.rows, p.ends⟩ : Ef.Pn) (near ++ a ++ far)), eQ (resF (⟨s, sh, p.rows, p.ends⟩ : Ef.Pn) (near ++ a ++ far))])), none, none, none]) := by
  have h := H.ok.toOkP
  have hb := ok_begun H.ok h0 h1 hl hs
  have hw : p.sh.length = width := by rw [H.ok.wd]; simp
  obtain ⟨a1, a2⟩ := T.ha
  obtain ⟨b1, b2⟩ := T.hb
  obtain ⟨n1, n2⟩ := T.hn
  obtain ⟨f1, f2⟩ := T.hf
  obtain ⟨⟨q1, q2⟩, q3⟩ := H.q.2.2 qu mq
  have cong : ∀ t t', Ef.Tx wide t → Ef.Tx wide t' → keyT p t = keyT p t' → resF (⟨s, sh, p.rows, p.ends⟩ : Ef.Pn) t = resF (⟨s, sh, p.rows, p.ends⟩ : Ef.Pn) t' := fun t t' ht ht' e => by
    refine res_congr hb ht ht' ?_
    have es := fun t => eff_same (p := p) (b := (⟨s, sh, p.rows, p.ends⟩ : Ef.Pn)) rfl (by show sh.length = _; omega) s t
    exact (es t).trans ((key_eff.mp e s h0 h1).trans (es t').symm)
  have r2 : resF (⟨s, sh, p.rows, p.ends⟩ : Ef.Pn) (near ++ b ++ far) = resF (⟨s, sh, p.rows, p.ends⟩ : Ef.Pn) (near ++ a ++ far) := cong _ _ ((n1.app b1).app f1) ((n1.app a1).app f1) (mid_key h a1 b1 n1 f1 T.ab).symm
  have k1 := mid_key h q1 (tx_nil wide) n1 ((a1.app q1).app f1) q3
  have k2 := mid_key h q1 (tx_nil wide) (n1.app a1) f1 q3
  simp only [List.append_nil, List.append_assoc] at k1 k2
  have r3 : resF (⟨s, sh, p.rows, p.ends⟩ : Ef.Pn) (near ++ qu ++ a ++ qu ++ far) = resF (⟨s, sh, p.rows, p.ends⟩ : Ef.Pn) (near ++ a ++ far) := by
    refine cong _ _ ((((n1.app q1).app a1).app q1).app f1) ((n1.app a1).app f1) ?_
    simp only [List.append_assoc]
    exact k1.trans k2
  unfold e2
  refine es_setS (ev_lcS (es := [eQ (resF (⟨s, sh, p.rows, p.ends⟩ : Ef.Pn) (near ++ a ++ far)), eQ (resF (⟨s, sh, p.rows, p.ends⟩ : Ef.Pn) (near ++ a ++ far)), eQ (resF (⟨s, sh, p.rows, p.ends⟩ : Ef.Pn) (near ++ a ++ far))]) (ds := [near ++ a ++ far, near ++ b ++ far, near ++ qu ++ a ++ qu ++ far].map eP) (ev_seqI (ev_tupE (ev_cons (add3 (by omega) (by omega) (by omega) rfl rfl rfl) (ev_cons (add3 (by omega) (by omega) (by omega) rfl rfl rfl) (ev_cons (ev_bin (ev_bin (add3 (by omega) (by omega) (by omega) rfl rfl rfl) (ev_N rfl) (dAdd_P (by simp; omega))) (ev_N rfl) (dAdd_P (by simp; omega))) ev_nil))) (by simp)) rfl) rfl (?_ : compL _ _ _ _ _ _ _ = .ok _ [some (.val sc), some (.own (.list u)), some (.val (.int wide)), some (.val (ePn p)), o4, o5, some (.val (.list (Ls.map eL))), some (.val (eL Q0)), o8, some (.val (.int p.rows.length)), some (.val (.int width)), o11, o12, o13, o14, some (.val (eP qu)), some (.val (.int s)), o17, some (.val (eL one)), some (.val (eL other)), some (.val (eP a)), some (.val (eP b)), some (.val (eP c)), some (.val (eP near)), some (.val (eP far)), some (.val (ePn (⟨s, sh, p.rows, p.ends⟩ : Ef.Pn))), o26, none, none, none]) rfl) rfl
  have key := compL_each (u := uN 28) (fe := fun ps => ((fCall 2 M_pens_results (fCons (fN 25) (fCons (fN 28) (fun ps => .ok [] ps)))) ps).map PV.data) (vs := [28]) (ps := [some (.val sc), some (.own (.list u)), some (.val (.int wide)), some (.val (ePn p)), o4, o5, some (.val (.list (Ls.map eL))), some (.val (eL Q0)), o8, some (.val (.int p.rows.length)), some (.val (.int width)), o11, o12, o13, o14, some (.val (eP qu)), some (.val (.int s)), o17, some (.val (eL one)), some (.val (eL other)), some (.val (eP a)), some (.val (eP b)), some (.val (eP c)), some (.val (eP near)), some (.val (eP far)), some (.val (ePn (⟨s, sh, p.rows, p.ends⟩ : Ef.Pn))), o26, none, none, none]) (en := eP) (en' := eQ) (fun t => resF (⟨s, sh, p.rows, p.ends⟩ : Ef.Pn) t) [near ++ a ++ far, near ++ b ++ far, near ++ qu ++ a ++ qu ++ far] (by simp) fun t mt => by
    have ht : Ef.Tx wide t ∧ t.length ≤ 1000 := by
      simp only [List.mem_cons, List.not_mem_nil, or_false] at mt
      rcases mt with e | e | e <;> subst e
      · exact ⟨(n1.app a1).app f1, by simp; omega⟩
      · exact ⟨(n1.app b1).app f1, by simp; omega⟩
      · exact ⟨(((n1.app q1).app a1).app q1).app f1, by simp; omega⟩
    exact ⟨_, et_N, _, ev_data (ev_callE (ev_cons (ev_N rfl) (ev_cons (ev_N rfl) ev_nil)) rfl (t_pens_results hb ht.1 ht.2)), rfl⟩
  simp only [List.map_cons, List.map_nil, r2, r3] at key
  exact key
theorem t_e3 {o4 o5 o8 o11 o12 o13 o14 o17 : Option PV} {sc : PyData} {u : List PyData} {p : Ef.Pn} {wide width : Nat} {Ls : List (List (List Int))} {Q0 : List (List Int)} (H : LC p wide width Ls Q0) {one other : List (List Int)} {a b c near far : List Int} (T : TT7 p wide one other a b c near far) {qu : List Int} {s : Int} {sh : List (List Int)} (h0 : 0 ≤ s) (h1 : s < p.rows.length) (hl : sh.length = width) (hs : ∀ x ∈ sh, Vp x ∧ x.length ≤ 10) : ∃ o26', Es e3 [some (.val sc), some (.own (.list u)), some (.val (.int wide)), some (.val (ePn p)), o4, o5, some (.val (.list (Ls.map eL))), some (.val (eL Q0)), o8, some (.val (.int p.rows.length)), some (.val (.int width)), o11, o12, o13, o14, some (.val (eP qu)), some (.val (.int s)), o17, some (.val (eL one)), some (.val (eL other)), some (.val (eP a)), some (.val (eP b)), some (.val (eP c)), some (.val (eP near)), some (.val (eP far)), some (.val (ePn (⟨s, sh, p.rows, p.ends⟩ : Ef.Pn))), some (.own (.list [eQ (resF (⟨s, sh, p.rows, p.ends⟩ : Ef.Pn) (near ++ a ++ far)), eQ (resF (⟨s, sh, p.rows, p.ends⟩ : Ef.Pn) (near ++ a ++ far)), eQ (resF (⟨s, sh, p.rows, p.ends⟩ : Ef.Pn) (near ++ a ++ far))])), none, none, none] (.nx [some (.val sc), some (.own (.list u)), some (.val (.int wide)), some (.val (ePn p)), o4, o5, some (.val (.list (Ls.map eL))), some (.val (eL Q0)), o8, some (.val (.int p.rows.length)), some (.val (.int width)), o11, o12, o13, o14, some (.val (eP qu)), some (.val (.int s)), o17, some (.val (eL one)), some (.val (eL other)), some (.val (eP a)), some (.val (eP b)), some (.val (eP c)), some (.val (eP near)), some (.val (eP far)), some (.val (ePn (⟨s, sh, p.rows, p.ends⟩ : Ef.Pn))), o26', none, none, none]) := by
  have hb := ok_begun H.ok h0 h1 hl hs
  obtain ⟨a1, a2⟩ := T.ha
  obtain ⟨n1, n2⟩ := T.hn
  obtain ⟨f1, f2⟩ := T.hf
  have e := t_law_pen_results hb ((n1.app a1).app f1) (by simp; omega)
  refine ⟨some (.own (.list [eQ (resF (⟨s, sh, p.rows, p.ends⟩ : Ef.Pn) (near ++ a ++ far)), eQ (resF (⟨s, sh, p.rows, p.ends⟩ : Ef.Pn) (near ++ a ++ far)), eQ (resF (⟨s, sh, p.rows, p.ends⟩ : Ef.Pn) (near ++ a ++ far))])), ?_⟩
  unfold e3
  refine es_ifF (ev_test (ev_binS (look_own rfl) (ev_dataE (ev_rep (ev_lstE (ev_cons (ev_data (ev_callE (ev_cons (ev_N rfl) (ev_cons (add3 (by omega) (by omega) (by omega) rfl rfl rfl) ev_nil)) rfl e)) ev_nil) (by simp)) ev_K (by simp)) rfl) (look_own rfl) ?_)) es_skip
  exact tyQ.dNeLL (l := [resF (⟨s, sh, p.rows, p.ends⟩ : Ef.Pn) (near ++ a ++ far), resF (⟨s, sh, p.rows, p.ends⟩ : Ef.Pn) (near ++ a ++ far), resF (⟨s, sh, p.rows, p.ends⟩ : Ef.Pn) (near ++ a ++ far)]) (m := [resF (⟨s, sh, p.rows, p.ends⟩ : Ef.Pn) (near ++ a ++ far), resF (⟨s, sh, p.rows, p.ends⟩ : Ef.Pn) (near ++ a ++ far), resF (⟨s, sh, p.rows, p.ends⟩ : Ef.Pn) (near ++ a ++ far)]) (by omega) (by simp)
theorem t_loopS {o4 o5 o8 o11 o12 o13 o14 o16 o17 o25 o26 : Option PV} {sc : PyData} {u : List PyData} {p : Ef.Pn} {wide width : Nat} {Ls : List (List (List Int))} {Q0 : List (List Int)} (H : LC p wide width Ls Q0) {one other : List (List Int)} {a b c near far : List Int} (T : TT7 p wide one other a b c near far) {qu : List Int} (mq : qu ∈ Q0) : ∀ (n : Nat) (i : Nat) {o16 o25 o26 : Option PV} {u : List PyData} {N : Nat}, Urn N u → N + 6 * n < 2 ^ 40 → i + n = p.rows.length →
    ∃ u' o16' o25' o26', Urn (N + 6 * n) u' ∧ forL (uN 16) (fSeq e1 (fSeq e2 e3)) ((List.range' i n).map fun (k : Nat) => PyData.int (k : Int)) [some (.val sc), some (.own (.list u)), some (.val (.int wide)), some (.val (ePn p)), o4, o5, some (.val (.list (Ls.map eL))), some (.val (eL Q0)), o8, some (.val (.int p.rows.length)), some (.val (.int width)), o11, o12, o13, o14, some (.val (eP qu)), o16, o17, some (.val (eL one)), some (.val (eL other)), some (.val (eP a)), some (.val (eP b)), some (.val (eP c)), some (.val (eP near)), some (.val (eP far)), o25, o26, none, none, none] = .nx [some (.val sc), some (.own (.list u')), some (.val (.int wide)), some (.val (ePn p)), o4, o5, some (.val (.list (Ls.map eL))), some (.val (eL Q0)), o8, some (.val (.int p.rows.length)), some (.val (.int width)), o11, o12, o13, o14, some (.val (eP qu)), o16', o17, some (.val (eL one)), some (.val (eL other)), some (.val (eP a)), some (.val (eP b)), some (.val (eP c)), some (.val (eP near)), some (.val (eP far)), o25', o26', none, none, none] := by
  have hw := H.ok.w2
  intro n
  induction n with
  | zero => intro i o16 o25 o26 u N hu _ _; exact ⟨u, o16, o25, o26, hu, rfl⟩
  | succ n ih =>
    intro i o16 o25 o26 u N hu hN hi
    obtain ⟨sh, u1, ⟨hl, hs⟩, hu1, E1⟩ := t_e1 (o4 := o4) (o5 := o5) (o8 := o8) (o11 := o11) (o12 := o12) (o13 := o13) (o14 := o14) (o15 := some (.val (eP qu))) (o17 := o17) (o18 := some (.val (eL one))) (o19 := some (.val (eL other))) (o20 := some (.val (eP a))) (o21 := some (.val (eP b))) (o22 := some (.val (eP c))) (o23 := some (.val (eP near))) (o24 := some (.val (eP far))) (o25 := o25) (o26 := o26) (sc := sc) (s := (i : Int)) H hu (by omega)
    have E2 := t_e2 (o4 := o4) (o5 := o5) (o8 := o8) (o11 := o11) (o12 := o12) (o13 := o13) (o14 := o14) (o17 := o17) (o26 := o26) (sc := sc) (u := u1) (s := (i : Int)) H T mq (by omega) (by omega) hl hs
    obtain ⟨q26, E3⟩ := t_e3 (o4 := o4) (o5 := o5) (o8 := o8) (o11 := o11) (o12 := o12) (o13 := o13) (o14 := o14) (o17 := o17) (sc := sc) (u := u1) (qu := qu) (s := (i : Int)) H T (by omega) (by omega) hl hs
    obtain ⟨u2, p16, p25, p26, hu2, E4⟩ := ih (i + 1) (o16 := some (.val (.int i))) (o25 := some (.val (ePn (⟨(i : Int), sh, p.rows, p.ends⟩ : Ef.Pn)))) (o26 := q26) (hu1.le (by omega : N + width * 3 ≤ N + 6)) (by omega) (by omega)
    refine ⟨u2, p16, p25, p26, hu2.le (by omega), ?_⟩
    rw [List.range'_succ, List.map_cons]
    exact forL_cons (et_NS rfl) (es_seq E1 (es_seq E2 E3)) E4
theorem range_ints' (n : Nat) : rangeD 0 ((n : Nat) : Int).toNat = (List.range' 0 n).map fun k => PyData.int ((k : Nat) : Int) := by
  rw [range_ints, List.range_eq_range']
theorem t_d9 {o4 o5 o8 o11 o12 o13 o14 o16 o17 o25 o26 : Option PV} {sc : PyData} {u : List PyData} {p : Ef.Pn} {wide width : Nat} {Ls : List (List (List Int))} {Q0 : List (List Int)} (H : LC p wide width Ls Q0) {one other : List (List Int)} {a b c near far : List Int} (T : TT7 p wide one other a b c near far) {qu : List Int} (mq : qu ∈ Q0) {N : Nat} (hu : Urn N u) (hN : N < 2 ^ 39) : ∃ u' o16' o25' o26', Urn (N + 18) u' ∧ Es d9 [some (.val sc), some (.own (.list u)), some (.val (.int wide)), some (.val (ePn p)), o4, o5, some (.val (.list (Ls.map eL))), some (.val (eL Q0)), o8, some (.val (.int p.rows.length)), some (.val (.int width)), o11, o12, o13, o14, some (.val (eP qu)), o16, o17, some (.val (eL one)), some (.val (eL other)), some (.val (eP a)), some (.val (eP b)), some (.val (eP c)), some (.val (eP near)), some (.val (eP far)), o25, o26, none, none, none] (.nx [some (.val sc), some (.own (.list u')), some (.val (.int wide)), some (.val (ePn p)), o4, o5, some (.val (.list (Ls.map eL))), some (.val (eL Q0)), o8, some (.val (.int p.rows.length)), some (.val (.int width)), o11, o12, o13, o14, some (.val (eP qu)), o16', o17, some (.val (eL one)), some (.val (eL other)), some (.val (eP a)), some (.val (eP b)), some (.val (eP c)), some (.val (eP near)), some (.val (eP far)), o25', o26', none, none, none]) := by
  have hn := H.ok.n3
  obtain ⟨u', o16', o25', o26', hu', e⟩ := t_loopS (o4 := o4) (o5 := o5) (o8 := o8) (o11 := o11) (o12 := o12) (o13 := o13) (o14 := o14) (o17 := o17) (sc := sc) (u := []) (o16 := none) (o25 := none) (o26 := none) H T mq p.rows.length 0 hu (by omega) (by omega)
  refine ⟨u', o16', o25', o26', hu'.le (by omega), ?_⟩
  unfold d9
  rw [← range_ints'] at e
  exact es_for (ev_range1 (k := (p.rows.length : Int)) (ev_cons (ev_N rfl) ev_nil) (by omega)) e
theorem t_d10 {o4 o5 o8 o11 o12 o13 o14 o15 o16 o17 o25 o26 : Option PV} {sc : PyData} {u : List PyData} {p : Ef.Pn} {wide width : Nat} {Ls : List (List (List Int))} {Q0 : List (List Int)} (H : LC p wide width Ls Q0) {one other : List (List Int)} {a b c near far : List Int} (T : TT7 p wide one other a b c near far) : Es d10 [some (.val sc), some (.own (.list u)), some (.val (.int wide)), some (.val (ePn p)), o4, o5, some (.val (.list (Ls.map eL))), some (.val (eL Q0)), o8, some (.val (.int p.rows.length)), some (.val (.int width)), o11, o12, o13, o14, o15, o16, o17, some (.val (eL one)), some (.val (eL other)), some (.val (eP a)), some (.val (eP b)), some (.val (eP c)), some (.val (eP near)), some (.val (eP far)), o25, o26, none, none, none] (.nx [some (.val sc), some (.own (.list u)), some (.val (.int wide)), some (.val (ePn p)), o4, o5, some (.val (.list (Ls.map eL))), some (.val (eL Q0)), o8, some (.val (.int p.rows.length)), some (.val (.int width)), o11, o12, o13, o14, o15, o16, some (.val (oI (unl p a c))), some (.val (eL one)), some (.val (eL other)), some (.val (eP a)), some (.val (eP b)), some (.val (eP c)), some (.val (eP near)), some (.val (eP far)), o25, o26, none, none, none]) := by
  obtain ⟨a1, a2⟩ := T.ha
  obtain ⟨c1, c2⟩ := T.hc
  unfold d10
  exact es_setS (ev_callE (ev_cons (ev_N rfl) (ev_cons (ev_N rfl) (ev_cons (ev_N rfl) ev_nil))) rfl (t_unlike H.ok.toOkP a1 c1 (by omega) (by omega))) rfl
theorem t_d11 {o4 o5 o8 o11 o12 o13 o14 o15 o16 o25 o26 : Option PV} {sc : PyData} {u : List PyData} {p : Ef.Pn} {wide width : Nat} {Ls : List (List (List Int))} {Q0 : List (List Int)} (H : LC p wide width Ls Q0) {one other : List (List Int)} {a b c near far : List Int} (T : TT7 p wide one other a b c near far) : Es d11 [some (.val sc), some (.own (.list u)), some (.val (.int wide)), some (.val (ePn p)), o4, o5, some (.val (.list (Ls.map eL))), some (.val (eL Q0)), o8, some (.val (.int p.rows.length)), some (.val (.int width)), o11, o12, o13, o14, o15, o16, some (.val (oI (unl p a c))), some (.val (eL one)), some (.val (eL other)), some (.val (eP a)), some (.val (eP b)), some (.val (eP c)), some (.val (eP near)), some (.val (eP far)), o25, o26, none, none, none] (.nx [some (.val sc), some (.own (.list u)), some (.val (.int wide)), some (.val (ePn p)), o4, o5, some (.val (.list (Ls.map eL))), some (.val (eL Q0)), o8, some (.val (.int p.rows.length)), some (.val (.int width)), o11, o12, o13, o14, o15, o16, some (.val (oI (unl p a c))), some (.val (eL one)), some (.val (eL other)), some (.val (eP a)), some (.val (eP b)), some (.val (eP c)), some (.val (eP near)), some (.val (eP far)), o25, o26, none, none, none]) := by
  obtain ⟨a1, a2⟩ := T.ha
  obtain ⟨c1, c2⟩ := T.hc
  unfold d11
  cases q : unl p a c with
  | none => exact es_ifF (ev_to (ev_and (k := false) (l := false) (ev_test (ev_binS (look_val rfl) ev_K (look_val rfl) rfl)) (fun e => by cases e) (fun _ => rfl)) rfl rfl) es_skip
  | some s =>
    obtain ⟨s1, s2⟩ := unl_some q
    refine es_ifF (ev_to (ev_andP (k := true) (l := false) (ev_test (ev_binS (look_val rfl) ev_K (look_val rfl) rfl)) (ev_test (ev_bin (ev_data (ev_callE (ev_cons (ev_N rfl) (ev_cons (ev_N rfl) (ev_cons (ev_N rfl) ev_nil))) rfl (t_effect H.ok.toOkP a1 (by omega) (by omega) (by omega)))) (ev_data (ev_callE (ev_cons (ev_N rfl) (ev_cons (ev_N rfl) (ev_cons (ev_N rfl) ev_nil))) rfl (t_effect H.ok.toOkP c1 (by omega) (by omega) (by omega)))) (tyEf.dEq (by omega) (decide_eq_false s2))))) rfl rfl) es_skip
end TT

namespace TT
open PySem PySem.Spec L2 GL GT
open PyProof.Rows hiding St
theorem t_lap {o4 o5 o8 o11 o12 o13 o14 o15 o16 o17 o18 o19 o20 o21 o22 o23 o24 o25 o26 : Option PV} {sc : PyData} {u : List PyData} {p : Ef.Pn} {wide width : Nat} {Ls : List (List (List Int))} {Q0 : List (List Int)} (H : LC p wide width Ls Q0) (hw : wide ≤ 2) {N : Nat} (hu : Urn N u) (hN : N < 2 ^ 38) : ∃ u' o13' o14' o15' o16' o17' o18' o19' o20' o21' o22' o23' o24' o25' o26', Urn (N + 40) u' ∧ Es dA [some (.val sc), some (.own (.list u)), some (.val (.int wide)), some (.val (ePn p)), o4, o5, some (.val (.list (Ls.map eL))), some (.val (eL Q0)), o8, some (.val (.int p.rows.length)), some (.val (.int width)), o11, o12, o13, o14, o15, o16, o17, o18, o19, o20, o21, o22, o23, o24, o25, o26, none, none, none] (.nx [some (.val sc), some (.own (.list u')), some (.val (.int wide)), some (.val (ePn p)), o4, o5, some (.val (.list (Ls.map eL))), some (.val (eL Q0)), o8, some (.val (.int p.rows.length)), some (.val (.int width)), o11, o12, o13', o14', o15', o16', o17', o18', o19', o20', o21', o22', o23', o24', o25', o26', none, none, none]) := by
  obtain ⟨one, m1, other, m2, u1, hu1, D1⟩ := t_d1 (o4 := o4) (o5 := o5) (o8 := o8) (o11 := o11) (o12 := o12) (o13 := o13) (o14 := o14) (o15 := o15) (o17 := o17) (o18 := o18) (o19 := o19) (o20 := o20) (o21 := o21) (o22 := o22) (o23 := o23) (o24 := o24) (o25 := o25) (o26 := o26) (sc := sc) (o16 := o16) H hu (by omega)
  obtain ⟨a, ma, b, mb, c, mc, u2, hu2, D2⟩ := t_d2 (o4 := o4) (o5 := o5) (o8 := o8) (o11 := o11) (o12 := o12) (o13 := o13) (o14 := o14) (o15 := o15) (o16 := o16) (o17 := o17) (o20 := o20) (o21 := o21) (o22 := o22) (o23 := o23) (o24 := o24) (o25 := o25) (o26 := o26) (sc := sc) H m1 m2 hu1 (by omega)
  obtain ⟨near, far, hn, hf, u3, hu3, D3⟩ := t_d3 (o4 := o4) (o5 := o5) (o8 := o8) (o11 := o11) (o12 := o12) (o13 := o13) (o14 := o14) (o15 := o15) (o17 := o17) (o18 := some (.val (eL one))) (o19 := some (.val (eL other))) (o20 := some (.val (eP a))) (o21 := some (.val (eP b))) (o22 := some (.val (eP c))) (o23 := o23) (o24 := o24) (o25 := o25) (o26 := o26) (sc := sc) (o16 := o16) H hw hu2 (by omega)
  have T : TT7 p wide one other a b c near far := ⟨(H.lot one m1).2.2 a ma, (H.lot one m1).2.2 b mb, (H.lot other m2).2.2 c mc, hn, hf, (H.key one m1 one m1 a ma b mb).mp rfl, H.key one m1 other m2 a ma c mc⟩
  obtain ⟨qu, mq, u4, hu4, D7⟩ := t_d7 (o4 := o4) (o5 := o5) (o8 := o8) (o11 := o11) (o12 := o12) (o13 := some (.val (.list [.bool true, .bool true, .bool (decide (one = other)), .bool (decide (one = other)), .bool (decide (one = other)), oI (unl p c a)]))) (o14 := some (.val (.list [.bool true, .bool true, .bool (decide (one = other)), .bool (decide (one = other)), .bool (decide (one = other)), oI (unl p c a)]))) (o15 := o15) (o17 := o17) (o18 := some (.val (eL one))) (o19 := some (.val (eL other))) (o20 := some (.val (eP a))) (o21 := some (.val (eP b))) (o22 := some (.val (eP c))) (o23 := some (.val (eP near))) (o24 := some (.val (eP far))) (o25 := o25) (o26 := o26) (sc := sc) (o16 := o16) H hu3 (by omega)
  obtain ⟨u5, p16, p25, p26, hu5, D9⟩ := t_d9 (o4 := o4) (o5 := o5) (o8 := o8) (o11 := o11) (o12 := o12) (o13 := some (.val (.list [.bool true, .bool true, .bool (decide (one = other)), .bool (decide (one = other)), .bool (decide (one = other)), oI (unl p c a)]))) (o14 := some (.val (.list [.bool true, .bool true, .bool (decide (one = other)), .bool (decide (one = other)), .bool (decide (one = other)), oI (unl p c a)]))) (o16 := o16) (o17 := o17) (o25 := o25) (o26 := o26) (sc := sc) H T mq hu4 (by omega)
  have D4 := t_d4 (o4 := o4) (o5 := o5) (o8 := o8) (o11 := o11) (o12 := o12) (o13 := o13) (o14 := o14) (o15 := o15) (o16 := o16) (o17 := o17) (o25 := o25) (o26 := o26) (sc := sc) (u := u3) H T
  have D5 := t_d5 (o4 := o4) (o5 := o5) (o8 := o8) (o11 := o11) (o12 := o12) (o14 := o14) (o15 := o15) (o16 := o16) (o17 := o17) (o25 := o25) (o26 := o26) (sc := sc) (u := u3) H T
  have D6 := t_d6 (o4 := o4) (o5 := o5) (o8 := o8) (o11 := o11) (o12 := o12) (o15 := o15) (o16 := o16) (o17 := o17) (o25 := o25) (o26 := o26) (sc := sc) (u := u3) (p := p) (wide := wide) (width := width) (Ls := Ls) (Q0 := Q0) (one := one) (other := other) (a := a) (b := b) (c := c) (near := near) (far := far)
  have D8 := t_d8 (o4 := o4) (o5 := o5) (o8 := o8) (o11 := o11) (o12 := o12) (o13 := some (.val (.list [.bool true, .bool true, .bool (decide (one = other)), .bool (decide (one = other)), .bool (decide (one = other)), oI (unl p c a)]))) (o14 := some (.val (.list [.bool true, .bool true, .bool (decide (one = other)), .bool (decide (one = other)), .bool (decide (one = other)), oI (unl p c a)]))) (o16 := o16) (o17 := o17) (o25 := o25) (o26 := o26) (sc := sc) (u := u4) H T mq
  have D10 := t_d10 (o4 := o4) (o5 := o5) (o8 := o8) (o11 := o11) (o12 := o12) (o13 := some (.val (.list [.bool true, .bool true, .bool (decide (one = other)), .bool (decide (one = other)), .bool (decide (one = other)), oI (unl p c a)]))) (o14 := some (.val (.list [.bool true, .bool true, .bool (decide (one = other)), .bool (decide (one = other)), .bool (decide (one = other)), oI (unl p c a)]))) (o15 := some (.val (eP qu))) (o16 := p16) (o17 := o17) (o25 := p25) (o26 := p26) (sc := sc) (u := u5) H T
  have D11 := t_d11 (o4 := o4) (o5 := o5) (o8 := o8) (o11 := o11) (o12 := o12) (o13 := some (.val (.list [.bool true, .bool true, .bool (decide (one = other)), .bool (decide (one = other)), .bool (decide (one = other)), oI (unl p c a)]))) (o14 := some (.val (.list [.bool true, .bool true, .bool (decide (one = other)), .bool (decide (one = other)), .bool (decide (one = other)), oI (unl p c a)]))) (o15 := some (.val (eP qu))) (o16 := p16) (o25 := p25) (o26 := p26) (sc := sc) (u := u5) H T
  refine ⟨u5, some (.val (.list [.bool true, .bool true, .bool (decide (one = other)), .bool (decide (one = other)), .bool (decide (one = other)), oI (unl p c a)])), some (.val (.list [.bool true, .bool true, .bool (decide (one = other)), .bool (decide (one = other)), .bool (decide (one = other)), oI (unl p c a)])), some (.val (eP qu)), p16, some (.val (oI (unl p a c))), some (.val (eL one)), some (.val (eL other)), some (.val (eP a)), some (.val (eP b)), some (.val (eP c)), some (.val (eP near)), some (.val (eP far)), p25, p26, hu5.le (by omega), ?_⟩
  unfold dA
  exact es_seq D1 (es_seq D2 (es_seq D3 (es_seq D4 (es_seq D5 (es_seq D6 (es_seq D7 (es_seq D8 (es_seq D9 (es_seq D10 D11)))))))))
theorem t_laps {o4 o5 o11 o12 : Option PV} {sc : PyData} {p : Ef.Pn} {wide width : Nat} {Ls : List (List (List Int))} {Q0 : List (List Int)} (H : LC p wide width Ls Q0) (hw : wide ≤ 2) : ∀ (l : List PyData) {o8 o13 o14 o15 o16 o17 o18 o19 o20 o21 o22 o23 o24 o25 o26 : Option PV} {u : List PyData} {N : Nat}, Urn N u → N + 40 * l.length < 2 ^ 37 →
    ∃ u' o8' o13' o14' o15' o16' o17' o18' o19' o20' o21' o22' o23' o24' o25' o26', Urn (N + 40 * l.length) u' ∧ forL (uN 8) dA l [some (.val sc), some (.own (.list u)), some (.val (.int wide)), some (.val (ePn p)), o4, o5, some (.val (.list (Ls.map eL))), some (.val (eL Q0)), o8, some (.val (.int p.rows.length)), some (.val (.int width)), o11, o12, o13, o14, o15, o16, o17, o18, o19, o20, o21, o22, o23, o24, o25, o26, none, none, none] = .nx [some (.val sc), some (.own (.list u')), some (.val (.int wide)), some (.val (ePn p)), o4, o5, some (.val (.list (Ls.map eL))), some (.val (eL Q0)), o8', some (.val (.int p.rows.length)), some (.val (.int width)), o11, o12, o13', o14', o15', o16', o17', o18', o19', o20', o21', o22', o23', o24', o25', o26', none, none, none] := by
  intro l
  induction l with
  | nil => intro o8 o13 o14 o15 o16 o17 o18 o19 o20 o21 o22 o23 o24 o25 o26 u N hu _; exact ⟨u, o8, o13, o14, o15, o16, o17, o18, o19, o20, o21, o22, o23, o24, o25, o26, hu, rfl⟩
  | cons d l ih =>
    intro o8 o13 o14 o15 o16 o17 o18 o19 o20 o21 o22 o23 o24 o25 o26 u N hu hN
    simp only [List.length_cons] at hN
    obtain ⟨u1, o13', o14', o15', o16', o17', o18', o19', o20', o21', o22', o23', o24', o25', o26', hu1, E1⟩ := t_lap (o4 := o4) (o5 := o5) (o8 := some (.val d)) (o11 := o11) (o12 := o12) (o13 := o13) (o14 := o14) (o15 := o15) (o17 := o17) (o18 := o18) (o19 := o19) (o20 := o20) (o21 := o21) (o22 := o22) (o23 := o23) (o24 := o24) (o25 := o25) (o26 := o26) (sc := sc) (o16 := o16) H hw hu (by omega)
    obtain ⟨u2, p8, o13'', o14'', o15'', o16'', o17'', o18'', o19'', o20'', o21'', o22'', o23'', o24'', o25'', o26'', hu2, E2⟩ := ih (o8 := some (.val d)) (o13 := o13') (o14 := o14') (o15 := o15') (o16 := o16') (o17 := o17') (o18 := o18') (o19 := o19') (o20 := o20') (o21 := o21') (o22 := o22') (o23 := o23') (o24 := o24') (o25 := o25') (o26 := o26') hu1 (by omega)
    exact ⟨u2, p8, o13'', o14'', o15'', o16'', o17'', o18'', o19'', o20'', o21'', o22'', o23'', o24'', o25'', o26'', hu2.le (by simp only [List.length_cons]; omega), forL_cons (et_NS rfl) E1 E2⟩
abbrev tyK : Ty (eT eEf) 5 := tyEf.list
theorem isT_K (l : List (Int × List Ef.Mv)) : ∃ ds, eT eEf l = .tuple ds := ⟨_, rfl⟩
theorem getD_eG (G : List (List (Int × List Ef.Mv) × List (List Int))) (k : List (Int × List Ef.Mv)) : (GD.kGet (GD.eG (eT eEf) eP G) (eT eEf k)).getD (.list []) = .list (((GD.gGet G k).getD []).map eP) := by
  rw [GD.kGet_eG tyK]
  cases GD.gGet G k <;> rfl
theorem t_f6 {o5 o12 : Option PV} {sc : PyData} {u : List PyData} {L0 : List PyData} {p : Ef.Pn} {wide width : Nat} (H : OkT p wide width) {G : List (List (Int × List Ef.Mv) × List (List Int))} {L : List (List Int)} (I : GD.GInv (keyT p) G L) (hz : L.length ≤ 100) {t : List Int} (ht : Ef.Tx wide t ∧ t.length ≤ 3) :
    Es f6 [some (.val sc), some (.own (.list u)), some (.val (.int wide)), some (.val (ePn p)), some (.own (.dict (GD.eG (eT eEf) eP G))), some (.val (eP t)), none, none, none, some (.val (.int p.rows.length)), some (.val (.int width)), some (.val (.list L0)), o12, none, none, none, none, none, none, none, none, none, none, none, none, none, none, none, none, none] (.nx [some (.val sc), some (.own (.list u)), some (.val (.int wide)), some (.val (ePn p)), some (.own (.dict (GD.eG (eT eEf) eP (GD.gAdd (keyT p) G t)))), some (.val (eP t)), none, none, none, some (.val (.int p.rows.length)), some (.val (.int width)), some (.val (.list L0)), some (.val (eT eEf (keyT p t))), none, none, none, none, none, none, none, none, none, none, none, none, none, none, none, none, none]) := by
  have hn := H.n3
  have h1 := I.len
  have h2 : ((GD.gGet G (keyT p t)).getD []).length ≤ 100 := by
    cases q : GD.gGet G (keyT p t) with
    | none => simp
    | some l =>
      have : l.length ≤ L.length := I.lens _ (GD.gGet_some q)
      show l.length ≤ 100
      omega
  unfold f6
  refine es_seqS (ev_val (ev_app (ev_cons (ev_dataE (ev_lcS (es := (keyT p t).map eEf) (ev_range1 (k := (p.rows.length : Int)) (ev_cons (ev_N rfl) ev_nil) (by omega)) rfl (?_ : compL _ _ _ _ _ _ _ = .ok _ [some (.val sc), some (.own (.list u)), some (.val (.int wide)), some (.val (ePn p)), some (.own (.dict (GD.eG (eT eEf) eP G))), some (.val (eP t)), none, none, none, some (.val (.int p.rows.length)), some (.val (.int width)), some (.val (.list L0)), o12, none, none, none, none, none, none, none, none, none, none, none, none, none, none, none, none, none]) rfl) rfl) ev_nil) dTuple_l)) rfl ?_
  · rw [range_ints]
    refine compL_each (en := fun k : Nat => PyData.int (k : Int)) (en' := eEf) (fun s => Ef.effF p ((s : Nat) : Int) t) (List.range p.rows.length) (by simp; omega) fun s hs => ?_
    have := List.mem_range.mp hs
    exact ⟨_, et_N, _, ev_data (ev_callE (ev_cons (ev_N rfl) (ev_cons (ev_N rfl) (ev_cons (ev_N rfl) ev_nil))) rfl (t_effect H.toOkP ht.1 (by omega) (by omega) (by omega))), rfl⟩
  · refine GD.es_setKey (kvs0 := (GD.eG (eT eEf) eP G)) (kvs := (GD.eG (eT eEf) eP G)) (k := eT eEf (keyT p t)) (v := .list (((GD.gGet G (keyT p t)).getD [] ++ [t]).map eP)) (ev_data (ev_binO (GD.ev_get2 rfl (ev_cons (ev_N rfl) (ev_cons (ev_dataE (ev_lstE ev_nil (by simp)) rfl) ev_nil)) rfl (GD.fits_eG tyK (by omega) isT_K G _) (getD_eG G _)) (ev_dataE (ev_lstE (ev_cons (ev_N rfl) ev_nil) (by simp)) rfl) (es := ((GD.gGet G (keyT p t)).getD [] ++ [t]).map eP) ?_)) rfl (ev_N rfl) rfl (GD.fits_eG tyK (by omega) isT_K G _) (by simp [GD.eG]; omega) ?_
    · show dCatL (.list (((GD.gGet G (keyT p t)).getD []).map eP)) (.list [eP t]) = _
      rw [dCatL_l (by simp; omega), List.map_append]
      rfl
    · rw [GD.kPut_eG tyK]
      rfl
theorem t_c6L {sc : PyData} {u : List PyData} {L0 : List PyData} {p : Ef.Pn} {wide width : Nat} (H : OkT p wide width) : ∀ (M : List (List Int)) {G : List (List (Int × List Ef.Mv) × List (List Int))} {L : List (List Int)} {o5 o12 : Option PV}, GD.GInv (keyT p) G L → L.length + M.length ≤ 100 → (∀ t ∈ M, Ef.Tx wide t ∧ t.length ≤ 3) →
    ∃ o5' o12', forL (uN 5) f6 (M.map eP) [some (.val sc), some (.own (.list u)), some (.val (.int wide)), some (.val (ePn p)), some (.own (.dict (GD.eG (eT eEf) eP G))), o5, none, none, none, some (.val (.int p.rows.length)), some (.val (.int width)), some (.val (.list L0)), o12, none, none, none, none, none, none, none, none, none, none, none, none, none, none, none, none, none] = .nx [some (.val sc), some (.own (.list u)), some (.val (.int wide)), some (.val (ePn p)), some (.own (.dict (GD.eG (eT eEf) eP (M.foldl (GD.gAdd (keyT p)) G)))), o5', none, none, none, some (.val (.int p.rows.length)), some (.val (.int width)), some (.val (.list L0)), o12', none, none, none, none, none, none, none, none, none, none, none, none, none, none, none, none, none] := by
  intro M
  induction M with
  | nil => intro G L o5 o12 _ _ _; exact ⟨o5, o12, rfl⟩
  | cons t M ih =>
    intro G L o5 o12 I hz ht
    simp only [List.length_cons] at hz
    have e1 := t_f6 (o5 := o5) (o12 := o12) (sc := sc) (u := u) (L0 := L0) H I (by omega) (ht t List.mem_cons_self)
    obtain ⟨o5', o12', e2⟩ := ih (o5 := some (.val (eP t))) (o12 := some (.val (eT eEf (keyT p t)))) (I.add t) (by simp; omega) (fun x m => ht x (List.mem_cons_of_mem _ m))
    exact ⟨o5', o12', forL_cons (et_NS rfl) e1 e2⟩
theorem txs_ok {wide : Nat} (hw : 1 ≤ wide ∧ wide ≤ 2) : (txs wide 3).1.length ≤ 100 ∧ [] ∈ (txs wide 3).1 ∧ ∀ t ∈ (txs wide 3).1, Ef.Tx wide t ∧ t.length ≤ 3 := by
  have : wide = 1 ∨ wide = 2 := by omega
  have h : (∀ t ∈ (txs wide 3).1, (∀ c ∈ t, (1 ≤ c ∧ c ≤ (wide : Int))) ∧ t.length ≤ 3) ∧ (txs wide 3).1.length ≤ 100 ∧ [] ∈ (txs wide 3).1 := by
    rcases this with e | e <;> subst e <;> decide
  exact ⟨h.2.1, h.2.2, fun t m => ⟨(h.1 t m).1, (h.1 t m).2⟩⟩
theorem t_c8 {o5 o12 : Option PV} {sc : PyData} {u : List PyData} {p : Ef.Pn} {wide width : Nat} {o4 : Option PV} {Ls : List (List (List Int))} {q0 : List (List Int)} {rest : List (List (List Int))} (hz : Ls.length ≤ 100) (hq : Ls.filter (fun l => decide ([] ∈ l)) = q0 :: rest) :
    Es c8 [some (.val sc), some (.own (.list u)), some (.val (.int wide)), some (.val (ePn p)), o4, o5, some (.own (.list (Ls.map eL))), none, none, some (.val (.int p.rows.length)), some (.val (.int width)), some (.val (.list ((txs wide 3).1.map eP))), o12, none, none, none, none, none, none, none, none, none, none, none, none, none, none, none, none, none] (.nx [some (.val sc), some (.own (.list u)), some (.val (.int wide)), some (.val (ePn p)), o4, o5, some (.val (.list (Ls.map eL))), some (.val (eL q0)), none, some (.val (.int p.rows.length)), some (.val (.int width)), some (.val (.list ((txs wide 3).1.map eP))), o12, none, none, none, none, none, none, none, none, none, none, none, none, none, none, none, none, none]) := by
  unfold c8
  refine es_setS (ev_val (ev_bin (ev_dataE (ev_lcS (es := (Ls.filter fun l => decide ([] ∈ l)).map eL) (ev_seqI (ev_NoS rfl rfl) rfl) rfl (?_ : compL _ _ _ _ _ _ _ = .ok _ [some (.val sc), some (.own (.list u)), some (.val (.int wide)), some (.val (ePn p)), o4, o5, some (.val (.list (Ls.map eL))), none, none, some (.val (.int p.rows.length)), some (.val (.int width)), some (.val (.list ((txs wide 3).1.map eP))), o12, none, none, none, none, none, none, none, none, none, none, none, none, none, none, none, none, none]) rfl) rfl) ev_K (dIx_l0 (d := eL q0) (by rw [hq]; rfl)))) rfl
  exact compL_keep (en := eL) (fun l => decide ([] ∈ l)) Ls (by omega) fun l _ => ⟨_, et_N, ev_test (ev_bin (ev_tupE ev_nil (by simp)) (ev_N rfl) (tyP.dIn' (a := []) (l := l) (by omega) (.inl rfl) (by simp))), ev_N rfl, rfl⟩
theorem law_true : ∀ ns : List Int, ns.length ≤ 63 → M_law [.list (ns.map PyData.int)] = .ok (.val (.bool true)) := fun ns hl => by
  obtain ⟨c, hc⟩ := t_cells hl
  obtain ⟨u0, hb, hu0⟩ := t_box (c := c)
  obtain ⟨k, u1, E2, hk, hu1⟩ := t_take (n := 2) hu0 (by omega) (by omega) (by omega)
  obtain ⟨wide, ew⟩ : ∃ wide : Nat, (1 : Int) + k = wide := ⟨(1 + k).toNat, by omega⟩
  have hw : 1 ≤ wide ∧ wide ≤ 2 := by omega
  obtain ⟨p, width, u2, E3, H, hu2⟩ := t_law_turning (wide := wide) hu1 (by omega) (by omega)
  obtain ⟨z1, z2, z3⟩ := txs_ok hw
  have I := GD.GInv.fold (keyT p) (txs wide 3).1
  obtain ⟨o5, o12, E6⟩ := t_c6L (sc := .list (ns.map .int)) (u := u2) (L0 := (txs wide 3).1.map eP) H (txs wide 3).1 (o5 := none) (o12 := none) (GD.GInv.nil (keyT p)) (by simpa using z1) z3
  generalize (txs wide 3).1.foldl (GD.gAdd (keyT p)) [] = G at I E6
  have zG := I.len
  have hne : (G.map (·.2)).filter (fun l => decide ([] ∈ l)) ≠ [] := by
    obtain ⟨g, hg, hm⟩ := I.all [] z2
    intro e
    rw [List.filter_eq_nil_iff] at e
    exact e g.2 (List.mem_map_of_mem hg) (by simpa using hm)
  obtain ⟨q0, rest, hq⟩ := List.exists_cons_of_ne_nil hne
  have mq : q0 ∈ (G.map (·.2)).filter (fun l => decide ([] ∈ l)) := by rw [hq]; exact List.mem_cons_self
  obtain ⟨mq1, mq2⟩ := List.mem_filter.mp mq
  have mq2 : [] ∈ q0 := of_decide_eq_true mq2
  have lot : ∀ l ∈ G.map (·.2), l ≠ [] ∧ l.length ≤ 100 ∧ ∀ t ∈ l, Ef.Tx wide t ∧ t.length ≤ 3 := fun l hl => by
    obtain ⟨g, hg, rfl⟩ := List.mem_map.mp hl
    have := I.lens g hg
    exact ⟨(I.own g hg).1, by omega, fun t m => z3 t ((I.own g hg).2 t m).1⟩
  have C : LC p wide width (G.map (·.2)) q0 := ⟨H, ⟨fun e => (by rw [e] at mq1; cases mq1), (by simp; omega)⟩, lot, fun l hl m hm a ha c hc => I.same hl hm ha hc, (lot q0 mq1).1, (lot q0 mq1).2.1, fun t m => ⟨(lot q0 mq1).2.2 t m, (I.same mq1 mq1 m mq2).mp rfl⟩⟩
  have E8 := t_c8 (o5 := o5) (o12 := o12) (sc := .list (ns.map .int)) (u := u2) (p := p) (wide := wide) (width := width) (o4 := some (.own (.dict (GD.eG (eT eEf) eP G)))) (Ls := G.map (·.2)) (by simp; omega) hq
  obtain ⟨u3, o8, o13, o14, o15, o16, o17, o18, o19, o20, o21, o22, o23, o24, o25, o26, hu3, E9⟩ := t_laps (o4 := some (.own (.dict (GD.eG (eT eEf) eP G)))) (o5 := o5) (o11 := some (.val (.list ((txs wide 3).1.map eP)))) (o12 := o12) (sc := .list (ns.map .int)) C hw.2 [.int 0, .int 1, .int 2, .int 3] (o8 := none) (o13 := none) (o14 := none) (o15 := none) (o16 := none) (o17 := none) (o18 := none) (o19 := none) (o20 := none) (o21 := none) (o22 := none) (o23 := none) (o24 := none) (o25 := none) (o26 := none) hu2 (by simp)
  have e10 := t_sameE H.toOkP (tx_nil wide) (tx_nil wide) (by simp) (by simp) (decide_eq_true (rfl : keyT p [] = keyT p []))
  have r4 : rangeD 0 (4 : Int).toNat = [.int 0, .int 1, .int 2, .int 3] := rfl
  have F1 : Es c1 [some (.val (.list (ns.map .int))), none, none, none, none, none, none, none, none, none, none, none, none, none, none, none, none, none, none, none, none, none, none, none, none, none, none, none, none, none] (.nx [some (.val (.list (ns.map .int))), some (.own (.list u0)), none, none, none, none, none, none, none, none, none, none, none, none, none, none, none, none, none, none, none, none, none, none, none, none, none, none, none, none]) := by
    unfold c1
    exact es_setS (ev_callE (ev_cons (ev_data (ev_callE (ev_cons (ev_N rfl) (ev_cons ev_K ev_nil)) rfl hc)) (ev_cons ev_K ev_nil)) rfl hb) rfl
  have F2 : Es c2 [some (.val (.list (ns.map .int))), some (.own (.list u0)), none, none, none, none, none, none, none, none, none, none, none, none, none, none, none, none, none, none, none, none, none, none, none, none, none, none, none, none] (.nx [some (.val (.list (ns.map .int))), some (.own (.list u1)), some (.val (.int wide)), none, none, none, none, none, none, none, none, none, none, none, none, none, none, none, none, none, none, none, none, none, none, none, none, none, none, none]) := by
    unfold c2
    exact es_setS (ev_val (ev_bin ev_K (ev_data (ev_callUE rfl (ev_cons ev_K ev_nil) rfl rfl E2 rfl)) (dAdd_iE ew))) rfl
  have F3 : Es c3 [some (.val (.list (ns.map .int))), some (.own (.list u1)), some (.val (.int wide)), none, none, none, none, none, none, none, none, none, none, none, none, none, none, none, none, none, none, none, none, none, none, none, none, none, none, none] (.nx [some (.val (.list (ns.map .int))), some (.own (.list u2)), some (.val (.int wide)), some (.val (ePn p)), none, none, none, none, none, none, none, none, none, none, none, none, none, none, none, none, none, none, none, none, none, none, none, none, none, none]) := by
    unfold c3
    exact es_setS (ev_callUE rfl (ev_cons (ev_N rfl) ev_nil) rfl rfl E3 rfl) rfl
  have F4 : Es c4 [some (.val (.list (ns.map .int))), some (.own (.list u2)), some (.val (.int wide)), some (.val (ePn p)), none, none, none, none, none, none, none, none, none, none, none, none, none, none, none, none, none, none, none, none, none, none, none, none, none, none] (.nx [some (.val (.list (ns.map .int))), some (.own (.list u2)), some (.val (.int wide)), some (.val (ePn p)), none, none, none, none, none, some (.val (.int p.rows.length)), some (.val (.int width)), some (.val (.list ((txs wide 3).1.map eP))), none, none, none, none, none, none, none, none, none, none, none, none, none, none, none, none, none, none]) := by
    have hsh : p.sh.length = width := by rw [H.wd]; simp
    unfold c4
    exact es_par3 (ev_cons (ev_app (ev_cons (ev_ixS (look_val rfl) ev_K (look_val rfl) (dIx_t (n := 1) rfl)) ev_nil) (dLen_tE (by simp))) (ev_cons (ev_app (ev_cons (ev_bin (ev_ixS (look_val rfl) ev_K (look_val rfl) (dIx_t0 rfl)) ev_K (dIx_t (n := 1) rfl)) ev_nil) (dLen_tE (by simp [hsh]))) (ev_cons (ev_data (ev_callE (ev_cons (ev_N rfl) (ev_cons ev_K ev_nil)) rfl (t_law_texts hw))) ev_nil))) rfl
  have F5 : Es c5 [some (.val (.list (ns.map .int))), some (.own (.list u2)), some (.val (.int wide)), some (.val (ePn p)), none, none, none, none, none, some (.val (.int p.rows.length)), some (.val (.int width)), some (.val (.list ((txs wide 3).1.map eP))), none, none, none, none, none, none, none, none, none, none, none, none, none, none, none, none, none, none] (.nx [some (.val (.list (ns.map .int))), some (.own (.list u2)), some (.val (.int wide)), some (.val (ePn p)), some (.own (.dict [])), none, none, none, none, some (.val (.int p.rows.length)), some (.val (.int width)), some (.val (.list ((txs wide 3).1.map eP))), none, none, none, none, none, none, none, none, none, none, none, none, none, none, none, none, none, none]) := by
    unfold c5
    exact es_setS GD.ev_dict0 rfl
  have F6 : Es c6 [some (.val (.list (ns.map .int))), some (.own (.list u2)), some (.val (.int wide)), some (.val (ePn p)), some (.own (.dict [])), none, none, none, none, some (.val (.int p.rows.length)), some (.val (.int width)), some (.val (.list ((txs wide 3).1.map eP))), none, none, none, none, none, none, none, none, none, none, none, none, none, none, none, none, none, none] (.nx [some (.val (.list (ns.map .int))), some (.own (.list u2)), some (.val (.int wide)), some (.val (ePn p)), some (.own (.dict (GD.eG (eT eEf) eP G))), o5, none, none, none, some (.val (.int p.rows.length)), some (.val (.int width)), some (.val (.list ((txs wide 3).1.map eP))), o12, none, none, none, none, none, none, none, none, none, none, none, none, none, none, none, none, none]) := by
    unfold c6
    exact es_for (ev_seqI (ev_N rfl) rfl) E6
  have F7 : Es c7 [some (.val (.list (ns.map .int))), some (.own (.list u2)), some (.val (.int wide)), some (.val (ePn p)), some (.own (.dict (GD.eG (eT eEf) eP G))), o5, none, none, none, some (.val (.int p.rows.length)), some (.val (.int width)), some (.val (.list ((txs wide 3).1.map eP))), o12, none, none, none, none, none, none, none, none, none, none, none, none, none, none, none, none, none] (.nx [some (.val (.list (ns.map .int))), some (.own (.list u2)), some (.val (.int wide)), some (.val (ePn p)), some (.own (.dict (GD.eG (eT eEf) eP G))), o5, some (.own (.list ((G.map (·.2)).map eL))), none, none, some (.val (.int p.rows.length)), some (.val (.int width)), some (.val (.list ((txs wide 3).1.map eP))), o12, none, none, none, none, none, none, none, none, none, none, none, none, none, none, none, none, none]) := by
    unfold c7
    exact es_setS (GD.ev_vals rfl (by unfold GD.eG; rw [List.map_map, List.map_map]; rfl)) rfl
  show (b_law [some (.val (.list (ns.map .int))), none, none, none, none, none, none, none, none, none, none, none, none, none, none, none, none, none, none, none, none, none, none, none, none, none, none, none, none, none]).fin = _
  apply fin_ret
  rw [law_split]
  refine es_seq F1 (es_seq F2 (es_seq F3 (es_seq F4 (es_seq F5 (es_seq F6 (es_seq F7 (es_seq E8 (es_seq (by unfold c9; exact es_for (ev_range1 (k := 4) (ev_cons ev_K ev_nil) (by omega)) (by rw [r4]; exact E9)) ?_))))))))
  unfold c10
  exact es_ret (ev_val (ev_bin (ev_data (ev_callE (ev_cons (ev_N rfl) (ev_cons (ev_tupE ev_nil (by simp)) (ev_cons (ev_tupE ev_nil (by simp)) ev_nil))) rfl e10)) ev_K rfl))
end TT

theorem PySem.Challenge.cw_copysheets_k26_main_texts_by_their_effec_holds : PySem.Challenge.rw_copysheets_k26_main_texts_by_their_effec.Holds := by
  exact TT.law_holds TT.law_true
