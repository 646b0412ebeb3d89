import PyProof.Rows.All
import Wide.All
import OpenK.AllK
import Wide.FinOn
import HandS.ForExc
import HandS.ForMost
import HandS.Lambda
import HandS.EndTab
import HandS.TupAny
import HandS.TupMul
import HandS.Deep
import HandS.Flow
import HandS.Wide
import HandS.IsInst
import HandS.ExcSuper
import HandS.ExcInit
import HandS.TryMany
import KE.KExcSuper
import KE.KExcInit
import KE.KSuper
import KE.KSuperObj
import KE.GoesEnum
import KE.GoesMore
import HandS.Style
import HandS.More
import KE.SortData
import PyProof.ReprRoads
import HandS.ExcField
import HandS.Conv
import HandS.Head2
import HandS.HeadEnd
import HandS.HeadHook4
import KE.OsMirror
import PyProof.ReprLen
import PySem.Challenge.RW_forgetwhen_k43_whole_news_that_are_withd
set_option Elab.async false
set_option linter.all false
set_option maxRecDepth 100000
set_option maxHeartbeats 1000000
/-! FwA: plain data D, owned things O, how they lie in the abstract heap, worlds and their growth. -/
namespace FW
open PySem PySem.Spec PyProof.Rows L2

inductive D where
  | non | bl (b : Bool) | int (i : Int) | str (x : Str) | tup (xs : List D) | lst (xs : List D) | gl (x : Str) | clo (n : Nat)
  deriving Inhabited
inductive O where
  | no | sh (d : D) | fz (ds : List D) | ol (xs : List O) | ob (c : Str) (ns : List Str) (xs : List O)
  deriving Inhabited
structure DX where
  cls : Str
  ns : List Str
  xs : List D
inductive Res (α : Type) where
  | ok (a : α) (δ : List O) | er (x : DX) (δ : List O) | bad
structure Ct where
  K : PySem.W.Frag
  mg : Str → Option Value
  LT : Nat → Addr → Addr → Heap → Prop
  LC : Nat → Addr → Heap → Prop
  T : List (Addr × Str)

def Le (H H' : Hp) : Prop := ∀ a o, H a = some o → H' a = some o
theorem Le.refl (H : Hp) : Le H H := fun _ _ h => h
theorem Le.trans {H H1 H2 : Hp} (a : Le H H1) (b : Le H1 H2) : Le H H2 := fun x o h => b x o (a x o h)
theorem Le.none {H H' : Hp} (e : Le H H') {a : Addr} (h : H' a = .none) : H a = .none := by
  cases q : H a with
  | none => rfl
  | some o => rw [e a o q] at h; cases h
theorem Le.upd {H : Hp} {p : Addr} {o : HO} (h : H p = .none) : Le H (upd H p o) := fun a u e => by
  rw [upd_ne (ne_of_none e h)]; exact e
theorem Le.rd {H H' : Hp} {a : Addr} {u : HO} (e : Le H H') (h : Rd H a u) : Rd H' a u := by
  rcases h with h | ⟨o, h⟩
  · exact .inl (e a _ h)
  · exact .inr ⟨o, e a _ h⟩
theorem Le.l {K : PySem.W.Frag} {H H' : Hp} {a : Addr} {xs : List V} (e : Le H H') (h : SqL K H a xs) : SqL K H' a xs :=
  h.elim (fun z => .inl (e.rd z)) .inr
theorem Le.t {K : PySem.W.Frag} {H H' : Hp} {a : Addr} {xs : List V} (e : Le H H') (h : SqT K H a xs) : SqT K H' a xs :=
  h.elim (fun z => .inl (e.rd z)) .inr

mutual
def Rp (C : Ct) (S : Hp) : D → V → Prop
  | .non, v => v = .non
  | .bl b, v => v = .bl b
  | .int i, v => v = .int i
  | .str x, v => v = .str x
  | .tup ds, v => ∃ a vs, v = .ref a ∧ SqT C.K S a vs ∧ RpL C S ds vs
  | .lst ds, v => ∃ a vs, v = .ref a ∧ S a = some (.lst vs) ∧ RpL C S ds vs
  | .gl x, v => ∃ a, v = .ref a ∧ C.mg x = some (.ref a)
  | .clo n, v => ∃ a c, v = .ref a ∧ S a = some (.ext (C.LT n a c)) ∧ S c = some (.ext (C.LC n c))
def RpL (C : Ct) (S : Hp) : List D → List V → Prop
  | [], vs => vs = []
  | d :: ds, vs => ∃ v r, vs = v :: r ∧ Rp C S d v ∧ RpL C S ds r
end
mutual
def RpO (C : Ct) (S H : Hp) : O → V → List Addr → Prop
  | .no, _, F => F = []
  | .sh d, v, F => Rp C S d v ∧ F = []
  | .fz ds, v, F => (∃ l vs, v = .ref l ∧ SqL C.K S l vs ∧ RpL C S ds vs) ∧ F = []
  | .ol os, v, F => ∃ l vs F', v = .ref l ∧ F = l :: F' ∧ S l = none ∧ H l = some (.lst vs) ∧ RpOL C S H os vs F'
  | .ob c ns os, v, F => ∃ a A dx fvs F', v = .ref a ∧ F = a :: dx :: F' ∧ S a = none ∧ S dx = none ∧ C.mg c = some (.ref A) ∧
      H a = some (.ins A dx fvs) ∧ H dx = some (.own a) ∧ fvs.map (·.1) = ns ∧ RpOL C S H os (fvs.map (·.2)) F'
def RpOL (C : Ct) (S H : Hp) : List O → List V → List Addr → Prop
  | [], vs, F => vs = [] ∧ F = []
  | o :: os, vs, F => ∃ v r F1 F2, vs = v :: r ∧ F = F1 ++ F2 ∧ RpO C S H o v F1 ∧ RpOL C S H os r F2
end

section
variable {C : Ct} {S S' H H' : Hp}
mutual
theorem Rp.mono (e : Le S S') : ∀ (d : D) (v : V), Rp C S d v → Rp C S' d v
  | .non, v, h => by simpa only [Rp] using h
  | .bl b, v, h => by simpa only [Rp] using h
  | .int i, v, h => by simpa only [Rp] using h
  | .str x, v, h => by simpa only [Rp] using h
  | .tup ds, v, h => by
    simp only [Rp] at h ⊢
    obtain ⟨a, vs, h1, h2, h3⟩ := h
    exact ⟨a, vs, h1, e.t h2, RpL.mono e ds vs h3⟩
  | .lst ds, v, h => by
    simp only [Rp] at h ⊢
    obtain ⟨a, vs, h1, h2, h3⟩ := h
    exact ⟨a, vs, h1, e a _ h2, RpL.mono e ds vs h3⟩
  | .gl x, v, h => by simpa only [Rp] using h
  | .clo n, v, h => by
    simp only [Rp] at h ⊢
    obtain ⟨a, c, h1, h2, h3⟩ := h
    exact ⟨a, c, h1, e a _ h2, e c _ h3⟩
theorem RpL.mono (e : Le S S') : ∀ (ds : List D) (vs : List V), RpL C S ds vs → RpL C S' ds vs
  | [], vs, h => by simpa only [RpL] using h
  | d :: ds, vs, h => by
    simp only [RpL] at h ⊢
    obtain ⟨v, r, h1, h2, h3⟩ := h
    exact ⟨v, r, h1, Rp.mono e d v h2, RpL.mono e ds r h3⟩
end
mutual
/-- what stands on its own footprint stays, where that is left alone -/
theorem RpO.mono (e : Le S S') : ∀ (o : O) (v : V) (F : List Addr), (∀ a ∈ F, S a = .none → H a ≠ .none → (∀ ps, H a ≠ some (.tbl ps)) → S' a = .none ∧ H' a = H a) → RpO C S H o v F → RpO C S' H' o v F
  | .no, v, F, _, h => by simpa only [RpO] using h
  | .sh d, v, F, _, h => by
    simp only [RpO] at h ⊢
    exact ⟨h.1.mono e, h.2⟩
  | .fz ds, v, F, _, h => by
    simp only [RpO] at h ⊢
    obtain ⟨⟨l, vs, h1, h2, h3⟩, h4⟩ := h
    exact ⟨⟨l, vs, h1, e.l h2, h3.mono e⟩, h4⟩
  | .ol os, v, F, k, h => by
    simp only [RpO] at h ⊢
    obtain ⟨l, vs, F', h1, h2, h3, h4, h5⟩ := h
    subst h2
    have q := k l (by simp) h3 (by rw [h4]; simp) (by intro ps z; rw [h4] at z; cases z)
    exact ⟨l, vs, F', h1, rfl, q.1, q.2.trans h4, RpOL.mono e os vs F' (fun a ha => k a (by simp [ha])) h5⟩
  | .ob c ns os, v, F, k, h => by
    simp only [RpO] at h ⊢
    obtain ⟨a, A, dx, fvs, F', h1, h2, h3, h4, h5, h6, h7, h8, h9⟩ := h
    subst h2
    have q := k a (by simp) h3 (by rw [h6]; simp) (by intro ps z; rw [h6] at z; cases z)
    have q' := k dx (by simp) h4 (by rw [h7]; simp) (by intro ps z; rw [h7] at z; cases z)
    exact ⟨a, A, dx, fvs, F', h1, rfl, q.1, q'.1, h5, q.2.trans h6, q'.2.trans h7, h8, RpOL.mono e os _ F' (fun a ha => k a (by simp [ha])) h9⟩
theorem RpOL.mono (e : Le S S') : ∀ (os : List O) (vs : List V) (F : List Addr), (∀ a ∈ F, S a = .none → H a ≠ .none → (∀ ps, H a ≠ some (.tbl ps)) → S' a = .none ∧ H' a = H a) → RpOL C S H os vs F → RpOL C S' H' os vs F
  | [], vs, F, _, h => by simpa only [RpOL] using h
  | o :: os, vs, F, k, h => by
    simp only [RpOL] at h ⊢
    obtain ⟨v, r, F1, F2, h1, h2, h3, h4⟩ := h
    subst h2
    exact ⟨v, r, F1, F2, h1, rfl, RpO.mono e o v F1 (fun a ha => k a (by simp [ha])) h3, RpOL.mono e os r F2 (fun a ha => k a (by simp [ha])) h4⟩
end
mutual
/-- the footprint: not shared, known, no table -/
theorem RpO.fp : ∀ (o : O) (v : V) (F : List Addr), RpO C S H o v F → ∀ a ∈ F, S a = .none ∧ H a ≠ .none ∧ (∀ ps, H a ≠ some (.tbl ps)) ∧ ∀ φ, H a ≠ some (.ext φ)
  | .no, v, F, h, a, ha => by simp only [RpO] at h; subst h; cases ha
  | .sh d, v, F, h, a, ha => by simp only [RpO] at h; rw [h.2] at ha; cases ha
  | .fz d, v, F, h, a, ha => by simp only [RpO] at h; rw [h.2] at ha; cases ha
  | .ol os, v, F, h, a, ha => by
    simp only [RpO] at h
    obtain ⟨l, vs, F', h1, h2, h3, h4, h5⟩ := h
    subst h2
    rcases List.mem_cons.mp ha with rfl | ha
    · exact ⟨h3, by rw [h4]; simp, (fun ps z => by rw [h4] at z; cases z), (fun ps z => by rw [h4] at z; cases z)⟩
    · exact RpOL.fp os vs F' h5 a ha
  | .ob c ns os, v, F, h, a, ha => by
    simp only [RpO] at h
    obtain ⟨a', A, dx, fvs, F', h1, h2, h3, h4, h5, h6, h7, h8, h9⟩ := h
    subst h2
    rcases List.mem_cons.mp ha with rfl | ha
    · exact ⟨h3, by rw [h6]; simp, (fun ps z => by rw [h6] at z; cases z), (fun ps z => by rw [h6] at z; cases z)⟩
    · rcases List.mem_cons.mp ha with rfl | ha
      · exact ⟨h4, by rw [h7]; simp, (fun ps z => by rw [h7] at z; cases z), (fun ps z => by rw [h7] at z; cases z)⟩
      · exact RpOL.fp os _ F' h9 a ha
theorem RpOL.fp : ∀ (os : List O) (vs : List V) (F : List Addr), RpOL C S H os vs F → ∀ a ∈ F, S a = .none ∧ H a ≠ .none ∧ (∀ ps, H a ≠ some (.tbl ps)) ∧ ∀ φ, H a ≠ some (.ext φ)
  | [], vs, F, h, a, ha => by simp only [RpOL] at h; rw [h.2] at ha; cases ha
  | o :: os, vs, F, h, a, ha => by
    simp only [RpOL] at h
    obtain ⟨v, r, F1, F2, h1, h2, h3, h4⟩ := h
    subst h2
    rcases List.mem_append.mp ha with ha | ha
    · exact RpO.fp o v F1 h3 a ha
    · exact RpOL.fp os r F2 h4 a ha
end
theorem RpL.length : ∀ (ds : List D) (vs : List V), RpL C S ds vs → vs.length = ds.length
  | [], vs, h => by simp only [RpL] at h; rw [h]; rfl
  | d :: ds, vs, h => by
    simp only [RpL] at h
    obtain ⟨v, r, h1, h2, h3⟩ := h
    rw [h1, List.length_cons, List.length_cons, RpL.length ds r h3]
theorem RpL.get : ∀ (ds : List D) (vs : List V), RpL C S ds vs → ∀ (i : Nat) (v : V), vs[i]? = some v → ∃ d, ds[i]? = some d ∧ Rp C S d v
  | [], vs, h, i, v, e => by simp only [RpL] at h; rw [h] at e; simp at e
  | d :: ds, vs, h, i, v, e => by
    simp only [RpL] at h
    obtain ⟨w, r, h1, h2, h3⟩ := h
    subst h1
    cases i with
    | zero => simp at e; subst e; exact ⟨d, rfl, h2⟩
    | succ i => simp at e; obtain ⟨d', e', q⟩ := RpL.get ds r h3 i v e; exact ⟨d', by simpa using e', q⟩
theorem RpL.get' : ∀ (ds : List D) (vs : List V), RpL C S ds vs → ∀ (i : Nat) (d : D), ds[i]? = some d → ∃ v, vs[i]? = some v ∧ Rp C S d v
  | [], vs, h, i, v, e => by simp at e
  | d :: ds, vs, h, i, d', e => by
    simp only [RpL] at h
    obtain ⟨w, r, h1, h2, h3⟩ := h
    subst h1
    cases i with
    | zero => simp at e; subst e; exact ⟨w, rfl, h2⟩
    | succ i => simp at e; obtain ⟨v', e', q⟩ := RpL.get' ds r h3 i d' e; exact ⟨v', by simpa using e', q⟩
theorem RpL.append : ∀ (ds : List D) (vs : List V) (es : List D) (ws : List V), RpL C S ds vs → RpL C S es ws → RpL C S (ds ++ es) (vs ++ ws)
  | [], vs, es, ws, h, h' => by simp only [RpL] at h; rw [h]; exact h'
  | d :: ds, vs, es, ws, h, h' => by
    simp only [RpL, List.cons_append] at h ⊢
    obtain ⟨w, r, h1, h2, h3⟩ := h
    subst h1
    exact ⟨w, r ++ ws, rfl, h2, RpL.append ds r es ws h3 h'⟩
theorem RpL.of (ds : List D) (vs : List V) (hl : vs.length = ds.length) (h : ∀ (i : Nat) (d : D) (v : V), ds[i]? = some d → vs[i]? = some v → Rp C S d v) : RpL C S ds vs := by
  induction ds generalizing vs with
  | nil => cases vs with
    | nil => simp only [RpL]
    | cons v r => cases hl
  | cons d ds ih => cases vs with
    | nil => cases hl
    | cons v r =>
      simp only [RpL]
      exact ⟨v, r, rfl, h 0 d v rfl rfl, ih r (by simpa using hl) fun i d' v' e1 e2 => h (i + 1) d' v' (by simpa using e1) (by simpa using e2)⟩
theorem RpL.take (n : Nat) (ds : List D) (vs : List V) (h : RpL C S ds vs) : RpL C S (ds.take n) (vs.take n) := by
  refine RpL.of _ _ (by have := RpL.length ds vs h; simp only [List.length_take]; omega) fun i d v e1 e2 => ?_
  rw [List.getElem?_take] at e1 e2
  split at e1
  · rename_i hi
    rw [if_pos hi] at e2
    obtain ⟨d', q1, q2⟩ := RpL.get ds vs h i v e2
    rw [e1] at q1; cases q1; exact q2
  · cases e1
theorem RpL.drop (n : Nat) (ds : List D) (vs : List V) (h : RpL C S ds vs) : RpL C S (ds.drop n) (vs.drop n) := by
  refine RpL.of _ _ (by have := RpL.length ds vs h; simp only [List.length_drop]; omega) fun i d v e1 e2 => ?_
  rw [List.getElem?_drop] at e1 e2
  obtain ⟨d', q1, q2⟩ := RpL.get ds vs h (n + i) v e2
  rw [e1] at q1; cases q1; exact q2
/-- leaves alone -/
theorem RpOL.leaves : ∀ (ds : List D) (vs : List V) (F : List Addr), RpOL C S H (ds.map .sh) vs F → F = [] ∧ RpL C S ds vs
  | [], vs, F, h => by
    simp only [List.map_nil, RpOL] at h
    exact ⟨h.2, by simp only [RpL]; exact h.1⟩
  | d :: ds, vs, F, h => by
    simp only [List.map_cons, RpOL, RpO] at h
    obtain ⟨v, r, F1, F2, h1, h2, ⟨h3, h5⟩, h4⟩ := h
    obtain ⟨e1, e2⟩ := RpOL.leaves ds r F2 h4
    exact ⟨by rw [h2, h5, e1]; rfl, by simp only [RpL]; exact ⟨v, r, h1, h3, e2⟩⟩
theorem RpOL.of_leaves : ∀ (ds : List D) (vs : List V), RpL C S ds vs → RpOL C S H (ds.map .sh) vs []
  | [], vs, h => by simp only [RpL] at h; rw [List.map_nil]; unfold RpOL; exact ⟨h, rfl⟩
  | d :: ds, vs, h => by
    simp only [RpL] at h
    obtain ⟨v, r, h1, h2, h3⟩ := h
    simp only [List.map_cons, RpOL, RpO]
    exact ⟨v, r, [], [], h1, rfl, ⟨h2, rfl⟩, RpOL.of_leaves ds r h3⟩
end

/-! ### worlds -/
/-- the tables stand, and are not shared -/
structure TabW (T : List (Addr × Str)) (S H : Hp) : Prop where
  t : LamX.Tabs T H
  n : ∀ p ∈ T, S p.1 = none
structure Wd (C : Ct) (S H : Hp) (Fs : Nat → List Addr) (σ : L2.St) (δ : List O) : Prop where
  le : Le S H
  len : δ.length = σ.length
  sl : ∀ i o, δ[i]? = some o → o ≠ .no → ∃ v, σ[i]? = some (some v) ∧ RpO C S H o v (Fs i)
  dj : ∀ i j a, a ∈ Fs i → a ∈ Fs j → i = j
  nd : ∀ i, (Fs i).Nodup
  ns : ∀ i a, a ∈ Fs i → S a = none ∧ H a ≠ none ∧ ∀ φ, H a ≠ some (.ext φ)
  tb : TabW C.T S H
/-- unknown, or a thing that never changes -/
def Free (H : Hp) (a : Addr) : Prop := H a = none ∨ ∃ φ, H a = some (.ext φ)
structure Grow (S H : Hp) (Fs : Nat → List Addr) (S' H' : Hp) (Fs' : Nat → List Addr) : Prop where
  ls : Le S S'
  kp : ∀ a o, H a = some o → (∀ i, a ∉ Fs i) → (∀ ps, o ≠ .tbl ps) → H' a = some o
  th : ∀ a, H a ≠ none → H' a ≠ none
  ns : ∀ a, S' a ≠ none → S a ≠ none ∨ Free H a ∨ ∃ i, a ∈ Fs i
  tk : ∀ a ps, H a = some (.tbl ps) → (∀ i, a ∉ Fs i) → ∃ qs, H' a = some (.tbl qs)
  nf : ∀ i a, a ∈ Fs' i → H a = none ∨ ∃ j, a ∈ Fs j
theorem Grow.refl (S H : Hp) (Fs : Nat → List Addr) : Grow S H Fs S H Fs :=
  ⟨Le.refl S, fun _ _ h _ _ => h, fun _ h => h, fun _ h => .inl h, fun _ ps h _ => ⟨ps, h⟩, fun i _ h => .inr ⟨i, h⟩⟩
theorem Grow.trans {S H S1 H1 S2 H2 : Hp} {Fs F1 F2 : Nat → List Addr} (a : Grow S H Fs S1 H1 F1) (b : Grow S1 H1 F1 S2 H2 F2) : Grow S H Fs S2 H2 F2 where
  ls := a.ls.trans b.ls
  kp := fun x o h n t => b.kp x o (a.kp x o h n t) (fun i z => by
    rcases a.nf i x z with q | ⟨j, q⟩
    · rw [h] at q; cases q
    · exact n j q) t
  th := fun x h => b.th x (a.th x h)
  ns := fun x h => by
    rcases b.ns x h with q | q | ⟨i, q⟩
    · exact a.ns x q
    · rcases q with q | ⟨φ, q⟩
      · exact .inr (.inl (.inl (Classical.byContradiction fun z => a.th x z q)))
      · cases e : H x with
        | none => exact .inr (.inl (.inl e))
        | some o =>
          by_cases hF : ∃ i, x ∈ Fs i
          · exact .inr (.inr hF)
          · have hF' : ∀ i, x ∉ Fs i := fun i z => hF ⟨i, z⟩
            by_cases ht : ∃ ps, o = .tbl ps
            · obtain ⟨ps, rfl⟩ := ht
              obtain ⟨qs, e2⟩ := a.tk x ps e hF'
              rw [q] at e2; cases e2
            · have := a.kp x o e hF' fun ps z => ht ⟨ps, z⟩
              rw [q] at this; cases this
              exact .inr (.inl (.inr ⟨φ, e⟩))
    · rcases a.nf i x q with q | q
      · exact .inr (.inl (.inl q))
      · exact .inr (.inr q)
  tk := fun x ps h n => by
    obtain ⟨qs, e⟩ := a.tk x ps h n
    exact b.tk x qs e fun i z => by
      rcases a.nf i x z with q | ⟨j, q⟩
      · rw [h] at q; cases q
      · exact n j q
  nf := fun i x h => by
    rcases b.nf i x h with q | ⟨j, q⟩
    · exact .inl (Classical.byContradiction fun z => a.th x z q)
    · exact a.nf j x q
/-- new things alone -/
theorem Grow.new {S H S' H' : Hp} {Fs : Nat → List Addr} (l : Le S S') (h : Le H H') (n : ∀ a, S' a ≠ none → S a ≠ none ∨ H a = none) : Grow S H Fs S' H' Fs where
  ls := l
  kp := fun x o e _ _ => h x o e
  th := fun x e z => by
    cases q : H x with
    | none => exact e q
    | some o => rw [h x o q] at z; cases z
  ns := fun x e => (n x e).elim .inl fun z => .inr (.inl (.inl z))
  tk := fun x ps e _ => ⟨ps, h x _ e⟩
  nf := fun i x e => .inr ⟨i, e⟩
/-- a thing apart stays -/
theorem RpO.grow {C : Ct} {S H S' H' : Hp} {Fs Fs' : Nat → List Addr} {o : O} {v : V} {F : List Addr} (g : Grow S H Fs S' H' Fs') (h : RpO C S H o v F) (d : ∀ a ∈ F, ∀ i, a ∉ Fs i) :
    RpO C S' H' o v F ∧ ∀ a ∈ F, ∀ i, a ∉ Fs' i := by
  have fp := RpO.fp o v F h
  refine ⟨RpO.mono g.ls o v F (fun a ha h1 h2 h3 => ?_) h, fun a ha i z => ?_⟩
  · constructor
    · refine Classical.byContradiction fun z => ?_
      rcases g.ns a z with q | q | ⟨i, q⟩
      · exact q h1
      · rcases q with q | ⟨φ, q⟩
        · exact h2 q
        · exact (fp a ha).2.2.2 φ q
      · exact d a ha i q
    · cases q : H a with
      | none => exact absurd q h2
      | some u => exact g.kp a u q (d a ha) fun ps z => h3 ps (by rw [q, z])
  · rcases g.nf i a z with q | ⟨j, q⟩
    · exact (fp a ha).2.1 q
    · exact d a ha j q
theorem TabW.at {T : List (Addr × Str)} {S H : Hp} (t : TabW T S H) {p : Addr × Str} (hp : p ∈ T) : ∃ ps, H p.1 = some (.tbl ps) := by
  obtain ⟨ps, h, _⟩ := t.t p hp
  exact ⟨ps, h⟩
theorem tabs_le {T : List (Addr × Str)} {S S' H H' : Hp} (t : TabW T S H) (e : Le H H') (n : ∀ a, S' a ≠ none → S a ≠ none ∨ H a = none) : TabW T S' H' := ⟨t.t.ext e, fun p hp => Classical.byContradiction fun z => by
  rcases n _ z with q | q
  · exact q (t.n p hp)
  · obtain ⟨ps, h⟩ := t.at hp
    rw [h] at q; cases q⟩
/-- one more thing shared, no table -/
theorem TabW.up {T : List (Addr × Str)} {S H : Hp} (t : TabW T S H) {l : Addr} {o u : HO} (h : H l = some u) (nt : ∀ ps, u ≠ .tbl ps) : TabW T (upd S l o) H := ⟨t.t, fun p hp => by
  obtain ⟨ps, e⟩ := t.at hp
  rw [upd_ne fun z => by rw [z, h] at e; cases e; exact nt _ rfl]
  exact t.n p hp⟩
/-- the world in a heap with new things -/
theorem Wd.new {C : Ct} {S H S' H' : Hp} {Fs : Nat → List Addr} {σ : L2.St} {δ : List O} (w : Wd C S H Fs σ δ) (l : Le S S') (h : Le H H') (n : ∀ a, S' a ≠ none → S a ≠ none ∨ H a = none) (le : Le S' H') : Wd C S' H' Fs σ δ where
  le := le
  len := w.len
  sl := fun i o e ne => by
    obtain ⟨v, e1, r⟩ := w.sl i o e ne
    refine ⟨v, e1, RpO.mono l o v _ (fun a ha h1 h2 h3 => ?_) r⟩
    constructor
    · exact Classical.byContradiction fun z => (n a z).elim (fun q => q h1) fun q => h2 q
    · cases q : H a with
      | none => exact absurd q h2
      | some u => exact h a u q
  dj := w.dj
  nd := w.nd
  ns := fun i a ha => by
    obtain ⟨h1, h2⟩ := w.ns i a ha
    refine ⟨Classical.byContradiction fun z => (n a z).elim (fun q => q h1) fun q => h2.1 q, fun z => ?_, fun φ z => ?_⟩
    · cases q : H a with
      | none => exact h2.1 q
      | some u => rw [h a u q] at z; cases z
    · cases q : H a with
      | none => exact h2.1 q
      | some u => rw [h a u q] at z; cases z; exact h2.2 φ q
  tb := tabs_le w.tb h n
theorem PE.imp {X : Cx} {e : Expr} {t t' : TE} (p : PE X e t) (h : ∀ σ H Q, t' σ H Q → t σ H Q) : PE X e t' :=
  ⟨fun pins s σ H Q I q => p.run pins s σ H Q I (h σ H Q q)⟩
theorem PT.imp {X : Cx} {e : Expr} {t t' : TT} (p : PT X e t) (h : ∀ σ H Q, t' σ H Q → t σ H Q) : PT X e t' :=
  ⟨fun pins s σ H Q I q => p.run pins s σ H Q I (h σ H Q q)⟩
theorem PS.imp {X : Cx} {e : Stmt} {t t' : TS} (p : PS X e t) (h : ∀ D σ H, t' D σ H → t D σ H) : PS X e t' :=
  ⟨fun pins s σ H D I q => p.run pins s σ H D I (h D σ H q)⟩
theorem PSs.imp {X : Cx} {e : List Stmt} {t t' : TS} (p : PSs X e t) (h : ∀ D σ H, t' D σ H → t D σ H) : PSs X e t' :=
  ⟨fun pins s σ H D I q => p.run pins s σ H D I (h D σ H q)⟩
end FW

set_option Elab.async false
set_option linter.all false
set_option maxRecDepth 100000
set_option maxHeartbeats 1000000
/-! FwB: what a text means over plain data: M (expressions), G (statements); the judgements; the first rules. -/
namespace FW
open PySem PySem.Spec PyProof.Rows L2

abbrev M (α : Type) := List O → Res α
def ret {α : Type} (a : α) : M α := fun δ => .ok a δ
def bad {α : Type} : M α := fun _ => .bad
def bnd {α β : Type} (f : M α) (g : α → M β) : M β := fun δ => match f δ with
  | .ok a δ' => g a δ'
  | .er x δ' => .er x δ'
  | .bad => .bad
def opt {α : Type} : Option α → M α
  | some a => ret a
  | none => bad

/-- an exception as it lies -/
def Xr (C : Ct) (S H : Hp) (x : DX) (cls : Value) (dd : Option Addr) : Prop :=
  ∃ A, C.mg x.cls = some (.ref A) ∧ cls = .ref A ∧ ((x.ns = [] ∧ dd = none) ∨ ∃ d fs, dd = some d ∧ H d = some (.xd fs) ∧ fs.map (·.1) = x.ns ∧ RpL C S x.xs (fs.map (·.2)))
def Aft {α : Type} (C : Ct) (W : WX) (σ : L2.St) (S H : Hp) (Fs : Nat → List Addr) (r : Res α) (k : α → Hp → Hp → (Nat → List Addr) → List O → Prop) : Prop := match r with
  | .ok a δ' => ∀ S' H' Fs', Grow S H Fs S' H' Fs' → Wd C S' H' Fs' σ δ' → k a S' H' Fs' δ'
  | .er x δ' => ∀ cls dd S' H' Fs', Grow S H Fs S' H' Fs' → Wd C S' H' Fs' σ δ' → Xr C S' H' x cls dd → W cls dd σ H'
  | .bad => False
section
variable {C : Ct} {W : WX} {σ : L2.St} {S H S1 H1 : Hp} {Fs F1 : Nat → List Addr} {α β : Type}
theorem Aft.mono {r : Res α} {k k' : α → Hp → Hp → (Nat → List Addr) → List O → Prop} (h : Aft C W σ S H Fs r k)
    (i : ∀ a S' H' Fs' δ', Grow S H Fs S' H' Fs' → Wd C S' H' Fs' σ δ' → k a S' H' Fs' δ' → k' a S' H' Fs' δ') : Aft C W σ S H Fs r k' := by
  cases r with
  | ok a δ' => exact fun S' H' Fs' g w => i a S' H' Fs' δ' g w (h S' H' Fs' g w)
  | er x δ' => exact h
  | bad => exact h
theorem Aft.pre {r : Res α} {k : α → Hp → Hp → (Nat → List Addr) → List O → Prop} (h : Aft C W σ S H Fs r k) (g : Grow S H Fs S1 H1 F1) : Aft C W σ S1 H1 F1 r k := by
  cases r with
  | ok a δ' => exact fun S' H' Fs' g' w => h S' H' Fs' (g.trans g') w
  | er x δ' => exact fun cls dd S' H' Fs' g' w => h cls dd S' H' Fs' (g.trans g') w
  | bad => exact h
theorem Aft.bind {f : M α} {g : α → M β} {δ : List O} {k : β → Hp → Hp → (Nat → List Addr) → List O → Prop} (h : Aft C W σ S H Fs (bnd f g δ) k) :
    Aft C W σ S H Fs (f δ) (fun a S' H' Fs' δ' => Aft C W σ S' H' Fs' (g a δ') k) := by
  unfold bnd at h
  cases q : f δ with
  | ok a δ' => rw [q] at h; exact fun S' H' Fs' g' w => Aft.pre h g'
  | er x δ' => rw [q] at h; exact h
  | bad => rw [q] at h; exact h
theorem Aft.now {a : α} {δ : List O} {k : α → Hp → Hp → (Nat → List Addr) → List O → Prop} (w : Wd C S H Fs σ δ) (h : Aft C W σ S H Fs (.ok a δ) k) : k a S H Fs δ :=
  h S H Fs (Grow.refl _ _ _) w
/-- where things are new, nothing else -/
theorem Aft.newly {a : α} {δ : List O} {S' H' : Hp} {k : α → Hp → Hp → (Nat → List Addr) → List O → Prop} (w : Wd C S H Fs σ δ) (h : Aft C W σ S H Fs (.ok a δ) k)
    (l : Le S S') (e : Le H H') (n : ∀ a, S' a ≠ none → S a ≠ none ∨ H a = none) (le : Le S' H') : k a S' H' Fs δ :=
  h S' H' Fs (Grow.new l e n) (w.new l e n le)
end
/-- an expression that tells a datum; a truth; a thing of its own; a datum that is lent for now -/
def tD (C : Ct) (W : WX) (f : M D) : TE := fun σ H Q => ∃ S Fs δ, Wd C S H Fs σ δ ∧ Aft C W σ S H Fs (f δ) fun d S' H' _ _ => ∀ v, Rp C S' d v → Q v H'
def tT (C : Ct) (W : WX) (f : M Bool) : TT := fun σ H Q => ∃ S Fs δ, Wd C S H Fs σ δ ∧ Aft C W σ S H Fs (f δ) fun b _ H' _ _ => Q b H'
def RpB (C : Ct) (S H : Hp) (d : D) (v : V) : Prop := Rp C S d v ∨ ∃ l vs ds, d = .lst ds ∧ v = .ref l ∧ H l = some (.lst vs) ∧ RpL C S ds vs
def tB (C : Ct) (W : WX) (f : M D) : TE := fun σ H Q => ∃ S Fs δ, Wd C S H Fs σ δ ∧ Aft C W σ S H Fs (f δ) fun d S' H' _ _ => ∀ v, RpB C S' H' d v → Q v H'
def tO (C : Ct) (W : WX) (f : M O) : TE := fun σ H Q => ∃ S Fs δ, Wd C S H Fs σ δ ∧ Aft C W σ S H Fs (f δ) fun o S' H' Fs' _ =>
  ∀ v F, RpO C S' H' o v F → F.Nodup → (∀ a ∈ F, ∀ i, a ∉ Fs' i) → (∀ a ∈ F, H a = none ∨ ∃ j, a ∈ Fs j) → Q v H'
structure PD (X : Cx) (C : Ct) (W : WX) (e : Expr) (f : M D) : Prop where
  pe : PE X e (tD C W f)
structure PB (X : Cx) (C : Ct) (W : WX) (e : Expr) (f : M D) : Prop where
  pe : PE X e (tB C W f)
structure PN (X : Cx) (C : Ct) (W : WX) (e : Expr) (f : M O) : Prop where
  pe : PE X e (tO C W f)
structure PQ (X : Cx) (C : Ct) (W : WX) (e : Expr) (f : M Bool) : Prop where
  pt : PT X e (tT C W f)

section
variable {X : Cx} {C : Ct} {W : WX} {e ea eb : Expr} {pos : Pos} {f fa fb : M D}
theorem PD.b (h : PD X C W e f) : PB X C W e f := ⟨PE.imp h.pe fun σ H Q ⟨S, Fs, δ, w, q⟩ => ⟨S, Fs, δ, w, q.mono fun _ _ _ _ _ _ _ q v r => q v (.inl r)⟩⟩
def shM (f : M D) : M O := bnd f fun d => ret (.sh d)
theorem PD.o (h : PD X C W e f) : PN X C W e (shM f) := ⟨PE.imp h.pe fun σ H Q ⟨S, Fs, δ, w, q⟩ => ⟨S, Fs, δ, w, (Aft.bind q).mono fun d S' H' F' δ' g w' q v r =>
  q.now w' v [] (by simp only [RpO]; exact ⟨r, trivial⟩) List.nodup_nil (fun _ z => nomatch z) fun _ z => nomatch z⟩⟩

/-! ### names and constants -/
def slot (i : Nat) (δ : List O) : Option O := δ[i]?
/-- the name in the i-th slot, a datum -/
def gv (i : Nat) : M D := fun δ => match δ[i]? with
  | some (.sh d) => .ok d δ
  | _ => .bad
def cst (d : D) : M D := ret d
theorem pd_var {i : Nat} (h : PE X e (tVar i)) : PD X C W e (gv i) := by
  refine ⟨PE.imp h fun σ H Q ⟨S, Fs, δ, w, q⟩ => ?_⟩
  unfold gv at q
  cases e : δ[i]? with
  | none => rw [e] at q; exact q.elim
  | some o =>
    rw [e] at q
    cases o with
    | sh d =>
      obtain ⟨v, e1, r⟩ := w.sl i _ e (by simp)
      simp only [RpO] at r
      exact ⟨v, e1, q.now w v r.1⟩
    | no => exact q.elim
    | fz ds => exact q.elim
    | ol xs => exact q.elim
    | ob c ns xs => exact q.elim
theorem pd_c {d : D} {v : V} (h : PE X e (tC v)) (r : ∀ S, Rp C S d v) : PD X C W e (cst d) := by
  refine ⟨PE.imp h fun σ H Q ⟨S, Fs, δ, w, q⟩ => ?_⟩
  exact q.now w v (r S)
theorem pd_int {i : Int} {j} : PD X C W (.Constant (.int i) j pos) (cst (.int i)) := pd_c pe_int fun S => by simp only [Rp]
theorem pd_bl {b : Bool} {j} : PD X C W (.Constant (.bool b) j pos) (cst (.bl b)) := pd_c pe_bl fun S => by simp only [Rp]
theorem pd_non {j} : PD X C W (.Constant .none j pos) (cst .non) := pd_c pe_non fun S => by simp only [Rp]
theorem pd_str {x : Str} {j} : PD X C W (.Constant (.str x) j pos) (cst (.str x)) := pd_c pe_str fun S => by simp only [Rp]
/-- the name in the i-th slot, a list of its own, lent -/
def leafs : List O → Option (List D)
  | [] => some []
  | .sh d :: r => (leafs r).map (d :: ·)
  | _ :: _ => none
theorem leafs_eq : ∀ {os : List O} {ds : List D}, leafs os = some ds → os = ds.map .sh
  | [], ds, h => by simp only [leafs, Option.some.injEq] at h; subst h; rfl
  | .sh d :: r, ds, h => by
    simp only [leafs, Option.map_eq_some_iff] at h
    obtain ⟨es, h1, h2⟩ := h
    subst h2
    rw [leafs_eq h1]; rfl
  | .no :: r, ds, h => by simp [leafs] at h
  | .fz _ :: r, ds, h => by simp [leafs] at h
  | .ol _ :: r, ds, h => by simp [leafs] at h
  | .ob _ _ _ :: r, ds, h => by simp [leafs] at h
theorem leafs_map : ∀ ds : List D, leafs (ds.map .sh) = some ds
  | [] => rfl
  | d :: ds => by simp [leafs, leafs_map ds]
def gb (i : Nat) : M D := fun δ => match δ[i]? with
  | some (.ol os) => match leafs os with
    | some ds => .ok (.lst ds) δ
    | none => .bad
  | some (.sh d) => .ok d δ
  | _ => .bad
theorem pb_var {i : Nat} (h : PE X e (tVar i)) : PB X C W e (gb i) := by
  refine ⟨PE.imp h fun σ H Q ⟨S, Fs, δ, w, q⟩ => ?_⟩
  unfold gb at q
  cases e : δ[i]? with
  | none => rw [e] at q; exact q.elim
  | some o =>
    rw [e] at q
    cases o with
    | sh d =>
      obtain ⟨v, e1, r⟩ := w.sl i _ e (by simp)
      simp only [RpO] at r
      exact ⟨v, e1, q.now w v (.inl r.1)⟩
    | no => exact q.elim
    | fz ds => exact q.elim
    | ol xs =>
      dsimp only at q
      cases e2 : leafs xs with
      | none => rw [e2] at q; exact q.elim
      | some ds =>
        rw [e2] at q
        obtain ⟨v, e1, r⟩ := w.sl i _ e (by simp)
        simp only [RpO] at r
        obtain ⟨l, vs, F', h1, h2, h3, h4, h5⟩ := r
        rw [leafs_eq e2] at h5
        exact ⟨v, e1, q.now w v (.inr ⟨l, vs, ds, rfl, h1, h4, (RpOL.leaves ds vs F' h5).2⟩)⟩
    | ob c ns xs => exact q.elim
theorem RpB.l {S H : Hp} {ds : List D} {v : V} (le : Le S H) (h : RpB C S H (.lst ds) v) : ∃ l vs, v = .ref l ∧ H l = some (.lst vs) ∧ RpL C S ds vs := by
  rcases h with h | ⟨l, vs, es, h1, h2, h3, h4⟩
  · simp only [Rp] at h
    obtain ⟨l, vs, h1, h2, h3⟩ := h
    exact ⟨l, vs, h1, le l _ h2, h3⟩
  · cases h1
    exact ⟨l, vs, h2, h3, h4⟩
theorem RpB.t {S H : Hp} {ds : List D} {v : V} (le : Le S H) (h : RpB C S H (.tup ds) v) : ∃ l vs, v = .ref l ∧ SqT C.K H l vs ∧ RpL C S ds vs := by
  rcases h with h | ⟨l, vs, es, h1, h2, h3, h4⟩
  · simp only [Rp] at h
    obtain ⟨l, vs, h1, h2, h3⟩ := h
    exact ⟨l, vs, h1, le.t h2, h3⟩
  · cases h1
/-- what is lent stays lent where nothing of its own is changed: in the same heap with new things -/
theorem RpB.d {S H : Hp} {d : D} {v : V} (h : RpB C S H d v) (n : ∀ ds, d ≠ .lst ds) : Rp C S d v := by
  rcases h with h | ⟨l, vs, ds, h1, _⟩
  · exact h
  · exact absurd h1 (n ds)

/-! ### two places, by values -/
/-- a rule of two values: g tells the datum; r's question is met -/
def op2 (g : D → D → Option D) (fa fb : M D) : M D := bnd fa fun x => bnd fb fun y => opt (g x y)
/-- what a value asks where d comes of it, with new things alone -/
def Newly (C : Ct) (S H : Hp) (d : D) (Q : VK) : Prop := ∀ z S' H', Le S S' → Le H H' → (∀ a, S' a ≠ none → S a ≠ none ∨ H a = none) → Le S' H' → Rp C S' d z → Q z H'
theorem Newly.now {S H : Hp} {d : D} {Q : VK} (h : Newly C S H d Q) (le : Le S H) {z : V} (r : Rp C S d z) : Q z H := h z S H (Le.refl S) (Le.refl H) (fun _ q => .inl q) le r
/-- what a rule r of two values asks, if g tells d -/
def Meets2 (C : Ct) (r : R2) (g : D → D → Option D) : Prop := ∀ (S H : Hp) (x y d : D) (v u : V) (Q : VK), Le S H → RpB C S H x v → RpB C S H y u → g x y = some d → Newly C S H d Q → r v u H Q
theorem pd_op2 {r : R2} {g : D → D → Option D} (m : Meets2 C r g) (h : ∀ ta tb, PE X ea ta → PE X eb tb → PE X e (tOp r ta tb)) (ha : PD X C W ea fa) (hb : PB X C W eb fb) : PD X C W e (op2 g fa fb) := by
  refine ⟨PE.imp (h _ _ ha.pe hb.pe) fun σ H Q ⟨S, Fs, δ, w, q⟩ => ⟨S, Fs, δ, w, (Aft.bind q).mono fun x S1 H1 F1 δ1 g1 w1 q1 v r1 => ⟨S1, F1, δ1, w1, (Aft.bind q1).mono fun y S2 H2 F2 δ2 g2 w2 q2 u r2 => ?_⟩⟩⟩
  cases eg : g x y with
  | none => rw [eg] at q2; exact q2.elim
  | some d =>
    rw [eg] at q2
    exact m S2 H2 x y d v u Q w2.le (.inl (r1.mono g2.ls)) r2 eg fun z S' H' l1 l2 n l3 rz => q2.newly w2 l1 l2 n l3 z rz
/-- a lent slot, at the end -/
theorem gb_end {i : Nat} {δ : List O} {σ : L2.St} {S H : Hp} {Fs : Nat → List Addr} {k : D → Hp → Hp → (Nat → List Addr) → List O → Prop} (w : Wd C S H Fs σ δ) (q : Aft C W σ S H Fs (gb i δ) k) :
    ∃ d v, σ[i]? = some (some v) ∧ RpB C S H d v ∧ k d S H Fs δ := by
  unfold gb at q
  cases e : δ[i]? with
  | none => rw [e] at q; exact q.elim
  | some o =>
    rw [e] at q
    cases o with
    | sh d =>
      obtain ⟨v, e1, r⟩ := w.sl i _ e (by simp)
      simp only [RpO] at r
      exact ⟨d, v, e1, .inl r.1, q.now w⟩
    | no => exact q.elim
    | fz ds => exact q.elim
    | ol xs =>
      dsimp only at q
      cases e2 : leafs xs with
      | none => rw [e2] at q; exact q.elim
      | some ds =>
        rw [e2] at q
        obtain ⟨v, e1, r⟩ := w.sl i _ e (by simp)
        simp only [RpO] at r
        obtain ⟨l, vs, F', h1, h2, h3, h4, h5⟩ := r
        rw [leafs_eq e2] at h5
        exact ⟨.lst ds, v, e1, .inr ⟨l, vs, ds, rfl, h1, h4, (RpOL.leaves ds vs F' h5).2⟩, q.now w⟩
    | ob c ns xs => exact q.elim
/-- the left one a slot that is lent, read behind the right one -/
def op2s (g : D → D → Option D) (i : Nat) (fb : M D) : M D := bnd (gb i) fun _ => bnd fb fun y => bnd (gb i) fun x => opt (g x y)
theorem pd_op2s {r : R2} {g : D → D → Option D} {i : Nat} (m : Meets2 C r g) (h : ∀ tb, PE X eb tb → PE X e (tOp r (tVar i) tb)) (hb : PB X C W eb fb) : PD X C W e (op2s g i fb) := by
  refine ⟨PE.imp (h _ hb.pe) fun σ H Q ⟨S, Fs, δ, w, q⟩ => ?_⟩
  obtain ⟨_, v0, e0, _, q0⟩ := gb_end w (Aft.bind q)
  refine ⟨v0, e0, S, Fs, δ, w, (Aft.bind q0).mono fun y S2 H2 F2 δ2 g2 w2 q2 u r2 => ?_⟩
  obtain ⟨x, v, e1, r1, q3⟩ := gb_end w2 (Aft.bind q2)
  rw [e0] at e1; cases e1
  cases eg : g x y with
  | none => rw [eg] at q3; exact q3.elim
  | some d =>
    rw [eg] at q3
    exact m S2 H2 x y d v0 u Q w2.le r1 r2 eg fun z S' H' l1 l2 n l3 rz => q3.newly w2 l1 l2 n l3 z rz
end
end FW

set_option Elab.async false
set_option linter.all false
set_option maxRecDepth 100000
set_option maxHeartbeats 1000000
/-! FwC: operators over plain data. -/
namespace FW
open PySem PySem.Spec PyProof.Rows L2
mutual
def D.py : D → Option PyData
  | .non => some .none
  | .bl b => some (.bool b)
  | .int i => some (.int i)
  | .str x => some (.str x)
  | .tup ds => (D.pys ds).map .tuple
  | .lst ds => (D.pys ds).map .list
  | .gl _ => none
  | .clo _ => none
def D.pys : List D → Option (List PyData)
  | [] => some []
  | d :: ds => match D.py d, D.pys ds with
    | some p, some ps => some (p :: ps)
    | _, _ => none
end
section
variable {C : Ct} {S H : Hp}
mutual
theorem py_dp (le : Le S H) : ∀ (d : D) (v : V) (p : PyData), Rp C S d v → d.py = some p → Dp C.K H v p
  | .non, v, p, h, e => by simp only [D.py, Rp, Option.some.injEq] at h e; subst h; subst e; exact .non
  | .bl b, v, p, h, e => by simp only [D.py, Rp, Option.some.injEq] at h e; subst h; subst e; exact .bl b
  | .int i, v, p, h, e => by simp only [D.py, Rp, Option.some.injEq] at h e; subst h; subst e; exact .int i
  | .str x, v, p, h, e => by simp only [D.py, Rp, Option.some.injEq] at h e; subst h; subst e; exact .str x
  | .tup ds, v, p, h, e => by
    simp only [D.py, Rp, Option.map_eq_some_iff] at h e
    obtain ⟨a, vs, h1, h2, h3⟩ := h
    obtain ⟨ps, e1, e2⟩ := e
    subst h1; subst e2
    exact .tup (le.t h2) (pys_dp le ds vs ps h3 e1)
  | .lst ds, v, p, h, e => by
    simp only [D.py, Rp, Option.map_eq_some_iff] at h e
    obtain ⟨a, vs, h1, h2, h3⟩ := h
    obtain ⟨ps, e1, e2⟩ := e
    subst h1; subst e2
    exact .lst (SqL.of (le a _ h2)) (pys_dp le ds vs ps h3 e1)
  | .gl x, v, p, h, e => by simp [D.py] at e
  | .clo x, v, p, h, e => by simp [D.py] at e
theorem pys_dp (le : Le S H) : ∀ (ds : List D) (vs : List V) (ps : List PyData), RpL C S ds vs → D.pys ds = some ps → DpAll C.K H vs ps
  | [], vs, ps, h, e => by simp only [D.pys, RpL, Option.some.injEq] at h e; subst h; subst e; exact .nil
  | d :: ds, vs, ps, h, e => by
    simp only [RpL] at h
    obtain ⟨v, r, h1, h2, h3⟩ := h
    subst h1
    unfold D.pys at e
    cases e1 : d.py with
    | none => rw [e1] at e; cases e
    | some p =>
      cases e2 : D.pys ds with
      | none => rw [e1, e2] at e; cases e
      | some qs =>
        rw [e1, e2] at e
        cases e
        exact .cons (py_dp le d v p h2 e1) (pys_dp le ds r qs h3 e2)
end
theorem pyb_dp (le : Le S H) {d : D} {v : V} {p : PyData} (h : RpB C S H d v) (e : d.py = some p) : Dp C.K H v p := by
  rcases h with h | ⟨l, vs, ds, h1, h2, h3, h4⟩
  · exact py_dp le d v p h e
  · subst h1; subst h2
    simp only [D.py, Option.map_eq_some_iff] at e
    obtain ⟨ps, e1, e2⟩ := e
    subst e2
    exact .lst (SqL.of h3) (pys_dp le ds vs ps h4 e1)
end
/-- the reading of a rule of two values by data -/
def rG (C : Ct) (g : D → D → Option D) : R2 := fun x y H Q => ∃ S d e z, Le S H ∧ RpB C S H d x ∧ RpB C S H e y ∧ g d e = some z ∧ Newly C S H z Q
theorem rG_meets (C : Ct) (g : D → D → Option D) : Meets2 C (rG C g) g := fun S H x y d v u Q le rx ry e n => ⟨S, x, y, d, le, rx, ry, e, n⟩
section
variable {C : Ct} {S H : Hp} {Q : VK}
/-- a new tuple, a new list, at p -/
theorem new_le (le : Le S H) {p : Addr} {o : HO} (hp : H p = none) : Le S (upd S p o) ∧ Le H (upd H p o) ∧ (∀ a, upd S p o a ≠ none → S a ≠ none ∨ H a = none) ∧ Le (upd S p o) (upd H p o) := by
  have hs : S p = none := le.none hp
  refine ⟨Le.upd hs, Le.upd hp, fun a h => ?_, fun a u h => ?_⟩
  · by_cases ha : a = p
    · subst ha; exact .inr hp
    · rw [upd_ne ha] at h; exact .inl h
  · by_cases ha : a = p
    · subst ha; rw [upd_same] at h ⊢; exact h
    · rw [upd_ne ha] at h ⊢; exact le a u h
theorem Newly.tup {ds : List D} {vs : List V} (n : Newly C S H (.tup ds) Q) (le : Le S H) (r : RpL C S ds vs) {p : Addr} (hp : H p = none) : Q (.ref p) (upd H p (.tup vs)) := by
  obtain ⟨l1, l2, l3, l4⟩ := new_le (o := .tup vs) le hp
  refine n (.ref p) _ _ l1 l2 l3 l4 ?_
  simp only [Rp]
  exact ⟨p, vs, rfl, SqT.of upd_same, r.mono l1⟩
theorem Newly.lst {ds : List D} {vs : List V} (n : Newly C S H (.lst ds) Q) (le : Le S H) (r : RpL C S ds vs) {p : Addr} (hp : H p = none) : Q (.ref p) (upd H p (.lst vs)) := by
  obtain ⟨l1, l2, l3, l4⟩ := new_le (o := .lst vs) le hp
  refine n (.ref p) _ _ l1 l2 l3 l4 ?_
  simp only [Rp]
  exact ⟨p, vs, rfl, upd_same, r.mono l1⟩
theorem Rp.int_inv {i : Int} {v : V} (h : RpB C S H (.int i) v) : v = .int i := by
  have := h.d (fun _ z => by cases z); simpa only [Rp] using this
theorem Rp.str_inv {x : Str} {v : V} (h : RpB C S H (.str x) v) : v = .str x := by
  have := h.d (fun _ z => by cases z); simpa only [Rp] using this
theorem Rp.bl_inv {x : Bool} {v : V} (h : RpB C S H (.bl x) v) : v = .bl x := by
  have := h.d (fun _ z => by cases z); simpa only [Rp] using this
theorem Rp.non_inv {v : V} (h : RpB C S H .non v) : v = .non := by
  have := h.d (fun _ z => by cases z); simpa only [Rp] using this
end
def bigLim : Nat := 16777216
theorem big_le {n : Nat} (h : n ≤ bigLim) : n ≤ sizeLine := by rw [sizeLine_eq]; exact h

def addD : D → D → Option D
  | .int i, .int j => some (.int (i + j))
  | .str x, .str y => if x.length + y.length ≤ 16777216 then some (.str (x ++ y)) else none
  | .tup xs, .tup ys => if xs.length + ys.length ≤ 16777216 then some (.tup (xs ++ ys)) else none
  | .lst xs, .lst ys => if xs.length + ys.length ≤ 16777216 then some (.lst (xs ++ ys)) else none
  | _, _ => none
def subD : D → D → Option D
  | .int i, .int j => some (.int (i - j))
  | _, _ => none
def mulD : D → D → Option D
  | .int i, .int j => if (-18446744073709551616 < i ∧ i < 18446744073709551616) ∨ (-18446744073709551616 < j ∧ j < 18446744073709551616) then some (.int (i * j)) else none
  | .lst xs, .int k => if -1 < k ∧ xs.length * k.toNat ≤ 16777216 ∧ k ≤ 1000000 then some (.lst (List.replicate k.toNat xs).flatten) else none
  | .tup xs, .int k => if xs ≠ [] ∧ 2 ≤ k ∧ k ≤ 1000 ∧ xs.length ≤ 1000 then some (.tup (List.replicate k.toNat xs).flatten) else none
  | _, _ => none
def fdivD : D → D → Option D
  | .int i, .int j => if 0 < j ∧ j < 1073741824 then some (.int (i / j)) else none
  | _, _ => none
def modD : D → D → Option D
  | .int i, .int j => if 0 < j then some (.int (i % j)) else none
  | _, _ => none
def powD : D → D → Option D
  | .int i, .int j => if 0 ≤ j ∧ j ≤ 1000000 ∧ i.natAbs < 18446744073709551616 then some (.int (i ^ j.toNat)) else none
  | _, _ => none
def ltD : D → D → Option D
  | .int i, .int j => some (.bl (decide (i < j)))
  | _, _ => none
def leD : D → D → Option D
  | .int i, .int j => some (.bl (decide (i ≤ j)))
  | _, _ => none
def gtD : D → D → Option D
  | .int i, .int j => some (.bl (decide (j < i)))
  | _, _ => none
def geD : D → D → Option D
  | .int i, .int j => some (.bl (decide (j ≤ i)))
  | _, _ => none
def eqB (d e : D) : Option Bool := match d.py, e.py with
  | some p, some q => if SeqAt.shaped p && SeqAt.shaped q then some (PyData.eqv p q) else none
  | _, _ => none
def eqD (d e : D) : Option D := (eqB d e).map .bl
def neD (d e : D) : Option D := (eqB d e).map fun b => .bl (!b)
def inB (d : D) : D → Option Bool
  | .lst es => match d.py, D.pys es with
    | some p, some qs => if SeqAt.shaped p && SeqAt.shaped (.list qs) then some (qs.any fun z => PyData.eqv z p) else none
    | _, _ => none
  | .tup es => match d.py, D.pys es with
    | some p, some qs => if SeqAt.shaped p && SeqAt.shaped (.list qs) then some (qs.any fun z => PyData.eqv z p) else none
    | _, _ => none
  | _ => none
def inD (d e : D) : Option D := (inB d e).map .bl
def notInD (d e : D) : Option D := (inB d e).map fun b => .bl (!b)
def isNonD : D → D → Option D
  | .non, .non => some (.bl true)
  | _, .non => some (.bl false)
  | _, _ => none
def notNonD (d e : D) : Option D := match isNonD d e with
  | some (.bl b) => some (.bl (!b))
  | _ => none
theorem RpL.rep {C : Ct} {S : Hp} {ds : List D} {vs : List V} (h : RpL C S ds vs) : ∀ n : Nat, RpL C S (List.replicate n ds).flatten (List.replicate n vs).flatten
  | 0 => by simp only [List.replicate_zero, List.flatten_nil, RpL]
  | n + 1 => by
    simp only [List.replicate_succ, List.flatten_cons]
    exact RpL.append _ _ _ _ h (RpL.rep h n)
theorem lim64 : (18446744073709551616 : Int) = 2 ^ 64 := by decide
section
variable {X : Cx} {C : Ct}
theorem og_add (hK : C.K = X.K := by rfl) : OpR X (binaryOp .Add) (rG C addD) := by
  intro pins s σ H x y v u Q I rx ry ⟨S, d, e, z, le, rd, re, eg, new⟩
  unfold addD at eg
  split at eg
  · cases eg
    rw [Rp.int_inv rd] at rx; rw [Rp.int_inv re] at ry
    exact op_add pins s σ H _ _ v u Q I rx ry ⟨_, _, rfl, rfl, new.now le (by simp only [Rp])⟩
  · split at eg
    · cases eg
      rename_i hz
      rw [Rp.str_inv rd] at rx; rw [Rp.str_inv re] at ry
      exact op_add_str pins s σ H _ _ v u Q I rx ry ⟨_, _, rfl, rfl, big_le hz, new.now le (by simp only [Rp])⟩
    · cases eg
  · split at eg
    · cases eg
      rename_i xs ys hz
      have rd' := rd.d (fun _ z => by cases z)
      have re' := re.d (fun _ z => by cases z)
      obtain ⟨a, vs, rfl, h1, r1⟩ := rd.t le
      obtain ⟨b, ws, rfl, h2, r2⟩ := re.t le
      rw [hK] at h1 h2
      have l1 := RpL.length _ _ r1
      have l2 := RpL.length _ _ r2
      refine op_catA pins s σ H _ _ v u Q I rx ry ⟨a, b, vs, ws, rfl, rfl, h1, h2, by rw [l1, l2]; exact big_le hz, fun e1 => ?_, fun _ e2 => ?_, fun _ _ p hp => new.tup le (RpL.append _ _ _ _ r1 r2) hp⟩
      · subst e1
        have : xs = [] := by cases xs with
          | nil => rfl
          | cons _ _ => cases l1
        subst this
        exact new.now le re'
      · subst e2
        have : ys = [] := by cases ys with
          | nil => rfl
          | cons _ _ => cases l2
        subst this
        rw [List.append_nil] at new
        exact new.now le rd'
    · cases eg
  · split at eg
    · cases eg
      rename_i xs ys hz
      obtain ⟨a, vs, rfl, h1, r1⟩ := rd.l le
      obtain ⟨b, ws, rfl, h2, r2⟩ := re.l le
      have l1 := RpL.length _ _ r1
      have l2 := RpL.length _ _ r2
      exact op_cat pins s σ H _ _ v u Q I rx ry ⟨a, b, vs, ws, rfl, rfl, h1, h2, by rw [l1, l2]; exact big_le hz, fun p hp => new.lst le (RpL.append _ _ _ _ r1 r2) hp⟩
    · cases eg
  · cases eg
theorem og_sub : OpR X (binaryOp .Sub) (rG C subD) := by
  intro pins s σ H x y v u Q I rx ry ⟨S, d, e, z, le, rd, re, eg, new⟩
  unfold subD at eg
  split at eg
  · cases eg
    rw [Rp.int_inv rd] at rx; rw [Rp.int_inv re] at ry
    exact op_sub pins s σ H _ _ v u Q I rx ry ⟨_, _, rfl, rfl, new.now le (by simp only [Rp])⟩
  · cases eg
theorem og_mul (hK : C.K = X.K := by rfl) : OpR X (binaryOp .Mult) (rG C mulD) := by
  intro pins s σ H x y v u Q I rx ry ⟨S, d, e, z, le, rd, re, eg, new⟩
  unfold mulD at eg
  split at eg
  · split at eg
    · cases eg
      rename_i hz
      rw [Rp.int_inv rd] at rx; rw [Rp.int_inv re] at ry
      exact op_mul pins s σ H _ _ v u Q I rx ry ⟨_, _, rfl, rfl, hz, new.now le (by simp only [Rp])⟩
    · cases eg
  · split at eg
    · cases eg
      rename_i hz
      rw [Rp.int_inv re] at ry
      obtain ⟨a, vs, rfl, h1, r1⟩ := rd.l le
      have l1 := RpL.length _ _ r1
      exact op_rep pins s σ H _ _ v u Q I rx ry ⟨a, _, vs, rfl, rfl, h1, by omega, by omega, by rw [l1]; exact big_le hz.2.1, fun p hp => new.lst le (r1.rep _) hp⟩
    · cases eg
  · split at eg
    · cases eg
      rename_i hz
      rw [Rp.int_inv re] at ry
      obtain ⟨a, vs, rfl, h1, r1⟩ := rd.t le
      rw [hK] at h1
      have l1 := RpL.length _ _ r1
      exact op_repT pins s σ H _ _ v u Q I rx ry ⟨a, _, vs, rfl, rfl, h1, (by
        intro z; subst z; apply hz.1; cases ‹List D› with
        | nil => rfl
        | cons _ _ => cases l1), hz.2.1, hz.2.2.1, by rw [l1]; exact hz.2.2.2, fun p hp => new.tup le (r1.rep _) hp⟩
    · cases eg
  · cases eg
theorem og_fdiv : OpR X (binaryOp .FloorDiv) (rG C fdivD) := by
  intro pins s σ H x y v u Q I rx ry ⟨S, d, e, z, le, rd, re, eg, new⟩
  unfold fdivD at eg
  split at eg
  · split at eg
    · cases eg
      rename_i hz
      rw [Rp.int_inv rd] at rx; rw [Rp.int_inv re] at ry
      exact op_fdiv pins s σ H _ _ v u Q I rx ry ⟨_, _, rfl, rfl, hz, new.now le (by simp only [Rp])⟩
    · cases eg
  · cases eg
theorem og_mod : OpR X (binaryOp .Mod) (rG C modD) := by
  intro pins s σ H x y v u Q I rx ry ⟨S, d, e, z, le, rd, re, eg, new⟩
  unfold modD at eg
  split at eg
  · split at eg
    · cases eg
      rename_i hz
      rw [Rp.int_inv rd] at rx; rw [Rp.int_inv re] at ry
      exact op_mod pins s σ H _ _ v u Q I rx ry ⟨_, _, rfl, rfl, hz, new.now le (by simp only [Rp])⟩
    · cases eg
  · cases eg
theorem og_pow : OpR X (binaryOp .Pow) (rG C powD) := by
  intro pins s σ H x y v u Q I rx ry ⟨S, d, e, z, le, rd, re, eg, new⟩
  unfold powD at eg
  split at eg
  · split at eg
    · cases eg
      rename_i hz
      rw [Rp.int_inv rd] at rx; rw [Rp.int_inv re] at ry
      exact op_pow pins s σ H _ _ v u Q I rx ry ⟨_, _, rfl, rfl, hz, new.now le (by simp only [Rp])⟩
    · cases eg
  · cases eg
theorem og_lt : OpR X (compareOp .Lt) (rG C ltD) := by
  intro pins s σ H x y v u Q I rx ry ⟨S, d, e, z, le, rd, re, eg, new⟩
  unfold ltD at eg
  split at eg
  · cases eg
    rw [Rp.int_inv rd] at rx; rw [Rp.int_inv re] at ry
    exact op_lt pins s σ H _ _ v u Q I rx ry ⟨_, _, rfl, rfl, new.now le (by simp only [Rp])⟩
  · cases eg
theorem og_le : OpR X (compareOp .LtE) (rG C leD) := by
  intro pins s σ H x y v u Q I rx ry ⟨S, d, e, z, le, rd, re, eg, new⟩
  unfold leD at eg
  split at eg
  · cases eg
    rw [Rp.int_inv rd] at rx; rw [Rp.int_inv re] at ry
    exact op_le pins s σ H _ _ v u Q I rx ry ⟨_, _, rfl, rfl, new.now le (by simp only [Rp])⟩
  · cases eg
theorem og_gt : OpR X (compareOp .Gt) (rG C gtD) := by
  intro pins s σ H x y v u Q I rx ry ⟨S, d, e, z, le, rd, re, eg, new⟩
  unfold gtD at eg
  split at eg
  · cases eg
    rw [Rp.int_inv rd] at rx; rw [Rp.int_inv re] at ry
    exact op_gt pins s σ H _ _ v u Q I rx ry ⟨_, _, rfl, rfl, new.now le (by simp only [Rp])⟩
  · cases eg
theorem og_ge : OpR X (compareOp .GtE) (rG C geD) := by
  intro pins s σ H x y v u Q I rx ry ⟨S, d, e, z, le, rd, re, eg, new⟩
  unfold geD at eg
  split at eg
  · cases eg
    rw [Rp.int_inv rd] at rx; rw [Rp.int_inv re] at ry
    exact op_ge pins s σ H _ _ v u Q I rx ry ⟨_, _, rfl, rfl, new.now le (by simp only [Rp])⟩
  · cases eg
theorem eqB_inv {d e : D} {b : Bool} (h : eqB d e = some b) : ∃ p q, d.py = some p ∧ e.py = some q ∧ SeqAt.shaped p = true ∧ SeqAt.shaped q = true ∧ PyData.eqv p q = b := by
  unfold eqB at h
  split at h
  · rename_i p q h1 h2
    split at h
    · rename_i hs
      rw [Bool.and_eq_true] at hs
      cases h
      exact ⟨p, q, h1, h2, hs.1, hs.2, rfl⟩
    · cases h
  · cases h
theorem og_eq (hu : X.A.units + 64 < cLine) (hK : C.K = X.K := by rfl) : OpR X (compareOp .Eq) (rG C eqD) := by
  intro pins s σ H x y v u Q I rx ry ⟨S, d, e, z, le, rd, re, eg, new⟩
  simp only [eqD, Option.map_eq_some_iff] at eg
  obtain ⟨b, eb, rfl⟩ := eg
  obtain ⟨p, q, h1, h2, s1, s2, hb⟩ := eqB_inv eb
  have a1 := pyb_dp le rd h1
  have a2 := pyb_dp le re h2
  rw [hK] at a1 a2
  exact op_eqD hu pins s σ H x y v u Q I rx ry ⟨p, q, a1, a2, s1, s2, new.now le (by simp only [Rp]; rw [hb])⟩
theorem og_ne (hu : X.A.units + 64 < cLine) (hK : C.K = X.K := by rfl) : OpR X (compareOp .NotEq) (rG C neD) := by
  intro pins s σ H x y v u Q I rx ry ⟨S, d, e, z, le, rd, re, eg, new⟩
  simp only [neD, Option.map_eq_some_iff] at eg
  obtain ⟨b, eb, rfl⟩ := eg
  obtain ⟨p, q, h1, h2, s1, s2, hb⟩ := eqB_inv eb
  have a1 := pyb_dp le rd h1
  have a2 := pyb_dp le re h2
  rw [hK] at a1 a2
  exact op_neD hu pins s σ H x y v u Q I rx ry ⟨p, q, a1, a2, s1, s2, new.now le (by simp only [Rp]; rw [hb])⟩
theorem inB_inv {d e : D} {b : Bool} (h : inB d e = some b) : ∃ p qs, d.py = some p ∧ SeqAt.shaped p = true ∧ SeqAt.shaped (.list qs) = true ∧ (qs.any fun z => PyData.eqv z p) = b ∧ (e.py = some (.list qs) ∨ e.py = some (.tuple qs)) := by
  unfold inB at h
  split at h
  · split at h
    · rename_i p q h1 h2
      split at h
      · rename_i hs
        rw [Bool.and_eq_true] at hs
        cases h
        exact ⟨p, q, h1, hs.1, hs.2, rfl, .inl (by simp only [D.py, h2, Option.map_some])⟩
      · cases h
    · cases h
  · split at h
    · rename_i p q h1 h2
      split at h
      · rename_i hs
        rw [Bool.and_eq_true] at hs
        cases h
        exact ⟨p, q, h1, hs.1, hs.2, rfl, .inr (by simp only [D.py, h2, Option.map_some])⟩
      · cases h
    · cases h
  · cases h
theorem op_inT (hu : X.A.units + 65 < cLine) (neg : Bool) : OpR X (compareOp (if neg then .NotIn else .In)) (fun x y H Q => ∃ d ds, Dp X.K H x d ∧ Dp X.K H y (.tuple ds) ∧ SeqAt.shaped d = true ∧ SeqAt.shaped (.list ds) = true ∧
    Q (.bl (if neg then !(ds.any fun z => PyData.eqv z d) else ds.any fun z => PyData.eqv z d)) H) := by
  intro pins s σ H x y v u Q I rx ry h
  obtain ⟨d, ds, hd, he, sd, se, q⟩ := h
  obtain ⟨as, r1⟩ := Dp.reads I d x v hd rx
  obtain ⟨bs, r2⟩ := Dp.reads I (.tuple ds) y u he ry
  cases neg with
  | false => exact SeqAt.in_tuple_reads r2 r1 (SeqAt.canLay_of_shaped se) (SeqAt.canLay_of_shaped sd) (room_in_shaped sd hu) ⟨.bl _, H, I, rfl, q⟩
  | true => exact SeqAt.notIn_tuple_reads r2 r1 (SeqAt.canLay_of_shaped se) (SeqAt.canLay_of_shaped sd) (room_in_shaped sd hu) ⟨.bl _, H, I, rfl, q⟩
theorem og_in (hu : X.A.units + 65 < cLine) (hK : C.K = X.K := by rfl) : OpR X (compareOp .In) (rG C inD) := by
  intro pins s σ H x y v u Q I rx ry ⟨S, d, e, z, le, rd, re, eg, new⟩
  simp only [inD, Option.map_eq_some_iff] at eg
  obtain ⟨b, eb, rfl⟩ := eg
  obtain ⟨p, qs, h1, s1, s2, hb, h2⟩ := inB_inv eb
  have a1 := pyb_dp le rd h1
  rw [hK] at a1
  rcases h2 with h2 | h2
  · have a2 := pyb_dp le re h2
    rw [hK] at a2
    exact op_inD hu pins s σ H x y v u Q I rx ry ⟨p, qs, a1, a2, s1, s2, new.now le (by simp only [Rp]; rw [hb])⟩
  · have a2 := pyb_dp le re h2
    rw [hK] at a2
    exact op_inT hu false pins s σ H x y v u Q I rx ry ⟨p, qs, a1, a2, s1, s2, new.now le (by simp only [Rp]; rw [hb]; rfl)⟩
theorem og_notIn (hu : X.A.units + 65 < cLine) (hK : C.K = X.K := by rfl) : OpR X (compareOp .NotIn) (rG C notInD) := by
  intro pins s σ H x y v u Q I rx ry ⟨S, d, e, z, le, rd, re, eg, new⟩
  simp only [notInD, Option.map_eq_some_iff] at eg
  obtain ⟨b, eb, rfl⟩ := eg
  obtain ⟨p, qs, h1, s1, s2, hb, h2⟩ := inB_inv eb
  have a1 := pyb_dp le rd h1
  rw [hK] at a1
  rcases h2 with h2 | h2
  · have a2 := pyb_dp le re h2
    rw [hK] at a2
    exact op_notInD hu pins s σ H x y v u Q I rx ry ⟨p, qs, a1, a2, s1, s2, new.now le (by simp only [Rp]; rw [hb])⟩
  · have a2 := pyb_dp le re h2
    rw [hK] at a2
    exact op_inT hu true pins s σ H x y v u Q I rx ry ⟨p, qs, a1, a2, s1, s2, new.now le (by simp only [Rp]; rw [hb]; rfl)⟩
theorem isNonD_inv {d e : D} {z : D} (h : isNonD d e = some z) {S H : Hp} {v u : V} (rd : RpB C S H d v) (re : RpB C S H e u) : u = .non ∧ z = .bl (decide (v = .non)) := by
  unfold isNonD at h
  split at h
  · cases h
    rw [Rp.non_inv rd]
    exact ⟨Rp.non_inv re, by simp⟩
  · rename_i ne
    cases h
    refine ⟨Rp.non_inv re, ?_⟩
    congr 1
    symm
    refine decide_eq_false fun q => ?_
    subst q
    rcases rd with r | ⟨l, vs, ds, h1, h2, _⟩
    · cases d <;> simp only [Rp] at r
      · exact ne rfl
      all_goals first | cases r; done | (obtain ⟨_, _, h, _⟩ := r; cases h; done) | (obtain ⟨_, h, _⟩ := r; cases h; done)
    · cases h2
  · cases h
theorem og_isNon : OpR X (compareOp .Is) (rG C isNonD) := by
  intro pins s σ H x y v u Q I rx ry ⟨S, d, e, z, le, rd, re, eg, new⟩
  obtain ⟨h1, h2⟩ := isNonD_inv eg rd re
  exact op_isN pins s σ H _ _ v u Q I rx ry ⟨h1, new.now le (by rw [h2]; simp only [Rp])⟩
theorem og_notNon : OpR X (compareOp .IsNot) (rG C notNonD) := by
  intro pins s σ H x y v u Q I rx ry ⟨S, d, e, z, le, rd, re, eg, new⟩
  unfold notNonD at eg
  split at eg
  · rename_i b hb
    cases eg
    obtain ⟨h1, h2⟩ := isNonD_inv hb rd re
    cases h2
    exact op_notN pins s σ H _ _ v u Q I rx ry ⟨h1, new.now le (by simp only [Rp])⟩
  · cases eg
/-- an item by its place -/
def ixD : D → D → Option D
  | .lst ds, .int i => atI ds i
  | .tup ds, .int i => atI ds i
  | .str z, .int i => if z.length ≤ 16777216 then (atI z.cps.toList i).map fun c => .str ⟨#[c]⟩ else none
  | _, _ => none
theorem atI_rp {S : Hp} {ds : List D} {vs : List V} {i : Int} {d : D} (r : RpL C S ds vs) (h : atI ds i = some d) : ∃ v, atI vs i = some v ∧ Rp C S d v := by
  unfold atI at h ⊢
  rw [RpL.length _ _ r]
  cases e : ixN ds.length i with
  | none => rw [e] at h; cases h
  | some j =>
    rw [e] at h
    exact RpL.get' ds vs r j d h
theorem og_ix (hK : C.K = X.K := by rfl) : IxR X (rG C ixD) := by
  intro value slice pins s σ H x y v u Q I rx ry ⟨S, d, e, z, le, rd, re, eg, new⟩ hs
  unfold ixD at eg
  split at eg
  · obtain ⟨a, vs, rfl, h1, r1⟩ := rd.l le
    rw [Rp.int_inv re] at ry
    obtain ⟨w, hw, rw'⟩ := atI_rp r1 eg
    exact ix_list value slice pins s σ H _ _ v u Q I rx ry ⟨a, vs, _, w, rfl, rfl, SqL.of h1, hw, new.now le rw'⟩ hs
  · obtain ⟨a, vs, rfl, h1, r1⟩ := rd.t le
    rw [Rp.int_inv re] at ry
    rw [hK] at h1
    obtain ⟨w, hw, rw'⟩ := atI_rp r1 eg
    exact ix_tup value slice pins s σ H _ _ v u Q I rx ry ⟨a, vs, _, w, rfl, rfl, h1, hw, new.now le rw'⟩ hs
  · split at eg
    · rename_i hz
      rw [Rp.str_inv rd] at rx; rw [Rp.int_inv re] at ry
      rw [Option.map_eq_some_iff] at eg
      obtain ⟨c, hc, rfl⟩ := eg
      exact ix_str value slice pins s σ H _ _ v u Q I rx ry ⟨_, _, c, rfl, rfl, big_le hz, hc, new.now le (by simp only [Rp])⟩ hs
    · cases eg
  · cases eg
end
end FW

set_option Elab.async false
set_option linter.all false
set_option maxRecDepth 100000
set_option maxHeartbeats 1000000
/-! FwD: calls of built-ins, slices, tests, displays; calls of defs; statements; a def's body. -/
namespace FW
open PySem PySem.Spec PyProof.Rows L2
section
variable {X : Cx} {C : Ct} {W : WX} {e ea eb : Expr} {es : List Expr} {pos : Pos} {f fa fb : M D}
/-! ### argument lists of data -/
def tA (C : Ct) (W : WX) (f : M (List D)) : TA := fun σ H Q => ∃ S Fs δ, Wd C S H Fs σ δ ∧ Aft C W σ S H Fs (f δ) fun ds S' H' _ _ => ∀ vs, RpL C S' ds vs → Q vs H'
structure PAd (X : Cx) (C : Ct) (W : WX) (es : List Expr) (f : M (List D)) : Prop where
  pa : PA X es (tA C W f)
def aNil : M (List D) := ret []
def aCons (f : M D) (g : M (List D)) : M (List D) := bnd f fun d => bnd g fun ds => ret (d :: ds)
theorem PA.imp {es : List Expr} {t t' : TA} (p : PA X es t) (h : ∀ σ H Q, t' σ H Q → t σ H Q) : PA X es t' :=
  ⟨fun pos pins s σ H Q I q => p.run pos pins s σ H Q I (h σ H Q q)⟩
theorem pad_nil : PAd X C W [] aNil := ⟨PA.imp pa_nil fun σ H Q ⟨S, Fs, δ, w, q⟩ => q.now w [] (by simp only [RpL])⟩
theorem pad_cons {g : M (List D)} (ha : PD X C W e f) (hr : PAd X C W es g) (hs : starEach (e :: es) X.env = (false, eval e X.env) :: starEach es X.env := by rfl) : PAd X C W (e :: es) (aCons f g) := by
  refine ⟨PA.imp (pa_cons ha.pe hr.pa hs) fun σ H Q ⟨S, Fs, δ, w, q⟩ => ⟨S, Fs, δ, w, (Aft.bind q).mono fun d S1 H1 F1 δ1 g1 w1 q1 v r1 => ⟨S1, F1, δ1, w1, (Aft.bind q1).mono fun ds S2 H2 F2 δ2 g2 w2 q2 vs r2 => ?_⟩⟩⟩
  exact q2.now w2 (v :: vs) (by simp only [RpL]; exact ⟨v, vs, rfl, r1.mono g2.ls, r2⟩)
/-- one argument that is lent -/
def tA1 (C : Ct) (W : WX) (f : M D) : TA := fun σ H Q => ∃ S Fs δ, Wd C S H Fs σ δ ∧ Aft C W σ S H Fs (f δ) fun d S' H' _ _ => ∀ v, RpB C S' H' d v → Q [v] H'
theorem pa_1 (ha : PB X C W e f) (hs : starEach (e :: []) X.env = (false, eval e X.env) :: starEach [] X.env := by rfl) : PA X [e] (tA1 C W f) :=
  PA.imp (pa_cons ha.pe pa_nil hs) fun σ H Q ⟨S, Fs, δ, w, q⟩ => ⟨S, Fs, δ, w, q⟩
/-! ### displays -/
def tupM (f : M (List D)) : M D := bnd f fun ds => if ds.length ≤ 16777216 then ret (.tup ds) else bad
def lstM (f : M (List D)) : M D := bnd f fun ds => if ds.length ≤ 16777216 then ret (.lst ds) else bad
theorem pd_tup {g : M (List D)} {x1} (h : PAd X C W es g) : PD X C W (.Tuple es x1 pos) (tupM g) := by
  refine ⟨PE.imp (pe_tup h.pa) fun σ H Q ⟨S, Fs, δ, w, q⟩ => ⟨S, Fs, δ, w, (Aft.bind q).mono fun ds S1 H1 F1 δ1 g1 w1 q1 vs r1 => ?_⟩⟩
  split at q1
  · rename_i hz
    refine ⟨by rw [RpL.length _ _ r1]; exact big_le hz, fun p hp => ?_⟩
    exact Newly.tup (fun z S' H' l1 l2 l3 l4 rz => q1.newly w1 l1 l2 l3 l4 z rz) w1.le r1 hp
  · exact q1.elim
theorem pd_lst {g : M (List D)} (h : PAd X C W es g) : PD X C W (.List es pos) (lstM g) := by
  refine ⟨PE.imp (pe_lst h.pa) fun σ H Q ⟨S, Fs, δ, w, q⟩ => ⟨S, Fs, δ, w, (Aft.bind q).mono fun ds S1 H1 F1 δ1 g1 w1 q1 vs r1 => ?_⟩⟩
  split at q1
  · rename_i hz
    refine ⟨by rw [RpL.length _ _ r1]; exact big_le hz, fun p hp => ?_⟩
    exact Newly.lst (fun z S' H' l1 l2 l3 l4 rz => q1.newly w1 l1 l2 l3 l4 z rz) w1.le r1 hp
  · exact q1.elim
/-- a list of its own -/
def olM (f : M (List D)) : M O := bnd f fun ds => if ds.length ≤ 16777216 then ret (.ol (ds.map .sh)) else bad
theorem own_new {S H : Hp} {Fs : Nat → List Addr} {σ : L2.St} {δ : List O} {ds : List D} {vs : List V} {p : Addr} {S0 H0 : Hp} {F0 : Nat → List Addr} {Q : VK} (w : Wd C S H Fs σ δ) (r : RpL C S ds vs) (hp : H p = none)
    (gr : Grow S0 H0 F0 S H Fs)
    (q : Aft C W σ S H Fs (.ok (O.ol (ds.map .sh)) δ) fun o S' H' Fs' _ => ∀ v F, RpO C S' H' o v F → F.Nodup → (∀ a ∈ F, ∀ i, a ∉ Fs' i) → (∀ a ∈ F, H0 a = none ∨ ∃ j, a ∈ F0 j) → Q v H') : Q (.ref p) (upd H p (.lst vs)) := by
  have hs : S p = none := w.le.none hp
  have lH := Le.upd (o := .lst vs) hp
  refine q.newly w (Le.refl S) lH (fun a h => .inl h) (w.le.trans lH) (.ref p) [p] ?_ (by simp) (fun a ha i z => ?_) fun a ha => ?_
  · simp only [RpO]
    exact ⟨p, vs, [], rfl, rfl, hs, upd_same, RpOL.of_leaves ds vs r⟩
  · obtain rfl : a = p := by simpa using ha
    exact (w.ns i a z).2.1 hp
  · obtain rfl : a = p := by simpa using ha
    refine .inl (Classical.byContradiction fun z => gr.th a z hp)
theorem pn_lst {g : M (List D)} (h : PAd X C W es g) : PN X C W (.List es pos) (olM g) := by
  refine ⟨PE.imp (pe_lst h.pa) fun σ H Q ⟨S, Fs, δ, w, q⟩ => ⟨S, Fs, δ, w, (Aft.bind q).mono fun ds S1 H1 F1 δ1 g1 w1 q1 vs r1 => ?_⟩⟩
  split at q1
  · rename_i hz
    exact ⟨by rw [RpL.length _ _ r1]; exact big_le hz, fun p hp => own_new w1 r1 hp g1 q1⟩
  · exact q1.elim
/-! ### built-ins of one value -/
def op1 (g : D → Option D) (fa : M D) : M D := bnd fa fun x => opt (g x)
def rG1 (C : Ct) (g : D → Option D) : List V → Hp → VK → Prop := fun xs H Q => ∃ v S d z, xs = [v] ∧ Le S H ∧ RpB C S H d v ∧ g d = some z ∧ Newly C S H z Q
theorem pd_op1 {g : D → Option D} (h : ∀ t, PA X [ea] t → PE X e (tCB (rG1 C g) t)) (ha : PB X C W ea fa) (hs : starEach (ea :: []) X.env = (false, eval ea X.env) :: starEach [] X.env := by rfl) : PD X C W e (op1 g fa) := by
  refine ⟨PE.imp (h _ (pa_1 ha hs)) fun σ H Q ⟨S, Fs, δ, w, q⟩ => ⟨S, Fs, δ, w, (Aft.bind q).mono fun x S1 H1 F1 δ1 g1 w1 q1 v r1 => ?_⟩⟩
  cases eg : g x with
  | none => rw [eg] at q1; exact q1.elim
  | some z =>
    rw [eg] at q1
    exact ⟨v, S1, x, z, rfl, w1.le, r1, eg, fun z S' H' l1 l2 l3 l4 rz => q1.newly w1 l1 l2 l3 l4 z rz⟩
def lenD : D → Option D
  | .lst ds => some (.int ds.length)
  | .tup ds => some (.int ds.length)
  | .str z => if z.length ≤ 16777216 then some (.int z.length) else none
  | _ => none
theorem cg_len (hK : C.K = X.K := by rfl) : CallR X (.builtin "len") (rG1 C lenD) := by
  intro pins s σ H xs us Q I rv ⟨v, S, d, z, e1, le, rd, eg, new⟩
  subst e1
  unfold lenD at eg
  split at eg
  · cases eg
    obtain ⟨a, vs, rfl, h1, r1⟩ := rd.l le
    exact call_len_seq pins s σ H _ us Q I rv ⟨a, vs, rfl, .inl (SqL.of h1), new.now le (by simp only [Rp]; rw [RpL.length _ _ r1])⟩
  · cases eg
    obtain ⟨a, vs, rfl, h1, r1⟩ := rd.t le
    rw [hK] at h1
    exact call_len_seq pins s σ H _ us Q I rv ⟨a, vs, rfl, .inr h1, new.now le (by simp only [Rp]; rw [RpL.length _ _ r1])⟩
  · split at eg
    · rename_i hz
      cases eg
      rw [Rp.str_inv rd] at rv
      exact call_len_str pins s σ H _ us Q I rv ⟨_, rfl, big_le hz, new.now le (by simp only [Rp])⟩
    · cases eg
  · cases eg
def tupleD : D → Option D
  | .lst ds => some (.tup ds)
  | .tup ds => some (.tup ds)
  | _ => none
theorem cg_tuple (hK : C.K = X.K := by rfl) : CallR X (.type "tuple") (rG1 C tupleD) := by
  intro pins s σ H xs us Q I rv ⟨v, S, d, z, e1, le, rd, eg, new⟩
  subst e1
  unfold tupleD at eg
  split at eg
  · cases eg
    obtain ⟨a, vs, rfl, h1, r1⟩ := rd.l le
    exact call_tuple_of pins s σ H _ us Q I rv ⟨a, vs, rfl, .inl ⟨SqL.of h1, fun l hl => new.tup le r1 hl⟩⟩
  · cases eg
    have rd' := rd.d (fun _ z => by cases z)
    obtain ⟨a, vs, rfl, h1, r1⟩ := rd.t le
    rw [hK] at h1
    exact call_tuple_of pins s σ H _ us Q I rv ⟨a, vs, rfl, .inr ⟨h1, new.now le rd'⟩⟩
  · cases eg
def listD : D → Option (List D)
  | .lst ds => some ds
  | .tup ds => some ds
  | _ => none
def listDl : D → Option D := fun d => (listD d).map .lst
theorem cg_list (hK : C.K = X.K := by rfl) : CallR X (.type "list") (rG1 C listDl) := by
  intro pins s σ H xs us Q I rv ⟨v, S, d, z, e1, le, rd, eg, new⟩
  subst e1
  unfold listDl listD at eg
  split at eg
  · cases eg
    obtain ⟨a, vs, rfl, h1, r1⟩ := rd.l le
    exact call_list_of pins s σ H _ us Q I rv ⟨a, vs, rfl, .inl (SqL.of h1), fun l hl => new.lst le r1 hl⟩
  · cases eg
    obtain ⟨a, vs, rfl, h1, r1⟩ := rd.t le
    rw [hK] at h1
    exact call_list_of pins s σ H _ us Q I rv ⟨a, vs, rfl, .inr h1, fun l hl => new.lst le r1 hl⟩
  · cases eg
def intD : D → Option D
  | .int i => some (.int i)
  | .bl b => some (.int (if b then 1 else 0))
  | _ => none
theorem cg_int : CallR X (.type "int") (rG1 C intD) := by
  intro pins s σ H xs us Q I rv ⟨v, S, d, z, e1, le, rd, eg, new⟩
  subst e1
  unfold intD at eg
  split at eg
  · cases eg
    rw [Rp.int_inv rd] at rv
    exact call_int1 pins s σ H _ us Q I rv (.inl ⟨_, rfl, new.now le (by simp only [Rp])⟩)
  · cases eg
    rw [Rp.bl_inv rd] at rv
    exact call_int1 pins s σ H _ us Q I rv (.inr ⟨_, rfl, new.now le (by simp only [Rp])⟩)
  · cases eg
def absD : D → Option D
  | .int i => some (.int (if i < 0 then -i else i))
  | _ => none
theorem cg_abs : CallR X (.builtin "abs") (rG1 C absD) := by
  intro pins s σ H xs us Q I rv ⟨v, S, d, z, e1, le, rd, eg, new⟩
  subst e1
  unfold absD at eg
  split at eg
  · cases eg
    rw [Rp.int_inv rd] at rv
    exact call_abs pins s σ H _ us Q I rv ⟨_, rfl, new.now le (by simp only [Rp])⟩
  · cases eg
def D.bools : List D → Option (List Bool)
  | [] => some []
  | .bl b :: r => (D.bools r).map (b :: ·)
  | _ :: _ => none
def D.ints : List D → Option (List Int)
  | [] => some []
  | .int b :: r => (D.ints r).map (b :: ·)
  | _ :: _ => none
theorem bools_vs {S : Hp} : ∀ {ds : List D} {bs : List Bool} {vs : List V}, D.bools ds = some bs → RpL C S ds vs → vs = bs.map V.bl
  | [], bs, vs, h, r => by simp only [D.bools, Option.some.injEq, RpL] at h r; subst h; subst r; rfl
  | .bl b :: ds, bs, vs, h, r => by
    simp only [D.bools, Option.map_eq_some_iff] at h
    obtain ⟨cs, h1, h2⟩ := h
    simp only [RpL, Rp] at r
    obtain ⟨v, t, r1, r2, r3⟩ := r
    subst h2; subst r1; subst r2
    rw [bools_vs h1 r3]; rfl
  | .non :: r, bs, vs, h, q => by simp [D.bools] at h
  | .int _ :: r, bs, vs, h, q => by simp [D.bools] at h
  | .str _ :: r, bs, vs, h, q => by simp [D.bools] at h
  | .tup _ :: r, bs, vs, h, q => by simp [D.bools] at h
  | .lst _ :: r, bs, vs, h, q => by simp [D.bools] at h
  | .gl _ :: r, bs, vs, h, q => by simp [D.bools] at h
  | .clo _ :: r, bs, vs, h, q => by simp [D.bools] at h
theorem ints_vs {S : Hp} : ∀ {ds : List D} {bs : List Int} {vs : List V}, D.ints ds = some bs → RpL C S ds vs → vs = bs.map V.int
  | [], bs, vs, h, r => by simp only [D.ints, Option.some.injEq, RpL] at h r; subst h; subst r; rfl
  | .int b :: ds, bs, vs, h, r => by
    simp only [D.ints, Option.map_eq_some_iff] at h
    obtain ⟨cs, h1, h2⟩ := h
    simp only [RpL, Rp] at r
    obtain ⟨v, t, r1, r2, r3⟩ := r
    subst h2; subst r1; subst r2
    rw [ints_vs h1 r3]; rfl
  | .non :: r, bs, vs, h, q => by simp [D.ints] at h
  | .bl _ :: r, bs, vs, h, q => by simp [D.ints] at h
  | .str _ :: r, bs, vs, h, q => by simp [D.ints] at h
  | .tup _ :: r, bs, vs, h, q => by simp [D.ints] at h
  | .lst _ :: r, bs, vs, h, q => by simp [D.ints] at h
  | .gl _ :: r, bs, vs, h, q => by simp [D.ints] at h
  | .clo _ :: r, bs, vs, h, q => by simp [D.ints] at h
def allD : D → Option D
  | .lst ds => (D.bools ds).map fun bs => .bl (bs.all id)
  | _ => none
def anyD : D → Option D
  | .lst ds => (D.bools ds).map fun bs => .bl (bs.any id)
  | _ => none
theorem cg_all (hc : X.calm = true := by rfl) : CallR X (.builtin "all") (rG1 C allD) := by
  intro pins s σ H xs us Q I rv ⟨v, S, d, z, e1, le, rd, eg, new⟩
  subst e1
  unfold allD at eg
  split at eg
  · rw [Option.map_eq_some_iff] at eg
    obtain ⟨bs, hb, rfl⟩ := eg
    obtain ⟨a, vs, rfl, h1, r1⟩ := rd.l le
    rw [bools_vs hb r1] at h1
    exact cr_all hc pins s σ H _ us Q I rv ⟨a, bs, rfl, SqL.of h1, new.now le (by simp only [Rp])⟩
  · cases eg
theorem cg_any (hc : X.calm = true := by rfl) : CallR X (.builtin "any") (rG1 C anyD) := by
  intro pins s σ H xs us Q I rv ⟨v, S, d, z, e1, le, rd, eg, new⟩
  subst e1
  unfold anyD at eg
  split at eg
  · rw [Option.map_eq_some_iff] at eg
    obtain ⟨bs, hb, rfl⟩ := eg
    obtain ⟨a, vs, rfl, h1, r1⟩ := rd.l le
    rw [bools_vs hb r1] at h1
    exact cr_any hc pins s σ H _ us Q I rv ⟨a, bs, rfl, SqL.of h1, new.now le (by simp only [Rp])⟩
  · cases eg
def sumD : D → Option D
  | .lst ds => (D.ints ds).map fun ns => .int ns.sum
  | _ => none
theorem cg_sum (hc : X.calm = true := by rfl) : CallR X (.builtin "sum") (rG1 C sumD) := by
  intro pins s σ H xs us Q I rv ⟨v, S, d, z, e1, le, rd, eg, new⟩
  subst e1
  unfold sumD at eg
  split at eg
  · rw [Option.map_eq_some_iff] at eg
    obtain ⟨bs, hb, rfl⟩ := eg
    obtain ⟨a, vs, rfl, h1, r1⟩ := rd.l le
    rw [ints_vs hb r1] at h1
    exact cr_sum hc pins s σ H _ us Q I rv ⟨a, bs, rfl, SqL.of h1, new.now le (by simp only [Rp])⟩
  · cases eg
def maxL : List Int → Option Int
  | [] => none
  | n :: r => some (r.foldl max n)
def minL : List Int → Option Int
  | [] => none
  | n :: r => some (r.foldl min n)
theorem foldl_max {r : List Int} : ∀ n : Int, n ≤ r.foldl max n ∧ (∀ y ∈ r, y ≤ r.foldl max n) ∧ (r.foldl max n = n ∨ r.foldl max n ∈ r) := by
  induction r with
  | nil => intro n; exact ⟨Int.le_refl _, by simp, .inl rfl⟩
  | cons k r ih =>
    intro n
    obtain ⟨h1, h2, h3⟩ := ih (max n k)
    simp only [List.foldl_cons]
    refine ⟨by omega, fun y hy => ?_, ?_⟩
    · rcases List.mem_cons.mp hy with rfl | hy
      · omega
      · exact h2 y hy
    · rcases h3 with h3 | h3
      · by_cases hk : n ≤ k
        · right; rw [h3, Int.max_eq_right hk]; simp
        · left; rw [h3, Int.max_eq_left (by omega)]
      · right; simp [h3]
theorem foldl_min {r : List Int} : ∀ n : Int, r.foldl min n ≤ n ∧ (∀ y ∈ r, r.foldl min n ≤ y) ∧ (r.foldl min n = n ∨ r.foldl min n ∈ r) := by
  induction r with
  | nil => intro n; exact ⟨Int.le_refl _, by simp, .inl rfl⟩
  | cons k r ih =>
    intro n
    obtain ⟨h1, h2, h3⟩ := ih (min n k)
    simp only [List.foldl_cons]
    refine ⟨by omega, fun y hy => ?_, ?_⟩
    · rcases List.mem_cons.mp hy with rfl | hy
      · omega
      · exact h2 y hy
    · rcases h3 with h3 | h3
      · by_cases hk : n ≤ k
        · left; rw [h3, Int.min_eq_left hk]
        · right; rw [h3, Int.min_eq_right (by omega)]; simp
      · right; simp [h3]
def maxD : D → Option D
  | .lst ds => (D.ints ds).bind fun ns => (maxL ns).map .int
  | _ => none
def minD : D → Option D
  | .lst ds => (D.ints ds).bind fun ns => (minL ns).map .int
  | _ => none
theorem cg_max (hc : X.calm = true := by rfl) : CallR X (.builtin "max") (rG1 C maxD) := by
  intro pins s σ H xs us Q I rv ⟨v, S, d, z, e1, le, rd, eg, new⟩
  subst e1
  unfold maxD at eg
  split at eg
  · rw [Option.bind_eq_some_iff] at eg
    obtain ⟨bs, hb, eg⟩ := eg
    obtain ⟨a, vs, rfl, h1, r1⟩ := rd.l le
    rw [ints_vs hb r1] at h1
    cases bs with
    | nil => cases eg
    | cons n r =>
      cases eg
      obtain ⟨q1, q2, q3⟩ := foldl_max (r := r) n
      refine cr_max hc pins s σ H _ us Q I rv ⟨a, n :: r, rfl, SqL.of h1, by simp, fun m hm ht => ?_⟩
      have e : m = r.foldl max n := by
        have a1 := ht n (by simp)
        have a2 : r.foldl max n ≤ m := by
          rcases q3 with q3 | q3
          · rw [q3]; exact a1
          · exact ht _ (by simp [q3])
        rcases List.mem_cons.mp hm with rfl | hm
        · omega
        · have := q2 m hm; omega
      rw [e]
      exact new.now le (by simp only [Rp])
  · cases eg
theorem cg_min (hc : X.calm = true := by rfl) : CallR X (.builtin "min") (rG1 C minD) := by
  intro pins s σ H xs us Q I rv ⟨v, S, d, z, e1, le, rd, eg, new⟩
  subst e1
  unfold minD at eg
  split at eg
  · rw [Option.bind_eq_some_iff] at eg
    obtain ⟨bs, hb, eg⟩ := eg
    obtain ⟨a, vs, rfl, h1, r1⟩ := rd.l le
    rw [ints_vs hb r1] at h1
    cases bs with
    | nil => cases eg
    | cons n r =>
      cases eg
      obtain ⟨q1, q2, q3⟩ := foldl_min (r := r) n
      refine cr_min hc pins s σ H _ us Q I rv ⟨a, n :: r, rfl, SqL.of h1, by simp, fun m hm ht => ?_⟩
      have e : m = r.foldl min n := by
        have a1 := ht n (by simp)
        have a2 : m ≤ r.foldl min n := by
          rcases q3 with q3 | q3
          · rw [q3]; exact a1
          · exact ht _ (by simp [q3])
        rcases List.mem_cons.mp hm with rfl | hm
        · omega
        · have := q2 m hm; omega
      rw [e]
      exact new.now le (by simp only [Rp])
  · cases eg
end
end FW

set_option Elab.async false
set_option linter.all false
set_option maxRecDepth 100000
set_option maxHeartbeats 1000000
/-! FwE: slices, tests, isinstance; calls of defs; statements; a def's body. -/
namespace FW
open PySem PySem.Spec PyProof.Rows L2
section
variable {X : Cx} {C : Ct} {W : WX} {e ea eb : Expr} {es : List Expr} {pos : Pos} {f fa fb : M D}
/-! ### slices -/
def sxM : Option (M D) → M (Option Int)
  | none => ret none
  | some f => bnd f fun d => match d with
    | .int i => ret (some i)
    | _ => bad
def tX (C : Ct) (W : WX) (f : M (Option Int)) : TO := fun σ H Q => ∃ S Fs δ, Wd C S H Fs σ δ ∧ Aft C W σ S H Fs (f δ) fun o _ H' _ _ => Q o H'
structure PX (X : Cx) (C : Ct) (W : WX) (e : Option Expr) (f : M (Option Int)) : Prop where
  po : L2.PO X e (tX C W f)
theorem PO.imp {e : Option Expr} {t t' : TO} (p : L2.PO X e t) (h : ∀ σ H Q, t' σ H Q → t σ H Q) : L2.PO X e t' := ⟨fun pins s σ H Q I q => p.run pins s σ H Q I (h σ H Q q)⟩
theorem px_none : PX X C W none (sxM none) := ⟨PO.imp po_none fun σ H Q ⟨S, Fs, δ, w, q⟩ => q.now w⟩
theorem px_some (h : PD X C W e f) : PX X C W (some e) (sxM (some f)) := ⟨PO.imp (po_some h.pe) fun σ H Q ⟨S, Fs, δ, w, q⟩ => ⟨S, Fs, δ, w, (Aft.bind q).mono fun d S1 H1 F1 δ1 g1 w1 q1 v r1 => by
  cases d with
  | int i => simp only [Rp] at r1; exact ⟨i, r1, q1.now w1⟩
  | _ => exact q1.elim⟩⟩
def cutL {α : Type} (xs : List α) (lo hi : Option Int) : List α := (xs.drop (HT.sIx xs.length 0 lo)).take (HT.sIx xs.length xs.length hi - HT.sIx xs.length 0 lo)
theorem RpL.cut {S : Hp} {ds : List D} {vs : List V} {lo hi : Option Int} (r : RpL C S ds vs) : RpL C S (cutL ds lo hi) (cutV vs lo hi) := by
  unfold cutL cutV
  rw [RpL.length _ _ r]
  exact (r.drop _).take _
def slcD (lo hi : Option Int) : D → Option D
  | .lst ds => some (.lst (cutL ds lo hi))
  | .tup ds => some (.tup (cutL ds lo hi))
  | .str z => if z.length ≤ 16777216 then some (.str (cutS z lo hi)) else none
  | _ => none
def rGs (C : Ct) : V → Option Int → Option Int → Hp → VK → Prop := fun x lo hi H Q => ∃ S d z, Le S H ∧ RpB C S H d x ∧ slcD lo hi d = some z ∧ Newly C S H z Q
theorem sg_slc (hK : C.K = X.K := by rfl) : SlR X (rGs C) := by
  intro pins s σ H x v vl vu lo hi sl Q I rx hs pl pu ⟨S, d, z, le, rd, eg, new⟩
  unfold slcD at eg
  split at eg
  · cases eg
    obtain ⟨a, vs, rfl, h1, r1⟩ := rd.l le
    exact sl_list pins s σ H _ v vl vu lo hi sl Q I rx hs pl pu ⟨a, vs, rfl, SqL.of h1, fun p hp => new.lst le r1.cut hp⟩
  · cases eg
    have rd' := rd.d (fun _ z => by cases z)
    obtain ⟨a, vs, rfl, h1, r1⟩ := rd.t le
    rw [hK] at h1
    refine sl_tupA pins s σ H _ v vl vu lo hi sl Q I rx hs pl pu ⟨a, vs, rfl, h1, fun hw => ?_, fun hw p hp => new.tup le r1.cut hp⟩
    refine new.now le ?_
    unfold cutL
    rw [RpL.length _ _ r1] at hw
    rw [hw.1, hw.2, List.drop_zero, Nat.sub_zero, List.take_length]
    exact rd'
  · split at eg
    · rename_i hz
      cases eg
      rw [Rp.str_inv rd] at rx
      exact sl_str pins s σ H _ v vl vu lo hi sl Q I rx hs pl pu ⟨_, rfl, big_le hz, new.now le (by simp only [Rp])⟩
    · cases eg
  · cases eg
/-- a[lo:hi] of a datum -/
def slcM (fa : M D) (fl fh : M (Option Int)) : M D := bnd fa fun x => bnd fl fun l => bnd fh fun h => opt (slcD l h x)
theorem pd_slc {lo hi : Option Expr} {fl fh : M (Option Int)} {p2 : Pos} (ha : PD X C W ea fa) (hl : PX X C W lo fl) (hh : PX X C W hi fh) (hK : C.K = X.K := by rfl) : PD X C W (.Subscript ea (.Slice lo hi none p2) pos) (slcM fa fl fh) := by
  refine ⟨PE.imp (pe_slice (sg_slc (C := C) hK) ha.pe hl.po hh.po) fun σ H Q ⟨S, Fs, δ, w, q⟩ => ⟨S, Fs, δ, w, (Aft.bind q).mono fun x S1 H1 F1 δ1 g1 w1 q1 v r1 => ⟨S1, F1, δ1, w1, (Aft.bind q1).mono fun l S2 H2 F2 δ2 g2 w2 q2 =>
    ⟨S2, F2, δ2, w2, (Aft.bind q2).mono fun h S3 H3 F3 δ3 g3 w3 q3 => ?_⟩⟩⟩⟩
  cases eg : slcD l h x with
  | none => rw [eg] at q3; exact q3.elim
  | some z =>
    rw [eg] at q3
    exact ⟨S3, x, z, w3.le, .inl (r1.mono (g2.ls.trans g3.ls)), eg, fun z S' H' l1 l2 l3 l4 rz => q3.newly w3 l1 l2 l3 l4 z rz⟩
/-- a[lo:hi] of a slot that is lent -/
def slcS (i : Nat) (fl fh : M (Option Int)) : M D := bnd (gb i) fun _ => bnd fl fun l => bnd fh fun h => bnd (gb i) fun x => opt (slcD l h x)
theorem pd_slcS {lo hi : Option Expr} {fl fh : M (Option Int)} {p2 : Pos} {i : Nat} (ha : PE X ea (tVar i)) (hl : PX X C W lo fl) (hh : PX X C W hi fh) (hK : C.K = X.K := by rfl) : PD X C W (.Subscript ea (.Slice lo hi none p2) pos) (slcS i fl fh) := by
  refine ⟨PE.imp (pe_slice (sg_slc (C := C) hK) ha hl.po hh.po) fun σ H Q ⟨S, Fs, δ, w, q⟩ => ?_⟩
  obtain ⟨_, v0, e0, _, q0⟩ := gb_end w (Aft.bind q)
  refine ⟨v0, e0, S, Fs, δ, w, (Aft.bind q0).mono fun l S2 H2 F2 δ2 g2 w2 q2 => ⟨S2, F2, δ2, w2, (Aft.bind q2).mono fun h S3 H3 F3 δ3 g3 w3 q3 => ?_⟩⟩
  obtain ⟨x, v, e1, r1, q4⟩ := gb_end w3 (Aft.bind q3)
  rw [e0] at e1; cases e1
  cases eg : slcD l h x with
  | none => rw [eg] at q4; exact q4.elim
  | some z =>
    rw [eg] at q4
    exact ⟨S3, x, z, w3.le, r1, eg, fun z S' H' l1 l2 l3 l4 rz => q4.newly w3 l1 l2 l3 l4 z rz⟩
/-! ### tests -/
def blM : M D → M Bool := fun f => bnd f fun d => match d with
  | .bl b => ret b
  | _ => bad
theorem pq_val (h : PD X C W e f) (he : ∀ whole, isTrue e X.env whole = (do let v ← whole; standAt e.pos; holding [v] (truthy v)) := by intro _; rfl) : PQ X C W e (blM f) := by
  refine ⟨PT.imp (pt_val h.pe he) fun σ H Q ⟨S, Fs, δ, w, q⟩ => ⟨S, Fs, δ, w, (Aft.bind q).mono fun d S1 H1 F1 δ1 g1 w1 q1 v r1 => ?_⟩⟩
  cases d with
  | bl b => simp only [Rp] at r1; exact ⟨b, r1, q1.now w1⟩
  | _ => exact q1.elim
/-- a comparison as a test -/
theorem pq_cmp {g : D → D → Option D} {op : CmpOp} (o : OpR X (compareOp op) (rG C g)) (ha : PD X C W ea fa) (hb : PB X C W eb fb) (hm : behindInMarks op eb = false) : PQ X C W (.Compare ea [op] [eb] pos) (blM (op2 g fa fb)) := by
  have pd : ∀ ta tb, PE X ea ta → PE X eb tb → PT X (.Compare ea [op] [eb] pos) (tTest (tOp (rG C g) ta tb)) := fun ta tb h1 h2 => pt_cmpR o h1 h2 hm
  refine ⟨PT.imp (pd _ _ ha.pe hb.pe) fun σ H Q ⟨S, Fs, δ, w, q⟩ => ⟨S, Fs, δ, w, (Aft.bind (Aft.bind q)).mono fun x S1 H1 F1 δ1 g1 w1 q1 v r1 => ⟨S1, F1, δ1, w1, (Aft.bind q1).mono fun y S2 H2 F2 δ2 g2 w2 q2 u r2 => ?_⟩⟩⟩
  cases eg : g x y with
  | none => rw [eg] at q2; exact q2.elim
  | some d =>
    rw [eg] at q2
    refine ⟨S2, x, y, d, w2.le, .inl (r1.mono g2.ls), r2, eg, fun z S' H' l1 l2 l3 l4 rz => ?_⟩
    have q3 := q2 S' H' F2 (Grow.new l1 l2 l3) (w2.new l1 l2 l3 l4)
    cases d with
    | bl b => simp only [Rp] at rz; exact ⟨b, rz, Aft.now (w2.new l1 l2 l3 l4) q3⟩
    | _ => exact q3.elim
theorem pq_cmpS {g : D → D → Option D} {op : CmpOp} {i : Nat} (o : OpR X (compareOp op) (rG C g)) (ha : PE X ea (tVar i)) (hb : PB X C W eb fb) (hm : behindInMarks op eb = false) : PQ X C W (.Compare ea [op] [eb] pos) (blM (op2s g i fb)) := by
  refine ⟨PT.imp (pt_cmpR o ha hb.pe hm) fun σ H Q ⟨S, Fs, δ, w, q⟩ => ?_⟩
  obtain ⟨_, v0, e0, _, q0⟩ := gb_end w (Aft.bind (Aft.bind q))
  refine ⟨v0, e0, S, Fs, δ, w, (Aft.bind q0).mono fun y S2 H2 F2 δ2 g2 w2 q2 u r2 => ?_⟩
  obtain ⟨x, v, e1, r1, q3⟩ := gb_end w2 (Aft.bind q2)
  rw [e0] at e1; cases e1
  cases eg : g x y with
  | none => rw [eg] at q3; exact q3.elim
  | some d =>
    rw [eg] at q3
    refine ⟨S2, x, y, d, w2.le, r1, r2, eg, fun z S' H' l1 l2 l3 l4 rz => ?_⟩
    have q4 := q3 S' H' F2 (Grow.new l1 l2 l3) (w2.new l1 l2 l3 l4)
    cases d with
    | bl b => simp only [Rp] at rz; exact ⟨b, rz, Aft.now (w2.new l1 l2 l3 l4) q4⟩
    | _ => exact q4.elim
def notM (f : M Bool) : M Bool := bnd f fun b => ret (!b)
def andM (f g : M Bool) : M Bool := bnd f fun b => if b then g else ret false
def orM (f g : M Bool) : M Bool := bnd f fun b => if b then ret true else g
variable {t u : M Bool} {rest : List Expr}
theorem pq_not (h : PQ X C W ea t) : PQ X C W (.UnaryOp .Not ea pos) (notM t) :=
  ⟨PT.imp (pt_not h.pt) fun σ H Q ⟨S, Fs, δ, w, q⟩ => ⟨S, Fs, δ, w, (Aft.bind q).mono fun b S1 H1 F1 δ1 g1 w1 q1 => q1.now w1⟩⟩
structure PWq (X : Cx) (C : Ct) (W : WX) (e : Expr) (f : M Bool) : Prop where
  pw : PW X e (tT C W f)
theorem PW.imp {e : Expr} {t t' : TT} (p : PW X e t) (h : ∀ σ H Q, t' σ H Q → t σ H Q) : PW X e t' :=
  ⟨fun wh pins s σ H Q I q => p.run wh pins s σ H Q I (h σ H Q q)⟩
theorem PWq.q (h : PWq X C W e t) : PQ X C W e t := ⟨h.pw.pt⟩
theorem pwq_and1 (h : PQ X C W ea t) : PWq X C W (.BoolOp .And [ea] pos) t := ⟨pw_and1 h.pt⟩
theorem pwq_or1 (h : PQ X C W ea t) : PWq X C W (.BoolOp .Or [ea] pos) t := ⟨pw_or1 h.pt⟩
theorem pwq_and (h : PQ X C W ea t) (h2 : PWq X C W (.BoolOp .And (eb :: rest) pos) u) : PWq X C W (.BoolOp .And (ea :: eb :: rest) pos) (andM t u) :=
  ⟨PW.imp (pw_and h.pt h2.pw) fun σ H Q ⟨S, Fs, δ, w, q⟩ => ⟨S, Fs, δ, w, (Aft.bind q).mono fun b S1 H1 F1 δ1 g1 w1 q1 => by
    cases b with
    | true => exact ⟨S1, F1, δ1, w1, q1⟩
    | false => exact Aft.now w1 q1⟩⟩
theorem pwq_or (h : PQ X C W ea t) (h2 : PWq X C W (.BoolOp .Or (eb :: rest) pos) u) : PWq X C W (.BoolOp .Or (ea :: eb :: rest) pos) (orM t u) :=
  ⟨PW.imp (pw_or h.pt h2.pw) fun σ H Q ⟨S, Fs, δ, w, q⟩ => ⟨S, Fs, δ, w, (Aft.bind q).mono fun b S1 H1 F1 δ1 g1 w1 q1 => by
    cases b with
    | true => exact Aft.now w1 q1
    | false => exact ⟨S1, F1, δ1, w1, q1⟩⟩⟩
/-- and, or, not as values of truths -/
def andV (f g : M D) : M D := bnd f fun d => match d with
  | .bl true => g
  | .bl false => ret (.bl false)
  | _ => bad
def orV (f g : M D) : M D := bnd f fun d => match d with
  | .bl false => g
  | .bl true => ret (.bl true)
  | _ => bad
def notV (f : M D) : M D := bnd f fun d => match d with
  | .bl b => ret (.bl (!b))
  | _ => bad
theorem pd_one {op} (h : PD X C W ea f) : PD X C W (.BoolOp op [ea] pos) f := ⟨pe_one h.pe⟩
theorem pd_and (h : PD X C W ea fa) (h2 : PD X C W (.BoolOp .And (eb :: rest) pos) fb) : PD X C W (.BoolOp .And (ea :: eb :: rest) pos) (andV fa fb) :=
  ⟨PE.imp (pe_and h.pe h2.pe) fun σ H Q ⟨S, Fs, δ, w, q⟩ => ⟨S, Fs, δ, w, (Aft.bind q).mono fun d S1 H1 F1 δ1 g1 w1 q1 v r1 => by
    cases d with
    | bl b =>
      simp only [Rp] at r1
      refine ⟨b, r1, ?_⟩
      cases b with
      | true => exact ⟨S1, F1, δ1, w1, q1⟩
      | false => exact Aft.now w1 q1 (.bl false) (by simp only [Rp])
    | _ => exact q1.elim⟩⟩
theorem pd_or (h : PD X C W ea fa) (h2 : PD X C W (.BoolOp .Or (eb :: rest) pos) fb) : PD X C W (.BoolOp .Or (ea :: eb :: rest) pos) (orV fa fb) :=
  ⟨PE.imp (pe_or h.pe h2.pe) fun σ H Q ⟨S, Fs, δ, w, q⟩ => ⟨S, Fs, δ, w, (Aft.bind q).mono fun d S1 H1 F1 δ1 g1 w1 q1 v r1 => by
    cases d with
    | bl b =>
      simp only [Rp] at r1
      refine ⟨b, r1, ?_⟩
      cases b with
      | false => exact ⟨S1, F1, δ1, w1, q1⟩
      | true => exact Aft.now w1 q1 (.bl true) (by simp only [Rp])
    | _ => exact q1.elim⟩⟩
theorem pd_not (h : PD X C W ea fa) : PD X C W (.UnaryOp .Not ea pos) (notV fa) :=
  ⟨PE.imp (pe_not h.pe) fun σ H Q ⟨S, Fs, δ, w, q⟩ => ⟨S, Fs, δ, w, (Aft.bind q).mono fun d S1 H1 F1 δ1 g1 w1 q1 v r1 => by
    cases d with
    | bl b =>
      simp only [Rp] at r1
      exact ⟨b, r1, Aft.now w1 q1 (.bl (!b)) (by simp only [Rp])⟩
    | _ => exact q1.elim⟩⟩
def ifM {α : Type} (t : M Bool) (f g : M α) : M α := bnd t fun b => if b then f else g
theorem pd_if {ec : Expr} (h : PQ X C W ec t) (ha : PD X C W ea fa) (hb : PD X C W eb fb) : PD X C W (.IfExp ec ea eb pos) (ifM t fa fb) :=
  ⟨PE.imp (pe_ifExp h.pt ha.pe hb.pe) fun σ H Q ⟨S, Fs, δ, w, q⟩ => ⟨S, Fs, δ, w, (Aft.bind q).mono fun b S1 H1 F1 δ1 g1 w1 q1 => by
    cases b with
    | true => exact ⟨S1, F1, δ1, w1, q1⟩
    | false => exact ⟨S1, F1, δ1, w1, q1⟩⟩⟩
/-- a chain of two comparisons, all three data -/
def chM (g g' : D → D → Option D) (fa fb fc : M D) : M D := bnd fa fun x => bnd fb fun y => bnd (opt (g x y)) fun b => match b with
  | .bl true => bnd fc fun z => opt (g' y z)
  | .bl false => ret (.bl false)
  | _ => bad
end
end FW

set_option Elab.async false
set_option linter.all false
set_option maxRecDepth 100000
set_option maxHeartbeats 1000000
/-! FwF: chains, statements, loops. -/
namespace FW
open PySem PySem.Spec PyProof.Rows L2
section
variable {X : Cx} {C : Ct} {W : WX} {e ea eb ec : Expr} {es : List Expr} {pos : Pos} {f fa fb fc : M D}
theorem chain_read {g g' : D → D → Option D} {k : D → Hp → Hp → (Nat → List Addr) → List O → Prop} {σ : L2.St} {H : Hp} {Q : VK} {S : Hp} {Fs : Nat → List Addr} {δ : List O} (w : Wd C S H Fs σ δ)
    (q : Aft C W σ S H Fs (chM g g' fa fb fc δ) k) (hk : ∀ d S' H' Fs' δ', k d S' H' Fs' δ' → ∀ v, Rp C S' d v → Q v H') : tChain (rG C g) (rG C g') (tD C W fa) (tD C W fb) (tD C W fc) σ H Q := by
  refine ⟨S, Fs, δ, w, (Aft.bind q).mono fun x S1 H1 F1 δ1 g1 w1 q1 v r1 => ⟨S1, F1, δ1, w1, (Aft.bind q1).mono fun y S2 H2 F2 δ2 g2 w2 q2 u r2 => ?_⟩⟩
  have q3 := Aft.bind q2
  cases eg : g x y with
  | none => rw [eg] at q3; exact q3.elim
  | some d =>
    rw [eg] at q3
    refine ⟨S2, x, y, d, w2.le, .inl (r1.mono g2.ls), .inl r2, eg, fun z S' H' l1 l2 l3 l4 rz => ?_⟩
    have w3 := w2.new l1 l2 l3 l4
    have q4 := q3 S' H' F2 (Grow.new l1 l2 l3) w3
    cases d with
    | bl b =>
      simp only [Rp] at rz
      refine ⟨b, rz, ?_⟩
      cases b with
      | false => exact hk _ _ _ _ _ (Aft.now w3 q4) (.bl false) (by simp only [Rp])
      | true =>
        refine ⟨S', F2, δ2, w3, (Aft.bind q4).mono fun c S4 H4 F4 δ4 g4 w4 q5 c' r4 => ?_⟩
        cases eg' : g' y c with
        | none => rw [eg'] at q5; exact q5.elim
        | some d' =>
          rw [eg'] at q5
          exact ⟨S4, y, c, d', w4.le, .inl (r2.mono (l1.trans g4.ls)), .inl r4, eg', fun z5 S5 H5 m1 m2 m3 m4 rz5 => hk _ _ _ _ _ (q5.newly w4 m1 m2 m3 m4) z5 rz5⟩
    | _ => exact q4.elim
theorem pd_chain {g g' : D → D → Option D} {op op' : CmpOp} (ho : OpR X (compareOp op) (rG C g)) (ho' : OpR X (compareOp op') (rG C g')) (ha : PD X C W ea fa) (hb : PD X C W eb fb) (hc : PD X C W ec fc)
    (hm : lastMarks [op, op'] [eb, ec] = false := by with_unfolding_all rfl) : PD X C W (.Compare ea [op, op'] [eb, ec] pos) (chM g g' fa fb fc) :=
  ⟨PE.imp (pe_chain ho ho' ha.pe hb.pe hc.pe hm) fun σ H Q ⟨S, Fs, δ, w, q⟩ => chain_read w q fun d S' H' Fs' δ' h v r => h v r⟩
theorem pq_chain {g g' : D → D → Option D} {op op' : CmpOp} (ho : OpR X (compareOp op) (rG C g)) (ho' : OpR X (compareOp op') (rG C g')) (ha : PD X C W ea fa) (hb : PD X C W eb fb) (hc : PD X C W ec fc)
    (hm : lastMarks [op, op'] [eb, ec] = false := by with_unfolding_all rfl) : PQ X C W (.Compare ea [op, op'] [eb, ec] pos) (blM (chM g g' fa fb fc)) :=
  ⟨PT.imp (pt_chain ho ho' ha.pe hb.pe hc.pe hm) fun σ H Q ⟨S, Fs, δ, w, q⟩ => by
    have q' := Aft.bind q
    refine chain_read (Q := fun x H1 => ∃ k, x = .bl k ∧ Q k H1) w (q'.mono (k' := fun d S' H' Fs' δ' => Wd C S' H' Fs' σ δ' ∧ Aft C W σ S' H' Fs' (match d with | .bl b => (ret b : M Bool) δ' | _ => (bad : M Bool) δ') fun b _ H' _ _ => Q b H') fun d S' H' Fs' δ' g1 w1 h => ⟨w1, by cases d <;> exact h⟩) fun d S' H' Fs' δ' h v r => ?_
    obtain ⟨w1, h⟩ := h
    cases d with
    | bl b => simp only [Rp] at r; exact ⟨b, r, Aft.now w1 h⟩
    | _ => exact h.elim⟩
end

/-! ### statements -/
inductive SRes where
  | nx (δ : List O) | rt (o : O) (δ : List O) | bk (δ : List O) | ct (δ : List O) | er (x : DX) (δ : List O) | bad
abbrev G := List O → SRes
def AftS (C : Ct) (W : WX) (fx : List Nat) (E : Ends) (σ : L2.St) (S H : Hp) (Fs : Nat → List Addr) (r : SRes) : Prop := match r with
  | .nx δ' => ∀ σ' S' H' Fs', Grow S H Fs S' H' Fs' → Wd C S' H' Fs' σ' δ' → (∀ i ∈ fx, σ'[i]? = σ[i]?) → E.nx σ' H'
  | .bk δ' => ∀ σ' S' H' Fs', Grow S H Fs S' H' Fs' → Wd C S' H' Fs' σ' δ' → (∀ i ∈ fx, σ'[i]? = σ[i]?) → E.bk σ' H'
  | .ct δ' => ∀ σ' S' H' Fs', Grow S H Fs S' H' Fs' → Wd C S' H' Fs' σ' δ' → (∀ i ∈ fx, σ'[i]? = σ[i]?) → E.ct σ' H'
  | .rt o δ' => ∀ σ' S' H' Fs' v F, Grow S H Fs S' H' Fs' → Wd C S' H' Fs' σ' δ' → (∀ i ∈ fx, σ'[i]? = σ[i]?) → RpO C S' H' o v F → F.Nodup → (∀ a ∈ F, ∀ i, a ∉ Fs' i) → (∀ a ∈ F, H a = none ∨ ∃ j, a ∈ Fs j) → E.rt v H'
  | .er x δ' => ∀ σ' cls dd S' H' Fs', Grow S H Fs S' H' Fs' → Wd C S' H' Fs' σ' δ' → (∀ i ∈ fx, σ'[i]? = σ[i]?) → Xr C S' H' x cls dd → W cls dd σ' H'
  | .bad => False
def tS (C : Ct) (W : WX) (fx : List Nat) (g : G) : TS := fun E σ H => ∃ S Fs δ, Wd C S H Fs σ δ ∧ AftS C W fx E σ S H Fs (g δ)
structure PG' (X : Cx) (C : Ct) (W : WX) (fx : List Nat) (st : Stmt) (g : G) : Prop where
  ps : PS X st (tS C W fx g)
structure PGs' (X : Cx) (C : Ct) (W : WX) (fx : List Nat) (st : List Stmt) (g : G) : Prop where
  ps : PSs X st (tS C W fx g)
theorem Grow.back {S H S1 H1 : Hp} {Fs F1 : Nat → List Addr} {F : List Addr} (g : Grow S H Fs S1 H1 F1) (fr : ∀ a ∈ F, H1 a = none ∨ ∃ j, a ∈ F1 j) : ∀ a ∈ F, H a = none ∨ ∃ j, a ∈ Fs j := fun a ha => by
  rcases fr a ha with q | ⟨j, q⟩
  · exact .inl (Classical.byContradiction fun z => g.th a z q)
  · exact g.nf j a q
section
variable {C : Ct} {W : WX} {fx : List Nat} {E : Ends} {σ σ1 : L2.St} {S H S1 H1 : Hp} {Fs F1 : Nat → List Addr} {α : Type}
theorem AftS.pre {r : SRes} (h : AftS C W fx E σ S H Fs r) (g : Grow S H Fs S1 H1 F1) (e : ∀ i ∈ fx, σ1[i]? = σ[i]?) : AftS C W fx E σ1 S1 H1 F1 r := by
  cases r with
  | nx δ' => exact fun σ' S' H' Fs' g' w p => h σ' S' H' Fs' (g.trans g') w fun i hi => (p i hi).trans (e i hi)
  | bk δ' => exact fun σ' S' H' Fs' g' w p => h σ' S' H' Fs' (g.trans g') w fun i hi => (p i hi).trans (e i hi)
  | ct δ' => exact fun σ' S' H' Fs' g' w p => h σ' S' H' Fs' (g.trans g') w fun i hi => (p i hi).trans (e i hi)
  | rt o δ' => exact fun σ' S' H' Fs' v F g' w p r n d fr => h σ' S' H' Fs' v F (g.trans g') w (fun i hi => (p i hi).trans (e i hi)) r n d (g.back fr)
  | er x δ' => exact fun σ' cls dd S' H' Fs' g' w p => h σ' cls dd S' H' Fs' (g.trans g') w fun i hi => (p i hi).trans (e i hi)
  | bad => exact h
/-- other ends -/
theorem AftS.ends {r : SRes} {E' : Ends} (h : AftS C W fx E σ S H Fs r) (h1 : ∀ σ H, E.nx σ H → E'.nx σ H) (h2 : ∀ v H, E.rt v H → E'.rt v H) (h3 : ∀ σ H, E.bk σ H → E'.bk σ H) (h4 : ∀ σ H, E.ct σ H → E'.ct σ H) : AftS C W fx E' σ S H Fs r := by
  cases r with
  | nx δ' => exact fun σ' S' H' Fs' g' w p => h1 _ _ (h σ' S' H' Fs' g' w p)
  | bk δ' => exact fun σ' S' H' Fs' g' w p => h3 _ _ (h σ' S' H' Fs' g' w p)
  | ct δ' => exact fun σ' S' H' Fs' g' w p => h4 _ _ (h σ' S' H' Fs' g' w p)
  | rt o δ' => exact fun σ' S' H' Fs' v F g' w p r n d fr => h2 _ _ (h σ' S' H' Fs' v F g' w p r n d fr)
  | er x δ' => exact h
  | bad => exact h
/-- from an expression to what follows it -/
def bS (f : M α) (g : α → G) : G := fun δ => match f δ with
  | .ok a δ' => g a δ'
  | .er x δ' => .er x δ'
  | .bad => .bad
theorem AftS.expr {f : M α} {g : α → G} {δ : List O} (h : AftS C W fx E σ S H Fs (bS f g δ)) : Aft C W σ S H Fs (f δ) fun a S' H' Fs' δ' => AftS C W fx E σ S' H' Fs' (g a δ') := by
  unfold bS at h
  cases q : f δ with
  | ok a δ' => rw [q] at h; exact fun S' H' Fs' g' w => AftS.pre h g' fun _ _ => rfl
  | er x δ' => rw [q] at h; exact fun cls dd S' H' Fs' g' w => h σ cls dd S' H' Fs' g' w fun _ _ => rfl
  | bad => rw [q] at h; exact h
/-- a slot is stored -/
theorem Wd.set {δ : List O} {v : V} {o : O} {F : List Addr} {i : Nat} (w : Wd C S H Fs σ δ) (r : RpO C S H o v F) (n : F.Nodup) (d : ∀ a ∈ F, ∀ j, j ≠ i → a ∉ Fs j) :
    Wd C S H (fun j => if j = i then F else Fs j) (σ.set i (some v)) (δ.set i o) where
  le := w.le
  len := by simp [w.len]
  sl := fun j o' e ne => by
    by_cases hj : j = i
    · subst hj
      have hlt : j < δ.length := by
        have := (List.getElem?_eq_some_iff.mp e).1
        simpa using this
      rw [List.getElem?_set_self hlt] at e
      cases e
      refine ⟨v, ?_, ?_⟩
      · rw [List.getElem?_set_self (by rw [← w.len]; exact hlt)]
      · simpa using r
    · rw [List.getElem?_set_ne (Ne.symm hj)] at e ⊢
      obtain ⟨v', e1, r'⟩ := w.sl j o' e ne
      exact ⟨v', e1, by simpa [hj] using r'⟩
  dj := fun j k a h1 h2 => by
    by_cases hj : j = i
    · by_cases hk : k = i
      · rw [hj, hk]
      · simp only [hj, if_true] at h1
        simp only [hk, if_false] at h2
        exact absurd h2 (d a h1 k hk)
    · by_cases hk : k = i
      · simp only [hk, if_true] at h2
        simp only [hj, if_false] at h1
        exact absurd h1 (d a h2 j hj)
      · simp only [hj, hk, if_false] at h1 h2
        exact w.dj j k a h1 h2
  nd := fun j => by
    by_cases hj : j = i
    · simpa [hj] using n
    · simpa [hj] using w.nd j
  ns := fun j a ha => by
    by_cases hj : j = i
    · simp only [hj, if_true] at ha
      have := RpO.fp o v F r a ha
      exact ⟨this.1, this.2.1, this.2.2.2⟩
    · simp only [hj, if_false] at ha
      exact w.ns j a ha
  tb := w.tb
theorem Grow.set {i : Nat} {F : List Addr} (g : Grow S H Fs S1 H1 F1) (hF : ∀ a ∈ F, H a = none ∨ ∃ j, a ∈ Fs j) : Grow S H Fs S1 H1 (fun j => if j = i then F else F1 j) where
  ls := g.ls
  kp := g.kp
  th := g.th
  ns := g.ns
  tk := g.tk
  nf := fun j a ha => by
    by_cases hj : j = i
    · simp only [hj, if_true] at ha; exact hF a ha
    · simp only [hj, if_false] at ha; exact g.nf j a ha
end
section
variable {X : Cx} {C : Ct} {W : WX} {fx : List Nat} {e ea : Expr} {pos : Pos} {st : Stmt} {rest : List Stmt} {f : M D} {fo : M O} {g h : G}
def sNext : G := fun δ => .nx δ
def sSeq (g h : G) : G := fun δ => match g δ with
  | .nx δ' => h δ'
  | r => r
theorem pgs_nil : PGs' X C W fx [] sNext := ⟨PSs.imp pss_nil fun E σ H ⟨S, Fs, δ, w, q⟩ => q σ S H Fs (Grow.refl _ _ _) w fun _ _ => rfl⟩
theorem seq_read {E : Ends} {σ : L2.St} {H : Hp} (q : tS C W fx (sSeq g h) E σ H) : tSeq (tS C W fx g) (tS C W fx h) E σ H := by
  obtain ⟨S, Fs, δ, w, q⟩ := q
  refine ⟨S, Fs, δ, w, ?_⟩
  unfold sSeq at q
  cases eq : g δ with
  | nx δ' => rw [eq] at q; exact fun σ' S' H' Fs' g' w' p => ⟨S', Fs', δ', w', AftS.pre q g' p⟩
  | rt o δ' => rw [eq] at q; exact q
  | bk δ' => rw [eq] at q; exact q
  | ct δ' => rw [eq] at q; exact q
  | er x δ' => rw [eq] at q; exact q
  | bad => rw [eq] at q; exact q
theorem pgs_cons (h1 : PG' X C W fx st g) (h2 : PGs' X C W fx rest h) : PGs' X C W fx (st :: rest) (sSeq g h) := ⟨PSs.imp (pss_cons h1.ps h2.ps) fun E σ H q => seq_read q⟩
theorem pgs_one (h1 : PG' X C W fx st g) : PGs' X C W fx [st] g := ⟨pss_one h1.ps⟩
/-- name = e -/
def sSet (i : Nat) (f : M O) : G := bS f fun o δ => .nx (δ.set i o)
theorem fx_set {fx : List Nat} {i : Nat} {σ : L2.St} {v : V} (hi : fx.contains i = false) : ∀ j ∈ fx, (σ.set i (some v))[j]? = σ[j]? := fun j hj => by
  have : j ≠ i := fun z => by
    subst z
    have := List.contains_iff_mem.mpr hj
    rw [hi] at this; cases this
  rw [List.getElem?_set_ne (Ne.symm this)]
theorem set_read {i : Nat} {E : Ends} {σ : L2.St} {H : Hp} (hi : fx.contains i = false) (q : tS C W fx (sSet i fo) E σ H) : tAsg (tO C W fo) (gName i) E σ H := by
  obtain ⟨S, Fs, δ, w, q⟩ := q
  refine ⟨S, Fs, δ, w, ?_⟩
  unfold sSet bS at q
  cases eq : fo δ with
  | ok o δ' =>
    rw [eq] at q
    exact fun S1 H1 F1 g1 w1 v F r n d fr => q _ S1 H1 _ (g1.set fr) (w1.set r n fun a ha j _ => d a ha j) (fx_set hi)
  | er x δ' => rw [eq] at q; exact fun cls dd S' H' Fs' g w => q σ cls dd S' H' Fs' g w fun _ _ => rfl
  | bad => rw [eq] at q; exact q
theorem setD_read {i : Nat} {E : Ends} {σ : L2.St} {H : Hp} (hi : fx.contains i = false) (q : tS C W fx (sSet i (shM f)) E σ H) : tAsg (tD C W f) (gName i) E σ H := by
  obtain ⟨S, Fs, δ, w, q⟩ := q
  refine ⟨S, Fs, δ, w, ?_⟩
  unfold sSet bS shM bnd at q
  cases eq : f δ with
  | ok o δ' =>
    rw [eq] at q
    exact fun S1 H1 F1 g1 w1 v r => q _ S1 H1 _ (g1.set (F := []) fun _ z => nomatch z) (w1.set (o := .sh o) (F := []) (by simp only [RpO]; exact ⟨r, trivial⟩) List.nodup_nil fun _ z => nomatch z) (fx_set hi)
  | er x δ' => rw [eq] at q; exact fun cls dd S' H' Fs' g w => q σ cls dd S' H' Fs' g w fun _ _ => rfl
  | bad => rw [eq] at q; exact q
/-- p: PS of an assignment of any reading -/
theorem pg_setO {i : Nat} (p : ∀ t, PE X e t → PS X st (tAsg t (gName i))) (h : PN X C W e fo) (hi : fx.contains i = false := by rfl) : PG' X C W fx st (sSet i fo) := ⟨PS.imp (p _ h.pe) fun E σ H q => set_read hi q⟩
theorem pg_set {i : Nat} (p : ∀ t, PE X e t → PS X st (tAsg t (gName i))) (h : PD X C W e f) (hi : fx.contains i = false := by rfl) : PG' X C W fx st (sSet i (shM f)) := ⟨PS.imp (p _ h.pe) fun E σ H q => setD_read hi q⟩
/-- return e -/
def sRet (f : M O) : G := bS f fun o δ => .rt o δ
theorem pg_retO (h : PN X C W e fo) : PG' X C W fx (.Return (some e) pos) (sRet fo) := by
  refine ⟨PS.imp (ps_ret h.pe) fun E σ H ⟨S, Fs, δ, w, q⟩ => ⟨S, Fs, δ, w, ?_⟩⟩
  unfold sRet bS at q
  cases eq : fo δ with
  | ok o δ' =>
    rw [eq] at q
    exact fun S1 H1 F1 g1 w1 v F r n d fr => q σ S1 H1 F1 v F g1 w1 (fun _ _ => rfl) r n d fr
  | er x δ' => rw [eq] at q; exact fun cls dd S' H' Fs' g w => q σ cls dd S' H' Fs' g w fun _ _ => rfl
  | bad => rw [eq] at q; exact q
theorem pg_ret (h : PD X C W e f) : PG' X C W fx (.Return (some e) pos) (sRet (shM f)) := pg_retO h.o
def sRetN : G := fun δ => .rt (.sh .non) δ
theorem pg_retN : PG' X C W fx (.Return none pos) sRetN := ⟨PS.imp ps_retN fun E σ H ⟨S, Fs, δ, w, q⟩ =>
  q σ S H Fs .non [] (Grow.refl _ _ _) w (fun _ _ => rfl) (by simp only [RpO, Rp]; exact ⟨trivial, trivial⟩) List.nodup_nil (fun _ z => nomatch z) fun _ z => nomatch z⟩
/-- if -/
def sIf (t : M Bool) (g h : G) : G := bS t fun b δ => if b then g δ else h δ
theorem pg_if {c : Expr} {a b : List Stmt} {t : M Bool} (hc : PQ X C W c t) (ha : PGs' X C W fx a g) (hb : PGs' X C W fx b h) : PG' X C W fx (.If c a b pos) (sIf t g h) := by
  refine ⟨PS.imp (ps_if hc.pt ha.ps hb.ps) fun E σ H ⟨S, Fs, δ, w, q⟩ => ⟨S, Fs, δ, w, (AftS.expr q).mono fun b S1 H1 F1 δ1 g1 w1 q1 => ?_⟩⟩
  cases b with
  | true => exact ⟨S1, F1, δ1, w1, q1⟩
  | false => exact ⟨S1, F1, δ1, w1, q1⟩
/-- an expression whose value is dropped -/
def sDrop (f : M O) : G := bS f fun _ δ => .nx δ
theorem pg_drop (p : ∀ t, PE X e t → PS X st (tDrop t)) (h : PN X C W e fo) : PG' X C W fx st (sDrop fo) := by
  refine ⟨PS.imp (p _ h.pe) fun E σ H ⟨S, Fs, δ, w, q⟩ => ⟨S, Fs, δ, w, (AftS.expr q).mono fun o S1 H1 F1 δ1 g1 w1 q1 v F _ _ _ _ => ?_⟩⟩
  exact q1 σ S1 H1 F1 (Grow.refl _ _ _) w1 fun _ _ => rfl
def sPass : G := sNext
theorem pg_pass : PG' X C W fx (.Pass pos) sNext := ⟨PS.imp ps_pass fun E σ H ⟨S, Fs, δ, w, q⟩ => q σ S H Fs (Grow.refl _ _ _) w fun _ _ => rfl⟩
def sBreak : G := fun δ => .bk δ
def sCont : G := fun δ => .ct δ
theorem pg_break : PG' X C W fx (.Break pos) sBreak := ⟨PS.imp ps_break fun E σ H ⟨S, Fs, δ, w, q⟩ => q σ S H Fs (Grow.refl _ _ _) w fun _ _ => rfl⟩
theorem pg_cont : PG' X C W fx (.Continue pos) sCont := ⟨PS.imp ps_continue fun E σ H ⟨S, Fs, δ, w, q⟩ => q σ S H Fs (Grow.refl _ _ _) w fun _ _ => rfl⟩
end

/-! ### targets -/
/-- what a target does with a datum: the slots behind it -/
abbrev Tg := D → List O → Option (List O)
def tgName (i : Nat) : Tg := fun d δ => some (δ.set i (.sh d))
def tgAll : List Tg → List D → List O → Option (List O)
  | [], [], δ => some δ
  | t :: ts, d :: ds, δ => (t d δ).bind fun δ' => tgAll ts ds δ'
  | _, _, _ => none
def tgTup (ts : List Tg) : Tg := fun d δ => match d with
  | .tup ds => tgAll ts ds δ
  | .lst ds => none
  | _ => none
theorem tgAll_len : ∀ (ts : List Tg) (ds : List D) (δ δ' : List O), tgAll ts ds δ = some δ' → ds.length = ts.length
  | [], [], _, _, _ => rfl
  | [], _ :: _, _, _, h => by cases h
  | _ :: _, [], _, _, h => by cases h
  | t :: ts, d :: ds, δ, δ', h => by
    simp only [tgAll, Option.bind_eq_some_iff] at h
    obtain ⟨δ1, e1, e2⟩ := h
    simp [tgAll_len ts ds δ1 δ' e2]
/-- the target's reading takes a datum that lies so; ix: the slots that it stores -/
structure PTg (X : Cx) (C : Ct) (ix : List Nat) (e : Expr) (g : TG) (t : Tg) : Prop where
  pg : PG X e g
  rd : ∀ (d : D) (δ δ' : List O) (v : V) (S H : Hp) (Fs : Nat → List Addr) (σ : L2.St) (Q : L2.St → Hp → Prop), t d δ = some δ' → Wd C S H Fs σ δ → Rp C S d v →
    (∀ σ' Fs', Wd C S H Fs' σ' δ' → Grow S H Fs S H Fs' → σ'.length = σ.length → (∀ i, i ∉ ix → σ'[i]? = σ[i]?) → Q σ' H) → g v σ H Q
structure PTgs (X : Cx) (C : Ct) (ix : List Nat) (es : List Expr) (g : TGs) (ts : List Tg) : Prop where
  pg : PGs X es g
  rd : ∀ (ds : List D) (δ δ' : List O) (vs : List V) (S H : Hp) (Fs : Nat → List Addr) (σ : L2.St) (Q : L2.St → Hp → Prop), tgAll ts ds δ = some δ' → Wd C S H Fs σ δ → RpL C S ds vs →
    (∀ σ' Fs', Wd C S H Fs' σ' δ' → Grow S H Fs S H Fs' → σ'.length = σ.length → (∀ i, i ∉ ix → σ'[i]? = σ[i]?) → Q σ' H) → g vs σ H Q
section
variable {X : Cx} {C : Ct} {ix ix' : List Nat} {e : Expr} {es : List Expr} {pos : Pos}
theorem ptg_name {i : Nat} (p : PG X e (gName i)) : PTg X C [i] e (gName i) (tgName i) := by
  refine ⟨p, fun d δ δ' v S H Fs σ Q et w r k => ?_⟩
  cases et
  refine k _ _ (w.set (o := .sh d) (F := []) (by simp only [RpO]; exact ⟨r, trivial⟩) List.nodup_nil fun _ z => nomatch z) ((Grow.refl _ _ _).set fun _ z => nomatch z) (by simp) fun j hj => ?_
  rw [List.getElem?_set_ne (by intro z; subst z; simp at hj)]
theorem ptgs_nil : PTgs X C [] [] gNil [] := by
  refine ⟨L2.pgs_nil, fun ds δ δ' vs S H Fs σ Q et w r k => ?_⟩
  cases ds with
  | nil =>
    cases et
    simp only [RpL] at r
    exact ⟨r, k σ Fs w (Grow.refl _ _ _) rfl fun _ _ => rfl⟩
  | cons d ds => cases et
theorem ptgs_cons {g : TG} {gs : TGs} {t : Tg} {ts : List Tg} (h : PTg X C ix e g t) (hs : PTgs X C ix' es gs ts) (hq : (assignEach (e :: es) X.env).map (·.2) = assign e X.env :: (assignEach es X.env).map (·.2) := by rfl) : PTgs X C (ix ++ ix') (e :: es) (gCons g gs) (t :: ts) := by
  refine ⟨L2.pgs_cons h.pg hs.pg hq, fun ds δ δ' vs S H Fs σ Q et w r k => ?_⟩
  cases ds with
  | nil => cases et
  | cons d ds =>
    simp only [tgAll, Option.bind_eq_some_iff] at et
    obtain ⟨δ1, e1, e2⟩ := et
    simp only [RpL] at r
    obtain ⟨v, rr, h1, h2, h3⟩ := r
    exact ⟨v, rr, h1, h.rd d δ δ1 v S H Fs σ _ e1 w h2 fun σ1 F1 w1 g1 l1 p1 => hs.rd ds δ1 δ' rr S H F1 σ1 Q e2 w1 h3 fun σ2 F2 w2 g2 l2 p2 => k σ2 F2 w2 (g1.trans g2) (l2.trans l1) fun i hi => by
      simp only [List.mem_append, not_or] at hi
      exact (p2 i hi.2).trans (p1 i hi.1)⟩
theorem ptg_tup {k : Nat} {gs : TGs} {ts : List Tg} {n : Nat} (hs : PTgs X C ix es gs ts) (hn : ts.length = n) (p : PG X (.Tuple es k pos) (gTup X.K n gs)) (hK : C.K = X.K := by rfl) : PTg X C ix (.Tuple es k pos) (gTup X.K n gs) (tgTup ts) := by
  refine ⟨p, fun d δ δ' v S H Fs σ Q et w r k => ?_⟩
  cases d with
  | tup ds =>
    simp only [Rp] at r
    obtain ⟨a, vs, h1, h2, h3⟩ := r
    have et' : tgAll ts ds δ = some δ' := et
    have hl := tgAll_len ts ds δ δ' et'
    rw [hK] at h2
    exact ⟨a, vs, h1, w.le.t h2, by rw [RpL.length _ _ h3, hl, hn], hs.rd ds δ δ' vs S H Fs σ Q et' w h3 k⟩
  | _ => cases et
/-- target = e -/
def sAsg (tg : Tg) (f : M D) : G := bS f fun d δ => match tg d δ with
  | some δ' => .nx δ'
  | none => .bad
theorem pg_asg {W : WX} {fx : List Nat} {tg : Expr} {g : TG} {t : Tg} {st : Stmt} {f : M D} (p : ∀ t, PE X e t → PS X st (tAsg t g)) (h : PD X C W e f) (ht : PTg X C ix tg g t) (hi : (fx.all fun i => !ix.contains i) = true := by rfl) : PG' X C W fx st (sAsg t f) := by
  refine ⟨PS.imp (p _ h.pe) fun E σ H ⟨S, Fs, δ, w, q⟩ => ⟨S, Fs, δ, w, (AftS.expr q).mono fun d S1 H1 F1 δ1 g1 w1 q1 v r1 => ?_⟩⟩
  cases et : t d δ1 with
  | none => rw [et] at q1; exact q1.elim
  | some δ2 =>
    rw [et] at q1
    exact ht.rd d δ1 δ2 v S1 H1 F1 σ _ et w1 r1 fun σ2 F2 w2 g2 l2 p2 => q1 σ2 S1 H1 F2 g2 w2 fun i hi' => p2 i fun z => by
      have := List.all_eq_true.mp hi i hi'
      rw [List.contains_iff_mem.mpr z] at this
      cases this
end
end FW

set_option Elab.async false
set_option linter.all false
set_option maxRecDepth 100000
set_option maxHeartbeats 1000000
/-! FwG: what is walked; for; comprehensions. -/
namespace FW
open PySem PySem.Spec PyProof.Rows L2
/-- J walks the data ds, that lie in S -/
structure Walks (C : Ct) (S : Hp) (ds : List D) (J : It) : Prop where
  go : ∀ i H, Le S H → i < ds.length → J.go i H
  stop : ∀ i H, Le S H → ds.length ≤ i → J.stop i H
  yld : ∀ i H x H' S1, Le S S1 → Le S1 H → i < ds.length → J.yld i H x H' → ∃ S2 d, Le S1 S2 ∧ Le H H' ∧ (∀ a, S2 a ≠ none → S1 a ≠ none ∨ H a = none) ∧ Le S2 H' ∧ ds[i]? = some d ∧ Rp C S2 d x
def tI (C : Ct) (W : WX) (f : M (List D)) : TI := fun σ H R => ∃ S Fs δ, Wd C S H Fs σ δ ∧ Aft C W σ S H Fs (f δ) fun ds S' H' _ _ => ∀ J, Walks C S' ds J → R J H'
structure PIt (X : Cx) (C : Ct) (W : WX) (tg iter : Expr) (f : M (List D)) : Prop where
  pi : PI X tg iter (tI C W f)
theorem PI.imp {X : Cx} {tg iter : Expr} {t t' : TI} (p : PI X tg iter t) (h : ∀ σ H Q, t' σ H Q → t σ H Q) : PI X tg iter t' := ⟨fun pins s σ H R I q => p.run pins s σ H R I (h σ H R q)⟩
section
variable {X : Cx} {C : Ct} {W : WX} {fx : List Nat} {tg iter e ea eb : Expr} {f fa fb : M D} {pos p : Pos}
def itL (f : M D) : M (List D) := bnd f fun d => match d with
  | .lst ds => ret ds
  | _ => bad
def itT (f : M D) : M (List D) := bnd f fun d => match d with
  | .tup ds => ret ds
  | _ => bad
theorem pit_list (h : PD X C W iter f) (hK : C.K = X.K := by rfl) : PIt X C W tg iter (itL f) := by
  refine ⟨PI.imp (pi_list h.pe) fun σ H R ⟨S, Fs, δ, w, q⟩ => ⟨S, Fs, δ, w, (Aft.bind q).mono fun d S1 H1 F1 δ1 g1 w1 q1 v r1 => ?_⟩⟩
  cases d with
  | lst ds =>
    simp only [Rp] at r1
    obtain ⟨a, vs, h1, h2, h3⟩ := r1
    have hl := RpL.length _ _ h3
    refine ⟨a, h1, ⟨vs, SqL.of (w1.le a _ h2)⟩, q1.now w1 _ ⟨fun i H e hi => ?_, fun i H e hi => ⟨vs, SqL.of (e a _ h2), by omega⟩, fun i H x H' S2 e1 e2 hi hy => ?_⟩⟩
    · obtain ⟨v', hv, _⟩ := RpL.get' _ _ h3 i _ (List.getElem?_eq_getElem hi)
      exact ⟨vs, v', SqL.of (e a _ h2), hv⟩
    · obtain ⟨rfl, hy⟩ := hy
      have hv := hy vs (SqL.of (e2 a _ (e1 a _ h2)))
      obtain ⟨d, hd, rd⟩ := RpL.get _ _ h3 i x hv
      exact ⟨S2, d, Le.refl _, Le.refl _, fun a z => .inl z, e2, hd, rd.mono e1⟩
  | _ => exact q1.elim
theorem pit_tup (h : PD X C W iter f) (hK : C.K = X.K := by rfl) : PIt X C W tg iter (itT f) := by
  refine ⟨PI.imp (pi_tup h.pe) fun σ H R ⟨S, Fs, δ, w, q⟩ => ⟨S, Fs, δ, w, (Aft.bind q).mono fun d S1 H1 F1 δ1 g1 w1 q1 v r1 => ?_⟩⟩
  cases d with
  | tup ds =>
    simp only [Rp] at r1
    obtain ⟨a, vs, h1, h2, h3⟩ := r1
    have hl := RpL.length _ _ h3
    rw [hK] at h2
    refine ⟨a, h1, ⟨vs, w1.le.t h2⟩, q1.now w1 _ ⟨fun i H e hi => ?_, fun i H e hi => ⟨vs, e.t h2, by omega⟩, fun i H x H' S2 e1 e2 hi hy => ?_⟩⟩
    · obtain ⟨v', hv, _⟩ := RpL.get' _ _ h3 i _ (List.getElem?_eq_getElem hi)
      exact ⟨vs, v', e.t h2, hv⟩
    · obtain ⟨rfl, hy⟩ := hy
      have hv := hy vs (e2.t (e1.t h2))
      obtain ⟨d, hd, rd⟩ := RpL.get _ _ h3 i x hv
      exact ⟨S2, d, Le.refl _, Le.refl _, fun a z => .inl z, e2, hd, rd.mono e1⟩
  | _ => exact q1.elim
def rangeD (lo : Int) (n : Nat) : List D := (List.range n).map fun (i : Nat) => D.int (lo + (i : Int))
theorem walks_range {S : Hp} {lo : Int} {n : Nat} : Walks C S (rangeD lo n) (Itr lo n) where
  go := fun i H _ hi => by show i < n; simpa [rangeD] using hi
  stop := fun i H _ hi => by show n ≤ i; simpa [rangeD] using hi
  yld := fun i H x H' S1 e1 e2 hi hy => by
    obtain ⟨rfl, rfl⟩ := hy
    have hi' : i < n := by simpa [rangeD] using hi
    exact ⟨S1, .int (lo + i), Le.refl _, Le.refl _, fun a z => .inl z, e2, by simp [rangeD, hi'], by simp only [Rp]⟩
def itR1 (f : M D) : M (List D) := bnd f fun d => match d with
  | .int j => if -4611686018427387904 ≤ j ∧ j < 4611686018427387904 then ret (rangeD 0 j.toNat) else bad
  | _ => bad
def itR2 (f g : M D) : M (List D) := bnd f fun d => bnd g fun d' => match d, d' with
  | .int i, .int j => if (-4611686018427387904 ≤ i ∧ i < 4611686018427387904) ∧ -4611686018427387904 ≤ j ∧ j < 4611686018427387904 then ret (rangeD i (j - i).toNat) else bad
  | _, _ => bad
theorem pit_range1 (hg : Gl X "range") (hm : X.mg "range" = none) (h : PD X C W ea fa) (hs : starEach [ea] X.env = [(false, eval ea X.env)] := by rfl) : PIt X C W tg (.Call (.Name "range" p) [ea] [] pos) (itR1 fa) := by
  refine ⟨PI.imp (pi_range1 hg hm (pa_cons h.pe pa_nil hs) hs) fun σ H R ⟨S, Fs, δ, w, q⟩ => ⟨S, Fs, δ, w, (Aft.bind q).mono fun d S1 H1 F1 δ1 g1 w1 q1 v r1 => ?_⟩⟩
  cases d with
  | int j =>
    simp only [Rp] at r1
    subst r1
    dsimp only at q1
    split at q1
    · rename_i hz
      exact ⟨j, rfl, by omega, by omega, q1.now w1 _ walks_range⟩
    · exact q1.elim
  | _ => exact q1.elim
/-! ### for -/
def loopS (tg : Tg) (body : G) : List D → G
  | [] => fun δ => .nx δ
  | d :: ds => fun δ => match tg d δ with
    | none => .bad
    | some δ1 => match body δ1 with
      | .nx δ2 => loopS tg body ds δ2
      | .ct δ2 => loopS tg body ds δ2
      | .bk δ2 => .nx δ2
      | .rt o δ2 => .rt o δ2
      | .er x δ2 => .er x δ2
      | .bad => .bad
def sFor (f : M (List D)) (tg : Tg) (body : G) : G := bS f fun ds => loopS tg body ds
theorem pg_for {body : List Stmt} {fi : M (List D)} {g : TG} {t : Tg} {b : G} {ix : List Nat} (hp : PassesOwn (model X.prog X.w) X.A X.env X.xe) (hc : X.calm = true) (hi : PIt X C W tg iter fi) (ht : PTg X C ix tg g t) (hb : PGs' X C W fx body b)
    (hx : (fx.all fun i => !ix.contains i) = true := by rfl) (hs : ∀ x, foldedSetIterable iter X.env x = pure x := by intro _; rfl) : PG' X C W fx (.For tg iter body [] pos) (sFor fi t b) := by
  refine ⟨PS.imp (ps_for hp hc hi.pi ht.pg hb.ps hs) fun E σ H ⟨S, Fs, δ, w, q⟩ => ⟨S, Fs, δ, w, (AftS.expr q).mono fun ds S1 H1 F1 δ1 g1 w1 q1 J wk => ?_⟩⟩
  have nix : ∀ i ∈ fx, i ∉ ix := fun i hi' z => by
    have := List.all_eq_true.mp hx i hi'
    rw [List.contains_iff_mem.mpr z] at this
    cases this
  refine ⟨fun i m σ' H' => m = ds.length - i ∧ ∃ S' F' δ', Wd C S' H' F' σ' δ' ∧ Le S1 S' ∧ AftS C W fx E σ' S' H' F' (loopS t b (ds.drop i) δ'), ⟨ds.length, by simp, S1, F1, δ1, w1, Le.refl _, by simpa using q1⟩, ?_⟩
  rintro i m σ' H' ⟨rfl, S', F', δ', w', le', q'⟩
  by_cases hlt : i < ds.length
  · right
    obtain ⟨d, hd⟩ : ∃ d, ds[i]? = some d := ⟨_, List.getElem?_eq_getElem hlt⟩
    have hdrop : ds.drop i = d :: ds.drop (i + 1) := by
      rw [List.drop_eq_getElem_cons hlt]
      rw [List.getElem?_eq_getElem hlt] at hd
      cases hd; rfl
    rw [hdrop] at q'
    refine ⟨wk.go i H' (le'.trans w'.le) hlt, fun σ2 H2 => ∃ S' F' δ', Wd C S' H2 F' σ2 δ' ∧ Le S1 S' ∧ AftS C W fx E σ2 S' H2 F' (loopS t b (ds.drop (i + 1)) δ'), fun σ2 H2 h2 => ⟨ds.length - (i + 1), by omega, rfl, h2⟩, fun x H2 hy => ?_⟩
    obtain ⟨S2, d', l1, l2, l3, l4, hd', rd⟩ := wk.yld i H' x H2 S' le' w'.le hlt hy
    rw [hd] at hd'; cases hd'
    have w2 := w'.new l1 l2 l3 l4
    have G2 : Grow S' H' F' S2 H2 F' := Grow.new l1 l2 l3
    unfold loopS at q'
    cases et : t d δ' with
    | none => rw [et] at q'; exact q'.elim
    | some δ2 =>
      rw [et] at q'
      refine ht.rd d δ' δ2 x S2 H2 F' σ' _ et w2 rd fun σ3 F3 w3 g3 l3' p3 => ⟨S2, F3, δ2, w3, ?_⟩
      have q2 := AftS.pre q' (G2.trans g3) fun j hj => p3 j (nix j hj)
      dsimp only at q2
      have le2 : Le S1 S2 := le'.trans l1
      cases eb : b δ2 with
      | nx δ4 => rw [eb] at q2; exact fun σ5 S5 H5 F5 g5 w5 p5 => ⟨S5, F5, δ4, w5, le2.trans g5.ls, AftS.pre q2 g5 p5⟩
      | ct δ4 => rw [eb] at q2; exact fun σ5 S5 H5 F5 g5 w5 p5 => ⟨S5, F5, δ4, w5, le2.trans g5.ls, AftS.pre q2 g5 p5⟩
      | bk δ4 => rw [eb] at q2; exact q2
      | rt o δ4 => rw [eb] at q2; exact q2
      | er x δ4 => rw [eb] at q2; exact q2
      | bad => rw [eb] at q2; exact q2
  · left
    have hnil : ds.drop i = [] := List.drop_eq_nil_of_le (by omega)
    rw [hnil] at q'
    exact ⟨wk.stop i H' (le'.trans w'.le) (by omega), q' σ' S' H' F' (Grow.refl _ _ _) w' fun _ _ => rfl⟩
/-! ### comprehensions -/
def wipeO (δ : List O) : List Nat → List O
  | [] => δ
  | v :: vs => (wipeO δ vs).set v .no
def plainO : O → Bool
  | .no => true
  | .sh _ => true
  | _ => false
def simpO (δ : List O) (vs : List Nat) : Bool := vs.all fun i => match δ[i]? with
  | some o => plainO o
  | none => true
def backO (δ δ' : List O) : List Nat → List O
  | [] => δ'
  | v :: vs => match δ[v]? with
    | some o => (backO δ δ' vs).set v o
    | none => backO δ δ' vs
theorem wipeO_get (δ : List O) : ∀ (vs : List Nat) (i : Nat) (o : O), (wipeO δ vs)[i]? = some o → o ≠ .no → δ[i]? = some o ∧ i ∉ vs
  | [], i, o, h, _ => ⟨h, by simp⟩
  | v :: vs, i, o, h, ne => by
    unfold wipeO at h
    by_cases hi : v = i
    · subst hi
      by_cases hv : v < (wipeO δ vs).length
      · rw [List.getElem?_set_self hv] at h; cases h; exact absurd rfl ne
      · rw [List.getElem?_eq_none (by simpa using hv)] at h; cases h
    · rw [List.getElem?_set_ne hi] at h
      obtain ⟨h1, h2⟩ := wipeO_get δ vs i o h ne
      exact ⟨h1, by simp only [List.mem_cons, not_or]; exact ⟨fun e => hi e.symm, h2⟩⟩
theorem wipeO_length (δ : List O) : ∀ vs : List Nat, (wipeO δ vs).length = δ.length
  | [] => rfl
  | v :: vs => by unfold wipeO; rw [List.length_set, wipeO_length δ vs]
theorem backO_length (δ δ' : List O) : ∀ vs : List Nat, (backO δ δ' vs).length = δ'.length
  | [] => rfl
  | v :: vs => by
    unfold backO
    split
    · rw [List.length_set, backO_length δ δ' vs]
    · exact backO_length δ δ' vs
theorem backO_get (δ δ' : List O) (hl : δ'.length = δ.length) : ∀ (vs : List Nat) (i : Nat), (backO δ δ' vs)[i]? = if i ∈ vs then δ[i]? else δ'[i]?
  | [], i => by simp [backO]
  | v :: vs, i => by
    unfold backO
    have ih := backO_get δ δ' hl vs i
    cases e : δ[v]? with
    | some o =>
      dsimp only
      by_cases hi : v = i
      · subst hi
        have hlt := (List.getElem?_eq_some_iff.mp e).1
        rw [List.getElem?_set_self (by rw [backO_length, hl]; exact hlt)]
        simp [e]
      · rw [List.getElem?_set_ne hi, ih]
        simp only [List.mem_cons, Ne.symm hi, false_or]
    | none =>
      dsimp only
      rw [ih]
      by_cases hi : v = i
      · subst hi
        by_cases hm : v ∈ vs
        · simp [hm]
        · simp only [hm, if_false, List.mem_cons, true_or, if_true]
          have := List.getElem?_eq_none_iff.mp e
          rw [e]
          exact List.getElem?_eq_none (by omega)
      · simp only [List.mem_cons, Ne.symm hi, false_or]
theorem wipe_out' {σ : L2.St} {i : Nat} : ∀ {vs : List Nat}, i ∉ vs → (wipe σ vs)[i]? = σ[i]?
  | [], _ => rfl
  | v :: vs, h => by
    simp only [List.mem_cons, not_or] at h
    unfold wipe
    rw [List.getElem?_set_ne (Ne.symm h.1), wipe_out' h.2]
theorem wipe_in' {σ : L2.St} {i : Nat} (hi : i < σ.length) : ∀ {vs : List Nat}, i ∈ vs → (wipe σ vs)[i]? = some none
  | [], h => by simp at h
  | v :: vs, h => by
    unfold wipe
    by_cases hv : v = i
    · subst hv
      rw [List.getElem?_set_self (by rw [wipe_length]; exact hi)]
    · rw [List.getElem?_set_ne hv]
      rcases List.mem_cons.mp h with e | h
      · exact absurd e.symm hv
      · exact wipe_in' hi h
theorem Wd.wiped {S H : Hp} {Fs : Nat → List Addr} {σ : L2.St} {δ : List O} (vs : List Nat) (w : Wd C S H Fs σ δ) : Wd C S H Fs (wipe σ vs) (wipeO δ vs) where
  le := w.le
  len := by rw [wipeO_length, wipe_length, w.len]
  sl := fun i o e ne => by
    obtain ⟨h1, h2⟩ := wipeO_get δ vs i o e ne
    obtain ⟨v, e1, r⟩ := w.sl i o h1 ne
    exact ⟨v, by rw [wipe_out' h2]; exact e1, r⟩
  dj := w.dj
  nd := w.nd
  ns := w.ns
  tb := w.tb
def compL (tg : Tg) (t : M Bool) (elt : M D) (vs : List Nat) : List D → List D → List O → Res (List D)
  | [], acc, δ => .ok acc δ
  | d :: ds, acc, δ => match tg d δ with
    | none => .bad
    | some δ1 => match t δ1 with
      | .ok true δ2 => match elt δ2 with
        | .ok y δ3 => compL tg t elt vs ds (acc ++ [y]) (wipeO δ3 vs)
        | _ => .bad
      | .ok false δ2 => compL tg t elt vs ds acc (wipeO δ2 vs)
      | _ => .bad
def compM (f : M (List D)) (tg : Tg) (t : M Bool) (elt : M D) (vs : List Nat) : M (List D) := bnd f fun ds δ =>
  if ds.length ≤ 16777216 ∧ simpO δ vs = true then match compL tg t elt vs ds [] (wipeO δ vs) with
    | .ok ys δ' => .ok ys (backO δ δ' vs)
    | _ => .bad
  else .bad
end
end FW

set_option Elab.async false
set_option linter.all false
set_option maxRecDepth 100000
set_option maxHeartbeats 1000000
/-! FwH: comprehensions keep their meaning; calls of defs; a def's body. -/
namespace FW
open PySem PySem.Spec PyProof.Rows L2
theorem tabs_mut {T : List (Addr × Str)} {S H : Hp} {l : Addr} {xs ys : List V} (t0 : TabW T S H) (h : H l = some (.lst xs)) : TabW T S (upd H l (.lst ys)) := ⟨fun p hp => by
  have t := t0.t
  obtain ⟨ps, h1, h2, h3⟩ := t p hp
  refine ⟨ps, by rw [upd_ne (fun z => by rw [z, h] at h1; cases h1)]; exact h1, h2, fun pos cv hc => ?_⟩
  obtain ⟨c, e1, e2⟩ := h3 pos cv hc
  refine ⟨c, e1, ?_⟩
  rw [upd_ne (fun z => by
    rw [z, h] at e2
    have e3 : HO.lst xs = HO.ext _ := Option.some.inj e2
    cases e3)]
  exact e2, t0.n⟩
/-- a list apart is changed -/
theorem Wd.mut {C : Ct} {S H : Hp} {Fs : Nat → List Addr} {σ : L2.St} {δ : List O} {l : Addr} {xs ys : List V} (w : Wd C S H Fs σ δ) (h : H l = some (.lst xs)) (hS : S l = none) (hF : ∀ i, l ∉ Fs i) : Wd C S (upd H l (.lst ys)) Fs σ δ where
  le := fun a o e => by rw [upd_ne (ne_of_none e hS)]; exact w.le a o e
  len := w.len
  sl := fun i o e ne => by
    obtain ⟨v, e1, r⟩ := w.sl i o e ne
    exact ⟨v, e1, RpO.mono (Le.refl _) o v _ (fun a ha h1 _ _ => ⟨h1, upd_ne fun z => hF i (by rw [← z]; exact ha)⟩) r⟩
  dj := w.dj
  nd := w.nd
  ns := fun i a ha => by
    obtain ⟨h1, h2⟩ := w.ns i a ha
    have ne : a ≠ l := fun z => hF i (by rw [← z]; exact ha)
    exact ⟨h1, by rw [upd_ne ne]; exact h2.1, fun φ => by rw [upd_ne ne]; exact h2.2 φ⟩
  tb := tabs_mut w.tb h
theorem Grow.mutN {S H S' H' : Hp} {Fs Fs' : Nat → List Addr} {l : Addr} {o : HO} (g : Grow S H Fs S' H' Fs') (h : H l = none) : Grow S H Fs S' (upd H' l o) Fs' where
  ls := g.ls
  kp := fun a u e n t => by rw [upd_ne (ne_of_none e h)]; exact g.kp a u e n t
  th := fun a e => by
    have : a ≠ l := fun z => e (by rw [z]; exact h)
    rw [upd_ne this]; exact g.th a e
  ns := g.ns
  tk := fun a ps e n => by
    rw [upd_ne (ne_of_none e h)]; exact g.tk a ps e n
  nf := g.nf
abbrev W0 : WX := fun _ _ _ _ => False
section
variable {X : Cx} {C : Ct} {W : WX} {fx : List Nat} {tg iter e ea eb elt : Expr} {f fa fb fe : M D} {pos p : Pos}
/-- behind the last turn -/
theorem Wd.back {S H S' H' : Hp} {Fs Fs' : Nat → List Addr} {σ : L2.St} {δ δ' : List O} {vs : List Nat} (w : Wd C S H Fs σ δ) (hs : simpO δ vs = true) (g : Grow S H Fs S' H' Fs') (w' : Wd C S' H' Fs' (wipe σ vs) δ') :
    Wd C S' H' (fun j => if j ∈ vs then [] else Fs' j) σ (backO δ δ' vs) ∧ Grow S H Fs S' H' (fun j => if j ∈ vs then [] else Fs' j) := by
  have hl : δ'.length = δ.length := by rw [w'.len, wipe_length, w.len]
  refine ⟨⟨w'.le, by rw [backO_length, hl, w.len], fun i o eo ne => ?_, fun i j a h1 h2 => ?_, fun i => ?_, fun i a ha => ?_, w'.tb⟩, ⟨g.ls, g.kp, g.th, g.ns, g.tk, fun i a ha => ?_⟩⟩
  · rw [backO_get δ δ' hl] at eo
    by_cases hi : i ∈ vs
    · simp only [hi, if_true] at eo ⊢
      obtain ⟨v, e1, r⟩ := w.sl i o eo ne
      have := List.all_eq_true.mp hs i hi
      rw [eo] at this
      cases o with
      | no => exact absurd rfl ne
      | sh d =>
        simp only [RpO] at r ⊢
        exact ⟨v, e1, r.1.mono g.ls, trivial⟩
      | _ => simp [plainO] at this
    · simp only [hi, if_false] at eo ⊢
      obtain ⟨v, e1, r⟩ := w'.sl i o eo ne
      exact ⟨v, by rw [wipe_out' hi] at e1; exact e1, r⟩
  · split at h1
    · simp at h1
    · split at h2
      · simp at h2
      · exact w'.dj i j a h1 h2
  · split
    · exact List.nodup_nil
    · exact w'.nd i
  · split at ha
    · simp at ha
    · exact w'.ns i a ha
  · split at ha
    · simp at ha
    · exact g.nf i a ha
/-- the reading of a comprehension's turns -/
theorem comp_read {J : It} {ds : List D} {g : TG} {t : Tg} {ix : List Nat} {tt : M Bool} {vs : List Nat} {σ : L2.St} {S H : Hp} {Fs : Nat → List Addr} {δ : List O} {Q : VK} {ys : List D} {δ' : List O}
    (ht : ∀ (d : D) (δ δ' : List O) (v : V) (S H : Hp) (Fs : Nat → List Addr) (σ : L2.St) (Q : L2.St → Hp → Prop), t d δ = some δ' → Wd C S H Fs σ δ → Rp C S d v →
      (∀ σ' Fs', Wd C S H Fs' σ' δ' → Grow S H Fs S H Fs' → σ'.length = σ.length → (∀ i, i ∉ ix → σ'[i]? = σ[i]?) → Q σ' H) → g v σ H Q)
    (hx : (ix.all fun i => vs.contains i) = true) (w : Wd C S H Fs σ δ) (wk : Walks C S ds J) (hz : ds.length ≤ 16777216) (hs : simpO δ vs = true) (hc : compL t tt fe vs ds [] (wipeO δ vs) = .ok ys δ')
    (k : ∀ Dl S' H' Fs', Grow S H Fs S' H' Fs' → Wd C S' H' Fs' σ (backO δ δ' vs) → S' Dl = none → H Dl = none → (∀ i, Dl ∉ Fs' i) → (∃ vs', H' Dl = some (.lst vs') ∧ RpL C S' ys vs') → Q (.ref Dl) H') :
    ∀ Dl, H Dl = none → ∃ Wn : Nat → Nat → Hp → Prop, (∃ m, Wn 0 m (upd H Dl (.lst []))) ∧ ∀ i m H, Wn i m H →
      (J.stop i H ∧ Q (.ref Dl) H) ∨ (J.go i H ∧ ∃ Nx : Hp → Prop, (∀ H', Nx H' → ∃ m', m' < m ∧ Wn (i + 1) m' H') ∧ ∀ x H', J.yld i H x H' → g x (wipe σ vs) H' fun σ2 H2 => wipe σ2 vs = wipe σ vs ∧ tT C W0 tt σ2 H2 fun b H3 =>
        if b = true then tD C W0 fe σ2 H3 fun y H4 => ∃ acc, H4 Dl = some (.lst acc) ∧ acc.length < sizeLine ∧ Nx (upd H4 Dl (.lst (acc ++ [y]))) else Nx H3) := by
  intro Dl hD
  have hSD : S Dl = none := w.le.none hD
  have nF0 : ∀ i, Dl ∉ Fs i := fun i z => (w.ns i Dl z).2.1 hD
  -- the invariant: a heap Hb without the new list
  refine ⟨fun i m Hh => m = ds.length - i ∧ i ≤ ds.length ∧ ∃ S' F' δ1 acc vacc, Wd C S' Hh F' (wipe σ vs) δ1 ∧ Grow S H Fs S' Hh F' ∧ S' Dl = none ∧ (∀ i, Dl ∉ F' i) ∧ Hh Dl = some (.lst vacc) ∧ RpL C S' acc vacc ∧ acc.length ≤ i ∧
    compL t tt fe vs (ds.drop i) acc δ1 = .ok ys δ', ⟨ds.length, by simp, Nat.zero_le _, S, Fs, wipeO δ vs, [], [], ?_, ?_, hSD, nF0, upd_same, by simp only [RpL], Nat.le_refl _, by simpa using hc⟩, ?_⟩
  · exact (w.wiped vs).new (Le.refl _) (Le.upd hD) (fun a z => .inl z) (w.le.trans (Le.upd hD))
  · exact Grow.new (Le.refl _) (Le.upd hD) fun a z => .inl z
  rintro i m Hh ⟨rfl, hile, S', F', δ1, acc, vacc, w', gr, hS', nF', hDl, racc, hacc, hcl⟩
  have le' : Le S S' := gr.ls
  by_cases hlt : i < ds.length
  · right
    obtain ⟨d, hd⟩ : ∃ d, ds[i]? = some d := ⟨_, List.getElem?_eq_getElem hlt⟩
    have hdrop : ds.drop i = d :: ds.drop (i + 1) := by
      rw [List.drop_eq_getElem_cons hlt]
      rw [List.getElem?_eq_getElem hlt] at hd
      cases hd; rfl
    rw [hdrop] at hcl
    refine ⟨wk.go i Hh (le'.trans w'.le) hlt, fun Hn => i + 1 ≤ ds.length ∧ ∃ S' F' δ1 acc vacc, Wd C S' Hn F' (wipe σ vs) δ1 ∧ Grow S H Fs S' Hn F' ∧ S' Dl = none ∧ (∀ i, Dl ∉ F' i) ∧ Hn Dl = some (.lst vacc) ∧ RpL C S' acc vacc ∧ acc.length ≤ i + 1 ∧
      compL t tt fe vs (ds.drop (i + 1)) acc δ1 = .ok ys δ', fun Hn hn => ⟨ds.length - (i + 1), by omega, rfl, hn⟩, fun x H2 hy => ?_⟩
    obtain ⟨S2, d', l1, l2, l3, l4, hd', rd⟩ := wk.yld i Hh x H2 S' le' w'.le hlt hy
    rw [hd] at hd'; cases hd'
    have w2 := w'.new l1 l2 l3 l4
    have hS2 : S2 Dl = none := Classical.byContradiction fun z => by
      rcases l3 Dl z with q | q
      · exact q hS'
      · rw [hDl] at q; cases q
    have hDl2 := l2 _ _ hDl
    unfold compL at hcl
    cases et : t d δ1 with
    | none => rw [et] at hcl; cases hcl
    | some δ2 =>
      rw [et] at hcl
      dsimp only at hcl
      refine ht d δ1 δ2 x S2 H2 F' (wipe σ vs) _ et w2 rd fun σ3 F3 w3 g3 len3 p3 => ?_
      have nF3 : ∀ i, Dl ∉ F3 i := fun j z => by
        rcases g3.nf j Dl z with q | ⟨j', q⟩
        · rw [hDl2] at q; cases q
        · exact nF' j' q
      have ew : wipe σ3 vs = wipe σ vs := by
        refine List.ext_getElem? fun j => ?_
        by_cases hj : j ∈ vs
        · by_cases hlen : j < σ.length
          · rw [wipe_in' (by rw [len3, wipe_length]; exact hlen) hj, wipe_in' hlen hj]
          · rw [List.getElem?_eq_none (by rw [wipe_length, len3, wipe_length]; omega), List.getElem?_eq_none (by rw [wipe_length]; omega)]
        · rw [wipe_out' hj, wipe_out' hj, p3 j fun z => hj (List.contains_iff_mem.mp (List.all_eq_true.mp hx j z)), wipe_out' hj]
      refine ⟨ew, S2, F3, δ2, w3, ?_⟩
      cases eb : tt δ2 with
      | er x δ3 => rw [eb] at hcl; cases hcl
      | bad => rw [eb] at hcl; cases hcl
      | ok b δ3 =>
        rw [eb] at hcl
        intro S4 H4 F4 g4 w4
        have gr4 : Grow S H Fs S4 H4 F4 := (gr.trans ((Grow.new l1 l2 l3).trans g3)).trans g4
        have hDl4 : H4 Dl = some (.lst vacc) := g4.kp _ _ hDl2 nF3 fun _ z => by cases z
        have hS4 : S4 Dl = none := Classical.byContradiction fun z => by
          rcases g4.ns Dl z with q | q | ⟨j, q⟩
          · exact q hS2
          · rcases q with q | ⟨φ, q⟩ <;> (rw [hDl2] at q; cases q)
          · exact nF3 j q
        have nF4 : ∀ i, Dl ∉ F4 i := fun j z => by
          rcases g4.nf j Dl z with q | ⟨j', q⟩
          · rw [hDl2] at q; cases q
          · exact nF3 j' q
        have racc4 := racc.mono (l1.trans g4.ls)
        cases b with
        | false =>
          have w5 := w4.wiped vs
          rw [ew] at w5
          exact ⟨hlt, S4, F4, wipeO δ3 vs, acc, vacc, w5, gr4, hS4, nF4, hDl4, racc4, by omega, hcl⟩
        | true =>
          dsimp only at hcl
          refine ⟨S4, F4, δ3, w4, ?_⟩
          cases ee : fe δ3 with
          | er x δ5 => rw [ee] at hcl; cases hcl
          | bad => rw [ee] at hcl; cases hcl
          | ok y δ5 =>
            rw [ee] at hcl
            intro S6 H6 F6 g6 w6 yv ry
            have hDl6 : H6 Dl = some (.lst vacc) := g6.kp _ _ hDl4 nF4 fun _ z => by cases z
            have hS6 : S6 Dl = none := Classical.byContradiction fun z => by
              rcases g6.ns Dl z with q | q | ⟨j, q⟩
              · exact q hS4
              · rcases q with q | ⟨φ, q⟩ <;> (rw [hDl4] at q; cases q)
              · exact nF4 j q
            have nF6 : ∀ i, Dl ∉ F6 i := fun j z => by
              rcases g6.nf j Dl z with q | ⟨j', q⟩
              · rw [hDl4] at q; cases q
              · exact nF4 j' q
            have racc6 := racc4.mono g6.ls
            have ql : vacc.length = acc.length := RpL.length _ _ racc4
            refine ⟨vacc, hDl6, by rw [sizeLine_eq, ql]; omega, hlt, S6, F6, wipeO δ5 vs, acc ++ [y], vacc ++ [yv], ?_, ?_, hS6, nF6, upd_same, RpL.append _ _ _ _ racc6 (by simp only [RpL]; exact ⟨yv, [], rfl, ry, rfl⟩), by simp; omega, hcl⟩
            · have w7 := w6.wiped vs
              rw [ew] at w7
              exact w7.mut hDl6 hS6 nF6
            · exact (gr4.trans g6).mutN hD
  · left
    have hnil : ds.drop i = [] := List.drop_eq_nil_of_le (by omega)
    rw [hnil] at hcl
    unfold compL at hcl
    cases hcl
    refine ⟨wk.stop i Hh (le'.trans w'.le) (by omega), ?_⟩
    obtain ⟨wb, gb⟩ := w.back hs gr w'
    exact k Dl S' Hh _ gb wb hS' hD (fun j z => by
      split at z
      · simp at z
      · exact nF' j z) ⟨vacc, hDl, racc⟩
/-- a list of data, as a datum; as a thing of its own -/
def lstC (f : M (List D)) : M D := bnd f fun ds => ret (.lst ds)
def olC (f : M (List D)) : M O := bnd f fun ds => ret (.ol (ds.map .sh))
theorem comp_inv {t : Tg} {tt : M Bool} {vs : List Nat} {ds : List D} {δ : List O} {k : List D → Hp → Hp → (Nat → List Addr) → List O → Prop} {σ : L2.St} {S H : Hp} {Fs : Nat → List Addr}
    (q : Aft C W σ S H Fs ((fun ds δ => if ds.length ≤ 16777216 ∧ simpO δ vs = true then match compL t tt fe vs ds [] (wipeO δ vs) with
      | .ok ys δ' => .ok ys (backO δ δ' vs)
      | _ => .bad
    else .bad : List D → M (List D)) ds δ) k) : ∃ ys δ', ds.length ≤ 16777216 ∧ simpO δ vs = true ∧ compL t tt fe vs ds [] (wipeO δ vs) = .ok ys δ' ∧ Aft C W σ S H Fs (.ok ys (backO δ δ' vs)) k := by
  dsimp only at q
  split at q
  · rename_i h
    cases ec : compL t tt fe vs ds [] (wipeO δ vs) with
    | ok ys δ' => rw [ec] at q; exact ⟨ys, δ', h.1, h.2, rfl, q⟩
    | er x δ' => rw [ec] at q; exact q.elim
    | bad => rw [ec] at q; exact q.elim
  · exact q.elim
/-- a comprehension as a datum -/
theorem comp_D {g : TG} {t : Tg} {ix : List Nat} {tt : M Bool} {vs : List Nat} {fi : M (List D)}
    (ht : ∀ (d : D) (δ δ' : List O) (v : V) (S H : Hp) (Fs : Nat → List Addr) (σ : L2.St) (Q : L2.St → Hp → Prop), t d δ = some δ' → Wd C S H Fs σ δ → Rp C S d v →
      (∀ σ' Fs', Wd C S H Fs' σ' δ' → Grow S H Fs S H Fs' → σ'.length = σ.length → (∀ i, i ∉ ix → σ'[i]? = σ[i]?) → Q σ' H) → g v σ H Q)
    (hx : (ix.all fun i => vs.contains i) = true) (σ : L2.St) (H : Hp) (Q : VK) (q : tD C W (lstC (compM fi t tt fe vs)) σ H Q) : tLc (tI C W fi) g (tT C W0 tt) (tD C W0 fe) vs σ H Q := by
  obtain ⟨S, Fs, δ, w, q⟩ := q
  refine ⟨S, Fs, δ, w, (Aft.bind (Aft.bind q)).mono fun ds S1 H1 F1 δ1 g1 w1 q1 J wk => ?_⟩
  obtain ⟨ys, δ', hz, hs, hc, q2⟩ := comp_inv q1
  refine comp_read ht hx w1 wk hz hs hc fun Dl S' H' Fs' gr wb hS hD nF ⟨vs', hl, r⟩ => ?_
  have lS : Le S' (upd S' Dl (.lst vs')) := Le.upd hS
  have lH : Le (upd S' Dl (.lst vs')) H' := fun a o e => by
    by_cases ha : a = Dl
    · subst ha; rw [upd_same] at e; cases e; exact hl
    · rw [upd_ne ha] at e; exact wb.le a o e
  have gr2 : Grow S1 H1 F1 (upd S' Dl (.lst vs')) H' Fs' := ⟨gr.ls.trans lS, gr.kp, gr.th, fun a z => by
    by_cases ha : a = Dl
    · subst ha; exact .inr (.inl (.inl hD))
    · rw [upd_ne ha] at z; exact gr.ns a z, gr.tk, gr.nf⟩
  have wb2 : Wd C (upd S' Dl (.lst vs')) H' Fs' σ (backO δ1 δ' vs) := ⟨lH, wb.len, fun i o e ne => by
    obtain ⟨v, e1, r⟩ := wb.sl i o e ne
    exact ⟨v, e1, RpO.mono lS o v _ (fun a ha h1 _ _ => ⟨by rw [upd_ne (show a ≠ Dl from fun z => nF i (by rw [← z]; exact ha))]; exact h1, rfl⟩) r⟩, wb.dj, wb.nd, fun i a ha => ⟨by rw [upd_ne (show a ≠ Dl from fun z => nF i (by rw [← z]; exact ha))]; exact (wb.ns i a ha).1, (wb.ns i a ha).2⟩, wb.tb.up hl fun ps z => by cases z⟩
  exact Aft.now wb2 (q2 _ _ _ gr2 wb2) (.ref Dl) (by simp only [Rp]; exact ⟨Dl, vs', rfl, upd_same, r.mono lS⟩)
/-- .. as a list of its own -/
theorem comp_O {g : TG} {t : Tg} {ix : List Nat} {tt : M Bool} {vs : List Nat} {fi : M (List D)}
    (ht : ∀ (d : D) (δ δ' : List O) (v : V) (S H : Hp) (Fs : Nat → List Addr) (σ : L2.St) (Q : L2.St → Hp → Prop), t d δ = some δ' → Wd C S H Fs σ δ → Rp C S d v →
      (∀ σ' Fs', Wd C S H Fs' σ' δ' → Grow S H Fs S H Fs' → σ'.length = σ.length → (∀ i, i ∉ ix → σ'[i]? = σ[i]?) → Q σ' H) → g v σ H Q)
    (hx : (ix.all fun i => vs.contains i) = true) (σ : L2.St) (H : Hp) (Q : VK) (q : tO C W (olC (compM fi t tt fe vs)) σ H Q) : tLc (tI C W fi) g (tT C W0 tt) (tD C W0 fe) vs σ H Q := by
  obtain ⟨S, Fs, δ, w, q⟩ := q
  refine ⟨S, Fs, δ, w, (Aft.bind (Aft.bind q)).mono fun ds S1 H1 F1 δ1 g1 w1 q1 J wk => ?_⟩
  obtain ⟨ys, δ', hz, hs, hc, q2⟩ := comp_inv q1
  refine comp_read ht hx w1 wk hz hs hc fun Dl S' H' Fs' gr wb hS hD nF ⟨vs', hl, r⟩ => ?_
  refine Aft.now wb (q2 _ _ _ gr wb) (.ref Dl) [Dl] ?_ (by simp) (fun a ha i => ?_) fun a ha => ?_
  · simp only [RpO]
    exact ⟨Dl, vs', [], rfl, rfl, hS, hl, RpOL.of_leaves ys vs' r⟩
  · obtain rfl : a = Dl := by simpa using ha
    exact nF i
  · obtain rfl : a = Dl := by simpa using ha
    exact .inl (Classical.byContradiction fun z => g1.th a z hD)
end
end FW

set_option Elab.async false
set_option linter.all false
set_option maxRecDepth 100000
set_option maxHeartbeats 1000000
/-! FwI: defs: what they promise over data, their calls, their bodies. -/
namespace FW
open PySem PySem.Spec PyProof.Rows L2
/-- the call's end over data: the result, the arguments' own things behind it -/
inductive FRes where
  | ok (r : O) (as : List O) | er (x : DX) (as : List O) | bad
abbrev Fm := List O → FRes
def spM (C : Ct) (m : Fm) : Sp := fun vs H Q E => ∃ S Fs os, Wd C S H Fs (vs.map some) os ∧ match m os with
  | .ok r as => ∀ v F S' H' Fs', Grow S H Fs S' H' Fs' → Wd C S' H' Fs' (vs.map some) as → RpO C S' H' r v F → F.Nodup → (∀ a ∈ F, ∀ i, a ∉ Fs' i) → (∀ a ∈ F, H a = none ∨ ∃ j, a ∈ Fs j) → Q v H'
  | .er x as => ∀ cls dd S' H' Fs', Grow S H Fs S' H' Fs' → Wd C S' H' Fs' (vs.map some) as → Xr C S' H' x cls dd → E cls dd H'
  | .bad => False
/-- a def that keeps sp, called where no guard stands -/
structure FnG (P : Program) (w : World) (K : PySem.W.Frag) (mg : Str → Option Value) (base : Heap) (k : Nat) (f : Addr) (fd : FuncData) (n : Nat) (ps : List Str) (sp : Sp) : Prop where
  len : ∀ vs H Q E, sp vs H Q E → vs.length = ps.length
  run : ∀ (A : Around) (outer : List Env) (s : Shared) (H : Hp) (us : List Value) (vs : List V) (args : Args) (Q : VK) (E : XK), Room k A → A.guards = some [] → Env0 P w K mg base A outer s H → BindsTo s fd args (ps.zip us) → Vals vs us → sp vs H Q E →
    codeAny (model P w) A (.call (.ref f) args) (CR (L2.CX P w) outer P w H s Q E) s
section
variable {X : Cx} {k n : Nat} {f : Addr} {fd : FuncData} {ps : List Str} {sp : Sp} {E : L2.St → XK} {x : Str} {p pos : Pos} {e : Expr} {es : List Expr} {t : TA}
theorem run_G {pins : List (Addr × Obj)} {σ : L2.St} {H : Hp} {s : Shared} {Q : VK} {us : List Value} {vs : List V} {args : Args} (F : FnG X.prog X.w X.K X.mg X.base k f fd n ps sp) (hr : Room k X.A) (hg : X.A.guards = some [])
    (hb : BindsTo s fd args (ps.zip us)) (hx : PassesAt (L2.CX X.prog X.w) X σ (E σ)) (I : Inv X pins σ H s) (r : Vals vs us) (h : sp vs H Q (E σ)) : wpAny (model X.prog X.w) X.A (call (.ref f) args.pos args.kw) (EP X pins σ Q) X.xe s := by
  refine wpAny_call (codeAny_mono (F.run X.A X.stack s H us vs args Q (E σ) hr hg I.env0 hb r h) fun res s' hq => ?_)
  match res, hq with
  | .error _, hq => exact hx pins H s _ s' I hq
  | .ok (.ret _), hq => exact I.after hq
theorem pe_callG (F : FnG X.prog X.w X.K X.mg X.base k f fd n ps sp) (hr : Room k X.A) (hgu : X.A.guards = some []) (hg : Gl X x) (hm : X.mg x = some (.ref f)) (hk : PySem.W.keepIn X.K (.ref f) = true) (hb : Binds X.K fd ps []) (hx : ∀ σ, PassesAt (L2.CX X.prog X.w) X σ (E σ))
    (ha : PA X (e :: es) t) (hdb : (x == ("__debug__" : Str)) = false := by decide) (he : starEach (e :: es) X.env = (false, eval e X.env) :: starEach es X.env := by rfl) (hpl : (backTo pos (starEach es X.env)).any (·.1) = false := by rfl) :
    PE X (.Call (.Name x p) (e :: es) [] pos) (tCallS sp E t) := by
  refine ⟨fun pins s σ H Q I h => wpAny_Call_Name_kw (ld_glob I hg hm ?_ hdb)⟩
  refine PySem.W.callWith_K (h₀ := X.base) I.ok.mod.kin hk (thn (ha.run pos pins s σ H _ I h) fun us s1 ⟨vs, H1, I1, r, q⟩ => ⟨I1.kIn, ?_⟩) he hpl
  have hl : us.length = ps.length := by rw [← r.length]; exact F.len _ _ _ _ q
  have b := hb s1 us I1.kIn (by rw [List.append_nil]; exact hl)
  rw [List.append_nil] at b
  exact run_G (args := ⟨us, []⟩) F hr hgu b (hx σ) I1 r q
theorem pe_callG0 (F : FnG X.prog X.w X.K X.mg X.base k f fd n ps sp) (hr : Room k X.A) (hgu : X.A.guards = some []) (hg : Gl X x) (hm : X.mg x = some (.ref f)) (hk : PySem.W.keepIn X.K (.ref f) = true) (hb : Binds X.K fd ps []) (hx : ∀ σ, PassesAt (L2.CX X.prog X.w) X σ (E σ))
    (hdb : (x == ("__debug__" : Str)) = false := by decide) : PE X (.Call (.Name x p) [] [] pos) (tCallS sp E tNil) := by
  refine ⟨fun pins s σ H Q I h => wpAny_Call_Name_kw (ld_glob I hg hm ?_ hdb)⟩
  have h' : sp [] H Q (E σ) := h
  have hl : ([] : List Value).length = ps.length := F.len _ _ _ _ h'
  have b := hb s [] I.kIn (by rw [List.append_nil]; exact hl)
  rw [List.append_nil] at b
  exact PySem.W.callWith_K0 I.kIn hk (run_G (args := ⟨[], []⟩) F hr hgu b (hx σ) I .nil h')
end
/-! ### arguments: data, or slots that are lent to the callee -/
inductive Ar where
  | d (f : M D) | s (i : Nat)
/-- what an argument is: a datum, or a slot's number -/
inductive Av where
  | d (d : D) | s (i : Nat)
/-- the slot holds something ahead -/
def held (i : Nat) : M Unit := fun δ => match δ[i]? with
  | some .no => .bad
  | some _ => .ok () δ
  | none => .bad
def arM : List Ar → M (List Av)
  | [] => ret []
  | .d f :: r => bnd f fun d => bnd (arM r) fun as => ret (.d d :: as)
  | .s i :: r => bnd (held i) fun _ => bnd (arM r) fun as => ret (.s i :: as)
def avR (C : Ct) (S : Hp) (σ : L2.St) : List Av → List V → Prop
  | [], vs => vs = []
  | .d d :: r, vs => ∃ v t, vs = v :: t ∧ Rp C S d v ∧ avR C S σ r t
  | .s i :: r, vs => ∃ v t, vs = v :: t ∧ σ[i]? = some (some v) ∧ avR C S σ r t
theorem avR.mono {C : Ct} {S S' : Hp} {σ : L2.St} (e : Le S S') : ∀ {as : List Av} {vs : List V}, avR C S σ as vs → avR C S' σ as vs
  | [], _, h => h
  | .d d :: r, vs, ⟨v, t, h1, h2, h3⟩ => ⟨v, t, h1, h2.mono e, avR.mono e h3⟩
  | .s i :: r, vs, ⟨v, t, h1, h2, h3⟩ => ⟨v, t, h1, h2, avR.mono e h3⟩
theorem avR.len {C : Ct} {S : Hp} {σ : L2.St} : ∀ {as : List Av} {vs : List V}, avR C S σ as vs → vs.length = as.length
  | [], _, h => by cases h; rfl
  | .d d :: r, vs, ⟨v, t, h1, h2, h3⟩ => by rw [h1, List.length_cons, List.length_cons, avR.len h3]
  | .s i :: r, vs, ⟨v, t, h1, h2, h3⟩ => by rw [h1, List.length_cons, List.length_cons, avR.len h3]
def tAv (C : Ct) (W : WX) (f : M (List Av)) : TA := fun σ H Q => ∃ S Fs δ, Wd C S H Fs σ δ ∧ Aft C W σ S H Fs (f δ) fun as S' H' _ _ => ∀ vs, avR C S' σ as vs → Q vs H'
structure PAv (X : Cx) (C : Ct) (W : WX) (es : List Expr) (as : List Ar) : Prop where
  pa : PA X es (tAv C W (arM as))
section
variable {X : Cx} {C : Ct} {W : WX} {e : Expr} {es : List Expr} {f : M D} {as : List Ar} {i : Nat}
theorem pav_nil : PAv X C W [] [] := ⟨PA.imp pa_nil fun σ H Q ⟨S, Fs, δ, w, q⟩ => q.now w [] rfl⟩
theorem pav_d (ha : PD X C W e f) (hr : PAv X C W es as) (hs : starEach (e :: es) X.env = (false, eval e X.env) :: starEach es X.env := by rfl) : PAv X C W (e :: es) (.d f :: as) := by
  refine ⟨PA.imp (pa_cons ha.pe hr.pa hs) fun σ H Q ⟨S, Fs, δ, w, q⟩ => ⟨S, Fs, δ, w, (Aft.bind q).mono fun d S1 H1 F1 δ1 g1 w1 q1 v r1 => ⟨S1, F1, δ1, w1, (Aft.bind q1).mono fun ds S2 H2 F2 δ2 g2 w2 q2 vs r2 => ?_⟩⟩⟩
  exact q2.now w2 (v :: vs) ⟨v, vs, rfl, r1.mono g2.ls, r2⟩
theorem pav_s (ha : PE X e (tVar i)) (hr : PAv X C W es as) (hs : starEach (e :: es) X.env = (false, eval e X.env) :: starEach es X.env := by rfl) : PAv X C W (e :: es) (.s i :: as) := by
  refine ⟨PA.imp (pa_cons ha hr.pa hs) fun σ H Q ⟨S, Fs, δ, w, q⟩ => ?_⟩
  have q0 := Aft.bind q
  unfold held at q0
  have key : ∀ o, δ[i]? = some o → o ≠ .no → Aft C W σ S H Fs (bnd (arM as) (fun as => ret (Av.s i :: as)) δ) (fun as S' H' _ _ => ∀ vs, avR C S' σ as vs → Q vs H') → tCons (tVar i) (tAv C W (arM as)) σ H Q := fun o e0 ne q1 => by
    obtain ⟨v, e1, _⟩ := w.sl i o e0 ne
    exact ⟨v, e1, S, Fs, δ, w, (Aft.bind q1).mono fun ds S2 H2 F2 δ2 g2 w2 q2 vs r2 => q2.now w2 (v :: vs) ⟨v, vs, rfl, e1, r2⟩⟩
  cases e0 : δ[i]? with
  | none => rw [e0] at q0; exact q0.elim
  | some o =>
    rw [e0] at q0
    cases o with
    | no => exact q0.elim
    | _ => exact key _ e0 (by simp) (Aft.now w q0)
end
/-! ### the call -/
def avO : List Av → List O → List O
  | [], _ => []
  | .d d :: r, δ => .sh d :: avO r δ
  | .s i :: r, δ => δ.getD i .no :: avO r δ
def avB : List Av → List O → List O → List O
  | .d _ :: r, _ :: os, δ => avB r os δ
  | .s i :: r, o :: os, δ => (avB r os δ).set i o
  | _, _, δ => δ
def avS : List Av → List Nat
  | [] => []
  | .d _ :: r => avS r
  | .s i :: r => i :: avS r
def posA : List Av → Nat → Option Nat
  | [], _ => none
  | .d _ :: r, i => (posA r i).map (· + 1)
  | .s j :: r, i => if j = i then some 0 else (posA r i).map (· + 1)
theorem avO_length : ∀ (as : List Av) (δ : List O), (avO as δ).length = as.length
  | [], _ => rfl
  | .d _ :: r, δ => by simp [avO, avO_length r δ]
  | .s _ :: r, δ => by simp [avO, avO_length r δ]
theorem avB_length : ∀ (as : List Av) (os δ : List O), (avB as os δ).length = δ.length
  | [], _, _ => by simp [avB]
  | .d _ :: r, [], δ => by simp [avB]
  | .s _ :: r, [], δ => by simp [avB]
  | .d _ :: r, _ :: os, δ => by simp [avB, avB_length r os δ]
  | .s _ :: r, _ :: os, δ => by simp [avB, avB_length r os δ]
theorem posA_none : ∀ {as : List Av} {i : Nat}, posA as i = none → i ∉ avS as
  | [], i, _ => by simp [avS]
  | .d _ :: r, i, h => by
    simp only [posA, Option.map_eq_none_iff] at h
    simpa [avS] using posA_none h
  | .s j :: r, i, h => by
    unfold posA at h
    split at h
    · cases h
    · rename_i ne
      simp only [Option.map_eq_none_iff] at h
      simp only [avS, List.mem_cons, not_or]
      exact ⟨Ne.symm ne, posA_none h⟩
theorem posA_some : ∀ {as : List Av} {i p : Nat}, posA as i = some p → as[p]? = some (.s i)
  | [], i, p, h => by cases h
  | .d _ :: r, i, p, h => by
    simp only [posA, Option.map_eq_some_iff] at h
    obtain ⟨q, h1, rfl⟩ := h
    simpa using posA_some h1
  | .s j :: r, i, p, h => by
    unfold posA at h
    split at h
    · rename_i e; cases h; simp [e]
    · simp only [Option.map_eq_some_iff] at h
      obtain ⟨q, h1, rfl⟩ := h
      simpa using posA_some h1
theorem mem_avS : ∀ {as : List Av} {i p : Nat}, as[p]? = some (.s i) → i ∈ avS as
  | [], i, p, h => by simp at h
  | .d _ :: r, i, 0, h => by simp at h
  | .d _ :: r, i, p + 1, h => by simp only [List.getElem?_cons_succ] at h; simpa [avS] using mem_avS h
  | .s j :: r, i, 0, h => by simp at h; simp [avS, h]
  | .s j :: r, i, p + 1, h => by simp only [List.getElem?_cons_succ] at h; simp [avS, mem_avS h]
theorem posA_of : ∀ {as : List Av} {i p : Nat}, (avS as).Nodup → as[p]? = some (.s i) → posA as i = some p
  | [], i, p, _, h => by simp at h
  | .d _ :: r, i, 0, _, h => by simp at h
  | .d _ :: r, i, p + 1, n, h => by
    simp only [List.getElem?_cons_succ] at h
    simp only [posA, posA_of (by simpa [avS] using n) h, Option.map_some]
  | .s j :: r, i, 0, _, h => by simp at h; simp [posA, h]
  | .s j :: r, i, p + 1, n, h => by
    simp only [List.getElem?_cons_succ] at h
    simp only [avS, List.nodup_cons] at n
    have ne : j ≠ i := fun z => n.1 (z ▸ mem_avS h)
    simp only [posA, ne, if_false, posA_of n.2 h, Option.map_some]
theorem avB_get : ∀ (as : List Av) (os δ : List O), os.length = as.length → (avS as).Nodup → ∀ i, i < δ.length → (avB as os δ)[i]? = match posA as i with
    | some p => os[p]?
    | none => δ[i]?
  | [], os, δ, _, _, i, _ => by simp [avB, posA]
  | .d _ :: r, [], δ, h, _, i, _ => by simp at h
  | .s _ :: r, [], δ, h, _, i, _ => by simp at h
  | .d _ :: r, o :: os, δ, h, n, i, hi => by
    simp only [avB]
    rw [avB_get r os δ (by simpa using h) (by simpa [avS] using n) i hi]
    simp only [posA]
    cases posA r i <;> simp
  | .s j :: r, o :: os, δ, h, n, i, hi => by
    simp only [avS, List.nodup_cons] at n
    simp only [avB, posA]
    by_cases e : j = i
    · subst e
      simp only [if_true]
      rw [List.getElem?_set_self (by rw [avB_length]; exact hi)]
      simp
    · simp only [e, if_false]
      rw [List.getElem?_set_ne e, avB_get r os δ (by simpa using h) n.2 i hi]
      cases posA r i <;> simp
theorem avO_get : ∀ (as : List Av) (δ : List O) (p : Nat) (o : O), (avO as δ)[p]? = some o → (∃ d, as[p]? = some (.d d) ∧ o = .sh d) ∨ ∃ i, as[p]? = some (.s i) ∧ o = δ.getD i .no
  | [], δ, p, o, h => by simp [avO] at h
  | .d d :: r, δ, 0, o, h => by simp [avO] at h; exact .inl ⟨d, rfl, h.symm⟩
  | .s i :: r, δ, 0, o, h => by simp [avO] at h; exact .inr ⟨i, rfl, by simp [h]⟩
  | .d d :: r, δ, p + 1, o, h => by simp only [avO, List.getElem?_cons_succ] at h ⊢; exact avO_get r δ p o h
  | .s d :: r, δ, p + 1, o, h => by simp only [avO, List.getElem?_cons_succ] at h ⊢; exact avO_get r δ p o h
theorem avR_d {C : Ct} {S : Hp} {σ : L2.St} : ∀ {as : List Av} {vs : List V} {p : Nat} {d : D}, avR C S σ as vs → as[p]? = some (.d d) → ∃ v, vs[p]? = some v ∧ Rp C S d v
  | [], _, p, d, _, e => by simp at e
  | .d _ :: r, _, 0, d, ⟨v, t, h1, h2, h3⟩, e => by simp at e; subst e; exact ⟨v, by simp [h1], h2⟩
  | .s _ :: r, _, 0, d, _, e => by simp at e
  | .d _ :: r, _, p + 1, d, ⟨v, t, h1, h2, h3⟩, e => by simp only [List.getElem?_cons_succ] at e; obtain ⟨u, q1, q2⟩ := avR_d h3 e; exact ⟨u, by simp [h1, q1], q2⟩
  | .s _ :: r, _, p + 1, d, ⟨v, t, h1, h2, h3⟩, e => by simp only [List.getElem?_cons_succ] at e; obtain ⟨u, q1, q2⟩ := avR_d h3 e; exact ⟨u, by simp [h1, q1], q2⟩
theorem avR_s {C : Ct} {S : Hp} {σ : L2.St} : ∀ {as : List Av} {vs : List V} {p i : Nat}, avR C S σ as vs → as[p]? = some (.s i) → ∃ v, vs[p]? = some v ∧ σ[i]? = some (some v)
  | [], _, p, d, _, e => by simp at e
  | .s _ :: r, _, 0, d, ⟨v, t, h1, h2, h3⟩, e => by simp at e; subst e; exact ⟨v, by simp [h1], h2⟩
  | .d _ :: r, _, 0, d, _, e => by simp at e
  | .d _ :: r, _, p + 1, d, ⟨v, t, h1, h2, h3⟩, e => by simp only [List.getElem?_cons_succ] at e; obtain ⟨u, q1, q2⟩ := avR_s h3 e; exact ⟨u, by simp [h1, q1], q2⟩
  | .s _ :: r, _, p + 1, d, ⟨v, t, h1, h2, h3⟩, e => by simp only [List.getElem?_cons_succ] at e; obtain ⟨u, q1, q2⟩ := avR_s h3 e; exact ⟨u, by simp [h1, q1], q2⟩
def callV (m : Fm) (avs : List Av) : M O := fun δ => if decide (avS avs).Nodup = true then match m (avO avs δ) with
    | .ok r os => .ok r (avB avs os δ)
    | .er x os => .er x (avB avs os δ)
    | .bad => .bad
  else .bad
def callM (m : Fm) (as : List Ar) : M O := bnd (arM as) (callV m)
def lentF (avs : List Av) (F : Nat → List Addr) : Nat → List Addr := fun p => match avs[p]? with
  | some (.s i) => F i
  | _ => []
def backF (avs : List Av) (F Fc : Nat → List Addr) : Nat → List Addr := fun i => match posA avs i with
  | some p => Fc p
  | none => F i
section
variable {C : Ct} {W : WX} {σ : L2.St} {S H S' H' : Hp} {F F' : Nat → List Addr} {δ os : List O} {avs : List Av} {vs : List V}
theorem lent_wd (w : Wd C S H F σ δ) (n : (avS avs).Nodup) (r : avR C S σ avs vs) : Wd C S H (lentF avs F) (vs.map some) (avO avs δ) where
  le := w.le
  len := by rw [avO_length, List.length_map, r.len]
  sl := fun p o e ne => by
    rcases avO_get avs δ p o e with ⟨d, e1, rfl⟩ | ⟨i, e1, rfl⟩
    · obtain ⟨v, hv, rv⟩ := avR_d r e1
      refine ⟨v, by simp [hv], ?_⟩
      unfold lentF
      rw [e1]
      simp only [RpO]
      exact ⟨rv, trivial⟩
    · obtain ⟨v, hv, hs⟩ := avR_s r e1
      have e2 : δ[i]? = some (δ.getD i .no) := by
        rw [List.getD_eq_getElem?_getD] at ne ⊢
        cases q : δ[i]? with
        | none => rw [q] at ne; exact absurd rfl ne
        | some o => rfl
      obtain ⟨v', h1, h2⟩ := w.sl i _ e2 ne
      rw [hs] at h1; cases h1
      refine ⟨v, by simp [hv], ?_⟩
      unfold lentF
      rw [e1]
      exact h2
  dj := fun p q a h1 h2 => by
    unfold lentF at h1 h2
    split at h1
    · rename_i i e1
      split at h2
      · rename_i j e2
        have := w.dj i j a h1 h2
        subst this
        have a1 := posA_of n e1
        have a2 := posA_of n e2
        rw [a1] at a2; cases a2; rfl
      · simp at h2
    · simp at h1
  nd := fun p => by
    unfold lentF
    split
    · exact w.nd _
    · exact List.nodup_nil
  ns := fun p a ha => by
    unfold lentF at ha
    split at ha
    · exact w.ns _ a ha
    · simp at ha
  tb := w.tb
theorem back_grow (n : (avS avs).Nodup) (g : Grow S H (lentF avs F) S' H' F') (w : Wd C S H F σ δ) : Grow S H F S' H' (backF avs F F') where
  ls := g.ls
  kp := fun a o e hn t => g.kp a o e (fun p z => by
    unfold lentF at z
    split at z
    · exact hn _ z
    · simp at z) t
  th := g.th
  ns := fun a z => by
    rcases g.ns a z with q | q | ⟨p, q⟩
    · exact .inl q
    · exact .inr (.inl q)
    · unfold lentF at q
      split at q
      · exact .inr (.inr ⟨_, q⟩)
      · simp at q
  tk := fun a ps e hn => g.tk a ps e fun p z => by
    unfold lentF at z
    split at z
    · exact hn _ z
    · simp at z
  nf := fun i a ha => by
    unfold backF at ha
    split at ha
    · rcases g.nf _ a ha with q | ⟨p, q⟩
      · exact .inl q
      · unfold lentF at q
        split at q
        · exact .inr ⟨_, q⟩
        · simp at q
    · exact .inr ⟨i, ha⟩
/-- what is not lent lies apart from what is -/
theorem apart_lent (w : Wd C S H F σ δ) {i : Nat} (h : posA avs i = none) : ∀ a ∈ F i, ∀ p, a ∉ lentF avs F p := fun a ha p z => by
  unfold lentF at z
  split at z
  · rename_i j e
    have := w.dj i j a ha z
    subst this
    exact posA_none h (mem_avS e)
  · simp at z
theorem back_wd (w : Wd C S H F σ δ) (n : (avS avs).Nodup) (r : avR C S σ avs vs) (g : Grow S H (lentF avs F) S' H' F') (w' : Wd C S' H' F' (vs.map some) os) (hos : os.length = avs.length) : Wd C S' H' (backF avs F F') σ (avB avs os δ) where
  le := w'.le
  len := by rw [avB_length, w.len]
  sl := fun i o e ne => by
    have hi : i < δ.length := by
      have := (List.getElem?_eq_some_iff.mp e).1
      rwa [avB_length] at this
    rw [avB_get avs os δ hos n i hi] at e
    unfold backF
    cases hp : posA avs i with
    | some p =>
      rw [hp] at e
      obtain ⟨v, h1, h2⟩ := w'.sl p o e ne
      obtain ⟨v', h3, h4⟩ := avR_s r (posA_some hp)
      rw [List.getElem?_map, h3] at h1
      cases h1
      exact ⟨_, h4, h2⟩
    | none =>
      rw [hp] at e
      obtain ⟨v, h1, h2⟩ := w.sl i o e ne
      exact ⟨v, h1, (RpO.grow g h2 (apart_lent w hp)).1⟩
  dj := fun i j a h1 h2 => by
    unfold backF at h1 h2
    cases hp : posA avs i with
    | some p =>
      rw [hp] at h1
      cases hq : posA avs j with
      | some q =>
        rw [hq] at h2
        have e := w'.dj p q a h1 h2
        subst e
        have a1 := posA_some hp
        have a2 := posA_some hq
        rw [a1] at a2; cases a2; rfl
      | none =>
        rw [hq] at h2
        rcases g.nf p a h1 with z | ⟨q, z⟩
        · exact absurd z (w.ns j a h2).2.1
        · exact absurd z (apart_lent w hq a h2 q)
    | none =>
      rw [hp] at h1
      cases hq : posA avs j with
      | some q =>
        rw [hq] at h2
        rcases g.nf q a h2 with z | ⟨q', z⟩
        · exact absurd z (w.ns i a h1).2.1
        · exact absurd z (apart_lent w hp a h1 q')
      | none => rw [hq] at h2; exact w.dj i j a h1 h2
  nd := fun i => by
    unfold backF
    split
    · exact w'.nd _
    · exact w.nd i
  ns := fun i a ha => by
    unfold backF at ha
    cases hp : posA avs i with
    | some p => rw [hp] at ha; exact w'.ns p a ha
    | none =>
      rw [hp] at ha
      have z := w.ns i a ha
      refine ⟨Classical.byContradiction fun q => ?_, g.th a z.2.1, fun φ q => ?_⟩
      · rcases g.ns a q with y | y | ⟨p, y⟩
        · exact y z.1
        · rcases y with y | ⟨φ, y⟩
          · exact z.2.1 y
          · exact z.2.2 φ y
        · exact apart_lent w hp a ha p y
      · cases e : H a with
        | none => exact z.2.1 e
        | some o =>
          by_cases ht : ∃ ps, o = .tbl ps
          · obtain ⟨ps, rfl⟩ := ht
            obtain ⟨qs, e2⟩ := g.tk a ps e (apart_lent w hp a ha)
            rw [q] at e2; cases e2
          · have := g.kp a o e (apart_lent w hp a ha) fun ps y => ht ⟨ps, y⟩
            rw [q] at this; cases this
            exact z.2.2 φ e
  tb := w'.tb
end
section
variable {X : Cx} {C : Ct} {W : WX} {k n : Nat} {f : Addr} {fd : FuncData} {ps : List Str} {x : Str} {p pos : Pos} {e : Expr} {es : List Expr} {as : List Ar} {m : Fm}
theorem call_read {σ : L2.St} {H : Hp} {Q : VK} (hlen : ∀ vs H Q E, spM C m vs H Q E → vs.length = ps.length) (hm : ∀ os r as, m os = .ok r as → as.length = os.length) (hm2 : ∀ os x as, m os = .er x as → as.length = os.length)
    (q : tO C W (callM m as) σ H Q) : tCallS (spM C m) (WE W) (tAv C W (arM as)) σ H Q := by
  obtain ⟨S, Fs, δ, w, q⟩ := q
  refine ⟨S, Fs, δ, w, (Aft.bind q).mono fun avs S1 H1 F1 δ1 g1 w1 q1 vs r1 => ?_⟩
  unfold callV at q1
  split at q1
  · rename_i hn
    have nd : (avS avs).Nodup := of_decide_eq_true hn
    refine ⟨S1, lentF avs F1, avO avs δ1, lent_wd w1 nd r1, ?_⟩
    cases em : m (avO avs δ1) with
    | ok r os =>
      rw [em] at q1
      have hos : os.length = avs.length := by rw [hm _ _ _ em, avO_length]
      intro v F S' H' F' g w' rr nF dF fr
      refine q1 S' H' (backF avs F1 F') (back_grow nd g w1) (back_wd w1 nd r1 g w' hos) v F rr nF (fun a ha i z => ?_) (g1.back fun a ha => ?_)
      · unfold backF at z
        cases hp : posA avs i with
        | some p => rw [hp] at z; exact dF a ha p z
        | none =>
          rw [hp] at z
          rcases fr a ha with y | ⟨p, y⟩
          · exact (w1.ns i a z).2.1 y
          · exact apart_lent w1 hp a z p y
      · rcases fr a ha with y | ⟨p, y⟩
        · exact .inl y
        · unfold lentF at y
          split at y
          · exact .inr ⟨_, y⟩
          · simp at y
    | er x os =>
      rw [em] at q1
      have hos : os.length = avs.length := by rw [hm2 _ _ _ em, avO_length]
      exact fun cls dd S' H' F' g w' xr => q1 cls dd S' H' _ (back_grow nd g w1) (back_wd w1 nd r1 g w' hos) xr
    | bad => rw [em] at q1; exact q1
  · exact q1.elim
theorem pn_call (F : FnG X.prog X.w X.K X.mg X.base k f fd n ps (spM C m)) (hlm : (∀ os r as, m os = .ok r as → as.length = os.length) ∧ ∀ os x as, m os = .er x as → as.length = os.length) (hr : Room k X.A) (hgu : X.A.guards = some []) (tk : Takes X W) (hg : Gl X x) (hm : X.mg x = some (.ref f))
    (hk : PySem.W.keepIn X.K (.ref f) = true) (hb : Binds X.K fd ps []) (ha : PAv X C W (e :: es) as) (hdb : (x == ("__debug__" : Str)) = false := by decide) (he : starEach (e :: es) X.env = (false, eval e X.env) :: starEach es X.env := by rfl)
    (hpl : (backTo pos (starEach es X.env)).any (·.1) = false := by rfl) : PN X C W (.Call (.Name x p) (e :: es) [] pos) (callM m as) :=
  ⟨PE.imp (pe_callG F hr hgu hg hm hk hb (fun σ => passAt tk σ) ha.pa hdb he hpl) fun σ H Q q => call_read F.len hlm.1 hlm.2 q⟩
end
end FW

set_option Elab.async false
set_option linter.all false
set_option maxRecDepth 100000
set_option maxHeartbeats 1000000
/-! FwJ: a thing of its own as a datum; a def's body. -/
namespace FW
open PySem PySem.Spec PyProof.Rows L2
/-- the result as a datum: a list of leaves that nobody else holds is shared from now on -/
def frO : O → Option D
  | .sh d => some d
  | .ol os => (leafs os).map .lst
  | _ => none
def dO (f : M O) : M D := bnd f fun o => opt (frO o)
section
variable {X : Cx} {C : Ct} {W : WX} {fx : List Nat} {e : Expr} {f : M D} {fo : M O} {pos : Pos}
/-- a list apart is shared -/
theorem Wd.share {S H : Hp} {Fs : Nat → List Addr} {σ : L2.St} {δ : List O} {l : Addr} {vs : List V} (w : Wd C S H Fs σ δ) (h : H l = some (.lst vs)) (hS : S l = none) (hF : ∀ i, l ∉ Fs i) : Wd C (upd S l (.lst vs)) H Fs σ δ where
  le := fun a o e => by
    by_cases ha : a = l
    · subst ha; rw [upd_same] at e; cases e; exact h
    · rw [upd_ne ha] at e; exact w.le a o e
  len := w.len
  sl := fun i o e ne => by
    obtain ⟨v, e1, r⟩ := w.sl i o e ne
    exact ⟨v, e1, RpO.mono (Le.upd hS) o v _ (fun a ha h1 _ _ => ⟨by rw [upd_ne (show a ≠ l from fun z => hF i (by rw [← z]; exact ha))]; exact h1, rfl⟩) r⟩
  dj := w.dj
  nd := w.nd
  ns := fun i a ha => ⟨by rw [upd_ne (show a ≠ l from fun z => hF i (by rw [← z]; exact ha))]; exact (w.ns i a ha).1, (w.ns i a ha).2⟩
  tb := w.tb.up h fun ps z => by cases z
theorem Grow.share {S H S' H' : Hp} {Fs Fs' : Nat → List Addr} {l : Addr} {vs : List V} (g : Grow S H Fs S' H' Fs') (hS : S' l = none) (hl : H l = none ∨ ∃ i, l ∈ Fs i) : Grow S H Fs (upd S' l (.lst vs)) H' Fs' where
  ls := g.ls.trans (Le.upd hS)
  kp := g.kp
  th := g.th
  tk := g.tk
  ns := fun a z => by
    by_cases ha : a = l
    · subst ha; exact .inr (hl.imp .inl id)
    · rw [upd_ne ha] at z; exact g.ns a z
  nf := g.nf
theorem PN.d (h : PN X C W e fo) : PD X C W e (dO fo) := by
  refine ⟨PE.imp h.pe fun σ H Q ⟨S, Fs, δ, w, q⟩ => ⟨S, Fs, δ, w, ?_⟩⟩
  unfold dO bnd at q
  cases ef : fo δ with
  | bad => rw [ef] at q; exact q
  | er x δ' => rw [ef] at q; exact q
  | ok o δ' =>
    rw [ef] at q
    dsimp only at q
    intro S' H' Fs' g w' v F r nd dF fr
    cases o with
    | sh d =>
      simp only [RpO] at r
      exact q S' H' Fs' g w' v r.1
    | ol os =>
      unfold frO at q
      dsimp only at q
      cases el : leafs os with
      | none => rw [el] at q; exact q.elim
      | some ds =>
        rw [el] at q
        simp only [RpO] at r
        obtain ⟨l, vs, F', h1, h2, h3, h4, h5⟩ := r
        subst h2
        rw [leafs_eq el] at h5
        have hF := dF l (by simp)
        have w2 := w'.share h4 h3 hF
        have g2 := g.share (vs := vs) h3 (fr l (by simp))
        exact q _ _ _ g2 w2 v (by simp only [Rp]; exact ⟨l, vs, h1, upd_same, ((RpOL.leaves ds vs F' h5).2).mono (Le.upd h3)⟩)
    | no => exact q.elim
    | fz ds => exact q.elim
    | ob c ns xs => exact q.elim
end
/-! ### a def's body -/
def msk (fx : List Nat) (n : Nat) (δ : List O) : List O := (List.range n).map fun i => if fx.contains i then δ.getD i .no else .no
theorem msk_length (fx : List Nat) (n : Nat) (δ : List O) : (msk fx n δ).length = n := by simp [msk]
theorem msk_get {fx : List Nat} {n : Nat} {δ : List O} {i : Nat} {o : O} (h : (msk fx n δ)[i]? = some o) (ne : o ≠ .no) : i < n ∧ i ∈ fx ∧ δ[i]? = some o := by
  unfold msk at h
  rw [List.getElem?_map] at h
  cases e : (List.range n)[i]? with
  | none => rw [e] at h; cases h
  | some j =>
    rw [e] at h
    have hi : i < n := by
      have := (List.getElem?_eq_some_iff.mp e).1
      simpa using this
    rw [List.getElem?_range hi] at e
    cases e
    simp only [Option.map_some, Option.some.injEq] at h
    split at h
    · rename_i hc
      refine ⟨hi, List.contains_iff_mem.mp hc, ?_⟩
      rw [List.getD_eq_getElem?_getD] at h
      cases q : δ[i]? with
      | none => rw [q] at h; exact absurd h.symm ne
      | some o' => rw [q] at h; exact congrArg some h
    · exact absurd h.symm ne
/-- the def of n parameters and N names in all whose body means g -/
def runF (n N : Nat) (fx : List Nat) (g : G) : Fm := fun os => if os.length = n then match g (os ++ List.replicate (N - n) .no) with
    | .rt o δ' => .ok o (msk fx n δ')
    | .nx δ' => .ok (.sh .non) (msk fx n δ')
    | .er x δ' => .er x (msk fx n δ')
    | _ => .bad
  else .bad
theorem runF_len (n N : Nat) (fx : List Nat) (g : G) : (∀ os r as, runF n N fx g os = .ok r as → as.length = os.length) ∧ ∀ os x as, runF n N fx g os = .er x as → as.length = os.length := by
  refine ⟨fun os r as h => ?_, fun os r as h => ?_⟩ <;>
  · unfold runF at h
    split at h
    · rename_i hl
      split at h <;> first
        | (cases h; rw [msk_length, hl])
        | cases h
    · cases h
section
variable {P : Program} {w : World} {K : PySem.W.Frag} {mg : Str → Option Value} {base : Heap} {k : Nat} {f : Addr} {x qual : Str} {st : Stmt} {fd : FuncData} {N ps : List Str} {C : Ct} {fx : List Nat} {g : G}
theorem start_get {vs : List V} {i : Nat} {v : V} : (L2.start N vs)[i]? = some (some v) ↔ vs[i]? = some v := by
  unfold L2.start
  by_cases hi : i < vs.length
  · rw [List.getElem?_append_left (by simpa using hi), List.getElem?_map]
    cases e : vs[i]? <;> simp
  · rw [List.getElem?_append_right (by simpa using hi), List.getElem?_replicate]
    rw [List.getElem?_eq_none (by omega)]
    split <;> simp
theorem guards_deeper {A : Around} {env : Env} : (A.deeper env).guards = A.guards := by
  obtain ⟨d, hd, fr, gs, u⟩ := A
  first
    | rfl
    | (simp [Around.deeper])
/-- THE RULE for a def over data -/
theorem fnG_of (F : Fun K x qual st f fd) (Sc : FnScope N ps (defScope st)) (hN : ps.length ≤ N.length)
    (hbody : ∀ (cdv : Value) (A : Around) (outer : List Env) (s : Shared) (H : Hp) (E : XK), Room k (A.deeper (envOfC qual (defScope st) s.heap.objs.size f cdv)) → (A.deeper (envOfC qual (defScope st) s.heap.objs.size f cdv)).guards = some [] → fd.code = cdv →
      PGs' (cxOf (L2.CX P w) P w K mg base N qual (defScope st) f cdv A outer s H E) C (fun cls d _ H' => E cls d H') fx (defBody st) g) :
    FnG P w K mg base (k + 1) f fd ps.length ps (spM C (runF ps.length N.length fx g)) := by
  obtain ⟨oc, od, kV, doc, pm, an, cdv, ct, osl, rfl, lk, hcd⟩ := F.ex
  have hlen : ∀ vs H Q E, spM C (runF ps.length N.length fx g) vs H Q E → vs.length = ps.length := by
    rintro vs H Q E ⟨S, Fs, os, wd, q⟩
    unfold runF at q
    by_cases hl : os.length = ps.length
    · have := wd.len
      rw [List.length_map] at this
      omega
    · rw [if_neg hl] at q
      exact q.elim
  refine ⟨hlen, fun A outer s H us vs args Q E hr hgu e0 hb r hsp => ?_⟩
  have hl := hlen _ _ _ _ hsp
  have KX : K.In s.heap := e0.mod.kin.keeps fun b o e => (e0.bs b o e).1
  have lim : s.heap.NoLimit := e0.mod.nolimit.keeps fun b o e => (e0.bs b o e).1
  have hkind : ∀ y ∈ ps.zip us, (defScope st).names.lookup y.1 = some .local ∨ ((defScope st).names.lookup y.1 = some .cell ∧ ((cellsFrom (s.heap.objs.size + 1) (defScope st).names []).lookup y.1).isSome = true) := by
    rintro ⟨n, v⟩ hy
    cases Sc.par n (List.of_mem_zip hy).1 with
    | inl q => exact .inl q
    | inr q => exact .inr ⟨q, PySem.W.cellsFrom_some _ _ _ (.inl q)⟩
  refine codeAny_call_function hr.depth (KX _ _ lk) rfl Sc.co Sc.gen rfl (PySem.W.codeRec_of KX hcd) (hb _ _ _ _ ?_)
  refine wpAny_newFunctionEnv_cells Sc.kind hkind fun env he s1 xc => ?_
  subst he
  refine ⟨lim.keeps xc.toInCall.keep, codeAny_func ?_⟩
  have hB := hbody cdv A outer s H E (hr.deeper _) (guards_deeper.trans hgu) rfl
  have I : Inv (cxOf (L2.CX P w) P w K mg base N qual (defScope st) f cdv A outer s H E) [] (L2.start N vs) H s1 := inv_start Sc hr.hd e0 hl r xc
  -- the body's question
  have hq : tS C (fun cls d _ H' => E cls d H') fx g { nx := fun _ H' => Q .non H', rt := Q } (L2.start N vs) H := by
    obtain ⟨S, Fs, os, wd, q⟩ := hsp
    unfold runF at q
    have hos : os.length = ps.length := by have := wd.len; rw [List.length_map] at this; omega
    rw [if_pos hos] at q
    refine ⟨S, Fs, os ++ List.replicate (N.length - ps.length) .no, ⟨wd.le, ?_, fun i o e ne => ?_, wd.dj, wd.nd, wd.ns, wd.tb⟩, ?_⟩
    · unfold L2.start
      simp only [List.length_append, List.length_replicate, List.length_map]
      omega
    · by_cases hi : i < os.length
      · rw [List.getElem?_append_left hi] at e
        obtain ⟨v, e1, rr⟩ := wd.sl i o e ne
        rw [List.getElem?_map] at e1
        cases ev : vs[i]? with
        | none => rw [ev] at e1; cases e1
        | some v' =>
          rw [ev] at e1
          cases e1
          exact ⟨v, start_get.mpr ev, rr⟩
      · rw [List.getElem?_append_right (by omega), List.getElem?_replicate] at e
        split at e
        · cases e; exact absurd rfl ne
        · cases e
    · have fin : ∀ {σ' : L2.St} {S' H' : Hp} {Fs' : Nat → List Addr} {δ' : List O}, Wd C S' H' Fs' σ' δ' → (∀ i ∈ fx, σ'[i]? = (L2.start N vs)[i]?) → Wd C S' H' Fs' (vs.map some) (msk fx ps.length δ') := fun {σ' S' H' Fs' δ'} w' p' =>
        ⟨w'.le, by rw [msk_length, List.length_map, hl], fun i o e ne => by
          obtain ⟨h1, h2, h3⟩ := msk_get e ne
          obtain ⟨v, e1, rr⟩ := w'.sl i o h3 ne
          rw [p' i h2] at e1
          have ev := start_get.mp e1
          exact ⟨v, by rw [List.getElem?_map, ev]; rfl, rr⟩, w'.dj, w'.nd, w'.ns, w'.tb⟩
      cases eg : g (os ++ List.replicate (N.length - ps.length) .no) with
      | rt o δ' => rw [eg] at q; exact fun σ' S' H' Fs' v F gr w' p' rr nd dF fr => q v F S' H' Fs' gr (fin w' p') rr nd dF fr
      | nx δ' => rw [eg] at q; exact fun σ' S' H' Fs' gr w' p' => q .non [] S' H' Fs' gr (fin w' p') (by simp only [RpO, Rp]; exact ⟨trivial, trivial⟩) List.nodup_nil (fun _ z => nomatch z) fun _ z => nomatch z
      | er ex δ' => rw [eg] at q; exact fun σ' cls dd S' H' Fs' gr w' p' xr => q cls dd S' H' Fs' gr (fin w' p') xr
      | bk δ' => rw [eg] at q; exact False.elim q
      | ct δ' => rw [eg] at q; exact False.elim q
      | bad => rw [eg] at q; exact q
  refine wpAny_mono (hB.ps.run [] s1 (L2.start N vs) H _ I hq) (fun fl s' hs => ?_) fun e s' hs => hs
  have fin : ∀ {σ' : L2.St} {H' : Hp} {v : V} {u : Value}, Inv (cxOf (L2.CX P w) P w K mg base N qual (defScope st) f cdv A outer s H E) [] σ' H' s' → L2.RelV v u → Q v H' → CE outer P w H s Q u s' := by
    intro σ' H' v u J rv q
    exact ⟨v, H', J.os, J.bare, J.base, J.hok, rv, q⟩
  match fl, hs with
  | .ret u, ⟨v, σ', H', J, rv, q⟩ => exact fin J rv q
  | .next, ⟨σ', H', J, q⟩ => exact fin (v := V.non) (u := Value.none) J rfl q
  | .brk, ⟨_, _, _, q⟩ => exact q.elim
  | .cont, ⟨_, _, _, q⟩ => exact q.elim
end
end FW

set_option Elab.async false
set_option linter.all false
set_option maxRecDepth 100000
set_option maxHeartbeats 4000000
/-! FwX: exceptions of own classes over Exception whose __init__ says super().__init__('..') and keeps one thing. -/
namespace FWX
open PySem PySem.W PySem.Calls PyProof.Rows PySem.HandSPX PySem.ESX
abbrev eT : List Value := [.type "Exception", .type "BaseException", .type "object"]
section
open Builtin Builtin.ObjectAttr
variable {prog : Program} {w : World} {A : Around} {E : Value → Shared → Prop} {R : Result → Shared → Prop} {hp : Heap} {g : Array GenState} {d : Drawn} {t : Nat} {os : OsState}
/-- the first thing that is kept -/
theorem first_field {K : W.Frag} {name : Str} {tk : Tok} {v : Value} {x C : Addr} {fv : Array Value} {cd : ClassData} (X : K.In hp) (hx : hp.get? x = some { cls := .ref C, data := .fields fv }) (hcd : W.clsIn K C = some cd) (hh : cd.hasDict = true)
    (ho : W.excOver K C eT = true) (ht : W.takerIn K C name = some none)
    (hq : ∀ h' tk' dx, (∀ b o, b ≠ x → hp.get? b = some o → h'.get? b = some o) → hp.objs.size ≤ dx → dx ≠ x → h'.get? x = some { cls := .ref C, dict := some dx, data := .fields fv } → h'.Ns1 dx (fun y => if y = name then some v else none) →
      R (.ok (.ret .none)) ⟨h', g, d, tk', os⟩) : codeAny (model prog w) A (.call (.builtin "object.__setattr__") ⟨[.ref x, .str name tk, v], []⟩) R ⟨hp, g, d, t, os⟩ := by
  have inst : W.InstAt hp x { cls := .ref C, data := .fields fv } C none := ⟨hx, rfl, rfl, trivial⟩
  have apart : x ≠ hp.objs.size := Nat.ne_of_lt (Heap.lt_size hx)
  refine W.osa_openX F.store_Exception X inst ho ht fun b => ?_
  have LC : W.Looks (model prog w) hp (classData C) cd := W.looks_clsIn X hcd
  obtain ⟨nm, bs, mro, ns, qn, hd, sn, sb, ab, col, del⟩ := cd
  dsimp only at hh
  subst hh
  show wpAny _ _ (storeInOwnDict (.ref x) (.ref C) (.str name tk) name v b) _ _ _
  unfold storeInOwnDict ownDictForStores
  repeat (first | with_reducible refine HandSPX.store_in_new ?_ ?_ | with_reducible refine wpAny_loadPart_at hx ?_ | with_reducible refine LC.at ?_ | wp_step)
  · exact ⟨_, #[], _, (Heap.get?_update_ne _ _ _ _ apart.symm).trans (Heap.get?_push_at rfl rfl), rfl, fun e he => absurd he (by simp), fun _ => rfl⟩
  · intro h' tk' hn' hs
    have hx₁ : (hp.push { cls := .type "dict", data := .dict #[] }).get? x = some { cls := .ref C, data := .fields fv } := Heap.get?_push_of_some _ hx
    exact hq h' tk' hp.objs.size (fun b o hb ho => (hs.2 b (Nat.ne_of_lt (Heap.lt_size ho))).trans ((Heap.get?_update_ne _ _ _ _ hb).trans (Heap.get?_push_of_some _ ho))) (Nat.le_refl _) apart.symm
      ((hs.2 x apart).trans (Heap.get?_update_self _ hx₁ rfl)) hn'
end
/-! ### the text: def __init__(self, F): super().__init__('..'); self.F = F -/
def xA (f : Str) (p1 p2 : Pos) : Arguments := { posonlyargs := [], args := [{ arg := "self", annotation := none, pos := p1 }, { arg := f, annotation := none, pos := p2 }], vararg := none, kwonlyargs := [], kw_defaults := [], kwarg := none, defaults := [] }
def xB (f z : Str) (j : Nat) (q0 q1 q2 q3 q4 q5 q6 q7 q8 q9 : Pos) : List Stmt :=
  [.Expr (.Call (.Attribute (.Call (.Name "super" q0) [] [] q1) "__init__" q2) [.Constant (.str z) j q3] [] q4) q5, .Assign [.Attribute (.Name "self" q6) f q7] (.Name f q8) q9]
def xS (f : Str) : Scope := { kind := .function, names := [(PySem.Str.ofString "self", .local), (f, .local), (PySem.Str.ofString "__class__", .free), (PySem.Str.ofString "super", .globalImplicit)], isGenerator := false, isCoroutine := false, more := [] }
/-- what the written part says of the class at C, its own __init__ at fI, that keeps what it is given as f -/
structure XTxt (prog : Program) (K : Frag) (mg : Str → Option Value) (cn f : Str) (C fI : Addr) : Prop where
  gC : mg cn = some (.ref C)
  gS : mg "super" = none
  nf : (f == ("self" : Str)) = false
  ks : (xS f).names.lookup ("super" : Str) = some .globalImplicit
  kc : (xS f).names.lookup ("__class__" : Str) = some .free
  dbg : (f == ("__debug__" : Str)) = false
  cls : ∃ nm q N bs bm sn sub ab col dd k0 k1 k2 k3 k5, K.lookup C = some (excClassObj nm q C N bs bm true sn sub ab col dd k0 k1 k2 k3 k5 "Exception.__new__") ∧ excTail eT bm = true ∧ alongIn K "__init__" bm = some (some (.builtin "Exception.__init__"))
  over : excOver K C eT = true
  sa : findIn K (.ref C) "__setattr__" = some (some (.builtin "object.__setattr__"))
  ga : findIn K (.ref C) "__getattribute__" = some (some (.builtin "BaseException.__getattribute__"))
  gg : findIn K (.ref C) "__getattr__" = some none
  noN : findIn K (.ref C) f = some none
  tk : takerIn K C f = some none
  iC : findIn K (.ref C) "__init__" = some (some (.ref fI))
  tI : typeIn K (.ref fI) = some (.type "function")
  kC : keepIn K (.ref C) = true
  exC : subIn K (.ref C) (.type "BaseException") = some true
  tyC : typeIn K (.ref C) = some (.type "type")
  hdC : hasDictIn K C = true
  te : exmOne K (.ref C) (.ref C) = some true
  sub : mroIn K C (.ref C) = some true
  isE : mroIn K C (.type "Exception") = some true
  opq : nsIn K cStatics "thirdparty.any" = some none
  file : (prog.main.scope.names.lookup ("super" : Str)).isSome = false
  fn : ∃ (oc : Value) (od : Option Addr) (qual : Str) (dV kV doc pm : Value) (an : Option Addr) (ct : Value) (osl : Array (Option Value)) (cc cda : Addr) (ccl cl : Value) (cdd cld : Option Addr) (ccs csl : Array (Option Value)) (vs : Array Value) (fl : Str) (tf : Tok)
      (z : Str) (j : Nat) (p1 p2 q0 q1 q2 q3 q4 q5 q6 q7 q8 q9 : Pos) (pl : Addr → Sem Bool),
    K.lookup fI = some ⟨oc, od, .func (ksFn "__init__" qual (xA f p1 p2) (xB f z j q0 q1 q2 q3 q4 q5 q6 q7 q8 q9) (xS f) .none .none doc pm an (.ref cda) ct cc), osl⟩ ∧ codeIn K (.ref cda) qual = true ∧
      K.lookup cda = some ⟨ccl, cdd, .fields vs, ccs⟩ ∧ vs[2]? = some (.str fl tf) ∧ ((prog.main.file : Str) == fl) = true ∧ K.lookup cc = some ⟨cl, cld, .cell (some (.ref C)), csl⟩ ∧
      (∀ (x v : Value), bindArgs (ksFn "__init__" qual (xA f p1 p2) (xB f z j q0 q1 q2 q3 q4 q5 q6 q7 q8 q9) (xS f) .none .none doc pm an (.ref cda) ct cc) ⟨[x, v], []⟩ = pure [(PySem.Str.ofString "self", x), (f, v)]) ∧
      ∀ L : Addr, eval (.Call (.Attribute (.Call (.Name "super" q0) [] [] q1) "__init__" q2) [.Constant (.str z) j q3] [] q4) (ksEnv qual (xS f) L fI (.ref cda) cc) = (do
        let ov ← attributeBase (.Call (.Name "super" q0) [] [] q1) "__init__" (ksEnv qual (xS f) L fI (.ref cda) cc) (eval (.Call (.Name "super" q0) [] [] q1) (ksEnv qual (xS f) L fI (.ref cda) cc))
        standAt q2.atName
        let (g, first) ← holding [ov] (getMethod ov "__init__" (pl L))
        callWith q4 g first (backTo q4 (starEach [.Constant (.str z) j q3] (ksEnv qual (xS f) L fI (.ref cda) cc))) [])
/-- what __init__ leaves of a fresh exception at x -/
structure XEnd (f : Str) (h h' : Heap) (x C dx t1 : Addr) (v : Value) : Prop where
  keep : ∀ b o, b ≠ x → h.get? b = some o → h'.get? b = some o
  obj : h'.get? x = some { cls := .ref C, dict := some dx, data := .fields #[.ref t1, .none, .none, .none, .bool false, .none] }
  dbig : h.objs.size ≤ dx
  dne : dx ≠ x
  ns : h'.Ns1 dx (fun y => if y = f then some v else none)
section
variable {prog : Program} {w : World} {A : Around} {E : Value → Shared → Prop} {R : Result → Shared → Prop} {s : Shared} {K : Frag} {mg mb : Str → Option Value} {cn f : Str} {C fI : Addr}
theorem x_init (T : XTxt prog K mg cn f C fI) {x t0 : Addr} {v : Value} (X : K.In s.heap) (hlim : s.heap.NoLimit) (hgl : s.heap.Ns mainGlobals mg) (hbl : s.heap.Ns builtinsNs mb) (hbb : mb "super" = bootBuiltins "super") (hx : s.heap.get? x = some (excO C t0)) (hnx : K.lookup x = none) (hroom : A.depth < recursionLimit)
    (hq : ∀ h' tk dx t1, XEnd f s.heap h' x C dx t1 v → R (.ok (.ret .none)) { s with heap := h', toks := tk }) : codeAny (model prog w) A (.call (.ref fI) ⟨[.ref x, v], []⟩) R s := by
  obtain ⟨oc, od, qual, dV, kV, doc, pm, an, ct, osl, cc, cda, ccl, cl, cdd, cld, ccs, csl, vs, fl, tf, z, j, p1, p2, q0, q1, q2, q3, q4, q5, q6, q7, q8, q9, pl, ho, hcd, hcda, hvs, hfl, hcc, hbd, hev⟩ := T.fn
  obtain ⟨nm, q, N, bs, bm, sn, sub, ab, col, dd, k0, k1, k2, k3, k5, hC, hbm, hal⟩ := T.cls
  have hcl : clsIn K C = some { name := nm, bases := bs, mro := .ref C :: bm, ns := N, qualname := q, hasDict := true, slotNames := sn, subclasses := sub, abstract := ab, collection := col, hasDel := false } := by unfold clsIn; rw [hC] <;> rfl
  have nf : (f == ("self" : Str)) = false := T.nf
  have lf : (xS f).names.lookup f = some .local := by
    show List.lookup f ((PySem.Str.ofString "self", NameKind.local) :: (f, NameKind.local) :: _) = some .local
    have e1 : (f == PySem.Str.ofString "self") = false := nf
    simp only [List.lookup, e1, beq_self_eq_true]
  refine ks_codeAny_call_defAt (binds := [("self", .ref x), (f, v)]) (body := xB f z j q0 q1 q2 q3 q4 q5 q6 q7 q8 q9) hroom (X _ _ ho) rfl hlim (codeRec_of X hcd) rfl ?_ ?_ ?_ (fun h₁ hns hk₁ => ?_)
  · exact .of_eq (hbd _ _)
  · intro y hy
    have hy' : y ∈ ([(PySem.Str.ofString "self", .local), (f, .local), (PySem.Str.ofString "__class__", .free), (PySem.Str.ofString "super", .globalImplicit)] : List (Str × NameKind)) := hy
    simp only [List.mem_cons, List.not_mem_nil, or_false] at hy'
    rcases hy' with rfl | rfl | rfl | rfl <;> intro q <;> cases q
  · intro y hy
    simp only [List.mem_cons, List.not_mem_nil, or_false] at hy
    rcases hy with rfl | rfl
    · show List.lookup _ ((PySem.Str.ofString "self", NameKind.local) :: _) = some .local
      rfl
    · exact lf
  · obtain ⟨hp, g, d, tk, os⟩ := s
    dsimp only at X hlim hgl hbl hx hns hk₁ hq ⊢
    have X₁ : K.In h₁ := X.keeps hk₁
    have hx₁ := hk₁ _ _ hx
    have inst : W.InstAt h₁ x (excO C t0) C none := ⟨hx₁, rfl, rfl, trivial⟩
    have hxL : hp.objs.size ≠ x := Nat.ne_of_gt (Heap.lt_size hx)
    have hD : h₁.get? C = _ := X₁ _ _ hC
    have hxC : x ≠ C := by
      rintro rfl
      rw [hC] at hnx; cases hnx
    have m1 : ([((("self" : Str)), Value.ref x), (f, v)] : List (Str × Value)).reverse.lookup ("self" : Str) = some (Value.ref x) := by
      show List.lookup ("self" : Str) [(f, v), (("self" : Str), Value.ref x)] = some (Value.ref x)
      have e1 : (("self" : Str) == f) = false := by
        cases q : (("self" : Str) == f) with
        | false => rfl
        | true => rw [beq_iff_eq] at q; rw [← q] at nf; simp at nf
      simp only [List.lookup, e1, beq_self_eq_true]
    have m2 : ([((("self" : Str)), Value.ref x), (f, v)] : List (Str × Value)).reverse.lookup f = some v := by
      show List.lookup f [(f, v), (("self" : Str), Value.ref x)] = some v
      simp only [List.lookup, beq_self_eq_true]
    show _root_.PySem.wpAt (model prog w) (A.deeper (ksEnv qual (xS f) hp.objs.size fI (.ref cda) cc)) (.func _ (ksEnv qual (xS f) hp.objs.size fI (.ref cda) cc)) (execs _ (ksEnv qual (xS f) hp.objs.size fI (.ref cda) cc)) _ _ _
    unfold xB
    refine ks_wpAt_execs_cons (ks_wpAt_Expr_any (ks_wpAt_MethodCall (pl := pl hp.objs.size) ?_ (hev _)))
    have hns0 := hns
    obtain ⟨oL, esL, epL, hoL, hdL, hcL⟩ := hns0
    have hgl₁ : h₁.Ns mainGlobals mg := by
      obtain ⟨o, es, ep, e1, r⟩ := hgl
      exact ⟨o, es, ep, hk₁ _ _ e1, r⟩
    have hbl₁ : h₁.Ns builtinsNs mb := by
      obtain ⟨o, es, ep, e1, r⟩ := hbl
      exact ⟨o, es, ep, hk₁ _ _ e1, r⟩
    refine ks_wpAt_super_base (env := ksEnv qual (xS f) hp.objs.size fI (.ref cda) cc) (f := fI) (cc := cda) (ar := { arg := "self", annotation := none, pos := p1 }) T.ks T.kc (by decide) rfl (X₁ _ _ ho) rfl rfl rfl (X₁ _ _ hcda) rfl hvs hfl T.file ?_
    refine ks_loadName_global rfl T.ks (loadGlobal_builtin (env := ksEnv qual (xS f) hp.objs.size fI (.ref cda) cc) hgl₁ T.gS hbl₁ (hbb.trans (by decide +kernel)) ⟨rfl, ?_⟩)
    refine wpAny_loadName_free rfl T.kc rfl ⟨_, X₁ _ _ hcc, rfl⟩ ?_
    refine wpAny_loadName_local rfl (by show List.lookup _ ((PySem.Str.ofString "self", NameKind.local) :: _) = some .local; rfl) hns m1 ?_
    refine ks_wpAny_isType_cls hD rfl ⟨rfl, ?_⟩
    refine ks_wpAny_call_super hD rfl hx₁ rfl (fun c e => by cases e) (looks_mroIn X₁ T.sub) (fun h₂ hso hk₂ => ?_)
    have X₂ := X₁.keeps hk₂
    have hx₂ := hk₂ _ _ hx₁
    have inst₂ : W.InstAt h₂ x (excO C t0) C none := ⟨hx₂, rfl, rfl, trivial⟩
    have LC : Looks (model prog w) h₂ (mroOf (.ref C)) (.ref C :: bm) := (looks_clsIn X₂ hcl).andThen .now
    refine ESX.getMethod_super hso (looks_opaque X₂ T.opq) LC (drop_own C bm) X₂ hal hxC (by decide) (inst₂.type.andThen (looks_mroIn X₂ T.isE)) ?_
    refine ESX.callWith_bound (x := x) ?_
    refine Calls.spliced_cons (Calls.Constant_str (pos := q3) (k := j) (Calls.spliced_nil ⟨Heap.get?_push_size _ rfl, ?_⟩))
    have k3 : ∀ b o, h₂.get? b = some o → (h₂.push (bw x)).get? b = some o := fun b o e => Heap.get?_push_of_some _ e
    refine ESX.call_bw (k3 _ _ (X₂ _ _ hC)) (k3 _ _ hx₂) (Heap.get?_push_size _ rfl) (by show 1 ≤ sizeLine; decide) fun h₃ t1 hk₃ hx₃ => ?_
    have kk : ∀ b o, b ≠ x → h₁.get? b = some o → h₃.get? b = some o := fun b o hb e => hk₃ b o hb (k3 _ _ (hk₂ _ _ e))
    have X₃ : K.In h₃ := fun b o e => kk b o (fun q => by rw [q, hnx] at e; cases e) (X₁ b o e)
    have hns₃ : h₃.Ns hp.objs.size (fun y => ([((("self" : Str)), Value.ref x), (f, v)] : List (Str × Value)).reverse.lookup y) := ⟨oL, esL, epL, kk _ _ hxL hoL, hdL, hcL⟩
    -- self.f = f
    refine _root_.PySem.wpAt_of_wpAny ?_
    refine wpAny_execs_cons (plainObj_wpAny_Assign_Attribute ?_)
    refine ESX.ldL hns₃ m2 (ESX.ldL hns₃ m1 ?_ rfl ?_ (by decide)) rfl lf T.dbg
    · refine set_plain X₃ (ox := excO C t1) (od := none) ⟨hx₃, rfl, rfl, trivial⟩ T.sa ?_
      refine first_field X₃ hx₃ hcl rfl T.over T.tk (fun h₄ tk₄ dx k₄ dn dne hx₄ hn₄ => ?_)
      show wpAny _ _ (execs _ _) _ _ _
      have ge : hp.objs.size ≤ h₃.objs.size := Nat.le_of_lt (Heap.lt_size (kk _ _ hxL hoL))
      exact wpAny_execs_nil (hq h₄ tk₄ dx t1 ⟨fun b o hb e => k₄ b o hb (kk b o hb (hk₁ b o e)), hx₄, Nat.le_trans ge dn, dne, hn₄⟩)
    · show List.lookup _ ((PySem.Str.ofString "self", NameKind.local) :: _) = some .local
      rfl
theorem one_size (v : Value) : [v].length ≤ sizeLine := by show 1 ≤ sizeLine; decide
/-- a made one -/
structure XMade (f : Str) (h h' : Heap) (e C d : Addr) (v : Value) : Prop where
  keep : ∀ b o, h.get? b = some o → h'.get? b = some o
  new : h.objs.size ≤ e
  obj : ∃ oe vs, h'.get? e = some oe ∧ oe.cls = .ref C ∧ oe.dict = some d ∧ oe.data = .fields vs ∧ vs[1]? = some .none
  dbig : h.objs.size ≤ d
  dne : d ≠ e
  ns : h'.Ns1 d (fun y => if y = f then some v else none)
theorem x_made (T : XTxt prog K mg cn f C fI) {v : Value} (X : K.In s.heap) (hlim : s.heap.NoLimit) (hgl : s.heap.Ns mainGlobals mg) (hbl : s.heap.Ns builtinsNs mb) (hbb : mb "super" = bootBuiltins "super") (hroom : A.depth + 1 < recursionLimit)
    (hq : ∀ h' tk e d, XMade f s.heap h' e C d v → R (.ok (.ret (.ref e))) { s with heap := h', toks := tk }) : codeAny (model prog w) A (.call (.ref C) ⟨[v], []⟩) R s := by
  obtain ⟨nm, q, N, bs, bm, sn, sub, ab, col, dd, k0, k1, k2, k3, k5, hC, hbm, hal⟩ := T.cls
  obtain ⟨hp, g, dr, tk, os⟩ := s
  have k : ∀ b o, hp.get? b = some o → ((hp.push (kdv_tup [v])).push (excO C hp.objs.size)).get? b = some o := fun b o e => Heap.get?_push_of_some _ (Heap.get?_push_of_some _ e)
  have hget : ((hp.push (kdv_tup [v])).push (excO C hp.objs.size)).get? (hp.objs.size + 1) = some (excO C hp.objs.size) := by heap_get
  have hnx : K.lookup (hp.objs.size + 1) = none := by
    cases e : K.lookup (hp.objs.size + 1) with
    | none => rfl
    | some o =>
      have z : hp.get? (hp.objs.size + 1) = some o := X _ _ e
      exact absurd (Nat.lt_of_succ_lt (Heap.lt_size z)) (Nat.lt_irrefl _)
  refine HandSPX.call_own F.excBase_Exception (fun Y => excTail_contains Y bm hbm) (X _ _ hC) (looks_findIn X T.iC) (fun self => bind_fn X self T.tI) (one_size v) ?_
  have up : ∀ {b : Addr} {m : Str → Option Value}, hp.Ns b m → ((hp.push (kdv_tup [v])).push (excO C hp.objs.size)).Ns b m := fun ⟨o, es, ep, e1, r⟩ => ⟨o, es, ep, k _ _ e1, r⟩
  refine x_init (s := ⟨(hp.push (kdv_tup [v])).push (excO C hp.objs.size), g, dr, tk, os⟩) T (X.keeps k) (hlim.keeps k) (up hgl) (up hbl) hbb hget hnx ?_ fun h' tk' dx t1 ⟨k', hx, dn, dne, hns⟩ => ?_
  · show A.depth + 1 < recursionLimit
    exact hroom
  · have old : ∀ b o, hp.get? b = some o → h'.get? b = some o := fun b o e => k' b o (Nat.ne_of_lt (Nat.lt_succ_of_lt (Heap.lt_size e))) (k b o e)
    have z : hp.objs.size + 1 + 1 ≤ dx := by
      first
        | (simpa only [Heap.size_push] using dn)
        | exact dn
        | (have q := dn; rw [Heap.size_push, Heap.size_push] at q; exact q)
    exact ⟨rfl, hq h' tk' (hp.objs.size + 1) dx ⟨old, Nat.le_succ _, ⟨_, _, hx, rfl, rfl, rfl, rfl⟩, Nat.le_trans (Nat.le_trans (Nat.le_succ _) (Nat.le_succ _)) z, dne, hns⟩⟩
end
end FWX
namespace FW
open PySem PySem.Spec PyProof.Rows L2
theorem relO_one {f : Str} {v : V} {v' : Value} (r : L2.RelV v v') (y : Str) : RelO (List.lookup y [(f, v)]) (if y = f then some v' else none) := by
  by_cases hw : y = f
  · subst hw
    rw [if_pos rfl]
    have q : List.lookup y [(y, v)] = some v := by simp [List.lookup]
    rw [q]
    exact r
  · rw [if_neg hw]
    have qw : (y == f) = false := by simpa using hw
    have q2 : List.lookup y [(f, v)] = none := by simp [List.lookup, qw]
    rw [q2]
    trivial
section
variable {X : Cx} {C fI : Addr} {cn f : Str}
/-- cn(e) -/
def tMkX (f : Str) (C : Addr) (ta : TA) : L2.St → Hp → XK → Prop := fun σ H Q => ta σ H fun vs H1 => ∃ v, vs = [v] ∧ ∀ d, H1 d = none → Q (.ref C) (some d) (upd H1 d (.xd [(f, v)]))
theorem pmk_x {a : Expr} {ta : TA} {p pos : Pos} {k : Nat} (T : FWX.XTxt X.prog X.K X.mg cn f C fI) (hr : Room k X.A) (ha : PA X [a] ta) (hg : Gl X cn) (hdb : (cn == ("__debug__" : Str)) = false := by decide)
    (he : starEach (a :: []) X.env = (false, eval a X.env) :: starEach [] X.env := by rfl) (hpl : (backTo pos (starEach [] X.env)).any (·.1) = false := by rfl) :
    PMk X (.Call (.Name cn p) [a] [] pos) (tMkX f C ta) := by
  intro pins s σ H Q I h
  refine wpAny_Call_Name_kw (ld_glob I hg T.gC ?_ hdb)
  refine PySem.W.callWith_K (h₀ := X.base) I.ok.mod.kin T.kC (thn (ha.run pos pins s σ H _ I h) fun us s1 hh => ?_) he hpl
  obtain ⟨vs, H1, I1, r1, v, ev, q1⟩ := hh
  subst ev
  refine ⟨I1.kIn, ?_⟩
  cases r1 with
  | cons rv rn =>
    rename_i v' us'
    cases rn
    show wpAny _ _ (call (.ref C) [v']) _ _ _
    have hlim := I1.nolimit
    obtain ⟨mb, hb1, hb2⟩ := I1.mod.blt
    have hgl := I1.mod.glob.keeps I1.bk
    have hbl := hb1.keeps I1.bk
    obtain ⟨hp, g, dr, tk, os⟩ := s1
    refine wpAny_call (FWX.x_made T I1.kIn hlim hgl hbl (hb2 _ (by decide)) (by have := hr.dp; omega) fun h' tk' e d M => ?_)
    show MkP X pins σ Q (.ref e) ⟨h', g, dr, tk', os⟩
    obtain ⟨oe, fv, hoe, hc, hd, hdat, h1⟩ := M.obj
    have hns := M.ns
    obtain ⟨G', g1, g2⟩ := restrict h' fun b => decide (b ≠ e)
    have gk : ∀ b, b ≠ e → G'.get? b = h'.get? b := fun b hb => g1 b (decide_eq_true hb)
    have ge : G'.get? e = none := g2 e (by simp)
    have old : ∀ b o, hp.get? b = some o → G'.get? b = some o := fun b o q => (gk b (Nat.ne_of_lt (Nat.lt_of_lt_of_le (Heap.lt_size q) M.new))).trans (M.keep b o q)
    have ob : ObjOk X.prog X.w (upd H1 d (.xd [(f, v)])) G' d (.xd [(f, v)]) := ⟨_, hns.at (fun o q => (gk d M.dne).trans q), fun y => relO_one rv y⟩
    have J : Inv X pins σ (upd H1 d (.xd [(f, v)])) ⟨G', g, dr, tk', os⟩ := I1.laid (t' := tk') old M.dbig ob
    refine ⟨e, oe, fv, ⟨G', g, dr, tk', os⟩, _, .ref C, some d, rfl, J, fun b o q => ?_, ge, hoe, ⟨hc, hd⟩, hdat, h1, ?_, rfl, I1.bare, raises_own T.exC T.tyC, q1 d (I1.hok.fresh M.dbig)⟩
    · by_cases hb : b = e
      · have q' : G'.get? b = some o := q
        rw [hb, ge] at q'; cases q'
      · exact (gk b hb).symm.trans q
    · rw [upd_ne (Ne.symm M.dne)]
      exact I1.hok.fresh M.new
def tA1D (C : Ct) (W : WX) (f : M D) : TA := fun σ H Q => ∃ S Fs δ, Wd C S H Fs σ δ ∧ Aft C W σ S H Fs (f δ) fun d S' H' _ _ => ∀ v, Rp C S' d v → Q [v] H'
theorem pa_1D {Ct : Ct} {W : WX} {e : Expr} {fa : M D} (ha : PD X Ct W e fa) (hs : starEach (e :: []) X.env = (false, eval e X.env) :: starEach [] X.env := by rfl) : PA X [e] (tA1D Ct W fa) :=
  PA.imp (pa_cons ha.pe pa_nil hs) fun σ H Q ⟨S, Fs, δ, w, q⟩ => ⟨S, Fs, δ, w, q⟩
/-- raise cn(e) -/
def sRaise (cn f : Str) (e : M D) : G := bS e fun d δ => .er ⟨cn, [f], [d]⟩ δ
theorem pg_raise {Ct : Ct} {W : WX} {fx : List Nat} {a : Expr} {fa : M D} {p pos pos2 : Pos} {k : Nat} (hc : X.calm = true) (T : FWX.XTxt X.prog X.K X.mg cn f C fI) (hr : Room k X.A) (tk : Takes X W) (ha : PD X Ct W a fa) (hg : Gl X cn) (hm : Ct.mg = X.mg := by rfl) (hdb : (cn == ("__debug__" : Str)) = false := by decide)
    (he : starEach (a :: []) X.env = (false, eval a X.env) :: starEach [] X.env := by rfl) (hpl : (backTo pos (starEach [] X.env)).any (·.1) = false := by rfl) :
    PG' X Ct W fx (.Raise (some (.Call (.Name cn p) [a] [] pos)) none pos2) (sRaise cn f fa) := by
  refine ⟨PS.imp (ps_raise hc tk (pmk_x T hr (pa_1D ha he) hg hdb he hpl)) fun E σ H ⟨S, Fs, δ, w, q⟩ => ⟨S, Fs, δ, w, ?_⟩⟩
  unfold sRaise bS at q
  cases ef : fa δ with
  | bad => rw [ef] at q; exact q
  | er x δ' => rw [ef] at q; exact fun cls dd S' H' Fs' g w' => q σ cls dd S' H' Fs' g w' fun _ _ => rfl
  | ok d δ' =>
    rw [ef] at q
    intro S' H' Fs' g w' v rv
    refine ⟨v, rfl, fun dx hdx => ?_⟩
    have le : Le H' (upd H' dx (.xd [(f, v)])) := Le.upd hdx
    have w2 := w'.new (Le.refl _) le (fun a z => .inl z) (w'.le.trans le)
    have g2 : Grow S H Fs S' (upd H' dx (.xd [(f, v)])) Fs' := g.trans (Grow.new (Le.refl _) le fun a z => .inl z)
    refine q σ (.ref C) (some dx) S' _ Fs' g2 w2 (fun _ _ => rfl) ⟨C, by rw [hm]; exact T.gC, rfl, .inr ⟨dx, [(f, v)], rfl, upd_same, rfl, ?_⟩⟩
    simp only [List.map_cons, List.map_nil, RpL]
    exact ⟨v, [], rfl, rv, rfl⟩
end
end FW

set_option Elab.async false
set_option linter.all false
set_option maxRecDepth 100000
set_option maxHeartbeats 2000000
/-! FwK: what the printed derivations use: the context's facts, names, calls, statements. -/
namespace FW
open PySem PySem.Spec PyProof.Rows L2
/-- the names N, told by the scope sc -/
structure Bas (X : Cx) (C : Ct) (W : WX) (k : Nat) (N : List Str) (sc : Scope) : Prop where
  calm : X.calm = true
  nd : N.Nodup
  hN : X.N = N
  hK : C.K = X.K
  hmg : C.mg = X.mg
  tk : Takes X W
  room : Room k X.A
  gu : X.A.guards = some []
  scp : ∀ x kd, sc.names.lookup x = some kd → X.env.scope.names.lookup x = some kd ∨ (kd = .free ∧ X.env.scope.names.lookup x = some .cell)
  fn : ∀ x, sc.names.lookup x = some .cell → X.fn x = true
/-- .. where statements stand -/
structure Bst (X : Cx) (C : Ct) (W : WX) (k : Nat) (N : List Str) (sc : Scope) : Prop where
  b : Bas X C W k N sc
  po : PassesOwn (model X.prog X.w) X.A X.env X.xe
  hs : X.stack = X.env :: X.outer
  hf : X.env.frame = some X.env.locals
def visK : Option NameKind → Bool
  | some .local => true
  | some .cell => true
  | some .free => true
  | _ => false
def locK : Option NameKind → Bool
  | some .local => true
  | some .cell => true
  | _ => false
/-- the i-th name is x, read here -/
def nmC (N : List Str) (sc : Scope) (i : Nat) (x : Str) : Bool := decide (N[i]? = some x) && visK (sc.names.lookup x) && !(x == "__debug__") && !(x == "__classdict__")
/-- .. stored here -/
def nsC (N : List Str) (sc : Scope) (i : Nat) (x : Str) : Bool := decide (N[i]? = some x) && locK (sc.names.lookup x)
def glC (sc : Scope) (x : Str) : Bool := decide (sc.names.lookup x = some .globalImplicit) && !(x == "__debug__")
/-- a plain local name -/
def llC (N : List Str) (sc : Scope) (i : Nat) (x : Str) : Bool := decide (N[i]? = some x) && decide (sc.names.lookup x = some .local)
section
variable {X : Cx} {C : Ct} {W : WX} {k : Nat} {N : List Str} {sc : Scope} {i : Nat} {x : Str} {pos p : Pos} {e ea eb : Expr} {f fa fb : M D} {fo : M O}
theorem Bas.vis (B : Bas X C W k N sc) (h : visK (sc.names.lookup x) = true) : Vis X.env.scope x := by
  cases q : sc.names.lookup x with
  | none => rw [q] at h; cases h
  | some kd =>
    rw [q] at h
    rcases B.scp x kd q with z | ⟨rfl, z⟩
    · cases kd with
      | «local» => exact .inl z
      | cell => exact .inr (.inl z)
      | free => exact .inr (.inr z)
      | _ => cases h
    · exact .inr (.inl z)
theorem Bas.loc (B : Bas X C W k N sc) (h : locK (sc.names.lookup x) = true) : Loc X.env.scope x ∧ (X.fn x = true ∨ X.env.scope.names.lookup x = some .local) := by
  cases q : sc.names.lookup x with
  | none => rw [q] at h; cases h
  | some kd =>
    rw [q] at h
    rcases B.scp x kd q with z | ⟨rfl, z⟩
    · cases kd with
      | «local» => exact ⟨.inl z, .inr z⟩
      | cell => exact ⟨.inr z, .inl (B.fn x q)⟩
      | _ => cases h
    · cases h
theorem Bas.gl (B : Bas X C W k N sc) (h : glC sc x = true) : Gl X x ∧ (x == ("__debug__" : Str)) = false := by
  simp only [glC, Bool.and_eq_true, decide_eq_true_eq, Bool.not_eq_true'] at h
  rcases B.scp x _ h.1 with z | ⟨z, _⟩
  · exact ⟨z, h.2⟩
  · cases z
theorem Bas.pv (B : Bas X C W k N sc) (h : nmC N sc i x = true) : PE X (.Name x pos) (tVar i) := by
  simp only [nmC, Bool.and_eq_true, decide_eq_true_eq, Bool.not_eq_true'] at h
  exact pe_var (by rw [B.hN]; exact h.1.1.1) (B.vis h.1.1.2) h.1.2 h.2
theorem Bas.ndX (B : Bas X C W k N sc) : X.N.Nodup := by rw [B.hN]; exact B.nd
theorem Bas.u64 (B : Bas X C W k N sc) : X.A.units + 64 < cLine := by have := B.room.un; omega
theorem Bas.u65 (B : Bas X C W k N sc) : X.A.units + 65 < cLine := by have := B.room.un; omega
/-- a name, a datum -/
theorem kv (B : Bas X C W k N sc) (h : nmC N sc i x = true) : PD X C W (.Name x pos) (gv i) := pd_var (B.pv h)
theorem kpg (B : Bas X C W k N sc) (h : nsC N sc i x = true) : PG X (.Name x pos) (gName i) := by
  simp only [nsC, Bool.and_eq_true, decide_eq_true_eq] at h
  exact pg_name B.ndX (by rw [B.hN]; exact h.1) (B.loc h.2).1 (B.loc h.2).2
theorem ktg (B : Bas X C W k N sc) (h : nsC N sc i x = true) : PTg X C [i] (.Name x pos) (gName i) (tgName i) := ptg_name (kpg B h)
/-- a module's constant -/
def ConD (C : Ct) (x : Str) (d : D) : Prop := ∃ u v, C.mg x = some u ∧ RelV v u ∧ ∀ S, Rp C S d v
theorem kcon {d : D} (B : Bas X C W k N sc) (g : glC sc x = true) (h : ConD C x d) : PD X C W (.Name x pos) (cst d) := by
  obtain ⟨u, v, h1, h2, h3⟩ := h
  exact pd_c (pe_glob (B.gl g).1 (by rw [← B.hmg]; exact h1) h2 (B.gl g).2) h3
/-- a function as a value -/
theorem kfun (B : Bas X C W k N sc) (g : glC sc x = true) {a : Addr} (h : C.mg x = some (.ref a)) : PD X C W (.Name x pos) (cst (.gl x)) :=
  pd_c (v := .ref a) (pe_glob (B.gl g).1 (by rw [← B.hmg]; exact h) rfl (B.gl g).2) fun S => by simp only [Rp]; exact ⟨a, rfl, h⟩
/-- - e -/
def negD : D → Option D
  | .int i => some (.int (-i))
  | _ => none
theorem pd_neg (h : PD X C W ea fa) : PD X C W (.UnaryOp .USub ea pos) (op1 negD fa) := by
  refine ⟨PE.imp (pe_un un_neg h.pe) fun σ H Q ⟨S, Fs, δ, w, q⟩ => ⟨S, Fs, δ, w, (Aft.bind q).mono fun x S1 H1 F1 δ1 g1 w1 q1 v r1 => ?_⟩⟩
  cases x with
  | int i => simp only [Rp] at r1; exact ⟨i, r1, q1.now w1 _ (by simp only [Rp])⟩
  | _ => exact q1.elim
/-! ### isinstance -/
inductive Ty where
  | int | bool | str | list | tuple
def Ty.s : Ty → String
  | .int => "int" | .bool => "bool" | .str => "str" | .list => "list" | .tuple => "tuple"
def isT : Ty → D → Option Bool
  | _, .gl _ => none
  | _, .clo _ => none
  | .int, .int _ => some true
  | .int, .bl _ => some true
  | .bool, .bl _ => some true
  | .str, .str _ => some true
  | .list, .lst _ => some true
  | .tuple, .tup _ => some true
  | _, _ => some false
def isTs : List Ty → D → Option Bool
  | [], .gl _ => none
  | [], .clo _ => none
  | [], _ => some false
  | t :: ts, d => (isT t d).bind fun b => if b then some true else isTs ts d
def tyO : D → Option String
  | .non => some "NoneType"
  | .bl _ => some "bool"
  | .int _ => some "int"
  | .str _ => some "str"
  | .tup _ => some "tuple"
  | .lst _ => some "list"
  | _ => none
theorem kit_all : (["NoneType", "bool", "int", "str", "tuple", "list"].all fun a => ["int", "bool", "str", "list", "tuple"].all fun b => decide (kitB a b = some (a == b || (a == "bool" && b == "int")))) = true := by decide +kernel
theorem isT_eq {t : Ty} {d : D} {b : Bool} (h : isT t d = some b) : ∃ n, tyO d = some n ∧ n ∈ ["NoneType", "bool", "int", "str", "tuple", "list"] ∧ b = (n == t.s || (n == "bool" && t.s == "int")) := by
  cases t <;> cases d <;> simp [isT] at h <;> subst h <;> exact ⟨_, rfl, by decide, by decide⟩
theorem kit_is {t : Ty} {d : D} {b : Bool} {K : PySem.W.Frag} (h : isT t d = some b) : ∃ n, tyO d = some n ∧ PySem.W.kitOne K (.type n) (.type t.s) = some b := by
  obtain ⟨n, h1, h2, h3⟩ := isT_eq h
  refine ⟨n, h1, kit_ty ?_⟩
  have := List.all_eq_true.mp (List.all_eq_true.mp kit_all n h2) t.s (by cases t <;> decide)
  rw [of_decide_eq_true this, h3]
theorem ty_is {d : D} {n : String} {S H : Hp} {v : V} (le : Le S H) (r : Rp C S d v) (h : tyO d = some n) : TyX C.K H v (.type n) := by
  cases d <;> simp [tyO] at h
  case non => subst h; simp only [Rp] at r; subst r; exact .base .non
  case bl b => subst h; simp only [Rp] at r; subst r; exact .base (.bl b)
  case int b => subst h; simp only [Rp] at r; subst r; exact .base (.int b)
  case str b => subst h; simp only [Rp] at r; subst r; exact .base (.str b)
  case tup ds =>
    subst h
    simp only [Rp] at r
    obtain ⟨a, vs, rfl, h2, _⟩ := r
    rcases le.t h2 with (q | ⟨o, q⟩) | ⟨o, its, m, q1, q2, _⟩
    · exact .base (.tup q)
    · exact .fTuple q
    · exact .kTuple q1 q2
  case lst ds =>
    subst h
    simp only [Rp] at r
    obtain ⟨a, vs, rfl, h2, _⟩ := r
    exact .base (.lst (le a _ h2))
def isaD (t : Ty) (d : D) : Option D := (isT t d).map .bl
def isasD (ts : List Ty) (d : D) : Option D := (isTs ts d).map .bl
theorem isTs_ok {ts : List Ty} {d : D} {b : Bool} {K : PySem.W.Frag} (h : isTs ts d = some b) : ∃ n, tyO d = some n ∧ PySem.W.kitAny K (.type n) (ts.map fun t => Value.type t.s) = some b := by
  induction ts generalizing b with
  | nil => cases d <;> simp [isTs] at h <;> subst h <;> exact ⟨_, rfl, kitAny_nil⟩
  | cons t ts ih =>
    simp only [isTs, Option.bind_eq_some_iff] at h
    obtain ⟨b1, h1, h2⟩ := h
    obtain ⟨n, e1, e2⟩ := kit_is (K := K) h1
    cases b1 with
    | true =>
      simp only [if_true, Option.some.injEq] at h2
      exact ⟨n, e1, kitAny_cons e2 (fun z => by cases z) fun _ => h2.symm⟩
    | false =>
      simp only [Bool.false_eq_true, if_false] at h2
      obtain ⟨n', e3, e4⟩ := ih h2
      rw [e1] at e3; cases e3
      exact ⟨n, e1, kitAny_cons e2 (fun _ => e4) fun z => by cases z⟩
/-- the built-in classes' names -/
def tyG (X : Cx) (t : Ty) : Prop := X.mg (Str.ofString t.s) = none
theorem boot_ty (t : Ty) : bootBuiltins (Str.ofString t.s) = some (.type t.s) := by cases t <;> decide +kernel
def tyN : Ty → Str
  | .int => "int" | .bool => "bool" | .str => "str" | .list => "list" | .tuple => "tuple"
theorem boot_tyN (t : Ty) : bootBuiltins (tyN t) = some (.type t.s) := by cases t <;> decide +kernel
theorem tyN_ne (t : Ty) : tyN t ≠ "__name__" := by cases t <;> decide
theorem pe_ty {t : Ty} (B : Bas X C W k N sc) (g : glC sc (tyN t) = true) (hm : C.mg (tyN t) = none) : PE X (.Name (tyN t) pos) (tC (.ty t.s)) :=
  pe_bltn (B.gl g).1 (by rw [← B.hmg]; exact hm) (boot_tyN t) rfl (tyN_ne t) (B.gl g).2
theorem pd_isa {t : Ty} {p1 p2 : Pos} (B : Bas X C W k N sc) (g : glC sc "isinstance" = true) (hm : C.mg "isinstance" = none) (gt : glC sc (tyN t) = true) (ht : C.mg (tyN t) = none) (ha : PD X C W ea fa)
    (he : starEach [ea, .Name (tyN t) p2] X.env = [(false, eval ea X.env), (false, eval (.Name (tyN t) p2) X.env)] := by rfl) : PD X C W (.Call (.Name "isinstance" p1) [ea, .Name (tyN t) p2] [] pos) (op1 (isaD t) fa) := by
  refine ⟨PE.imp (pe_callB (r := rIsi X.K) call_isi (B.gl g).1 (by rw [← B.hmg]; exact hm) (by decide +kernel) (pa_cons ha.pe (pa_cons (pe_ty (pos := p2) B gt ht) pa_nil) (hs := he)) (he := he)) fun σ H Q ⟨S, Fs, δ, w, q⟩ => ⟨S, Fs, δ, w, (Aft.bind q).mono fun x S1 H1 F1 δ1 g1 w1 q1 v r1 => ?_⟩⟩
  unfold isaD at q1
  cases eb : isT t x with
  | none => rw [eb] at q1; exact q1.elim
  | some b =>
    rw [eb] at q1
    obtain ⟨n, e1, e2⟩ := kit_is (K := C.K) eb
    have ty := ty_is w1.le r1 e1
    rw [B.hK] at e2 ty
    exact ⟨v, .ty t.s, .type n, .type t.s, b, rfl, .ty t.s, ty, e2, q1.now w1 (.bl b) (by simp only [Rp])⟩
/-- isinstance(x, (list, tuple)) -/
theorem pd_isa2 {t u : Ty} {p1 p2 p3 p4 : Pos} {x1} (B : Bas X C W k N sc) (g : glC sc "isinstance" = true) (hm : C.mg "isinstance" = none) (gt : glC sc (tyN t) = true) (ht : C.mg (tyN t) = none) (gu : glC sc (tyN u) = true) (hu : C.mg (tyN u) = none) (ha : PD X C W ea fa)
    (he : starEach [ea, .Tuple [.Name (tyN t) p2, .Name (tyN u) p3] x1 p4] X.env = [(false, eval ea X.env), (false, eval (.Tuple [.Name (tyN t) p2, .Name (tyN u) p3] x1 p4) X.env)] := by rfl) :
    PD X C W (.Call (.Name "isinstance" p1) [ea, .Tuple [.Name (tyN t) p2, .Name (tyN u) p3] x1 p4] [] pos) (op1 (isasD [t, u]) fa) := by
  refine ⟨PE.imp (pe_callB (r := rIsiT X.K) call_isiT (B.gl g).1 (by rw [← B.hmg]; exact hm) (by decide +kernel) (pa_cons ha.pe (pa_cons (pe_tup (pa_cons (pe_ty (pos := p2) B gt ht) (pa_cons (pe_ty (pos := p3) B gu hu) pa_nil))) pa_nil) (hs := he)) (he := he))
    fun σ H Q ⟨S, Fs, δ, w, q⟩ => ⟨S, Fs, δ, w, (Aft.bind q).mono fun x S1 H1 F1 δ1 g1 w1 q1 v r1 => ?_⟩⟩
  unfold isasD at q1
  cases eb : isTs [t, u] x with
  | none => rw [eb] at q1; exact q1.elim
  | some b =>
    rw [eb] at q1
    refine ⟨by rw [sizeLine_eq]; show 2 ≤ 16777216; omega, fun a hp => ?_⟩
    obtain ⟨n, e1, e2⟩ := isTs_ok (K := C.K) eb
    have le : Le H1 (upd H1 a (.tup [.ty t.s, .ty u.s])) := Le.upd hp
    have ty := ty_is (w1.le.trans le) r1 e1
    rw [B.hK] at e2 ty
    exact ⟨v, a, _, .type n, _, b, rfl, upd_same, .cons (.ty t.s) (.cons (.ty u.s) .nil), ty, e2, q1.newly w1 (Le.refl _) le (fun _ z => .inl z) (w1.le.trans le) (.bl b) (by simp only [Rp])⟩
end
end FW

set_option Elab.async false
set_option linter.all false
set_option maxRecDepth 100000
set_option maxHeartbeats 2000000
/-! FwL: statements by names, calls by names, comprehensions. -/
namespace FW
open PySem PySem.Spec PyProof.Rows L2
/-! ### calls -/
/-- the def of that name keeps m at depth k -/
structure Cal (P : Program) (w : World) (K : PySem.W.Frag) (mg : Str → Option Value) (base : Heap) (C : Ct) (x : Str) (ps : List Str) (k : Nat) (m : Fm) : Prop where
  ex : ∃ f fd, mg x = some (.ref f) ∧ PySem.W.keepIn K (.ref f) = true ∧ Binds K fd ps [] ∧ FnG P w K mg base k f fd ps.length ps (spM C m)
  lm : (∀ os r as, m os = .ok r as → as.length = os.length) ∧ ∀ os x as, m os = .er x as → as.length = os.length
theorem FnG.mono {P : Program} {w : World} {K : PySem.W.Frag} {mg : Str → Option Value} {base : Heap} {j k n : Nat} {f : Addr} {fd : FuncData} {ps : List Str} {sp : Sp} (F : FnG P w K mg base j f fd n ps sp) (h : j ≤ k) : FnG P w K mg base k f fd n ps sp :=
  ⟨F.len, fun A outer s H us vs args Q E hr => F.run A outer s H us vs args Q E (hr.mono h)⟩
section
variable {X : Cx} {C : Ct} {W : WX} {fx : List Nat} {k j i : Nat} {N : List Str} {sc : Scope} {x : Str} {pos p : Pos} {e ea eb : Expr} {es : List Expr} {f fa fb : M D} {fo : M O} {ps : List Str} {m : Fm} {as : List Ar}
theorem kcall (B : Bas X C W k N sc) (c : Cal X.prog X.w X.K X.mg X.base C x ps j m) (hj : j ≤ k) (g : glC sc x = true) (ha : PAv X C W (e :: es) as) (he : starEach (e :: es) X.env = (false, eval e X.env) :: starEach es X.env := by rfl)
    (hpl : (backTo pos (starEach es X.env)).any (·.1) = false := by rfl) : PN X C W (.Call (.Name x p) (e :: es) [] pos) (callM m as) := by
  obtain ⟨f, fd, h1, h2, h3, h4⟩ := c.ex
  exact pn_call (h4.mono hj) c.lm B.room B.gu B.tk (B.gl g).1 h1 h2 h3 ha (B.gl g).2 he hpl
/-! ### statements -/
theorem gs_set (B : Bas X C W k N sc) (h : nsC N sc i x = true) (he : PD X C W e f) (hi : fx.contains i = false := by rfl) (hs : swapsWith e (some (.Name x p)) pos.line X.env = pure false := by rfl) : PG' X C W fx (.Assign [.Name x p] e pos) (sSet i (shM f)) := by
  simp only [nsC, Bool.and_eq_true, decide_eq_true_eq] at h
  exact pg_set (fun t ht => ps_set B.ndX (by rw [B.hN]; exact h.1) (B.loc h.2).1 ht hs (B.loc h.2).2) he hi
theorem gs_setO (B : Bas X C W k N sc) (h : nsC N sc i x = true) (he : PN X C W e fo) (hi : fx.contains i = false := by rfl) (hs : swapsWith e (some (.Name x p)) pos.line X.env = pure false := by rfl) : PG' X C W fx (.Assign [.Name x p] e pos) (sSet i fo) := by
  simp only [nsC, Bool.and_eq_true, decide_eq_true_eq] at h
  exact pg_setO (fun t ht => ps_set B.ndX (by rw [B.hN]; exact h.1) (B.loc h.2).1 ht hs (B.loc h.2).2) he hi
theorem gs_drop (he : PN X C W e fo) (hs : swapsWith e none pos.line X.env = pure false := by rfl) : PG' X C W fx (.Expr e pos) (sDrop fo) := pg_drop (fun t ht => ps_expr ht hs) he
theorem gs_asg {tg : Expr} {gg : TG} {t : Tg} {ix : List Nat} (he : PD X C W e f) (ht : PTg X C ix tg gg t) (hi : (fx.all fun i => !ix.contains i) = true := by rfl) (hs : swapsWithSole [tg] e pos.line X.env = pure false := by rfl) (hw : swappedStores [tg] e X.env = pure none := by rfl)
    (h1 : (assignEach [tg] X.env).map (·.2) = [assign tg X.env] := by rfl) : PG' X C W fx (.Assign [tg] e pos) (sAsg t f) :=
  pg_asg (fun t ht' => ps_asg ht' ht.pg hs hw h1) he ht hi
/-- a, b = target -/
theorem ktup {es : List Expr} {kk n : Nat} {gs : TGs} {ts : List Tg} {ix : List Nat} (B : Bas X C W k N sc) (h : PTgs X C ix es gs ts) (hn : es.length = n) (hl : ts.length = n := by rfl)
    (hst : (assignEach es X.env).map (·.1) = List.replicate n false := by rfl)
    (p : PG X (.Tuple es kk pos) (gTup X.K n gs)) : PTg X C ix (.Tuple es kk pos) (gTup X.K n gs) (tgTup ts) := ptg_tup h hl p B.hK
/-! ### blocks -/
theorem lookup_F {F : Str × NameKind → Str × NameKind} (hF : ∀ p, (F p).1 = p.1 ∧ ((F p).2 = p.2 ∨ (p.2 = .free ∧ (F p).2 = .cell))) : ∀ {names : List (Str × NameKind)} {x : Str} {kd : NameKind}, names.lookup x = some kd →
    (names.map F).lookup x = some kd ∨ (kd = .free ∧ (names.map F).lookup x = some .cell)
  | [], x, kd, h => by simp at h
  | (n, q) :: r, x, kd, h => by
    have key : ∀ (nn : Str) (kk : NameKind) (ms : List (Str × NameKind)), List.lookup x ((nn, kk) :: ms) = if (x == nn) = true then some kk else List.lookup x ms := fun nn kk ms => by
      rw [List.lookup_cons]
      cases (x == nn) <;> rfl
    rw [key] at h
    obtain ⟨h1, h2⟩ := hF (n, q)
    rw [List.map_cons, show F (n, q) = ((F (n, q)).1, (F (n, q)).2) from rfl, h1, key]
    by_cases e : (x == n) = true
    · rw [if_pos e] at h ⊢
      rcases h2 with z | ⟨z1, z2⟩
      · left; rw [z]; exact h
      · right
        exact ⟨by rw [← Option.some.inj h]; exact z1, by rw [z2]⟩
    · rw [if_neg e] at h ⊢
      exact lookup_F hF h
theorem lookup_rel {env : Env} {scope : Scope} {x : Str} {kd : NameKind} (h : scope.names.lookup x = some kd) : (relabel scope env).names.lookup x = some kd ∨ (kd = .free ∧ (relabel scope env).names.lookup x = some .cell) := by
  unfold relabel
  refine lookup_F (fun p => ?_) h
  obtain ⟨n, q⟩ := p
  dsimp only
  split
  · rename_i c
    simp only [Bool.and_eq_true] at c
    refine ⟨rfl, .inr ⟨?_, rfl⟩⟩
    have := c.1.1
    cases q <;> first | rfl | cases this
  · exact ⟨rfl, .inl rfl⟩
theorem takesF {X : Cx} : Takes X W0 := fun _ _ x => by
  obtain ⟨_, _, _, _, _, _, _, _, _, _, _, _, _, _, _, _, z⟩ := x
  exact z.elim
theorem Bas.blk {s : Shared} {H : Hp} {scope : Scope} {C' : Addr} {cl : List (Str × Addr)} {fp : List Addr} (B : Bas X C W k N sc) : Bas (X.blk s H scope (compEnvC scope cl C' X.env) fp) C W0 k N scope where
  calm := B.calm
  nd := B.nd
  hN := B.hN
  hK := B.hK
  hmg := B.hmg
  tk := takesF
  room := B.room
  gu := B.gu
  scp := fun x kd h => lookup_rel h
  fn := fun x h => by
    show (scope.names.lookup x == some .cell) = true
    rw [h]; rfl
theorem Bas.blkOk {scope : Scope} {own : List (Str × Nat)} (B : Bas X C W k N sc) (h : blkC N sc scope own = true) : BlkOk X.N X.env.scope scope own := by
  have b := blkOk_by h
  refine ⟨b.kind, b.uniq, fun p hp => by rw [B.hN]; exact b.ix p hp, fun y hy e => ?_, fun y hy e => by rw [B.hN]; exact b.own y hy e⟩
  rcases b.free y hy e with z | z
  · rcases B.scp _ _ z with q | ⟨q, _⟩
    · exact .inl q
    · cases q
  · rcases B.scp _ _ z with q | ⟨_, q⟩
    · exact .inr q
    · exact .inl q
structure PCs (X : Cx) (C : Ct) (W : WX) (ifs : List Expr) (t : M Bool) : Prop where
  pt : PTs X ifs (tT C W t)
theorem pcs_nil : PCs X C W [] (ret true) := ⟨⟨fun pins s σ H Q I ⟨S, Fs, δ, w, q⟩ => pts_nil.run pins s σ H Q I (q.now w)⟩⟩
theorem pcs_one {c : Expr} {t : M Bool} (h : PQ X C W c t) : PCs X C W [c] t := ⟨pts_one h.pt⟩
/-- what holds in every block of that scope -/
abbrev InB (X : Cx) (C : Ct) (W : WX) (k : Nat) (N : List Str) (scope : Scope) (R : Cx → Prop) : Prop :=
  ∀ (s : Shared) (H : Hp) (C' : Addr) (cl : List (Str × Addr)) (fp : List Addr), Bas (X.blk s H scope (compEnvC scope cl C' X.env) fp) C W0 k N scope → R (X.blk s H scope (compEnvC scope cl C' X.env) fp)
variable {elt tg iter : Expr} {ifs : List Expr} {scope : Scope} {own : List (Str × Nat)} {fi : M (List D)} {t : Tg} {tt : M Bool} {fe : M D} {ix : List Nat} {gg : TG}
theorem pd_lc (B : Bas X C W k N sc) (hi : PIt X C W tg iter fi) (ok : blkC N sc scope own = true) (ht : InB X C W k N scope fun Y => PTg Y C ix tg gg t) (hc : InB X C W k N scope fun Y => PCs Y C W0 ifs tt) (he : InB X C W k N scope fun Y => PD Y C W0 elt fe)
    (hx : (ix.all fun i => (own.map (·.2)).contains i) = true := by rfl) (hs : ∀ x, foldedSetIterable iter X.env x = pure x := by intro _; rfl) : PD X C W (.ListComp elt [⟨tg, iter, ifs, 0⟩] scope pos) (lstC (compM fi t tt fe (own.map (·.2)))) := by
  refine ⟨PE.imp (pe_lc B.calm B.ndX hi.pi (B.blkOk ok) (fun s H C' cl fp => (ht s H C' cl fp B.blk).pg) (fun s H C' cl fp => (hc s H C' cl fp B.blk).pt) (fun s H C' cl fp => (he s H C' cl fp B.blk).pe) hs) fun σ H Q q => ?_⟩
  exact comp_D (ht X.s_0 H (0 : Nat) [] [] B.blk).rd hx σ H Q q
theorem pn_lc (B : Bas X C W k N sc) (hi : PIt X C W tg iter fi) (ok : blkC N sc scope own = true) (ht : InB X C W k N scope fun Y => PTg Y C ix tg gg t) (hc : InB X C W k N scope fun Y => PCs Y C W0 ifs tt) (he : InB X C W k N scope fun Y => PD Y C W0 elt fe)
    (hx : (ix.all fun i => (own.map (·.2)).contains i) = true := by rfl) (hs : ∀ x, foldedSetIterable iter X.env x = pure x := by intro _; rfl) : PN X C W (.ListComp elt [⟨tg, iter, ifs, 0⟩] scope pos) (olC (compM fi t tt fe (own.map (·.2)))) := by
  refine ⟨PE.imp (pe_lc B.calm B.ndX hi.pi (B.blkOk ok) (fun s H C' cl fp => (ht s H C' cl fp B.blk).pg) (fun s H C' cl fp => (hc s H C' cl fp B.blk).pt) (fun s H C' cl fp => (he s H C' cl fp B.blk).pe) hs) fun σ H Q q => ?_⟩
  exact comp_O (ht X.s_0 H (0 : Nat) [] [] B.blk).rd hx σ H Q q
end
end FW

set_option Elab.async false
set_option linter.all false
set_option maxRecDepth 100000
set_option maxHeartbeats 2000000
/-! FwM: a thing of its own, read as a datum while an expression runs. -/
namespace FW
open PySem PySem.Spec PyProof.Rows L2
mutual
def frT : O → Option D
  | .sh d => some d
  | .ol os => match frTs os with
    | some ds => some (.lst ds)
    | none => none
  | _ => none
def frTs : List O → Option (List D)
  | [] => some []
  | o :: os => match frT o, frTs os with
    | some d, some ds => some (d :: ds)
    | _, _ => none
end
mutual
/-- no list within -/
def noL : D → Bool
  | .lst _ => false
  | .tup ds => noLs ds
  | _ => true
def noLs : List D → Bool
  | [] => true
  | d :: ds => noL d && noLs ds
end
mutual
def noLO : O → Bool
  | .no => true
  | .sh d => noL d
  | .fz _ => false
  | .ol os => noLOs os
  | .ob _ _ os => noLOs os
def noLOs : List O → Bool
  | [] => true
  | o :: os => noLO o && noLOs os
end
def plusF (S H : Hp) (F : List Addr) : Hp := fun a => if a ∈ F then H a else S a
def minF (S : Hp) (F : List Addr) : Hp := fun a => if a ∈ F then none else S a
section
variable {C : Ct} {S H : Hp}
theorem plus_sub {F F' : List Addr} (h : ∀ a ∈ F', a ∈ F) (n : ∀ a ∈ F, S a = none) : Le (plusF S H F') (plusF S H F) := fun a o e => by
  unfold plusF at e ⊢
  by_cases h1 : a ∈ F'
  · rw [if_pos h1] at e; rw [if_pos (h a h1)]; exact e
  · rw [if_neg h1] at e
    by_cases h2 : a ∈ F
    · rw [n a h2] at e; cases e
    · rw [if_neg h2]; exact e
theorem plus_le {F : List Addr} (n : ∀ a ∈ F, S a = none) : Le S (plusF S H F) := fun a o e => by
  unfold plusF
  by_cases h2 : a ∈ F
  · rw [n a h2] at e; cases e
  · rw [if_neg h2]; exact e
theorem plus_leH {F : List Addr} (le : Le S H) : Le (plusF S H F) H := fun a o e => by
  unfold plusF at e
  split at e
  · exact e
  · exact le a o e
mutual
theorem frT_rp : ∀ (o : O) (d : D) (v : V) (F : List Addr), RpO C S H o v F → frT o = some d → Rp C (plusF S H F) d v ∧ ∀ a ∈ F, ∃ vs, H a = some (.lst vs)
  | .no, d, v, F, h, e => by simp [frT] at e
  | .sh d', d, v, F, h, e => by
    simp only [frT, Option.some.injEq] at e
    subst e
    have fp := RpO.fp _ v F h
    simp only [RpO] at h
    exact ⟨h.1.mono (plus_le fun a ha => (fp a ha).1), fun a ha => by rw [h.2] at ha; cases ha⟩
  | .fz ds, d, v, F, h, e => by simp [frT] at e
  | .ob c ns os, d, v, F, h, e => by simp [frT] at e
  | .ol os, d, v, F, h, e => by
    have fp := RpO.fp _ v F h
    unfold frT at e
    cases es : frTs os with
    | none => rw [es] at e; cases e
    | some ds =>
      rw [es] at e
      cases e
      simp only [RpO] at h
      obtain ⟨l, vs, F', h1, h2, h3, h4, h5⟩ := h
      subst h2
      obtain ⟨r, q⟩ := frTs_rp os ds vs F' h5 es
      refine ⟨?_, fun a ha => ?_⟩
      · simp only [Rp]
        refine ⟨l, vs, h1, ?_, r.mono (plus_sub (fun a ha => List.mem_cons_of_mem _ ha) fun a ha => (fp a ha).1)⟩
        unfold plusF
        rw [if_pos List.mem_cons_self]
        exact h4
      · rcases List.mem_cons.mp ha with rfl | ha
        · exact ⟨vs, h4⟩
        · exact q a ha
theorem frTs_rp : ∀ (os : List O) (ds : List D) (vs : List V) (F : List Addr), RpOL C S H os vs F → frTs os = some ds → RpL C (plusF S H F) ds vs ∧ ∀ a ∈ F, ∃ us, H a = some (.lst us)
  | [], ds, vs, F, h, e => by
    simp only [frTs, Option.some.injEq] at e
    subst e
    simp only [RpOL] at h
    simp only [RpL]
    exact ⟨h.1, fun a ha => by rw [h.2] at ha; cases ha⟩
  | o :: os, ds, vs, F, h, e => by
    have fp := RpOL.fp _ vs F h
    unfold frTs at e
    cases e1 : frT o with
    | none => rw [e1] at e; cases e
    | some d =>
      cases e2 : frTs os with
      | none => rw [e1, e2] at e; cases e
      | some es =>
        rw [e1, e2] at e
        cases e
        simp only [RpOL] at h
        obtain ⟨v, r, F1, F2, h1, h2, h3, h4⟩ := h
        subst h2
        obtain ⟨r1, q1⟩ := frT_rp o d v F1 h3 e1
        obtain ⟨r2, q2⟩ := frTs_rp os es r F2 h4 e2
        refine ⟨?_, fun a ha => (List.mem_append.mp ha).elim (q1 a) (q2 a)⟩
        simp only [RpL]
        exact ⟨v, r, h1, r1.mono (plus_sub (fun a ha => List.mem_append_left _ ha) fun a ha => (fp a ha).1), r2.mono (plus_sub (fun a ha => List.mem_append_right _ ha) fun a ha => (fp a ha).1)⟩
end
mutual
theorem noL_min {F : List Addr} (hF : ∀ a ∈ F, ∃ vs, S a = some (.lst vs)) : ∀ (d : D) (v : V), noL d = true → Rp C S d v → Rp C (minF S F) d v
  | .non, v, _, h => by simpa only [Rp] using h
  | .bl b, v, _, h => by simpa only [Rp] using h
  | .int i, v, _, h => by simpa only [Rp] using h
  | .str x, v, _, h => by simpa only [Rp] using h
  | .gl x, v, _, h => by simpa only [Rp] using h
  | .lst ds, v, n, h => by simp [noL] at n
  | .clo n, v, _, h => by
    simp only [Rp] at h ⊢
    obtain ⟨a, c, h1, h2, h3⟩ := h
    refine ⟨a, c, h1, ?_, ?_⟩
    · unfold minF
      rw [if_neg fun z => by obtain ⟨vs, e⟩ := hF a z; rw [h2] at e; cases e]
      exact h2
    · unfold minF
      rw [if_neg fun z => by obtain ⟨vs, e⟩ := hF c z; rw [h3] at e; cases e]
      exact h3
  | .tup ds, v, n, h => by
    simp only [Rp] at h ⊢
    obtain ⟨a, vs, h1, h2, h3⟩ := h
    refine ⟨a, vs, h1, ?_, noLs_min hF ds vs (by simpa [noL] using n) h3⟩
    rcases h2 with (q | ⟨o, q⟩) | q
    · refine .inl (.inl ?_)
      unfold minF
      rw [if_neg fun z => by obtain ⟨us, e⟩ := hF a z; rw [q] at e; cases e]
      exact q
    · refine .inl (.inr ⟨o, ?_⟩)
      unfold minF
      rw [if_neg fun z => by obtain ⟨us, e⟩ := hF a z; rw [q] at e; cases e]
      exact q
    · exact .inr q
theorem noLs_min {F : List Addr} (hF : ∀ a ∈ F, ∃ vs, S a = some (.lst vs)) : ∀ (ds : List D) (vs : List V), noLs ds = true → RpL C S ds vs → RpL C (minF S F) ds vs
  | [], vs, _, h => by simpa only [RpL] using h
  | d :: ds, vs, n, h => by
    simp only [RpL] at h ⊢
    simp only [noLs, Bool.and_eq_true] at n
    obtain ⟨v, r, h1, h2, h3⟩ := h
    exact ⟨v, r, h1, noL_min hF d v n.1 h2, noLs_min hF ds r n.2 h3⟩
end
theorem min_sub {F : List Addr} {a : Addr} (h : S a = none) : minF S F a = none := by
  unfold minF
  split
  · rfl
  · exact h
mutual
theorem noLO_min {F : List Addr} (hF : ∀ a ∈ F, ∃ vs, S a = some (.lst vs)) : ∀ (o : O) (v : V) (G : List Addr), noLO o = true → RpO C S H o v G → RpO C (minF S F) H o v G
  | .no, v, G, _, h => by simpa only [RpO] using h
  | .sh d, v, G, n, h => by
    simp only [RpO] at h ⊢
    exact ⟨noL_min hF d v (by simpa [noLO] using n) h.1, h.2⟩
  | .fz ds, v, G, n, h => by simp [noLO] at n
  | .ol os, v, G, n, h => by
    simp only [RpO] at h ⊢
    obtain ⟨l, vs, F', h1, h2, h3, h4, h5⟩ := h
    exact ⟨l, vs, F', h1, h2, min_sub h3, h4, noLOs_min hF os vs F' (by simpa [noLO] using n) h5⟩
  | .ob c ns os, v, G, n, h => by
    simp only [RpO] at h ⊢
    obtain ⟨a, A, dx, fvs, F', h1, h2, h3, h4, h5, h6, h7, h8, h9⟩ := h
    exact ⟨a, A, dx, fvs, F', h1, h2, min_sub h3, min_sub h4, h5, h6, h7, h8, noLOs_min hF os _ F' (by simpa [noLO] using n) h9⟩
theorem noLOs_min {F : List Addr} (hF : ∀ a ∈ F, ∃ vs, S a = some (.lst vs)) : ∀ (os : List O) (vs : List V) (G : List Addr), noLOs os = true → RpOL C S H os vs G → RpOL C (minF S F) H os vs G
  | [], vs, G, _, h => by simpa only [RpOL] using h
  | o :: os, vs, G, n, h => by
    simp only [RpOL] at h ⊢
    simp only [noLOs, Bool.and_eq_true] at n
    obtain ⟨v, r, F1, F2, h1, h2, h3, h4⟩ := h
    exact ⟨v, r, F1, F2, h1, h2, noLO_min hF o v F1 n.1 h3, noLOs_min hF os r F2 n.2 h4⟩
end
end
/-! ### one slot read as a datum -/
def mg1 (keep : Bool) (o o' : O) : Option O := if keep then some o else match o with
  | .sh d => some (.sh d)
  | .fz d => some (.fz d)
  | _ => if noLO o' then some o' else none
def keptAt (δ : List O) (j : Nat) : Bool := match δ[j]? with
  | some (.sh _) => true
  | some (.fz _) => true
  | _ => false
def frzF (i : Nat) (δ : List O) (Fs F' : Nat → List Addr) : Nat → List Addr := fun j => if j = i then Fs i else if keptAt δ j then [] else F' j
def mergeO (i : Nat) : Nat → List O → List O → Option (List O)
  | n, o :: r, o' :: r' => match mg1 (n == i) o o', mergeO i (n + 1) r r' with
    | some a, some b => some (a :: b)
    | _, _ => none
  | _, [], [] => some []
  | _, _, _ => none
theorem merge_get {i : Nat} : ∀ {n : Nat} {δ δ' δn : List O}, mergeO i n δ δ' = some δn → δn.length = δ.length ∧ ∀ j o, δn[j]? = some o → ∃ a b, δ[j]? = some a ∧ δ'[j]? = some b ∧ mg1 (n + j == i) a b = some o
  | n, o :: r, o' :: r', δn, h => by
    unfold mergeO at h
    cases e1 : mg1 (n == i) o o' with
    | none => rw [e1] at h; cases h
    | some a =>
      cases e2 : mergeO i (n + 1) r r' with
      | none => rw [e1, e2] at h; cases h
      | some b =>
        rw [e1, e2] at h
        cases h
        obtain ⟨l, g⟩ := merge_get e2
        refine ⟨by simp [l], fun j o2 e => ?_⟩
        cases j with
        | zero => simp at e; subst e; exact ⟨o, o', rfl, rfl, e1⟩
        | succ j =>
          simp only [List.getElem?_cons_succ] at e ⊢
          obtain ⟨a', b', g1, g2, g3⟩ := g j o2 e
          exact ⟨a', b', g1, g2, by rw [show n + (j + 1) = n + 1 + j by omega]; exact g3⟩
  | n, [], [], δn, h => by
    simp only [mergeO, Option.some.injEq] at h
    subst h
    exact ⟨rfl, fun j o e => by simp at e⟩
  | n, [], _ :: _, δn, h => by simp [mergeO] at h
  | n, _ :: _, [], δn, h => by simp [mergeO] at h
/-- slot i is read as a datum while f runs -/
def frzM {α : Type} (chk : α → Bool) (i : Nat) (f : M α) : M α := fun δ => match δ[i]? with
  | some (.ol os) => match frT (.ol os) with
    | none => .bad
    | some d => match f (δ.set i (.sh d)) with
      | .ok a δ' => if chk a then match mergeO i 0 δ δ' with
          | some δn => .ok a δn
          | none => .bad
        else .bad
      | .er x δ' => if noLs x.xs then match mergeO i 0 δ δ' with
          | some δn => .er x δn
          | none => .bad
        else .bad
      | .bad => .bad
  | _ => .bad
section
variable {C : Ct} {W : WX} {σ : L2.St} {S H S' H' : Hp} {Fs F' : Nat → List Addr} {δ δ' δn : List O} {α : Type}
/-- the world back -/
theorem unfreeze {i : Nat} {os : List O} {d : D} (w : Wd C S H Fs σ δ) (hi : δ[i]? = some (.ol os)) (hd : frT (.ol os) = some d) (g : Grow (plusF S H (Fs i)) H (fun j => if j = i then [] else Fs j) S' H' F') (w' : Wd C S' H' F' σ δ') (hm : mergeO i 0 δ δ' = some δn) :
    (∀ a ∈ Fs i, ∃ vs, S' a = some (.lst vs) ∧ H a = some (.lst vs)) ∧ Grow S H Fs (minF S' (Fs i)) H' (frzF i δ Fs F') ∧ Wd C (minF S' (Fs i)) H' (frzF i δ Fs F') σ δn := by
  obtain ⟨v, ev, r⟩ := w.sl i _ hi (by simp)
  obtain ⟨rp, allL⟩ := frT_rp _ d v _ r hd
  have fp := RpO.fp _ v _ r
  have inS' : ∀ a ∈ Fs i, S' a = H a ∧ ∃ vs, S' a = some (.lst vs) := fun a ha => by
    obtain ⟨vs, e⟩ := allL a ha
    have e1 : plusF S H (Fs i) a = some (.lst vs) := by unfold plusF; rw [if_pos ha]; exact e
    have e2 := g.ls a _ e1
    exact ⟨by rw [e2, e], vs, e2⟩
  have hF : ∀ a ∈ Fs i, ∃ vs, S' a = some (.lst vs) := fun a ha => (inS' a ha).2
  have hF2 : ∀ a ∈ Fs i, ∃ vs, S' a = some (.lst vs) ∧ H a = some (.lst vs) := fun a ha => by
    obtain ⟨e, vs, e2⟩ := inS' a ha
    exact ⟨vs, e2, by rw [← e]; exact e2⟩
  have lS : Le S (minF S' (Fs i)) := fun a o e => by
    have hn : a ∉ Fs i := fun z => by rw [(fp a z).1] at e; cases e
    unfold minF
    rw [if_neg hn]
    exact g.ls a o (plus_le (fun a ha => (fp a ha).1) a o e)
  have out : ∀ {a : Addr} {j : Nat}, a ∈ (fun j => if j = i then [] else Fs j) j → a ∈ Fs j := fun {a j} z => by
    dsimp only at z
    split at z
    · cases z
    · exact z
  -- a place of the new footprints
  have inF : ∀ {a : Addr} {j : Nat}, a ∈ frzF i δ Fs F' j → (j = i ∧ a ∈ Fs i) ∨ (j ≠ i ∧ keptAt δ j = false ∧ a ∈ F' j) := fun {a j} z => by
    unfold frzF at z
    split at z
    · rename_i e; exact .inl ⟨e, z⟩
    · rename_i e
      split at z
      · cases z
      · rename_i e2; exact .inr ⟨e, by simpa using e2, z⟩
  obtain ⟨ml, mget⟩ := merge_get hm
  refine ⟨hF2, ⟨lS, fun a o e n t => g.kp a o e (fun j z => n j (out z)) t, g.th, fun a z => ?_, fun a ps e n => g.tk a ps e fun j z => n j (out z), fun j a ha => ?_⟩, ⟨fun a o e => ?_, by rw [ml, w.len], fun j o e ne => ?_, fun j k a h1 h2 => ?_, fun j => ?_, fun j a ha => ?_, ⟨w'.tb.t, fun p hp => min_sub (w'.tb.n p hp)⟩⟩⟩
  · unfold minF at z
    split at z
    · exact absurd rfl z
    · rename_i hn
      rcases g.ns a z with q | q | ⟨j, q⟩
      · unfold plusF at q; rw [if_neg hn] at q; exact .inl q
      · exact .inr (.inl q)
      · exact .inr (.inr ⟨j, out q⟩)
  · rcases inF ha with ⟨_, q⟩ | ⟨_, _, q⟩
    · exact .inr ⟨i, q⟩
    · rcases g.nf j a q with q | ⟨j', q⟩
      · exact .inl q
      · exact .inr ⟨j', out q⟩
  · unfold minF at e
    split at e
    · cases e
    · exact w'.le a o e
  · obtain ⟨a, b, g1, g2, g3⟩ := mget j o e
    rw [Nat.zero_add] at g3
    by_cases hj : j = i
    · subst hj
      simp only [mg1, beq_self_eq_true, if_true, Option.some.injEq] at g3
      subst g3
      rw [hi] at g1
      cases g1
      refine ⟨v, ev, ?_⟩
      simp only [frzF, if_true]
      refine RpO.mono lS _ v _ (fun a ha _ _ _ => ⟨?_, ?_⟩) r
      · unfold minF; rw [if_pos ha]
      · obtain ⟨e1, vs, e2⟩ := inS' a ha
        rw [w'.le a _ e2, ← e1, e2]
    · have hji : (j == i) = false := by simpa using hj
      simp only [mg1, hji, Bool.false_eq_true, if_false] at g3
      have other : ∀ o, keptAt δ j = false → noLO b = true → some b = some o → o ≠ .no → ∃ v, σ[j]? = some (some v) ∧ RpO C (minF S' (Fs i)) H' o v (frzF i δ Fs F' j) := fun o kk n e ne => by
        cases e
        obtain ⟨v2, e2, r2⟩ := w'.sl j b g2 ne
        refine ⟨v2, e2, ?_⟩
        unfold frzF
        rw [if_neg hj, kk]
        exact noLO_min hF b v2 _ n r2
      cases a with
      | sh dd =>
        simp only [Option.some.injEq] at g3
        subst g3
        obtain ⟨v2, e2, r2⟩ := w.sl j _ g1 (by simp)
        refine ⟨v2, e2, ?_⟩
        simp only [RpO] at r2 ⊢
        refine ⟨r2.1.mono lS, ?_⟩
        unfold frzF keptAt
        rw [if_neg hj, g1]
        rfl
      | fz dd =>
        simp only [Option.some.injEq] at g3
        subst g3
        obtain ⟨v2, e2, r2⟩ := w.sl j _ g1 (by simp)
        refine ⟨v2, e2, ?_⟩
        simp only [RpO] at r2 ⊢
        obtain ⟨⟨l, vs, q1, q2, q3⟩, q4⟩ := r2
        refine ⟨⟨l, vs, q1, lS.l q2, q3.mono lS⟩, ?_⟩
        unfold frzF keptAt
        rw [if_neg hj, g1]
        rfl
      | _ =>
        dsimp only at g3
        split at g3
        · rename_i n
          exact other o (by unfold keptAt; rw [g1]) n g3 ne
        · cases g3
  · rcases inF h1 with ⟨e1, q1⟩ | ⟨e1, _, q1⟩ <;> rcases inF h2 with ⟨e2, q2⟩ | ⟨e2, _, q2⟩
    · rw [e1, e2]
    · obtain ⟨vs, e⟩ := hF a q1
      rw [(w'.ns k a q2).1] at e; cases e
    · obtain ⟨vs, e⟩ := hF a q2
      rw [(w'.ns j a q1).1] at e; cases e
    · exact w'.dj j k a q1 q2
  · unfold frzF
    split
    · exact w.nd i
    · split
      · exact List.nodup_nil
      · exact w'.nd j
  · rcases inF ha with ⟨_, q⟩ | ⟨_, _, q⟩
    · refine ⟨by unfold minF; rw [if_pos q], ?_⟩
      obtain ⟨vs, e⟩ := hF a q
      have := w'.le a _ e
      exact ⟨by rw [this]; simp, fun φ => by rw [this]; simp⟩
    · have := w'.ns j a q
      exact ⟨min_sub this.1, this.2⟩
/-- .. into it -/
theorem freeze {i : Nat} {os : List O} {d : D} (w : Wd C S H Fs σ δ) (hi : δ[i]? = some (.ol os)) (hd : frT (.ol os) = some d) : Wd C (plusF S H (Fs i)) H (fun j => if j = i then [] else Fs j) σ (δ.set i (.sh d)) := by
  obtain ⟨v, ev, r⟩ := w.sl i _ hi (by simp)
  obtain ⟨rp, allL⟩ := frT_rp _ d v _ r hd
  have fp := RpO.fp _ v _ r
  have lS : Le S (plusF S H (Fs i)) := plus_le fun a ha => (fp a ha).1
  have hlt := (List.getElem?_eq_some_iff.mp hi).1
  refine ⟨plus_leH w.le, by simp [w.len], fun j o e ne => ?_, fun j k a h1 h2 => ?_, fun j => ?_, fun j a ha => ?_, ⟨w.tb.t, fun p hp => by
    unfold plusF
    rw [if_neg fun z => by obtain ⟨ps, e⟩ := w.tb.at hp; obtain ⟨vs, e2⟩ := allL _ z; rw [e] at e2; cases e2]
    exact w.tb.n p hp⟩⟩
  · by_cases hj : j = i
    · subst hj
      rw [List.getElem?_set_self hlt] at e
      cases e
      refine ⟨v, ev, ?_⟩
      simp only [RpO, if_true]
      exact ⟨rp, trivial⟩
    · rw [List.getElem?_set_ne (Ne.symm hj)] at e
      obtain ⟨v2, e2, r2⟩ := w.sl j o e ne
      refine ⟨v2, e2, ?_⟩
      simp only [hj, if_false]
      refine RpO.mono lS _ v2 _ (fun a ha h1 _ _ => ⟨?_, rfl⟩) r2
      unfold plusF
      rw [if_neg fun z => hj (w.dj j i a ha z)]
      exact h1
  · split at h1
    · cases h1
    · split at h2
      · cases h2
      · exact w.dj j k a h1 h2
  · split
    · exact List.nodup_nil
    · exact w.nd j
  · split at ha
    · cases ha
    · rename_i hj
      have := w.ns j a ha
      refine ⟨?_, this.2⟩
      unfold plusF
      rw [if_neg fun z => hj (w.dj j i a ha z)]
      exact this.1
/-- the expression runs in the frozen world -/
theorem frz_aft {i : Nat} {chk : α → Bool} {f : M α} {k k' : α → Hp → Hp → (Nat → List Addr) → List O → Prop} (w : Wd C S H Fs σ δ) (q : Aft C W σ S H Fs (frzM chk i f δ) k)
    (h : ∀ a S' H' F' δ' δn, chk a = true → Wd C S' H' F' σ δ' → (∀ a ∈ Fs i, ∃ vs, S' a = some (.lst vs) ∧ H a = some (.lst vs)) → Grow S H Fs (minF S' (Fs i)) H' (frzF i δ Fs F') → Wd C (minF S' (Fs i)) H' (frzF i δ Fs F') σ δn → k a (minF S' (Fs i)) H' (frzF i δ Fs F') δn → k' a S' H' F' δ') :
    ∃ S1 F1 δ1, Wd C S1 H F1 σ δ1 ∧ Aft C W σ S1 H F1 (f δ1) k' := by
  unfold frzM at q
  cases hi : δ[i]? with
  | none => rw [hi] at q; exact q.elim
  | some o =>
    rw [hi] at q
    cases o with
    | ol os =>
      dsimp only at q
      cases hd : frT (.ol os) with
      | none => rw [hd] at q; exact q.elim
      | some d =>
        rw [hd] at q
        dsimp only at q
        refine ⟨_, _, _, freeze w hi hd, ?_⟩
        cases ef : f (δ.set i (.sh d)) with
        | bad => rw [ef] at q; exact q
        | ok a δ' =>
          rw [ef] at q
          dsimp only at q
          split at q
          · rename_i hc
            cases em : mergeO i 0 δ δ' with
            | none => rw [em] at q; exact q.elim
            | some δn =>
              rw [em] at q
              intro S' H' F' g w'
              obtain ⟨u1, u2, u3⟩ := unfreeze w hi hd g w' em
              exact h a S' H' F' δ' δn hc w' u1 u2 u3 (q _ _ _ u2 u3)
          · exact q.elim
        | er x δ' =>
          rw [ef] at q
          dsimp only at q
          split at q
          · rename_i hc
            cases em : mergeO i 0 δ δ' with
            | none => rw [em] at q; exact q.elim
            | some δn =>
              rw [em] at q
              intro cls dd S' H' F' g w' xr
              obtain ⟨u1, u2, u3⟩ := unfreeze w hi hd g w' em
              refine q cls dd _ _ _ u2 u3 ?_
              obtain ⟨A, x1, x2, x3⟩ := xr
              refine ⟨A, x1, x2, x3.imp id fun ⟨dx, fs, y1, y2, y3, y4⟩ => ⟨dx, fs, y1, y2, y3, noLs_min (fun a ha => (u1 a ha).imp fun _ z => z.1) _ _ hc y4⟩⟩
          · exact q.elim
    | _ => exact q.elim
variable {X : Cx} {e : Expr} {i : Nat}
theorem frzD_read {f : M D} {i : Nat} (σ : L2.St) (H : Hp) (Q : VK) (q : tD C W (frzM noL i f) σ H Q) : tD C W f σ H Q := by
  obtain ⟨S, Fs, δ, w, q⟩ := q
  obtain ⟨S1, F1, δ1, w1, q1⟩ := frz_aft w q (k' := fun d S' H' _ _ => ∀ v, Rp C S' d v → Q v H') fun d S' H' F' δ' δn hc w' hF g wn hk v r => hk v (noL_min (fun a ha => (hF a ha).imp fun _ z => z.1) d v hc r)
  exact ⟨S1, F1, δ1, w1, q1⟩
theorem frzF_sub {δ : List O} {Fs F' : Nat → List Addr} {S' : Hp} {i : Nat} {F : List Addr} (hF : ∀ a ∈ Fs i, ∃ vs, S' a = some (.lst vs)) (hS : ∀ a ∈ F, S' a = none) (d : ∀ a ∈ F, ∀ j, a ∉ F' j) : ∀ a ∈ F, ∀ j, a ∉ frzF i δ Fs F' j := fun a ha j z => by
  unfold frzF at z
  split at z
  · obtain ⟨vs, e⟩ := hF a z
    rw [hS a ha] at e; cases e
  · split at z
    · cases z
    · exact d a ha j z
theorem frzO_read {f : M O} {i : Nat} (σ : L2.St) (H : Hp) (Q : VK) (q : tO C W (frzM noLO i f) σ H Q) : tO C W f σ H Q := by
  obtain ⟨S, Fs, δ, w, q⟩ := q
  have key : ∃ S1 F1 δ1, Wd C S1 H F1 σ δ1 ∧ (∀ j a, a ∈ F1 j → a ∈ Fs j) ∧ Aft C W σ S1 H F1 (f δ1) (fun o S' H' F' _ => ∀ v F, RpO C S' H' o v F → F.Nodup → (∀ a ∈ F, ∀ i, a ∉ F' i) → (∀ a ∈ F, H a = none ∨ ∃ j, a ∈ Fs j) → Q v H') := by
    unfold frzM at q
    cases hi : δ[i]? with
    | none => rw [hi] at q; exact q.elim
    | some o =>
      rw [hi] at q
      cases o with
      | ol os =>
        dsimp only at q
        cases hd : frT (.ol os) with
        | none => rw [hd] at q; exact q.elim
        | some d =>
          rw [hd] at q
          dsimp only at q
          refine ⟨_, _, _, freeze w hi hd, fun j a ha => ?_, ?_⟩
          · split at ha
            · cases ha
            · exact ha
          cases ef : f (δ.set i (.sh d)) with
          | bad => rw [ef] at q; exact q
          | ok a δ' =>
            rw [ef] at q
            dsimp only at q
            split at q
            · rename_i hc
              cases em : mergeO i 0 δ δ' with
              | none => rw [em] at q; exact q.elim
              | some δn =>
                rw [em] at q
                intro S' H' F' g w' v F r nd dF fr
                obtain ⟨u1, u2, u3⟩ := unfreeze w hi hd g w' em
                exact q _ _ _ u2 u3 v F (noLO_min (fun a ha => (u1 a ha).imp fun _ z => z.1) a v F hc r) nd (frzF_sub (fun a ha => (u1 a ha).imp fun _ z => z.1) (fun b hb => (RpO.fp a v F r b hb).1) dF) fr
            · exact q.elim
          | er x δ' =>
            rw [ef] at q
            dsimp only at q
            split at q
            · rename_i hc
              cases em : mergeO i 0 δ δ' with
              | none => rw [em] at q; exact q.elim
              | some δn =>
                rw [em] at q
                intro cls dd S' H' F' g w' xr
                obtain ⟨u1, u2, u3⟩ := unfreeze w hi hd g w' em
                refine q cls dd _ _ _ u2 u3 ?_
                obtain ⟨A, x1, x2, x3⟩ := xr
                refine ⟨A, x1, x2, x3.imp id fun ⟨dx, fs, y1, y2, y3, y4⟩ => ⟨dx, fs, y1, y2, y3, noLs_min (fun a ha => (u1 a ha).imp fun _ z => z.1) _ _ hc y4⟩⟩
            · exact q.elim
      | _ => exact q.elim
  obtain ⟨S1, F1, δ1, w1, sub, q1⟩ := key
  exact ⟨S1, F1, δ1, w1, q1.mono fun o S' H' F' δ' g w' hk v F r nd dF fr => hk v F r nd dF fun a ha => (fr a ha).imp id fun ⟨j, z⟩ => ⟨j, sub j a z⟩⟩
theorem pd_frz {f : M D} (h : PD X C W e f) : PD X C W e (frzM noL i f) := ⟨PE.imp h.pe fun σ H Q q => frzD_read σ H Q q⟩
theorem pn_frz {f : M O} (h : PN X C W e f) : PN X C W e (frzM noLO i f) := ⟨PE.imp h.pe fun σ H Q q => frzO_read σ H Q q⟩
theorem pq_frz {f : M Bool} (h : PQ X C W e f) : PQ X C W e (frzM (fun _ => true) i f) := by
  refine ⟨PT.imp h.pt fun σ H Q ⟨S, Fs, δ, w, q⟩ => ?_⟩
  obtain ⟨S1, F1, δ1, w1, q1⟩ := frz_aft w q (k' := fun d S' H' _ _ => Q d H') fun d S' H' F' δ' δn hc w' hF g wn hk => hk
  exact ⟨S1, F1, δ1, w1, q1⟩
end
end FW

set_option Elab.async false
set_option linter.all false
set_option maxRecDepth 100000
set_option maxHeartbeats 2000000
/-! FwO: lists of their own are changed. -/
namespace FW
open PySem PySem.Spec PyProof.Rows L2
section
variable {C : Ct} {S H : Hp}
theorem RpOL.app {os1 os2 : List O} {vs1 vs2 : List V} {F1 F2 : List Addr} (h1 : RpOL C S H os1 vs1 F1) (h2 : RpOL C S H os2 vs2 F2) : RpOL C S H (os1 ++ os2) (vs1 ++ vs2) (F1 ++ F2) := by
  induction os1 generalizing vs1 F1 with
  | nil => simp only [RpOL] at h1; rw [h1.1, h1.2]; exact h2
  | cons o os ih =>
    simp only [RpOL, List.cons_append] at h1 ⊢
    obtain ⟨v, r, G1, G2, e1, e2, e3, e4⟩ := h1
    subst e1; subst e2
    exact ⟨v, r ++ vs2, G1, G2 ++ F2, rfl, by rw [List.append_assoc], e3, ih e4⟩
theorem RpOL.inv {os1 os2 : List O} {vs : List V} {F : List Addr} (h : RpOL C S H (os1 ++ os2) vs F) : ∃ vs1 vs2 F1 F2, vs = vs1 ++ vs2 ∧ F = F1 ++ F2 ∧ vs1.length = os1.length ∧ RpOL C S H os1 vs1 F1 ∧ RpOL C S H os2 vs2 F2 := by
  induction os1 generalizing vs F with
  | nil => exact ⟨[], vs, [], F, rfl, rfl, rfl, by simp only [RpOL]; exact ⟨trivial, trivial⟩, h⟩
  | cons o os ih =>
    simp only [RpOL, List.cons_append] at h
    obtain ⟨v, r, G1, G2, e1, e2, e3, e4⟩ := h
    obtain ⟨vs1, vs2, F1, F2, q1, q2, q3, q4, q5⟩ := ih e4
    subst e1; subst e2; subst q1; subst q2
    refine ⟨v :: vs1, vs2, G1 ++ F1, F2, rfl, by rw [List.append_assoc], by simp [q3], ?_, q5⟩
    simp only [RpOL]
    exact ⟨v, vs1, G1, F1, rfl, rfl, e3, q4⟩
theorem RpOL.length : ∀ {os : List O} {vs : List V} {F : List Addr}, RpOL C S H os vs F → vs.length = os.length
  | [], vs, F, h => by simp only [RpOL] at h; rw [h.1]; rfl
  | o :: os, vs, F, h => by
    simp only [RpOL] at h
    obtain ⟨v, r, G1, G2, e1, e2, e3, e4⟩ := h
    rw [e1, List.length_cons, List.length_cons, RpOL.length e4]
theorem RpOL.one {d : D} {v : V} (h : Rp C S d v) : RpOL C S H [.sh d] [v] [] := by
  simp only [RpOL, RpO]
  exact ⟨v, [], [], [], rfl, rfl, ⟨h, rfl⟩, rfl, rfl⟩
theorem RpOL.snoc {os : List O} {vs : List V} {F : List Addr} {d : D} {v : V} (h : RpOL C S H os vs F) (r : Rp C S d v) : RpOL C S H (os ++ [.sh d]) (vs ++ [v]) F := by
  have := h.app (RpOL.one (H := H) r)
  rwa [List.append_nil] at this
/-- the k-th one -/
theorem RpOL.at {os : List O} {vs : List V} {F : List Addr} {k : Nat} {o : O} (h : RpOL C S H os vs F) (e : os[k]? = some o) :
    ∃ v vs1 vs2 F1 F2 F3, vs = vs1 ++ v :: vs2 ∧ F = F1 ++ (F2 ++ F3) ∧ vs1.length = k ∧ RpOL C S H (os.take k) vs1 F1 ∧ RpO C S H o v F2 ∧ RpOL C S H (os.drop (k + 1)) vs2 F3 := by
  have hk := (List.getElem?_eq_some_iff.mp e).1
  have hd : os.drop k = o :: os.drop (k + 1) := by
    rw [List.drop_eq_getElem_cons hk]
    rw [List.getElem?_eq_getElem hk] at e
    cases e; rfl
  rw [← List.take_append_drop k os, hd] at h
  obtain ⟨vs1, vs2, F1, F2, q1, q2, q3, q4, q5⟩ := h.inv
  simp only [RpOL] at q5
  obtain ⟨v, r, G1, G2, e1, e2, e3, e4⟩ := q5
  refine ⟨v, vs1, r, F1, G1, G2, by rw [q1, e1], by rw [q2, e2], ?_, q4, e3, e4⟩
  rw [q3, List.length_take]
  omega
theorem RpOL.erase {os : List O} {vs : List V} {F : List Addr} {k : Nat} {d : D} (h : RpOL C S H os vs F) (e : os[k]? = some (.sh d)) : ∃ v, vs[k]? = some v ∧ Rp C S d v ∧ RpOL C S H (os.eraseIdx k) (vs.eraseIdx k) F := by
  obtain ⟨v, vs1, vs2, F1, F2, F3, q1, q2, q3, q4, q5, q6⟩ := h.at e
  simp only [RpO] at q5
  refine ⟨v, by rw [q1, List.getElem?_append_right (by omega), q3]; simp, q5.1, ?_⟩
  rw [List.eraseIdx_eq_take_drop_succ, q1, q2, q5.2, ← q3, List.eraseIdx_append_of_length_le (Nat.le_refl _), Nat.sub_self, List.eraseIdx_cons_zero, List.nil_append, q3]
  exact q4.app q6
theorem RpOL.put {os : List O} {vs : List V} {F : List Addr} {k : Nat} {d d' : D} {v : V} (h : RpOL C S H os vs F) (e : os[k]? = some (.sh d)) (r : Rp C S d' v) : RpOL C S H (os.set k (.sh d')) (vs.set k v) F := by
  have hk := (List.getElem?_eq_some_iff.mp e).1
  obtain ⟨u, vs1, vs2, F1, F2, F3, q1, q2, q3, q4, q5, q6⟩ := h.at e
  simp only [RpO] at q5
  rw [List.set_eq_take_append_cons_drop, if_pos hk, q1, q2, q5.2, List.nil_append, List.set_append_right _ _ (by omega), q3, Nat.sub_self, List.set_cons_zero]
  refine q4.app ?_
  simp only [RpOL, RpO]
  exact ⟨v, vs2, [], F3, rfl, rfl, ⟨r, rfl⟩, q6⟩
theorem RpOL.ins {os : List O} {vs : List V} {F : List Addr} {k : Nat} {d : D} {v : V} (h : RpOL C S H os vs F) (r : Rp C S d v) : RpOL C S H (os.take k ++ [.sh d] ++ os.drop k) (vs.take k ++ [v] ++ vs.drop k) F := by
  have h2 := h
  rw [← List.take_append_drop k os] at h2
  obtain ⟨vs1, vs2, F1, F2, q1, q2, q3, q4, q5⟩ := h2.inv
  have hl := RpOL.length h
  have e1 : vs.take k = vs1 := by
    rw [q1]
    rw [List.length_take] at q3
    have hlv := congrArg List.length q1
    rw [List.length_append] at hlv
    by_cases hk : k ≤ os.length
    · rw [List.take_append_of_le_length (by omega), List.take_of_length_le (by omega)]
    · have : vs2.length = 0 := by omega
      rw [List.length_eq_zero_iff.mp this, List.append_nil, List.take_of_length_le (by omega)]
  have e2 : vs.drop k = vs2 := by
    have := List.take_append_drop k vs
    rw [e1, q1] at this
    rw [q1]
    exact List.append_cancel_left this
  rw [e1, e2, q2]
  exact (q4.snoc r).app q5
end
section
variable {C : Ct} {W : WX} {S H : Hp} {Fs : Nat → List Addr} {σ : L2.St} {δ : List O}
/-- one list within the slot's tree is written -/
theorem Wd.wr {i : Nat} {l : Addr} {vs vs' : List V} {o' : O} {v : V} (w : Wd C S H Fs σ δ) (hi : i < δ.length) (hs : σ[i]? = some (some v)) (hl : l ∈ Fs i) (hH : H l = some (.lst vs)) (r : RpO C S (upd H l (.lst vs')) o' v (Fs i)) :
    Wd C S (upd H l (.lst vs')) Fs σ (δ.set i o') ∧ Grow S H Fs S (upd H l (.lst vs')) Fs := by
  have hS := (w.ns i l hl).1
  have ne : ∀ {a o}, S a = some o → a ≠ l := fun {a o} e z => by rw [z, hS] at e; cases e
  refine ⟨⟨fun a o e => by rw [upd_ne (ne e)]; exact w.le a o e, by simp [w.len], fun j o e no => ?_, w.dj, w.nd, fun j a ha => ?_, tabs_mut w.tb hH⟩, ⟨Le.refl S, fun a o e n t => ?_, fun a e => ?_, fun a e => .inl e, fun a ps e n => ?_, fun j a ha => .inr ⟨j, ha⟩⟩⟩
  · by_cases hj : j = i
    · subst hj
      rw [List.getElem?_set_self hi] at e
      cases e
      exact ⟨v, hs, r⟩
    · rw [List.getElem?_set_ne (Ne.symm hj)] at e
      obtain ⟨u, e1, r1⟩ := w.sl j o e no
      refine ⟨u, e1, RpO.mono (Le.refl S) o u _ (fun a ha h1 _ _ => ⟨h1, upd_ne fun z => ?_⟩) r1⟩
      rw [z] at ha
      exact hj (w.dj j i l ha hl)
  · obtain ⟨q1, q2, q3⟩ := w.ns j a ha
    by_cases hal : a = l
    · subst hal
      exact ⟨q1, by rw [upd_same]; simp, fun φ => by rw [upd_same]; simp⟩
    · exact ⟨q1, by rw [upd_ne hal]; exact q2, fun φ => by rw [upd_ne hal]; exact q3 φ⟩
  · rw [upd_ne fun z => n i (by rw [z]; exact hl)]; exact e
  · by_cases hal : a = l
    · subst hal; rw [upd_same]; simp
    · rw [upd_ne hal]; exact e
  · rw [upd_ne fun z => by rw [z, hH] at e; cases e]; exact ⟨ps, e⟩
theorem Wd.upl {i : Nat} {ys : List O} (w : Wd C S H Fs σ δ) (hi : δ[i]? = some (.ol ys)) : ∃ l vs F', σ[i]? = some (some (.ref l)) ∧ H l = some (.lst vs) ∧ RpOL C S H ys vs F' ∧
    ∀ ys' vs', RpOL C S H ys' vs' F' → Wd C S (upd H l (.lst vs')) Fs σ (δ.set i (.ol ys')) ∧ Grow S H Fs S (upd H l (.lst vs')) Fs := by
  obtain ⟨v, ev, r⟩ := w.sl i _ hi (by simp)
  simp only [RpO] at r
  obtain ⟨l, vs, F', h1, h2, h3, h4, h5⟩ := r
  subst h1
  have nd := w.nd i
  rw [h2] at nd
  have nl : l ∉ F' := (List.nodup_cons.mp nd).1
  refine ⟨l, vs, F', ev, h4, h5, fun ys' vs' h => w.wr (List.getElem?_eq_some_iff.mp hi).1 ev (by rw [h2]; exact List.mem_cons_self) h4 ?_⟩
  simp only [RpO]
  exact ⟨l, vs', F', rfl, h2, h3, upd_same, RpOL.mono (Le.refl S) ys' vs' F' (fun a ha h1 _ _ => ⟨h1, upd_ne fun z => nl (by rw [← z]; exact ha)⟩) h⟩
/-- the n-th list within a list -/
theorem Wd.upl2 {i n : Nat} {ys zs : List O} (w : Wd C S H Fs σ δ) (hi : δ[i]? = some (.ol ys)) (hn : ys[n]? = some (.ol zs)) : ∃ l vs l2 us F2, σ[i]? = some (some (.ref l)) ∧ H l = some (.lst vs) ∧ vs[n]? = some (.ref l2) ∧ H l2 = some (.lst us) ∧ RpOL C S H zs us F2 ∧
    ∀ zs' us', RpOL C S H zs' us' F2 → Wd C S (upd H l2 (.lst us')) Fs σ (δ.set i (.ol (ys.set n (.ol zs')))) ∧ Grow S H Fs S (upd H l2 (.lst us')) Fs := by
  obtain ⟨v, ev, r⟩ := w.sl i _ hi (by simp)
  simp only [RpO] at r
  obtain ⟨l, vs, F', h1, h2, h3, h4, h5⟩ := r
  subst h1
  have nd := w.nd i
  rw [h2] at nd
  obtain ⟨nl, nd'⟩ := List.nodup_cons.mp nd
  obtain ⟨v2, vs1, vs2, F1, F2, F3, q1, q2, q3, q4, q5, q6⟩ := h5.at hn
  simp only [RpO] at q5
  obtain ⟨l2, us, G, p1, p2, p3, p4, p5⟩ := q5
  subst p1
  have hnlt := (List.getElem?_eq_some_iff.mp hn).1
  have n1 : l2 ∉ F1 := fun z => by
    rw [q2, p2] at nd'
    exact (List.nodup_append.mp nd').2.2 l2 z l2 (by simp) rfl
  have nd2 : (l2 :: G ++ F3).Nodup := by
    rw [q2, p2] at nd'
    exact (List.nodup_append.mp nd').2.1
  have nG : l2 ∉ G ∧ l2 ∉ F3 := by
    have := (List.nodup_cons.mp nd2).1
    exact ⟨fun z => this (List.mem_append_left _ z), fun z => this (List.mem_append_right _ z)⟩
  have l2F : l2 ∈ F' := by rw [q2, p2]; simp
  have nel : l ≠ l2 := fun z => nl (by rw [z]; exact l2F)
  refine ⟨l, vs, l2, us, G, ev, h4, by rw [q1, List.getElem?_append_right (by omega), q3]; simp, p4, p5, fun zs' us' h => w.wr (List.getElem?_eq_some_iff.mp hi).1 ev (by rw [h2]; exact List.mem_cons_of_mem _ l2F) p4 ?_⟩
  have mv : ∀ {F : List Addr}, l2 ∉ F → ∀ a ∈ F, S a = .none → H a ≠ .none → (∀ ps, H a ≠ some (.tbl ps)) → S a = .none ∧ upd H l2 (.lst us') a = H a := fun {F} nF a ha h1 _ _ => ⟨h1, upd_ne fun z => nF (by rw [← z]; exact ha)⟩
  simp only [RpO]
  refine ⟨l, vs, F', rfl, h2, h3, by rw [upd_ne nel]; exact h4, ?_⟩
  rw [List.set_eq_take_append_cons_drop, if_pos hnlt, q1, q2]
  refine (RpOL.mono (Le.refl S) _ _ _ (mv n1) q4).app ?_
  simp only [RpOL]
  refine ⟨.ref l2, vs2, F2, F3, rfl, rfl, ?_, RpOL.mono (Le.refl S) _ _ _ (mv nG.2) q6⟩
  simp only [RpO]
  exact ⟨l2, us', G, rfl, p2, p3, upd_same, RpOL.mono (Le.refl S) _ _ _ (mv nG.1) h⟩
end
/-! ### methods of the list in slot i -/
/-- what a method does with a list's things: the result, the things behind it -/
abbrev Lop := List O → List D → Option (D × List O)
def heldL (i : Nat) : M Unit := fun δ => match δ[i]? with
  | some (.ol _) => .ok () δ
  | _ => .bad
def lopS (g : Lop) (i : Nat) (ds : List D) : M D := fun δ => match δ[i]? with
  | some (.ol ys) => match g ys ds with
    | some (r, ys') => .ok r (δ.set i (.ol ys'))
    | none => .bad
  | _ => .bad
def lopM (g : Lop) (i : Nat) (f : M (List D)) : M D := bnd (heldL i) fun _ => bnd f fun ds => lopS g i ds
/-- the method's reading r does g -/
def LopOk (C : Ct) (r : V → List V → Hp → VK → Prop) (g : Lop) : Prop := ∀ (S H : Hp) (l : Addr) (ys ys' : List O) (vs : List V) (F : List Addr) (ds : List D) (us : List V) (d : D) (Q : VK),
  Le S H → H l = some (.lst vs) → RpOL C S H ys vs F → RpL C S ds us → g ys ds = some (d, ys') → (∀ vs' z, RpOL C S H ys' vs' F → Rp C S d z → Q z (upd H l (.lst vs'))) → r (.ref l) us H Q
def appL : Lop := fun ys ds => match ds with
  | [d] => if ys.length < 16777216 then some (.non, ys ++ [.sh d]) else none
  | _ => none
theorem lt_line {n : Nat} (h : n < 16777216) : n < sizeLine := by rw [sizeLine_eq]; exact h
theorem one_of {C : Ct} {S : Hp} {d : D} {us : List V} (h : RpL C S [d] us) : ∃ v, us = [v] ∧ Rp C S d v := by
  simp only [RpL] at h
  obtain ⟨v, r, h1, h2, h3⟩ := h
  exact ⟨v, by rw [h1, h3], h2⟩
theorem two_of {C : Ct} {S : Hp} {d d' : D} {us : List V} (h : RpL C S [d, d'] us) : ∃ v v', us = [v, v'] ∧ Rp C S d v ∧ Rp C S d' v' := by
  simp only [RpL] at h
  obtain ⟨v, r, h1, h2, v', r', h3, h4, h5⟩ := h
  exact ⟨v, v', by rw [h1, h3, h5], h2, h4⟩
theorem lop_app {C : Ct} : LopOk C rAppend appL := by
  intro S H l ys ys' vs F ds us d Q hle hH r rd eg k
  unfold appL at eg
  split at eg
  · rename_i d0
    split at eg
    · rename_i hz
      cases eg
      obtain ⟨v, rfl, rv⟩ := one_of rd
      exact ⟨l, vs, v, rfl, rfl, hH, by rw [r.length]; exact lt_line hz, k _ .non (r.snoc rv) (by simp only [Rp])⟩
    · cases eg
  · cases eg
/-- pop at a place -/
def popL : Lop := fun ys ds => match ds with
  | [.int i] => if -9223372036854775808 ≤ i ∧ i < 9223372036854775808 then match seqIndex? i ys.length with
      | some k => match ys[k]? with
        | some (.sh d) => some (d, ys.eraseIdx k)
        | _ => none
      | none => none
    else none
  | _ => none
theorem lop_pop {C : Ct} : LopOk C rPopAt popL := by
  intro S H l ys ys' vs F ds us d Q hle hH r rd eg k
  unfold popL at eg
  split at eg
  · rename_i i
    split at eg
    · rename_i hz
      split at eg
      · rename_i j hj
        split at eg
        · rename_i d1 hd
          cases eg
          obtain ⟨v, rfl, rv⟩ := one_of rd
          simp only [Rp] at rv
          subst rv
          obtain ⟨u, h1, h2, h3⟩ := r.erase hd
          exact ⟨l, vs, i, j, u, rfl, rfl, hH, by omega, by omega, by rw [r.length]; exact hj, h1, k _ u h3 h2⟩
        · cases eg
      · cases eg
    · cases eg
  · cases eg
/-- insert, i not below 0 -/
def insL : Lop := fun ys ds => match ds with
  | [.int i, d] => if ys.length < 16777216 ∧ 0 ≤ i ∧ i < 9223372036854775808 then some (.non, ys.take i.toNat ++ [.sh d] ++ ys.drop i.toNat) else none
  | _ => none
def rInsert : V → List V → Hp → VK → Prop := fun x vs H Q => ∃ (l : Addr) (xs : List V) (i : Int) (y : V), x = .ref l ∧ vs = [.int i, y] ∧ H l = some (.lst xs) ∧ xs.length < sizeLine ∧ 0 ≤ i ∧ i < 2 ^ 63 ∧ Q .non (upd H l (.lst (xs.take i.toNat ++ [y] ++ xs.drop i.toNat)))
theorem lop_ins {C : Ct} : LopOk C rInsert insL := by
  intro S H l ys ys' vs F ds us d Q hle hH r rd eg k
  unfold insL at eg
  split at eg
  · rename_i i d0
    split at eg
    · rename_i hz
      cases eg
      obtain ⟨v, v', rfl, rv, rv'⟩ := two_of rd
      simp only [Rp] at rv
      subst rv
      exact ⟨l, vs, i, v', rfl, rfl, hH, by rw [r.length]; exact lt_line hz.1, hz.2.1, by omega, k _ .non (r.ins rv') (by simp only [Rp])⟩
    · cases eg
  · cases eg
section
variable {X : Cx} {C : Ct} {W : WX} {e ea o : Expr} {es : List Expr} {f : M (List D)} {r : V → List V → Hp → VK → Prop} {g : Lop} {i : Nat}
/-- the reading of a method's call on slot i -/
theorem lop_read (lo : LopOk C r g) (σ : L2.St) (H : Hp) (Q : VK) (q : tD C W (lopM g i f) σ H Q) : tBM X.K "list" r (tVar i) (tA C W f) σ H Q := by
  obtain ⟨S, Fs, δ, w, q⟩ := q
  have q0 := Aft.bind q
  unfold heldL at q0
  cases hi : δ[i]? with
  | none => rw [hi] at q0; exact q0.elim
  | some oo =>
    rw [hi] at q0
    cases oo with
    | ol ys =>
      have q1 := Aft.now w q0
      obtain ⟨l, vs, F', e1, e2, e3, _⟩ := w.upl hi
      refine ⟨_, e1, .inl ⟨rfl, vs, SqL.of e2⟩, S, Fs, δ, w, (Aft.bind q1).mono fun ds S2 H2 F2 δ2 g2 w2 q2 us r2 => ?_⟩
      unfold lopS at q2
      cases hi2 : δ2[i]? with
      | none => rw [hi2] at q2; exact q2.elim
      | some o2 =>
        rw [hi2] at q2
        cases o2 with
        | ol ys2 =>
          dsimp only at q2
          cases eg : g ys2 ds with
          | none => rw [eg] at q2; exact q2.elim
          | some rr =>
            obtain ⟨d, ys3⟩ := rr
            rw [eg] at q2
            obtain ⟨l2, vs2, F3, p1, p2, p3, p4⟩ := w2.upl hi2
            rw [e1] at p1
            cases p1
            refine lo S2 H2 l ys2 ys3 vs2 F3 ds us d Q w2.le p2 p3 r2 eg fun vs' z h3 rz => ?_
            obtain ⟨w3, g3⟩ := p4 ys3 vs' h3
            exact q2 S2 _ F2 g3 w3 z rz
        | _ => exact q2.elim
    | _ => exact q0.elim
end
end FW

set_option Elab.async false
set_option linter.all false
set_option maxRecDepth 100000
set_option maxHeartbeats 2000000
/-! FwN: enumerate over a tuple; walks over a list or a tuple. -/
namespace FWN
open PySem PySem.Spec PyProof.Rows
open Sem (wp)
theorem typeCall_enum1 (v : Value) : checkTypeCall "enumerate" ⟨[v], []⟩ = pure () := by kernel_rfl
theorem newCall_enum1 (v : Value) : checkBuiltinCall "enumerate.__new__" ⟨[.type "enumerate", v], []⟩ = pure () := by kernel_rfl
set_option maxHeartbeats 1000000 in
theorem meets_enum1 {v : Value} {o : Obj} {H : Heap → Prop} (B : Begins v o H) :
    Meets (Builtin.«enumerate.__new__» ⟨[.type "enumerate", v], []⟩) (fun _ R s => H s.heap ∧
      R (.ok (.ret (.ref (s.heap.push o).objs.size))) { s with heap := (s.heap.push o).push { cls := .type "enumerate", data := .fields #[.none, .bool false, .ref s.heap.objs.size, rawInt 0, .none, .none] } }) :=
  .of_wp fun prog w A R s h => by
    obtain ⟨hp, g, d, tk, os⟩ := s
    obtain ⟨h1, h⟩ := h
    have hsub := sub_enumerate
    have go : ∀ {A' : Around} {E Q : Value → Shared → Prop}, Q (.ref hp.objs.size) ⟨hp.push o, g, d, tk, os⟩ → wpAny (model prog w) A' (pyIter v) Q E ⟨hp, g, d, tk, os⟩ :=
      fun z => B.iter prog w _ _ ⟨hp, g, d, tk, os⟩ _ h1 z
    wp_walk using go
    refine wpAny_stack_any fun st => wpAny_pure ?_
    split
    · rename_i c _ _ _ _ _
      cases (c == Value.type "enumerate") <;> (wp_walk using go; exact ⟨_, rfl, h⟩)
    · wp_walk using go
      exact ⟨_, rfl, h⟩
section
variable {prog : Program} {w : World} {A : Around} {E : Value → Shared → Prop} {s : Shared}
theorem enum_new {v : Value} {o : Obj} {H : Heap → Prop} {Q : Value → Shared → Prop} (B : Begins v o H) (h1 : H s.heap)
    (h : ∀ h', IsEnum h' (s.heap.objs.size + 1) s.heap.objs.size 0 .none → h'.get? s.heap.objs.size = some o → (∀ b u, s.heap.get? b = some u → h'.get? b = some u) → Q (.ref (s.heap.objs.size + 1)) { s with heap := h' }) :
    wpAny (model prog w) A (call (.type "enumerate") [v]) Q E s := by
  refine callType_new F.called_enumerate (by decide) (F.typeCall_enumerate_1 _) (F.newCall_enumerate_1 _) (fun obj => F.args_object_init_2 obj _) F.entry_enumerate_new (meets_enum1 B) ⟨h1, ?_⟩
  have hz : (s.heap.push o).objs.size = s.heap.objs.size + 1 := Heap.size_push ..
  rw [hz]
  have he : IsEnum ((s.heap.push o).push { cls := .type "enumerate", data := .fields #[.none, .bool false, .ref s.heap.objs.size, rawInt 0, .none, .none] }) (s.heap.objs.size + 1) s.heap.objs.size 0 .none := by
    have z := Heap.get?_push_size (s.heap.push o) (o := { cls := .type "enumerate", data := .fields #[.none, .bool false, .ref s.heap.objs.size, rawInt 0, .none, .none] }) rfl
    rwa [hz] at z
  exact ⟨⟨_, he, rfl⟩, h _ he (Heap.get?_push_of_some _ (Heap.get?_push_size _ B.free)) fun b u x => Heap.get?_push_of_some _ (Heap.get?_push_of_some _ x)⟩
end
open L2
/-- the tuple at a, each thing in a new pair -/
def IteT (K : PySem.W.Frag) (a : Addr) : It :=
  ⟨fun i H => ∃ (xs : List V) (x : V), SqT K H a xs ∧ xs[i]? = some x, fun i H v H' => ∃ T x, v = .ref T ∧ H T = none ∧ H' = upd H T (.tup [.int (i : Nat), x]) ∧ ∀ xs, SqT K H a xs → xs[i]? = some x, fun i H => ∃ xs : List V, SqT K H a xs ∧ xs.length ≤ i⟩
theorem turn_enumT {P : Program} {w : World} {K : PySem.W.Frag} {elts : List Expr} {kk : Nat} {tpos : Pos} (a e it : Addr) :
    Turn P w K (.Tuple elts kk tpos) (IteT K a) [e, it] e (fun i h => (∃ old, IsEnum h e it ((i : Nat) : Int) old) ∧ h.IsTupleIter it a i ∧ e ≠ it ∧ a ≠ it ∧ a ≠ e) where
  mem := by simp
  obj := fun i h st b hb => by
    obtain ⟨⟨old, he⟩, ⟨o, ho, hc, hd⟩, _⟩ := st
    rcases (show b = e ∨ b = it by simpa using hb) with rfl | rfl
    · exact ⟨_, he, fun v q => nomatch q⟩
    · exact ⟨o, ho, fun v q => by rw [hd] at q; cases q⟩
  keep := fun i h h' st k => ⟨⟨st.1.choose, k e (by simp) _ st.1.choose_spec⟩, st.2.1.at fun o q => k it (by simp) o q, st.2.2⟩
  item := by
    intro X hP hw hK hc i pins s σ H E I hf st hg
    subst hP hw hK
    obtain ⟨⟨old, he⟩, hit, hne, ha, ha2⟩ := st
    obtain ⟨xs, x, hq, hx⟩ := hg
    obtain ⟨its, rv, p, hz⟩ := I.tuple hq
    obtain ⟨u, hu, ru⟩ := rv.get hx
    have hel : e < s.heap.objs.size := Heap.lt_size he
    have hil : it < s.heap.objs.size := by obtain ⟨_, q, _⟩ := hit; exact Heap.lt_size q
    have hi : i < its.toArray.size := by
      have := (List.getElem?_eq_some_iff.mp hu).1
      simpa using this
    have pT : s.heap.IsTuple a its.toArray := p
    refine wpAny_pyNext_enum_itemD (Draws.tuple (prog := X.prog) (w := X.w) (A := X.A.in1) (I.ok.hd hc) it a ha its.toArray) he ⟨hit, pT⟩ hi hne (by simp [hne, ha2.symm]) fun y h' tk hy ho hst' hT hsz hk => ?_
    have ey : y = u := by
      have : its[i]? = some y := by simpa using hy
      rw [hu] at this
      exact (Option.some.inj this).symm
    subst ey
    obtain ⟨hit', _⟩ := hst'
    refine ⟨_, rfl, wpAny_letOwnedTupleGo_enum (s := { s with heap := h', toks := tk + 1 }) ho fun h'' he' sb => ?_⟩
    have hT2 : h''.get? s.heap.objs.size = some { cls := .type "tuple", data := .seq #[.int i tk, y] } := (sb.2 _ (Nat.ne_of_gt hel)).trans hT
    have new : ObjOk X.prog X.w (upd H s.heap.objs.size (.tup [.int (i : Nat), x])) h'' s.heap.objs.size (.tup [.int (i : Nat), x]) :=
      ⟨by show 2 ≤ sizeLine; decide, [.int i tk, y], .cons ⟨_, rfl⟩ (.cons ru .nil), ⟨_, hT2, rfl, _, rfl⟩⟩
    have I1 : Inv X pins σ (upd H s.heap.objs.size (.tup [.int (i : Nat), x])) { s with heap := h'', toks := tk + 1 } :=
      I.turnedNew (ch := [e, it]) (fun b ob hb q => (sb.2 b (fun z => hb (by simp [z]))).trans (hk b ob (fun z => hb (by simp [z])) (fun z => hb (by simp [z])) q)) hf (Nat.le_refl _) new
    refine ⟨.ref s.heap.objs.size, _, I1, rfl, ⟨_, x, rfl, I.hok.fresh (Nat.le_refl _), rfl, fun ys hy => by rw [I.tuple_inj hy hq]; exact hx⟩, ⟨⟨y, ?_⟩, hit'.at fun o q => (sb.2 it (Ne.symm hne)).trans q, hne, ha, ha2⟩, fun b hb => ?_⟩
    · rw [show ((i + 1 : Nat) : Int) = (i : Int) + 1 by omega]
      exact he'
    · have hb' : b < s.heap.objs.size := by
        rcases (show b = e ∨ b = it by simpa using hb) with z | z <;> (rw [z]; assumption)
      rw [upd_ne (Nat.ne_of_lt hb')]
      exact (hf b hb).1
  done := by
    intro X hP hw hK hc i pins s σ H E I hf st hg
    subst hP hw hK
    obtain ⟨⟨old, he⟩, hit, hne, ha, ha2⟩ := st
    obtain ⟨xs, hq, hx⟩ := hg
    obtain ⟨its, rv, p, hz⟩ := I.tuple hq
    obtain ⟨f0, f1, f2, f3, f4, f5⟩ := hf it (by simp)
    have hl := rv.length
    have pT : s.heap.IsTuple a its.toArray := p
    -- the iterator stands at the end or beyond
    have end_ : ∀ {Q : Option Value → Shared → Prop}, (∀ h', Heap.ExtBut it s.heap h' → Q none { s with heap := h' }) → wpAny (model X.prog X.w) X.A (pyNext (.ref e)) Q E s := fun {Q} hQ => by
      have D : Draws X.prog X.w X.A.in1 it [it, a] i (fun _ _ => True) (fun j h => j = i ∧ h.IsTupleIter it a j ∧ h.IsTuple a its.toArray) :=
        ⟨fun _ _ st => by obtain ⟨o, ho, _⟩ := st.2.1; exact ⟨o, ho⟩, fun _ _ _ st hk => ⟨st.1, st.2.1.at fun o z => hk it (by simp) o z, st.2.2.at fun o z => hk a (by simp) o z⟩, fun j s' Q' E' hj st' _ => absurd st'.1 (Nat.ne_of_lt hj),
          fun s' Q' E' st' hE' => wpAny_nextOf_tuple_end (I.ok.hd hc) st'.2.1 st'.2.2 (by simp; omega) hE'⟩
      exact wpAny_pyNext_enum_endD D he ⟨rfl, hit, pT⟩ hQ
    exact end_ fun h' eb => ⟨rfl, I.turned (t' := s.toks) (fun b o hb q => eb b o hb q) f0 f1 f3 f4 f5⟩
  self := fun A i s Q E st h => wpAny_pyIter_enum st.1.choose_spec h
def iEnumT (K : PySem.W.Frag) (ta : TA) : TI := fun σ H R => ta σ H fun vs H1 => ∃ a xs, vs = [.ref a] ∧ SqT K H1 a xs ∧ R (IteT K a) H1
theorem pi_enumT {X : Cx} {e : Expr} {ta : TA} {p pos tpos : Pos} {elts : List Expr} {kk : Nat} (hg : Gl X "enumerate") (hm : X.mg "enumerate" = none) (ha : PA X [e] ta) (hs : starEach [e] X.env = [(false, eval e X.env)] := by rfl) :
    PI X (.Tuple elts kk tpos) (.Call (.Name "enumerate" p) [e] [] pos) (iEnumT X.K ta) := by
  refine ⟨fun pins s σ H R I h => ?_⟩
  refine Call_ (ld_blt I hg hm boot_enumerate (PyProof.Rows.callWith_type1 (thn (ha.run pos pins s σ H _ I h) fun us s1 ⟨vs, H1, I1, r1, a, xs, ex, hq, q⟩ => ?_) hs rfl))
  subst ex
  cases r1 with
  | cons r rr =>
    cases rr
    cases r
    obtain ⟨its, rv, p', hz⟩ := I1.tuple hq
    have pT : s1.heap.IsTuple a its.toArray := p'
    have hal : a < s1.heap.objs.size := by obtain ⟨o, ho, _⟩ := pT; exact Heap.lt_size ho
    refine enum_new (begins_tuple a its.toArray) pT fun h' he hit hk => wpAny_pyIter_enum he ?_
    have I2 : Inv X pins σ H1 { s1 with heap := h' } := I1.kept (t' := s1.toks) hk
    refine ⟨s1.heap.objs.size + 1, [s1.heap.objs.size + 1, s1.heap.objs.size], _, _, H1, rfl, I2, turn_enumT a (s1.heap.objs.size + 1) s1.heap.objs.size, ⟨⟨.none, he⟩, ⟨_, hit, rfl, rfl⟩, Nat.succ_ne_self _, Nat.ne_of_lt hal, Nat.ne_of_lt (Nat.lt_succ_of_lt hal)⟩, fun b hb => ?_, q⟩
    have hle : s1.heap.objs.size ≤ b := by
      rcases (show b = s1.heap.objs.size + 1 ∨ b = s1.heap.objs.size by simpa using hb) with z | z
      · rw [z]; exact Nat.le_add_right _ _
      · rw [z]; exact Nat.le_refl _
    exact I1.fpOk hle (I1.hok.fresh hle)
end FWN
namespace FW
open PySem PySem.Spec PyProof.Rows L2
section
variable {X : Cx} {C : Ct} {W : WX} {k : Nat} {N : List Str} {sc : Scope} {tg iter e ea eb : Expr} {f fa fb : M D} {pos p tpos : Pos} {elts : List Expr} {kk : Nat}
/-- over a list or a tuple -/
def seqD : D → Option (List D)
  | .lst ds => some ds
  | .tup ds => some ds
  | _ => none
def itS (f : M D) : M (List D) := bnd f fun d => opt (seqD d)
/-- a walk by what the meaning gives -/
theorem pit_by {f : M D} {g g1 g2 : M (List D)} (hg : ∀ δ, (∃ ds δ', f δ = .ok (.tup ds) δ' ∧ g δ = g2 δ) ∨ g δ = g1 δ ∨ g δ = .bad) (h1 : PIt X C W tg iter g1) (h2 : PIt X C W tg iter g2) : PIt X C W tg iter g := by
  refine ⟨⟨fun pins s σ H R I ⟨S, Fs, δ, w, q⟩ => ?_⟩⟩
  rcases hg δ with ⟨ds, δ', e1, e2⟩ | e | e
  · rw [e2] at q; exact h2.pi.run pins s σ H R I ⟨S, Fs, δ, w, q⟩
  · rw [e] at q; exact h1.pi.run pins s σ H R I ⟨S, Fs, δ, w, q⟩
  · rw [e] at q; exact q.elim
theorem pit_seq (h : PD X C W iter f) (hK : C.K = X.K) : PIt X C W tg iter (itS f) := by
  refine pit_by (f := f) (fun δ => ?_) (pit_list h hK) (pit_tup h hK)
  unfold itS itL itT bnd
  cases f δ with
  | bad => exact .inr (.inl rfl)
  | er x δ' => exact .inr (.inl rfl)
  | ok d δ' =>
    cases d with
    | tup ds => exact .inl ⟨ds, δ', rfl, rfl⟩
    | lst ds => exact .inr (.inl rfl)
    | _ => exact .inr (.inr rfl)
/-- enumerate -/
def enumD (ds : List D) : List D := ds.mapIdx fun i d => .tup [.int (i : Nat), d]
def itE (f : M D) : M (List D) := bnd f fun d => opt ((seqD d).map enumD)
def itEl (f : M D) : M (List D) := bnd f fun d => match d with
  | .lst ds => ret (enumD ds)
  | _ => bad
def itEt (f : M D) : M (List D) := bnd f fun d => match d with
  | .tup ds => ret (enumD ds)
  | _ => bad
theorem enum_len (ds : List D) : (enumD ds).length = ds.length := by simp [enumD]
theorem pa_1d (ha : PD X C W e f) (hs : starEach (e :: []) X.env = (false, eval e X.env) :: starEach [] X.env := by rfl) : PA X [e] (tA1D C W f) := pa_1D ha hs
theorem pit_enumL (hg : Gl X "enumerate") (hm : X.mg "enumerate" = none) (h : PD X C W ea f) (hK : C.K = X.K) (hs : starEach [ea] X.env = [(false, eval ea X.env)] := by rfl) : PIt X C W (.Tuple elts kk tpos) (.Call (.Name "enumerate" p) [ea] [] pos) (itEl f) := by
  refine ⟨PI.imp (pi_enum hg hm (pa_1d h hs) hs) fun σ H R ⟨S, Fs, δ, w, q⟩ => ⟨S, Fs, δ, w, (Aft.bind q).mono fun d S1 H1 F1 δ1 g1 w1 q1 v r1 => ?_⟩⟩
  cases d with
  | lst ds =>
    simp only [Rp] at r1
    obtain ⟨a, vs, h1, h2, h3⟩ := r1
    have hl := RpL.length _ _ h3
    refine ⟨a, vs, by rw [h1], SqL.of (w1.le a _ h2), q1.now w1 _ ⟨fun i H e hi => ?_, fun i H e hi => ⟨vs, SqL.of (e a _ h2), by rw [enum_len] at hi; omega⟩, fun i H x H' S2 e1 e2 hi hy => ?_⟩⟩
    · rw [enum_len] at hi
      obtain ⟨v', hv, _⟩ := RpL.get' _ _ h3 i _ (List.getElem?_eq_getElem hi)
      exact ⟨vs, v', SqL.of (e a _ h2), hv⟩
    · obtain ⟨T, y, rfl, hT, rfl, hy⟩ := hy
      have hv := hy vs (SqL.of (e2 a _ (e1 a _ h2)))
      obtain ⟨d, hd, rd⟩ := RpL.get _ _ h3 i y hv
      obtain ⟨l1, l2, l3, l4⟩ := new_le (o := .tup [.int (i : Nat), y]) e2 hT
      refine ⟨_, .tup [.int (i : Nat), d], l1, l2, l3, l4, by simp [enumD, hd], ?_⟩
      simp only [Rp, RpL]
      exact ⟨T, _, rfl, SqT.of upd_same, _, _, rfl, rfl, y, [], rfl, rd.mono (e1.trans l1), rfl⟩
  | _ => exact q1.elim
theorem pit_enumT (hg : Gl X "enumerate") (hm : X.mg "enumerate" = none) (h : PD X C W ea f) (hK : C.K = X.K) (hs : starEach [ea] X.env = [(false, eval ea X.env)] := by rfl) : PIt X C W (.Tuple elts kk tpos) (.Call (.Name "enumerate" p) [ea] [] pos) (itEt f) := by
  refine ⟨PI.imp (FWN.pi_enumT hg hm (pa_1d h hs) hs) fun σ H R ⟨S, Fs, δ, w, q⟩ => ⟨S, Fs, δ, w, (Aft.bind q).mono fun d S1 H1 F1 δ1 g1 w1 q1 v r1 => ?_⟩⟩
  cases d with
  | tup ds =>
    simp only [Rp] at r1
    obtain ⟨a, vs, h1, h2, h3⟩ := r1
    have hl := RpL.length _ _ h3
    rw [hK] at h2
    refine ⟨a, vs, by rw [h1], w1.le.t h2, q1.now w1 _ ⟨fun i H e hi => ?_, fun i H e hi => ⟨vs, e.t h2, by rw [enum_len] at hi; omega⟩, fun i H x H' S2 e1 e2 hi hy => ?_⟩⟩
    · rw [enum_len] at hi
      obtain ⟨v', hv, _⟩ := RpL.get' _ _ h3 i _ (List.getElem?_eq_getElem hi)
      exact ⟨vs, v', e.t h2, hv⟩
    · obtain ⟨T, y, rfl, hT, rfl, hy⟩ := hy
      have hv := hy vs (e2.t (e1.t h2))
      obtain ⟨d, hd, rd⟩ := RpL.get _ _ h3 i y hv
      obtain ⟨l1, l2, l3, l4⟩ := new_le (o := .tup [.int (i : Nat), y]) e2 hT
      refine ⟨_, .tup [.int (i : Nat), d], l1, l2, l3, l4, by simp [enumD, hd], ?_⟩
      simp only [Rp, RpL]
      exact ⟨T, _, rfl, SqT.of upd_same, _, _, rfl, rfl, y, [], rfl, rd.mono (e1.trans l1), rfl⟩
  | _ => exact q1.elim
theorem pit_enum (hg : Gl X "enumerate") (hm : X.mg "enumerate" = none) (h : PD X C W ea f) (hK : C.K = X.K) (hs : starEach [ea] X.env = [(false, eval ea X.env)] := by rfl) : PIt X C W (.Tuple elts kk tpos) (.Call (.Name "enumerate" p) [ea] [] pos) (itE f) := by
  refine pit_by (f := f) (fun δ => ?_) (pit_enumL hg hm h hK hs) (pit_enumT hg hm h hK hs)
  unfold itE itEl itEt bnd
  cases f δ with
  | bad => exact .inr (.inl rfl)
  | er x δ' => exact .inr (.inl rfl)
  | ok d δ' =>
    cases d with
    | tup ds => exact .inl ⟨ds, δ', rfl, rfl⟩
    | lst ds => exact .inr (.inl rfl)
    | _ => exact .inr (.inr rfl)
theorem pit_range2 (hg : Gl X "range") (hm : X.mg "range" = none) (ha : PD X C W ea fa) (hb : PD X C W eb fb) (hs : starEach [ea, eb] X.env = [(false, eval ea X.env), (false, eval eb X.env)] := by rfl) (hs2 : starEach [eb] X.env = [(false, eval eb X.env)] := by rfl) :
    PIt X C W tg (.Call (.Name "range" p) [ea, eb] [] pos) (itR2 fa fb) := by
  refine ⟨PI.imp (pi_range2 hg hm (pa_cons ha.pe (pa_cons hb.pe pa_nil hs2) (hs.trans (by rw [hs2]))) hs hs2) fun σ H Q ⟨S, Fs, δ, w, q⟩ => ⟨S, Fs, δ, w, (Aft.bind q).mono fun d S1 H1 F1 δ1 g1 w1 q1 v r1 => ⟨S1, F1, δ1, w1, (Aft.bind q1).mono fun d2 S2 H2 F2 δ2 g2 w2 q2 v2 r2 => ?_⟩⟩⟩
  cases d with
  | int i =>
    cases d2 with
    | int j =>
      simp only [Rp] at r1 r2
      subst r1; subst r2
      dsimp only at q2
      split at q2
      · rename_i hz
        exact ⟨i, j, rfl, ⟨by omega, by omega, by omega, by omega⟩, q2.now w2 _ walks_range⟩
      · exact q2.elim
    | _ => exact q2.elim
  | _ => exact q2.elim
end
end FW

set_option Elab.async false
set_option linter.all false
set_option maxRecDepth 100000
set_option maxHeartbeats 2000000
/-! FwP: the forms that the printer uses. -/
namespace FW
open PySem PySem.Spec PyProof.Rows L2
section
variable {X : Cx} {C : Ct} {W : WX} {fx : List Nat} {k i : Nat} {N : List Str} {sc : Scope} {x : Str} {pos p apos tpos : Pos} {e ea eb ec tg iter o : Expr} {es : List Expr} {f fa fb fc : M D} {fo : M O} {g : D → D → Option D}
/-! ### operators -/
def binD : Operator → D → D → Option D
  | .Add => addD
  | .Sub => subD
  | .Mult => mulD
  | .FloorDiv => fdivD
  | .Mod => modD
  | .Pow => powD
  | _ => fun _ _ => none
def cmpD : CmpOp → D → D → Option D
  | .Eq => eqD
  | .NotEq => neD
  | .Lt => ltD
  | .LtE => leD
  | .Gt => gtD
  | .GtE => geD
  | .In => inD
  | .NotIn => notInD
  | .Is => isNonD
  | .IsNot => notNonD
theorem none_meets {r : V → Hp → VK → Prop} : True := trivial
theorem og_bin (B : Bas X C W k N sc) (op : Operator) (h : op = .Add ∨ op = .Sub ∨ op = .Mult ∨ op = .FloorDiv ∨ op = .Mod ∨ op = .Pow) : OpR X (binaryOp op) (rG C (binD op)) := by
  rcases h with rfl | rfl | rfl | rfl | rfl | rfl
  · exact og_add B.hK
  · exact og_sub
  · exact og_mul B.hK
  · exact og_fdiv
  · exact og_mod
  · exact og_pow
theorem og_cmp (B : Bas X C W k N sc) (op : CmpOp) : OpR X (compareOp op) (rG C (cmpD op)) := by
  cases op
  case Eq => exact og_eq B.u64 B.hK
  case NotEq => exact og_ne B.u64 B.hK
  case Lt => exact og_lt
  case LtE => exact og_le
  case Gt => exact og_gt
  case GtE => exact og_ge
  case In => exact og_in B.u65 B.hK
  case NotIn => exact og_notIn B.u65 B.hK
  case Is => exact og_isNon
  case IsNot => exact og_notNon
theorem kbin {op : Operator} (B : Bas X C W k N sc) (h : op = .Add ∨ op = .Sub ∨ op = .Mult ∨ op = .FloorDiv ∨ op = .Mod ∨ op = .Pow) (ha : PD X C W ea fa) (hb : PD X C W eb fb) : PD X C W (.BinOp ea op eb pos) (op2 (binD op) fa fb) :=
  pd_op2 (rG_meets C _) (fun ta tb h1 h2 => pe_op (og_bin B op h) h1 h2) ha hb.b
theorem kadd (B : Bas X C W k N sc) (ha : PD X C W ea fa) (hb : PD X C W eb fb) : PD X C W (.BinOp ea .Add eb pos) (op2 addD fa fb) := kbin B (.inl rfl) ha hb
theorem ksub (B : Bas X C W k N sc) (ha : PD X C W ea fa) (hb : PD X C W eb fb) : PD X C W (.BinOp ea .Sub eb pos) (op2 subD fa fb) := kbin B (.inr (.inl rfl)) ha hb
theorem kmul (B : Bas X C W k N sc) (ha : PD X C W ea fa) (hb : PD X C W eb fb) : PD X C W (.BinOp ea .Mult eb pos) (op2 mulD fa fb) := kbin B (.inr (.inr (.inl rfl))) ha hb
theorem kfdiv (B : Bas X C W k N sc) (ha : PD X C W ea fa) (hb : PD X C W eb fb) : PD X C W (.BinOp ea .FloorDiv eb pos) (op2 fdivD fa fb) := kbin B (.inr (.inr (.inr (.inl rfl)))) ha hb
theorem kmod (B : Bas X C W k N sc) (ha : PD X C W ea fa) (hb : PD X C W eb fb) : PD X C W (.BinOp ea .Mod eb pos) (op2 modD fa fb) := kbin B (.inr (.inr (.inr (.inr (.inl rfl))))) ha hb
theorem kpow (B : Bas X C W k N sc) (ha : PD X C W ea fa) (hb : PD X C W eb fb) : PD X C W (.BinOp ea .Pow eb pos) (op2 powD fa fb) := kbin B (.inr (.inr (.inr (.inr (.inr rfl))))) ha hb
/-- a comparison: the right one known as no set display where in, not in -/
theorem kcmp {op : CmpOp} (B : Bas X C W k N sc) (ha : PD X C W ea fa) (hb : PD X C W eb fb) (hm : behindInMarks op eb = false := by first | exact nobehind _ (by decide) (by decide) | rfl) : PD X C W (.Compare ea [op] [eb] pos) (op2 (cmpD op) fa fb) :=
  pd_op2 (rG_meets C _) (fun ta tb h1 h2 => pe_cmpR (og_cmp B op) h1 h2 hm) ha hb.b
theorem kcmpq {op : CmpOp} (B : Bas X C W k N sc) (ha : PD X C W ea fa) (hb : PD X C W eb fb) (hm : behindInMarks op eb = false := by first | exact nobehind _ (by decide) (by decide) | rfl) : PQ X C W (.Compare ea [op] [eb] pos) (blM (op2 (cmpD op) fa fb)) :=
  pq_cmp (og_cmp B op) ha hb.b hm
theorem kchain {op op' : CmpOp} (B : Bas X C W k N sc) (ha : PD X C W ea fa) (hb : PD X C W eb fb) (hc : PD X C W ec fc) (hm : lastMarks [op, op'] [eb, ec] = false := by with_unfolding_all rfl) : PD X C W (.Compare ea [op, op'] [eb, ec] pos) (chM (cmpD op) (cmpD op') fa fb fc) :=
  pd_chain (og_cmp B op) (og_cmp B op') ha hb hc hm
theorem kchainq {op op' : CmpOp} (B : Bas X C W k N sc) (ha : PD X C W ea fa) (hb : PD X C W eb fb) (hc : PD X C W ec fc) (hm : lastMarks [op, op'] [eb, ec] = false := by with_unfolding_all rfl) : PQ X C W (.Compare ea [op, op'] [eb, ec] pos) (blM (chM (cmpD op) (cmpD op') fa fb fc)) :=
  pq_chain (og_cmp B op) (og_cmp B op') ha hb hc hm
theorem kix (B : Bas X C W k N sc) (ha : PD X C W ea fa) (hb : PD X C W eb fb) (hs : PlainIx eb := by first | exact fun _ _ => rfl | (intro o i; rfl)) : PD X C W (.Subscript ea eb pos) (op2 ixD fa fb) :=
  pd_op2 (rG_meets C _) (fun ta tb h1 h2 => pe_ix (og_ix B.hK) h1 h2 hs) ha hb.b
/-! ### built-ins of one value -/
theorem kb1 {id : String} {g : D → Option D} (B : Bas X C W k N sc) (c : CallR X (.builtin id) (rG1 C g)) (hg : glC sc x = true) (hm : C.mg x = none) (hv : bootBuiltins x = some (.builtin id)) (hn : x ≠ "__name__") (ha : PD X C W ea fa)
    (hs : starEach (ea :: []) X.env = (false, eval ea X.env) :: starEach [] X.env := by rfl) : PD X C W (.Call (.Name x p) [ea] [] pos) (op1 g fa) :=
  pd_op1 (fun t ht => pe_callB c (B.gl hg).1 (by rw [← B.hmg]; exact hm) hv ht hn (B.gl hg).2 hs rfl) ha.b hs
theorem kt1 {T : String} {g : D → Option D} (B : Bas X C W k N sc) (c : CallR X (.type T) (rG1 C g)) (hg : glC sc x = true) (hm : C.mg x = none) (hv : bootBuiltins x = some (.type T)) (hn : x ≠ "__name__") (ha : PD X C W ea fa)
    (hs : starEach (ea :: []) X.env = (false, eval ea X.env) :: starEach [] X.env := by rfl) : PD X C W (.Call (.Name x p) [ea] [] pos) (op1 g fa) :=
  pd_op1 (fun t ht => pe_callTy c (B.gl hg).1 (by rw [← B.hmg]; exact hm) hv ht hn (B.gl hg).2 hs rfl) ha.b hs
theorem klen (B : Bas X C W k N sc) (hg : glC sc "len" = true) (hm : C.mg "len" = none) (ha : PD X C W ea fa) (hs : starEach (ea :: []) X.env = (false, eval ea X.env) :: starEach [] X.env := by rfl) : PD X C W (.Call (.Name "len" p) [ea] [] pos) (op1 lenD fa) :=
  kb1 B (cg_len B.hK) hg hm (by decide +kernel) (by decide) ha hs
theorem kabs (B : Bas X C W k N sc) (hg : glC sc "abs" = true) (hm : C.mg "abs" = none) (ha : PD X C W ea fa) (hs : starEach (ea :: []) X.env = (false, eval ea X.env) :: starEach [] X.env := by rfl) : PD X C W (.Call (.Name "abs" p) [ea] [] pos) (op1 absD fa) :=
  kb1 B cg_abs hg hm (by decide +kernel) (by decide) ha hs
theorem kall (B : Bas X C W k N sc) (hg : glC sc "all" = true) (hm : C.mg "all" = none) (ha : PD X C W ea fa) (hs : starEach (ea :: []) X.env = (false, eval ea X.env) :: starEach [] X.env := by rfl) : PD X C W (.Call (.Name "all" p) [ea] [] pos) (op1 allD fa) :=
  kb1 B (cg_all B.calm) hg hm (by decide +kernel) (by decide) ha hs
theorem kany (B : Bas X C W k N sc) (hg : glC sc "any" = true) (hm : C.mg "any" = none) (ha : PD X C W ea fa) (hs : starEach (ea :: []) X.env = (false, eval ea X.env) :: starEach [] X.env := by rfl) : PD X C W (.Call (.Name "any" p) [ea] [] pos) (op1 anyD fa) :=
  kb1 B (cg_any B.calm) hg hm (by decide +kernel) (by decide) ha hs
theorem ksum (B : Bas X C W k N sc) (hg : glC sc "sum" = true) (hm : C.mg "sum" = none) (ha : PD X C W ea fa) (hs : starEach (ea :: []) X.env = (false, eval ea X.env) :: starEach [] X.env := by rfl) : PD X C W (.Call (.Name "sum" p) [ea] [] pos) (op1 sumD fa) :=
  kb1 B (cg_sum B.calm) hg hm (by decide +kernel) (by decide) ha hs
theorem kmax (B : Bas X C W k N sc) (hg : glC sc "max" = true) (hm : C.mg "max" = none) (ha : PD X C W ea fa) (hs : starEach (ea :: []) X.env = (false, eval ea X.env) :: starEach [] X.env := by rfl) : PD X C W (.Call (.Name "max" p) [ea] [] pos) (op1 maxD fa) :=
  kb1 B (cg_max B.calm) hg hm (by decide +kernel) (by decide) ha hs
theorem kmin (B : Bas X C W k N sc) (hg : glC sc "min" = true) (hm : C.mg "min" = none) (ha : PD X C W ea fa) (hs : starEach (ea :: []) X.env = (false, eval ea X.env) :: starEach [] X.env := by rfl) : PD X C W (.Call (.Name "min" p) [ea] [] pos) (op1 minD fa) :=
  kb1 B (cg_min B.calm) hg hm (by decide +kernel) (by decide) ha hs
theorem ktuple (B : Bas X C W k N sc) (hg : glC sc "tuple" = true) (hm : C.mg "tuple" = none) (ha : PD X C W ea fa) (hs : starEach (ea :: []) X.env = (false, eval ea X.env) :: starEach [] X.env := by rfl) : PD X C W (.Call (.Name "tuple" p) [ea] [] pos) (op1 tupleD fa) :=
  kt1 B (cg_tuple B.hK) hg hm (by decide +kernel) (by decide) ha hs
theorem klist (B : Bas X C W k N sc) (hg : glC sc "list" = true) (hm : C.mg "list" = none) (ha : PD X C W ea fa) (hs : starEach (ea :: []) X.env = (false, eval ea X.env) :: starEach [] X.env := by rfl) : PD X C W (.Call (.Name "list" p) [ea] [] pos) (op1 listDl fa) :=
  kt1 B (cg_list B.hK) hg hm (by decide +kernel) (by decide) ha hs
theorem kint (B : Bas X C W k N sc) (hg : glC sc "int" = true) (hm : C.mg "int" = none) (ha : PD X C W ea fa) (hs : starEach (ea :: []) X.env = (false, eval ea X.env) :: starEach [] X.env := by rfl) : PD X C W (.Call (.Name "int" p) [ea] [] pos) (op1 intD fa) :=
  kt1 B cg_int hg hm (by decide +kernel) (by decide) ha hs
/-! ### walks -/
theorem krange (B : Bas X C W k N sc) (hg : glC sc "range" = true) (hm : C.mg "range" = none) (ha : PD X C W ea fa) (hs : starEach [ea] X.env = [(false, eval ea X.env)] := by rfl) : PIt X C W tg (.Call (.Name "range" p) [ea] [] pos) (itR1 fa) :=
  pit_range1 (B.gl hg).1 (by rw [← B.hmg]; exact hm) ha hs
theorem krange2 (B : Bas X C W k N sc) (hg : glC sc "range" = true) (hm : C.mg "range" = none) (ha : PD X C W ea fa) (hb : PD X C W eb fb) (hs : starEach [ea, eb] X.env = [(false, eval ea X.env), (false, eval eb X.env)] := by rfl) (hs2 : starEach [eb] X.env = [(false, eval eb X.env)] := by rfl) : PIt X C W tg (.Call (.Name "range" p) [ea, eb] [] pos) (itR2 fa fb) :=
  pit_range2 (B.gl hg).1 (by rw [← B.hmg]; exact hm) ha hb hs hs2
theorem kenum {elts : List Expr} {kk : Nat} (B : Bas X C W k N sc) (hg : glC sc "enumerate" = true) (hm : C.mg "enumerate" = none) (ha : PD X C W ea fa) (hs : starEach [ea] X.env = [(false, eval ea X.env)] := by rfl) : PIt X C W (.Tuple elts kk tpos) (.Call (.Name "enumerate" p) [ea] [] pos) (itE fa) :=
  pit_enum (B.gl hg).1 (by rw [← B.hmg]; exact hm) ha B.hK hs
theorem kseq (B : Bas X C W k N sc) (h : PD X C W iter f) : PIt X C W tg iter (itS f) := pit_seq h B.hK
theorem kslc {lo hi : Option Expr} {fl fh : M (Option Int)} {p2 : Pos} (B : Bas X C W k N sc) (ha : PD X C W ea fa) (hl : PX X C W lo fl) (hh : PX X C W hi fh) : PD X C W (.Subscript ea (.Slice lo hi none p2) pos) (slcM fa fl fh) := pd_slc ha hl hh B.hK
/-! ### statements -/
theorem kfor {body : List Stmt} {fi : M (List D)} {gg : TG} {t : Tg} {b : G} {ix : List Nat} (B : Bst X C W k N sc) (hi : PIt X C W tg iter fi) (ht : PTg X C ix tg gg t) (hb : PGs' X C W fx body b)
    (hx : (fx.all fun i => !ix.contains i) = true := by rfl) (hs : ∀ x, foldedSetIterable iter X.env x = pure x := by intro _; rfl) : PG' X C W fx (.For tg iter body [] pos) (sFor fi t b) := pg_for B.po B.b.calm hi ht hb hx hs
theorem ktg_tup {kk : Nat} {gs : TGs} {ts : List Tg} {ix : List Nat} (B : Bas X C W k N sc) (h : PTgs X C ix es gs ts) (hp : PG X (.Tuple es kk pos) (gTup X.K es.length gs)) (hl : ts.length = es.length := by rfl) : PTg X C ix (.Tuple es kk pos) (gTup X.K es.length gs) (tgTup ts) :=
  ptg_tup h hl hp B.hK
/-- raise cn(e) -/
theorem kraise {cn f' : Str} {Ca fI : Addr} (B : Bas X C W k N sc) (T : FWX.XTxt X.prog X.K X.mg cn f' Ca fI) (g : glC sc cn = true) (ha : PD X C W ea fa) {pos2 : Pos} (he : starEach (ea :: []) X.env = (false, eval ea X.env) :: starEach [] X.env := by rfl) :
    PG' X C W fx (.Raise (some (.Call (.Name cn p) [ea] [] pos)) none pos2) (sRaise cn f' fa) := pg_raise B.calm T B.room B.tk ha (B.gl g).1 B.hmg (B.gl g).2 he rfl
/-- x.append(e) on slot i -/
theorem pd_lop {name : Str} {id : String} {r : V → List V → Hp → VK → Prop} {g : Lop} {fs : M (List D)} (B : Bas X C W k N sc) (lo : LopOk C r g) (hm : MtR X id r) (slot : Slot "list" name id) (hty : typeOf (.builtin id) = pure (.type "method_descriptor")) (hx : nmC N sc i x = true) (ha : PAd X C W (e :: es) fs)
    (hbase : attributeBase (.Name x p) name X.env (eval (.Name x p) X.env) = eval (.Name x p) X.env := by rfl)
    (hfew : ((backTo pos (starEach (e :: es) X.env)).all (fun x => !x.1) && (backToKw pos (keywordEach [] X.env)).all (fun x => x.1.isSome)
      && decide ((e :: es).length + ([] : List Keyword).length + (if ([] : List Keyword).isEmpty then 0 else 1) < 30)) = true := by rfl)
    (hline : (apos.endLine == pos.line) = true := by rfl) (hs : starEach (e :: es) X.env = (false, eval e X.env) :: starEach es X.env := by rfl) (hplain : (backTo pos (starEach es X.env)).any (·.1) = false := by rfl) :
    PD X C W (.Call (.Attribute (.Name x p) name apos) (e :: es) [] pos) (lopM g i fs) :=
  ⟨PE.imp (pe_bm PySem.F.plainAttrs_list slot hty hm (B.pv hx) ha.pa hbase hfew hline hs hplain) fun σ H Q q => lop_read lo σ H Q q⟩
theorem kapp (B : Bas X C W k N sc) (hx : nmC N sc i x = true) (ha : PD X C W e f)
    (hbase : attributeBase (.Name x p) "append" X.env (eval (.Name x p) X.env) = eval (.Name x p) X.env := by rfl)
    (hfew : ((backTo pos (starEach [e] X.env)).all (fun x => !x.1) && (backToKw pos (keywordEach [] X.env)).all (fun x => x.1.isSome)
      && decide (([e] : List Expr).length + ([] : List Keyword).length + (if ([] : List Keyword).isEmpty then 0 else 1) < 30)) = true := by rfl)
    (hline : (apos.endLine == pos.line) = true := by rfl) (hs : starEach (e :: []) X.env = (false, eval e X.env) :: starEach [] X.env := by rfl) (hplain : (backTo pos (starEach [] X.env)).any (·.1) = false := by rfl) :
    PD X C W (.Call (.Attribute (.Name x p) "append" apos) [e] [] pos) (lopM appL i (aCons f aNil)) :=
  pd_lop B lop_app mt_append PySem.F.slot_list_append PySem.F.type_list_append hx (pad_cons ha pad_nil hs) hbase hfew hline hs hplain
theorem kpop (B : Bas X C W k N sc) (hx : nmC N sc i x = true) (ha : PD X C W e f)
    (hbase : attributeBase (.Name x p) "pop" X.env (eval (.Name x p) X.env) = eval (.Name x p) X.env := by rfl)
    (hfew : ((backTo pos (starEach [e] X.env)).all (fun x => !x.1) && (backToKw pos (keywordEach [] X.env)).all (fun x => x.1.isSome)
      && decide (([e] : List Expr).length + ([] : List Keyword).length + (if ([] : List Keyword).isEmpty then 0 else 1) < 30)) = true := by rfl)
    (hline : (apos.endLine == pos.line) = true := by rfl) (hs : starEach (e :: []) X.env = (false, eval e X.env) :: starEach [] X.env := by rfl) (hplain : (backTo pos (starEach [] X.env)).any (·.1) = false := by rfl) :
    PD X C W (.Call (.Attribute (.Name x p) "pop" apos) [e] [] pos) (lopM popL i (aCons f aNil)) :=
  pd_lop B lop_pop mt_popAt PySem.F.slot_list_pop PySem.F.type_list_pop hx (pad_cons ha pad_nil hs) hbase hfew hline hs hplain
end
end FW

set_option Elab.async false
set_option linter.all false
set_option maxRecDepth 100000
set_option maxHeartbeats 2000000
/-! FwQ: comprehensions that are named; things of their own shared, moved, laid in displays; lists within lists. -/
namespace FW
open PySem PySem.Spec PyProof.Rows L2
section
variable {X : Cx} {C : Ct} {W : WX} {fx : List Nat} {k i : Nat} {N : List Str} {sc : Scope} {x : Str} {pos p py spos : Pos} {e ea eb tg iter elt : Expr} {es : List Expr} {f fa fb : M D} {fo fo2 : M O}
  {ifs : List Expr} {scope : Scope} {own : List (Str × Nat)} {fi : M (List D)} {t : Tg} {tt : M Bool} {fe : M D} {ix : List Nat} {gg : TG}
theorem Bas.ll (B : Bas X C W k N sc) (h : llC N sc i x = true) : X.N[i]? = some x ∧ X.env.scope.names.lookup x = some .local := by
  simp only [llC, Bool.and_eq_true, decide_eq_true_eq] at h
  refine ⟨by rw [B.hN]; exact h.1, ?_⟩
  rcases B.scp x _ h.2 with z | ⟨z, _⟩
  · exact z
  · cases z
/-- x = [..] -/
theorem gs_lcD (B : Bas X C W k N sc) (hx : llC N sc i x = true) (hk : X.env.scope.kind = .function) (hi : PIt X C W tg iter fi) (ok : blkC N sc scope own = true) (ht : InB X C W k N scope fun Y => PTg Y C ix tg gg t) (hc : InB X C W k N scope fun Y => PCs Y C W0 ifs tt) (he : InB X C W k N scope fun Y => PD Y C W0 elt fe)
    (hn : (scope.names.any fun (n, k) => n == x && (k == .local || k == .cell)) = false) (hl : (py.line == pos.line) = true := by rfl) (hf : fx.contains i = false := by rfl) (hix : (ix.all fun i => (own.map (·.2)).contains i) = true := by rfl) (hs : ∀ x, foldedSetIterable iter X.env x = pure x := by intro _; rfl) :
    PG' X C W fx (.Assign [.Name x py] (.ListComp elt [⟨tg, iter, ifs, 0⟩] scope pos) spos) (sSet i (shM (lstC (compM fi t tt fe (own.map (·.2)))))) := by
  obtain ⟨h1, h2⟩ := B.ll hx
  refine ⟨PS.imp (ps_setLc B.calm B.ndX h1 h2 (sw_true hk h2 hl hn) hi.pi (B.blkOk ok) (fun s H C' cl fp => (ht s H C' cl fp B.blk).pg) (fun s H C' cl fp => (hc s H C' cl fp B.blk).pt) (fun s H C' cl fp => (he s H C' cl fp B.blk).pe) hs) fun E σ H q => ?_⟩
  exact comp_D (ht X.s_0 H (0 : Nat) [] [] B.blk).rd hix σ H _ (setD_read hf q)
theorem gs_lcO (B : Bas X C W k N sc) (hx : llC N sc i x = true) (hk : X.env.scope.kind = .function) (hi : PIt X C W tg iter fi) (ok : blkC N sc scope own = true) (ht : InB X C W k N scope fun Y => PTg Y C ix tg gg t) (hc : InB X C W k N scope fun Y => PCs Y C W0 ifs tt) (he : InB X C W k N scope fun Y => PD Y C W0 elt fe)
    (hn : (scope.names.any fun (n, k) => n == x && (k == .local || k == .cell)) = false) (hl : (py.line == pos.line) = true := by rfl) (hf : fx.contains i = false := by rfl) (hix : (ix.all fun i => (own.map (·.2)).contains i) = true := by rfl) (hs : ∀ x, foldedSetIterable iter X.env x = pure x := by intro _; rfl) :
    PG' X C W fx (.Assign [.Name x py] (.ListComp elt [⟨tg, iter, ifs, 0⟩] scope pos) spos) (sSet i (olC (compM fi t tt fe (own.map (·.2))))) := by
  obtain ⟨h1, h2⟩ := B.ll hx
  refine ⟨PS.imp (ps_setLc B.calm B.ndX h1 h2 (sw_true hk h2 hl hn) hi.pi (B.blkOk ok) (fun s H C' cl fp => (ht s H C' cl fp B.blk).pg) (fun s H C' cl fp => (hc s H C' cl fp B.blk).pt) (fun s H C' cl fp => (he s H C' cl fp B.blk).pe) hs) fun E σ H q => ?_⟩
  exact comp_O (ht X.s_0 H (0 : Nat) [] [] B.blk).rd hix σ H _ (set_read hf q)
theorem gs_lcZ {j : Nat} (B : Bas X C W k N sc) (hx : llC N sc i x = true) (hk : X.env.scope.kind = .function) (hi : PIt X C W tg iter fi) (ok : blkC N sc scope own = true) (ht : InB X C W k N scope fun Y => PTg Y C ix tg gg t) (hc : InB X C W k N scope fun Y => PCs Y C W0 ifs tt) (he : InB X C W k N scope fun Y => PD Y C W0 elt fe)
    (hn : (scope.names.any fun (n, k) => n == x && (k == .local || k == .cell)) = false) (hl : (py.line == pos.line) = true := by rfl) (hf : fx.contains i = false := by rfl) (hix : (ix.all fun i => (own.map (·.2)).contains i) = true := by rfl) (hs : ∀ x, foldedSetIterable iter X.env x = pure x := by intro _; rfl) :
    PG' X C W fx (.Assign [.Name x py] (.ListComp elt [⟨tg, iter, ifs, 0⟩] scope pos) spos) (sSet i (frzM noLO j (olC (compM fi t tt fe (own.map (·.2)))))) := by
  obtain ⟨h1, h2⟩ := B.ll hx
  refine ⟨PS.imp (ps_setLc B.calm B.ndX h1 h2 (sw_true hk h2 hl hn) hi.pi (B.blkOk ok) (fun s H C' cl fp => (ht s H C' cl fp B.blk).pg) (fun s H C' cl fp => (hc s H C' cl fp B.blk).pt) (fun s H C' cl fp => (he s H C' cl fp B.blk).pe) hs) fun E σ H q => ?_⟩
  exact comp_O (ht X.s_0 H (0 : Nat) [] [] B.blk).rd hix σ H _ (frzO_read σ H _ (set_read hf q))
/-! ### a thing of its own shared from now on; moved out -/
def shrV (i : Nat) : M D := fun δ => match δ[i]? with
  | some o => match frT o with
    | some d => .ok d (δ.set i (.sh d))
    | none => .bad
  | none => .bad
theorem pd_shr (B : Bas X C W k N sc) (h : nmC N sc i x = true) : PD X C W (.Name x pos) (shrV i) := by
  refine ⟨PE.imp (B.pv h) fun σ H Q ⟨S, Fs, δ, w, q⟩ => ?_⟩
  unfold shrV at q
  cases hi : δ[i]? with
  | none => rw [hi] at q; exact q.elim
  | some o =>
    rw [hi] at q
    dsimp only at q
    cases hd : frT o with
    | none => rw [hd] at q; exact q.elim
    | some d =>
      rw [hd] at q
      cases o with
      | ol os =>
        obtain ⟨v, ev, r⟩ := w.sl i _ hi (by simp)
        obtain ⟨rp, allL⟩ := frT_rp _ d v _ r hd
        have fp := RpO.fp _ v _ r
        have w2 := freeze w hi hd
        refine ⟨v, ev, q _ H _ ⟨plus_le fun a ha => (fp a ha).1, fun a o e n t => e, fun a e => e, fun a z => ?_, fun a ps e n => ⟨ps, e⟩, fun j a ha => ?_⟩ w2 v rp⟩
        · unfold plusF at z
          split at z
          · rename_i hm; exact .inr (.inr ⟨i, hm⟩)
          · exact .inl z
        · split at ha
          · cases ha
          · exact .inr ⟨j, ha⟩
      | sh d' =>
        simp only [frT, Option.some.injEq] at hd
        subst hd
        obtain ⟨v, ev, r⟩ := w.sl i _ hi (by simp)
        have e : δ.set i (.sh d') = δ := by
          refine List.ext_getElem? fun j => ?_
          by_cases hj : i = j
          · subst hj; rw [List.getElem?_set_self (List.getElem?_eq_some_iff.mp hi).1, hi]
          · rw [List.getElem?_set_ne hj]
        dsimp only at q
        rw [e] at q
        simp only [RpO] at r
        exact ⟨v, ev, q.now w v r.1⟩
      | _ => simp [frT] at hd
def mvO (i : Nat) : M O := fun δ => match δ[i]? with
  | some (.ol os) => .ok (.ol os) (δ.set i .no)
  | _ => .bad
theorem pn_mv (B : Bas X C W k N sc) (h : nmC N sc i x = true) : PN X C W (.Name x pos) (mvO i) := by
  refine ⟨PE.imp (B.pv h) fun σ H Q ⟨S, Fs, δ, w, q⟩ => ?_⟩
  unfold mvO at q
  cases hi : δ[i]? with
  | none => rw [hi] at q; exact q.elim
  | some o =>
    rw [hi] at q
    cases o with
    | ol os =>
      obtain ⟨v, ev, r⟩ := w.sl i _ hi (by simp)
      have w2 : Wd C S H (fun j => if j = i then [] else Fs j) σ (δ.set i .no) := ⟨w.le, by simp [w.len], fun j o e ne => by
        by_cases hj : j = i
        · subst hj
          rw [List.getElem?_set_self (List.getElem?_eq_some_iff.mp hi).1] at e
          cases e; exact absurd rfl ne
        · rw [List.getElem?_set_ne (Ne.symm hj)] at e
          simp only [hj, if_false]
          exact w.sl j o e ne, fun j l a h1 h2 => by
        split at h1
        · cases h1
        · split at h2
          · cases h2
          · exact w.dj j l a h1 h2, fun j => by
        split
        · exact List.nodup_nil
        · exact w.nd j, fun j a ha => by
        split at ha
        · cases ha
        · exact w.ns j a ha, w.tb⟩
      refine ⟨v, ev, q S H _ ⟨Le.refl S, fun a o e n t => e, fun a e => e, fun a z => .inl z, fun a ps e n => ⟨ps, e⟩, fun j a ha => ?_⟩ w2 v (Fs i) r (w.nd i) (fun a ha j z => ?_) fun a ha => .inr ⟨i, ha⟩⟩
      · split at ha
        · cases ha
        · exact .inr ⟨j, ha⟩
      · split at z
        · cases z
        · rename_i hj
          exact hj (w.dj j i a z ha)
    | _ => exact q.elim
/-! ### x[n] = e, x a list of its own, n a constant, a datum there -/
def sPut (i n : Nat) (f : M D) : G := bS f fun d δ => match δ[i]? with
  | some (.ol ys) => match ys[n]? with
    | some (.sh _) => .nx (δ.set i (.ol (ys.set n (.sh d))))
    | _ => .bad
  | _ => .bad
theorem ixN_nat {n m : Nat} (h : n < m) : ixN m (n : Int) = some n := by
  unfold ixN
  rw [if_pos (by omega), if_pos (by omega)]
  rfl
theorem gs_put {n : Nat} {j : Nat} {p2 p3 : Pos} (B : Bas X C W k N sc) (hx : nmC N sc i x = true) (he : PD X C W e f)
    (ha : ∀ v, assign (.Subscript (.Name x p) (.Constant (.int (n : Int)) j p2) p3) X.env v = (do
      let ov ← holding [v] (eval (.Name x p) X.env)
      let iv ← holding [v, ov] (eval (.Constant (.int (n : Int)) j p2) X.env)
      standAt p3
      holding [v, ov, iv] (setItem ov iv v)
      release [v, ov, iv] []) := by intro _; rfl)
    (hs : swapsWithSole [.Subscript (.Name x p) (.Constant (.int (n : Int)) j p2) p3] e pos.line X.env = pure false := by rfl) (hw : swappedStores [.Subscript (.Name x p) (.Constant (.int (n : Int)) j p2) p3] e X.env = pure none := by rfl)
    (h1 : (assignEach [.Subscript (.Name x p) (.Constant (.int (n : Int)) j p2) p3] X.env).map (·.2) = [assign (.Subscript (.Name x p) (.Constant (.int (n : Int)) j p2) p3) X.env] := by rfl) :
    PG' X C W fx (.Assign [.Subscript (.Name x p) (.Constant (.int (n : Int)) j p2) p3] e pos) (sPut i n f) := by
  refine ⟨PS.imp (ps_asg he.pe (pg_sub (B.pv hx) pe_int set_list ha) hs hw h1) fun E σ H ⟨S, Fs, δ, w, q⟩ => ⟨S, Fs, δ, w, (AftS.expr q).mono fun d S1 H1 F1 δ1 g1 w1 q1 v r1 => ?_⟩⟩
  cases hi : δ1[i]? with
  | none => rw [hi] at q1; exact q1.elim
  | some o =>
    rw [hi] at q1
    cases o with
    | ol ys =>
      dsimp only at q1
      cases hn : ys[n]? with
      | none => rw [hn] at q1; exact q1.elim
      | some o2 =>
        rw [hn] at q1
        cases o2 with
        | sh d0 =>
          obtain ⟨l, vs, F', e1, e2, e3, e4⟩ := w1.upl hi
          have hlt := (List.getElem?_eq_some_iff.mp hn).1
          have hl := RpOL.length e3
          obtain ⟨w2, g2⟩ := e4 (ys.set n (.sh d)) (vs.set n v) (e3.put hn r1)
          refine ⟨_, e1, l, vs, (n : Int), n, rfl, rfl, e2, ixN_nat (by omega), ?_⟩
          exact q1 σ S1 _ F1 g2 w2 fun _ _ => rfl
        | _ => exact q1.elim
    | _ => exact q1.elim
/-! ### x[n].m(..), x a list of its own, a list there -/
def heldL2 (i n : Nat) : M Unit := fun δ => match δ[i]? with
  | some (.ol ys) => match ys[n]? with
    | some (.ol _) => .ok () δ
    | _ => .bad
  | _ => .bad
def lop2S (g : Lop) (i n : Nat) (ds : List D) : M D := fun δ => match δ[i]? with
  | some (.ol ys) => match ys[n]? with
    | some (.ol zs) => match g zs ds with
      | some (r, zs') => .ok r (δ.set i (.ol (ys.set n (.ol zs'))))
      | none => .bad
    | _ => .bad
  | _ => .bad
def lop2M (g : Lop) (i n : Nat) (f : M (List D)) : M D := bnd (heldL2 i n) fun _ => bnd (frzM noLs i f) fun ds => lop2S g i n ds
theorem lop2_read {K : PySem.W.Frag} {r : V → List V → Hp → VK → Prop} {g : Lop} {n : Nat} {fs : M (List D)} (lo : LopOk C r g) (σ : L2.St) (H : Hp) (Q : VK) (q : tD C W (lop2M g i n fs) σ H Q) : tBM K "list" r (tOp (rIx K) (tVar i) (tC (.int (n : Int)))) (tA C W fs) σ H Q := by
  obtain ⟨S, Fs, δ, w, q⟩ := q
  have q0 := Aft.bind q
  unfold heldL2 at q0
  cases hi : δ[i]? with
  | none => rw [hi] at q0; exact q0.elim
  | some oo =>
    rw [hi] at q0
    cases oo with
    | ol ys =>
      dsimp only at q0
      cases hn : ys[n]? with
      | none => rw [hn] at q0; exact q0.elim
      | some o2 =>
        rw [hn] at q0
        cases o2 with
        | ol zs =>
          have q1 := Aft.bind (Aft.now w q0)
          obtain ⟨l, vs, l2, us, F2, e1, e2, e3, e4, e5, _⟩ := w.upl2 hi hn
          obtain ⟨l', vs', F', p1, p2, p3, _⟩ := w.upl hi
          rw [e1] at p1
          cases p1
          rw [e2] at p2
          cases p2
          have hlt := (List.getElem?_eq_some_iff.mp hn).1
          have hvl : n < vs.length := by rw [p3.length]; exact hlt
          -- what stays while the arguments run
          have lF : l ∈ Fs i ∧ l2 ∈ Fs i := by
            obtain ⟨v, ev, r⟩ := w.sl i _ hi (by simp)
            simp only [RpO] at r
            obtain ⟨l3, vs3, F3, z1, z2, z3, z4, z5⟩ := r
            rw [e1] at ev
            cases ev
            cases z1
            rw [e2] at z4
            cases z4
            obtain ⟨v2, vs1, vs2, G1, G2, G3, y1, y2, y3, y4, y5, y6⟩ := z5.at hn
            simp only [RpO] at y5
            obtain ⟨l4, us4, G, x1, x2, x3, x4, x5⟩ := y5
            rw [y1, List.getElem?_append_right (by omega), y3, Nat.sub_self] at e3
            simp only [List.getElem?_cons_zero, Option.some.injEq] at e3
            rw [x1] at e3
            cases e3
            rw [z2]
            exact ⟨List.mem_cons_self, List.mem_cons_of_mem _ (by rw [y2, x2]; simp)⟩
          refine ⟨_, e1, .inl ⟨l, vs, (n : Int), .ref l2, rfl, rfl, SqL.of e2, ?_, .inl ⟨rfl, us, SqL.of e4⟩, ?_⟩⟩
          · unfold atI
            rw [ixN_nat hvl]
            exact e3
          refine frz_aft w q1 (k' := fun ds S' H' _ _ => ∀ us', RpL C S' ds us' → r (.ref l2) us' H' Q) fun ds S' H' F' δ' δn hc w' hF gr wn hk us' rus => ?_
          have rus' : RpL C (minF S' (Fs i)) ds us' := noLs_min (fun a ha => (hF a ha).imp fun _ z => z.1) ds us' hc rus
          unfold lop2S at hk
          cases hi2 : δn[i]? with
          | none => rw [hi2] at hk; exact hk.elim
          | some o3 =>
            rw [hi2] at hk
            cases o3 with
            | ol ys2 =>
              dsimp only at hk
              cases hn2 : ys2[n]? with
              | none => rw [hn2] at hk; exact hk.elim
              | some o4 =>
                rw [hn2] at hk
                cases o4 with
                | ol zs2 =>
                  dsimp only at hk
                  cases eg : g zs2 ds with
                  | none => rw [eg] at hk; exact hk.elim
                  | some rr =>
                    obtain ⟨d, zs3⟩ := rr
                    rw [eg] at hk
                    obtain ⟨m, ms, m2, mus, G2, b1, b2, b3, b4, b5, b6⟩ := wn.upl2 hi2 hn2
                    rw [e1] at b1
                    cases b1
                    obtain ⟨ws, c1, c2⟩ := hF l lF.1
                    have c3 := w'.le l _ c1
                    rw [e2] at c2
                    cases c2
                    rw [c3] at b2
                    cases b2
                    rw [e3] at b3
                    cases b3
                    refine lo _ H' l2 zs2 zs3 mus G2 ds us' d Q wn.le b4 b5 rus' eg fun vs'' z h3 rz => ?_
                    obtain ⟨w3, g3⟩ := b6 zs3 vs'' h3
                    exact hk _ _ _ g3 w3 z rz
                | _ => exact hk.elim
            | _ => exact hk.elim
        | _ => exact q0.elim
    | _ => exact q0.elim
theorem pd_lop2 {name : Str} {id : String} {r : V → List V → Hp → VK → Prop} {g : Lop} {n j : Nat} {fs : M (List D)} {p2 p3 apos : Pos} (B : Bas X C W k N sc) (lo : LopOk C r g) (hm : MtR X id r) (slot : Slot "list" name id) (hty : typeOf (.builtin id) = pure (.type "method_descriptor")) (hx : nmC N sc i x = true) (ha : PAd X C W (e :: es) fs)
    (hbase : attributeBase (.Subscript (.Name x p) (.Constant (.int (n : Int)) j p2) p3) name X.env (eval (.Subscript (.Name x p) (.Constant (.int (n : Int)) j p2) p3) X.env) = eval (.Subscript (.Name x p) (.Constant (.int (n : Int)) j p2) p3) X.env := by rfl)
    (hfew : ((backTo pos (starEach (e :: es) X.env)).all (fun x => !x.1) && (backToKw pos (keywordEach [] X.env)).all (fun x => x.1.isSome)
      && decide ((e :: es).length + ([] : List Keyword).length + (if ([] : List Keyword).isEmpty then 0 else 1) < 30)) = true := by rfl)
    (hline : (apos.endLine == pos.line) = true := by rfl) (hs : starEach (e :: es) X.env = (false, eval e X.env) :: starEach es X.env := by rfl) (hplain : (backTo pos (starEach es X.env)).any (·.1) = false := by rfl) :
    PD X C W (.Call (.Attribute (.Subscript (.Name x p) (.Constant (.int (n : Int)) j p2) p3) name apos) (e :: es) [] pos) (lop2M g i n fs) :=
  ⟨PE.imp (pe_bm PySem.F.plainAttrs_list slot hty hm (pe_ix ix_seq (B.pv hx) pe_int (fun _ _ => rfl)) ha.pa hbase hfew hline hs hplain) fun σ H Q q => lop2_read lo σ H Q q⟩
end
end FW

set_option Elab.async false
set_option linter.all false
set_option maxRecDepth 100000
set_option maxHeartbeats 2000000
/-! FwR: several things of their own at once. -/
namespace FW
open PySem PySem.Spec PyProof.Rows L2
def tAo (C : Ct) (W : WX) (f : M (List O)) : TA := fun σ H Q => ∃ S Fs δ, Wd C S H Fs σ δ ∧ Aft C W σ S H Fs (f δ) fun os S' H' Fs' _ =>
  ∀ vs F, RpOL C S' H' os vs F → F.Nodup → (∀ a ∈ F, ∀ i, a ∉ Fs' i) → (∀ a ∈ F, H a = none ∨ ∃ j, a ∈ Fs j) → Q vs H'
structure PAo (X : Cx) (C : Ct) (W : WX) (es : List Expr) (f : M (List O)) : Prop where
  pa : PA X es (tAo C W f)
def oNil : M (List O) := ret []
def oCons (f : M O) (g : M (List O)) : M (List O) := bnd f fun o => bnd g fun os => ret (o :: os)
section
variable {X : Cx} {C : Ct} {W : WX} {fx : List Nat} {k i j l : Nat} {N : List Str} {sc : Scope} {x y z : Str} {pos p py pz pt spos : Pos} {e ea eb ec : Expr} {es : List Expr} {f fa fb : M D} {fo : M O} {g : M (List O)}
theorem pao_nil : PAo X C W [] oNil := ⟨PA.imp pa_nil fun σ H Q ⟨S, Fs, δ, w, q⟩ => q.now w [] [] (by simp only [RpOL]; exact ⟨trivial, trivial⟩) List.nodup_nil (fun _ z => nomatch z) fun _ z => nomatch z⟩
theorem RpOL.grow {S H S' H' : Hp} {Fs Fs' : Nat → List Addr} {os : List O} {vs : List V} {F : List Addr} (g : Grow S H Fs S' H' Fs') (h : RpOL C S H os vs F) (d : ∀ a ∈ F, ∀ i, a ∉ Fs i) : RpOL C S' H' os vs F ∧ ∀ a ∈ F, ∀ i, a ∉ Fs' i := by
  induction os generalizing vs F with
  | nil =>
    simp only [RpOL] at h ⊢
    refine ⟨h, fun a ha => by rw [h.2] at ha; cases ha⟩
  | cons o os ih =>
    simp only [RpOL] at h ⊢
    obtain ⟨v, r, F1, F2, h1, h2, h3, h4⟩ := h
    subst h2
    obtain ⟨q1, q2⟩ := RpO.grow g h3 fun a ha => d a (List.mem_append_left _ ha)
    obtain ⟨q3, q4⟩ := ih h4 fun a ha => d a (List.mem_append_right _ ha)
    exact ⟨⟨v, r, F1, F2, h1, rfl, q1, q3⟩, fun a ha => (List.mem_append.mp ha).elim (q2 a) (q4 a)⟩
theorem pao_cons (ha : PN X C W e fo) (hr : PAo X C W es g) (hs : starEach (e :: es) X.env = (false, eval e X.env) :: starEach es X.env := by rfl) : PAo X C W (e :: es) (oCons fo g) := by
  refine ⟨PA.imp (pa_cons ha.pe hr.pa hs) fun σ H Q ⟨S, Fs, δ, w, q⟩ => ⟨S, Fs, δ, w, ?_⟩⟩
  have q := Aft.bind q
  cases ef : fo δ with
  | bad => rw [ef] at q; exact q
  | er xx δ' => rw [ef] at q; exact q
  | ok o δ' =>
    rw [ef] at q
    intro S1 H1 F1 g1 w1 v Fo r1 n1 d1 fr1
    have q1 := q S1 H1 F1 g1 w1
    refine ⟨S1, F1, δ', w1, (Aft.bind q1).mono fun os S2 H2 F2 δ2 g2 w2 q2 vs Fr r2 n2 d2 fr2 => ?_⟩
    obtain ⟨r1', d1'⟩ := RpO.grow g2 r1 d1
    refine q2.now w2 (v :: vs) (Fo ++ Fr) (by simp only [RpOL]; exact ⟨v, vs, Fo, Fr, rfl, rfl, r1', r2⟩) ?_ (fun a ha i z => ?_) fun a ha => ?_
    · refine List.nodup_append.mpr ⟨n1, n2, fun a h1 b h2 e => ?_⟩
      subst e
      rcases fr2 a h2 with z | ⟨j, z⟩
      · exact (RpO.fp o v Fo r1 a h1).2.1 z
      · exact d1 a h1 j z
    · rcases List.mem_append.mp ha with ha | ha
      · exact d1' a ha i z
      · exact d2 a ha i z
    · rcases List.mem_append.mp ha with ha | ha
      · exact fr1 a ha
      · exact g1.back fr2 a ha
/-- [..] of things of their own -/
def olMO (f : M (List O)) : M O := bnd f fun os => if os.length ≤ 16777216 then ret (.ol os) else bad
theorem pn_lstO (h : PAo X C W es g) : PN X C W (.List es pos) (olMO g) := by
  refine ⟨PE.imp (pe_lst h.pa) fun σ H Q ⟨S, Fs, δ, w, q⟩ => ⟨S, Fs, δ, w, ?_⟩⟩
  have q := Aft.bind q
  cases ef : g δ with
  | bad => rw [ef] at q; exact q
  | er xx δ' => rw [ef] at q; exact q
  | ok os δ' =>
    rw [ef] at q
    intro S1 H1 F1 g1 w1 vs F r1 n1 d1 fr1
    have q1 := q S1 H1 F1 g1 w1
    dsimp only at q1
    split at q1
    · rename_i hz
      refine ⟨by rw [RpOL.length r1]; exact big_le hz, fun p hp => ?_⟩
      have hs : S1 p = none := w1.le.none hp
      have lH := Le.upd (o := .lst vs) hp
      have nF : p ∉ F := fun z => (RpOL.fp os vs F r1 p z).2.1 hp
      refine q1.newly w1 (Le.refl S1) lH (fun a h => .inl h) (w1.le.trans lH) (.ref p) (p :: F) ?_ (List.nodup_cons.mpr ⟨nF, n1⟩) (fun a ha i z => ?_) fun a ha => ?_
      · simp only [RpO]
        exact ⟨p, vs, F, rfl, rfl, hs, upd_same, RpOL.mono (Le.refl _) os vs F (fun a ha h1 h2 _ => ⟨h1, upd_ne fun z => nF (by rw [← z]; exact ha)⟩) r1⟩
      · rcases List.mem_cons.mp ha with rfl | ha
        · exact (w1.ns i a z).2.1 hp
        · exact d1 a ha i z
      · rcases List.mem_cons.mp ha with rfl | ha
        · exact .inl (Classical.byContradiction fun z => g1.th a z hp)
        · exact fr1 a ha
    · exact q1.elim
/-- list(x), a new list of its own -/
def olL (f : M D) : M O := bnd f fun d => match listD d with
  | some ds => ret (.ol (ds.map .sh))
  | none => bad
theorem cg_listO (hK : C.K = X.K) : CallR X (.type "list") (fun xs H Q => ∃ v S d ds, xs = [v] ∧ Le S H ∧ RpB C S H d v ∧ listD d = some ds ∧ ∀ vs l, RpL C S ds vs → H l = none → Q (.ref l) (upd H l (.lst vs))) := by
  intro pins s σ H xs us Q I rv ⟨v, S, d, ds, e1, le, rd, eg, new⟩
  subst e1
  unfold listD at eg
  split at eg
  · cases eg
    obtain ⟨a, vs, rfl, h1, r1⟩ := rd.l le
    exact call_list_of pins s σ H _ us Q I rv ⟨a, vs, rfl, .inl (SqL.of h1), fun l hl => new vs l r1 hl⟩
  · cases eg
    obtain ⟨a, vs, rfl, h1, r1⟩ := rd.t le
    rw [hK] at h1
    exact call_list_of pins s σ H _ us Q I rv ⟨a, vs, rfl, .inr h1, fun l hl => new vs l r1 hl⟩
  · cases eg
theorem klistO (B : Bas X C W k N sc) (hg : glC sc "list" = true) (hm : C.mg "list" = none) (ha : PD X C W ea fa) (hs : starEach (ea :: []) X.env = (false, eval ea X.env) :: starEach [] X.env := by rfl) : PN X C W (.Call (.Name "list" p) [ea] [] pos) (olL fa) := by
  refine ⟨PE.imp (pe_callTy (cg_listO (C := C) B.hK) (B.gl hg).1 (by rw [← B.hmg]; exact hm) (by decide +kernel) (pa_1D ha hs) (by decide) (B.gl hg).2 hs rfl) fun σ H Q ⟨S, Fs, δ, w, q⟩ => ⟨S, Fs, δ, w, (Aft.bind q).mono fun d S1 H1 F1 δ1 g1 w1 q1 v r1 => ?_⟩⟩
  cases ed : listD d with
  | none => rw [ed] at q1; exact q1.elim
  | some ds =>
    rw [ed] at q1
    exact ⟨v, S1, d, ds, rfl, w1.le, .inl r1, ed, fun vs l rv hl => own_new w1 rv hl g1 q1⟩
/-! ### a, b = x, y -/
theorem sw_par2 {env : Env} {x y : Str} {a b : Expr} {px py pt pt2 : Pos} {kt k2} (hk : env.scope.kind = .function) (hx : env.scope.names.lookup x = some .local) (hy : env.scope.names.lookup y = some .local) (ne : (x == y) = false) (hl : (py.line == px.line) = true)
    (h1 : ([a, b].any fun | .Starred .. => true | _ => false) = false) (h2 : [a, b].all (foldedForSure 8) = false) (h3 : [a, b].all (constantsAlone 8) = false) :
    swappedStores [.Tuple [.Name x px, .Name y py] kt pt] (.Tuple [a, b] k2 pt2) env = pure (some [x, y]) := by
  have hb : env.blockKind = .function := by unfold Env.blockKind; rw [hk]; rfl
  have kx : env.kindOf x = some .local := hx
  have ky : env.kindOf y = some .local := hy
  have ne' : (y == x) = false := by
    cases q : (y == x) with
    | false => rfl
    | true => rw [beq_iff_eq] at q; subst q; simp at ne
  unfold swappedStores
  simp only [List.length_cons, List.length_nil, hb, h1, h2, h3, List.filterMap_cons, List.filterMap_nil, kx, ky, Expr.pos, List.head?_cons, Option.map_some, Option.getD_some, hl, beq_self_eq_true, Bool.and_self, if_true, Bool.and_true, Bool.false_eq_true, if_false]
  rw [if_neg (by decide), if_neg (by rw [Bool.not_eq_true]; exact h1)]
  have ed : [x, y].eraseDups = [x, y] := by simp [List.eraseDups_cons, ne, ne', List.filter]
  rw [ed, if_neg (by simp)]
def sPar (is : List Nat) (f : M (List O)) : G := bS f fun os δ => match is, os with
  | [i, j], [a, b] => .nx ((δ.set i a).set j b)
  | [i, j, l], [a, b, c] => .nx (((δ.set i a).set j b).set l c)
  | _, _ => .bad
theorem gs_par2 {kt k2} {pt2 : Pos} (B : Bas X C W k N sc) (hx : llC N sc i x = true) (hy : llC N sc j y = true) (hij : i ≠ j) (hxy : (x == y) = false) (hk : X.env.scope.kind = .function) (ha : PAo X C W [ea, eb] g) (hi : fx.contains i = false := by rfl) (hj : fx.contains j = false := by rfl)
    (hl : (py.line == p.line) = true := by rfl) (h1 : ([ea, eb].any fun | .Starred .. => true | _ => false) = false := by rfl) (h2 : [ea, eb].all (foldedForSure 8) = false := by rfl) (h3 : [ea, eb].all (constantsAlone 8) = false := by rfl)
    (hs : swapsWithSole [.Tuple [.Name x p, .Name y py] kt pt] (.Tuple [ea, eb] k2 pt2) pos.line X.env = pure false := by rfl) : PG' X C W fx (.Assign [.Tuple [.Name x p, .Name y py] kt pt] (.Tuple [ea, eb] k2 pt2) pos) (sPar [i, j] g) := by
  obtain ⟨a1, a2⟩ := B.ll hx
  obtain ⟨b1, b2⟩ := B.ll hy
  refine ⟨PS.imp (ps_par B.calm B.ndX a1 b1 hij a2 b2 ha.pa (sw_par2 hk a2 b2 hxy hl h1 h2 h3) hs) fun E σ H ⟨S, Fs, δ, w, q⟩ => ⟨S, Fs, δ, w, ?_⟩⟩
  unfold sPar bS at q
  cases ef : g δ with
  | bad => rw [ef] at q; exact q
  | er xx δ' => rw [ef] at q; exact fun cls dd S' H' Fs' g' w' => q σ cls dd S' H' Fs' g' w' fun _ _ => rfl
  | ok os δ' =>
    rw [ef] at q
    dsimp only at q
    intro S1 H1 F1 g1 w1 vs F r n d fr
    match os, q, r with
    | [o1, o2], q, r =>
      simp only [RpOL] at r
      obtain ⟨v, r1, G1, G2, e1, e2, e3, v', r2, G3, G4, e4, e5, e6, e7, e8⟩ := r
      subst e1; subst e4; subst e7; subst e8; subst e5; subst e2
      rw [List.append_nil] at n d fr
      have nd := List.nodup_append.mp n
      have w2 := w1.set (i := i) e3 nd.1 fun a ha j _ => d a (List.mem_append_left _ ha) j
      have w3 := w2.set (i := j) e6 nd.2.1 fun a ha j' hj' z => by
        split at z
        · exact nd.2.2 a z a ha rfl
        · exact d a (List.mem_append_right _ ha) j' z
      refine ⟨v, v', rfl, q _ S1 H1 _ ((g1.set (i := i) fun a ha => fr a (List.mem_append_left _ ha)).set (i := j) fun a ha => fr a (List.mem_append_right _ ha)) w3 fun m hm => ?_⟩
      rw [fx_set hj m hm, fx_set hi m hm]
    | [], q, r => exact q.elim
    | [_], q, r => exact q.elim
    | _ :: _ :: _ :: _, q, r => exact q.elim
theorem sw_par3 {env : Env} {x y z : Str} {a b c : Expr} {px py pz pt pt2 : Pos} {kt k2} (hk : env.scope.kind = .function) (hx : env.scope.names.lookup x = some .local) (hy : env.scope.names.lookup y = some .local) (hz : env.scope.names.lookup z = some .local)
    (n1 : (x == y) = false) (n2 : (x == z) = false) (n3 : (y == z) = false) (hl : (py.line == px.line) = true) (hl2 : (pz.line == px.line) = true)
    (h1 : ([a, b, c].any fun | .Starred .. => true | _ => false) = false) (h2 : [a, b, c].all (foldedForSure 8) = false) (h3 : [a, b, c].all (constantsAlone 8) = false) :
    swappedStores [.Tuple [.Name x px, .Name y py, .Name z pz] kt pt] (.Tuple [a, b, c] k2 pt2) env = pure (some [x, y, z]) := by
  have hb : env.blockKind = .function := by unfold Env.blockKind; rw [hk]; rfl
  have kx : env.kindOf x = some .local := hx
  have ky : env.kindOf y = some .local := hy
  have kz : env.kindOf z = some .local := hz
  have sym : ∀ {u v : Str}, (u == v) = false → (v == u) = false := fun {u v} h => by
    cases q : (v == u) with
    | false => rfl
    | true => rw [beq_iff_eq] at q; subst q; simp at h
  unfold swappedStores
  simp only [List.length_cons, List.length_nil, hb, h1, h2, h3, List.filterMap_cons, List.filterMap_nil, kx, ky, kz, Expr.pos, List.head?_cons, Option.map_some, Option.getD_some, hl, hl2, beq_self_eq_true, Bool.and_self, if_true, Bool.and_true, Bool.false_eq_true, if_false]
  rw [if_neg (by decide), if_neg (by rw [Bool.not_eq_true]; exact h1)]
  have ed : [x, y, z].eraseDups = [x, y, z] := by simp [List.eraseDups_cons, n1, n2, n3, sym n1, sym n2, sym n3, List.filter]
  rw [ed, if_neg (by simp)]
theorem gs_par3 {kt k2} {pt2 : Pos} (B : Bas X C W k N sc) (hx : llC N sc i x = true) (hy : llC N sc j y = true) (hz : llC N sc l z = true) (hij : i ≠ j) (hil : i ≠ l) (hjl : j ≠ l) (hxy : (x == y) = false) (hxz : (x == z) = false) (hyz : (y == z) = false) (hk : X.env.scope.kind = .function)
    (ha : PAo X C W [ea, eb, ec] g) (hi : fx.contains i = false := by rfl) (hj : fx.contains j = false := by rfl) (hll : fx.contains l = false := by rfl)
    (hl : (py.line == p.line) = true := by rfl) (hl2 : (pz.line == p.line) = true := by rfl) (h1 : ([ea, eb, ec].any fun | .Starred .. => true | _ => false) = false := by rfl) (h2 : [ea, eb, ec].all (foldedForSure 8) = false := by rfl) (h3 : [ea, eb, ec].all (constantsAlone 8) = false := by rfl)
    (hs : swapsWithSole [.Tuple [.Name x p, .Name y py, .Name z pz] kt pt] (.Tuple [ea, eb, ec] k2 pt2) pos.line X.env = pure false := by rfl) : PG' X C W fx (.Assign [.Tuple [.Name x p, .Name y py, .Name z pz] kt pt] (.Tuple [ea, eb, ec] k2 pt2) pos) (sPar [i, j, l] g) := by
  obtain ⟨a1, a2⟩ := B.ll hx
  obtain ⟨b1, b2⟩ := B.ll hy
  obtain ⟨c1, c2⟩ := B.ll hz
  refine ⟨PS.imp (ps_par3 B.calm B.ndX a1 b1 c1 hij hil hjl a2 b2 c2 ha.pa (sw_par3 hk a2 b2 c2 hxy hxz hyz hl hl2 h1 h2 h3) hs) fun E σ H ⟨S, Fs, δ, w, q⟩ => ⟨S, Fs, δ, w, ?_⟩⟩
  unfold sPar bS at q
  cases ef : g δ with
  | bad => rw [ef] at q; exact q
  | er xx δ' => rw [ef] at q; exact fun cls dd S' H' Fs' g' w' => q σ cls dd S' H' Fs' g' w' fun _ _ => rfl
  | ok os δ' =>
    rw [ef] at q
    dsimp only at q
    intro S1 H1 F1 g1 w1 vs F r n d fr
    match os, q, r with
    | [o1, o2, o3], q, r =>
      simp only [RpOL] at r
      obtain ⟨v, r1, G1, G2, e1, e2, e3, v', r2, G3, G4, e4, e5, e6, v'', r3, G5, G6, e7, e8, e9, e10, e11⟩ := r
      subst e1; subst e4; subst e7; subst e10; subst e11; subst e8; subst e5; subst e2
      rw [List.append_nil] at n d fr
      have nd := List.nodup_append.mp n
      have nd2 := List.nodup_append.mp nd.2.1
      have w2 := w1.set (i := i) e3 nd.1 fun a ha j _ => d a (List.mem_append_left _ ha) j
      have w3 := w2.set (i := j) e6 nd2.1 fun a ha j' hj' z => by
        split at z
        · exact nd.2.2 a z a (List.mem_append_left _ ha) rfl
        · exact d a (List.mem_append_right _ (List.mem_append_left _ ha)) j' z
      have w4 := w3.set (i := l) e9 nd2.2.1 fun a ha j' hj' z => by
        split at z
        · exact nd2.2.2 a z a ha rfl
        · split at z
          · exact nd.2.2 a z a (List.mem_append_right _ ha) rfl
          · exact d a (List.mem_append_right _ (List.mem_append_right _ ha)) j' z
      refine ⟨v, v', v'', rfl, q _ S1 H1 _ (((g1.set (i := i) fun a ha => fr a (List.mem_append_left _ ha)).set (i := j) fun a ha => fr a (List.mem_append_right _ (List.mem_append_left _ ha))).set (i := l) fun a ha => fr a (List.mem_append_right _ (List.mem_append_right _ ha))) w4 fun m hm => ?_⟩
      rw [fx_set hll m hm, fx_set hj m hm, fx_set hi m hm]
    | [], q, r => exact q.elim
    | [_], q, r => exact q.elim
    | [_, _], q, r => exact q.elim
    | _ :: _ :: _ :: _ :: _, q, r => exact q.elim
end
end FW

set_option Elab.async false
set_option linter.all false
set_option maxRecDepth 100000
set_option maxHeartbeats 2000000
/-! FwS: what a printed text starts from. -/
namespace FW
open PySem PySem.Spec PyProof.Rows L2
/-- the names of built-ins that the program does not bind -/
def bltNames : List Str := ["isinstance", "int", "bool", "str", "list", "tuple", "len", "abs", "all", "any", "sum", "max", "min", "range", "enumerate", "sorted", "repr", "zip", "set", "reversed"]
def BLT (mg : Str → Option Value) : Prop := ∀ x ∈ bltNames, mg x = none
theorem BLT.at {mg : Str → Option Value} (h : BLT mg) (x : Str) (m : bltNames.contains x = true) : mg x = none := h x (List.contains_iff_mem.mp m)
section
variable {X : Cx} {C : Ct} {W : WX} {fx : List Nat} {k : Nat} {N : List Str} {sc : Scope} {pos p : Pos} {es : List Expr} {ea eb : Expr} {fa fb : M D}
theorem ktt {kk : Nat} {gs : TGs} {ts : List Tg} {ix : List Nat} (B : Bas X C W k N sc) (h : PTgs X C ix es gs ts) (hl : ts.length = es.length := by rfl) (hn : (assignEach es X.env).length = es.length := by rfl) (hst : (assignEach es X.env).findIdx? (·.1) = none := by rfl) :
    PTg X C ix (.Tuple es kk pos) (gTup X.K es.length gs) (tgTup ts) := ptg_tup h hl (pg_tup B.calm h.pg hn hst) B.hK
/-- xs + ys, a new list of its own -/
def catD : D → D → Option (List D)
  | .lst xs, .lst ys => if xs.length + ys.length ≤ 16777216 then some (xs ++ ys) else none
  | _, _ => none
def olN (ds : List D) : O := .ol (ds.map .sh)
def addO (fa fb : M D) : M O := bnd fa fun x => bnd fb fun y => bnd (opt (catD x y)) fun ds => ret (.ol (ds.map .sh))
theorem kaddO (ha : PD X C W ea fa) (hb : PD X C W eb fb) : PN X C W (.BinOp ea .Add eb pos) (addO fa fb) := by
  refine ⟨PE.imp (pe_op op_cat ha.pe hb.pe) fun σ H Q ⟨S, Fs, δ, w, q⟩ => ⟨S, Fs, δ, w, (Aft.bind q).mono fun x S1 H1 F1 δ1 g1 w1 q1 v r1 => ⟨S1, F1, δ1, w1, (Aft.bind q1).mono fun y S2 H2 F2 δ2 g2 w2 q2 u r2 => ?_⟩⟩⟩
  have q2 := Aft.bind q2
  cases ec : catD x y with
  | none => rw [ec] at q2; exact q2.elim
  | some ds =>
    rw [ec] at q2
    have q3 := Aft.now w2 q2
    unfold catD at ec
    split at ec
    · rename_i xs ys
      split at ec
      · rename_i hz
        cases ec
        simp only [Rp] at r1 r2
        obtain ⟨a, vs, rfl, h2, h3⟩ := r1
        obtain ⟨b, us, rfl, h5, h6⟩ := r2
        have h3' := h3.mono g2.ls
        refine ⟨a, b, vs, us, rfl, rfl, w2.le a _ (g2.ls a _ h2), w2.le b _ h5, by rw [RpL.length _ _ h3, RpL.length _ _ h6]; exact big_le hz, fun p hp => ?_⟩
        exact own_new w2 (RpL.append _ _ _ _ h3' h6) hp (g1.trans g2) q3
      · cases ec
    · cases ec
end
section
variable {P : Program} {w : World} {K : PySem.W.Frag} {mg : Str → Option Value} {base : Heap} {k : Nat} {fa cda : Addr} {x : Str} {st : Stmt} {fd : FuncData} {N ps : List Str} {C : Ct} {fx : List Nat} {g : G}
/-- the context of a def's body, with its facts -/
abbrev DCx (P : Program) (w : World) (K : PySem.W.Frag) (mg : Str → Option Value) (base : Heap) (N : List Str) (x : Str) (sc : Scope) (f : Addr) (cdv : Value) (A : Around) (outer : List Env) (s : Shared) (H : Hp) (E : XK) : Cx := cxOf (L2.CX P w) P w K mg base N x sc f cdv A outer s H E
theorem bst_def {sc : Scope} {cdv : Value} {A : Around} {outer : List Env} {s : Shared} {H : Hp} {E : XK} (hK : C.K = K) (hmg : C.mg = mg) (nd : N.Nodup) (hr : Room k (A.deeper (envOfC x sc s.heap.objs.size fa cdv))) (hgu : (A.deeper (envOfC x sc s.heap.objs.size fa cdv)).guards = some []) :
    Bst (DCx P w K mg base N x sc fa cdv A outer s H E) C (fun cls d _ H' => E cls d H') k N sc where
  b := ⟨rfl, nd, rfl, hK, hmg, takes_of rfl rfl rfl rfl, hr, hgu, fun y kd h => .inl h, fun _ _ => rfl⟩
  po := passes_of rfl
  hs := rfl
  hf := rfl
theorem cal_of (F : Fun K x x st fa fd) (hm : mg x = some (.ref fa)) (hb : Binds K fd ps []) (Sc : FnScope N ps (defScope st)) (hN : ps.length ≤ N.length) (hK : C.K = K) (hmg : C.mg = mg)
    (hbody : ∀ (cdv : Value) (A : Around) (outer : List Env) (s : Shared) (H : Hp) (E : XK), Bst (DCx P w K mg base N x (defScope st) fa cdv A outer s H E) C (fun cls d _ H' => E cls d H') k N (defScope st) → fd.code = cdv →
      PGs' (DCx P w K mg base N x (defScope st) fa cdv A outer s H E) C (fun cls d _ H' => E cls d H') fx (defBody st) g) : Cal P w K mg base C x ps (k + 1) (runF ps.length N.length fx g) :=
  ⟨⟨fa, fd, hm, F.kp, hb, fnG_of F Sc hN fun cdv A outer s H E hr hgu hcd => hbody cdv A outer s H E (bst_def hK hmg Sc.nd hr hgu) hcd⟩, runF_len _ _ _ _⟩
end
end FW

set_option Elab.async false
set_option linter.all false
set_option maxRecDepth 100000
set_option maxHeartbeats 2000000
/-! FwT: sorted and repr over data. -/
namespace FWS
open PySem PySem.W PySem.Calls PyProof.Rows
open Sem (wp)
section
variable {prog : Program} {w : World} {A : Around} {E : Value → Shared → Prop} {s : Shared}
/-- a tuple's things, collected -/
theorem collect_tup {t : Addr} {vs : List Value} {Q : List Value → Shared → Prop} (ht : s.heap.IsTuple t vs.toArray)
    (h : Q vs { s with heap := (s.heap.push (seqObj "list" #[] 0)).update s.heap.objs.size (Obj.mapSeq (· ++ vs.toArray)) }) (hsz : vs.length ≤ sizeLine) : wpAny (model prog w) A (collect (.ref t)) Q E s := by
  obtain ⟨o, ho, hc, n, hd⟩ := id ht
  have e0 : (s.heap.push (seqObj "list" #[] 0)).get? s.heap.objs.size = some (seqObj "list" #[] 0) := Heap.get?_push_size _ rfl
  have o0 : (s.heap.push (seqObj "list" #[] 0)).get? t = some o := Heap.get?_push_of_some _ ho
  unfold collect
  refine wpAny_bind (wpAny_runValue (codeAny_builtin entry_proto_collect' ?_))
  show wpAny _ _ (do again (.builtin "list.__iadd__" ⟨[← newList [], .ref t], []⟩)) _ _ s
  refine wpAny_bind (wpAny_newList (wpAny_pure ⟨Code.quiet_builtin _ (by decide +kernel), codeAny_builtin entry_list_iadd' ?_⟩))
  show wpAny _ _ (Builtin.List.listExtendWith (.ref s.heap.objs.size) (.ref t) (.ref s.heap.objs.size)) _ _ { s with heap := s.heap.push (seqObj "list" #[] 0) }
  unfold Builtin.List.listExtendWith
  refine wpAny_bind (wpAny_typeOf (T := "tuple") ⟨o, o0, hc⟩ ?_)
  have ty : (Value.type "tuple" == Value.type "tuple") = true := by rfl
  rw [if_pos (by rw [ty]; simp)]
  refine wpAny_bind (listItems_at o0 hd ?_)
  refine wpAny_bind (listItems_at (xs := #[]) (n := 0) e0 rfl ?_)
  rw [if_neg (by simp)]
  refine wpAny_bind (listUpdate_at (xs := #[]) (n := 0) e0 rfl ?_ (Nat.zero_le _) (by show (#[] ++ vs.toArray).size ≤ sizeLine + 1; simp only [Array.size_append, List.size_toArray, List.length_nil]; omega))
  refine wpAny_pure ?_
  show wpAny (model prog w) A (do
      let o ← load s.heap.objs.size
      match o.data with
      | .seq xs _ => pure xs.toList
      | _ => unsupported "internal:collect") Q E { s with heap := (s.heap.push (seqObj "list" #[] 0)).update s.heap.objs.size (Obj.mapSeq (· ++ vs.toArray)) }
  refine wpAny_bind (wpAny_load (get?_update_seq e0 _) ?_)
  show wpAny _ _ (pure ((#[] : Array Value) ++ vs.toArray).toList) Q E _
  rw [show ((#[] : Array Value) ++ vs.toArray).toList = vs by simp]
  exact wpAny_pure h
/-- sorted(t), t a tuple -/
theorem sorted_tup {t : Addr} {vs : List Value} {κ} {Q : Value → Shared → Prop} (ht : s.heap.IsTuple t vs.toArray) (S : SortsAt prog w A.in1.in1 { s with heap := sortingHeap (copyHeap s.heap vs) (s.heap.objs.size + 1) vs } κ vs) (hL : vs.length ≤ sizeLine)
    (h : Q (.ref (s.heap.objs.size + 1)) { s with heap := sortedAll s.heap vs (sortVals κ false vs vs).toArray }) : wpAny (model prog w) A (call (.builtin "sorted") [.ref t]) Q E s := by
  refine call_function_entry_kw kind_sorted plain_sorted entry_sorted (args_sorted1 _) ?_
  unfold Builtin.«sorted»
  refine wpAny_bind (m := checkCount "sorted" 1 1 _) (wpAny_pure ?_)
  refine wpAny_bind (collect_tup ht ?_ hL)
  refine wpAny_bind (wpAny_newList ?_ hL)
  have hsz : ((s.heap.push (seqObj "list" #[] 0)).update s.heap.objs.size (Obj.mapSeq (· ++ vs.toArray))).objs.size = s.heap.objs.size + 1 := by
    rw [Heap.size_update, size_push']
  show wpAny _ _ _ _ _ { s with heap := copyHeap s.heap vs }
  rw [hsz]
  refine wpAny_bind (wpAny_holding (wpAny_call_entry_kw slot_list_sort ⟨_, copyHeap_at s.heap vs, rfl⟩ entry_list_sort ?body (args_list_sort _)))
  case body =>
    refine wpAny_mono (list_sort_vals (P := fun f s' => f = .done (.ret .none) ∧ Q (.ref (s.heap.objs.size + 1)) s') (s := { s with heap := copyHeap s.heap vs }) (copyHeap_at s.heap vs) S hL ⟨rfl, h⟩) (fun f s' hf => ?_) fun _ _ e => e
    obtain ⟨rfl, hq⟩ := hf
    exact ⟨_, rfl, wpAny_pure ⟨_, rfl, hq⟩⟩
theorem sorted_tup_data {β : Type} {bs : List β} {enc : β → PyData} {R : Value → β → Prop} {vs : List Value} {t : Addr} {Q : Value → Shared → Prop} (ht : s.heap.IsTuple t vs.toArray) (e : EachIs R vs bs) (er : EachIs (fun v b => ∃ as, Reads s.heap v (enc b) as) vs bs) (hal : AllAlike (bs.map enc)) (hk : Sortable (bs.map enc)) (hL : bs.length ≤ sizeLine)
    (hu : ∀ b, b ∈ bs → A.units + 2 + (enc b).depth < cLine) (h : ∀ out, out.length = bs.length → EachIs R out (bs.mergeSort (dataLe false enc)) → Q (.ref (s.heap.objs.size + 1)) { s with heap := sortedAll s.heap vs (List.toArray out) }) :
    wpAny (model prog w) A (call (.builtin "sorted") [.ref t]) Q E s := by
  have er' : EachIs (fun v b => ∃ as, Reads (sortingHeap (copyHeap s.heap vs) (s.heap.objs.size + 1) vs) v (enc b) as) vs bs := er.mono fun _ _ ⟨as, r⟩ => ⟨as, PyProof.Rows.Reads.keeps (fun _ _ => sorting_copy_old) r⟩
  exact sorted_tup ht (SortsAt.data (s := { s with heap := sortingHeap (copyHeap s.heap vs) (s.heap.objs.size + 1) vs }) (each_map (R := fun v d => ∃ as, Reads (sortingHeap (copyHeap s.heap vs) (s.heap.objs.size + 1) vs) v d as) enc er') hal hk (bound_map hu)) (by rw [e.length]; exact hL)
    (h _ (by rw [sortVals_length false rfl]; exact e.length) (sortVals_data false e er' hal))
end
end FWS
namespace FW
open PySem PySem.Spec PyProof.Rows L2
def encD (d : D) : PyData := d.py.getD .none
/-- Python's order, from the left -/
def leK (d e : D) : Bool := PySem.W.dataLe false encD d e
def canSort (ps : List PyData) : Bool := (ps.all fun d => ps.all fun e => PySem.W.alike d e) && ((ps.all fun d => match d with | .tuple (_ :: _) => true | _ => false) || ps.all fun d => match d with | .tuple _ => false | .none => false | _ => true) && ps.all fun d => decide (d.depth ≤ 60)
theorem canSort_inv {ps : List PyData} (h : canSort ps = true) : PySem.W.AllAlike ps ∧ PySem.W.Sortable ps ∧ ∀ d ∈ ps, d.depth ≤ 60 := by
  simp only [canSort, Bool.and_eq_true, Bool.or_eq_true, List.all_eq_true, decide_eq_true_eq] at h
  obtain ⟨⟨h1, h2⟩, h3⟩ := h
  refine ⟨fun d hd e he => h1 d hd e he, ?_, h3⟩
  rcases h2 with h2 | h2
  · left
    intro d hd
    have := h2 d hd
    split at this
    · exact ⟨_, _, rfl⟩
    · cases this
  · right
    intro d hd
    have := h2 d hd
    split at this
    · cases this
    · cases this
    · rename_i n1 n2
      exact ⟨n2, n1⟩
def sortD (ds : List D) : Option (List D) := match D.pys ds with
  | some ps => if canSort ps then if ds.length ≤ 16777216 then some (ds.mergeSort leK) else none else none
  | none => none
def sortedD (d : D) : Option D := ((seqD d).bind sortD).map .lst
theorem pys_map : ∀ {ds : List D} {ps : List PyData}, D.pys ds = some ps → ps = ds.map encD
  | [], ps, h => by simp only [D.pys, Option.some.injEq] at h; subst h; rfl
  | d :: ds, ps, h => by
    unfold D.pys at h
    cases e1 : d.py with
    | none => rw [e1] at h; cases h
    | some p =>
      cases e2 : D.pys ds with
      | none => rw [e1, e2] at h; cases h
      | some qs =>
        rw [e1, e2] at h
        cases h
        rw [List.map_cons, ← pys_map e2]
        simp [encD, e1]
theorem pys_mem : ∀ {ds : List D} {ps : List PyData}, D.pys ds = some ps → ∀ d ∈ ds, ∃ p, d.py = some p
  | [], ps, h, d, hd => by cases hd
  | d :: ds, ps, h, d', hd => by
    unfold D.pys at h
    cases e1 : d.py with
    | none => rw [e1] at h; cases h
    | some p =>
      cases e2 : D.pys ds with
      | none => rw [e1, e2] at h; cases h
      | some qs =>
        rcases List.mem_cons.mp hd with rfl | hd
        · exact ⟨p, e1⟩
        · exact pys_mem e2 d' hd
section
variable {X : Cx} {C : Ct} {pins : List (Addr × Obj)} {σ : L2.St} {S H : Hp} {s : Shared}
theorem rpl_mem : ∀ {ds : List D} {vs : List V}, RpL C S ds vs → ∀ p ∈ ds.zip vs, Rp C S p.1 p.2
  | [], vs, h, p, hp => by simp at hp
  | d :: ds, vs, h, p, hp => by
    simp only [RpL] at h
    obtain ⟨v, r, h1, h2, h3⟩ := h
    subst h1
    simp only [List.zip_cons_cons, List.mem_cons] at hp
    rcases hp with rfl | hp
    · exact h2
    · exact rpl_mem h3 p hp
theorem rpl_of : ∀ {ps : List (D × V)}, (∀ p ∈ ps, Rp C S p.1 p.2) → RpL C S (ps.map (·.1)) (ps.map (·.2))
  | [], _ => by simp only [List.map_nil, RpL]
  | p :: ps, h => by
    simp only [List.map_cons, RpL]
    exact ⟨p.2, _, rfl, h p List.mem_cons_self, rpl_of fun q hq => h q (List.mem_cons_of_mem _ hq)⟩
theorem each_zip : ∀ {ds : List D} {vs : List V} {us : List Value}, vs.length = ds.length → Vals vs us → PySem.W.EachIs (fun u (b : D × V) => RelV b.2 u) us (ds.zip vs)
  | [], [], _, _, .nil => .nil
  | [], _ :: _, _, h, _ => by cases h
  | _ :: _, [], _, h, _ => by cases h
  | d :: ds, v :: vs, _, h, .cons r t => .cons r (each_zip (by simpa using h) t)
theorem each_reads (I : Inv X pins σ H s) (hK : C.K = X.K) (le : Le S H) : ∀ {ds : List D} {ps : List PyData} {vs : List V} {us : List Value}, D.pys ds = some ps → RpL C S ds vs → Vals vs us → PySem.W.EachIs (fun u (b : D × V) => ∃ as, Reads s.heap u (encD b.1) as) us (ds.zip vs)
  | [], ps, vs, us, e, h, r => by
    simp only [RpL] at h
    subst h
    cases r
    exact .nil
  | d :: ds, ps, vs, us, e, h, r => by
    simp only [RpL] at h
    obtain ⟨v, vr, h1, h2, h3⟩ := h
    subst h1
    unfold D.pys at e
    cases e1 : d.py with
    | none => rw [e1] at e; cases e
    | some p =>
      cases e2 : D.pys ds with
      | none => rw [e1, e2] at e; cases e
      | some qs =>
        cases r with
        | cons r1 rt =>
          refine .cons ?_ (each_reads I hK le e2 h3 rt)
          have dp := py_dp le d v p h2 e1
          rw [hK] at dp
          have : encD d = p := by simp [encD, e1]
          show ∃ as, Reads s.heap _ (encD d) as
          rw [this]
          exact Dp.reads I p v _ dp r1
theorem each_vals : ∀ {ps : List (D × V)} {us : List Value}, PySem.W.EachIs (fun u (b : D × V) => RelV b.2 u) us ps → Vals (ps.map (·.2)) us
  | _, _, .nil => .nil
  | _, _, .cons r t => .cons r (each_vals t)
theorem zip_fst : ∀ {ds : List D} {vs : List V}, vs.length = ds.length → (ds.zip vs).map (·.1) = ds
  | [], [], _ => rfl
  | [], _ :: _, h => by cases h
  | _ :: _, [], h => by cases h
  | d :: ds, v :: vs, h => by simp [zip_fst (ds := ds) (vs := vs) (by simpa using h)]
theorem cg_sorted (hu : X.A.units + 65 < cLine) (hK : C.K = X.K) : CallR X (.builtin "sorted") (rG1 C sortedD) := by
  intro pins s σ H xs us Q I rv ⟨v, S, d, z, e1, le, rd, eg, new⟩
  subst e1
  unfold sortedD at eg
  simp only [Option.map_eq_some_iff, Option.bind_eq_some_iff] at eg
  obtain ⟨ds', ⟨ds, hs, ht⟩, rfl⟩ := eg
  unfold sortD at ht
  cases ep : D.pys ds with
  | none => rw [ep] at ht; cases ht
  | some ps =>
    rw [ep] at ht
    dsimp only at ht
    split at ht
    · rename_i hc
      split at ht
      · rename_i hz
        cases ht
        obtain ⟨hal, hso, hdp⟩ := canSort_inv hc
        -- what the new list is
        have fin : ∀ {vs : List V} {its : List Value} {cells : List Value}, RpL C S ds vs → Vals vs its → ∀ out, PySem.W.EachIs (fun u (b : D × V) => RelV b.2 u) out ((ds.zip vs).mergeSort (PySem.W.dataLe false fun b => encD b.1)) →
            EP X pins σ Q (.ref (s.heap.objs.size + 1)) { s with heap := PyProof.Rows.sortedAll s.heap its (List.toArray out) } := fun {vs its cells} r rvs out eo => by
          have hl := RpL.length _ _ r
          have perm : ((ds.zip vs).mergeSort (PySem.W.dataLe false fun b => encD b.1)).Perm (ds.zip vs) := List.mergeSort_perm _ _
          have em : ((ds.zip vs).mergeSort (PySem.W.dataLe false fun b => encD b.1)).map (·.1) = ds.mergeSort leK := by
            have q := List.map_mergeSort (f := fun (b : D × V) => b.1) (r := PySem.W.dataLe false fun (b : D × V) => encD b.1) (s := leK) (l := ds.zip vs) (fun a _ b _ => rfl)
            rw [q, zip_fst hl]
          have rr : RpL C S (ds.mergeSort leK) (((ds.zip vs).mergeSort (PySem.W.dataLe false fun b => encD b.1)).map (·.2)) := by
            rw [← em]
            exact rpl_of fun p hp => rpl_mem r p (perm.mem_iff.mp hp)
          obtain ⟨c, hc⟩ := PyProof.Rows.sortedAll_at s.heap its (List.toArray out)
          have hfr : H (s.heap.objs.size + 1) = none := I.hok.fresh (Nat.le_succ _)
          have I2 : Inv X pins σ (upd H (s.heap.objs.size + 1) (.lst (((ds.zip vs).mergeSort (PySem.W.dataLe false fun b => encD b.1)).map (·.2)))) { s with heap := PyProof.Rows.sortedAll s.heap its (List.toArray out) } :=
            I.laid (t' := s.toks) (fun b u q => PyProof.Rows.sortedAll_old q) (Nat.le_succ _) ⟨by rw [List.length_map, perm.length_eq, List.length_zip, hl, Nat.min_self]; exact big_le hz, out, c, each_vals eo, hc⟩
          exact ⟨.ref (s.heap.objs.size + 1), _, I2, rfl, new.lst le rr hfr⟩
        have dep : ∀ {vs : List V}, ∀ b ∈ ds.zip vs, X.A.units + 2 + (encD b.1).depth < cLine := fun {vs} b hb => by
          have hm : b.1 ∈ ds := (List.of_mem_zip hb).1
          have := hdp (encD b.1) (by rw [pys_map ep]; exact List.mem_map.mpr ⟨_, hm, rfl⟩)
          omega
        have al : ∀ {vs : List V}, vs.length = ds.length → (ds.zip vs).map (fun b => encD b.1) = ps := fun {vs} hl => by
          rw [pys_map ep]
          have := congrArg (List.map encD) (zip_fst hl)
          rw [List.map_map] at this
          exact this
        cases d with
        | lst ds0 =>
          cases hs
          obtain ⟨a, vs, rfl, h1, r1⟩ := rd.l le
          have hl := RpL.length _ _ r1
          obtain ⟨its, rvs, pl, hzz⟩ := I.list (SqL.of h1)
          rw [Vals.ref1 rv]
          exact PySem.W.sorted_data (vs := its) pl.isList (each_zip hl rvs) (each_reads I hK le ep r1 rvs) (by rw [al hl]; exact hal) (by rw [al hl]; exact hso) (by rw [List.length_zip, hl, Nat.min_self]; exact big_le hz) dep
            fun out ho eo => fin (cells := its) r1 rvs out eo
        | tup ds0 =>
          cases hs
          obtain ⟨a, vs, rfl, h1, r1⟩ := rd.t le
          have hl := RpL.length _ _ r1
          rw [hK] at h1
          obtain ⟨its, rvs, pl, hzz⟩ := I.tuple h1
          rw [Vals.ref1 rv]
          exact FWS.sorted_tup_data (vs := its) (show s.heap.IsTuple a its.toArray from pl) (each_zip hl rvs) (each_reads I hK le ep r1 rvs) (by rw [al hl]; exact hal) (by rw [al hl]; exact hso) (by rw [List.length_zip, hl, Nat.min_self]; exact big_le hz) dep
            fun out ho eo => fin (cells := its) r1 rvs out eo
        | _ => cases hs
      · cases ht
    · cases ht
/-! ### repr of a list, of a tuple -/
def reprD : D → Option D
  | .lst ds => (D.py (.lst ds)).bind fun p => if p.showable && !p.hasDict && decide (p.depth ≤ 60) && decide (p.shown.length ≤ 16777216) then some (.str p.shown) else none
  | .tup ds => (D.py (.tup ds)).bind fun p => if p.showable && !p.hasDict && decide (p.depth ≤ 60) && decide (p.shown.length ≤ 16777216) then some (.str p.shown) else none
  | _ => none
theorem cg_repr (hu : X.A.units + 65 < cLine) (hg : X.A.guards = some []) (hK : C.K = X.K) : CallR X (.builtin "repr") (rG1 C reprD) := by
  intro pins s σ H xs us Q I rv ⟨v, S, d, z, e1, le, rd, eg, new⟩
  subst e1
  have main : ∀ {p : PyData} {a : Addr}, d.py = some p → v = .ref a → (if p.showable && !p.hasDict && decide (p.depth ≤ 60) && decide (p.shown.length ≤ 16777216) then some (D.str p.shown) else none) = some z →
      wpAny (model X.prog X.w) X.A (call (.builtin "repr") us) (EP X pins σ Q) X.xe s := fun {p a} ep ev eg => by
    subst ev
    split at eg
    · rename_i hc
      cases eg
      simp only [Bool.and_eq_true, Bool.not_eq_true', decide_eq_true_eq] at hc
      obtain ⟨⟨⟨h1, h2⟩, h3⟩, h4⟩ := hc
      have dp := pyb_dp le rd ep
      rw [hK] at dp
      rw [Vals.ref1 rv]
      obtain ⟨as, rr⟩ := Dp.reads I p (.ref a) (.ref a) dp rfl
      refine PySem.repr_of_reads' (h₀ := s.heap) rr h1 (fun z => by rw [h2] at z; cases z) hg (by omega) (fun b o e => e) (fun h' u tk hk => ?_) (big_le h4)
      exact ⟨.str p.shown, H, I.kept (t' := tk) hk, ⟨u, rfl⟩, new.now le (by simp only [Rp])⟩
    · cases eg
  unfold reprD at eg
  split at eg
  · simp only [Option.bind_eq_some_iff] at eg
    obtain ⟨p, ep, eg⟩ := eg
    obtain ⟨a, vs, rfl, _⟩ := rd.l le
    exact main ep rfl eg
  · simp only [Option.bind_eq_some_iff] at eg
    obtain ⟨p, ep, eg⟩ := eg
    obtain ⟨a, vs, rfl, _⟩ := rd.t le
    exact main ep rfl eg
  · cases eg
end
section
variable {X : Cx} {C : Ct} {W : WX} {k : Nat} {N : List Str} {sc : Scope} {pos p : Pos} {ea : Expr} {fa : M D}
theorem ksorted (B : Bas X C W k N sc) (hg : glC sc "sorted" = true) (hm : C.mg "sorted" = none) (ha : PD X C W ea fa) (hs : starEach (ea :: []) X.env = (false, eval ea X.env) :: starEach [] X.env := by rfl) : PD X C W (.Call (.Name "sorted" p) [ea] [] pos) (op1 sortedD fa) :=
  kb1 B (cg_sorted B.u65 B.hK) hg hm (by decide +kernel) (by decide) ha hs
theorem krepr (B : Bas X C W k N sc) (hg : glC sc "repr" = true) (hm : C.mg "repr" = none) (ha : PD X C W ea fa) (hs : starEach (ea :: []) X.env = (false, eval ea X.env) :: starEach [] X.env := by rfl) : PD X C W (.Call (.Name "repr" p) [ea] [] pos) (op1 reprD fa) :=
  kb1 B (cg_repr B.u65 B.gu B.hK) hg hm (by decide +kernel) (by decide) ha hs
end
end FW

set_option Elab.async false
set_option linter.all false
set_option maxRecDepth 100000
set_option maxHeartbeats 2000000
/-! FwU: remove over data; tuple(range(n)), list(range(n)); calls with keywords alone. -/
namespace FWU
open PySem PySem.Spec PyProof.Rows
open PySem.SeqAt PySem.MeetsSeq PySem.MeetsSeq2 PySem.MeetsSeq3 PySem.SeqRoads2
open AutoSeq1 (wpAny_loadPart')
theorem rem_loop (l : Addr) (items : Array Value) (n : Nat) (x : Value) (e : Value → Bool) (j : Nat) (hj : j < items.size) (hit : e items[j] = true) (hs1 : items.size ≤ sizeLine) (k : Nat) :
    ∀ i : Nat, j - i = k → i ≤ j → (∀ m (hm : m < items.size), i ≤ m → m < j → e items[m] = false) → Meets (Builtin.«list.remove.loop» ⟨[.ref l, x, rawInt i], []⟩)
      (fun A R s => s.heap.get? l = some { cls := .type "list", dict := none, data := .seq items n, slots := #[] } ∧ (∀ y, y ∈ items → EqAt A.in1 s y x (e y)) ∧ R (.ok (.ret .none)) { s with heap := s.heap.update l (Obj.mapSeq fun xs => xs.eraseIdxIfInBounds j) }) := by
  induction k with
  | zero =>
    intro i hk hij hno prog w A R s h
    obtain ⟨hp, g, d, tk, os⟩ := s
    obtain ⟨hl, he, h⟩ := h
    obtain rfl : i = j := by omega
    wp_walk using wpAny_loadPart' hl
    have hi : items[((i : Nat) : Int).toNat]? = some items[i] := by simp [hj]
    rw [hi]
    refine wpAny_bind (he _ (Array.getElem_mem hj) prog w _ _ ?_)
    rw [hit]
    have hz' : (items.eraseIdxIfInBounds i).size ≤ sizeLine + 1 := by
      have : (items.eraseIdxIfInBounds i).size ≤ items.size := by
        rw [Array.eraseIdxIfInBounds, dif_pos hj, Array.size_eraseIdx]
        exact Nat.sub_le _ _
      omega
    wp_walk using (wpAny_updateSeq hl rfl (hz := hs1) (_hz' := hz')), wpAny_loadPart' hl
    simpa using h
  | succ k ih =>
    intro i hk hij hno prog w A R s h
    obtain ⟨hp, g, d, tk, os⟩ := s
    obtain ⟨hl, he, h⟩ := h
    have hlt : i < items.size := by omega
    wp_walk using wpAny_loadPart' hl
    have hi : items[((i : Nat) : Int).toNat]? = some items[i] := by simp [hlt]
    have hc : ((i : Int) + 1) = ((i + 1 : Nat) : Int) := by push_cast; rfl
    rw [hi]
    refine wpAny_bind (he _ (Array.getElem_mem hlt) prog w _ _ ?_)
    rw [hno i hlt (Nat.le_refl _) (by omega)]
    wp_walk
    rw [hc]
    exact ⟨plainId_quiet plain_remove_loop _, codeAny_builtin entry_remove_loop (by
      rw [Around.under_plainId plain_remove_loop _]
      exact ih (i + 1) (by omega) (by omega) (fun m hm h1 h2 => hno m hm (by omega) h2) prog w A R _ ⟨hl, he, h⟩)⟩
theorem rem_at (l : Addr) (items : Array Value) (n : Nat) (x : Value) (e : Value → Bool) (j : Nat) (hj : j < items.size) (hit : e items[j] = true) (hno : ∀ m (hm : m < items.size), m < j → e items[m] = false) (hs1 : items.size ≤ sizeLine) :
    Meets (Builtin.«list.remove» ⟨[.ref l, x], []⟩)
      (fun A R s => s.heap.get? l = some { cls := .type "list", dict := none, data := .seq items n, slots := #[] } ∧ (∀ y, y ∈ items → EqAt A.in1 s y x (e y)) ∧ R (.ok (.ret .none)) { s with heap := s.heap.update l (Obj.mapSeq fun xs => xs.eraseIdxIfInBounds j) }) := by
  intro prog w A R s h
  obtain ⟨hp, g, d, tk, os⟩ := s
  obtain ⟨hl, he, h⟩ := h
  wp_walk using wpAny_loadPart' hl
  exact ⟨plainId_quiet plain_remove_loop _, codeAny_builtin entry_remove_loop (by
    rw [Around.under_plainId plain_remove_loop _]
    exact rem_loop l items n x e j hj hit hs1 _ 0 rfl (Nat.zero_le _) (fun m hm _ h2 => hno m hm h2) prog w A R _ ⟨hl, he, h⟩)⟩
end FWU
namespace FW
open PySem PySem.Spec PyProof.Rows L2
/-- xs.remove(y): the first equal one goes -/
def rRemD (K : PySem.W.Frag) : V → List V → Hp → VK → Prop := fun x xs H Q => ∃ (a : Addr) (vs : List V) (y : V) (d : PyData) (ds : List PyData) (j : Nat) (z : PyData), x = V.ref a ∧ xs = [y] ∧ H a = some (.lst vs) ∧ DpAll K H vs ds ∧ Dp K H y d ∧
  SeqAt.shaped (.list ds) = true ∧ SeqAt.shaped d = true ∧ ds[j]? = some z ∧ PyData.eqv z d = true ∧ (∀ (m : Nat) (z' : PyData), m < j → ds[m]? = some z' → PyData.eqv z' d = false) ∧ Q .non (upd H a (.lst (vs.eraseIdx j)))
theorem room_in' {A : Around} {d : PyData} {ds : List PyData} (h : SeqAt.shaped d = true) (hu : A.units + 65 < cLine) : A.units + 1 + min (PyData.depthAll ds) d.depth < cLine := by
  have h1 := SeqAt.depth_of_shaped h
  have h2 : min (PyData.depthAll ds) d.depth ≤ d.depth := Nat.min_le_right _ _
  omega
theorem mt_remD {X : Cx} (hu : X.A.units + 65 < cLine) : MtR X "list.remove" (rRemD X.K) := by
  intro pins s σ H x xs v us Q I rx rxs h
  obtain ⟨a, vs, y, d, ds, j, z, rfl, rfl, hl, ha, hy, sl, sd, hz, hzj, hno, q⟩ := h
  cases rx
  obtain ⟨uy, rfl, ry⟩ := rxs.one
  obtain ⟨bs, r1⟩ := Dp.reads I d y uy hy ry
  have hxs : PyData.canLayAll0 ds = true := SeqAt.canLay_of_shaped sl
  obtain ⟨zz, its, n, rv, hlen, e0⟩ := I.lstM hl
  obtain ⟨as, h4⟩ := Dp.readsAll I ds _ its ha rv
  have hn : its.length = ds.length := SeqAt.ReadsAll.length ds its as h4
  have hmap : its.map (SeqAt.readOf s.heap) = ds := SeqAt.readsAll_map ds its as hxs h4
  obtain ⟨hjd, _⟩ := List.getElem?_eq_some_iff.mp hz
  have hjl : j < its.length := by omega
  have hj : j < its.toArray.size := by simpa using hjl
  have at_ : ∀ (m : Nat) (hm : m < its.toArray.size) (z' : PyData), ds[m]? = some z' → SeqAt.readOf s.heap its.toArray[m] = z' := by
    intro m hm z' hz'
    have hml : m < its.length := by simpa using hm
    rw [← hmap, List.getElem?_map, List.getElem?_eq_getElem hml] at hz'
    simpa using hz'
  refine call_meets PySem.F.slot_list_remove ⟨_, e0, rfl⟩ PySem.F.entry_list_remove (PySem.F.args_list_remove_2 _ _)
    (FWU.rem_at a its.toArray n uy (fun u => PyData.eqv (SeqAt.readOf s.heap u) d) j hj ?hit ?hno (by rw [List.size_toArray, ← hlen]; exact zz)) ⟨e0, SeqAt.items_eqAt (vs := its.toArray) (show ReadsAll s.heap its.toArray.toList ds as from h4) r1 hxs (SeqAt.canLay_of_shaped sd) (room_in' sd hu), ?_⟩
  case hit => rw [at_ j hj z hz]; exact hzj
  case hno =>
    intro m hm hmj
    have hml : m < ds.length := by omega
    rw [at_ m hm _ (List.getElem?_eq_getElem hml)]
    exact hno m _ hmj (List.getElem?_eq_getElem hml)
  refine ⟨.non, _, I.lset (its' := its.eraseIdx j) hl e0 ?_ (rv.eraseIdx j) ?_, rfl, q⟩
  · rw [List.eraseIdxIfInBounds_toArray]
  · have := len_erase vs j
    omega
def findEq (p : PyData) : List PyData → Option Nat
  | [] => none
  | z :: zs => if PyData.eqv z p then some 0 else (findEq p zs).map (· + 1)
theorem findEq_ok {p : PyData} : ∀ {zs : List PyData} {j : Nat}, findEq p zs = some j → ∃ z, zs[j]? = some z ∧ PyData.eqv z p = true ∧ ∀ (m : Nat) (z' : PyData), m < j → zs[m]? = some z' → PyData.eqv z' p = false
  | [], j, h => by cases h
  | z :: zs, j, h => by
    unfold findEq at h
    split at h
    · rename_i e
      cases h
      exact ⟨z, rfl, e, fun m z' hm => by omega⟩
    · rename_i e
      simp only [Option.map_eq_some_iff] at h
      obtain ⟨i, h1, rfl⟩ := h
      obtain ⟨z2, q1, q2, q3⟩ := findEq_ok h1
      refine ⟨z2, by simpa using q1, q2, fun m z' hm hz => ?_⟩
      cases m with
      | zero => simp at hz; subst hz; simpa using e
      | succ m => exact q3 m z' (by omega) (by simpa using hz)
/-- remove -/
def remL : Lop := fun ys ds => match ds with
  | [d] => match leafs ys, d.py with
    | some es, some p => match D.pys es with
      | some qs => if SeqAt.shaped (.list qs) && SeqAt.shaped p then (findEq p qs).map fun j => (.non, ys.eraseIdx j) else none
      | none => none
    | _, _ => none
  | _ => none
theorem pys_len : ∀ {ds : List D} {ps : List PyData}, D.pys ds = some ps → ps.length = ds.length := fun {ds ps} h => by rw [pys_map h, List.length_map]
theorem lop_rem {C : Ct} {K : PySem.W.Frag} (hK : C.K = K) : LopOk C (rRemD K) remL := by
  intro S H l ys ys' vs F ds us d Q hle hH r rd eg k
  unfold remL at eg
  split at eg
  · rename_i d0
    split at eg
    · rename_i es p he hp
      split at eg
      · rename_i qs hq
        split at eg
        · rename_i hs
          simp only [Option.map_eq_some_iff] at eg
          obtain ⟨j, hj, ej⟩ := eg
          cases ej
          simp only [Bool.and_eq_true] at hs
          obtain ⟨v, rfl, rv⟩ := one_of rd
          have r' := r
          rw [leafs_eq he] at r'
          obtain ⟨_, rl⟩ := RpOL.leaves es vs F r'
          obtain ⟨z, h1, h2, h3⟩ := findEq_ok hj
          have dp := py_dp hle d0 v p rv hp
          have dps := pys_dp hle es vs qs rl hq
          rw [hK] at dp dps
          have hjl : j < es.length := by
            have := (List.getElem?_eq_some_iff.mp h1).1
            rw [pys_len hq] at this
            exact this
          have hy : ys[j]? = some (.sh es[j]) := by
            rw [leafs_eq he, List.getElem?_map, List.getElem?_eq_getElem hjl]
            rfl
          obtain ⟨u, e1, e2, e3⟩ := r.erase hy
          exact ⟨l, vs, v, p, qs, j, z, rfl, rfl, hH, dps, dp, hs.1, hs.2, h1, h2, h3, k _ .non e3 (by simp only [Rp])⟩
        · cases eg
      · cases eg
    · cases eg
  · cases eg
section
variable {X : Cx} {C : Ct} {W : WX} {fx : List Nat} {k i : Nat} {N : List Str} {sc : Scope} {x : Str} {pos p apos p2 pos2 : Pos} {e ea : Expr} {es : List Expr} {f fa : M D}
theorem krem (B : Bas X C W k N sc) (hx : nmC N sc i x = true) (ha : PD X C W e f)
    (hbase : attributeBase (.Name x p) "remove" X.env (eval (.Name x p) X.env) = eval (.Name x p) X.env := by rfl)
    (hfew : ((backTo pos (starEach [e] X.env)).all (fun x => !x.1) && (backToKw pos (keywordEach [] X.env)).all (fun x => x.1.isSome)
      && decide (([e] : List Expr).length + ([] : List Keyword).length + (if ([] : List Keyword).isEmpty then 0 else 1) < 30)) = true := by rfl)
    (hline : (apos.endLine == pos.line) = true := by rfl) (hs : starEach (e :: []) X.env = (false, eval e X.env) :: starEach [] X.env := by rfl) (hplain : (backTo pos (starEach [] X.env)).any (·.1) = false := by rfl) :
    PD X C W (.Call (.Attribute (.Name x p) "remove" apos) [e] [] pos) (lopM remL i (aCons f aNil)) :=
  pd_lop B (lop_rem B.hK) (mt_remD B.u65) PySem.F.slot_list_remove PySem.F.type_list_remove hx (pad_cons ha pad_nil hs) hbase hfew hline hs hplain
end
end FW

set_option Elab.async false
set_option linter.all false
set_option maxRecDepth 100000
set_option maxHeartbeats 4000000
/-! FwV: lambdas without parameters as data: made, called by a def that got them. -/
namespace FWV
open PySem PySem.Spec PyProof.Rows L2 LamX FW
/-- what stands at f: the lambda, made by X -/
def lamP (X : Cx) (params : Arguments) (body : Expr) (scope : Scope) (f c' : Addr) : Heap → Prop := fun h => ∃ pm ctv, h.get? f = some (PySem.W.kla_obj "<lambda>" (X.env.qual ++ "<lambda>") params body scope (cloFrom X.env.cells scope.names []) pm c' ctv)
def codP (q : Str) (c : Addr) : Heap → Prop := fun h => ∃ (oc : Obj) (vs : Array Value) (t : Tok), h.get? c = some oc ∧ oc.data = .fields vs ∧ vs[1]? = some (.str q t)
theorem codP_eq (q : Str) (c : Addr) : CodeO c q = .ext (codP q c) := rfl
section
variable {X : Cx} {pins : List (Addr × Obj)} {σ : L2.St} {H : Hp} {s : Shared} {T : List (Addr × Str)} {c P : Addr} {params : Arguments} {body : Expr} {scope : Scope} {pos : Pos} {E Q : Value → Shared → Prop}
/-- the new lambda is known from now on -/
theorem lam_known {H1 : Hp} {h' : Heap} {tk c' : Addr} {pm ctv : Value} (I : Inv X pins σ H1 { s with heap := h', toks := tk }) :
    Inv X pins σ (upd H1 h'.objs.size (.ext (lamP X params body scope h'.objs.size c'))) { s with heap := h'.push (PySem.W.kla_obj "<lambda>" (X.env.qual ++ "<lambda>") params body scope (cloFrom X.env.cells scope.names []) pm c' ctv), toks := tk } :=
  I.laid (t' := tk) (fun b u e => Heap.get?_push_of_some _ e) (Nat.le_refl _) ⟨⟨pm, ctv, Heap.get?_push_size _ rfl⟩, ⟨_, Heap.get?_push_size _ rfl⟩, fun h1 h2 ⟨pm2, ct2, e⟩ st => ⟨pm2, ct2, st _ e⟩⟩
theorem lam_mk (I : Inv X pins σ H s) (TB : TabB X.base X.mg c P) (hcode : X.env.code = .ref c) (hm : (P, X.env.qual ++ "<lambda>") ∈ T) (hu : ∀ p ∈ T, p.1 = P → p.2 = X.env.qual ++ "<lambda>") (hT : Tabs T H)
    (hdef : defaultsOf params X.env = ([], [])) (hfree : ∀ y ∈ scope.names, y.2 = .free → ∃ c, X.env.cells.lookup y.1 = some c)
    (h : ∀ (f c' : Addr) (H1 : Hp) (s' : Shared), Inv X pins σ (upd H1 f (.ext (lamP X params body scope f c'))) s' → ExtN H H1 → (∀ a ps, H a = some (.tbl ps) → ∃ qs, H1 a = some (.tbl qs)) → Tabs T H1 → H1 f = none → H f = none → f ≠ c' → H1 c' = some (CodeO c' (X.env.qual ++ "<lambda>")) →
      (H c' = none ∨ H c' = some (CodeO c' (X.env.qual ++ "<lambda>"))) → (∀ a o, a ≠ P → H a = some o → H1 a = some o) → Q (.ref f) s') :
    wpAny (model X.prog X.w) X.A (eval (.Lambda params body scope pos) X.env) Q E s := by
  obtain ⟨ps, hP, ht, ha⟩ := hT _ hm
  have bP : s.heap.BuiltinsAt X.mg P := TB.bm.keeps I.bk
  have gP : s.heap.get? P = some { cls := .none, data := .fields ps } := I.hok P _ hP
  refine PySem.W.kla_eval hdef ?_
  cases hc : codeAmong pos ps.toList with
  | some cv =>
    obtain ⟨c', rfl, hco⟩ := ha pos cv hc
    refine PySem.W.kla_makeFunctionHit (mg := X.mg) (c := c) (P := P) (ps := ps) (closure_ok hfree) I.ok.glob (I.mod.glob.keeps I.bk) hcode (TB.code.keeps I.bk) gP ht hc bP fun ctv h' tk hx hsz => ?_
    have I0 : Inv X pins σ H { s with heap := h', toks := tk } := I.kept fun b o e => hx b o e
    have nf : H h'.objs.size = none := I.hok.fresh hsz
    exact h _ c' H _ (lam_known I0) (ExtN.refl H) (fun a ps e => ⟨ps, e⟩) hT nf nf (ne_of_none hco nf).symm hco (.inr hco) fun a o _ e => e
  | none =>
    refine PySem.W.kla_makeFunction (mg := X.mg) (c := c) (P := P) (ps := ps) (closure_ok hfree) I.ok.glob (I.mod.glob.keeps I.bk) hcode (TB.code.keeps I.bk) gP ht hc TB.gP bP fun c' ctv h' tk hx hge hlt hrec htb => ?_
    obtain ⟨c2, oc, vs, t, e2, hoc, hd, hv⟩ := hrec
    cases e2
    have hsz : s.heap.objs.size ≤ h'.objs.size := Nat.le_trans hge (Nat.le_of_lt hlt)
    have nC : H c' = none := I.hok.fresh hge
    have nF : H h'.objs.size = none := I.hok.fresh hsz
    have I1 := inv_table (t' := tk) (more := #[rawInt pos.line, rawInt pos.col, .ref c']) (h' := h') I hP (fun b o hb e => hx b o hb e) htb hge ⟨oc, vs, t, hoc, hd, hv⟩
    have nPc : P ≠ c' := ne_of_none hP nC
    have fC : h'.objs.size ≠ c' := Nat.ne_of_gt hlt
    have fP : h'.objs.size ≠ P := (ne_of_none hP nF).symm
    have hE : ExtN H (upd (upd H P (.tbl (ps ++ #[rawInt pos.line, rawInt pos.col, .ref c']))) c' (CodeO c' (X.env.qual ++ "<lambda>"))) := fun b o e n => by
      rw [upd_ne (ne_of_none e nC), upd_ne (fun z => n ps (Option.some.inj (e.symm.trans (by rw [z]; exact hP))))]
      exact e
    have eL : (ps ++ #[rawInt pos.line, rawInt pos.col, .ref c']).toList = ps.toList ++ [rawInt pos.line, rawInt pos.col, .ref c'] := by simp
    refine h h'.objs.size c' _ _ (lam_known I1) hE (fun a qs e => ?_) (fun p hp => ?_) (by rw [upd_ne fC, upd_ne fP]; exact nF) nF fC upd_same (.inl nC) fun a o hb e => by rw [upd_ne (ne_of_none e nC), upd_ne hb]; exact e
    · by_cases hb : a = P
      · subst hb
        exact ⟨_, by rw [upd_ne nPc, upd_same]⟩
      · exact ⟨qs, by rw [upd_ne (ne_of_none e nC), upd_ne hb]; exact e⟩
    · by_cases hb : p.1 = P
      · rw [hu p hp hb, hb]
        refine ⟨_, by rw [upd_ne nPc, upd_same], by rw [eL]; exact PySem.TriplesOk_snoc _ _ _ _ ht, fun p' cv hcv => ?_⟩
        rw [eL] at hcv
        rcases among_app _ ht hcv with z | z
        · obtain ⟨c0, e1, e2⟩ := ha p' cv z
          exact ⟨c0, e1, hE _ _ e2 codeO_ne⟩
        · exact ⟨c', z, upd_same⟩
      · obtain ⟨ps', a1, a2, a3⟩ := hT p hp
        refine ⟨ps', by rw [upd_ne (ne_of_none a1 nC), upd_ne hb]; exact a1, a2, fun p' cv hcv => ?_⟩
        obtain ⟨c0, e1, e2⟩ := a3 p' cv hcv
        exact ⟨c0, e1, hE _ _ e2 codeO_ne⟩
end
end FWV
namespace FW
open PySem PySem.Spec PyProof.Rows L2 LamX
/-- what X, a maker of lambdas, has -/
structure Mkr (X : Cx) (C : Ct) : Prop where
  ex : ∃ c P, TabB X.base X.mg c P ∧ X.env.code = .ref c ∧ (P, X.env.qual ++ "<lambda>") ∈ C.T ∧ ∀ p ∈ C.T, p.1 = P → p.2 = X.env.qual ++ "<lambda>"
section
variable {X : Cx} {C : Ct} {W : WX} {k n : Nat} {N : List Str} {sc : Scope} {params : Arguments} {body : Expr} {scope : Scope} {pos : Pos}
theorem Bas.lamS (B : Bas X C W k N sc) (h : lamSB sc scope = true) : LamS X.env.scope scope := by
  have L := lamS_by h
  refine ⟨L.kind, L.co, L.gen, L.own, fun y hy e => ?_⟩
  rcases L.free y hy e with z | z
  · rcases B.scp _ _ z with q | ⟨q, _⟩
    · exact .inl q
    · cases q
  · rcases B.scp _ _ z with q | ⟨_, q⟩
    · exact .inr q
    · exact .inl q
/-- lambda: body, the n-th one -/
theorem pd_lam (B : Bas X C W k N sc) (Mk : Mkr X C) (hL : lamSB sc scope = true) (hLT : C.LT n = FWV.lamP X params body scope) (hLC : C.LC n = FWV.codP (X.env.qual ++ "<lambda>")) (hdef : defaultsOf params X.env = ([], []) := by rfl) :
    PD X C W (.Lambda params body scope pos) (cst (.clo n)) := by
  obtain ⟨c, P, TB, hcode, hmT, hu⟩ := Mk.ex
  refine ⟨⟨fun pins s σ H Q I ⟨S, Fs, δ, w, q⟩ => ?_⟩⟩
  refine FWV.lam_mk I TB hcode hmT hu w.tb.t hdef ((B.lamS hL).has I.ok) fun f c' H1 s' I' eN tk T1 nf nF nfc hco old exc => ?_
  have hq : ∀ v, Rp C (upd (upd S c' (.ext (C.LC n c'))) f (.ext (C.LT n f c'))) (.clo n) v → Q v (upd H1 f (.ext (C.LT n f c'))) := by
    have eC : CodeO c' (X.env.qual ++ "<lambda>") = .ext (C.LC n c') := by rw [hLC]; rfl
    have sC : S c' = none ∨ S c' = some (.ext (C.LC n c')) := by
      rcases old with z | z
      · exact .inl (w.le.none z)
      · cases e : S c' with
        | none => exact .inl rfl
        | some o =>
          have := w.le c' o e
          rw [z, eC] at this
          cases this
          exact .inr rfl
    have sF : S f = none := w.le.none nF
    have tkeep : ∀ {a o}, S a = some o → H1 a = some o := fun {a o} e => exc a o (fun z => by
      have := w.tb.n _ hmT
      rw [z] at e
      rw [show S P = none from this] at e; cases e) (w.le a o e)
    have hf1 : ∀ {a}, H a ≠ none → a ≠ f := fun {a} e z => e (by rw [z]; exact nF)
    have keepH : ∀ a o, H a = some o → (∀ ps, o ≠ .tbl ps) → upd H1 f (.ext (C.LT n f c')) a = some o := fun a o e t => by
      rw [upd_ne (hf1 (by rw [e]; simp))]
      exact eN a o e t
    have getS : ∀ {a o}, upd (upd S c' (.ext (C.LC n c'))) f (.ext (C.LT n f c')) a = some o → (a = f ∧ o = .ext (C.LT n f c')) ∨ (a ≠ f ∧ a = c' ∧ o = .ext (C.LC n c')) ∨ (a ≠ f ∧ a ≠ c' ∧ S a = some o) := fun {a o} e => by
      by_cases h1 : a = f
      · subst h1; rw [upd_same] at e; cases e; exact .inl ⟨rfl, rfl⟩
      · rw [upd_ne h1] at e
        by_cases h2 : a = c'
        · subst h2; rw [upd_same] at e; cases e; exact .inr (.inl ⟨h1, rfl, rfl⟩)
        · rw [upd_ne h2] at e; exact .inr (.inr ⟨h1, h2, e⟩)
    have leS : Le S (upd (upd S c' (.ext (C.LC n c'))) f (.ext (C.LT n f c'))) := fun a o e => by
      rw [upd_ne (ne_of_none e sF)]
      by_cases h2 : a = c'
      · subst h2
        rcases sC with z | z
        · rw [z] at e; cases e
        · rw [z] at e; cases e; exact upd_same
      · rw [upd_ne h2]; exact e
    have freeC : Free H c' := by
      rcases old with z | z
      · exact .inl z
      · exact .inr ⟨_, z⟩
    refine q _ _ Fs ⟨leS, fun a o e _ t => keepH a o e t, fun a e => ?_, fun a e => ?_, fun a ps e _ => ?_, fun i a ha => .inr ⟨i, ha⟩⟩ ⟨fun a o e => ?_, w.len, fun i o e ne => ?_, w.dj, w.nd, fun i a ha => ?_, ⟨?_, fun p hp => ?_⟩⟩
    · by_cases h1 : a = f
      · subst h1; rw [upd_same]; simp
      · rw [upd_ne h1]
        cases z : H a with
        | none => exact absurd z e
        | some o =>
          by_cases ht : ∃ ps, o = .tbl ps
          · obtain ⟨ps, rfl⟩ := ht
            obtain ⟨qs, e2⟩ := tk a ps z
            rw [e2]; simp
          · rw [eN a o z fun ps z2 => ht ⟨ps, z2⟩]; simp
    · cases z : upd (upd S c' (.ext (C.LC n c'))) f (.ext (C.LT n f c')) a with
      | none => exact absurd z e
      | some o =>
        rcases getS z with ⟨rfl, _⟩ | ⟨_, rfl, _⟩ | ⟨_, _, q2⟩
        · exact .inr (.inl (.inl nF))
        · exact .inr (.inl freeC)
        · exact .inl (by rw [q2]; simp)
    · obtain ⟨qs, e2⟩ := tk a ps e
      exact ⟨qs, by rw [upd_ne (hf1 (by rw [e]; simp))]; exact e2⟩
    · rcases getS e with ⟨rfl, rfl⟩ | ⟨h1, rfl, rfl⟩ | ⟨h1, h2, q2⟩
      · exact upd_same
      · rw [upd_ne h1, hco, eC]
      · rw [upd_ne h1]; exact tkeep q2
    · obtain ⟨v, e1, r⟩ := w.sl i o e ne
      refine ⟨v, e1, RpO.mono leS o v _ (fun a ha h1 h2 h3 => ⟨?_, ?_⟩) r⟩
      · have h4 := (w.ns i a ha).2.2
        rw [upd_ne (hf1 h2), upd_ne fun z => ?_]
        · exact h1
        · rcases old with y | y
          · rw [z] at h2; exact h2 y
          · rw [← z] at y; exact h4 _ y
      · cases z : H a with
        | none => exact absurd z h2
        | some o => exact keepH a o z fun ps y => h3 ps (by rw [z, y])
    · obtain ⟨h1, h2, h4⟩ := w.ns i a ha
      have nfa := hf1 h2
      refine ⟨?_, ?_, fun φ => ?_⟩
      · rw [upd_ne nfa, upd_ne fun z => ?_]
        · exact h1
        · rcases old with y | y
          · rw [z] at h2; exact h2 y
          · rw [← z] at y; exact h4 _ y
      · rw [upd_ne nfa]
        cases z : H a with
        | none => exact absurd z h2
        | some o =>
          by_cases ht : ∃ ps, o = .tbl ps
          · obtain ⟨ps, rfl⟩ := ht
            obtain ⟨qs, e2⟩ := tk a ps z
            rw [e2]; simp
          · rw [eN a o z fun ps z2 => ht ⟨ps, z2⟩]; simp
      · rw [upd_ne nfa]
        cases z : H a with
        | none => exact absurd z h2
        | some o =>
          by_cases ht : ∃ ps, o = .tbl ps
          · obtain ⟨ps, rfl⟩ := ht
            obtain ⟨qs, e2⟩ := tk a ps z
            rw [e2]; simp
          · rw [eN a o z fun ps z2 => ht ⟨ps, z2⟩]
            intro z3
            cases z3
            exact h4 φ z
    · exact T1.ext fun a o e => by
        rw [upd_ne fun z => by rw [z, nf] at e; cases e]; exact e
    · obtain ⟨ps, e⟩ := w.tb.at hp
      rw [upd_ne (hf1 (by rw [e]; simp)), upd_ne fun z => ?_]
      · exact w.tb.n p hp
      · rcases old with y | y
        · rw [z, y] at e; cases e
        · rw [z, y] at e; exact codeO_ne _ (Option.some.inj e)
  rw [hLT] at hq
  exact ⟨.ref f, _, I', rfl, hq _ (by simp only [Rp]; exact ⟨f, c', rfl, by rw [hLT, upd_same], by rw [upd_ne (Ne.symm nfc), upd_same]⟩)⟩
end
end FW

set_option Elab.async false
set_option linter.all false
set_option maxRecDepth 100000
set_option maxHeartbeats 4000000
/-! FwW: several except clauses, with names; what a def does that calls the lambda it got. -/
namespace FWW
open PySem PySem.Spec PyProof.Rows L2
/-- a clause: its class, the slot and the name that the exception gets (if any), what its suite does -/
structure Cl where
  c : Value
  i : Option Nat
  ts : Addr → Value → Option Addr → TS
def endO (D : Ends) : Option Nat → Ends
  | none => D
  | some i => { nx := fun σ H => D.nx (σ.set i none) H, rt := D.rt, bk := fun σ H => D.bk (σ.set i none) H, ct := fun σ H => D.ct (σ.set i none) H }
def startO (σ : L2.St) (a : Addr) : Option Nat → L2.St
  | none => σ
  | some i => σ.set i (some (.ref a))
/-- what the clauses ask of an exception: one of them takes it -/
def wAll (K : PySem.W.Frag) (D : Ends) : List Cl → WX
  | [] => fun _ _ _ _ => False
  | k :: r => fun cls d σ H => ∃ b, PySem.W.exmOne K cls k.c = some b ∧ (b = true → ∀ a, H a = none → (∀ i, k.i = some i → i < σ.length) → k.ts a cls d (endO D k.i) (startO σ a k.i) H) ∧ (b = false → wAll K D r cls d σ H)
inductive Hds (X : Cx) : List ExceptHandler → List Cl → Prop
  | nil : Hds X [] []
  | plain {x : Str} {c : Value} {ts : Addr → Value → Option Addr → TS} {b0 : Stmt} {bs : List Stmt} {p1 p2 : Pos} {hs : List ExceptHandler} {l : List Cl} (hc : Names X x c)
      (su : ∀ (a : Addr) (oe : Obj) (cls : Value) (d : Option Addr) (pn : List (Addr × Obj)), Zc cls d oe → (∃ vs, oe.data = .fields vs) → PSs (X.suite a ((a, oe) :: pn)) (b0 :: bs) (ts a cls d)) (r : Hds X hs l) :
      Hds X (.ExceptHandler (some (.Name x p1)) none (b0 :: bs) p2 :: hs) (⟨c, none, ts⟩ :: l)
  | named {x n : Str} {i : Nat} {c : Value} {ts : Addr → Value → Option Addr → TS} {b0 : Stmt} {bs : List Stmt} {p1 p2 : Pos} {hs : List ExceptHandler} {l : List Cl} (hc : Names X x c) (hi : X.N[i]? = some n) (hl : X.env.kindOf n = some .local)
      (su : ∀ (a : Addr) (oe : Obj) (cls : Value) (d : Option Addr) (pn : List (Addr × Obj)), Zc cls d oe → (∃ vs, oe.data = .fields vs) → PSs (X.suite a ((a, oe) :: pn)) (b0 :: bs) (ts a cls d)) (r : Hds X hs l) :
      Hds X (.ExceptHandler (some (.Name x p1)) (some n) (b0 :: bs) p2 :: hs) (⟨c, some i, ts⟩ :: l)
section
variable {X : Cx} {body : List Stmt} {h0 : ExceptHandler} {hs : List ExceptHandler} {l : List Cl} {pos : Pos} {tb : WX → TS}
/-- the exception a on the ground, the heap h, behind the state s of X -/
structure Gnd (X : Cx) (pins : List (Addr × Obj)) (σ : L2.St) (H : Hp) (B : Heap) (sI s : Shared) (a : Addr) (cls : Value) (d : Option Addr) (h : Heap) : Prop where
  J : Inv X pins σ H sI
  nb : ∀ b o, sI.heap.get? b = some o → b ∉ frs X.stack → B.get? b = some o
  up : sI.heap.UpToSlots s.heap
  fl : HandSPX.FlyingZ B (X.env :: X.outer) a (Zc cls d) h
  uh : s.heap.UpToSlots h
  os : s.os = sI.os
  ag : AllBare s.gens
  na : H a = none
  nL : a ≠ X.env.locals
  nF : a ∉ X.fs
theorem Gnd.inv {pins : List (Addr × Obj)} {σ : L2.St} {H : Hp} {B : Heap} {sI s : Shared} {a : Addr} {cls : Value} {d : Option Addr} {h : Heap} (G : Gnd X pins σ H B sI s a cls d h) : Inv X pins σ H { s with heap := h } := G.J.landed G.nb G.fl.1 (G.up.trans G.uh) G.os G.ag
theorem Gnd.suite {pins : List (Addr × Obj)} {σ : L2.St} {H : Hp} {B : Heap} {sI s : Shared} {a : Addr} {cls : Value} {d : Option Addr} {h : Heap} (G : Gnd X pins σ H B sI s a cls d h) :
    ∃ oe, Zc cls d oe ∧ (∃ vs, oe.data = .fields vs) ∧ h.get? a = some oe ∧ Inv (X.suite a ((a, oe) :: (X.pn ++ pins))) [] σ H { s with heap := h } := by
  obtain ⟨oe, vs, e1, e2, e3⟩ := G.fl.there
  exact ⟨oe, e2, ⟨vs, e3⟩, e1, G.inv.suite e1 e3 G.na G.nL G.nF⟩
theorem Gnd.again {pins : List (Addr × Obj)} {σ : L2.St} {H : Hp} {B : Heap} {sI s : Shared} {a : Addr} {cls : Value} {d : Option Addr} {h h' : Heap} (G : Gnd X pins σ H B sI s a cls d h) (fl : HandSPX.FlyingZ B (X.env :: X.outer) a (Zc cls d) h') (up : h.UpToSlots h') : Gnd X pins σ H B sI s a cls d h' :=
  { G with fl := fl, uh := G.uh.trans up }
/-- the clause's test -/
theorem Gnd.test {pins : List (Addr × Obj)} {σ : L2.St} {H : Hp} {B : Heap} {sI s : Shared} {a : Addr} {cls : Value} {d : Option Addr} {h : Heap} {x : Str} {c : Value} {p1 : Pos} {Q : Value → Shared → Prop} {E : Value → Shared → Prop} (G : Gnd X pins σ H B sI s a cls d h) (hc : Names X x c) (q : Q c { s with heap := h }) :
    wpAny (model X.prog X.w) (X.A.mark (some (.ref a))) (eval (.Name x p1) X.env) Q E { s with heap := h } := by
  obtain ⟨oe, _, _, _, S⟩ := G.suite
  obtain ⟨g, nd, m | ⟨m, v, nn⟩⟩ := hc
  · exact ld_glob (X := X.suite a ((a, oe) :: (X.pn ++ pins))) S g m q nd
  · exact ld_blt (X := X.suite a ((a, oe) :: (X.pn ++ pins))) S g m v q nn nd
theorem hands {pins : List (Addr × Obj)} {σ : L2.St} {H : Hp} {B : Heap} {sI s : Shared} {a : Addr} {cls : Value} {d : Option Addr} {h : Heap} {D : Ends} (ok : X.Ok) (hN : X.N.Nodup) (G : Gnd X pins σ H B sI s a cls d h) {hs : List ExceptHandler} {l : List Cl} (hk : Hds X hs l) (w : wAll X.K D l cls d σ H) :
    wpAny (model X.prog X.w) X.A (handleBy (.ref a) X.env hs) (SP X pins D) X.xe { s with heap := h } := by
  induction hk with
  | nil => exact w.elim
  | @plain x c ts b0 bs p1 p2 hs2 l2 hc su r ih =>
    obtain ⟨b, k1, k2, k3⟩ := w
    refine wpAny_handleBy_cons (codeAny_handlers_test (G.test hc ?_)) (by intro z; cases z)
    obtain ⟨oe, z1, _, z3, _⟩ := G.suite
    have lk : PySem.W.Looks (model X.prog X.w) h (typeOf (.ref a)) cls := fun A Q E s k q => wpAny_typeOf_ref (k _ _ z3) (by rw [z1.1]; exact q)
    refine (PySem.W.exm_one (M := model X.prog X.w) G.inv.kIn lk k1).here ?_
    cases b with
    | false => exact ih (k3 rfl)
    | true =>
      refine codeAny_handlers_suite (HandSPX.lands_againZ G.fl fun h4 f4 u4 => ?_)
      obtain ⟨oe4, y1, y2, _, S4⟩ := (G.again f4 u4).suite
      refine wpAny_mono ((su a oe4 cls d (X.pn ++ pins) y1 y2).run [] _ _ H _ S4 (k2 rfl a G.na fun i e => by cases e)) (fun f s6 hsp => ?_) fun _ _ z => False.elim z
      cases f with
      | ret u => obtain ⟨v6, σ6, H6, S6, r6, q6⟩ := hsp; exact ⟨v6, σ6, H6, S6.unsuite ok, r6, q6⟩
      | next => obtain ⟨σ6, H6, S6, q6⟩ := hsp; exact ⟨σ6, H6, S6.unsuite ok, q6⟩
      | brk => obtain ⟨σ6, H6, S6, q6⟩ := hsp; exact ⟨σ6, H6, S6.unsuite ok, q6⟩
      | cont => obtain ⟨σ6, H6, S6, q6⟩ := hsp; exact ⟨σ6, H6, S6.unsuite ok, q6⟩
  | @named x n i c ts b0 bs p1 p2 hs2 l2 hc hi hl su r ih =>
    obtain ⟨b, k1, k2, k3⟩ := w
    refine wpAny_handleBy_cons (codeAny_handlers_test (G.test hc ?_)) (by intro z; cases z)
    obtain ⟨oe, z1, _, z3, _⟩ := G.suite
    have lk : PySem.W.Looks (model X.prog X.w) h (typeOf (.ref a)) cls := fun A Q E s k q => wpAny_typeOf_ref (k _ _ z3) (by rw [z1.1]; exact q)
    refine (PySem.W.exm_one (M := model X.prog X.w) G.inv.kIn lk k1).here ?_
    cases b with
    | false => exact ih (k3 rfl)
    | true =>
      refine codeAny_handlers_suite_as (HandSPX.lands_againZ G.fl fun h4 f4 u4 => ?_)
      obtain ⟨oe4, y1, y2, _, S4⟩ := (G.again f4 u4).suite
      refine store_ok (X := X.suite a ((a, oe4) :: (X.pn ++ pins))) (v := .ref a) S4 hN hi (.inl hl) rfl (fun s5 S5 => ?_) (.inr hl)
      have fin : ∀ {σ6 : L2.St} {H6 : Hp} {s6 : Shared} {R : Shared → Prop}, Inv (X.suite a ((a, oe4) :: (X.pn ++ pins))) [] σ6 H6 s6 → (∀ s7, Inv X pins (σ6.set i none) H6 s7 → R s7) →
          wpAny (model X.prog X.w) X.A (do bindName X.env n .none; unbindBehindTheSuite X.env n p2) (fun _ s7 => R s7) X.xe s6 := fun S6 hR => gone_ok (S6.unsuite ok) hN hi hl hR
      refine wpAny_mono ((su a oe4 cls d (X.pn ++ pins) y1 y2).run [] s5 _ H _ S5 (k2 rfl a G.na fun i' e => by cases e; rw [G.J.len]; exact (List.getElem?_eq_some_iff.mp hi).1)) (fun f s6 hsp => ?_) fun _ _ z => False.elim z
      cases f with
      | ret u => obtain ⟨v6, σ6, H6, S6, r6, q6⟩ := hsp; exact fin S6 fun s7 J7 => ⟨v6, _, H6, J7, r6, q6⟩
      | next => obtain ⟨σ6, H6, S6, q6⟩ := hsp; exact fin S6 fun s7 J7 => ⟨_, H6, J7, q6⟩
      | brk => obtain ⟨σ6, H6, S6, q6⟩ := hsp; exact fin S6 fun s7 J7 => ⟨_, H6, J7, q6⟩
      | cont => obtain ⟨σ6, H6, S6, q6⟩ := hsp; exact fin S6 fun s7 J7 => ⟨_, H6, J7, q6⟩
theorem ps_try_all (est : X.stack = X.env :: X.outer) (efr : X.env.frame = some X.env.locals) (hN : X.N.Nodup)
    (hb : ∀ (W : WX) (pn : List (Addr × Obj)) (xe : Value → Shared → Prop), Takes (X.tr pn xe) W → PassesOwn (model X.prog X.w) X.A X.env xe → PSs (X.tr pn xe) body (tb W))
    (hh : Hds X (h0 :: hs) l) : PS X (.Try body (h0 :: hs) [] [] pos) (fun D σ H => tb (wAll X.K D l) D σ H) := by
  refine ⟨fun pins s σ H D I q => ?_⟩
  have ok := I.ok
  refine wpAny_Try_except (wpAny_mono ((hb (wAll X.K D l) (X.pn ++ pins) (fun e t1 => wpAny (model X.prog X.w) X.A (noteFrame e X.env) (fun _ t2 => wpAny (model X.prog X.w) X.A (setFlight e none) (fun _ t3 =>
    wpAny (model X.prog X.w) X.A (handleBy e X.env (h0 :: hs)) (SP X pins D) X.xe t3) X.xe t2) X.xe t1) (fun u s' xx => ?_) PassesOwn.looking).run [] s σ H D (I.toTry _) q) (fun f s1 hsp => ?_) fun e s1 he => he)
  · obtain ⟨a, B, sI, pins', σ', H', cls, d, rfl, J', nb, up, sky, na, os, ag, w⟩ := xx
    have sky' : Sky B (X.env :: X.outer) a (Zc cls d) X.env.locals s'.heap := by rw [← est]; exact sky
    show wpAny (model X.prog X.w) X.A (noteFrame (.ref a) X.env) _ _ _
    refine Sky.land Zc.steady (by rw [ok.frames, est]) efr sky' fun h3 fl3 up3 => ?_
    obtain ⟨oe3, vs3, he3, hz3, hd3⟩ := fl3.there
    have nfr : a ∉ frs (X.env :: X.outer) := fun hm => by
      obtain ⟨_, o', e', hnf⟩ := fl3.2.2.1.mem hm
      rw [he3] at e'; cases e'
      exact hnf _ hd3
    refine hands ok hN ⟨J'.ofTry ok, nb, up, fl3, up3, os, ag, na, fun z => nfr (List.mem_filterMap.mpr ⟨X.env, List.mem_cons_self, by rw [efr, z]⟩), fun hm => ?_⟩ hh w
    obtain ⟨e, he, z⟩ := List.mem_filterMap.mp hm
    exact nfr (List.mem_filterMap.mpr ⟨e, List.mem_cons_of_mem _ he, z⟩)
  · cases f with
    | next => obtain ⟨σ', H', J', z⟩ := hsp; exact wpAny_execs_nil ⟨σ', H', J'.ofTry ok, z⟩
    | brk => obtain ⟨σ', H', J', z⟩ := hsp; exact ⟨σ', H', J'.ofTry ok, z⟩
    | cont => obtain ⟨σ', H', J', z⟩ := hsp; exact ⟨σ', H', J'.ofTry ok, z⟩
    | ret u => obtain ⟨v, σ', H', J', r, z⟩ := hsp; exact ⟨v, σ', H', J'.ofTry ok, r, z⟩
end
end FWW

set_option Elab.async false
set_option linter.all false
set_option maxRecDepth 100000
set_option maxHeartbeats 4000000
/-! FwY: a lambda is called by a def that got it. -/
namespace FW
open PySem PySem.Spec PyProof.Rows L2 LamX FWV FWW
section
variable {X : Cx} {C : Ct} {W : WX} {k j n : Nat} {N : List Str} {sc : Scope} {params : Arguments} {body : Expr} {scope : Scope} {pos : Pos} {pins : List (Addr × Obj)} {σ : L2.St} {H : Hp} {s : Shared}
/-- a(), in the def that got the lambda: it stands known in the heap -/
theorem pe_actE {CXg : CXT} {Eg : XK} {Ng : List Str} {qg : Str} {sg : Scope} {g f c' : Addr} {cdg : Value} {i : Nat} {a : Str} {pn : List (Addr × Obj)} {xe : Value → Shared → Prop} {E : XK} {tb : TE} {p1 p2 : Pos}
    (I : Inv X pins σ H s) (L : LamS X.env.scope scope) (hbind : ∀ pm cv ctv : Value, bindArgs (PySem.W.kla_fn "<lambda>" (X.env.qual ++ "<lambda>") params body scope (cloFrom X.env.cells scope.names []) pm cv ctv) ⟨[], []⟩ = pure [])
    (tk : Takes ((cxOf CXg X.prog X.w X.K X.mg X.base Ng qg sg g cdg X.A X.stack s H Eg).tr pn xe) W) (hW : ∀ cls d σ' H', E cls d H' → W cls d σ' H') (hr : Room (k + 1) (X.A.deeper (envOfC qg sg s.heap.objs.size g cdg))) (hgu : X.A.guards = some [])
    (hbody : ∀ (A : Around) (outer : List Env) (s : Shared) (H : Hp), Room k (A.deeper (lamEnv X scope s.heap.objs.size f c')) → A.guards = some [] → PE (lamCx X A outer s H E scope f c') body tb)
    (hN : Ng[i]? = some a) (hv : Vis sg a) (hd : (a == ("__debug__" : Str)) = false) (hcd : (a == ("__classdict__" : Str)) = false) :
    PE ((cxOf CXg X.prog X.w X.K X.mg X.base Ng qg sg g cdg X.A X.stack s H Eg).tr pn xe) (.Call (.Name a p1) [] [] p2)
      (fun σZ HZ Q => σZ[i]? = some (some (.ref f)) ∧ HZ f = some (.ext (lamP X params body scope f c')) ∧ HZ c' = some (CodeO c' (X.env.qual ++ "<lambda>")) ∧ tb σ HZ Q) := by
  refine ⟨fun pinsZ sZ σZ HZ Q IZ ⟨hs, hf, hc, ht⟩ => ?_⟩
  refine wpAny_Call_Name_kw (thn ((pe_var (pos := p1) (i := i) hN hv hd hcd).run pinsZ sZ σZ HZ (fun v H1 => v = .ref f ∧ H1 = HZ) IZ ⟨.ref f, hs, rfl, rfl⟩) fun u s1 ⟨v, H1, I1, r1, ev, eH⟩ => ?_)
  subst ev
  subst eH
  cases (show u = Value.ref f from r1)
  obtain ⟨⟨pm, ctv, of1⟩, _, _⟩ := I1.hok f _ hf
  obtain ⟨⟨oc, vs, t, hoc, hdc, hvc⟩, _, _⟩ := I1.hok c' _ hc
  refine PySem.W.callWith_F0 ⟨_, _, _, _, of1⟩ ?_
  have un : Un (frs X.stack) [] H H1 s.heap s1.heap := I1.base
  have rc : codeAny (model X.prog X.w) (X.A.deeper (envOfC qg sg s.heap.objs.size g cdg)) (.call (.ref f) ⟨[], []⟩) (CR (L2.CX X.prog X.w) (envOfC qg sg s.heap.objs.size g cdg :: X.stack) X.prog X.w H1 s1 Q E) s1 := by
    refine PySem.W.kla_callFunE hr.depth of1 rfl L.co L.gen rfl ⟨c', oc, vs, t, rfl, hoc, hdc, hvc⟩ ?_
    rw [hbind]
    refine wpAny_pure (wpAny_newFunctionEnv (fun y hy => (L.own y hy).2) (fun y hy => absurd hy (by simp)) (fun h₁ hns hsb => ⟨I1.nolimit.fresh _ hsb, ?_⟩) L.kind)
    have kp : ∀ b o, s1.heap.get? b = some o → h₁.get? b = some o := fun b o e => hsb.extBut b o (Nat.ne_of_lt (Heap.lt_size e)) (Heap.get?_push_of_some _ e)
    have J := lam_start2 (A := X.A.deeper (envOfC qg sg s.heap.objs.size g cdg)) (outer := envOfC qg sg s.heap.objs.size g cdg :: X.stack) (E := E) (f := f) (c' := c') (tk := s1.toks + ([] : List (Str × Value)).length) I L I1.env0 hr.hd un hns kp
    refine PySem.W.kla_codeExpr (wpAny_mono ((hbody _ _ s1 H1 (hr.deeper _) (guards_deeper.trans hgu)).run [] _ _ H1 Q J ht) (fun v s' hq => ?_) fun e s' hq => hq)
    obtain ⟨w', H', J', rv, q⟩ := hq
    exact ⟨w', H', J'.os, J'.bare, J'.base, J'.hok, rv, q⟩
  have hx := passes_call (E := E) tk hW
  refine wpAny_call (codeAny_mono rc fun r s' hq => ?_)
  cases r with
  | error e => exact hx pinsZ σZ H1 s1 e s' I1 hq
  | ok fl =>
    cases fl with
    | ret u => exact I1.after hq
    | next => exact False.elim hq
    | brk => exact False.elim hq
    | cont => exact False.elim hq
/-- the n-th lambda of X means g -/
structure LamI (X : Cx) (C : Ct) (k : Nat) (N : List Str) (n : Nat) (g : M O) : Prop where
  ex : ∃ params body scope, C.LT n = lamP X params body scope ∧ C.LC n = codP (X.env.qual ++ "<lambda>") ∧ LamS X.env.scope scope ∧
    (∀ pm cv ctv : Value, bindArgs (PySem.W.kla_fn "<lambda>" (X.env.qual ++ "<lambda>") params body scope (cloFrom X.env.cells scope.names []) pm cv ctv) ⟨[], []⟩ = pure []) ∧
    ∀ (A : Around) (outer : List Env) (s : Shared) (H : Hp) (E : XK) (f c' : Addr), Bas (lamCx X A outer s H E scope f c') C (fun cls d _ H' => E cls d H') k N scope → PN (lamCx X A outer s H E scope f c') C (fun cls d _ H' => E cls d H') body g
theorem Bas.lam {A : Around} {outer : List Env} {E : XK} {f c' : Addr} (B : Bas X C W j N sc) (L : LamS X.env.scope scope) (hr : Room k (A.deeper (lamEnv X scope s.heap.objs.size f c'))) (hgu : A.guards = some []) :
    Bas (lamCx X A outer s H E scope f c') C (fun cls d _ H' => E cls d H') k N scope where
  calm := rfl
  nd := B.nd
  hN := B.hN
  hK := B.hK
  hmg := B.hmg
  tk := takes_of rfl rfl rfl rfl
  room := hr
  gu := guards_deeper.trans hgu
  scp := fun x kd h => .inl h
  fn := fun x h => absurd rfl ((L.own _ (PySem.mem_of_lookup h)).2)
/-! ### the def that calls it: try: a() except .. as e: return (tag, e.f) .. return r -/
/-- a clause over data: its class; what it returns -/
structure Kl where
  c : Str
  named : Bool
  f : Str
  tag : Str
def Kl.res (q : Kl) (x : DX) : Option D := if q.named then match x.ns, x.xs with
    | [g], [d] => if g = q.f ∧ x.cls = q.c then some (.tup [.str q.tag, d]) else none
    | _, _ => none
  else some (.tup [.str q.tag])
def pickK (sub : Str → Str → Option Bool) (x : DX) : List Kl → Option D
  | [] => none
  | q :: r => match sub x.cls q.c with
    | some true => q.res x
    | some false => pickK sub x r
    | none => none
def tryM (sub : Str → Str → Option Bool) (ks : List Kl) (r : D) (f : M O) : M D := fun δ => match f δ with
  | .ok _ δ' => .ok r δ'
  | .er x δ' => match pickK sub x ks with
    | some d => .ok d δ'
    | none => .bad
  | .bad => .bad
/-- the classes stand so to one another -/
def SubOk (K : PySem.W.Frag) (mg : Str → Option Value) (sub : Str → Str → Option Bool) : Prop := ∀ c c' b A A', sub c c' = some b → mg c = some (.ref A) → mg c' = some (.ref A') → PySem.W.exmOne K (.ref A) (.ref A') = some b
def hoM (Ls : List (M O)) (T : M O → M D) (f : M D) : M D := bnd f fun d => match d with
  | .clo n => match Ls[n]? with
    | some g => T g
    | none => bad
  | _ => bad
def tsN (A : Addr) (tag f : Str) : Addr → Value → Option Addr → TS := fun a cls d D σ H => cls = .ref A ∧ σ[1]? = some (some (.ref a)) ∧ ∃ dd fs v, d = some dd ∧ H dd = some (.xd fs) ∧ fs.lookup f = some v ∧ ∀ p, H p = none → D.rt (.ref p) (upd H p (.tup [.str tag, v]))
def tsP (tag : Str) : Addr → Value → Option Addr → TS := fun _ _ _ D σ H => ∀ p, H p = none → D.rt (.ref p) (upd H p (.tup [.str tag]))
inductive KlOk (mg : Str → Option Value) (i : Nat) : List Cl → List Kl → Prop
  | nil : KlOk mg i [] []
  | named {q : Kl} {A : Addr} {l : List Cl} {ks : List Kl} (hn : q.named = true) (hm : mg q.c = some (.ref A)) (r : KlOk mg i l ks) : KlOk mg i (⟨.ref A, some i, tsN A q.tag q.f⟩ :: l) (q :: ks)
  | plain {q : Kl} {A : Addr} {l : List Cl} {ks : List Kl} (hn : q.named = false) (hm : mg q.c = some (.ref A)) (r : KlOk mg i l ks) : KlOk mg i (⟨.ref A, none, tsP q.tag⟩ :: l) (q :: ks)
theorem wall_of {K : PySem.W.Frag} {mg : Str → Option Value} {sub : Str → Str → Option Bool} {l : List Cl} {ks : List Kl} {x : DX} {d : D} {S : Hp} {cls : Value} {dd : Option Addr} {D' : Ends} (hs : SubOk K mg sub) (hmg : C.mg = mg) (h : KlOk mg 1 l ks) (hp : pickK sub x ks = some d) (xr : Xr C S H x cls dd)
    (k : ∀ ds vs p, d = .tup ds → RpL C S ds vs → H p = none → D'.rt (.ref p) (upd H p (.tup vs))) : wAll K D' l cls dd σ H := by
  obtain ⟨A, x1, rfl, x3⟩ := xr
  rw [hmg] at x1
  induction h with
  | nil => simp [pickK] at hp
  | @named q A' l ks hn hm r ih =>
    unfold pickK at hp
    cases eb : sub x.cls q.c with
    | none => rw [eb] at hp; cases hp
    | some b =>
      refine ⟨b, hs _ _ _ _ _ eb x1 hm, fun hb a _ hlen => ?_, fun hb => ?_⟩
      · subst hb
        rw [eb] at hp
        dsimp only at hp
        unfold Kl.res at hp
        rw [if_pos hn] at hp
        split at hp
        · rename_i g d0 e1 e2
          split at hp
          · rename_i hc
            cases hp
            obtain ⟨rfl, hcc⟩ := hc
            rw [hcc, hm] at x1
            cases x1
            refine ⟨rfl, List.getElem?_set_self (hlen 1 rfl), ?_⟩
            rcases x3 with ⟨z, _⟩ | ⟨dx, fs, y1, y2, y3, y4⟩
            · rw [z] at e1; cases e1
            · rw [e1] at y3
              rw [e2] at y4
              cases fs with
              | nil => cases y3
              | cons pr t =>
                cases t with
                | cons _ _ => simp at y3
                | nil =>
                  obtain ⟨g', v⟩ := pr
                  simp only [List.map_cons, List.map_nil, List.cons.injEq, and_true] at y3 y4
                  obtain ⟨v', e4, rv⟩ := one_of y4
                  cases e4
                  refine ⟨dx, _, v, y1, y2, by rw [y3]; simp [List.lookup], fun p hp => k _ _ p rfl ?_ hp⟩
                  simp only [RpL, Rp]
                  exact ⟨_, _, rfl, rfl, v, [], rfl, rv, rfl⟩
          · cases hp
        · cases hp
      · subst hb
        rw [eb] at hp
        exact ih hp
  | @plain q A' l ks hn hm r ih =>
    unfold pickK at hp
    cases eb : sub x.cls q.c with
    | none => rw [eb] at hp; cases hp
    | some b =>
      refine ⟨b, hs _ _ _ _ _ eb x1 hm, fun hb a _ _ => ?_, fun hb => ?_⟩
      · subst hb
        rw [eb] at hp
        dsimp only at hp
        unfold Kl.res at hp
        rw [hn] at hp
        cases hp
        intro p hp
        refine k _ _ p rfl ?_ hp
        simp only [RpL, Rp]
        exact ⟨_, _, rfl, rfl, rfl⟩
      · subst hb
        rw [eb] at hp
        exact ih hp
/-- what is known of the def x(a): try: a() except ..; return r -/
structure HoTxt (P : Program) (w : World) (K : PySem.W.Frag) (mg : Str → Option Value) (base : Heap) (C : Ct) (x a : Str) (ks : List Kl) (r : D) : Prop where
  ex : ∃ (fa : Addr) (fd : FuncData) (st : Stmt) (Ng : List Str) (p1 p2 p3 p4 p5 : Pos) (h0 : ExceptHandler) (hs : List ExceptHandler) (re : Expr), Fun K x x st fa fd ∧ mg x = some (.ref fa) ∧ Binds K fd [a] [] ∧ FnScope Ng [a] (defScope st) ∧ Ng[0]? = some a ∧ Vis (defScope st) a ∧
    (a == ("__debug__" : Str)) = false ∧ (a == ("__classdict__" : Str)) = false ∧ (x == ("__debug__" : Str)) = false ∧
    defBody st = [.Try [.Expr (.Call (.Name a p1) [] [] p2) p3] (h0 :: hs) [] [] p4, .Return (some re) p5] ∧
    (∀ (cdv : Value) (A : Around) (outer : List Env) (s : Shared) (H : Hp) (E : XK), ∃ l, Hds (DCx P w K mg base Ng x (defScope st) fa cdv A outer s H E) (h0 :: hs) l ∧ KlOk mg 1 l ks) ∧
    ∀ (cdv : Value) (A : Around) (outer : List Env) (s : Shared) (H : Hp) (E : XK), ∃ tr, PE (DCx P w K mg base Ng x (defScope st) fa cdv A outer s H E) re tr ∧ ∀ (σ : L2.St) (S H : Hp) (Q : VK), Le S H → Newly C S H r Q → tr σ H Q
theorem pd_ho {x a : Str} {ks : List Kl} {r : D} {sub : Str → Str → Option Bool} {Ls : List (M O)} {p : Pos} {e : Expr} {f : M D} (B : Bas X C W (k + 2) N sc) (T : HoTxt X.prog X.w X.K X.mg X.base C x a ks r) (hsub : SubOk X.K X.mg sub) (lam : ∀ n g, Ls[n]? = some g → LamI X C k N n g)
    (hg : glC sc x = true) (ha : PD X C W e f) (he : starEach (e :: []) X.env = (false, eval e X.env) :: starEach [] X.env := by rfl) (hpl : (backTo pos (starEach [] X.env)).any (·.1) = false := by rfl) :
    PD X C W (.Call (.Name x p) [e] [] pos) (hoM Ls (tryM sub ks r) f) := by
  obtain ⟨fa, fd, st, Ng, p1, p2, p3, p4, p5, h0, hs, re, F, hm, hb, Sc, hN0, hva, hd1, hd2, hd3, hbody, hhd, hret⟩ := T.ex
  refine ⟨⟨fun pins s σ H Q I ⟨S, Fs, δ, w, q⟩ => ?_⟩⟩
  refine wpAny_Call_Name_kw (ld_glob I (B.gl hg).1 hm ?_ (B.gl hg).2)
  refine PySem.W.callWith_K (h₀ := X.base) I.ok.mod.kin F.kp (thn ((pa_1D ha he).run pos pins s σ H (fun vs H1 => ∃ n g f c' S1 F1 δ1, Ls[n]? = some g ∧ vs = [.ref f] ∧ S1 f = some (.ext (C.LT n f c')) ∧ S1 c' = some (.ext (C.LC n c')) ∧ Wd C S1 H1 F1 σ δ1 ∧
      Aft C W σ S1 H1 F1 (tryM sub ks r g δ1) fun d S' H' _ _ => ∀ v, Rp C S' d v → Q v H') I ⟨S, Fs, δ, w, (Aft.bind q).mono fun d S1 H1 F1 δ1 g1 w1 q1 v rv => ?_⟩) fun us s1 hh => ?_) he hpl
  · cases d with
    | clo n =>
      dsimp only at q1
      cases el : Ls[n]? with
      | none => rw [el] at q1; exact q1.elim
      | some g =>
        rw [el] at q1
        simp only [Rp] at rv
        obtain ⟨f, c', e1, e2, e3⟩ := rv
        exact ⟨n, g, f, c', S1, F1, δ1, el, by rw [e1], e2, e3, w1, q1⟩
    | _ => exact q1.elim
  obtain ⟨vs, H1, I1, rvs, n, g, f, c', S1, F1, δ1, el, e1, sf, sc', w1, q1⟩ := hh
  subst e1
  have eus := Vals.ref1 rvs
  subst eus
  refine ⟨I1.kIn, ?_⟩
  obtain ⟨oc, od, kV, doc, pm, an, cdv, ct, osl, rfl, lk, hcd⟩ := F.ex
  obtain ⟨params, body, scope, hLT, hLC, L, hbind, hlam⟩ := (lam n g el).ex
  rw [hLT] at sf
  have eC : CodeO c' (X.env.qual ++ "<lambda>") = .ext (C.LC n c') := by rw [hLC]; rfl
  rw [← eC] at sc'
  have rc : codeAny (model X.prog X.w) X.A (.call (.ref fa) ⟨[.ref f], []⟩) (CR (L2.CX X.prog X.w) X.stack X.prog X.w H1 s1 Q C8.E0) s1 := by
    refine run_ofS (N := Ng) (ps := [a]) (us := [.ref f]) (vs := [.ref f]) lk hcd Sc B.room I1.env0 (hb s1 [.ref f] I1.kIn rfl) (.cons rfl .nil) rfl fun hr' => ?_
    obtain ⟨l, hl1, hl2⟩ := hhd cdv X.A X.stack s1 H1 C8.E0
    obtain ⟨tr, ht1, ht2⟩ := hret cdv X.A X.stack s1 H1 C8.E0
    refine ⟨_, by
      rw [hbody]
      refine pss_cons (ps_try_all (tb := fun W' D σ0 H0 => ∃ E' : XK, (∀ cls d σ' H', E' cls d H' → W' cls d σ' H') ∧ σ0[0]? = some (some (.ref f)) ∧ H0 f = some (.ext (lamP X params body scope f c')) ∧ H0 c' = some (CodeO c' (X.env.qual ++ "<lambda>")) ∧
          tO C (fun cls d _ H' => E' cls d H') g σ H0 fun _ H' => D.nx σ0 H') rfl rfl Sc.nd (fun W' pn xe tk _ => ⟨fun pins' s' σ' H' D I' h => ?_⟩) hl1) (pss_one (ps_ret ht1))
      obtain ⟨E', hW, h1, h2, h3, h4⟩ := h
      exact (pss_one (ps_expr (pe_actE (k := k) (E := E') I1 L hbind tk hW hr' B.gu (fun A outer s H hr2 hg2 => (hlam A outer s H E' f c' (B.lam L hr2 hg2)).pe) hN0 hva hd1 hd2))).run pins' s' σ' H' D I' ⟨h1, h2, h3, h4⟩, ?_⟩
    refine ⟨fun cls dd H' => ∃ S' F' δ' x d, Grow S1 H1 F1 S' H' F' ∧ Wd C S' H' F' σ δ' ∧ Xr C S' H' x cls dd ∧ pickK sub x ks = some d ∧ ∀ S2 H2, Le S' S2 → Le H' H2 → (∀ a, S2 a ≠ none → S' a ≠ none ∨ H' a = none) → Le S2 H2 → ∀ v, Rp C S2 d v → Q v H2, ?_, rfl, w1.le _ _ sf, w1.le _ _ sc', S1, F1, δ1, w1, ?_⟩
    · rintro cls dd σ' H' ⟨S', F', δ', x, d, gr, w', xr, hp, hq⟩
      refine wall_of hsub B.hmg hl2 hp xr fun ds vs p hd hr hfr => ?_
      subst hd
      obtain ⟨l1, l2, l3, l4⟩ := new_le (o := .tup vs) w'.le hfr
      refine hq _ _ l1 l2 l3 l4 (.ref p) ?_
      simp only [Rp]
      exact ⟨p, vs, rfl, SqT.of upd_same, hr.mono l1⟩
    · unfold tryM at q1
      cases eg : g δ1 with
      | bad => rw [eg] at q1; exact q1.elim
      | ok o δ' =>
        rw [eg] at q1
        intro S' H' F' gr w' v F _ _ _ _
        refine ht2 _ S' H' Q w'.le fun z S2 H2 l1 l2 l3 l4 rz => ?_
        exact q1 S2 H2 F' (gr.trans (Grow.new l1 l2 l3)) (w'.new l1 l2 l3 l4) z rz
      | er x δ' =>
        rw [eg] at q1
        dsimp only at q1
        cases ep : pickK sub x ks with
        | none => rw [ep] at q1; exact q1.elim
        | some d =>
          rw [ep] at q1
          exact fun cls dd S' H' F' gr w' xr => ⟨S', F', δ', x, d, gr, w', xr, ep, fun S2 H2 l1 l2 l3 l4 v rv => q1 S2 H2 F' (gr.trans (Grow.new l1 l2 l3)) (w'.new l1 l2 l3 l4) v rv⟩
  refine wpAny_call (codeAny_mono rc fun rr s2 hq => ?_)
  cases rr with
  | error e =>
    obtain ⟨_, _, _, _, _, _, _, _, _, _, _, _, z⟩ := hq
    exact z.elim
  | ok fl =>
    cases fl with
    | ret u => exact I1.after hq
    | next => exact False.elim hq
    | brk => exact False.elim hq
    | cont => exact False.elim hq
end
end FW

set_option Elab.async false
set_option linter.all false
set_option maxRecDepth 100000
set_option maxHeartbeats 4000000
/-! FwZ: other closures; ranges as lists; keywords; the script. -/
namespace FW
open PySem PySem.Spec PyProof.Rows L2
/-! ### no closure within -/
mutual
def noC : D → Bool
  | .clo _ => false
  | .tup ds => noCs ds
  | .lst ds => noCs ds
  | _ => true
def noCs : List D → Bool
  | [] => true
  | d :: ds => noC d && noCs ds
end
mutual
def noCO : O → Bool
  | .no => true
  | .sh d => noC d
  | .fz ds => noCs ds
  | .ol os => noCOs os
  | .ob _ _ os => noCOs os
def noCOs : List O → Bool
  | [] => true
  | o :: os => noCO o && noCOs os
end
section
variable {C C' : Ct} {S H : Hp}
mutual
theorem rp_cv (hK : C.K = C'.K) (hm : C.mg = C'.mg) : ∀ (d : D) (v : V), noC d = true → Rp C S d v → Rp C' S d v
  | .non, v, _, h => by simpa only [Rp] using h
  | .bl b, v, _, h => by simpa only [Rp] using h
  | .int i, v, _, h => by simpa only [Rp] using h
  | .str x, v, _, h => by simpa only [Rp] using h
  | .gl x, v, _, h => by simp only [Rp] at h ⊢; rw [← hm]; exact h
  | .clo n, v, n', h => by simp [noC] at n'
  | .tup ds, v, n, h => by
    simp only [Rp] at h ⊢
    obtain ⟨a, vs, h1, h2, h3⟩ := h
    exact ⟨a, vs, h1, by rw [← hK]; exact h2, rpl_cv hK hm ds vs (by simpa [noC] using n) h3⟩
  | .lst ds, v, n, h => by
    simp only [Rp] at h ⊢
    obtain ⟨a, vs, h1, h2, h3⟩ := h
    exact ⟨a, vs, h1, h2, rpl_cv hK hm ds vs (by simpa [noC] using n) h3⟩
theorem rpl_cv (hK : C.K = C'.K) (hm : C.mg = C'.mg) : ∀ (ds : List D) (vs : List V), noCs ds = true → RpL C S ds vs → RpL C' S ds vs
  | [], vs, _, h => by simpa only [RpL] using h
  | d :: ds, vs, n, h => by
    simp only [RpL] at h ⊢
    simp only [noCs, Bool.and_eq_true] at n
    obtain ⟨v, r, h1, h2, h3⟩ := h
    exact ⟨v, r, h1, rp_cv hK hm d v n.1 h2, rpl_cv hK hm ds r n.2 h3⟩
end
mutual
theorem rpo_cv (hK : C.K = C'.K) (hm : C.mg = C'.mg) : ∀ (o : O) (v : V) (F : List Addr), noCO o = true → RpO C S H o v F → RpO C' S H o v F
  | .no, v, F, _, h => by simpa only [RpO] using h
  | .sh d, v, F, n, h => by
    simp only [RpO] at h ⊢
    exact ⟨rp_cv hK hm d v (by simpa [noCO] using n) h.1, h.2⟩
  | .fz ds, v, F, n, h => by
    simp only [RpO] at h ⊢
    obtain ⟨⟨l, vs, h1, h2, h3⟩, h4⟩ := h
    exact ⟨⟨l, vs, h1, by rw [← hK]; exact h2, rpl_cv hK hm ds vs (by simpa [noCO] using n) h3⟩, h4⟩
  | .ol os, v, F, n, h => by
    simp only [RpO] at h ⊢
    obtain ⟨l, vs, F', h1, h2, h3, h4, h5⟩ := h
    exact ⟨l, vs, F', h1, h2, h3, h4, rpol_cv hK hm os vs F' (by simpa [noCO] using n) h5⟩
  | .ob c ns os, v, F, n, h => by
    simp only [RpO] at h ⊢
    obtain ⟨a, A, dx, fvs, F', h1, h2, h3, h4, h5, h6, h7, h8, h9⟩ := h
    exact ⟨a, A, dx, fvs, F', h1, h2, h3, h4, by rw [← hm]; exact h5, h6, h7, h8, rpol_cv hK hm os _ F' (by simpa [noCO] using n) h9⟩
theorem rpol_cv (hK : C.K = C'.K) (hm : C.mg = C'.mg) : ∀ (os : List O) (vs : List V) (F : List Addr), noCOs os = true → RpOL C S H os vs F → RpOL C' S H os vs F
  | [], vs, F, _, h => by simpa only [RpOL] using h
  | o :: os, vs, F, n, h => by
    simp only [RpOL] at h ⊢
    simp only [noCOs, Bool.and_eq_true] at n
    obtain ⟨v, r, F1, F2, h1, h2, h3, h4⟩ := h
    exact ⟨v, r, F1, F2, h1, h2, rpo_cv hK hm o v F1 n.1 h3, rpol_cv hK hm os r F2 n.2 h4⟩
end
theorem noCOs_at : ∀ {os : List O} {i : Nat} {o : O}, noCOs os = true → os[i]? = some o → noCO o = true
  | [], i, o, _, e => by simp at e
  | p :: os, 0, o, n, e => by simp only [noCOs, Bool.and_eq_true] at n; simp at e; subst e; exact n.1
  | p :: os, i + 1, o, n, e => by simp only [noCOs, Bool.and_eq_true] at n; exact noCOs_at n.2 (by simpa using e)
theorem Wd.cv {Fs : Nat → List Addr} {σ : L2.St} {δ : List O} (hK : C.K = C'.K) (hm : C.mg = C'.mg) (hT : C.T = C'.T) (w : Wd C S H Fs σ δ) (n : noCOs δ = true) : Wd C' S H Fs σ δ :=
  ⟨w.le, w.len, fun i o e ne => by
    obtain ⟨v, e1, r⟩ := w.sl i o e ne
    exact ⟨v, e1, rpo_cv hK hm o v _ (noCOs_at n e) r⟩, w.dj, w.nd, w.ns, by rw [← hT]; exact w.tb⟩
theorem Wd.msk {Fs : Nat → List Addr} {σ : L2.St} {δ : List O} {fx : List Nat} (w : Wd C S H Fs σ δ) : Wd C S H Fs σ (FW.msk fx δ.length δ) :=
  ⟨w.le, by rw [msk_length, w.len], fun i o e ne => by
    obtain ⟨_, _, h3⟩ := msk_get e ne
    exact w.sl i o h3 ne, w.dj, w.nd, w.ns, w.tb⟩
end
/-- the same body, its own lambdas known to nobody else -/
def cvG (fx : List Nat) (g : G) : G := fun δ => if noCOs δ then match g δ with
    | .rt o δ' => if noCO o && noCOs (msk fx δ'.length δ') then .rt o (msk fx δ'.length δ') else .bad
    | .nx δ' => if noCOs (msk fx δ'.length δ') then .nx (msk fx δ'.length δ') else .bad
    | .er x δ' => if noCs x.xs && noCOs (msk fx δ'.length δ') then .er x (msk fx δ'.length δ') else .bad
    | _ => .bad
  else .bad
theorem pgs_cv {X : Cx} {C C' : Ct} {W : WX} {fx : List Nat} {body : List Stmt} {g : G} (hK : C.K = C'.K) (hm : C.mg = C'.mg) (hT : C.T = C'.T) (h : PGs' X C' W fx body g) : PGs' X C W fx body (cvG fx g) := by
  refine ⟨PSs.imp h.ps fun E σ H ⟨S, Fs, δ, w, q⟩ => ?_⟩
  unfold cvG at q
  split at q
  · rename_i n
    refine ⟨S, Fs, δ, w.cv hK hm hT n, ?_⟩
    cases eg : g δ with
    | bad => rw [eg] at q; exact q
    | bk δ' => rw [eg] at q; exact q.elim
    | ct δ' => rw [eg] at q; exact q.elim
    | nx δ' =>
      rw [eg] at q
      dsimp only at q
      split at q
      · rename_i n2
        exact fun σ' S' H' Fs' gr w' p => q σ' S' H' Fs' gr (w'.msk.cv hK.symm hm.symm hT.symm n2) p
      · exact q.elim
    | rt o δ' =>
      rw [eg] at q
      dsimp only at q
      split at q
      · rename_i n2
        simp only [Bool.and_eq_true] at n2
        exact fun σ' S' H' Fs' v F gr w' p r nd dF fr => q σ' S' H' Fs' v F gr (w'.msk.cv hK.symm hm.symm hT.symm n2.2) p (rpo_cv hK.symm hm.symm o v F n2.1 r) nd dF fr
      · exact q.elim
    | er x δ' =>
      rw [eg] at q
      dsimp only at q
      split at q
      · rename_i n2
        simp only [Bool.and_eq_true] at n2
        refine fun σ' cls dd S' H' Fs' gr w' p xr => q σ' cls dd S' H' Fs' gr (w'.msk.cv hK.symm hm.symm hT.symm n2.2) p ?_
        obtain ⟨A, x1, x2, x3⟩ := xr
        exact ⟨A, by rw [hm]; exact x1, x2, x3.imp id fun ⟨dx, fs, y1, y2, y3, y4⟩ => ⟨dx, fs, y1, y2, y3, rpl_cv hK.symm hm.symm _ _ n2.1 y4⟩⟩
      · exact q.elim
  · exact q.elim
/-! ### tuple(range(..)), list(range(..)) -/
def rgD (i j : Int) : Option (List D) := if -4611686018427387904 ≤ i ∧ i < 4611686018427387904 ∧ -4611686018427387904 ≤ j ∧ j < 4611686018427387904 ∧ (j - i).toNat ≤ 16777216 then some (rangeD i (j - i).toNat) else none
def rg1M (f : M D) : M (List D) := bnd f fun d => match d with
  | .int j => opt (rgD 0 j)
  | _ => bad
theorem rpl_rg {C : Ct} {S : Hp} {i j : Int} : RpL C S (rangeD i (j - i).toNat) (rgV i j) := by
  unfold rangeD rgV
  refine RpL.of _ _ (by simp) fun n d v e1 e2 => ?_
  rw [List.getElem?_map] at e1 e2
  cases en : (List.range (j - i).toNat)[n]? with
  | none => rw [en] at e1; cases e1
  | some m =>
    rw [en] at e1 e2
    cases e1; cases e2
    simp only [Rp]
theorem rgD_ok {i j : Int} {ds : List D} (h : rgD i j = some ds) : RgOk i j ∧ ds = rangeD i (j - i).toNat := by
  unfold rgD at h
  split at h
  · rename_i hz
    cases h
    exact ⟨⟨by omega, by omega, by omega, by omega, by omega⟩, rfl⟩
  · cases h
section
variable {X : Cx} {C : Ct} {W : WX} {fx : List Nat} {k i : Nat} {N : List Str} {sc : Scope} {x : Str} {pos p p2 pos2 : Pos} {e ea : Expr} {es : List Expr} {f fa : M D} {fo : M O}
theorem rg1_read {σ : L2.St} {H : Hp} {k : List D → Hp → Hp → (Nat → List Addr) → List O → Prop} {S : Hp} {Fs : Nat → List Addr} {δ : List O} {Q : Int → Int → Hp → Prop} (w : Wd C S H Fs σ δ) (q : Aft C W σ S H Fs (rg1M fa δ) k)
    (h : ∀ j ds S' H' F' δ', Grow S H Fs S' H' F' → Wd C S' H' F' σ δ' → rgD 0 j = some ds → k ds S' H' F' δ' → Q 0 j H') : tRg1 (tD C W fa) σ H Q := by
  refine ⟨S, Fs, δ, w, (Aft.bind q).mono fun d S1 H1 F1 δ1 g1 w1 q1 v r1 => ?_⟩
  cases d with
  | int j =>
    simp only [Rp] at r1
    dsimp only at q1
    cases er : rgD 0 j with
    | none => rw [er] at q1; exact q1.elim
    | some ds => rw [er] at q1; exact ⟨j, r1, h j ds S1 H1 F1 δ1 g1 w1 er (q1.now w1)⟩
  | _ => exact q1.elim
theorem ktupRg (B : Bas X C W k N sc) (hg : glC sc "tuple" = true) (hm : C.mg "tuple" = none) (hg2 : glC sc "range" = true) (hm2 : C.mg "range" = none) (ha : PD X C W ea fa) (na : starEach [ea] X.env = (false, eval ea X.env) :: starEach [] X.env := by rfl)
    (na2 : starEach [.Call (.Name "range" p2) [ea] [] pos2] X.env = (false, eval (.Call (.Name "range" p2) [ea] [] pos2) X.env) :: starEach [] X.env := by rfl) : PD X C W (.Call (.Name "tuple" p) [.Call (.Name "range" p2) [ea] [] pos2] [] pos) (bnd (rg1M fa) fun ds => ret (.tup ds)) := by
  refine ⟨PE.imp (pe_tupRg B.calm (B.gl hg).1 (by rw [← B.hmg]; exact hm) (prg_1 (B.gl hg2).1 (by rw [← B.hmg]; exact hm2) ha.pe na) na2) fun σ H Q ⟨S, Fs, δ, w, q⟩ => ?_⟩
  refine rg1_read (k := fun ds S' H' F' δ' => Wd C S' H' F' σ δ' ∧ ∀ S2 H2 F2, Grow S' H' F' S2 H2 F2 → Wd C S2 H2 F2 σ δ' → ∀ v, Rp C S2 (.tup ds) v → Q v H2) w ((Aft.bind q).mono fun ds S' H' F' δ' g' w' q' => ⟨w', q'⟩) fun j ds S' H' F' δ' g' w' er ⟨_, hk⟩ => ?_
  obtain ⟨h1, rfl⟩ := rgD_ok er
  refine ⟨h1, fun q hq => ?_⟩
  obtain ⟨l1, l2, l3, l4⟩ := new_le (o := .tup (rgV 0 j)) w'.le hq
  refine hk _ _ F' (Grow.new l1 l2 l3) (w'.new l1 l2 l3 l4) (.ref q) ?_
  simp only [Rp]
  exact ⟨q, _, rfl, SqT.of upd_same, rpl_rg⟩
theorem klstRg (B : Bas X C W k N sc) (hg : glC sc "list" = true) (hm : C.mg "list" = none) (hg2 : glC sc "range" = true) (hm2 : C.mg "range" = none) (ha : PD X C W ea fa) (na : starEach [ea] X.env = (false, eval ea X.env) :: starEach [] X.env := by rfl)
    (na2 : starEach [.Call (.Name "range" p2) [ea] [] pos2] X.env = (false, eval (.Call (.Name "range" p2) [ea] [] pos2) X.env) :: starEach [] X.env := by rfl) : PD X C W (.Call (.Name "list" p) [.Call (.Name "range" p2) [ea] [] pos2] [] pos) (bnd (rg1M fa) fun ds => ret (.lst ds)) := by
  refine ⟨PE.imp (pe_listRg B.calm (B.gl hg).1 (by rw [← B.hmg]; exact hm) (prg_1 (B.gl hg2).1 (by rw [← B.hmg]; exact hm2) ha.pe na) na2) fun σ H Q ⟨S, Fs, δ, w, q⟩ => ?_⟩
  refine rg1_read (k := fun ds S' H' F' δ' => Wd C S' H' F' σ δ' ∧ ∀ S2 H2 F2, Grow S' H' F' S2 H2 F2 → Wd C S2 H2 F2 σ δ' → ∀ v, Rp C S2 (.lst ds) v → Q v H2) w ((Aft.bind q).mono fun ds S' H' F' δ' g' w' q' => ⟨w', q'⟩) fun j ds S' H' F' δ' g' w' er ⟨_, hk⟩ => ?_
  obtain ⟨h1, rfl⟩ := rgD_ok er
  refine ⟨h1, fun q hq => ?_⟩
  obtain ⟨l1, l2, l3, l4⟩ := new_le (o := .lst (rgV 0 j)) w'.le hq
  refine hk _ _ F' (Grow.new l1 l2 l3) (w'.new l1 l2 l3 l4) (.ref q) ?_
  simp only [Rp]
  exact ⟨q, _, rfl, upd_same, rpl_rg⟩
/-! ### the script, sliced -/
def slcF (i : Nat) (fh : M (Option Int)) : M D := fun δ => match δ[i]? with
  | some (.fz ds) => match fh δ with
    | .ok h δ' => .ok (.lst (cutL ds none h)) δ'
    | _ => .bad
  | _ => .bad
theorem pd_slcF {hi : Option Expr} {fh : M (Option Int)} (B : Bas X C W k N sc) (hx : nmC N sc i x = true) (hh : PX X C W hi fh) : PD X C W (.Subscript (.Name x p) (.Slice none hi none p2) pos) (slcF i fh) := by
  refine ⟨PE.imp (pe_slice sl_list (B.pv hx) po_none hh.po) fun σ H Q ⟨S, Fs, δ, w, q⟩ => ?_⟩
  unfold slcF at q
  cases hi2 : δ[i]? with
  | none => rw [hi2] at q; exact q.elim
  | some o =>
    rw [hi2] at q
    cases o with
    | fz ds =>
      obtain ⟨v, e1, r⟩ := w.sl i _ hi2 (by simp)
      simp only [RpO] at r
      obtain ⟨⟨l, vs, h1, h2, h3⟩, _⟩ := r
      refine ⟨v, e1, S, Fs, δ, w, ?_⟩
      dsimp only at q
      cases ef : fh δ with
      | bad => rw [ef] at q; exact q
      | er _ _ => rw [ef] at q; exact q.elim
      | ok h δ' =>
        rw [ef] at q
        intro S' H' F' g' w'
        refine ⟨l, vs, h1, ?_, fun pp hp => ?_⟩
        · rw [← B.hK]
          exact w'.le.l (g'.ls.l h2)
        · obtain ⟨l1, l2, l3, l4⟩ := new_le (o := .lst (cutV vs none h)) w'.le hp
          refine q _ _ F' (g'.trans (Grow.new l1 l2 l3)) (w'.new l1 l2 l3 l4) (.ref pp) ?_
          simp only [Rp]
          exact ⟨pp, _, rfl, upd_same, ((h3.mono g'.ls).cut).mono l1⟩
    | _ => exact q.elim
/-! ### keywords alone, in the parameters' order -/
structure CalK (P : Program) (w : World) (K : PySem.W.Frag) (mg : Str → Option Value) (base : Heap) (C : Ct) (x : Str) (ps : List Str) (k : Nat) (m : Fm) : Prop where
  ex : ∃ f fd, mg x = some (.ref f) ∧ PySem.W.keepIn K (.ref f) = true ∧ (∀ (s : Shared) (us : List Value), us.length = ps.length → BindsTo s fd ⟨[], ps.zip us⟩ (ps.zip us)) ∧ FnG P w K mg base k f fd ps.length ps (spM C m)
  lm : (∀ os r as, m os = .ok r as → as.length = os.length) ∧ ∀ os x as, m os = .er x as → as.length = os.length
structure PKv (X : Cx) (C : Ct) (W : WX) (ks : List Keyword) (as : List Ar) : Prop where
  pk : PK X ks (tAv C W (arM as))
theorem PK.imp {ks : List Keyword} {t t' : TA} (p : PK X ks t) (h : ∀ σ H Q, t' σ H Q → t σ H Q) : PK X ks t' := ⟨fun pos pins s σ H Q I q => p.run pos pins s σ H Q I (h σ H Q q)⟩
theorem pkv_nil : PKv X C W [] [] := ⟨PK.imp pk_nil fun σ H Q ⟨S, Fs, δ, w, q⟩ => q.now w [] rfl⟩
theorem pkv_d {nm : Option Str} {kp : Pos} {ks : List Keyword} {as : List Ar} (ha : PD X C W e f) (hr : PKv X C W ks as) : PKv X C W (⟨nm, e, kp⟩ :: ks) (.d f :: as) := by
  refine ⟨PK.imp (pk_cons ha.pe hr.pk) fun σ H Q ⟨S, Fs, δ, w, q⟩ => ⟨S, Fs, δ, w, (Aft.bind q).mono fun d S1 H1 F1 δ1 g1 w1 q1 v r1 => ⟨S1, F1, δ1, w1, (Aft.bind q1).mono fun ds S2 H2 F2 δ2 g2 w2 q2 vs r2 => ?_⟩⟩⟩
  exact q2.now w2 (v :: vs) ⟨v, vs, rfl, r1.mono g2.ls, r2⟩
theorem kcallK {ks : List Keyword} {ps : List Str} {j : Nat} {m : Fm} {as : List Ar} (B : Bas X C W k N sc) (c : CalK X.prog X.w X.K X.mg X.base C x ps j m) (hj : j ≤ k) (g : glC sc x = true) (ha : PKv X C W ks as)
    (hall : (backToKw pos (keywordEach ks X.env)).all (·.1.isSome) = true := by rfl) (hks : (backToKw pos (keywordEach ks X.env)).filterMap (·.1) = ps := by rfl)
    (hpl : ((backTo pos (starEach [] X.env)).any (·.1) || (backToKw pos (keywordEach ks X.env)).any (·.1.isNone)) = false := by rfl) : PN X C W (.Call (.Name x p) [] ks pos) (callM m as) := by
  obtain ⟨f, fd, h1, h2, h3, h4⟩ := c.ex
  have F := h4.mono hj
  refine ⟨⟨fun pins s σ H Q I q => wpAny_Call_Name_kw (ld_glob I (B.gl g).1 h1 ?_ (B.gl g).2)⟩⟩
  have q' := call_read (W := W) (ps := ps) (as := as) F.len c.lm.1 c.lm.2 q
  refine PySem.W.callWith_KW0 (h₀ := X.base) I.ok.mod.kin h2 hall (thn (ha.pk.run pos pins s σ H _ I q') fun us s1 ⟨vs, H1, I1, r, q1⟩ => ⟨I1.kIn, ?_⟩) hpl
  have hl : us.length = ps.length := by rw [← r.length]; exact F.len _ _ _ _ q1
  rw [hks]
  exact run_G (args := ⟨[], ps.zip us⟩) F B.room B.gu (h3 s1 us hl) (passAt B.tk σ) I1 r q1
end
end FW

set_option Elab.async false
set_option linter.all false
set_option maxRecDepth 100000
set_option maxHeartbeats 4000000
/-! FwZA: facts for any closures. -/
namespace FW
open PySem PySem.Spec PyProof.Rows L2
/-- the same program's part, the same tables -/
structure SameC (C C' : Ct) : Prop where
  K : C'.K = C.K
  mg : C'.mg = C.mg
  T : C'.T = C.T
theorem SameC.rfl {C : Ct} : SameC C C := ⟨Eq.refl _, Eq.refl _, Eq.refl _⟩
theorem SameC.trans {C C' C'' : Ct} (a : SameC C C') (b : SameC C' C'') : SameC C C'' := ⟨b.K.trans a.K, b.mg.trans a.mg, b.T.trans a.T⟩
def CalA (P : Program) (w : World) (K : PySem.W.Frag) (mg : Str → Option Value) (base : Heap) (C : Ct) (x : Str) (ps : List Str) (k : Nat) (m : Fm) : Prop := ∀ C', SameC C C' → Cal P w K mg base C' x ps k m
def CalKA (P : Program) (w : World) (K : PySem.W.Frag) (mg : Str → Option Value) (base : Heap) (C : Ct) (x : Str) (ps : List Str) (k : Nat) (m : Fm) : Prop := ∀ C', SameC C C' → CalK P w K mg base C' x ps k m
def ConA (C : Ct) (x : Str) (d : D) : Prop := ∀ C', SameC C C' → ConD C' x d
def HoA (P : Program) (w : World) (K : PySem.W.Frag) (mg : Str → Option Value) (base : Heap) (C : Ct) (x a : Str) (ks : List Kl) (r : D) : Prop := ∀ C', SameC C C' → HoTxt P w K mg base C' x a ks r
/-- X's lambdas -/
def mkC (C : Ct) (X : Cx) (Ls : List (Addr → Addr → Heap → Prop)) : Ct := ⟨C.K, C.mg, fun n => Ls.getD n fun _ _ _ => False, fun _ => FWV.codP (X.env.qual ++ "<lambda>"), C.T⟩
theorem mkC_same {C : Ct} {X : Cx} {Ls : List (Addr → Addr → Heap → Prop)} : SameC C (mkC C X Ls) := ⟨rfl, rfl, rfl⟩
theorem Bas.cv {X : Cx} {C C' : Ct} {W : WX} {k : Nat} {N : List Str} {sc : Scope} (B : Bas X C W k N sc) (s : SameC C C') : Bas X C' W k N sc := ⟨B.calm, B.nd, B.hN, s.K.trans B.hK, s.mg.trans B.hmg, B.tk, B.room, B.gu, B.scp, B.fn⟩
theorem Bst.cv {X : Cx} {C C' : Ct} {W : WX} {k : Nat} {N : List Str} {sc : Scope} (B : Bst X C W k N sc) (s : SameC C C') : Bst X C' W k N sc := ⟨B.b.cv s, B.po, B.hs, B.hf⟩
theorem pgs_lam {X : Cx} {C C' : Ct} {W : WX} {fx : List Nat} {body : List Stmt} {g : G} (s : SameC C C') (h : PGs' X C' W fx body g) : PGs' X C W fx body (cvG fx g) := pgs_cv s.K.symm s.mg.symm s.T.symm h
/-- X makes lambdas: its code object's table -/
def MkrA (X : Cx) (C : Ct) : Prop := ∀ C', SameC C C' → Mkr X C'
/-- the name of x's lambdas -/
def lamQ (x : Str) : Str := (envOfC x { kind := .function, names := [], isGenerator := false, isCoroutine := false } (0 : Nat) (0 : Nat) .none).qual ++ "<lambda>"
/-- a def's code object at c, its table at P -/
def MkD (base : Heap) (mg : Str → Option Value) (T : List (Addr × Str)) (fd : FuncData) (x : Str) : Prop := ∃ c P, LamX.TabB base mg c P ∧ fd.code = .ref c ∧ (P, lamQ x) ∈ T ∧ ∀ p ∈ T, p.1 = P → p.2 = lamQ x
theorem sw_cell {elt : Expr} {gs : List Comprehension} {scope : Scope} {pos py : Pos} {y : Str} {l : Nat} {env : Env} (hy : env.scope.names.lookup y = some .cell) : swapsWith (.ListComp elt gs scope pos) (some (.Name y py)) l env = pure false := by
  have ky : env.kindOf y = some .cell := hy
  unfold swapsWith
  simp only [ky]
  have e : ((some NameKind.cell == some NameKind.local) : Bool) = false := by decide
  simp only [e, Bool.and_false, Bool.false_and]
theorem sw_none2 {env : Env} {x y : Str} {a b : Expr} {px py pt pt2 : Pos} {kt k2} (hc : env.scope.names.lookup x = some .cell ∨ env.scope.names.lookup y = some .cell) :
    swappedStores [.Tuple [.Name x px, .Name y py] kt pt] (.Tuple [a, b] k2 pt2) env = pure none := by
  have n0 : ((some NameKind.cell == some NameKind.local) : Bool) = false := by decide
  unfold swappedStores
  simp only [List.length_cons, List.length_nil, Expr.pos, List.head?_cons, Option.map_some, Option.getD_some]
  split
  · rfl
  · split
    · rfl
    · rename_i h1 h2
      have hlen : (([Expr.Name x px, Expr.Name y py].filterMap fun e => match e with
          | .Name id pos => if env.kindOf id == some .local && pos.line == px.line then some id else none
          | _ => none).length != 0 + 1 + 1) = true := by
        have kk : ∀ z, env.scope.names.lookup z = some .cell → (env.kindOf z == some .local) = false := fun z hz => by
          have : env.kindOf z = some .cell := hz
          rw [this]; exact n0
        rcases hc with h | h
        · simp only [List.filterMap_cons, List.filterMap_nil, kk _ h, Bool.false_and, Bool.false_eq_true, if_false]
          split <;> rfl
        · simp only [List.filterMap_cons, List.filterMap_nil, kk _ h, Bool.false_and, Bool.false_eq_true, if_false]
          split <;> rfl
      refine (if_pos ?_).trans rfl
      rw [Bool.or_eq_true]
      exact .inl hlen
section
variable {X : Cx} {C : Ct} {W : WX} {fx : List Nat} {k i : Nat} {N : List Str} {sc : Scope} {x : Str} {pos p spos : Pos} {elt : Expr} {gs : List Comprehension} {scope : Scope} {f : M D} {fo : M O}
theorem Bas.cel (B : Bas X C W k N sc) (h : decide (sc.names.lookup x = some .cell) = true) : X.env.scope.names.lookup x = some .cell := by
  rcases B.scp x _ (of_decide_eq_true h) with z | ⟨z, _⟩
  · exact z
  · cases z
theorem gs_setC (B : Bas X C W k N sc) (h : nsC N sc i x = true) (hc : decide (sc.names.lookup x = some .cell) = true) (he : PD X C W (.ListComp elt gs scope pos) f) (hi : fx.contains i = false := by rfl) : PG' X C W fx (.Assign [.Name x p] (.ListComp elt gs scope pos) spos) (sSet i (shM f)) :=
  gs_set B h he hi (sw_cell (B.cel hc))
theorem gs_setOC (B : Bas X C W k N sc) (h : nsC N sc i x = true) (hc : decide (sc.names.lookup x = some .cell) = true) (he : PN X C W (.ListComp elt gs scope pos) fo) (hi : fx.contains i = false := by rfl) : PG' X C W fx (.Assign [.Name x p] (.ListComp elt gs scope pos) spos) (sSet i fo) :=
  gs_setO B h he hi (sw_cell (B.cel hc))
theorem pav_b {es : List Expr} {as : List Ar} (B : Bas X C W k N sc) (h : nmC N sc i x = true) (hr : PAv X C W es as) (hs : starEach (.Name x pos :: es) X.env = (false, eval (.Name x pos) X.env) :: starEach es X.env := by rfl) : PAv X C W (.Name x pos :: es) (.s i :: as) := pav_s (B.pv h) hr hs
/-- a, b = e with a cell among the names: the tuple is made and taken apart -/
theorem gs_asgC {x y : Str} {a b : Expr} {px py pt pt2 : Pos} {kt k2} {gg : TG} {t : Tg} {ix : List Nat} (B : Bas X C W k N sc) (hc : (decide (sc.names.lookup x = some .cell) || decide (sc.names.lookup y = some .cell)) = true) (he : PD X C W (.Tuple [a, b] k2 pt2) f) (ht : PTg X C ix (.Tuple [.Name x px, .Name y py] kt pt) gg t)
    (hi : (fx.all fun i => !ix.contains i) = true := by rfl) (hs : swapsWithSole [.Tuple [.Name x px, .Name y py] kt pt] (.Tuple [a, b] k2 pt2) spos.line X.env = pure false := by rfl)
    (h1 : (assignEach [.Tuple [.Name x px, .Name y py] kt pt] X.env).map (·.2) = [assign (.Tuple [.Name x px, .Name y py] kt pt) X.env] := by rfl) : PG' X C W fx (.Assign [.Tuple [.Name x px, .Name y py] kt pt] (.Tuple [a, b] k2 pt2) spos) (sAsg t f) := by
  refine gs_asg he ht hi hs (sw_none2 ?_) h1
  rw [Bool.or_eq_true] at hc
  exact hc.imp B.cel B.cel
end
theorem calA_of {P : Program} {w : World} {K : PySem.W.Frag} {mg : Str → Option Value} {base : Heap} {C : Ct} {x : Str} {ps : List Str} {k : Nat} {m : Fm} (h : ∀ C', SameC C C' → Cal P w K mg base C' x ps k m) : CalA P w K mg base C x ps k m := h
theorem CalA.cv {P : Program} {w : World} {K : PySem.W.Frag} {mg : Str → Option Value} {base : Heap} {C C' : Ct} {x : Str} {ps : List Str} {k : Nat} {m : Fm} (h : CalA P w K mg base C x ps k m) (s : SameC C C') : CalA P w K mg base C' x ps k m := fun C'' s' => h C'' (s.trans s')
end FW

set_option Elab.async false
set_option linter.all false
set_option maxRecDepth 100000
set_option maxHeartbeats 4000000
/-! FwZB: the clauses of a def that calls what it got; lists of lambdas. -/
namespace FW
open PySem PySem.Spec PyProof.Rows L2 LamX FWV FWW
theorem xfc_of {prog : Program} {K : PySem.W.Frag} {mg : Str → Option Value} {cn f : Str} {A fI : Addr} (T : FWX.XTxt prog K mg cn f A fI) : XfC K A := ⟨T.ga, T.gg, T.exC, T.hdC⟩
def HdK (Z : Cx) (hs : List ExceptHandler) (ks : List Kl) : Prop := ∃ l, Hds Z hs l ∧ KlOk Z.mg 1 l ks
section
variable {Z : Cx} {hs : List ExceptHandler} {ks : List Kl} {A fI : Addr} {n c f tag : Str} {p1 p2 p3 p4 p5 p6 p7 : Pos} {j x1 : Nat}
theorem hdk_nil : HdK Z [] [] := ⟨[], .nil, .nil⟩
theorem hdk_named {sc : Scope} (hsc : Z.env.scope = sc) (T : FWX.XTxt Z.prog Z.K Z.mg c f A fI) (hg0 : glC sc c = true) (hN : Z.N[1]? = some n) (hl0 : decide (sc.names.lookup n = some .local) = true) (hn1 : (n == ("__debug__" : Str)) = false) (hn2 : (n == ("__classdict__" : Str)) = false)
    (h : HdK Z hs ks) : HdK Z (.ExceptHandler (some (.Name c p1)) (some n) [.Return (some (.Tuple [.Constant (.str tag) j p3, .Attribute (.Name n p4) f p5] x1 p6)) p7] p2 :: hs) (⟨c, true, f, tag⟩ :: ks) := by
  obtain ⟨l, h1, h2⟩ := h
  have hg : Gl Z c := by
    simp only [glC, Bool.and_eq_true, decide_eq_true_eq, Bool.not_eq_true'] at hg0
    show Z.env.scope.names.lookup c = _
    rw [hsc]; exact hg0.1
  have hd : (c == ("__debug__" : Str)) = false := by
    simp only [glC, Bool.and_eq_true, decide_eq_true_eq, Bool.not_eq_true'] at hg0
    exact hg0.2
  have hl : Z.env.kindOf n = some .local := by
    show Z.env.scope.names.lookup n = _
    rw [hsc]; exact of_decide_eq_true hl0
  refine ⟨⟨.ref A, some 1, tsN A tag f⟩ :: l, .named ⟨hg, hd, .inl T.gC⟩ hN hl (fun a oe cls d pn hz hf => ?_) h1, .named (q := ⟨c, true, f, tag⟩) rfl T.gC h2⟩
  have hv : Vis (Z.suite a ((a, oe) :: pn)).env.scope n := .inl hl
  have ht := pss_one (ps_ret (pos := p7) (pe_tup (x1 := x1) (pos := p6) (pa_cons (pe_str (x := tag) (j := j) (pos := p3)) (pa_cons (pe_xf (pos := p5) (xfc_of T) T.noN hz hf (pe_var (X := Z.suite a ((a, oe) :: pn)) (pos := p4) (i := 1) hN hv hn1 hn2)) pa_nil))))
  refine PSs.imp ht fun D σ H hq => ?_
  obtain ⟨ec, hs1, dd, fs, v, e1, e2, e3, hp⟩ := hq
  exact ⟨.ref a, hs1, rfl, ec, dd, fs, v, e1, e2, e3, by rw [sizeLine_eq]; show 2 ≤ 16777216; omega, fun p hfr => hp p hfr⟩
theorem hdk_plain {sc : Scope} (hsc : Z.env.scope = sc) (hm : Z.mg c = some (.ref A)) (hg0 : glC sc c = true) (h : HdK Z hs ks) : HdK Z (.ExceptHandler (some (.Name c p1)) none [.Return (some (.Tuple [.Constant (.str tag) j p3] x1 p6)) p7] p2 :: hs) (⟨c, false, f, tag⟩ :: ks) := by
  obtain ⟨l, h1, h2⟩ := h
  simp only [glC, Bool.and_eq_true, decide_eq_true_eq, Bool.not_eq_true'] at hg0
  have hg : Gl Z c := by
    show Z.env.scope.names.lookup c = _
    rw [hsc]; exact hg0.1
  have hd := hg0.2
  refine ⟨⟨.ref A, none, tsP tag⟩ :: l, .plain ⟨hg, hd, .inl hm⟩ (fun a oe cls d pn hz hf => ?_) h1, .plain (q := ⟨c, false, f, tag⟩) rfl hm h2⟩
  refine PSs.imp (pss_one (ps_ret (pos := p7) (pe_tup (x1 := x1) (pos := p6) (pa_cons (pe_str (x := tag) (j := j) (pos := p3)) pa_nil)))) fun D σ H hq => ?_
  exact ⟨by rw [sizeLine_eq]; show 1 ≤ 16777216; omega, fun p hp => hq p hp⟩
theorem ret_tup1 {C : Ct} : ∃ tr, PE Z (.Tuple [.Constant (.str tag) j p3] x1 p6) tr ∧ ∀ (σ : L2.St) (S H : Hp) (Q : VK), Le S H → Newly C S H (.tup [.str tag]) Q → tr σ H Q := by
  refine ⟨_, pe_tup (x1 := x1) (pos := p6) (pa_cons (pe_str (x := tag) (j := j) (pos := p3)) pa_nil), fun σ S H Q le nw => ⟨by rw [sizeLine_eq]; show 1 ≤ 16777216; omega, fun p hp => nw.tup le ?_ hp⟩⟩
  simp only [RpL, Rp]
  exact ⟨_, _, rfl, rfl, rfl⟩
theorem ret_non {C : Ct} : ∃ tr, PE Z (.Constant .none j p3) tr ∧ ∀ (σ : L2.St) (S H : Hp) (Q : VK), Le S H → Newly C S H .non Q → tr σ H Q :=
  ⟨_, pe_non, fun σ S H Q le nw => nw.now le (by simp only [Rp])⟩
end
/-- X's lambdas from the off-th on -/
def LamAll (X : Cx) (C : Ct) (k : Nat) (N : List Str) (off : Nat) (Ls : List (M O)) : Prop := ∀ n g, Ls[n]? = some g → LamI X C k N (off + n) g
section
variable {X : Cx} {C : Ct} {k off : Nat} {N : List Str} {g : M O} {Ls : List (M O)}
theorem lamAll_nil : LamAll X C k N off [] := fun n g h => by simp at h
theorem lamAll_cons (h : LamI X C k N off g) (r : LamAll X C k N (off + 1) Ls) : LamAll X C k N off (g :: Ls) := fun n g' e => by
  cases n with
  | zero => simp at e; subst e; exact h
  | succ n => simp at e; have := r n g' e; rwa [show off + 1 + n = off + (n + 1) by omega] at this
theorem LamAll.at0 (h : LamAll X C k N 0 Ls) : ∀ n g, Ls[n]? = some g → LamI X C k N n g := fun n g e => by
  have := h n g e
  rwa [Nat.zero_add] at this
end
end FW
namespace FW
open PySem PySem.Spec PyProof.Rows L2
section
variable {P : Program} {w : World} {K : PySem.W.Frag} {mg : Str → Option Value} {base : Heap} {C C' : Ct} {x a : Str} {ps : List Str} {k : Nat} {m : Fm} {ks : List Kl} {r d : D}
theorem CalKA.cv (h : CalKA P w K mg base C x ps k m) (s : SameC C C') : CalKA P w K mg base C' x ps k m := fun C'' s' => h C'' (s.trans s')
theorem ConA.cv (h : ConA C x d) (s : SameC C C') : ConA C' x d := fun C'' s' => h C'' (s.trans s')
theorem HoA.cv (h : HoA P w K mg base C x a ks r) (s : SameC C C') : HoA P w K mg base C' x a ks r := fun C'' s' => h C'' (s.trans s')
theorem SameC.blt (s : SameC C C') (h : BLT C.mg) : BLT C'.mg := by rw [s.mg]; exact h
theorem mkrA_of {fd : FuncData} {N : List Str} {sc : Scope} {f : Addr} {cdv : Value} {A : Around} {outer : List Env} {s : Shared} {H : Hp} {E : XK} (Mk : MkD base mg C.T fd x) (hc : fd.code = cdv) (sm : SameC C C') : MkrA (DCx P w K mg base N x sc f cdv A outer s H E) C' := by
  intro C'' s'
  obtain ⟨c, Pa, h1, h2, h3, h4⟩ := Mk
  have hT : C''.T = C.T := (sm.trans s').T
  have e1 : (DCx P w K mg base N x sc f cdv A outer s H E).env.code = cdv := rfl
  have e2 : (DCx P w K mg base N x sc f cdv A outer s H E).env.qual ++ "<lambda>" = lamQ x := rfl
  refine ⟨⟨c, Pa, h1, ?_, ?_, fun p hp => ?_⟩⟩
  · rw [e1, ← hc, h2]
  · rw [e2, hT]
    exact h3
  · rw [e2]
    rw [hT] at hp
    exact h4 p hp
end
end FW

set_option Elab.async false
set_option linter.all false
set_option maxRecDepth 100000
set_option maxHeartbeats 4000000
/-! FwE1: the law's call over defs that want no guard. -/
namespace FWE
open PySem PySem.Spec PyProof.Rows L2 LamX FW
/-- what the law's call starts from -/
structure At0 (K : PySem.W.Frag) (mg mb : Str → Option Value) (cs : List (Addr × Addr)) (s : Shared) (a : Addr) (us : List Value) (ns : List Int) : Prop where
  k : K.In s.heap
  g : s.heap.Ns mainGlobals mg
  b : s.heap.Ns builtinsNs mb
  bb : ∀ x : Str, x ≠ "__name__" → mb x = bootBuiltins x
  lim : s.heap.NoLimit
  gens : s.gens = #[]
  tab : ∀ p ∈ cs, s.heap.get? p.2 = some { cls := .none, data := .fields #[] }
  ntab : ∀ p ∈ cs, K.lookup p.2 = none
  hd : ∀ p ∈ cs, PySem.W.CodeHd s.heap p.1 p.2
  bm : ∃ (m : Addr) (o : Obj), mg "__builtins__" = some (.ref m) ∧ m ≠ builtinsNs ∧ s.heap.get? m = some o ∧ o.cls = .type "module" ∧ o.dict = some builtinsNs ∧ o.data = .plain
  scr : s.heap.get? a = some { cls := .type "list", data := .seq us.toArray }
  isI : IntsAre us ns
  few : ns.length ≤ sizeLine
/-- the abstract heap: the tables, the script (if it is no part of K) -/
def H0 (K : PySem.W.Frag) (cs : List (Addr × Addr)) (a : Addr) (us : List Value) (ns : List Int) : Hp := fun b => if (cs.map (·.2)).contains b then some (.tbl #[]) else if b = a ∧ K.lookup a = none then some (.frz { cls := .type "list", data := .seq us.toArray } (.lst (ns.map V.int))) else none
section
variable {P : Program} {w : World} {K : PySem.W.Frag} {mg mb : Str → Option Value} {cs : List (Addr × Addr)} {s : Shared} {a : Addr} {us : List Value} {ns : List Int}
theorem H0_tab {p : Addr × Addr} (h : p ∈ cs) : H0 K cs a us ns p.2 = some (.tbl #[]) := by
  unfold H0
  rw [if_pos (List.contains_iff_mem.mpr (List.mem_map.mpr ⟨p, h, rfl⟩))]
theorem H0_inv {b : Addr} {u : HO} (h : H0 K cs a us ns b = some u) : (∃ p ∈ cs, b = p.2 ∧ u = .tbl #[]) ∨ (b = a ∧ K.lookup a = none ∧ u = .frz { cls := .type "list", data := .seq us.toArray } (.lst (ns.map V.int))) := by
  unfold H0 at h
  split at h
  · rename_i hc
    obtain ⟨p, hp, e⟩ := List.mem_map.mp (List.contains_iff_mem.mp hc)
    cases h
    exact .inl ⟨p, hp, e.symm, rfl⟩
  · split at h
    · rename_i hc
      cases h
      exact .inr ⟨hc.1, hc.2, rfl⟩
    · cases h
theorem At0.seen (z : At0 K mg mb cs s a us ns) {b : Addr} {o : Obj} (e : s.heap.get? b = some o) (h1 : ∀ vs n, o.data ≠ .seq vs n) (h2 : o.data ≠ .fields #[]) : H0 K cs a us ns b = none := by
  cases q : H0 K cs a us ns b with
  | none => rfl
  | some u =>
    rcases H0_inv q with ⟨p, hp, rfl, _⟩ | ⟨rfl, _, _⟩
    · rw [z.tab p hp] at e; cases e; exact absurd rfl h2
    · rw [z.scr] at e; cases e; exact absurd rfl (h1 _ _)
theorem At0.sq (z : At0 K mg mb cs s a us ns) : SqL K (H0 K cs a us ns) a (ns.map V.int) := by
  have rv := vals_ints z.isI
  have lv := z.isI.length
  cases hk : K.lookup a with
  | some o =>
    have e := z.k a o hk
    rw [z.scr] at e
    cases e
    exact .inr ⟨_, us.toArray, _, hk, rfl, rfl, rfl, by rw [List.size_toArray, lv]; exact z.few, by simpa using rv⟩
  | none =>
    refine .inl (.inr ⟨{ cls := .type "list", data := .seq us.toArray }, ?_⟩)
    unfold H0
    rw [if_neg, if_pos ⟨rfl, hk⟩]
    intro hc
    obtain ⟨p, hp, e⟩ := List.mem_map.mp (List.contains_iff_mem.mp hc)
    have t := z.tab p hp
    rw [e, z.scr] at t
    cases t
theorem At0.hok (z : At0 K mg mb cs s a us ns) : HOk P w (H0 K cs a us ns) s.heap := fun b u e => by
  rcases H0_inv e with ⟨p, hp, rfl, rfl⟩ | ⟨rfl, _, rfl⟩
  · exact z.tab p hp
  · exact ⟨z.scr, by rw [List.length_map]; exact z.few, us, _, vals_ints z.isI, z.scr⟩
/-- the ground: all but the tables and the script -/
theorem At0.low (z : At0 K mg mb cs s a us ns) {b : Addr} {o : Obj} (e : s.heap.get? b = some o) (h1 : ∀ vs n, o.data ≠ .seq vs n) (h2 : o.data ≠ .fields #[]) : (hidT s.heap (H0 K cs a us ns)).get? b = some o := hidT_get e (z.seen e h1 h2)
theorem At0.lowNs (z : At0 K mg mb cs s a us ns) {b : Addr} {m : Str → Option Value} (h : s.heap.Ns b m) : (hidT s.heap (H0 K cs a us ns)).Ns b m := by
  obtain ⟨o, es, ep, e, d, r⟩ := h
  refine ⟨o, es, ep, z.low e (fun vs n q => ?_) fun q => ?_, d, r⟩ <;> (rw [d] at q; cases q)
theorem At0.lowK (z : At0 K mg mb cs s a us ns) : K.In (hidT s.heap (H0 K cs a us ns)) := fun b o e => hidT_get (z.k b o e) (by
  cases q : H0 K cs a us ns b with
  | none => rfl
  | some u =>
    rcases H0_inv q with ⟨p, hp, rfl, _⟩ | ⟨rfl, hk, _⟩
    · rw [z.ntab p hp] at e; cases e
    · rw [hk] at e; cases e)
theorem At0.tabB (z : At0 K mg mb cs s a us ns) : ∀ p ∈ cs, TabB (hidT s.heap (H0 K cs a us ns)) mg p.1 p.2 := fun p hp => by
  refine ⟨?_, ?_, fun q => ?_⟩
  · obtain ⟨o, vs, file, tf, flags, tg, inF, text, tt, e1, r1, r2, r3, rest⟩ := z.hd p hp
    refine ⟨o, vs, file, tf, flags, tg, inF, text, tt, z.low e1 (fun ws n q => ?_) fun q => ?_, r1, r2, r3, rest⟩
    · rw [r2] at q; cases q
    · rw [r2] at q; cases q; simp at r3
  · obtain ⟨m, o, b1, b2, b3, b4, b5, b6⟩ := z.bm
    refine ⟨m, o, b1, b2, fun q => ?_, fun q => ?_, z.low b3 (fun vs n q => ?_) fun q => ?_, b4, b5, b6⟩
    · obtain ⟨o', es, ep, e, hd, _⟩ := z.g
      rw [q, e] at b3
      cases b3
      rw [hd] at b6
      cases b6
    · rw [q, z.tab p hp] at b3
      cases b3
      cases b6
    · rw [b6] at q; cases q
    · rw [b6] at q; cases q
  · obtain ⟨o, es, ep, e, hd, _⟩ := z.g
    rw [q, z.tab p hp] at e
    cases e
    cases hd
theorem At0.env (z : At0 K mg mb cs s a us ns) : Env0 P w K mg (hidT s.heap (H0 K cs a us ns)) callerA [] s (H0 K cs a us ns) := by
  obtain ⟨mc, l1, l2⟩ := z.lim
  exact ⟨rfl, ⟨z.lowK, z.lowNs z.g, ⟨mb, z.lowNs z.b, z.bb⟩, ⟨mc, z.lowNs l1, l2⟩⟩, fun b o e => of_hidT e, Nat.le_of_eq (hidT_size _ _), trivial, fun b hb => absurd (show b ∈ ([] : List Addr) from hb) (by simp), z.hok, .of_eq z.gens⟩
/-- the law's call: true comes -/
theorem law_callG {k : Nat} {fa : Addr} {fd : FuncData} {x : Str} {m : Fm} {C : Ct} {r : O} {as : List O} (z : At0 K mg mb cs s a us ns) (hr : Room k callerA) (hK : C.K = K) (hT : ∀ p ∈ C.T, ∃ q ∈ cs, p.1 = q.2)
    (F : FnG P w K mg (hidT s.heap (H0 K cs a us ns)) k fa fd 1 [x] (spM C m)) (hb : ∀ (s : Shared) (u : Value), BindsTo s fd ⟨[u], []⟩ [(x, u)]) (hm : m [.fz (ns.map .int)] = .ok (.sh (.bl true)) as) :
    codeAny (model P w) callerA (.call (.ref fa) ⟨[.ref a], []⟩) (fun r s' => r = .ok (.ret (.bool true)) ∧ OldK s.heap s'.heap ∧ s'.os = s.os ∧ AllBare s'.gens) s := by
  have sp0 : spM C m [.ref a] (H0 K cs a us ns) (fun v _ => v = .bl true) fun _ _ _ => False := by
    have rpl : RpL C (fun _ => none) (ns.map D.int) (ns.map V.int) := by
      refine RpL.of _ _ (by simp) fun i d v e1 e2 => ?_
      rw [List.getElem?_map] at e1 e2
      cases en : ns[i]? with
      | none => rw [en] at e1; cases e1
      | some n =>
        rw [en] at e1 e2
        cases e1; cases e2
        simp only [Rp]
    -- the script is shared, the tables are not
    refine ⟨fun b => if b = a ∧ K.lookup a = none then H0 K cs a us ns a else none, fun _ => [], [.fz (ns.map .int)], ⟨fun b o e => ?_, rfl, fun i o e ne => ?_, fun i j b h => absurd h (by simp), fun _ => List.nodup_nil, fun i b h => absurd h (by simp), ⟨fun p hp => ?_, fun p hp => ?_⟩⟩, ?_⟩
    · split at e
      · rename_i h; rw [h.1]; exact e
      · cases e
    · cases i with
      | succ i => simp at e
      | zero =>
        simp only [List.getElem?_cons_zero, Option.some.injEq] at e
        subst e
        refine ⟨.ref a, rfl, ?_⟩
        simp only [RpO]
        refine ⟨⟨a, ns.map V.int, rfl, ?_, rpl.mono fun b o e => by cases e⟩, trivial⟩
        rw [hK]
        rcases z.sq with q | q
        · left
          cases hk : K.lookup a with
          | some o =>
            exfalso
            rcases q with q | ⟨o', q⟩
            · rcases H0_inv q with ⟨p, hp, _, e2⟩ | ⟨_, e2, _⟩
              · cases e2
              · rw [hk] at e2; cases e2
            · rcases H0_inv q with ⟨p, hp, _, e2⟩ | ⟨_, e2, _⟩
              · cases e2
              · rw [hk] at e2; cases e2
          | none =>
            rcases q with q | ⟨o', q⟩
            · exact .inl ((if_pos ⟨rfl, rfl⟩).trans q)
            · exact .inr ⟨o', (if_pos ⟨rfl, rfl⟩).trans q⟩
        · exact .inr q
    · obtain ⟨q, hq, e⟩ := hT p hp
      exact TabS.nil (by rw [e]; exact H0_tab hq)
    · obtain ⟨q, hq, e⟩ := hT p hp
      split
      · rename_i h
        exfalso
        have t := z.tab q hq
        rw [← e, h.1, z.scr] at t
        cases t
      · rfl
    · rw [hm]
      intro v F S' H' Fs' _ _ rr _ _ _
      simp only [RpO, Rp] at rr
      exact rr.1
  refine codeAny_mono (F.run callerA [] s _ [.ref a] [.ref a] ⟨[.ref a], []⟩ _ _ hr rfl z.env (hb s (.ref a)) (.cons rfl .nil) sp0) fun r s' h => ?_
  cases r with
  | error e =>
    obtain ⟨_, _, _, _, _, _, _, _, _, _, _, _, no⟩ := h
    exact no.elim
  | ok fl =>
    cases fl with
    | next => exact False.elim h
    | brk => exact False.elim h
    | cont => exact False.elim h
    | ret u =>
      obtain ⟨v, H', os, bare, un, ok', rv, ev⟩ := h
      have ev : v = .bl true := ev
      subst ev
      obtain rfl : u = Value.bool true := rv
      have old : ∀ b o, (∀ p ∈ cs, b ≠ p.2) → s.heap.get? b = some o → s'.heap.get? b = some o := fun b o nb e => by
        cases q : H0 K cs a us ns b with
        | none => exact un.keep b o e q (fun h => absurd (show b ∈ ([] : List Addr) from h) (by simp)) (fun h => absurd (show b ∈ ([] : List Addr) from h) (by simp))
        | some u =>
          rcases H0_inv q with ⟨p, hp, e2, _⟩ | ⟨rfl, _, rfl⟩
          · exact absurd e2 (nb p hp)
          · have q2 := un.frzs b _ _ q
            have e3 := (ok' b _ q2).1
            rw [z.scr] at e
            cases e
            exact e3
      have tabs : ∀ p ∈ cs, ∃ more : Array Value, s'.heap.get? p.2 = some { cls := .none, data := .fields more } := fun p hp => by
        obtain ⟨more, q⟩ := un.tbls p.2 #[] (H0_tab hp)
        exact ⟨_, ok' p.2 _ q⟩
      refine ⟨rfl, ⟨fun b o e => ?_, fun b o e => ?_⟩, os, bare⟩
      · by_cases hb : ∃ p ∈ cs, b = p.2
        · obtain ⟨p, hp, rfl⟩ := hb
          obtain ⟨more, hmo⟩ := tabs p hp
          rw [z.tab p hp] at e
          cases e
          exact .inr (.inl ⟨((z.hd p hp).tab (z.tab p hp)).isCodeTable, rfl, #[], more, rfl, by rw [Array.empty_append]; exact hmo⟩)
        · exact .inl (old b o (fun p hp e2 => hb ⟨p, hp, e2⟩) e)
      · by_cases hb : ∃ p ∈ cs, b = p.2
        · obtain ⟨p, hp, rfl⟩ := hb
          obtain ⟨more, hmo⟩ := tabs p hp
          exact ⟨_, hmo⟩
        · exact ⟨o, old b o (fun p hp e2 => hb ⟨p, hp, e2⟩) e⟩
end
end FWE

set_option Elab.async false
set_option linter.all false
set_option maxRecDepth 100000
set_option maxHeartbeats 4000000
/-! FwE2: what the head tells: own exception classes as one Bool; the law's end. -/
namespace FWE
open PySem PySem.Spec PyProof.Rows L2 LamX FW PySem.W PySem.Calls
/-- the class at C: over Exception, its own things as they should be -/
def clB (K : Frag) (C : Addr) : Bool := match K.lookup C with
  | some ⟨.type "type", _, .cls cd, sl⟩ => (match cd.mro, sl.toList with
    | .ref C' :: bm, [_, _, _, _, some (.builtin n), _] => C' == C && n == "Exception.__new__" && !cd.hasDel && cd.hasDict && excTail FWX.eT bm && decide (alongIn K "__init__" bm = some (some (.builtin "Exception.__init__")))
    | _, _ => false)
  | _ => false
theorem clB_ok {K : Frag} {C : Addr} (h : clB K C = true) : ∃ nm q N bs bm sn sub ab col dd k0 k1 k2 k3 k5, K.lookup C = some (excClassObj nm q C N bs bm true sn sub ab col dd k0 k1 k2 k3 k5 "Exception.__new__") ∧ excTail FWX.eT bm = true ∧ alongIn K "__init__" bm = some (some (.builtin "Exception.__init__")) := by
  unfold clB at h
  split at h
  · rename_i dd cd sl ho
    split at h
    · rename_i C' bm k0 k1 k2 k3 n k5 hm hs
      simp only [Bool.and_eq_true, beq_iff_eq, Bool.not_eq_true', decide_eq_true_eq] at h
      obtain ⟨⟨⟨⟨⟨rfl, rfl⟩, h3⟩, h4⟩, h5⟩, h6⟩ := h
      obtain ⟨nm, bs, mro, ns, qn, hd, sn, sub, ab, col, del⟩ := cd
      dsimp only at hm h3 h4
      subst hm h3 h4
      have e : sl = #[k0, k1, k2, k3, some (.builtin "Exception.__new__"), k5] := by
        obtain ⟨l⟩ := sl
        simp only at hs
        rw [hs]
      subst e
      exact ⟨nm, qn, ns, bs, bm, sn, sub, ab, col, dd, k0, k1, k2, k3, k5, ho, h5, h6⟩
    · cases h
  · cases h
/-- all that is asked of the class cn at C, its __init__ at fI, but the text -/
def xcB (K : Frag) (C fI : Addr) (f : Str) : Bool :=
  clB K C && excOver K C FWX.eT && decide (findIn K (.ref C) "__setattr__" = some (some (.builtin "object.__setattr__"))) && decide (findIn K (.ref C) "__getattribute__" = some (some (.builtin "BaseException.__getattribute__"))) &&
  decide (findIn K (.ref C) "__getattr__" = some none) && decide (findIn K (.ref C) f = some none) && decide (takerIn K C f = some none) && decide (findIn K (.ref C) "__init__" = some (some (.ref fI))) && decide (typeIn K (.ref fI) = some (.type "function")) &&
  keepIn K (.ref C) && decide (subIn K (.ref C) (.type "BaseException") = some true) && decide (typeIn K (.ref C) = some (.type "type")) && hasDictIn K C && decide (exmOne K (.ref C) (.ref C) = some true) && decide (mroIn K C (.ref C) = some true) &&
  decide (mroIn K C (.type "Exception") = some true) && decide (nsIn K cStatics "thirdparty.any" = some none)
/-- the def at fI: its closure, its code -/
def fiB (K : Frag) (prog : Program) (C fI : Addr) (q : Str) : Bool := match K.lookup fI with
  | some ⟨_, _, .func fd, _⟩ => (match fd.closure, fd.code with
    | [(x, cc)], .ref cda => x == ("__class__" : Str) && codeIn K (.ref cda) q && (match K.lookup cc with
        | some ⟨_, _, .cell (some (.ref C')), _⟩ => C' == C
        | _ => false) && (match K.lookup cda with
        | some ⟨_, _, .fields vs, _⟩ => (match (vs[2]? : Option Value) with
          | some (.str fl _) => (prog.main.file : Str) == fl
          | _ => false)
        | _ => false)
    | _, _ => false)
  | _ => false
abbrev IniW : Type := Option (Str × Str × Arguments × FuncBody × Scope × Addr × Value × Value × Addr)
def iniW (K : Frag) (fI : Addr) : IniW := match K.lookup fI with
  | some ⟨_, _, .func fd, _⟩ => some (fd.name, fd.qualname, fd.params, fd.body, fd.scope, fd.globals, fd.defaults, fd.kwdefaults, fd.builtins)
  | _ => none
def iniV (q : Str) (a : Arguments) (b : List Stmt) (sc : Scope) : IniW := some ("__init__", q, a, .stmts b, sc, mainGlobals, .none, .none, builtinsNs)
theorem xt_of {prog : Program} {K : Frag} {mg : Str → Option Value} {cn f q z : Str} {C fI : Addr} {p1 p2 q0 q1 q2 q3 q4 q5 q6 q7 q8 q9 : Pos} {j : Nat} {pl : Addr → Sem Bool} (gC : mg cn = some (.ref C)) (gS : mg "super" = none) (hx : xcB K C fI f = true) (hf : fiB K prog C fI q = true)
    (hw : iniW K fI = iniV q (FWX.xA f p1 p2) (FWX.xB f z j q0 q1 q2 q3 q4 q5 q6 q7 q8 q9) (FWX.xS f)) (nf : (f == ("self" : Str)) = false) (ks : (FWX.xS f).names.lookup ("super" : Str) = some .globalImplicit) (kc : (FWX.xS f).names.lookup ("__class__" : Str) = some .free)
    (dbg : (f == ("__debug__" : Str)) = false) (file : (prog.main.scope.names.lookup ("super" : Str)).isSome = false)
    (hb : ∀ (doc pm : Value) (an : Option Addr) (cda cc : Addr) (ct x v : Value), bindArgs (ksFn "__init__" q (FWX.xA f p1 p2) (FWX.xB f z j q0 q1 q2 q3 q4 q5 q6 q7 q8 q9) (FWX.xS f) .none .none doc pm an (.ref cda) ct cc) ⟨[x, v], []⟩ = pure [(PySem.Str.ofString "self", x), (f, v)])
    (he : ∀ (cda cc L : Addr), eval (.Call (.Attribute (.Call (.Name "super" q0) [] [] q1) "__init__" q2) [.Constant (.str z) j q3] [] q4) (ksEnv q (FWX.xS f) L fI (.ref cda) cc) = (do
        let ov ← attributeBase (.Call (.Name "super" q0) [] [] q1) "__init__" (ksEnv q (FWX.xS f) L fI (.ref cda) cc) (eval (.Call (.Name "super" q0) [] [] q1) (ksEnv q (FWX.xS f) L fI (.ref cda) cc))
        standAt q2.atName
        let (g, first) ← holding [ov] (getMethod ov "__init__" (pl L))
        callWith q4 g first (backTo q4 (starEach [.Constant (.str z) j q3] (ksEnv q (FWX.xS f) L fI (.ref cda) cc))) [])) : FWX.XTxt prog K mg cn f C fI := by
  simp only [xcB, Bool.and_eq_true, decide_eq_true_eq] at hx
  obtain ⟨⟨⟨⟨⟨⟨⟨⟨⟨⟨⟨⟨⟨⟨⟨⟨h1, h2⟩, h3⟩, h4⟩, h5⟩, h6⟩, h7⟩, h8⟩, h9⟩, h10⟩, h11⟩, h12⟩, h13⟩, h14⟩, h15⟩, h16⟩, h17⟩ := hx
  unfold fiB at hf
  unfold iniW iniV at hw
  cases ho : K.lookup fI with
  | none => rw [ho] at hf; cases hf
  | some o =>
    obtain ⟨oc, od, dt, osl⟩ := o
    rw [ho] at hf hw
    cases dt with
    | func fd =>
      dsimp only at hf hw
      obtain ⟨name, qual, params, body, scope, globals, closure, defaults, kwd, doc, pm, an, code, ct, blt⟩ := fd
      dsimp only at hf hw
      simp only [Option.some.injEq, Prod.mk.injEq] at hw
      obtain ⟨rfl, rfl, rfl, rfl, rfl, rfl, rfl, rfl, rfl⟩ := hw
      split at hf
      · rename_i x cc cda
        simp only [Bool.and_eq_true, beq_iff_eq] at hf
        obtain ⟨⟨⟨rfl, hcd⟩, hcc⟩, hcf⟩ := hf
        cases e1 : K.lookup cc with
        | none => rw [e1] at hcc; cases hcc
        | some o1 =>
          obtain ⟨c1, d1, t1, s1⟩ := o1
          rw [e1] at hcc
          cases e2 : K.lookup cda with
          | none => rw [e2] at hcf; cases hcf
          | some o2 =>
            obtain ⟨c2, d2, t2, s2⟩ := o2
            rw [e2] at hcf
            cases t1 with
            | cell ov =>
              cases ov with
              | none => cases hcc
              | some u =>
                cases u with
                | ref C' =>
                  have hcc : C' = C := beq_iff_eq.mp hcc
                  subst hcc
                  cases t2 with
                  | fields vs =>
                    dsimp only at hcf
                    cases e3 : (vs[2]? : Option Value) with
                    | none => rw [e3] at hcf; cases hcf
                    | some u =>
                      rw [e3] at hcf
                      cases u with
                      | str fl tf =>
                        exact ⟨gC, gS, nf, ks, kc, dbg, clB_ok h1, h2, h3, h4, h5, h6, h7, h8, h9, h10, h11, h12, h13, h14, h15, h16, h17, file,
                          ⟨oc, od, _, .none, .none, doc, pm, an, ct, osl, cc, cda, c2, c1, d2, d1, s2, s1, vs, fl, tf, z, j, p1, p2, q0, q1, q2, q3, q4, q5, q6, q7, q8, q9, pl, ho, hcd, e2, e3, hcf, e1, fun x v => hb doc pm an cda cc ct x v, fun L => he cda cc L⟩⟩
                      | _ => cases hcf
                  | _ => cases hcf
                | _ => cases hcc
            | _ => cases hcc
      · cases hf
    | _ => cases hf
/-! ### the Hook -/
open He in
def asY (g : Addr → Option Obj) : Nat → List Addr
  | 0 => [mainGlobals, cStatics]
  | n + 1 => growD g (asY g n)
open He in
abbrev AlY : Type := AlD × Bool × List IniW
/-- a class's own __init__: the class, its qualified name, its text -/
structure IniD where
  c : Str
  q : Str
  a : Arguments
  b : List Stmt
  sc : Scope
def IniD.v (d : IniD) : IniW := iniV d.q d.a d.b d.sc
open He in
def fIn (K : Frag) (c : Str) : Addr := ma K (ga K c) "__init__"
open He in
structure SaysY (fa : List Fa) (fn : List DefD) (tf : List Defn) (ini : List IniD) (ex : Frag → Bool) (h : Heap) (K : Frag) : Prop where
  d : SaysD fa fn K
  more : ex K = true
  hd : ∀ p ∈ tf, codeHdIn K (cT K p).1 (cT K p).2 = true
  out : ∀ p ∈ tf, K.lookup (cT K p).2 = none
  empty : ∀ p ∈ tf, h.get? (cT K p).2 = some { cls := .none, data := .fields #[] }
  i : ∀ d ∈ ini, iniW K (fIn K d.c) = d.v
open He in
def obsY (n : Nat) (fa : List Fa) (fn : List DefD) (tf : List Defn) (ini : List IniD) (ex : Frag → Bool) (g : Addr → Option Obj) : AlY :=
  (obsD fa fn (frT g (asY g n)), ex (frT g (asY g n)) && tabsB g tf (frT g (asY g n)), ini.map fun d => iniW (frT g (asY g n)) (fIn (frT g (asY g n)) d.c))
open He in
def valY (fn : List DefD) (ini : List IniD) : AlY := (valD fn, true, ini.map IniD.v)
open He in
theorem saysY_of {n : Nat} {fa : List Fa} {fn : List DefD} {tf : List Defn} {ini : List IniD} {ex : Frag → Bool} {h : Heap} (e : obsY n fa fn tf ini ex h.get? = valY fn ini) : SaysY fa fn tf ini ex h (frT h.get? (asY h.get? n)) := by
  generalize hK : frT h.get? (asY h.get? n) = K
  have e1 : obsD fa fn K = valD fn := by rw [← hK]; exact congrArg (fun z : AlY => z.1) e
  have e2 : (ex K && tabsB h.get? tf K) = true := by rw [← hK]; exact congrArg (fun z : AlY => z.2.1) e
  have e3 : (ini.map fun d => iniW K (fIn K d.c)) = ini.map IniD.v := by rw [← hK]; exact congrArg (fun z : AlY => z.2.2) e
  obtain ⟨m1, m2⟩ := ba e2
  have tabs : ∀ p ∈ tf, codeHdIn K (cT K p).1 (cT K p).2 = true ∧ ∃ o, h.get? (cT K p).2 = some o ∧ emptyTab o = true := fun p hp => by
    obtain ⟨t1, t2⟩ := ba (List.all_eq_true.mp m2 p hp)
    refine ⟨t1, ?_⟩
    cases q : h.get? (cT K p).2 with
    | none => rw [q] at t2; cases t2
    | some o => rw [q] at t2; exact ⟨o, rfl, t2⟩
  refine ⟨e1, m1, fun p hp => (tabs p hp).1, fun p hp => ?_, fun p hp => ?_, fun d hd => ?_⟩
  · obtain ⟨_, o, q, z⟩ := tabs p hp
    have := frT_none (as := asY h.get? n) q z
    rw [hK] at this
    exact this
  · obtain ⟨_, o, q, z⟩ := tabs p hp
    rw [q, emptyTab_eq z]
  · obtain ⟨k, hk, ek⟩ := List.mem_iff_getElem.mp hd
    have := congrArg (fun l => l[k]?) e3
    simp only [List.getElem?_map, List.getElem?_eq_getElem hk, Option.map_some, Option.some.injEq, ek] at this
    exact this
open He in
def hookY (n : Nat) (fa : List Fa) (fn : List DefD) (tf : List Defn) (ini : List IniD) (ex : Frag → Bool) : Hook where
  α := AlY
  obs := fun s => obsY n fa fn tf ini ex s.heap.get?
  val := fun _ => valY fn ini
  says := fun _ h => ∃ K : Frag, K.In h ∧ SaysY fa fn tf ini ex h K
  of := fun _ _ e => ⟨_, frT_in, saysY_of e⟩
  keeps := fun _ _ _ ⟨K, hK, c⟩ k => ⟨K, Frag.In.keeps hK k, ⟨c.d, c.more, c.hd, c.out, fun p hp => k _ _ (c.empty p hp), c.i⟩⟩
theorem obsY_eq {n : Nat} {fa : List He.Fa} {fn : List He.DefD} {tf : List He.Defn} {ini : List IniD} {ex : Frag → Bool} {g : Addr → Option Obj} {s : Shared} (h : ∀ a, g a = s.heap.get? a) : obsY n fa fn tf ini ex g = (hookY n fa fn tf ini ex).obs s := by
  have e : g = s.heap.get? := funext h
  rw [e] <;> rfl
/-! ### the law's end -/
structure LawG (l : OpenLaw) (w : World) (K : Frag) (k n : Nat) (x : Str) (mg : Str → Option Value) (fa : Addr) (h : Heap) : Prop where
  ex : ∃ (fd : FuncData) (cs : List (Addr × Addr)) (m : Fm) (C : Ct), (∀ p ∈ cs, h.get? p.2 = some { cls := .none, data := .fields #[] }) ∧ (∀ p ∈ cs, K.lookup p.2 = none) ∧ (∀ p ∈ cs, CodeHd h p.1 p.2) ∧ (∀ (s : Shared) (u : Value), BindsTo s fd ⟨[u], []⟩ [(x, u)]) ∧
    C.K = K ∧ (∀ p ∈ C.T, ∃ q ∈ cs, p.1 = q.2) ∧ (∀ ns : List Int, ns.length ≤ n → (∀ z ∈ ns, Builtin.Int.intBits z ≤ 1048576) → ∃ as, m [.fz (ns.map .int)] = .ok (.sh (.bl true)) as) ∧
    ∀ base : Heap, K.In base → base.Ns mainGlobals mg → (∀ p ∈ cs, TabB base mg p.1 p.2) → FnG l.prog w K mg base k fa fd 1 [x] (spM C m)
theorem walk_ofG {l : OpenLaw} {n k : Nat} {q : Program} {loose : List Str} {XP : (Str → Option Value) → Heap → Prop} {YP : World → Heap → Prop} {d : DefRec} {x : Str} (hn : l.most = some n) (hn2 : n ≤ sizeLine) (hdf : d.params.defaults = []) (hr : Room k callerA)
    (F : ∀ (w : World) (mg : Str → Option Value) (fa : Addr) (h : Heap), YP w h → h.Ns mainGlobals mg → mg d.name = some (.ref fa) → ∃ K : Frag, K.In h ∧ LawG l w K k n x mg fa h) :
    WalkO q loose XP YP l.row.toRowW d [] (fun f vs => PySem.call f vs) := by
  refine Att.attach_callB hn hdf fun w s₀ s₁ mg mb fa o pm cd doc a vs ns G Y ho hd hcd hmg hobj hints hlen hbits hg => ?_
  obtain ⟨K, KX, L⟩ := F w mg fa _ Y G.T.g hmg
  obtain ⟨fd, cs, m, C, h1, h2, h3, h4, h5, h6, h7, h8⟩ := L.ex
  obtain ⟨as, h9⟩ := h7 ns hlen hbits
  have z : At0 K mg mb cs s₁ a vs ns := ⟨KX, G.T.g, G.T.b, G.T.builtins, G.T.nolimit, hg, h1, h2, h3, G.T.bmain, hobj, hints, Nat.le_trans hlen hn2⟩
  exact law_callG (r := .no) z hr h5 h6 (h8 _ z.lowK (z.lowNs z.g) z.tabB) h4 h9
end FWE

set_option Elab.async false
set_option linter.all false
set_option maxRecDepth 100000
set_option maxHeartbeats 4000000
/-! FwE3: the head's facts turned for the printed promises. -/
namespace FWE
open PySem PySem.Spec PyProof.Rows L2 LamX FW PySem.W PySem.Calls
section
variable {P : Program} {w : World} {K : Frag} {mg : Str → Option Value} {base h : Heap} {fa : List He.Fa} {fn : List He.DefD} {tf : List He.Defn} {ini : List IniD} {ex : Frag → Bool} {x : Str} {st : Stmt} {f : Addr} {fd : FuncData}
theorem fun_of (F : FunD K x x (defArgs st) (defBody st) (defScope st) [] [] f fd) : Fun K x x st f fd := by
  obtain ⟨oc, od, dV, kV, doc, pm, an, cdv, ct, osl, e, lk, hcd, hD, _⟩ := F.ex
  rcases hD with ⟨_, rfl⟩ | ⟨e2, _⟩
  · exact ⟨⟨oc, od, kV, doc, pm, an, cdv, ct, osl, e, lk, hcd⟩, F.kp⟩
  · exact absurd rfl e2
/-- the def x of the head's list -/
structure DefAt (K : Frag) (mg : Str → Option Value) (x : Str) (st : Stmt) (ps : List Str) (fd : FuncData) (f : Addr) : Prop where
  fn : Fun K x x st f fd
  fnD : FunD K x x (defArgs st) (defBody st) (defScope st) [] [] f fd
  gl : mg x = some (.ref f)
  bi : Binds K fd ps []
theorem defAt (KX : K.In h) (G : h.Ns mainGlobals mg) (c : SaysY fa fn tf ini ex h K) {ps : List Str} (i : Nat) (hi : fn[i]? = some ⟨(x, none), x, x, defArgs st, defBody st, defScope st, [], []⟩) (j : Nat) (hj : fa[j]? = some (.glo x))
    (hb : ∀ (kV doc pm : Value) (an : Option Addr) (cdv ct : Value) (us : List Value), us.length = ps.length → bindArgs (fnOf x x (defArgs st) (defBody st) (defScope st) .none kV doc pm an cdv ct) ⟨us, []⟩ = pure (ps.zip us)) :
    ∃ fd, DefAt K mg x st ps fd (He.ga K x) := by
  obtain ⟨fd, F⟩ := c.d.def_ i hi
  exact ⟨fd, fun_of F, F, He.glo_ok KX G (c.d.fact j hj), FunD.bindsN F hb⟩
/-- a module's int -/
theorem conA_int {C : Ct} (hm : C.mg = mg) (KX : K.In h) (G : h.Ns mainGlobals mg) (c : SaysY fa fn tf ini ex h K) {i : Int} (j : Nat) (hj : fa[j]? = some (.int x i)) : ConA C x (.int i) := fun C' s => by
  obtain ⟨t, e⟩ := He.int_ok KX G (c.d.fact j hj)
  exact ⟨_, .int i, by rw [s.mg, hm]; exact e, ⟨t, rfl⟩, fun S => by simp only [Rp]⟩
/-- built-ins' names -/
theorem blt_of {C : Ct} (hm : C.mg = mg) (KX : K.In h) (G : h.Ns mainGlobals mg) (c : SaysY fa fn tf ini ex h K) (hj : (bltNames.all fun x => fa.any fun z => match z with
    | .free y => decide (y = x)
    | _ => false) = true) : BLT C.mg := fun x hx => by
  obtain ⟨z, hz, e⟩ := List.any_eq_true.mp (List.all_eq_true.mp hj x hx)
  split at e
  · rename_i y
    have := of_decide_eq_true e
    subst this
    rw [hm]
    exact He.free_ok KX G (He.SaysD.facts c.d hz)
  · cases e
/-- the classes' answers -/
theorem sub_of {subT : List (Str × List Str)} {sub : Str → Str → Option Bool} (hs : ∀ a b r, sub a b = some r → (∃ l, (a, l) ∈ subT) ∧ ∃ l, (b, l) ∈ subT) (KX : K.In h) (G : h.Ns mainGlobals mg)
    (hg : ∀ p ∈ subT, mg p.1 = some (.ref (He.ga K p.1))) (h2 : (subT.all fun c => subT.all fun c' => decide (exmOne K (.ref (He.ga K c.1)) (.ref (He.ga K c'.1)) = sub c.1 c'.1)) = true) : SubOk K mg sub := by
  intro a b r A B e ha hb
  obtain ⟨⟨l1, m1⟩, l2, m2⟩ := hs a b r e
  have e1 := hg _ m1
  have e2 := hg _ m2
  rw [ha] at e1
  rw [hb] at e2
  cases e1
  cases e2
  have := of_decide_eq_true (List.all_eq_true.mp (List.all_eq_true.mp h2 _ m1) _ m2)
  rw [this]
  exact e
/-- a def that makes lambdas: its code object and table -/
theorem mkD_of (c : SaysY fa fn tf ini ex h K) {T : List (Addr × Str)} (F : Fun K x x st (He.ga K x) fd) (hp : (x, none) ∈ tf) (TB : ∀ p ∈ tf.map (He.cT K), TabB base mg p.1 p.2) (hT : T = tf.map fun p => ((He.cT K p).2, lamQ p.1)) (hu : ∀ p ∈ tf, p.2 = none)
    (inj : ∀ p ∈ tf, (He.cT K p).2 = (He.cT K (x, none)).2 → p.1 = x) : MkD base mg T fd x := by
  obtain ⟨oc, od, kV, doc, pm, an, cdv, ct, osl, e, lk, hcd⟩ := F.ex
  obtain ⟨cc, rfl⟩ := He.codeIn_ref hcd
  have hc : fd.code = .ref cc := by rw [e] <;> rfl
  have e3 : He.codeOf K (x, none) = cc := He.codeOf_eq lk hc
  refine ⟨(He.cT K (x, none)).1, (He.cT K (x, none)).2, TB _ (List.mem_map.mpr ⟨_, hp, rfl⟩), ?_, ?_, fun p hp' e4 => ?_⟩
  · rw [hc]
    show _ = Value.ref (He.codeOf K (x, none))
    rw [e3]
  · rw [hT]
    exact List.mem_map.mpr ⟨_, hp, rfl⟩
  · rw [hT] at hp'
    obtain ⟨q, hq, rfl⟩ := List.mem_map.mp hp'
    have := inj q hq e4
    show lamQ q.1 = lamQ x
    rw [this]
end
end FWE
namespace FWE
open PySem PySem.Spec PyProof.Rows L2 LamX FW
section
variable {P : Program} {w : World} {K : PySem.W.Frag} {mg : Str → Option Value} {base : Heap} {k : Nat} {fa : Addr} {x : Str} {st : Stmt} {fd : FuncData} {N ps : List Str} {C : Ct} {fx : List Nat} {g : G}
/-- the same as cal_of, the def known -/
theorem fnl_of (F : Fun K x x st fa fd) (Sc : FnScope N ps (defScope st)) (hN : ps.length ≤ N.length) (hK : C.K = K) (hmg : C.mg = mg)
    (hbody : ∀ (cdv : Value) (A : Around) (outer : List Env) (s : Shared) (H : Hp) (E : XK), Bst (DCx P w K mg base N x (defScope st) fa cdv A outer s H E) C (fun cls d _ H' => E cls d H') k N (defScope st) → fd.code = cdv →
      PGs' (DCx P w K mg base N x (defScope st) fa cdv A outer s H E) C (fun cls d _ H' => E cls d H') fx (defBody st) g) : FnG P w K mg base (k + 1) fa fd ps.length ps (spM C (runF ps.length N.length fx g)) :=
  fnG_of F Sc hN fun cdv A outer s H E hr hgu hcd => hbody cdv A outer s H E (bst_def hK hmg Sc.nd hr hgu) hcd
theorem calK_of (F : Fun K x x st fa fd) (hm : mg x = some (.ref fa)) (hb : ∀ (s : Shared) (us : List Value), us.length = ps.length → BindsTo s fd ⟨[], ps.zip us⟩ (ps.zip us)) (Sc : FnScope N ps (defScope st)) (hN : ps.length ≤ N.length) (hK : C.K = K) (hmg : C.mg = mg)
    (hbody : ∀ (cdv : Value) (A : Around) (outer : List Env) (s : Shared) (H : Hp) (E : XK), Bst (DCx P w K mg base N x (defScope st) fa cdv A outer s H E) C (fun cls d _ H' => E cls d H') k N (defScope st) → fd.code = cdv →
      PGs' (DCx P w K mg base N x (defScope st) fa cdv A outer s H E) C (fun cls d _ H' => E cls d H') fx (defBody st) g) : CalK P w K mg base C x ps (k + 1) (runF ps.length N.length fx g) :=
  ⟨⟨fa, fd, hm, F.kp, hb, fnl_of F Sc hN hK hmg hbody⟩, runF_len _ _ _ _⟩
/-- a call by keywords binds -/
theorem kwBind (F : FunD K x x (defArgs st) (defBody st) (defScope st) [] [] fa fd)
    (h : ∀ (kV doc pm : Value) (an : Option Addr) (cdv ct : Value) (us : List Value), us.length = ps.length → bindArgs (PySem.W.fnOf x x (defArgs st) (defBody st) (defScope st) .none kV doc pm an cdv ct) ⟨[], ps.zip us⟩ = pure (ps.zip us)) (s : Shared) (us : List Value) (hl : us.length = ps.length) : BindsTo s fd ⟨[], ps.zip us⟩ (ps.zip us) := by
  obtain ⟨oc, od, dV, kV, doc, pm, an, cdv, ct, osl, rfl, lk, hcd, hD, _⟩ := F.ex
  rcases hD with ⟨_, rfl⟩ | ⟨e, _⟩
  · exact .of_eq (h kV doc pm an cdv ct us hl)
  · exact absurd rfl e
end
end FWE

set_option Elab.async false
set_option linter.all false
set_option maxRecDepth 100000
set_option maxHeartbeats 4000000
/-! FwE4: a named comprehension over a frozen list, shared at once. -/
namespace FW
open PySem PySem.Spec PyProof.Rows L2
section
variable {X : Cx} {C : Ct} {W : WX} {fx : List Nat} {k i : Nat} {N : List Str} {sc : Scope} {x : Str} {pos p py spos : Pos} {elt tg iter : Expr} {fo : M O} {ifs : List Expr} {scope : Scope} {own : List (Str × Nat)} {fi : M (List D)} {t : Tg} {tt : M Bool} {fe : M D} {ix : List Nat} {gg : TG}
theorem dO_read (σ : L2.St) (H : Hp) (Q : VK) (q0 : tD C W (dO fo) σ H Q) : tO C W fo σ H Q := by
  obtain ⟨S, Fs, δ, w, q⟩ := q0
  refine ⟨S, Fs, δ, w, ?_⟩
  unfold dO bnd at q
  cases ef : fo δ with
  | bad => rw [ef] at q; exact q
  | er x δ' => rw [ef] at q; exact q
  | ok o δ' =>
    rw [ef] at q
    dsimp only at q
    intro S' H' Fs' g w' v F r nd dF fr
    cases o with
    | sh d =>
      simp only [RpO] at r
      exact q S' H' Fs' g w' v r.1
    | ol os =>
      unfold frO at q
      dsimp only at q
      cases el : leafs os with
      | none => rw [el] at q; exact q.elim
      | some ds =>
        rw [el] at q
        simp only [RpO] at r
        obtain ⟨l, vs, F', h1, h2, h3, h4, h5⟩ := r
        subst h2
        rw [leafs_eq el] at h5
        have hF := dF l (by simp)
        have w2 := w'.share h4 h3 hF
        have g2 := g.share (vs := vs) h3 (fr l (by simp))
        exact q _ _ _ g2 w2 v (by simp only [Rp]; exact ⟨l, vs, h1, upd_same, ((RpOL.leaves ds vs F' h5).2).mono (Le.upd h3)⟩)
    | no => exact q.elim
    | fz ds => exact q.elim
    | ob c ns os => exact q.elim
theorem gs_lcZD {j : Nat} (B : Bas X C W k N sc) (hx : llC N sc i x = true) (hk : X.env.scope.kind = .function) (hi : PIt X C W tg iter fi) (ok : blkC N sc scope own = true) (ht : InB X C W k N scope fun Y => PTg Y C ix tg gg t) (hc : InB X C W k N scope fun Y => PCs Y C W0 ifs tt) (he : InB X C W k N scope fun Y => PD Y C W0 elt fe)
    (hn : (scope.names.any fun (n, k) => n == x && (k == .local || k == .cell)) = false) (hl : (py.line == pos.line) = true := by rfl) (hf : fx.contains i = false := by rfl) (hix : (ix.all fun i => (own.map (·.2)).contains i) = true := by rfl) (hs : ∀ x, foldedSetIterable iter X.env x = pure x := by intro _; rfl) :
    PG' X C W fx (.Assign [.Name x py] (.ListComp elt [⟨tg, iter, ifs, 0⟩] scope pos) spos) (sSet i (shM (dO (frzM noLO j (olC (compM fi t tt fe (own.map (·.2)))))))) := by
  obtain ⟨h1, h2⟩ := B.ll hx
  refine ⟨PS.imp (ps_setLc B.calm B.ndX h1 h2 (sw_true hk h2 hl hn) hi.pi (B.blkOk ok) (fun s H C' cl fp => (ht s H C' cl fp B.blk).pg) (fun s H C' cl fp => (hc s H C' cl fp B.blk).pt) (fun s H C' cl fp => (he s H C' cl fp B.blk).pe) hs) fun E σ H q => ?_⟩
  exact comp_O (ht X.s_0 H (0 : Nat) [] [] B.blk).rd hix σ H _ (frzO_read σ H _ (dO_read σ H _ (setD_read hf q)))
end
end FW

set_option Elab.async false
set_option linter.all false
set_option maxRecDepth 100000
set_option maxHeartbeats 1000000
/-! PlA: running meanings by simp: each construct, applied to a state, as a bind over its parts' results. -/
namespace FW
open PySem PySem.Spec PyProof.Rows L2
theorem gv0 {d : D} {r : List O} : gv 0 (.sh d :: r) = .ok d (.sh d :: r) := rfl
theorem gt0 {a0 : O} {r : List O} : (a0 :: r)[0]? = some a0 := rfl
theorem st0 {a0 x : O} {r : List O} : (a0 :: r).set 0 x = x :: r := rfl
theorem gd0 {a0 x : O} {r : List O} : (a0 :: r).getD 0 x = a0 := rfl
theorem gv1 {a0 : O} {d : D} {r : List O} : gv 1 (a0 :: .sh d :: r) = .ok d (a0 :: .sh d :: r) := rfl
theorem gt1 {a0 a1 : O} {r : List O} : (a0 :: a1 :: r)[1]? = some a1 := rfl
theorem st1 {a0 a1 x : O} {r : List O} : (a0 :: a1 :: r).set 1 x = a0 :: x :: r := rfl
theorem gd1 {a0 a1 x : O} {r : List O} : (a0 :: a1 :: r).getD 1 x = a1 := rfl
theorem gv2 {a0 a1 : O} {d : D} {r : List O} : gv 2 (a0 :: a1 :: .sh d :: r) = .ok d (a0 :: a1 :: .sh d :: r) := rfl
theorem gt2 {a0 a1 a2 : O} {r : List O} : (a0 :: a1 :: a2 :: r)[2]? = some a2 := rfl
theorem st2 {a0 a1 a2 x : O} {r : List O} : (a0 :: a1 :: a2 :: r).set 2 x = a0 :: a1 :: x :: r := rfl
theorem gd2 {a0 a1 a2 x : O} {r : List O} : (a0 :: a1 :: a2 :: r).getD 2 x = a2 := rfl
theorem gv3 {a0 a1 a2 : O} {d : D} {r : List O} : gv 3 (a0 :: a1 :: a2 :: .sh d :: r) = .ok d (a0 :: a1 :: a2 :: .sh d :: r) := rfl
theorem gt3 {a0 a1 a2 a3 : O} {r : List O} : (a0 :: a1 :: a2 :: a3 :: r)[3]? = some a3 := rfl
theorem st3 {a0 a1 a2 a3 x : O} {r : List O} : (a0 :: a1 :: a2 :: a3 :: r).set 3 x = a0 :: a1 :: a2 :: x :: r := rfl
theorem gd3 {a0 a1 a2 a3 x : O} {r : List O} : (a0 :: a1 :: a2 :: a3 :: r).getD 3 x = a3 := rfl
theorem gv4 {a0 a1 a2 a3 : O} {d : D} {r : List O} : gv 4 (a0 :: a1 :: a2 :: a3 :: .sh d :: r) = .ok d (a0 :: a1 :: a2 :: a3 :: .sh d :: r) := rfl
theorem gt4 {a0 a1 a2 a3 a4 : O} {r : List O} : (a0 :: a1 :: a2 :: a3 :: a4 :: r)[4]? = some a4 := rfl
theorem st4 {a0 a1 a2 a3 a4 x : O} {r : List O} : (a0 :: a1 :: a2 :: a3 :: a4 :: r).set 4 x = a0 :: a1 :: a2 :: a3 :: x :: r := rfl
theorem gd4 {a0 a1 a2 a3 a4 x : O} {r : List O} : (a0 :: a1 :: a2 :: a3 :: a4 :: r).getD 4 x = a4 := rfl
theorem gv5 {a0 a1 a2 a3 a4 : O} {d : D} {r : List O} : gv 5 (a0 :: a1 :: a2 :: a3 :: a4 :: .sh d :: r) = .ok d (a0 :: a1 :: a2 :: a3 :: a4 :: .sh d :: r) := rfl
theorem gt5 {a0 a1 a2 a3 a4 a5 : O} {r : List O} : (a0 :: a1 :: a2 :: a3 :: a4 :: a5 :: r)[5]? = some a5 := rfl
theorem st5 {a0 a1 a2 a3 a4 a5 x : O} {r : List O} : (a0 :: a1 :: a2 :: a3 :: a4 :: a5 :: r).set 5 x = a0 :: a1 :: a2 :: a3 :: a4 :: x :: r := rfl
theorem gd5 {a0 a1 a2 a3 a4 a5 x : O} {r : List O} : (a0 :: a1 :: a2 :: a3 :: a4 :: a5 :: r).getD 5 x = a5 := rfl
theorem gv6 {a0 a1 a2 a3 a4 a5 : O} {d : D} {r : List O} : gv 6 (a0 :: a1 :: a2 :: a3 :: a4 :: a5 :: .sh d :: r) = .ok d (a0 :: a1 :: a2 :: a3 :: a4 :: a5 :: .sh d :: r) := rfl
theorem gt6 {a0 a1 a2 a3 a4 a5 a6 : O} {r : List O} : (a0 :: a1 :: a2 :: a3 :: a4 :: a5 :: a6 :: r)[6]? = some a6 := rfl
theorem st6 {a0 a1 a2 a3 a4 a5 a6 x : O} {r : List O} : (a0 :: a1 :: a2 :: a3 :: a4 :: a5 :: a6 :: r).set 6 x = a0 :: a1 :: a2 :: a3 :: a4 :: a5 :: x :: r := rfl
theorem gd6 {a0 a1 a2 a3 a4 a5 a6 x : O} {r : List O} : (a0 :: a1 :: a2 :: a3 :: a4 :: a5 :: a6 :: r).getD 6 x = a6 := rfl
theorem gv7 {a0 a1 a2 a3 a4 a5 a6 : O} {d : D} {r : List O} : gv 7 (a0 :: a1 :: a2 :: a3 :: a4 :: a5 :: a6 :: .sh d :: r) = .ok d (a0 :: a1 :: a2 :: a3 :: a4 :: a5 :: a6 :: .sh d :: r) := rfl
theorem gt7 {a0 a1 a2 a3 a4 a5 a6 a7 : O} {r : List O} : (a0 :: a1 :: a2 :: a3 :: a4 :: a5 :: a6 :: a7 :: r)[7]? = some a7 := rfl
theorem st7 {a0 a1 a2 a3 a4 a5 a6 a7 x : O} {r : List O} : (a0 :: a1 :: a2 :: a3 :: a4 :: a5 :: a6 :: a7 :: r).set 7 x = a0 :: a1 :: a2 :: a3 :: a4 :: a5 :: a6 :: x :: r := rfl
theorem gd7 {a0 a1 a2 a3 a4 a5 a6 a7 x : O} {r : List O} : (a0 :: a1 :: a2 :: a3 :: a4 :: a5 :: a6 :: a7 :: r).getD 7 x = a7 := rfl
theorem gv8 {a0 a1 a2 a3 a4 a5 a6 a7 : O} {d : D} {r : List O} : gv 8 (a0 :: a1 :: a2 :: a3 :: a4 :: a5 :: a6 :: a7 :: .sh d :: r) = .ok d (a0 :: a1 :: a2 :: a3 :: a4 :: a5 :: a6 :: a7 :: .sh d :: r) := rfl
theorem gt8 {a0 a1 a2 a3 a4 a5 a6 a7 a8 : O} {r : List O} : (a0 :: a1 :: a2 :: a3 :: a4 :: a5 :: a6 :: a7 :: a8 :: r)[8]? = some a8 := rfl
theorem st8 {a0 a1 a2 a3 a4 a5 a6 a7 a8 x : O} {r : List O} : (a0 :: a1 :: a2 :: a3 :: a4 :: a5 :: a6 :: a7 :: a8 :: r).set 8 x = a0 :: a1 :: a2 :: a3 :: a4 :: a5 :: a6 :: a7 :: x :: r := rfl
theorem gd8 {a0 a1 a2 a3 a4 a5 a6 a7 a8 x : O} {r : List O} : (a0 :: a1 :: a2 :: a3 :: a4 :: a5 :: a6 :: a7 :: a8 :: r).getD 8 x = a8 := rfl
theorem gv9 {a0 a1 a2 a3 a4 a5 a6 a7 a8 : O} {d : D} {r : List O} : gv 9 (a0 :: a1 :: a2 :: a3 :: a4 :: a5 :: a6 :: a7 :: a8 :: .sh d :: r) = .ok d (a0 :: a1 :: a2 :: a3 :: a4 :: a5 :: a6 :: a7 :: a8 :: .sh d :: r) := rfl
theorem gt9 {a0 a1 a2 a3 a4 a5 a6 a7 a8 a9 : O} {r : List O} : (a0 :: a1 :: a2 :: a3 :: a4 :: a5 :: a6 :: a7 :: a8 :: a9 :: r)[9]? = some a9 := rfl
theorem st9 {a0 a1 a2 a3 a4 a5 a6 a7 a8 a9 x : O} {r : List O} : (a0 :: a1 :: a2 :: a3 :: a4 :: a5 :: a6 :: a7 :: a8 :: a9 :: r).set 9 x = a0 :: a1 :: a2 :: a3 :: a4 :: a5 :: a6 :: a7 :: a8 :: x :: r := rfl
theorem gd9 {a0 a1 a2 a3 a4 a5 a6 a7 a8 a9 x : O} {r : List O} : (a0 :: a1 :: a2 :: a3 :: a4 :: a5 :: a6 :: a7 :: a8 :: a9 :: r).getD 9 x = a9 := rfl
theorem gv10 {a0 a1 a2 a3 a4 a5 a6 a7 a8 a9 : O} {d : D} {r : List O} : gv 10 (a0 :: a1 :: a2 :: a3 :: a4 :: a5 :: a6 :: a7 :: a8 :: a9 :: .sh d :: r) = .ok d (a0 :: a1 :: a2 :: a3 :: a4 :: a5 :: a6 :: a7 :: a8 :: a9 :: .sh d :: r) := rfl
theorem gt10 {a0 a1 a2 a3 a4 a5 a6 a7 a8 a9 a10 : O} {r : List O} : (a0 :: a1 :: a2 :: a3 :: a4 :: a5 :: a6 :: a7 :: a8 :: a9 :: a10 :: r)[10]? = some a10 := rfl
theorem st10 {a0 a1 a2 a3 a4 a5 a6 a7 a8 a9 a10 x : O} {r : List O} : (a0 :: a1 :: a2 :: a3 :: a4 :: a5 :: a6 :: a7 :: a8 :: a9 :: a10 :: r).set 10 x = a0 :: a1 :: a2 :: a3 :: a4 :: a5 :: a6 :: a7 :: a8 :: a9 :: x :: r := rfl
theorem gd10 {a0 a1 a2 a3 a4 a5 a6 a7 a8 a9 a10 x : O} {r : List O} : (a0 :: a1 :: a2 :: a3 :: a4 :: a5 :: a6 :: a7 :: a8 :: a9 :: a10 :: r).getD 10 x = a10 := rfl
theorem gv11 {a0 a1 a2 a3 a4 a5 a6 a7 a8 a9 a10 : O} {d : D} {r : List O} : gv 11 (a0 :: a1 :: a2 :: a3 :: a4 :: a5 :: a6 :: a7 :: a8 :: a9 :: a10 :: .sh d :: r) = .ok d (a0 :: a1 :: a2 :: a3 :: a4 :: a5 :: a6 :: a7 :: a8 :: a9 :: a10 :: .sh d :: r) := rfl
theorem gt11 {a0 a1 a2 a3 a4 a5 a6 a7 a8 a9 a10 a11 : O} {r : List O} : (a0 :: a1 :: a2 :: a3 :: a4 :: a5 :: a6 :: a7 :: a8 :: a9 :: a10 :: a11 :: r)[11]? = some a11 := rfl
theorem st11 {a0 a1 a2 a3 a4 a5 a6 a7 a8 a9 a10 a11 x : O} {r : List O} : (a0 :: a1 :: a2 :: a3 :: a4 :: a5 :: a6 :: a7 :: a8 :: a9 :: a10 :: a11 :: r).set 11 x = a0 :: a1 :: a2 :: a3 :: a4 :: a5 :: a6 :: a7 :: a8 :: a9 :: a10 :: x :: r := rfl
theorem gd11 {a0 a1 a2 a3 a4 a5 a6 a7 a8 a9 a10 a11 x : O} {r : List O} : (a0 :: a1 :: a2 :: a3 :: a4 :: a5 :: a6 :: a7 :: a8 :: a9 :: a10 :: a11 :: r).getD 11 x = a11 := rfl
theorem gv12 {a0 a1 a2 a3 a4 a5 a6 a7 a8 a9 a10 a11 : O} {d : D} {r : List O} : gv 12 (a0 :: a1 :: a2 :: a3 :: a4 :: a5 :: a6 :: a7 :: a8 :: a9 :: a10 :: a11 :: .sh d :: r) = .ok d (a0 :: a1 :: a2 :: a3 :: a4 :: a5 :: a6 :: a7 :: a8 :: a9 :: a10 :: a11 :: .sh d :: r) := rfl
theorem gt12 {a0 a1 a2 a3 a4 a5 a6 a7 a8 a9 a10 a11 a12 : O} {r : List O} : (a0 :: a1 :: a2 :: a3 :: a4 :: a5 :: a6 :: a7 :: a8 :: a9 :: a10 :: a11 :: a12 :: r)[12]? = some a12 := rfl
theorem st12 {a0 a1 a2 a3 a4 a5 a6 a7 a8 a9 a10 a11 a12 x : O} {r : List O} : (a0 :: a1 :: a2 :: a3 :: a4 :: a5 :: a6 :: a7 :: a8 :: a9 :: a10 :: a11 :: a12 :: r).set 12 x = a0 :: a1 :: a2 :: a3 :: a4 :: a5 :: a6 :: a7 :: a8 :: a9 :: a10 :: a11 :: x :: r := rfl
theorem gd12 {a0 a1 a2 a3 a4 a5 a6 a7 a8 a9 a10 a11 a12 x : O} {r : List O} : (a0 :: a1 :: a2 :: a3 :: a4 :: a5 :: a6 :: a7 :: a8 :: a9 :: a10 :: a11 :: a12 :: r).getD 12 x = a12 := rfl
theorem gv13 {a0 a1 a2 a3 a4 a5 a6 a7 a8 a9 a10 a11 a12 : O} {d : D} {r : List O} : gv 13 (a0 :: a1 :: a2 :: a3 :: a4 :: a5 :: a6 :: a7 :: a8 :: a9 :: a10 :: a11 :: a12 :: .sh d :: r) = .ok d (a0 :: a1 :: a2 :: a3 :: a4 :: a5 :: a6 :: a7 :: a8 :: a9 :: a10 :: a11 :: a12 :: .sh d :: r) := rfl
theorem gt13 {a0 a1 a2 a3 a4 a5 a6 a7 a8 a9 a10 a11 a12 a13 : O} {r : List O} : (a0 :: a1 :: a2 :: a3 :: a4 :: a5 :: a6 :: a7 :: a8 :: a9 :: a10 :: a11 :: a12 :: a13 :: r)[13]? = some a13 := rfl
theorem st13 {a0 a1 a2 a3 a4 a5 a6 a7 a8 a9 a10 a11 a12 a13 x : O} {r : List O} : (a0 :: a1 :: a2 :: a3 :: a4 :: a5 :: a6 :: a7 :: a8 :: a9 :: a10 :: a11 :: a12 :: a13 :: r).set 13 x = a0 :: a1 :: a2 :: a3 :: a4 :: a5 :: a6 :: a7 :: a8 :: a9 :: a10 :: a11 :: a12 :: x :: r := rfl
theorem gd13 {a0 a1 a2 a3 a4 a5 a6 a7 a8 a9 a10 a11 a12 a13 x : O} {r : List O} : (a0 :: a1 :: a2 :: a3 :: a4 :: a5 :: a6 :: a7 :: a8 :: a9 :: a10 :: a11 :: a12 :: a13 :: r).getD 13 x = a13 := rfl
theorem gv14 {a0 a1 a2 a3 a4 a5 a6 a7 a8 a9 a10 a11 a12 a13 : O} {d : D} {r : List O} : gv 14 (a0 :: a1 :: a2 :: a3 :: a4 :: a5 :: a6 :: a7 :: a8 :: a9 :: a10 :: a11 :: a12 :: a13 :: .sh d :: r) = .ok d (a0 :: a1 :: a2 :: a3 :: a4 :: a5 :: a6 :: a7 :: a8 :: a9 :: a10 :: a11 :: a12 :: a13 :: .sh d :: r) := rfl
theorem gt14 {a0 a1 a2 a3 a4 a5 a6 a7 a8 a9 a10 a11 a12 a13 a14 : O} {r : List O} : (a0 :: a1 :: a2 :: a3 :: a4 :: a5 :: a6 :: a7 :: a8 :: a9 :: a10 :: a11 :: a12 :: a13 :: a14 :: r)[14]? = some a14 := rfl
theorem st14 {a0 a1 a2 a3 a4 a5 a6 a7 a8 a9 a10 a11 a12 a13 a14 x : O} {r : List O} : (a0 :: a1 :: a2 :: a3 :: a4 :: a5 :: a6 :: a7 :: a8 :: a9 :: a10 :: a11 :: a12 :: a13 :: a14 :: r).set 14 x = a0 :: a1 :: a2 :: a3 :: a4 :: a5 :: a6 :: a7 :: a8 :: a9 :: a10 :: a11 :: a12 :: a13 :: x :: r := rfl
theorem gd14 {a0 a1 a2 a3 a4 a5 a6 a7 a8 a9 a10 a11 a12 a13 a14 x : O} {r : List O} : (a0 :: a1 :: a2 :: a3 :: a4 :: a5 :: a6 :: a7 :: a8 :: a9 :: a10 :: a11 :: a12 :: a13 :: a14 :: r).getD 14 x = a14 := rfl
theorem gv15 {a0 a1 a2 a3 a4 a5 a6 a7 a8 a9 a10 a11 a12 a13 a14 : O} {d : D} {r : List O} : gv 15 (a0 :: a1 :: a2 :: a3 :: a4 :: a5 :: a6 :: a7 :: a8 :: a9 :: a10 :: a11 :: a12 :: a13 :: a14 :: .sh d :: r) = .ok d (a0 :: a1 :: a2 :: a3 :: a4 :: a5 :: a6 :: a7 :: a8 :: a9 :: a10 :: a11 :: a12 :: a13 :: a14 :: .sh d :: r) := rfl
theorem gt15 {a0 a1 a2 a3 a4 a5 a6 a7 a8 a9 a10 a11 a12 a13 a14 a15 : O} {r : List O} : (a0 :: a1 :: a2 :: a3 :: a4 :: a5 :: a6 :: a7 :: a8 :: a9 :: a10 :: a11 :: a12 :: a13 :: a14 :: a15 :: r)[15]? = some a15 := rfl
theorem st15 {a0 a1 a2 a3 a4 a5 a6 a7 a8 a9 a10 a11 a12 a13 a14 a15 x : O} {r : List O} : (a0 :: a1 :: a2 :: a3 :: a4 :: a5 :: a6 :: a7 :: a8 :: a9 :: a10 :: a11 :: a12 :: a13 :: a14 :: a15 :: r).set 15 x = a0 :: a1 :: a2 :: a3 :: a4 :: a5 :: a6 :: a7 :: a8 :: a9 :: a10 :: a11 :: a12 :: a13 :: a14 :: x :: r := rfl
theorem gd15 {a0 a1 a2 a3 a4 a5 a6 a7 a8 a9 a10 a11 a12 a13 a14 a15 x : O} {r : List O} : (a0 :: a1 :: a2 :: a3 :: a4 :: a5 :: a6 :: a7 :: a8 :: a9 :: a10 :: a11 :: a12 :: a13 :: a14 :: a15 :: r).getD 15 x = a15 := rfl
theorem gv16 {a0 a1 a2 a3 a4 a5 a6 a7 a8 a9 a10 a11 a12 a13 a14 a15 : O} {d : D} {r : List O} : gv 16 (a0 :: a1 :: a2 :: a3 :: a4 :: a5 :: a6 :: a7 :: a8 :: a9 :: a10 :: a11 :: a12 :: a13 :: a14 :: a15 :: .sh d :: r) = .ok d (a0 :: a1 :: a2 :: a3 :: a4 :: a5 :: a6 :: a7 :: a8 :: a9 :: a10 :: a11 :: a12 :: a13 :: a14 :: a15 :: .sh d :: r) := rfl
theorem gt16 {a0 a1 a2 a3 a4 a5 a6 a7 a8 a9 a10 a11 a12 a13 a14 a15 a16 : O} {r : List O} : (a0 :: a1 :: a2 :: a3 :: a4 :: a5 :: a6 :: a7 :: a8 :: a9 :: a10 :: a11 :: a12 :: a13 :: a14 :: a15 :: a16 :: r)[16]? = some a16 := rfl
theorem st16 {a0 a1 a2 a3 a4 a5 a6 a7 a8 a9 a10 a11 a12 a13 a14 a15 a16 x : O} {r : List O} : (a0 :: a1 :: a2 :: a3 :: a4 :: a5 :: a6 :: a7 :: a8 :: a9 :: a10 :: a11 :: a12 :: a13 :: a14 :: a15 :: a16 :: r).set 16 x = a0 :: a1 :: a2 :: a3 :: a4 :: a5 :: a6 :: a7 :: a8 :: a9 :: a10 :: a11 :: a12 :: a13 :: a14 :: a15 :: x :: r := rfl
theorem gd16 {a0 a1 a2 a3 a4 a5 a6 a7 a8 a9 a10 a11 a12 a13 a14 a15 a16 x : O} {r : List O} : (a0 :: a1 :: a2 :: a3 :: a4 :: a5 :: a6 :: a7 :: a8 :: a9 :: a10 :: a11 :: a12 :: a13 :: a14 :: a15 :: a16 :: r).getD 16 x = a16 := rfl
theorem gv17 {a0 a1 a2 a3 a4 a5 a6 a7 a8 a9 a10 a11 a12 a13 a14 a15 a16 : O} {d : D} {r : List O} : gv 17 (a0 :: a1 :: a2 :: a3 :: a4 :: a5 :: a6 :: a7 :: a8 :: a9 :: a10 :: a11 :: a12 :: a13 :: a14 :: a15 :: a16 :: .sh d :: r) = .ok d (a0 :: a1 :: a2 :: a3 :: a4 :: a5 :: a6 :: a7 :: a8 :: a9 :: a10 :: a11 :: a12 :: a13 :: a14 :: a15 :: a16 :: .sh d :: r) := rfl
theorem gt17 {a0 a1 a2 a3 a4 a5 a6 a7 a8 a9 a10 a11 a12 a13 a14 a15 a16 a17 : O} {r : List O} : (a0 :: a1 :: a2 :: a3 :: a4 :: a5 :: a6 :: a7 :: a8 :: a9 :: a10 :: a11 :: a12 :: a13 :: a14 :: a15 :: a16 :: a17 :: r)[17]? = some a17 := rfl
theorem st17 {a0 a1 a2 a3 a4 a5 a6 a7 a8 a9 a10 a11 a12 a13 a14 a15 a16 a17 x : O} {r : List O} : (a0 :: a1 :: a2 :: a3 :: a4 :: a5 :: a6 :: a7 :: a8 :: a9 :: a10 :: a11 :: a12 :: a13 :: a14 :: a15 :: a16 :: a17 :: r).set 17 x = a0 :: a1 :: a2 :: a3 :: a4 :: a5 :: a6 :: a7 :: a8 :: a9 :: a10 :: a11 :: a12 :: a13 :: a14 :: a15 :: a16 :: x :: r := rfl
theorem gd17 {a0 a1 a2 a3 a4 a5 a6 a7 a8 a9 a10 a11 a12 a13 a14 a15 a16 a17 x : O} {r : List O} : (a0 :: a1 :: a2 :: a3 :: a4 :: a5 :: a6 :: a7 :: a8 :: a9 :: a10 :: a11 :: a12 :: a13 :: a14 :: a15 :: a16 :: a17 :: r).getD 17 x = a17 := rfl
theorem gv18 {a0 a1 a2 a3 a4 a5 a6 a7 a8 a9 a10 a11 a12 a13 a14 a15 a16 a17 : O} {d : D} {r : List O} : gv 18 (a0 :: a1 :: a2 :: a3 :: a4 :: a5 :: a6 :: a7 :: a8 :: a9 :: a10 :: a11 :: a12 :: a13 :: a14 :: a15 :: a16 :: a17 :: .sh d :: r) = .ok d (a0 :: a1 :: a2 :: a3 :: a4 :: a5 :: a6 :: a7 :: a8 :: a9 :: a10 :: a11 :: a12 :: a13 :: a14 :: a15 :: a16 :: a17 :: .sh d :: r) := rfl
theorem gt18 {a0 a1 a2 a3 a4 a5 a6 a7 a8 a9 a10 a11 a12 a13 a14 a15 a16 a17 a18 : O} {r : List O} : (a0 :: a1 :: a2 :: a3 :: a4 :: a5 :: a6 :: a7 :: a8 :: a9 :: a10 :: a11 :: a12 :: a13 :: a14 :: a15 :: a16 :: a17 :: a18 :: r)[18]? = some a18 := rfl
theorem st18 {a0 a1 a2 a3 a4 a5 a6 a7 a8 a9 a10 a11 a12 a13 a14 a15 a16 a17 a18 x : O} {r : List O} : (a0 :: a1 :: a2 :: a3 :: a4 :: a5 :: a6 :: a7 :: a8 :: a9 :: a10 :: a11 :: a12 :: a13 :: a14 :: a15 :: a16 :: a17 :: a18 :: r).set 18 x = a0 :: a1 :: a2 :: a3 :: a4 :: a5 :: a6 :: a7 :: a8 :: a9 :: a10 :: a11 :: a12 :: a13 :: a14 :: a15 :: a16 :: a17 :: x :: r := rfl
theorem gd18 {a0 a1 a2 a3 a4 a5 a6 a7 a8 a9 a10 a11 a12 a13 a14 a15 a16 a17 a18 x : O} {r : List O} : (a0 :: a1 :: a2 :: a3 :: a4 :: a5 :: a6 :: a7 :: a8 :: a9 :: a10 :: a11 :: a12 :: a13 :: a14 :: a15 :: a16 :: a17 :: a18 :: r).getD 18 x = a18 := rfl
theorem gv19 {a0 a1 a2 a3 a4 a5 a6 a7 a8 a9 a10 a11 a12 a13 a14 a15 a16 a17 a18 : O} {d : D} {r : List O} : gv 19 (a0 :: a1 :: a2 :: a3 :: a4 :: a5 :: a6 :: a7 :: a8 :: a9 :: a10 :: a11 :: a12 :: a13 :: a14 :: a15 :: a16 :: a17 :: a18 :: .sh d :: r) = .ok d (a0 :: a1 :: a2 :: a3 :: a4 :: a5 :: a6 :: a7 :: a8 :: a9 :: a10 :: a11 :: a12 :: a13 :: a14 :: a15 :: a16 :: a17 :: a18 :: .sh d :: r) := rfl
theorem gt19 {a0 a1 a2 a3 a4 a5 a6 a7 a8 a9 a10 a11 a12 a13 a14 a15 a16 a17 a18 a19 : O} {r : List O} : (a0 :: a1 :: a2 :: a3 :: a4 :: a5 :: a6 :: a7 :: a8 :: a9 :: a10 :: a11 :: a12 :: a13 :: a14 :: a15 :: a16 :: a17 :: a18 :: a19 :: r)[19]? = some a19 := rfl
theorem st19 {a0 a1 a2 a3 a4 a5 a6 a7 a8 a9 a10 a11 a12 a13 a14 a15 a16 a17 a18 a19 x : O} {r : List O} : (a0 :: a1 :: a2 :: a3 :: a4 :: a5 :: a6 :: a7 :: a8 :: a9 :: a10 :: a11 :: a12 :: a13 :: a14 :: a15 :: a16 :: a17 :: a18 :: a19 :: r).set 19 x = a0 :: a1 :: a2 :: a3 :: a4 :: a5 :: a6 :: a7 :: a8 :: a9 :: a10 :: a11 :: a12 :: a13 :: a14 :: a15 :: a16 :: a17 :: a18 :: x :: r := rfl
theorem gd19 {a0 a1 a2 a3 a4 a5 a6 a7 a8 a9 a10 a11 a12 a13 a14 a15 a16 a17 a18 a19 x : O} {r : List O} : (a0 :: a1 :: a2 :: a3 :: a4 :: a5 :: a6 :: a7 :: a8 :: a9 :: a10 :: a11 :: a12 :: a13 :: a14 :: a15 :: a16 :: a17 :: a18 :: a19 :: r).getD 19 x = a19 := rfl
theorem gv20 {a0 a1 a2 a3 a4 a5 a6 a7 a8 a9 a10 a11 a12 a13 a14 a15 a16 a17 a18 a19 : O} {d : D} {r : List O} : gv 20 (a0 :: a1 :: a2 :: a3 :: a4 :: a5 :: a6 :: a7 :: a8 :: a9 :: a10 :: a11 :: a12 :: a13 :: a14 :: a15 :: a16 :: a17 :: a18 :: a19 :: .sh d :: r) = .ok d (a0 :: a1 :: a2 :: a3 :: a4 :: a5 :: a6 :: a7 :: a8 :: a9 :: a10 :: a11 :: a12 :: a13 :: a14 :: a15 :: a16 :: a17 :: a18 :: a19 :: .sh d :: r) := rfl
theorem gt20 {a0 a1 a2 a3 a4 a5 a6 a7 a8 a9 a10 a11 a12 a13 a14 a15 a16 a17 a18 a19 a20 : O} {r : List O} : (a0 :: a1 :: a2 :: a3 :: a4 :: a5 :: a6 :: a7 :: a8 :: a9 :: a10 :: a11 :: a12 :: a13 :: a14 :: a15 :: a16 :: a17 :: a18 :: a19 :: a20 :: r)[20]? = some a20 := rfl
theorem st20 {a0 a1 a2 a3 a4 a5 a6 a7 a8 a9 a10 a11 a12 a13 a14 a15 a16 a17 a18 a19 a20 x : O} {r : List O} : (a0 :: a1 :: a2 :: a3 :: a4 :: a5 :: a6 :: a7 :: a8 :: a9 :: a10 :: a11 :: a12 :: a13 :: a14 :: a15 :: a16 :: a17 :: a18 :: a19 :: a20 :: r).set 20 x = a0 :: a1 :: a2 :: a3 :: a4 :: a5 :: a6 :: a7 :: a8 :: a9 :: a10 :: a11 :: a12 :: a13 :: a14 :: a15 :: a16 :: a17 :: a18 :: a19 :: x :: r := rfl
theorem gd20 {a0 a1 a2 a3 a4 a5 a6 a7 a8 a9 a10 a11 a12 a13 a14 a15 a16 a17 a18 a19 a20 x : O} {r : List O} : (a0 :: a1 :: a2 :: a3 :: a4 :: a5 :: a6 :: a7 :: a8 :: a9 :: a10 :: a11 :: a12 :: a13 :: a14 :: a15 :: a16 :: a17 :: a18 :: a19 :: a20 :: r).getD 20 x = a20 := rfl
theorem gv21 {a0 a1 a2 a3 a4 a5 a6 a7 a8 a9 a10 a11 a12 a13 a14 a15 a16 a17 a18 a19 a20 : O} {d : D} {r : List O} : gv 21 (a0 :: a1 :: a2 :: a3 :: a4 :: a5 :: a6 :: a7 :: a8 :: a9 :: a10 :: a11 :: a12 :: a13 :: a14 :: a15 :: a16 :: a17 :: a18 :: a19 :: a20 :: .sh d :: r) = .ok d (a0 :: a1 :: a2 :: a3 :: a4 :: a5 :: a6 :: a7 :: a8 :: a9 :: a10 :: a11 :: a12 :: a13 :: a14 :: a15 :: a16 :: a17 :: a18 :: a19 :: a20 :: .sh d :: r) := rfl
theorem gt21 {a0 a1 a2 a3 a4 a5 a6 a7 a8 a9 a10 a11 a12 a13 a14 a15 a16 a17 a18 a19 a20 a21 : O} {r : List O} : (a0 :: a1 :: a2 :: a3 :: a4 :: a5 :: a6 :: a7 :: a8 :: a9 :: a10 :: a11 :: a12 :: a13 :: a14 :: a15 :: a16 :: a17 :: a18 :: a19 :: a20 :: a21 :: r)[21]? = some a21 := rfl
theorem st21 {a0 a1 a2 a3 a4 a5 a6 a7 a8 a9 a10 a11 a12 a13 a14 a15 a16 a17 a18 a19 a20 a21 x : O} {r : List O} : (a0 :: a1 :: a2 :: a3 :: a4 :: a5 :: a6 :: a7 :: a8 :: a9 :: a10 :: a11 :: a12 :: a13 :: a14 :: a15 :: a16 :: a17 :: a18 :: a19 :: a20 :: a21 :: r).set 21 x = a0 :: a1 :: a2 :: a3 :: a4 :: a5 :: a6 :: a7 :: a8 :: a9 :: a10 :: a11 :: a12 :: a13 :: a14 :: a15 :: a16 :: a17 :: a18 :: a19 :: a20 :: x :: r := rfl
theorem gd21 {a0 a1 a2 a3 a4 a5 a6 a7 a8 a9 a10 a11 a12 a13 a14 a15 a16 a17 a18 a19 a20 a21 x : O} {r : List O} : (a0 :: a1 :: a2 :: a3 :: a4 :: a5 :: a6 :: a7 :: a8 :: a9 :: a10 :: a11 :: a12 :: a13 :: a14 :: a15 :: a16 :: a17 :: a18 :: a19 :: a20 :: a21 :: r).getD 21 x = a21 := rfl
theorem gv22 {a0 a1 a2 a3 a4 a5 a6 a7 a8 a9 a10 a11 a12 a13 a14 a15 a16 a17 a18 a19 a20 a21 : O} {d : D} {r : List O} : gv 22 (a0 :: a1 :: a2 :: a3 :: a4 :: a5 :: a6 :: a7 :: a8 :: a9 :: a10 :: a11 :: a12 :: a13 :: a14 :: a15 :: a16 :: a17 :: a18 :: a19 :: a20 :: a21 :: .sh d :: r) = .ok d (a0 :: a1 :: a2 :: a3 :: a4 :: a5 :: a6 :: a7 :: a8 :: a9 :: a10 :: a11 :: a12 :: a13 :: a14 :: a15 :: a16 :: a17 :: a18 :: a19 :: a20 :: a21 :: .sh d :: r) := rfl
theorem gt22 {a0 a1 a2 a3 a4 a5 a6 a7 a8 a9 a10 a11 a12 a13 a14 a15 a16 a17 a18 a19 a20 a21 a22 : O} {r : List O} : (a0 :: a1 :: a2 :: a3 :: a4 :: a5 :: a6 :: a7 :: a8 :: a9 :: a10 :: a11 :: a12 :: a13 :: a14 :: a15 :: a16 :: a17 :: a18 :: a19 :: a20 :: a21 :: a22 :: r)[22]? = some a22 := rfl
theorem st22 {a0 a1 a2 a3 a4 a5 a6 a7 a8 a9 a10 a11 a12 a13 a14 a15 a16 a17 a18 a19 a20 a21 a22 x : O} {r : List O} : (a0 :: a1 :: a2 :: a3 :: a4 :: a5 :: a6 :: a7 :: a8 :: a9 :: a10 :: a11 :: a12 :: a13 :: a14 :: a15 :: a16 :: a17 :: a18 :: a19 :: a20 :: a21 :: a22 :: r).set 22 x = a0 :: a1 :: a2 :: a3 :: a4 :: a5 :: a6 :: a7 :: a8 :: a9 :: a10 :: a11 :: a12 :: a13 :: a14 :: a15 :: a16 :: a17 :: a18 :: a19 :: a20 :: a21 :: x :: r := rfl
theorem gd22 {a0 a1 a2 a3 a4 a5 a6 a7 a8 a9 a10 a11 a12 a13 a14 a15 a16 a17 a18 a19 a20 a21 a22 x : O} {r : List O} : (a0 :: a1 :: a2 :: a3 :: a4 :: a5 :: a6 :: a7 :: a8 :: a9 :: a10 :: a11 :: a12 :: a13 :: a14 :: a15 :: a16 :: a17 :: a18 :: a19 :: a20 :: a21 :: a22 :: r).getD 22 x = a22 := rfl
theorem gv23 {a0 a1 a2 a3 a4 a5 a6 a7 a8 a9 a10 a11 a12 a13 a14 a15 a16 a17 a18 a19 a20 a21 a22 : O} {d : D} {r : List O} : gv 23 (a0 :: a1 :: a2 :: a3 :: a4 :: a5 :: a6 :: a7 :: a8 :: a9 :: a10 :: a11 :: a12 :: a13 :: a14 :: a15 :: a16 :: a17 :: a18 :: a19 :: a20 :: a21 :: a22 :: .sh d :: r) = .ok d (a0 :: a1 :: a2 :: a3 :: a4 :: a5 :: a6 :: a7 :: a8 :: a9 :: a10 :: a11 :: a12 :: a13 :: a14 :: a15 :: a16 :: a17 :: a18 :: a19 :: a20 :: a21 :: a22 :: .sh d :: r) := rfl
theorem gt23 {a0 a1 a2 a3 a4 a5 a6 a7 a8 a9 a10 a11 a12 a13 a14 a15 a16 a17 a18 a19 a20 a21 a22 a23 : O} {r : List O} : (a0 :: a1 :: a2 :: a3 :: a4 :: a5 :: a6 :: a7 :: a8 :: a9 :: a10 :: a11 :: a12 :: a13 :: a14 :: a15 :: a16 :: a17 :: a18 :: a19 :: a20 :: a21 :: a22 :: a23 :: r)[23]? = some a23 := rfl
theorem st23 {a0 a1 a2 a3 a4 a5 a6 a7 a8 a9 a10 a11 a12 a13 a14 a15 a16 a17 a18 a19 a20 a21 a22 a23 x : O} {r : List O} : (a0 :: a1 :: a2 :: a3 :: a4 :: a5 :: a6 :: a7 :: a8 :: a9 :: a10 :: a11 :: a12 :: a13 :: a14 :: a15 :: a16 :: a17 :: a18 :: a19 :: a20 :: a21 :: a22 :: a23 :: r).set 23 x = a0 :: a1 :: a2 :: a3 :: a4 :: a5 :: a6 :: a7 :: a8 :: a9 :: a10 :: a11 :: a12 :: a13 :: a14 :: a15 :: a16 :: a17 :: a18 :: a19 :: a20 :: a21 :: a22 :: x :: r := rfl
theorem gd23 {a0 a1 a2 a3 a4 a5 a6 a7 a8 a9 a10 a11 a12 a13 a14 a15 a16 a17 a18 a19 a20 a21 a22 a23 x : O} {r : List O} : (a0 :: a1 :: a2 :: a3 :: a4 :: a5 :: a6 :: a7 :: a8 :: a9 :: a10 :: a11 :: a12 :: a13 :: a14 :: a15 :: a16 :: a17 :: a18 :: a19 :: a20 :: a21 :: a22 :: a23 :: r).getD 23 x = a23 := rfl
theorem gv24 {a0 a1 a2 a3 a4 a5 a6 a7 a8 a9 a10 a11 a12 a13 a14 a15 a16 a17 a18 a19 a20 a21 a22 a23 : O} {d : D} {r : List O} : gv 24 (a0 :: a1 :: a2 :: a3 :: a4 :: a5 :: a6 :: a7 :: a8 :: a9 :: a10 :: a11 :: a12 :: a13 :: a14 :: a15 :: a16 :: a17 :: a18 :: a19 :: a20 :: a21 :: a22 :: a23 :: .sh d :: r) = .ok d (a0 :: a1 :: a2 :: a3 :: a4 :: a5 :: a6 :: a7 :: a8 :: a9 :: a10 :: a11 :: a12 :: a13 :: a14 :: a15 :: a16 :: a17 :: a18 :: a19 :: a20 :: a21 :: a22 :: a23 :: .sh d :: r) := rfl
theorem gt24 {a0 a1 a2 a3 a4 a5 a6 a7 a8 a9 a10 a11 a12 a13 a14 a15 a16 a17 a18 a19 a20 a21 a22 a23 a24 : O} {r : List O} : (a0 :: a1 :: a2 :: a3 :: a4 :: a5 :: a6 :: a7 :: a8 :: a9 :: a10 :: a11 :: a12 :: a13 :: a14 :: a15 :: a16 :: a17 :: a18 :: a19 :: a20 :: a21 :: a22 :: a23 :: a24 :: r)[24]? = some a24 := rfl
theorem st24 {a0 a1 a2 a3 a4 a5 a6 a7 a8 a9 a10 a11 a12 a13 a14 a15 a16 a17 a18 a19 a20 a21 a22 a23 a24 x : O} {r : List O} : (a0 :: a1 :: a2 :: a3 :: a4 :: a5 :: a6 :: a7 :: a8 :: a9 :: a10 :: a11 :: a12 :: a13 :: a14 :: a15 :: a16 :: a17 :: a18 :: a19 :: a20 :: a21 :: a22 :: a23 :: a24 :: r).set 24 x = a0 :: a1 :: a2 :: a3 :: a4 :: a5 :: a6 :: a7 :: a8 :: a9 :: a10 :: a11 :: a12 :: a13 :: a14 :: a15 :: a16 :: a17 :: a18 :: a19 :: a20 :: a21 :: a22 :: a23 :: x :: r := rfl
theorem gd24 {a0 a1 a2 a3 a4 a5 a6 a7 a8 a9 a10 a11 a12 a13 a14 a15 a16 a17 a18 a19 a20 a21 a22 a23 a24 x : O} {r : List O} : (a0 :: a1 :: a2 :: a3 :: a4 :: a5 :: a6 :: a7 :: a8 :: a9 :: a10 :: a11 :: a12 :: a13 :: a14 :: a15 :: a16 :: a17 :: a18 :: a19 :: a20 :: a21 :: a22 :: a23 :: a24 :: r).getD 24 x = a24 := rfl
theorem gv25 {a0 a1 a2 a3 a4 a5 a6 a7 a8 a9 a10 a11 a12 a13 a14 a15 a16 a17 a18 a19 a20 a21 a22 a23 a24 : O} {d : D} {r : List O} : gv 25 (a0 :: a1 :: a2 :: a3 :: a4 :: a5 :: a6 :: a7 :: a8 :: a9 :: a10 :: a11 :: a12 :: a13 :: a14 :: a15 :: a16 :: a17 :: a18 :: a19 :: a20 :: a21 :: a22 :: a23 :: a24 :: .sh d :: r) = .ok d (a0 :: a1 :: a2 :: a3 :: a4 :: a5 :: a6 :: a7 :: a8 :: a9 :: a10 :: a11 :: a12 :: a13 :: a14 :: a15 :: a16 :: a17 :: a18 :: a19 :: a20 :: a21 :: a22 :: a23 :: a24 :: .sh d :: r) := rfl
theorem gt25 {a0 a1 a2 a3 a4 a5 a6 a7 a8 a9 a10 a11 a12 a13 a14 a15 a16 a17 a18 a19 a20 a21 a22 a23 a24 a25 : O} {r : List O} : (a0 :: a1 :: a2 :: a3 :: a4 :: a5 :: a6 :: a7 :: a8 :: a9 :: a10 :: a11 :: a12 :: a13 :: a14 :: a15 :: a16 :: a17 :: a18 :: a19 :: a20 :: a21 :: a22 :: a23 :: a24 :: a25 :: r)[25]? = some a25 := rfl
theorem st25 {a0 a1 a2 a3 a4 a5 a6 a7 a8 a9 a10 a11 a12 a13 a14 a15 a16 a17 a18 a19 a20 a21 a22 a23 a24 a25 x : O} {r : List O} : (a0 :: a1 :: a2 :: a3 :: a4 :: a5 :: a6 :: a7 :: a8 :: a9 :: a10 :: a11 :: a12 :: a13 :: a14 :: a15 :: a16 :: a17 :: a18 :: a19 :: a20 :: a21 :: a22 :: a23 :: a24 :: a25 :: r).set 25 x = a0 :: a1 :: a2 :: a3 :: a4 :: a5 :: a6 :: a7 :: a8 :: a9 :: a10 :: a11 :: a12 :: a13 :: a14 :: a15 :: a16 :: a17 :: a18 :: a19 :: a20 :: a21 :: a22 :: a23 :: a24 :: x :: r := rfl
theorem gd25 {a0 a1 a2 a3 a4 a5 a6 a7 a8 a9 a10 a11 a12 a13 a14 a15 a16 a17 a18 a19 a20 a21 a22 a23 a24 a25 x : O} {r : List O} : (a0 :: a1 :: a2 :: a3 :: a4 :: a5 :: a6 :: a7 :: a8 :: a9 :: a10 :: a11 :: a12 :: a13 :: a14 :: a15 :: a16 :: a17 :: a18 :: a19 :: a20 :: a21 :: a22 :: a23 :: a24 :: a25 :: r).getD 25 x = a25 := rfl
theorem gv26 {a0 a1 a2 a3 a4 a5 a6 a7 a8 a9 a10 a11 a12 a13 a14 a15 a16 a17 a18 a19 a20 a21 a22 a23 a24 a25 : O} {d : D} {r : List O} : gv 26 (a0 :: a1 :: a2 :: a3 :: a4 :: a5 :: a6 :: a7 :: a8 :: a9 :: a10 :: a11 :: a12 :: a13 :: a14 :: a15 :: a16 :: a17 :: a18 :: a19 :: a20 :: a21 :: a22 :: a23 :: a24 :: a25 :: .sh d :: r) = .ok d (a0 :: a1 :: a2 :: a3 :: a4 :: a5 :: a6 :: a7 :: a8 :: a9 :: a10 :: a11 :: a12 :: a13 :: a14 :: a15 :: a16 :: a17 :: a18 :: a19 :: a20 :: a21 :: a22 :: a23 :: a24 :: a25 :: .sh d :: r) := rfl
theorem gt26 {a0 a1 a2 a3 a4 a5 a6 a7 a8 a9 a10 a11 a12 a13 a14 a15 a16 a17 a18 a19 a20 a21 a22 a23 a24 a25 a26 : O} {r : List O} : (a0 :: a1 :: a2 :: a3 :: a4 :: a5 :: a6 :: a7 :: a8 :: a9 :: a10 :: a11 :: a12 :: a13 :: a14 :: a15 :: a16 :: a17 :: a18 :: a19 :: a20 :: a21 :: a22 :: a23 :: a24 :: a25 :: a26 :: r)[26]? = some a26 := rfl
theorem st26 {a0 a1 a2 a3 a4 a5 a6 a7 a8 a9 a10 a11 a12 a13 a14 a15 a16 a17 a18 a19 a20 a21 a22 a23 a24 a25 a26 x : O} {r : List O} : (a0 :: a1 :: a2 :: a3 :: a4 :: a5 :: a6 :: a7 :: a8 :: a9 :: a10 :: a11 :: a12 :: a13 :: a14 :: a15 :: a16 :: a17 :: a18 :: a19 :: a20 :: a21 :: a22 :: a23 :: a24 :: a25 :: a26 :: r).set 26 x = a0 :: a1 :: a2 :: a3 :: a4 :: a5 :: a6 :: a7 :: a8 :: a9 :: a10 :: a11 :: a12 :: a13 :: a14 :: a15 :: a16 :: a17 :: a18 :: a19 :: a20 :: a21 :: a22 :: a23 :: a24 :: a25 :: x :: r := rfl
theorem gd26 {a0 a1 a2 a3 a4 a5 a6 a7 a8 a9 a10 a11 a12 a13 a14 a15 a16 a17 a18 a19 a20 a21 a22 a23 a24 a25 a26 x : O} {r : List O} : (a0 :: a1 :: a2 :: a3 :: a4 :: a5 :: a6 :: a7 :: a8 :: a9 :: a10 :: a11 :: a12 :: a13 :: a14 :: a15 :: a16 :: a17 :: a18 :: a19 :: a20 :: a21 :: a22 :: a23 :: a24 :: a25 :: a26 :: r).getD 26 x = a26 := rfl
theorem gv27 {a0 a1 a2 a3 a4 a5 a6 a7 a8 a9 a10 a11 a12 a13 a14 a15 a16 a17 a18 a19 a20 a21 a22 a23 a24 a25 a26 : O} {d : D} {r : List O} : gv 27 (a0 :: a1 :: a2 :: a3 :: a4 :: a5 :: a6 :: a7 :: a8 :: a9 :: a10 :: a11 :: a12 :: a13 :: a14 :: a15 :: a16 :: a17 :: a18 :: a19 :: a20 :: a21 :: a22 :: a23 :: a24 :: a25 :: a26 :: .sh d :: r) = .ok d (a0 :: a1 :: a2 :: a3 :: a4 :: a5 :: a6 :: a7 :: a8 :: a9 :: a10 :: a11 :: a12 :: a13 :: a14 :: a15 :: a16 :: a17 :: a18 :: a19 :: a20 :: a21 :: a22 :: a23 :: a24 :: a25 :: a26 :: .sh d :: r) := rfl
theorem gt27 {a0 a1 a2 a3 a4 a5 a6 a7 a8 a9 a10 a11 a12 a13 a14 a15 a16 a17 a18 a19 a20 a21 a22 a23 a24 a25 a26 a27 : O} {r : List O} : (a0 :: a1 :: a2 :: a3 :: a4 :: a5 :: a6 :: a7 :: a8 :: a9 :: a10 :: a11 :: a12 :: a13 :: a14 :: a15 :: a16 :: a17 :: a18 :: a19 :: a20 :: a21 :: a22 :: a23 :: a24 :: a25 :: a26 :: a27 :: r)[27]? = some a27 := rfl
theorem st27 {a0 a1 a2 a3 a4 a5 a6 a7 a8 a9 a10 a11 a12 a13 a14 a15 a16 a17 a18 a19 a20 a21 a22 a23 a24 a25 a26 a27 x : O} {r : List O} : (a0 :: a1 :: a2 :: a3 :: a4 :: a5 :: a6 :: a7 :: a8 :: a9 :: a10 :: a11 :: a12 :: a13 :: a14 :: a15 :: a16 :: a17 :: a18 :: a19 :: a20 :: a21 :: a22 :: a23 :: a24 :: a25 :: a26 :: a27 :: r).set 27 x = a0 :: a1 :: a2 :: a3 :: a4 :: a5 :: a6 :: a7 :: a8 :: a9 :: a10 :: a11 :: a12 :: a13 :: a14 :: a15 :: a16 :: a17 :: a18 :: a19 :: a20 :: a21 :: a22 :: a23 :: a24 :: a25 :: a26 :: x :: r := rfl
theorem gd27 {a0 a1 a2 a3 a4 a5 a6 a7 a8 a9 a10 a11 a12 a13 a14 a15 a16 a17 a18 a19 a20 a21 a22 a23 a24 a25 a26 a27 x : O} {r : List O} : (a0 :: a1 :: a2 :: a3 :: a4 :: a5 :: a6 :: a7 :: a8 :: a9 :: a10 :: a11 :: a12 :: a13 :: a14 :: a15 :: a16 :: a17 :: a18 :: a19 :: a20 :: a21 :: a22 :: a23 :: a24 :: a25 :: a26 :: a27 :: r).getD 27 x = a27 := rfl
theorem gv28 {a0 a1 a2 a3 a4 a5 a6 a7 a8 a9 a10 a11 a12 a13 a14 a15 a16 a17 a18 a19 a20 a21 a22 a23 a24 a25 a26 a27 : O} {d : D} {r : List O} : gv 28 (a0 :: a1 :: a2 :: a3 :: a4 :: a5 :: a6 :: a7 :: a8 :: a9 :: a10 :: a11 :: a12 :: a13 :: a14 :: a15 :: a16 :: a17 :: a18 :: a19 :: a20 :: a21 :: a22 :: a23 :: a24 :: a25 :: a26 :: a27 :: .sh d :: r) = .ok d (a0 :: a1 :: a2 :: a3 :: a4 :: a5 :: a6 :: a7 :: a8 :: a9 :: a10 :: a11 :: a12 :: a13 :: a14 :: a15 :: a16 :: a17 :: a18 :: a19 :: a20 :: a21 :: a22 :: a23 :: a24 :: a25 :: a26 :: a27 :: .sh d :: r) := rfl
theorem gt28 {a0 a1 a2 a3 a4 a5 a6 a7 a8 a9 a10 a11 a12 a13 a14 a15 a16 a17 a18 a19 a20 a21 a22 a23 a24 a25 a26 a27 a28 : O} {r : List O} : (a0 :: a1 :: a2 :: a3 :: a4 :: a5 :: a6 :: a7 :: a8 :: a9 :: a10 :: a11 :: a12 :: a13 :: a14 :: a15 :: a16 :: a17 :: a18 :: a19 :: a20 :: a21 :: a22 :: a23 :: a24 :: a25 :: a26 :: a27 :: a28 :: r)[28]? = some a28 := rfl
theorem st28 {a0 a1 a2 a3 a4 a5 a6 a7 a8 a9 a10 a11 a12 a13 a14 a15 a16 a17 a18 a19 a20 a21 a22 a23 a24 a25 a26 a27 a28 x : O} {r : List O} : (a0 :: a1 :: a2 :: a3 :: a4 :: a5 :: a6 :: a7 :: a8 :: a9 :: a10 :: a11 :: a12 :: a13 :: a14 :: a15 :: a16 :: a17 :: a18 :: a19 :: a20 :: a21 :: a22 :: a23 :: a24 :: a25 :: a26 :: a27 :: a28 :: r).set 28 x = a0 :: a1 :: a2 :: a3 :: a4 :: a5 :: a6 :: a7 :: a8 :: a9 :: a10 :: a11 :: a12 :: a13 :: a14 :: a15 :: a16 :: a17 :: a18 :: a19 :: a20 :: a21 :: a22 :: a23 :: a24 :: a25 :: a26 :: a27 :: x :: r := rfl
theorem gd28 {a0 a1 a2 a3 a4 a5 a6 a7 a8 a9 a10 a11 a12 a13 a14 a15 a16 a17 a18 a19 a20 a21 a22 a23 a24 a25 a26 a27 a28 x : O} {r : List O} : (a0 :: a1 :: a2 :: a3 :: a4 :: a5 :: a6 :: a7 :: a8 :: a9 :: a10 :: a11 :: a12 :: a13 :: a14 :: a15 :: a16 :: a17 :: a18 :: a19 :: a20 :: a21 :: a22 :: a23 :: a24 :: a25 :: a26 :: a27 :: a28 :: r).getD 28 x = a28 := rfl
theorem gv29 {a0 a1 a2 a3 a4 a5 a6 a7 a8 a9 a10 a11 a12 a13 a14 a15 a16 a17 a18 a19 a20 a21 a22 a23 a24 a25 a26 a27 a28 : O} {d : D} {r : List O} : gv 29 (a0 :: a1 :: a2 :: a3 :: a4 :: a5 :: a6 :: a7 :: a8 :: a9 :: a10 :: a11 :: a12 :: a13 :: a14 :: a15 :: a16 :: a17 :: a18 :: a19 :: a20 :: a21 :: a22 :: a23 :: a24 :: a25 :: a26 :: a27 :: a28 :: .sh d :: r) = .ok d (a0 :: a1 :: a2 :: a3 :: a4 :: a5 :: a6 :: a7 :: a8 :: a9 :: a10 :: a11 :: a12 :: a13 :: a14 :: a15 :: a16 :: a17 :: a18 :: a19 :: a20 :: a21 :: a22 :: a23 :: a24 :: a25 :: a26 :: a27 :: a28 :: .sh d :: r) := rfl
theorem gt29 {a0 a1 a2 a3 a4 a5 a6 a7 a8 a9 a10 a11 a12 a13 a14 a15 a16 a17 a18 a19 a20 a21 a22 a23 a24 a25 a26 a27 a28 a29 : O} {r : List O} : (a0 :: a1 :: a2 :: a3 :: a4 :: a5 :: a6 :: a7 :: a8 :: a9 :: a10 :: a11 :: a12 :: a13 :: a14 :: a15 :: a16 :: a17 :: a18 :: a19 :: a20 :: a21 :: a22 :: a23 :: a24 :: a25 :: a26 :: a27 :: a28 :: a29 :: r)[29]? = some a29 := rfl
theorem st29 {a0 a1 a2 a3 a4 a5 a6 a7 a8 a9 a10 a11 a12 a13 a14 a15 a16 a17 a18 a19 a20 a21 a22 a23 a24 a25 a26 a27 a28 a29 x : O} {r : List O} : (a0 :: a1 :: a2 :: a3 :: a4 :: a5 :: a6 :: a7 :: a8 :: a9 :: a10 :: a11 :: a12 :: a13 :: a14 :: a15 :: a16 :: a17 :: a18 :: a19 :: a20 :: a21 :: a22 :: a23 :: a24 :: a25 :: a26 :: a27 :: a28 :: a29 :: r).set 29 x = a0 :: a1 :: a2 :: a3 :: a4 :: a5 :: a6 :: a7 :: a8 :: a9 :: a10 :: a11 :: a12 :: a13 :: a14 :: a15 :: a16 :: a17 :: a18 :: a19 :: a20 :: a21 :: a22 :: a23 :: a24 :: a25 :: a26 :: a27 :: a28 :: x :: r := rfl
theorem gd29 {a0 a1 a2 a3 a4 a5 a6 a7 a8 a9 a10 a11 a12 a13 a14 a15 a16 a17 a18 a19 a20 a21 a22 a23 a24 a25 a26 a27 a28 a29 x : O} {r : List O} : (a0 :: a1 :: a2 :: a3 :: a4 :: a5 :: a6 :: a7 :: a8 :: a9 :: a10 :: a11 :: a12 :: a13 :: a14 :: a15 :: a16 :: a17 :: a18 :: a19 :: a20 :: a21 :: a22 :: a23 :: a24 :: a25 :: a26 :: a27 :: a28 :: a29 :: r).getD 29 x = a29 := rfl
theorem gv30 {a0 a1 a2 a3 a4 a5 a6 a7 a8 a9 a10 a11 a12 a13 a14 a15 a16 a17 a18 a19 a20 a21 a22 a23 a24 a25 a26 a27 a28 a29 : O} {d : D} {r : List O} : gv 30 (a0 :: a1 :: a2 :: a3 :: a4 :: a5 :: a6 :: a7 :: a8 :: a9 :: a10 :: a11 :: a12 :: a13 :: a14 :: a15 :: a16 :: a17 :: a18 :: a19 :: a20 :: a21 :: a22 :: a23 :: a24 :: a25 :: a26 :: a27 :: a28 :: a29 :: .sh d :: r) = .ok d (a0 :: a1 :: a2 :: a3 :: a4 :: a5 :: a6 :: a7 :: a8 :: a9 :: a10 :: a11 :: a12 :: a13 :: a14 :: a15 :: a16 :: a17 :: a18 :: a19 :: a20 :: a21 :: a22 :: a23 :: a24 :: a25 :: a26 :: a27 :: a28 :: a29 :: .sh d :: r) := rfl
theorem gt30 {a0 a1 a2 a3 a4 a5 a6 a7 a8 a9 a10 a11 a12 a13 a14 a15 a16 a17 a18 a19 a20 a21 a22 a23 a24 a25 a26 a27 a28 a29 a30 : O} {r : List O} : (a0 :: a1 :: a2 :: a3 :: a4 :: a5 :: a6 :: a7 :: a8 :: a9 :: a10 :: a11 :: a12 :: a13 :: a14 :: a15 :: a16 :: a17 :: a18 :: a19 :: a20 :: a21 :: a22 :: a23 :: a24 :: a25 :: a26 :: a27 :: a28 :: a29 :: a30 :: r)[30]? = some a30 := rfl
theorem st30 {a0 a1 a2 a3 a4 a5 a6 a7 a8 a9 a10 a11 a12 a13 a14 a15 a16 a17 a18 a19 a20 a21 a22 a23 a24 a25 a26 a27 a28 a29 a30 x : O} {r : List O} : (a0 :: a1 :: a2 :: a3 :: a4 :: a5 :: a6 :: a7 :: a8 :: a9 :: a10 :: a11 :: a12 :: a13 :: a14 :: a15 :: a16 :: a17 :: a18 :: a19 :: a20 :: a21 :: a22 :: a23 :: a24 :: a25 :: a26 :: a27 :: a28 :: a29 :: a30 :: r).set 30 x = a0 :: a1 :: a2 :: a3 :: a4 :: a5 :: a6 :: a7 :: a8 :: a9 :: a10 :: a11 :: a12 :: a13 :: a14 :: a15 :: a16 :: a17 :: a18 :: a19 :: a20 :: a21 :: a22 :: a23 :: a24 :: a25 :: a26 :: a27 :: a28 :: a29 :: x :: r := rfl
theorem gd30 {a0 a1 a2 a3 a4 a5 a6 a7 a8 a9 a10 a11 a12 a13 a14 a15 a16 a17 a18 a19 a20 a21 a22 a23 a24 a25 a26 a27 a28 a29 a30 x : O} {r : List O} : (a0 :: a1 :: a2 :: a3 :: a4 :: a5 :: a6 :: a7 :: a8 :: a9 :: a10 :: a11 :: a12 :: a13 :: a14 :: a15 :: a16 :: a17 :: a18 :: a19 :: a20 :: a21 :: a22 :: a23 :: a24 :: a25 :: a26 :: a27 :: a28 :: a29 :: a30 :: r).getD 30 x = a30 := rfl
theorem gv31 {a0 a1 a2 a3 a4 a5 a6 a7 a8 a9 a10 a11 a12 a13 a14 a15 a16 a17 a18 a19 a20 a21 a22 a23 a24 a25 a26 a27 a28 a29 a30 : O} {d : D} {r : List O} : gv 31 (a0 :: a1 :: a2 :: a3 :: a4 :: a5 :: a6 :: a7 :: a8 :: a9 :: a10 :: a11 :: a12 :: a13 :: a14 :: a15 :: a16 :: a17 :: a18 :: a19 :: a20 :: a21 :: a22 :: a23 :: a24 :: a25 :: a26 :: a27 :: a28 :: a29 :: a30 :: .sh d :: r) = .ok d (a0 :: a1 :: a2 :: a3 :: a4 :: a5 :: a6 :: a7 :: a8 :: a9 :: a10 :: a11 :: a12 :: a13 :: a14 :: a15 :: a16 :: a17 :: a18 :: a19 :: a20 :: a21 :: a22 :: a23 :: a24 :: a25 :: a26 :: a27 :: a28 :: a29 :: a30 :: .sh d :: r) := rfl
theorem gt31 {a0 a1 a2 a3 a4 a5 a6 a7 a8 a9 a10 a11 a12 a13 a14 a15 a16 a17 a18 a19 a20 a21 a22 a23 a24 a25 a26 a27 a28 a29 a30 a31 : O} {r : List O} : (a0 :: a1 :: a2 :: a3 :: a4 :: a5 :: a6 :: a7 :: a8 :: a9 :: a10 :: a11 :: a12 :: a13 :: a14 :: a15 :: a16 :: a17 :: a18 :: a19 :: a20 :: a21 :: a22 :: a23 :: a24 :: a25 :: a26 :: a27 :: a28 :: a29 :: a30 :: a31 :: r)[31]? = some a31 := rfl
theorem st31 {a0 a1 a2 a3 a4 a5 a6 a7 a8 a9 a10 a11 a12 a13 a14 a15 a16 a17 a18 a19 a20 a21 a22 a23 a24 a25 a26 a27 a28 a29 a30 a31 x : O} {r : List O} : (a0 :: a1 :: a2 :: a3 :: a4 :: a5 :: a6 :: a7 :: a8 :: a9 :: a10 :: a11 :: a12 :: a13 :: a14 :: a15 :: a16 :: a17 :: a18 :: a19 :: a20 :: a21 :: a22 :: a23 :: a24 :: a25 :: a26 :: a27 :: a28 :: a29 :: a30 :: a31 :: r).set 31 x = a0 :: a1 :: a2 :: a3 :: a4 :: a5 :: a6 :: a7 :: a8 :: a9 :: a10 :: a11 :: a12 :: a13 :: a14 :: a15 :: a16 :: a17 :: a18 :: a19 :: a20 :: a21 :: a22 :: a23 :: a24 :: a25 :: a26 :: a27 :: a28 :: a29 :: a30 :: x :: r := rfl
theorem gd31 {a0 a1 a2 a3 a4 a5 a6 a7 a8 a9 a10 a11 a12 a13 a14 a15 a16 a17 a18 a19 a20 a21 a22 a23 a24 a25 a26 a27 a28 a29 a30 a31 x : O} {r : List O} : (a0 :: a1 :: a2 :: a3 :: a4 :: a5 :: a6 :: a7 :: a8 :: a9 :: a10 :: a11 :: a12 :: a13 :: a14 :: a15 :: a16 :: a17 :: a18 :: a19 :: a20 :: a21 :: a22 :: a23 :: a24 :: a25 :: a26 :: a27 :: a28 :: a29 :: a30 :: a31 :: r).getD 31 x = a31 := rfl
theorem gv32 {a0 a1 a2 a3 a4 a5 a6 a7 a8 a9 a10 a11 a12 a13 a14 a15 a16 a17 a18 a19 a20 a21 a22 a23 a24 a25 a26 a27 a28 a29 a30 a31 : O} {d : D} {r : List O} : gv 32 (a0 :: a1 :: a2 :: a3 :: a4 :: a5 :: a6 :: a7 :: a8 :: a9 :: a10 :: a11 :: a12 :: a13 :: a14 :: a15 :: a16 :: a17 :: a18 :: a19 :: a20 :: a21 :: a22 :: a23 :: a24 :: a25 :: a26 :: a27 :: a28 :: a29 :: a30 :: a31 :: .sh d :: r) = .ok d (a0 :: a1 :: a2 :: a3 :: a4 :: a5 :: a6 :: a7 :: a8 :: a9 :: a10 :: a11 :: a12 :: a13 :: a14 :: a15 :: a16 :: a17 :: a18 :: a19 :: a20 :: a21 :: a22 :: a23 :: a24 :: a25 :: a26 :: a27 :: a28 :: a29 :: a30 :: a31 :: .sh d :: r) := rfl
theorem gt32 {a0 a1 a2 a3 a4 a5 a6 a7 a8 a9 a10 a11 a12 a13 a14 a15 a16 a17 a18 a19 a20 a21 a22 a23 a24 a25 a26 a27 a28 a29 a30 a31 a32 : O} {r : List O} : (a0 :: a1 :: a2 :: a3 :: a4 :: a5 :: a6 :: a7 :: a8 :: a9 :: a10 :: a11 :: a12 :: a13 :: a14 :: a15 :: a16 :: a17 :: a18 :: a19 :: a20 :: a21 :: a22 :: a23 :: a24 :: a25 :: a26 :: a27 :: a28 :: a29 :: a30 :: a31 :: a32 :: r)[32]? = some a32 := rfl
theorem st32 {a0 a1 a2 a3 a4 a5 a6 a7 a8 a9 a10 a11 a12 a13 a14 a15 a16 a17 a18 a19 a20 a21 a22 a23 a24 a25 a26 a27 a28 a29 a30 a31 a32 x : O} {r : List O} : (a0 :: a1 :: a2 :: a3 :: a4 :: a5 :: a6 :: a7 :: a8 :: a9 :: a10 :: a11 :: a12 :: a13 :: a14 :: a15 :: a16 :: a17 :: a18 :: a19 :: a20 :: a21 :: a22 :: a23 :: a24 :: a25 :: a26 :: a27 :: a28 :: a29 :: a30 :: a31 :: a32 :: r).set 32 x = a0 :: a1 :: a2 :: a3 :: a4 :: a5 :: a6 :: a7 :: a8 :: a9 :: a10 :: a11 :: a12 :: a13 :: a14 :: a15 :: a16 :: a17 :: a18 :: a19 :: a20 :: a21 :: a22 :: a23 :: a24 :: a25 :: a26 :: a27 :: a28 :: a29 :: a30 :: a31 :: x :: r := rfl
theorem gd32 {a0 a1 a2 a3 a4 a5 a6 a7 a8 a9 a10 a11 a12 a13 a14 a15 a16 a17 a18 a19 a20 a21 a22 a23 a24 a25 a26 a27 a28 a29 a30 a31 a32 x : O} {r : List O} : (a0 :: a1 :: a2 :: a3 :: a4 :: a5 :: a6 :: a7 :: a8 :: a9 :: a10 :: a11 :: a12 :: a13 :: a14 :: a15 :: a16 :: a17 :: a18 :: a19 :: a20 :: a21 :: a22 :: a23 :: a24 :: a25 :: a26 :: a27 :: a28 :: a29 :: a30 :: a31 :: a32 :: r).getD 32 x = a32 := rfl
theorem gv33 {a0 a1 a2 a3 a4 a5 a6 a7 a8 a9 a10 a11 a12 a13 a14 a15 a16 a17 a18 a19 a20 a21 a22 a23 a24 a25 a26 a27 a28 a29 a30 a31 a32 : O} {d : D} {r : List O} : gv 33 (a0 :: a1 :: a2 :: a3 :: a4 :: a5 :: a6 :: a7 :: a8 :: a9 :: a10 :: a11 :: a12 :: a13 :: a14 :: a15 :: a16 :: a17 :: a18 :: a19 :: a20 :: a21 :: a22 :: a23 :: a24 :: a25 :: a26 :: a27 :: a28 :: a29 :: a30 :: a31 :: a32 :: .sh d :: r) = .ok d (a0 :: a1 :: a2 :: a3 :: a4 :: a5 :: a6 :: a7 :: a8 :: a9 :: a10 :: a11 :: a12 :: a13 :: a14 :: a15 :: a16 :: a17 :: a18 :: a19 :: a20 :: a21 :: a22 :: a23 :: a24 :: a25 :: a26 :: a27 :: a28 :: a29 :: a30 :: a31 :: a32 :: .sh d :: r) := rfl
theorem gt33 {a0 a1 a2 a3 a4 a5 a6 a7 a8 a9 a10 a11 a12 a13 a14 a15 a16 a17 a18 a19 a20 a21 a22 a23 a24 a25 a26 a27 a28 a29 a30 a31 a32 a33 : O} {r : List O} : (a0 :: a1 :: a2 :: a3 :: a4 :: a5 :: a6 :: a7 :: a8 :: a9 :: a10 :: a11 :: a12 :: a13 :: a14 :: a15 :: a16 :: a17 :: a18 :: a19 :: a20 :: a21 :: a22 :: a23 :: a24 :: a25 :: a26 :: a27 :: a28 :: a29 :: a30 :: a31 :: a32 :: a33 :: r)[33]? = some a33 := rfl
theorem st33 {a0 a1 a2 a3 a4 a5 a6 a7 a8 a9 a10 a11 a12 a13 a14 a15 a16 a17 a18 a19 a20 a21 a22 a23 a24 a25 a26 a27 a28 a29 a30 a31 a32 a33 x : O} {r : List O} : (a0 :: a1 :: a2 :: a3 :: a4 :: a5 :: a6 :: a7 :: a8 :: a9 :: a10 :: a11 :: a12 :: a13 :: a14 :: a15 :: a16 :: a17 :: a18 :: a19 :: a20 :: a21 :: a22 :: a23 :: a24 :: a25 :: a26 :: a27 :: a28 :: a29 :: a30 :: a31 :: a32 :: a33 :: r).set 33 x = a0 :: a1 :: a2 :: a3 :: a4 :: a5 :: a6 :: a7 :: a8 :: a9 :: a10 :: a11 :: a12 :: a13 :: a14 :: a15 :: a16 :: a17 :: a18 :: a19 :: a20 :: a21 :: a22 :: a23 :: a24 :: a25 :: a26 :: a27 :: a28 :: a29 :: a30 :: a31 :: a32 :: x :: r := rfl
theorem gd33 {a0 a1 a2 a3 a4 a5 a6 a7 a8 a9 a10 a11 a12 a13 a14 a15 a16 a17 a18 a19 a20 a21 a22 a23 a24 a25 a26 a27 a28 a29 a30 a31 a32 a33 x : O} {r : List O} : (a0 :: a1 :: a2 :: a3 :: a4 :: a5 :: a6 :: a7 :: a8 :: a9 :: a10 :: a11 :: a12 :: a13 :: a14 :: a15 :: a16 :: a17 :: a18 :: a19 :: a20 :: a21 :: a22 :: a23 :: a24 :: a25 :: a26 :: a27 :: a28 :: a29 :: a30 :: a31 :: a32 :: a33 :: r).getD 33 x = a33 := rfl
theorem gv34 {a0 a1 a2 a3 a4 a5 a6 a7 a8 a9 a10 a11 a12 a13 a14 a15 a16 a17 a18 a19 a20 a21 a22 a23 a24 a25 a26 a27 a28 a29 a30 a31 a32 a33 : O} {d : D} {r : List O} : gv 34 (a0 :: a1 :: a2 :: a3 :: a4 :: a5 :: a6 :: a7 :: a8 :: a9 :: a10 :: a11 :: a12 :: a13 :: a14 :: a15 :: a16 :: a17 :: a18 :: a19 :: a20 :: a21 :: a22 :: a23 :: a24 :: a25 :: a26 :: a27 :: a28 :: a29 :: a30 :: a31 :: a32 :: a33 :: .sh d :: r) = .ok d (a0 :: a1 :: a2 :: a3 :: a4 :: a5 :: a6 :: a7 :: a8 :: a9 :: a10 :: a11 :: a12 :: a13 :: a14 :: a15 :: a16 :: a17 :: a18 :: a19 :: a20 :: a21 :: a22 :: a23 :: a24 :: a25 :: a26 :: a27 :: a28 :: a29 :: a30 :: a31 :: a32 :: a33 :: .sh d :: r) := rfl
theorem gt34 {a0 a1 a2 a3 a4 a5 a6 a7 a8 a9 a10 a11 a12 a13 a14 a15 a16 a17 a18 a19 a20 a21 a22 a23 a24 a25 a26 a27 a28 a29 a30 a31 a32 a33 a34 : O} {r : List O} : (a0 :: a1 :: a2 :: a3 :: a4 :: a5 :: a6 :: a7 :: a8 :: a9 :: a10 :: a11 :: a12 :: a13 :: a14 :: a15 :: a16 :: a17 :: a18 :: a19 :: a20 :: a21 :: a22 :: a23 :: a24 :: a25 :: a26 :: a27 :: a28 :: a29 :: a30 :: a31 :: a32 :: a33 :: a34 :: r)[34]? = some a34 := rfl
theorem st34 {a0 a1 a2 a3 a4 a5 a6 a7 a8 a9 a10 a11 a12 a13 a14 a15 a16 a17 a18 a19 a20 a21 a22 a23 a24 a25 a26 a27 a28 a29 a30 a31 a32 a33 a34 x : O} {r : List O} : (a0 :: a1 :: a2 :: a3 :: a4 :: a5 :: a6 :: a7 :: a8 :: a9 :: a10 :: a11 :: a12 :: a13 :: a14 :: a15 :: a16 :: a17 :: a18 :: a19 :: a20 :: a21 :: a22 :: a23 :: a24 :: a25 :: a26 :: a27 :: a28 :: a29 :: a30 :: a31 :: a32 :: a33 :: a34 :: r).set 34 x = a0 :: a1 :: a2 :: a3 :: a4 :: a5 :: a6 :: a7 :: a8 :: a9 :: a10 :: a11 :: a12 :: a13 :: a14 :: a15 :: a16 :: a17 :: a18 :: a19 :: a20 :: a21 :: a22 :: a23 :: a24 :: a25 :: a26 :: a27 :: a28 :: a29 :: a30 :: a31 :: a32 :: a33 :: x :: r := rfl
theorem gd34 {a0 a1 a2 a3 a4 a5 a6 a7 a8 a9 a10 a11 a12 a13 a14 a15 a16 a17 a18 a19 a20 a21 a22 a23 a24 a25 a26 a27 a28 a29 a30 a31 a32 a33 a34 x : O} {r : List O} : (a0 :: a1 :: a2 :: a3 :: a4 :: a5 :: a6 :: a7 :: a8 :: a9 :: a10 :: a11 :: a12 :: a13 :: a14 :: a15 :: a16 :: a17 :: a18 :: a19 :: a20 :: a21 :: a22 :: a23 :: a24 :: a25 :: a26 :: a27 :: a28 :: a29 :: a30 :: a31 :: a32 :: a33 :: a34 :: r).getD 34 x = a34 := rfl
theorem gv35 {a0 a1 a2 a3 a4 a5 a6 a7 a8 a9 a10 a11 a12 a13 a14 a15 a16 a17 a18 a19 a20 a21 a22 a23 a24 a25 a26 a27 a28 a29 a30 a31 a32 a33 a34 : O} {d : D} {r : List O} : gv 35 (a0 :: a1 :: a2 :: a3 :: a4 :: a5 :: a6 :: a7 :: a8 :: a9 :: a10 :: a11 :: a12 :: a13 :: a14 :: a15 :: a16 :: a17 :: a18 :: a19 :: a20 :: a21 :: a22 :: a23 :: a24 :: a25 :: a26 :: a27 :: a28 :: a29 :: a30 :: a31 :: a32 :: a33 :: a34 :: .sh d :: r) = .ok d (a0 :: a1 :: a2 :: a3 :: a4 :: a5 :: a6 :: a7 :: a8 :: a9 :: a10 :: a11 :: a12 :: a13 :: a14 :: a15 :: a16 :: a17 :: a18 :: a19 :: a20 :: a21 :: a22 :: a23 :: a24 :: a25 :: a26 :: a27 :: a28 :: a29 :: a30 :: a31 :: a32 :: a33 :: a34 :: .sh d :: r) := rfl
theorem gt35 {a0 a1 a2 a3 a4 a5 a6 a7 a8 a9 a10 a11 a12 a13 a14 a15 a16 a17 a18 a19 a20 a21 a22 a23 a24 a25 a26 a27 a28 a29 a30 a31 a32 a33 a34 a35 : O} {r : List O} : (a0 :: a1 :: a2 :: a3 :: a4 :: a5 :: a6 :: a7 :: a8 :: a9 :: a10 :: a11 :: a12 :: a13 :: a14 :: a15 :: a16 :: a17 :: a18 :: a19 :: a20 :: a21 :: a22 :: a23 :: a24 :: a25 :: a26 :: a27 :: a28 :: a29 :: a30 :: a31 :: a32 :: a33 :: a34 :: a35 :: r)[35]? = some a35 := rfl
theorem st35 {a0 a1 a2 a3 a4 a5 a6 a7 a8 a9 a10 a11 a12 a13 a14 a15 a16 a17 a18 a19 a20 a21 a22 a23 a24 a25 a26 a27 a28 a29 a30 a31 a32 a33 a34 a35 x : O} {r : List O} : (a0 :: a1 :: a2 :: a3 :: a4 :: a5 :: a6 :: a7 :: a8 :: a9 :: a10 :: a11 :: a12 :: a13 :: a14 :: a15 :: a16 :: a17 :: a18 :: a19 :: a20 :: a21 :: a22 :: a23 :: a24 :: a25 :: a26 :: a27 :: a28 :: a29 :: a30 :: a31 :: a32 :: a33 :: a34 :: a35 :: r).set 35 x = a0 :: a1 :: a2 :: a3 :: a4 :: a5 :: a6 :: a7 :: a8 :: a9 :: a10 :: a11 :: a12 :: a13 :: a14 :: a15 :: a16 :: a17 :: a18 :: a19 :: a20 :: a21 :: a22 :: a23 :: a24 :: a25 :: a26 :: a27 :: a28 :: a29 :: a30 :: a31 :: a32 :: a33 :: a34 :: x :: r := rfl
theorem gd35 {a0 a1 a2 a3 a4 a5 a6 a7 a8 a9 a10 a11 a12 a13 a14 a15 a16 a17 a18 a19 a20 a21 a22 a23 a24 a25 a26 a27 a28 a29 a30 a31 a32 a33 a34 a35 x : O} {r : List O} : (a0 :: a1 :: a2 :: a3 :: a4 :: a5 :: a6 :: a7 :: a8 :: a9 :: a10 :: a11 :: a12 :: a13 :: a14 :: a15 :: a16 :: a17 :: a18 :: a19 :: a20 :: a21 :: a22 :: a23 :: a24 :: a25 :: a26 :: a27 :: a28 :: a29 :: a30 :: a31 :: a32 :: a33 :: a34 :: a35 :: r).getD 35 x = a35 := rfl

section
variable {α β : Type}
def Res.bind (r : Res α) (g : α → M β) : Res β := match r with
  | .ok a δ => g a δ
  | .er x δ => .er x δ
  | .bad => .bad
def Res.bindS (r : Res α) (g : α → G) : SRes := match r with
  | .ok a δ => g a δ
  | .er x δ => .er x δ
  | .bad => .bad
def SRes.andThen (r : SRes) (h : G) : SRes := match r with
  | .nx δ => h δ
  | r => r
theorem Res.bind_congr {r r' : Res α} {g : α → M β} (h : r = r') : r.bind g = r'.bind g := by rw [h]
theorem Res.bindS_congr {r r' : Res α} {g : α → G} (h : r = r') : r.bindS g = r'.bindS g := by rw [h]
theorem SRes.andThen_congr {r r' : SRes} {g : G} (h : r = r') : r.andThen g = r'.andThen g := by rw [h]
variable {a : α} {δ : List O} {x : DX} {g : α → M β} {gs : α → G} {f : M α} {fd fe : M D} {fb fc : M Bool} {fs : M (List D)} {fo : M O} {h h' : G} {i : Nat}
theorem bind_ok : (Res.ok a δ).bind g = g a δ := rfl
theorem bind_er : (Res.er x δ : Res α).bind g = .er x δ := rfl
theorem bind_bad : (Res.bad : Res α).bind g = .bad := rfl
theorem bindS_ok : (Res.ok a δ).bindS gs = gs a δ := rfl
theorem bindS_er : (Res.er x δ : Res α).bindS gs = .er x δ := rfl
theorem bindS_bad : (Res.bad : Res α).bindS gs = .bad := rfl
theorem then_nx : (SRes.nx δ).andThen h = h δ := rfl
theorem then_rt {o : O} : (SRes.rt o δ).andThen h = .rt o δ := rfl
theorem then_er : (SRes.er x δ).andThen h = .er x δ := rfl
theorem then_bk : (SRes.bk δ).andThen h = .bk δ := rfl
theorem then_ct : (SRes.ct δ).andThen h = .ct δ := rfl
theorem then_bad : (SRes.bad).andThen h = .bad := rfl
theorem bnd_ap : bnd f g δ = (f δ).bind g := rfl
theorem ret_ap : ret a δ = .ok a δ := rfl
theorem bad_ap : (bad : M α) δ = .bad := rfl
theorem opt_some : opt (some a) δ = .ok a δ := rfl
theorem opt_none : opt (none : Option α) δ = .bad := rfl
theorem cst_ap {d : D} : cst d δ = .ok d δ := rfl
theorem shM_ap : shM fd δ = (fd δ).bind fun d δ => .ok (.sh d) δ := rfl
theorem op1_ap {u : D → Option D} : op1 u fd δ = (fd δ).bind fun d => opt (u d) := rfl
theorem op2_ap {u : D → D → Option D} : op2 u fd fe δ = (fd δ).bind fun d δ => (fe δ).bind fun e => opt (u d e) := rfl
theorem aNil_ap : aNil δ = .ok [] δ := rfl
theorem aCons_ap : aCons fd fs δ = (fd δ).bind fun d δ => (fs δ).bind fun ds δ => .ok (d :: ds) δ := rfl
theorem ite_ap {c : Prop} [Decidable c] {p q : M α} : (if c then p else q) δ = if c then p δ else q δ := by split <;> rfl
theorem iteG_ap {c : Prop} [Decidable c] {p q : G} : (if c then p else q) δ = if c then p δ else q δ := by split <;> rfl
theorem tup0 : tupM aNil δ = .ok (.tup []) δ := rfl
theorem tupC : tupM (aCons fd fs) δ = (fd δ).bind fun d δ => (fs δ).bind fun ds δ => if ds.length + 1 ≤ 16777216 then .ok (.tup (d :: ds)) δ else .bad := by
  show bnd (bnd fd _) _ δ = _
  unfold bnd
  cases fd δ with
  | ok d δ' =>
    dsimp only [Res.bind]
    cases fs δ' with
    | ok ds δ'' => dsimp only [ret]; exact ite_ap
    | er => rfl
    | bad => rfl
  | er => rfl
  | bad => rfl
theorem lst0 : lstM aNil δ = .ok (.lst []) δ := rfl
theorem lstC' : lstM (aCons fd fs) δ = (fd δ).bind fun d δ => (fs δ).bind fun ds δ => if ds.length + 1 ≤ 16777216 then .ok (.lst (d :: ds)) δ else .bad := by
  show bnd (bnd fd _) _ δ = _
  unfold bnd
  cases fd δ with
  | ok d δ' =>
    dsimp only [Res.bind]
    cases fs δ' with
    | ok ds δ'' => dsimp only [ret]; exact ite_ap
    | er => rfl
    | bad => rfl
  | er => rfl
  | bad => rfl
/-- an own list of data -/
def oL (xs : List D) : O := .ol (xs.map .sh)
theorem olM_ap : olM fs δ = (fs δ).bind fun ds δ => if ds.length ≤ 16777216 then .ok (oL ds) δ else .bad := by
  unfold olM bnd
  cases fs δ with
  | ok ds δ' => dsimp only [ret, Res.bind]; exact ite_ap
  | er => rfl
  | bad => rfl
theorem leafs_sh : ∀ xs : List D, leafs (xs.map .sh) = some xs
  | [] => rfl
  | x :: xs => by simp only [List.map_cons, leafs, leafs_sh xs, Option.map_some]
theorem frTs_sh : ∀ xs : List D, frTs (xs.map .sh) = some xs
  | [] => by simp [frTs]
  | x :: xs => by simp only [List.map_cons, frTs, frT, frTs_sh xs]
theorem frO_sh {d : D} : frO (.sh d) = some d := rfl
theorem frO_oL {xs : List D} : frO (oL xs) = some (.lst xs) := by
  show (leafs (xs.map .sh)).map D.lst = _
  rw [leafs_sh]; rfl
theorem frT_sh {d : D} : frT (.sh d) = some d := by simp [frT]
theorem frT_oL {xs : List D} : frT (oL xs) = some (.lst xs) := by unfold oL; simp [frT, frTs_sh]
theorem dO_ap : dO fo δ = (fo δ).bind fun o => opt (frO o) := rfl
theorem blM_ap : blM fd δ = (fd δ).bind fun d δ => match d with
  | .bl b => .ok b δ
  | _ => .bad := by
  unfold blM bnd Res.bind
  cases fd δ with
  | ok d δ' => cases d <;> rfl
  | er => rfl
  | bad => rfl
theorem notM_ap : notM fb δ = (fb δ).bind fun b δ => .ok (!b) δ := rfl
theorem andM_ap : andM fb fc δ = (fb δ).bind fun b δ => if b = true then fc δ else .ok false δ := by
  unfold andM bnd Res.bind
  cases fb δ with
  | ok b δ' => cases b <;> rfl
  | er => rfl
  | bad => rfl
theorem orM_ap : orM fb fc δ = (fb δ).bind fun b δ => if b = true then .ok true δ else fc δ := by
  unfold orM bnd Res.bind
  cases fb δ with
  | ok b δ' => cases b <;> rfl
  | er => rfl
  | bad => rfl
theorem ifM_ap {p q : M α} : ifM fb p q δ = (fb δ).bind fun b δ => if b = true then p δ else q δ := by
  unfold ifM bnd Res.bind
  cases fb δ with
  | ok b δ' => cases b <;> rfl
  | er => rfl
  | bad => rfl
def D.andK (d : D) (k : Res D) (δ : List O) : Res D := match d with
  | .bl true => k
  | .bl false => .ok (.bl false) δ
  | _ => .bad
def D.orK (d : D) (k : Res D) (δ : List O) : Res D := match d with
  | .bl false => k
  | .bl true => .ok (.bl true) δ
  | _ => .bad
theorem andV_ap : andV fd fe δ = (fd δ).bind fun d δ => d.andK (fe δ) δ := by
  unfold andV bnd Res.bind
  cases fd δ with
  | ok d δ' => cases d <;> first | rfl | (rename_i b; cases b <;> rfl)
  | er => rfl
  | bad => rfl
theorem orV_ap : orV fd fe δ = (fd δ).bind fun d δ => d.orK (fe δ) δ := by
  unfold orV bnd Res.bind
  cases fd δ with
  | ok d δ' => cases d <;> first | rfl | (rename_i b; cases b <;> rfl)
  | er => rfl
  | bad => rfl
theorem andK_bl {b : Bool} {k : Res D} : (D.bl b).andK k δ = if b = true then k else .ok (.bl false) δ := by cases b <;> rfl
theorem orK_bl {b : Bool} {k : Res D} : (D.bl b).orK k δ = if b = true then .ok (.bl true) δ else k := by cases b <;> rfl
theorem notV_ap : notV fd δ = (fd δ).bind fun d δ => match d with
  | .bl b => .ok (.bl (!b)) δ
  | _ => .bad := by
  unfold notV bnd Res.bind
  cases fd δ with
  | ok d δ' => cases d <;> rfl
  | er => rfl
  | bad => rfl
def D.chK (b : D) (k : Res D) (δ : List O) : Res D := match b with
  | .bl true => k
  | .bl false => .ok (.bl false) δ
  | _ => .bad
theorem chM_ap {u u' : D → D → Option D} {ff : M D} : chM u u' fd fe ff δ = (fd δ).bind fun x δ => (fe δ).bind fun y δ => (opt (u x y) δ).bind fun b δ => b.andK ((ff δ).bind fun z => opt (u' y z)) δ := by
  unfold chM
  simp only [bnd_ap]
  cases fd δ with
  | ok x δ =>
    simp only [bind_ok, bnd_ap]
    cases fe δ with
    | ok y δ =>
      simp only [bind_ok, bnd_ap]
      cases u x y with
      | none => rfl
      | some b => cases b <;> first | rfl | (rename_i b; cases b <;> rfl)
    | er => rfl
    | bad => rfl
  | er => rfl
  | bad => rfl
/-! ### calls -/
def FRes.cal (δ : List O) : FRes → Res O
  | .ok o _ => .ok o δ
  | .er x _ => .er x δ
  | .bad => .bad
def FRes.calS (i : Nat) (δ : List O) : FRes → Res O
  | .ok o (q :: _) => .ok o (δ.set i q)
  | .er x (q :: _) => .er x (δ.set i q)
  | .ok o [] => .ok o δ
  | .er x [] => .er x δ
  | .bad => .bad
theorem cal_ok {o : O} {as : List O} : (FRes.ok o as).cal δ = .ok o δ := rfl
theorem cal_er {as : List O} : (FRes.er x as).cal δ = .er x δ := rfl
theorem calS_ok {o q : O} {as : List O} : (FRes.ok o (q :: as)).calS i δ = .ok o (δ.set i q) := rfl
theorem calS_er {q : O} {as : List O} : (FRes.er x (q :: as)).calS i δ = .er x (δ.set i q) := rfl
theorem arM_nil : arM [] δ = .ok [] δ := rfl
theorem arM_d {r : List Ar} : arM (.d fd :: r) δ = (fd δ).bind fun d δ => (arM r δ).bind fun as δ => .ok (.d d :: as) δ := rfl
theorem arM_s {r : List Ar} : arM (.s i :: r) δ = (held i δ).bind fun _ δ => (arM r δ).bind fun as δ => .ok (.s i :: as) δ := rfl
theorem callM_ap {m : Fm} {as : List Ar} : callM m as δ = (arM as δ).bind (callV m) := rfl
theorem callV_ap {m : Fm} {as : List Av} : callV m as δ = if decide (avS as).Nodup = true then (match m (avO as δ) with
    | .ok r os => .ok r (avB as os δ)
    | .er x os => .er x (avB as os δ)
    | .bad => .bad) else .bad := rfl
theorem avB_nil {os δ : List O} : avB [] os δ = δ := by cases os <;> rfl
theorem avB_d {d : D} {r : List Av} {o : O} {os δ : List O} : avB (.d d :: r) (o :: os) δ = avB r os δ := rfl
theorem avB_s {r : List Av} {o : O} {os δ : List O} : avB (.s i :: r) (o :: os) δ = (avB r os δ).set i o := rfl
theorem avB_ds : ∀ (ds : List D) (os δ : List O), avB (ds.map .d) os δ = δ
  | [], os, δ => avB_nil
  | d :: ds, [], δ => rfl
  | d :: ds, o :: os, δ => avB_ds ds os δ
theorem avS_ds : ∀ (ds : List D), avS (ds.map .d) = []
  | [] => rfl
  | d :: ds => avS_ds ds
theorem avO_ds (δ : List O) : ∀ (ds : List D), avO (ds.map .d) δ = ds.map .sh
  | [] => rfl
  | d :: ds => by simp only [List.map_cons, avO, avO_ds δ ds]
theorem callV_ds {m : Fm} {ds : List D} : callV m (ds.map .d) δ = (m (ds.map .sh)).cal δ := by
  unfold callV
  rw [if_pos (by rw [avS_ds]; rfl), avO_ds]
  cases m (ds.map .sh) <;> simp only [FRes.cal, avB_ds]
theorem callV_s {m : Fm} {ds : List D} : callV m (.s i :: ds.map .d) δ = (m (δ.getD i .no :: ds.map .sh)).calS i δ := by
  unfold callV
  rw [if_pos (by simp only [avS, avS_ds]; simp)]
  simp only [avO, avO_ds]
  cases m (δ.getD i .no :: ds.map .sh) with
  | ok r os => cases os <;> simp only [FRes.calS, avB, avB_ds]
  | er r os => cases os <;> simp only [FRes.calS, avB, avB_ds]
  | bad => rfl
theorem call0 {m : Fm} : callM m [] δ = (m []).cal δ := callV_ds (ds := [])
theorem call1 {m : Fm} {f1 : M D} : callM m [.d f1] δ = (f1 δ).bind fun d1 δ => (m [.sh d1]).cal δ := by
  rw [callM_ap, arM_d]
  cases f1 δ with
  | ok d δ => exact callV_ds (ds := [d])
  | er => rfl
  | bad => rfl
theorem call2 {m : Fm} {f1 f2 : M D} : callM m [.d f1, .d f2] δ = (f1 δ).bind fun d1 δ => (f2 δ).bind fun d2 δ => (m [.sh d1, .sh d2]).cal δ := by
  rw [callM_ap, arM_d]
  cases f1 δ with
  | ok d1 δ =>
    simp only [bind_ok, arM_d]
    cases f2 δ with
    | ok d2 δ => exact callV_ds (ds := [d1, d2])
    | er => rfl
    | bad => rfl
  | er => rfl
  | bad => rfl
theorem call3 {m : Fm} {f1 f2 f3 : M D} : callM m [.d f1, .d f2, .d f3] δ = (f1 δ).bind fun d1 δ => (f2 δ).bind fun d2 δ => (f3 δ).bind fun d3 δ => (m [.sh d1, .sh d2, .sh d3]).cal δ := by
  rw [callM_ap, arM_d]
  cases f1 δ with
  | ok d1 δ =>
    simp only [bind_ok, arM_d]
    cases f2 δ with
    | ok d2 δ =>
      simp only [bind_ok]
      cases f3 δ with
      | ok d3 δ => exact callV_ds (ds := [d1, d2, d3])
      | er => rfl
      | bad => rfl
    | er => rfl
    | bad => rfl
  | er => rfl
  | bad => rfl
theorem call4 {m : Fm} {f1 f2 f3 f4 : M D} : callM m [.d f1, .d f2, .d f3, .d f4] δ = (f1 δ).bind fun d1 δ => (f2 δ).bind fun d2 δ => (f3 δ).bind fun d3 δ => (f4 δ).bind fun d4 δ => (m [.sh d1, .sh d2, .sh d3, .sh d4]).cal δ := by
  rw [callM_ap, arM_d]
  cases f1 δ with
  | ok d1 δ =>
    simp only [bind_ok, arM_d]
    cases f2 δ with
    | ok d2 δ =>
      simp only [bind_ok]
      cases f3 δ with
      | ok d3 δ =>
        simp only [bind_ok]
        cases f4 δ with
        | ok d4 δ => exact callV_ds (ds := [d1, d2, d3, d4])
        | er => rfl
        | bad => rfl
      | er => rfl
      | bad => rfl
    | er => rfl
    | bad => rfl
  | er => rfl
  | bad => rfl
theorem call5 {m : Fm} {f1 f2 f3 f4 f5 : M D} : callM m [.d f1, .d f2, .d f3, .d f4, .d f5] δ = (f1 δ).bind fun d1 δ => (f2 δ).bind fun d2 δ => (f3 δ).bind fun d3 δ => (f4 δ).bind fun d4 δ => (f5 δ).bind fun d5 δ => (m [.sh d1, .sh d2, .sh d3, .sh d4, .sh d5]).cal δ := by
  rw [callM_ap, arM_d]
  cases f1 δ with
  | ok d1 δ =>
    simp only [bind_ok, arM_d]
    cases f2 δ with
    | ok d2 δ =>
      simp only [bind_ok]
      cases f3 δ with
      | ok d3 δ =>
        simp only [bind_ok]
        cases f4 δ with
        | ok d4 δ =>
          simp only [bind_ok]
          cases f5 δ with
          | ok d5 δ => exact callV_ds (ds := [d1, d2, d3, d4, d5])
          | er => rfl
          | bad => rfl
        | er => rfl
        | bad => rfl
      | er => rfl
      | bad => rfl
    | er => rfl
    | bad => rfl
  | er => rfl
  | bad => rfl
theorem callS0 {m : Fm} : callM m [.s i] δ = (held i δ).bind fun _ δ => (m [δ.getD i .no]).calS i δ := by
  rw [callM_ap, arM_s]
  cases held i δ with
  | ok u δ => exact callV_s (ds := [])
  | er => rfl
  | bad => rfl
theorem callS1 {m : Fm} {f1 : M D} : callM m [.s i, .d f1] δ = (held i δ).bind fun _ δ => (f1 δ).bind fun d1 δ => (m [δ.getD i .no, .sh d1]).calS i δ := by
  rw [callM_ap, arM_s]
  cases held i δ with
  | ok u δ =>
    simp only [bind_ok, arM_d]
    cases f1 δ with
    | ok d1 δ => exact callV_s (ds := [d1])
    | er => rfl
    | bad => rfl
  | er => rfl
  | bad => rfl
theorem callS2 {m : Fm} {f1 f2 : M D} : callM m [.s i, .d f1, .d f2] δ = (held i δ).bind fun _ δ => (f1 δ).bind fun d1 δ => (f2 δ).bind fun d2 δ => (m [δ.getD i .no, .sh d1, .sh d2]).calS i δ := by
  rw [callM_ap, arM_s]
  cases held i δ with
  | ok u δ =>
    simp only [bind_ok, arM_d]
    cases f1 δ with
    | ok d1 δ =>
      simp only [bind_ok]
      cases f2 δ with
      | ok d2 δ => exact callV_s (ds := [d1, d2])
      | er => rfl
      | bad => rfl
    | er => rfl
    | bad => rfl
  | er => rfl
  | bad => rfl
theorem callS3 {m : Fm} {f1 f2 f3 : M D} : callM m [.s i, .d f1, .d f2, .d f3] δ = (held i δ).bind fun _ δ => (f1 δ).bind fun d1 δ => (f2 δ).bind fun d2 δ => (f3 δ).bind fun d3 δ => (m [δ.getD i .no, .sh d1, .sh d2, .sh d3]).calS i δ := by
  rw [callM_ap, arM_s]
  cases held i δ with
  | ok u δ =>
    simp only [bind_ok, arM_d]
    cases f1 δ with
    | ok d1 δ =>
      simp only [bind_ok]
      cases f2 δ with
      | ok d2 δ =>
        simp only [bind_ok]
        cases f3 δ with
        | ok d3 δ => exact callV_s (ds := [d1, d2, d3])
        | er => rfl
        | bad => rfl
      | er => rfl
      | bad => rfl
    | er => rfl
    | bad => rfl
  | er => rfl
  | bad => rfl
theorem callS4 {m : Fm} {f1 f2 f3 f4 : M D} : callM m [.s i, .d f1, .d f2, .d f3, .d f4] δ = (held i δ).bind fun _ δ => (f1 δ).bind fun d1 δ => (f2 δ).bind fun d2 δ => (f3 δ).bind fun d3 δ => (f4 δ).bind fun d4 δ => (m [δ.getD i .no, .sh d1, .sh d2, .sh d3, .sh d4]).calS i δ := by
  rw [callM_ap, arM_s]
  cases held i δ with
  | ok u δ =>
    simp only [bind_ok, arM_d]
    cases f1 δ with
    | ok d1 δ =>
      simp only [bind_ok]
      cases f2 δ with
      | ok d2 δ =>
        simp only [bind_ok]
        cases f3 δ with
        | ok d3 δ =>
          simp only [bind_ok]
          cases f4 δ with
          | ok d4 δ => exact callV_s (ds := [d1, d2, d3, d4])
          | er => rfl
          | bad => rfl
        | er => rfl
        | bad => rfl
      | er => rfl
      | bad => rfl
    | er => rfl
    | bad => rfl
  | er => rfl
  | bad => rfl
def heldK (δ : List O) : Option O → Res Unit
  | some .no => .bad
  | some _ => .ok () δ
  | none => .bad
theorem held_ap : held i δ = heldK δ (δ[i]?) := by
  unfold held heldK
  cases δ[i]? with
  | none => rfl
  | some o => cases o <;> rfl
theorem heldK_oL {xs : List D} : heldK δ (some (oL xs)) = .ok () δ := rfl
theorem heldK_ol {xs : List O} : heldK δ (some (.ol xs)) = .ok () δ := rfl
theorem heldK_sh {d : D} : heldK δ (some (.sh d)) = .ok () δ := rfl
theorem heldK_fz {xs : List D} : heldK δ (some (.fz xs)) = .ok () δ := rfl
/-! ### statements -/
theorem bS_ap : bS f gs δ = (f δ).bindS gs := rfl
theorem sNext_ap : sNext δ = .nx δ := rfl
theorem sPass_ap : sPass δ = .nx δ := rfl
theorem sBreak_ap : sBreak δ = .bk δ := rfl
theorem sCont_ap : sCont δ = .ct δ := rfl
theorem sSeq_ap : sSeq h h' δ = (h δ).andThen h' := rfl
theorem sSet_ap : sSet i fo δ = (fo δ).bindS fun o δ => .nx (δ.set i o) := rfl
theorem sRet_ap : sRet fo δ = (fo δ).bindS fun o δ => .rt o δ := rfl
theorem sRetN_ap : sRetN δ = .rt (.sh .non) δ := rfl
theorem sDrop_ap : sDrop fo δ = (fo δ).bindS fun _ δ => .nx δ := rfl
theorem sIf_ap : sIf fb h h' δ = (fb δ).bindS fun b δ => if b = true then h δ else h' δ := rfl
theorem sRaise_ap {c n : Str} : sRaise c n fd δ = (fd δ).bindS fun d δ => .er ⟨c, [n], [d]⟩ δ := rfl
theorem sFor_ap {tg : Tg} : sFor fs tg h δ = (fs δ).bindS fun ds δ => loopS tg h ds δ := rfl
def tgK (δ : Option (List O)) : SRes := match δ with
  | some δ => .nx δ
  | none => .bad
theorem sAsg_ap {tg : Tg} : sAsg tg fd δ = (fd δ).bindS fun d δ => tgK (tg d δ) := by
  unfold sAsg bS Res.bindS tgK
  cases fd δ with
  | ok d δ => dsimp only; all_goals (cases tg d δ <;> rfl)
  | er => rfl
  | bad => rfl
theorem tgK_some : tgK (some δ) = .nx δ := rfl
theorem tgName_ap {d : D} : tgName i d δ = some (δ.set i (.sh d)) := rfl
theorem tgTup_ap {ts : List Tg} {ds : List D} : tgTup ts (.tup ds) δ = tgAll ts ds δ := rfl
theorem tgAll_nil : tgAll [] [] δ = some δ := rfl
theorem tgAll_cons {t : Tg} {ts : List Tg} {d : D} {ds : List D} : tgAll (t :: ts) (d :: ds) δ = (t d δ).bind fun δ' => tgAll ts ds δ' := rfl
theorem oNil_ap : oNil δ = .ok [] δ := rfl
theorem oCons_ap {os : M (List O)} : oCons fo os δ = (fo δ).bind fun o δ => (os δ).bind fun os δ => .ok (o :: os) δ := rfl
theorem sPar2 {j : Nat} {fp : M O} : sPar [i, j] (oCons fo (oCons fp oNil)) δ = (fo δ).bindS fun a δ => (fp δ).bindS fun b δ => .nx ((δ.set i a).set j b) := by
  show bS (bnd fo _) _ δ = _
  unfold bS bnd Res.bindS
  cases fo δ with
  | ok a δ =>
    dsimp only [oCons, bnd, oNil, ret]
    cases fp δ <;> rfl
  | er => rfl
  | bad => rfl
theorem sPar3 {j l : Nat} {fp fq : M O} : sPar [i, j, l] (oCons fo (oCons fp (oCons fq oNil))) δ = (fo δ).bindS fun a δ => (fp δ).bindS fun b δ => (fq δ).bindS fun c δ => .nx (((δ.set i a).set j b).set l c) := by
  show bS (bnd fo _) _ δ = _
  unfold bS bnd Res.bindS
  cases fo δ with
  | ok a δ =>
    dsimp only [oCons, bnd, oNil, ret]
    cases fp δ with
    | ok b δ =>
      dsimp only
      cases fq δ <;> rfl
    | er => rfl
    | bad => rfl
  | er => rfl
  | bad => rfl
/-! ### ends of defs -/
def SRes.fin (fx : List Nat) (n : Nat) : SRes → FRes
  | .rt o δ' => .ok o (msk fx n δ')
  | .nx δ' => .ok (.sh .non) (msk fx n δ')
  | .er x δ' => .er x (msk fx n δ')
  | _ => .bad
theorem run_ap {n N : Nat} {fx : List Nat} {os : List O} (e : os.length = n) : runF n N fx h os = (h (os ++ List.replicate (N - n) .no)).fin fx n := by
  unfold runF
  rw [if_pos e]
  cases h (os ++ List.replicate (N - n) .no) <;> rfl
theorem fin_rt {fx : List Nat} {n : Nat} {o : O} : (SRes.rt o δ).fin fx n = .ok o (msk fx n δ) := rfl
theorem fin_nx {fx : List Nat} {n : Nat} : (SRes.nx δ).fin fx n = .ok (.sh .non) (msk fx n δ) := rfl
theorem fin_er {fx : List Nat} {n : Nat} : (SRes.er x δ).fin fx n = .er x (msk fx n δ) := rfl
/-! ### slots held as data -/
def frzK (chk : α → Bool) (i : Nat) (f : M α) (δ : List O) : Option O → Res α
  | some (.ol os) => match frT (.ol os) with
    | none => .bad
    | some d => match f (δ.set i (.sh d)) with
      | .ok a δ' => if chk a then match mergeO i 0 δ δ' with
          | some δn => .ok a δn
          | none => .bad
        else .bad
      | .er x δ' => if noLs x.xs then match mergeO i 0 δ δ' with
          | some δn => .er x δn
          | none => .bad
        else .bad
      | .bad => .bad
  | _ => .bad
def Res.frz (chk : α → Bool) (i : Nat) (δ : List O) : Res α → Res α
  | .ok a δ' => if chk a then match mergeO i 0 δ δ' with
      | some δn => .ok a δn
      | none => .bad
    else .bad
  | .er x δ' => if noLs x.xs then match mergeO i 0 δ δ' with
      | some δn => .er x δn
      | none => .bad
    else .bad
  | .bad => .bad
theorem frzM_ap {chk : α → Bool} : frzM chk i f δ = frzK chk i f δ (δ[i]?) := by
  unfold frzM frzK
  cases δ[i]? with
  | none => rfl
  | some o => cases o <;> rfl
theorem frzK_ol {chk : α → Bool} {os : List O} {d : D} (e : frT (.ol os) = some d) : frzK chk i f δ (some (.ol os)) = (f (δ.set i (.sh d))).frz chk i δ := by
  unfold frzK
  dsimp only
  rw [e]
  dsimp only
  cases f (δ.set i (.sh d)) <;> rfl
theorem frzK_oL {chk : α → Bool} {xs : List D} : frzK chk i f δ (some (oL xs)) = (f (δ.set i (.sh (.lst xs)))).frz chk i δ := frzK_ol frT_oL
def mrgK (a : α) : Option (List O) → Res α
  | some δn => .ok a δn
  | none => .bad
def mrgX (x : DX) : Option (List O) → Res α
  | some δn => .er x δn
  | none => .bad
theorem frz_ok {chk : α → Bool} {δ' : List O} : (Res.ok a δ').frz chk i δ = if chk a = true then mrgK a (mergeO i 0 δ δ') else .bad := by
  unfold Res.frz mrgK
  rfl
theorem frz_er_dummy : True := trivial
theorem frz_er {chk : α → Bool} {δ' : List O} : (Res.er x δ' : Res α).frz chk i δ = if noLs x.xs = true then mrgX x (mergeO i 0 δ δ') else .bad := by
  unfold Res.frz mrgX
  rfl
theorem mrgK_some : mrgK a (some δ) = .ok a δ := rfl
theorem mrgX_some : (mrgX x (some δ) : Res α) = .er x δ := rfl
def mrgC : Option O → Option (List O) → Option (List O)
  | some a, some b => some (a :: b)
  | _, _ => none
theorem mrgC_some {a : O} {b : List O} : mrgC (some a) (some b) = some (a :: b) := rfl
theorem merge_cons {n : Nat} {o o' : O} {r r' : List O} : mergeO i n (o :: r) (o' :: r') = mrgC (mg1 (n == i) o o') (mergeO i (n + 1) r r') := by
  rw [mergeO]
  cases mg1 (n == i) o o' with
  | none => rfl
  | some a => cases mergeO i (n + 1) r r' <;> rfl
theorem merge_nil {n : Nat} : mergeO i n [] [] = some [] := by simp [mergeO]
theorem mg1_t {o o' : O} : mg1 true o o' = some o := rfl
theorem mg1_sh {d : D} {o' : O} : mg1 false (.sh d) o' = some (.sh d) := rfl
theorem mg1_fz {ds : List D} {o' : O} : mg1 false (.fz ds) o' = some (.fz ds) := rfl
theorem mg1_no {o' : O} : mg1 false .no o' = if noLO o' = true then some o' else none := rfl
theorem mg1_ol {os : List O} {o' : O} : mg1 false (.ol os) o' = if noLO o' = true then some o' else none := rfl
theorem mg1_oL {xs : List D} {o' : O} : mg1 false (oL xs) o' = if noLO o' = true then some o' else none := rfl
theorem noLO_no : noLO .no = true := by simp [noLO]
theorem noLO_sh {d : D} : noLO (.sh d) = noL d := by simp [noLO]
theorem noLOs_sh : ∀ xs : List D, noLOs (xs.map .sh) = noLs xs
  | [] => by simp [noLOs, noLs]
  | x :: xs => by simp only [List.map_cons, noLOs, noLO, noLs, noLOs_sh xs]
theorem noLO_oL {xs : List D} : noLO (oL xs) = noLs xs := by unfold oL; rw [noLO, noLOs_sh]
theorem noL_int {i : Int} : noL (.int i) = true := by simp [noL]
theorem noL_bl {b : Bool} : noL (.bl b) = true := by simp [noL]
theorem noL_non : noL .non = true := by simp [noL]
theorem noL_str {x : Str} : noL (.str x) = true := by simp [noL]
theorem noL_tup {xs : List D} : noL (.tup xs) = noLs xs := by simp [noL]
theorem noLs_nil : noLs [] = true := by simp [noLs]
theorem noLs_cons {d : D} {ds : List D} : noLs (d :: ds) = (noL d && noLs ds) := by simp [noLs]
theorem noLs_app {ds es : List D} : noLs (ds ++ es) = (noLs ds && noLs es) := by
  induction ds with
  | nil => simp [noLs]
  | cons d ds ih => simp [noLs, ih, Bool.and_assoc]
theorem noLs_map {γ : Type} {enc : γ → D} (h : ∀ x, noL (enc x) = true) (xs : List γ) : noLs (xs.map enc) = true := by
  induction xs with
  | nil => simp [noLs]
  | cons d ds ih => simp [noLs, ih, h]
/-! ### own lists changed -/
def heldLK (δ : List O) : Option O → Res Unit
  | some (.ol _) => .ok () δ
  | _ => .bad
theorem heldL_ap : heldL i δ = heldLK δ (δ[i]?) := by
  unfold heldL heldLK
  cases δ[i]? with
  | none => rfl
  | some o => cases o <;> rfl
theorem heldLK_oL {xs : List D} : heldLK δ (some (oL xs)) = .ok () δ := rfl
theorem lopM_ap {u : Lop} : lopM u i fs δ = (heldL i δ).bind fun _ δ => (fs δ).bind fun ds => lopS u i ds := rfl
def lopK (u : Lop) (i : Nat) (ds : List D) (δ : List O) : Option O → Res D
  | some (.ol ys) => match u ys ds with
    | some (r, ys') => .ok r (δ.set i (.ol ys'))
    | none => .bad
  | _ => .bad
theorem lopS_ap {u : Lop} {ds : List D} : lopS u i ds δ = lopK u i ds δ (δ[i]?) := by
  unfold lopS lopK
  cases δ[i]? with
  | none => rfl
  | some o => cases o <;> rfl
theorem lopK_app {xs : List D} {d : D} : lopK appL i [d] δ (some (oL xs)) = if xs.length < 16777216 then .ok .non (δ.set i (oL (xs ++ [d]))) else .bad := by
  unfold lopK oL appL
  simp only [List.length_map, List.map_append, List.map_cons, List.map_nil]
  split <;> rename_i e <;> (split at e <;> first | (cases e; rename_i h; rw [if_pos h]) | (cases e; done) | (rename_i h; rw [if_neg h]))
theorem seqIx_nat {k n : Nat} (h : k < n) : seqIndex? (k : Int) n = some k := by
  unfold seqIndex?
  have h1 : ¬ ((k : Int) < 0) := by omega
  simp only [h1, if_false]
  rw [if_pos (by simp; omega)]
  simp
theorem eraseIdx_map {γ ζ : Type} (f : γ → ζ) : ∀ (xs : List γ) (k : Nat), (xs.map f).eraseIdx k = (xs.eraseIdx k).map f
  | [], _ => rfl
  | _ :: _, 0 => rfl
  | x :: xs, k + 1 => by simp only [List.map_cons, List.eraseIdx_cons_succ, eraseIdx_map f xs k]
theorem lopK_gen {u : Lop} {xs ys : List D} {ds : List D} {r : D} (e : u (xs.map .sh) ds = some (r, ys.map .sh)) : lopK u i ds δ (some (oL xs)) = .ok r (δ.set i (oL ys)) := by
  unfold lopK oL
  dsimp only
  rw [e]
theorem pop_sh {xs : List D} {k : Nat} {d : D} (h : xs[k]? = some d) (hk : k < 9223372036854775808) : popL (xs.map .sh) [.int (k : Int)] = some (d, (xs.eraseIdx k).map .sh) := by
  have hl : k < xs.length := (List.getElem?_eq_some_iff.mp h).1
  have a1 : -9223372036854775808 ≤ (k : Int) := by omega
  have a2 : (k : Int) < 9223372036854775808 := by omega
  unfold popL
  dsimp only
  rw [List.length_map, if_pos ⟨a1, a2⟩, seqIx_nat hl]
  dsimp only
  rw [List.getElem?_map, h]
  dsimp only [Option.map_some]
  rw [eraseIdx_map]
theorem lopK_pop {xs : List D} {k : Nat} {d : D} (h : xs[k]? = some d) (hk : k < 9223372036854775808) : lopK popL i [.int (k : Int)] δ (some (oL xs)) = .ok d (δ.set i (oL (xs.eraseIdx k))) := lopK_gen (pop_sh h hk)
theorem ins_sh {xs : List D} {k : Nat} {d : D} (hl : xs.length < 16777216) (hk : k < 9223372036854775808) : insL (xs.map .sh) [.int (k : Int), d] = some (.non, (xs.take k ++ [d] ++ xs.drop k).map .sh) := by
  have a1 : 0 ≤ (k : Int) := by omega
  have a2 : (k : Int) < 9223372036854775808 := by omega
  unfold insL
  dsimp only
  rw [List.length_map, if_pos ⟨hl, a1, a2⟩]
  simp only [List.map_append, List.map_take, List.map_drop, List.map_cons, List.map_nil, Int.toNat_natCast]
theorem lopK_ins {xs : List D} {k : Nat} {d : D} (hl : xs.length < 16777216) (hk : k < 9223372036854775808) : lopK insL i [.int (k : Int), d] δ (some (oL xs)) = .ok .non (δ.set i (oL (xs.take k ++ [d] ++ xs.drop k))) := lopK_gen (ins_sh hl hk)
def lop2K (u : Lop) (i n : Nat) (ds : List D) (δ : List O) : Option O → Res D
  | some (.ol ys) => match ys[n]? with
    | some (.ol zs) => match u zs ds with
      | some (r, zs') => .ok r (δ.set i (.ol (ys.set n (.ol zs'))))
      | none => .bad
    | _ => .bad
  | _ => .bad
def heldL2K (n : Nat) (δ : List O) : Option O → Res Unit
  | some (.ol ys) => match ys[n]? with
    | some (.ol _) => .ok () δ
    | _ => .bad
  | _ => .bad
theorem heldL2_ap {n : Nat} : heldL2 i n δ = heldL2K n δ (δ[i]?) := by
  unfold heldL2 heldL2K
  cases δ[i]? with
  | none => rfl
  | some o => cases o <;> rfl
theorem lop2S_ap {n : Nat} {u : Lop} {ds : List D} : lop2S u i n ds δ = lop2K u i n ds δ (δ[i]?) := by
  unfold lop2S lop2K
  cases δ[i]? with
  | none => rfl
  | some o => cases o <;> rfl
theorem lop2M_ap {n : Nat} {u : Lop} : lop2M u i n fs δ = (heldL2 i n δ).bind fun _ δ => (frzM noLs i fs δ).bind fun ds => lop2S u i n ds := rfl
def shrK (i : Nat) (δ : List O) : Option O → Res D
  | some o => match frT o with
    | some d => .ok d (δ.set i (.sh d))
    | none => .bad
  | none => .bad
theorem shrV_ap : shrV i δ = shrK i δ (δ[i]?) := by
  unfold shrV shrK
  cases δ[i]? with
  | none => rfl
  | some o => cases o <;> rfl
theorem shrK_sh {d : D} : shrK i δ (some (.sh d)) = .ok d (δ.set i (.sh d)) := by unfold shrK; simp [frT]
theorem shrK_oL {xs : List D} : shrK i δ (some (oL xs)) = .ok (.lst xs) (δ.set i (.sh (.lst xs))) := by unfold shrK; simp only [frT_oL]
def mvK (i : Nat) (δ : List O) : Option O → Res O
  | some (.ol os) => .ok (.ol os) (δ.set i .no)
  | _ => .bad
theorem mvO_ap : mvO i δ = mvK i δ (δ[i]?) := by
  unfold mvO mvK
  cases δ[i]? with
  | none => rfl
  | some o => cases o <;> rfl
theorem mvK_oL {xs : List D} : mvK i δ (some (oL xs)) = .ok (oL xs) (δ.set i .no) := rfl
def gbK (δ : List O) : Option O → Res D
  | some (.ol os) => match leafs os with
    | some ds => .ok (.lst ds) δ
    | none => .bad
  | some (.sh d) => .ok d δ
  | _ => .bad
theorem gb_ap : gb i δ = gbK δ (δ[i]?) := by
  unfold gb gbK
  cases δ[i]? with
  | none => rfl
  | some o => cases o <;> rfl
theorem gbK_sh {d : D} : gbK δ (some (.sh d)) = .ok d δ := rfl
theorem gbK_oL {xs : List D} : gbK δ (some (oL xs)) = .ok (.lst xs) δ := by unfold gbK oL; simp only [leafs_sh]
theorem op2s_ap {u : D → D → Option D} : op2s u i fe δ = (gb i δ).bind fun _ δ => (fe δ).bind fun y δ => (gb i δ).bind fun x => opt (u x y) := rfl
theorem slcM_ap {fl fh : M (Option Int)} : slcM fd fl fh δ = (fd δ).bind fun x δ => (fl δ).bind fun l δ => (fh δ).bind fun h => opt (slcD l h x) := rfl
theorem slcS_ap {fl fh : M (Option Int)} : slcS i fl fh δ = (gb i δ).bind fun _ δ => (fl δ).bind fun l δ => (fh δ).bind fun h δ => (gb i δ).bind fun x => opt (slcD l h x) := rfl
theorem sxM_none : sxM none δ = .ok none δ := rfl
theorem sxM_some : sxM (some fd) δ = (fd δ).bind fun d δ => match d with
  | .int i => .ok (some i) δ
  | _ => .bad := by
  show bnd fd _ δ = _
  unfold bnd Res.bind
  cases fd δ with
  | ok d δ => cases d <;> rfl
  | er => rfl
  | bad => rfl
theorem itS_ap : itS fd δ = (fd δ).bind fun d => opt (seqD d) := rfl
theorem itE_ap : itE fd δ = (fd δ).bind fun d => opt ((seqD d).map enumD) := rfl
theorem seqD_l {ds : List D} : seqD (.lst ds) = some ds := rfl
theorem seqD_t {ds : List D} : seqD (.tup ds) = some ds := rfl
theorem itR1_ap : itR1 fd δ = (fd δ).bind fun d δ => match d with
  | .int j => if -4611686018427387904 ≤ j ∧ j < 4611686018427387904 then .ok (rangeD 0 j.toNat) δ else .bad
  | _ => .bad := by
  show bnd fd _ δ = _
  unfold bnd Res.bind
  cases fd δ with
  | ok d δ => cases d <;> first | rfl | exact ite_ap
  | er => rfl
  | bad => rfl
theorem compM_ap {tg : Tg} {t : M Bool} {vs : List Nat} : compM fs tg t fd vs δ = (fs δ).bind fun ds δ => if ds.length ≤ 16777216 ∧ simpO δ vs = true then (match compL tg t fd vs ds [] (wipeO δ vs) with
    | .ok ys δ' => .ok ys (backO δ δ' vs)
    | _ => .bad) else .bad := rfl
theorem olC_ap : olC fs δ = (fs δ).bind fun ds δ => .ok (oL ds) δ := rfl
theorem lstC_ap : lstC fs δ = (fs δ).bind fun ds δ => .ok (.lst ds) δ := rfl
end
/-! ### comprehensions -/
def compE (δ : List O) (vs : List Nat) : Res (List D) → Res (List D)
  | .ok ys δ' => .ok ys (backO δ δ' vs)
  | _ => .bad
section
variable {δ : List O} {fs : M (List D)} {tg : Tg} {t : M Bool} {fd : M D} {vs : List Nat}
theorem compM_ap' : compM fs tg t fd vs δ = (fs δ).bind fun ds δ => if ds.length ≤ 16777216 ∧ simpO δ vs = true then compE δ vs (compL tg t fd vs ds [] (wipeO δ vs)) else .bad := by
  rw [compM_ap]
  unfold Res.bind compE
  cases fs δ <;> rfl
theorem compE_ok {ys : List D} {δ' : List O} : compE δ vs (.ok ys δ') = .ok ys (backO δ δ' vs) := rfl
theorem compE_congr {r r' : Res (List D)} (h : r = r') : compE δ vs r = compE δ vs r' := by rw [h]
inductive All2 {γ ζ : Type} (R : γ → ζ → Prop) : List γ → List ζ → Prop
  | nil : All2 R [] []
  | cons {x : γ} {y : ζ} {xs : List γ} {ys : List ζ} (h : R x y) (t : All2 R xs ys) : All2 R (x :: xs) (y :: ys)
/-- a comprehension that changes nothing -/
theorem comp_pure {γ : Type} (enc : γ → D) (p : γ → Bool) (u : γ → D) (δ : List O) : ∀ (xs : List γ) (acc : List D), (∀ x ∈ xs, ∃ δ1, tg (enc x) δ = some δ1 ∧ t δ1 = .ok (p x) δ1 ∧ (p x = true → fd δ1 = .ok (u x) δ1) ∧ wipeO δ1 vs = δ) →
    compL tg t fd vs (xs.map enc) acc δ = .ok (acc ++ (xs.filter p).map u) δ
  | [], acc, _ => by simp [compL]
  | x :: xs, acc, h => by
    obtain ⟨δ1, h1, h2, h3, h4⟩ := h x (by simp)
    have ih := fun acc => comp_pure enc p u δ xs acc fun y hy => h y (by simp [hy])
    rw [List.map_cons, compL, h1]
    dsimp only
    rw [h2]
    cases hp : p x with
    | true =>
      dsimp only
      rw [h3 hp]
      dsimp only
      rw [h4, ih, List.filter_cons_of_pos hp, List.map_cons, List.append_assoc]
      rfl
    | false =>
      dsimp only
      rw [h4, ih, List.filter_cons_of_neg (by simp [hp])]
/-- a comprehension that changes the state, as told by s -/
theorem comp_st {γ σ : Type} (S : σ → List O) (enc : γ → D) (R : γ → D → Prop) : ∀ (xs : List γ) (s : σ) (acc : List D), (∀ x ∈ xs, ∀ s, ∃ δ1 δ3 y s', tg (enc x) (S s) = some δ1 ∧ t δ1 = .ok true δ1 ∧ fd δ1 = .ok y δ3 ∧ wipeO δ3 vs = S s' ∧ R x y) →
    ∃ ys s', compL tg t fd vs (xs.map enc) acc (S s) = .ok (acc ++ ys) (S s') ∧ All2 R xs ys
  | [], s, acc, _ => ⟨[], s, by simp [compL], .nil⟩
  | x :: xs, s, acc, h => by
    obtain ⟨δ1, δ3, y, s', h1, h2, h3, h4, h5⟩ := h x (by simp) s
    obtain ⟨ys, s'', k1, k2⟩ := comp_st S enc R xs s' (acc ++ [y]) fun y hy => h y (by simp [hy])
    refine ⟨y :: ys, s'', ?_, .cons h5 k2⟩
    rw [List.map_cons, compL, h1]
    dsimp only
    rw [h2]
    dsimp only
    rw [h3]
    dsimp only
    rw [h4, k1, List.append_assoc]
    rfl
/-- a comprehension whose test changes the state -/
theorem comp_ft {γ σ : Type} (S : σ → List O) (enc : γ → D) (u : γ → D) : ∀ (xs : List γ) (s : σ) (acc : List D), (∀ x ∈ xs, ∀ s, ∃ δ1 δ2 b s', tg (enc x) (S s) = some δ1 ∧ t δ1 = .ok b δ2 ∧ (b = true → fd δ2 = .ok (u x) δ2) ∧ wipeO δ2 vs = S s') →
    ∃ (ys : List γ) (s' : σ), compL tg t fd vs (xs.map enc) acc (S s) = .ok (acc ++ ys.map u) (S s') ∧ ys.Sublist xs
  | [], s, acc, _ => ⟨[], s, by simp [compL], List.Sublist.slnil⟩
  | x :: xs, s, acc, h => by
    obtain ⟨δ1, δ2, b, s', h1, h2, h3, h4⟩ := h x (by simp) s
    rw [List.map_cons, compL, h1]
    dsimp only
    rw [h2]
    cases b with
    | true =>
      obtain ⟨ys, s'', k1, k2⟩ := comp_ft S enc u xs s' (acc ++ [u x]) fun y hy => h y (by simp [hy])
      refine ⟨x :: ys, s'', ?_, k2.cons₂ x⟩
      dsimp only
      rw [h3 rfl]
      dsimp only
      rw [h4, k1, List.append_assoc]
      rfl
    | false =>
      obtain ⟨ys, s'', k1, k2⟩ := comp_ft S enc u xs s' acc fun y hy => h y (by simp [hy])
      refine ⟨ys, s'', ?_, k2.cons x⟩
      dsimp only
      rw [h4, k1]
end
/-! ### loops -/
section
variable {tg : Tg} {body : G} {δ : List O}
def loopK (k : G) : SRes → SRes
  | .nx δ => k δ
  | .ct δ => k δ
  | .bk δ => .nx δ
  | .rt o δ => .rt o δ
  | .er x δ => .er x δ
  | .bad => .bad
theorem loop_nil : loopS tg body [] δ = .nx δ := rfl
theorem loop_cons {d : D} {ds : List D} : loopS tg body (d :: ds) δ = match tg d δ with
  | none => .bad
  | some δ1 => loopK (loopS tg body ds) (body δ1) := by
  rw [loopS]
  dsimp only
  cases tg d δ with
  | none => rfl
  | some δ1 => dsimp only; cases body δ1 <;> rfl
/-- a loop that goes to its end, as told by s -/
theorem loop_inv {γ σ : Type} (S : σ → List O) (enc : γ → D) (I : Nat → σ → Prop) : ∀ (xs : List γ) (k : Nat) (s : σ), I k s → (∀ i x s, xs[i]? = some x → I (k + i) s → ∃ δ1 s', tg (enc x) (S s) = some δ1 ∧ (body δ1 = .nx (S s') ∨ body δ1 = .ct (S s')) ∧ I (k + i + 1) s') →
    ∃ s', loopS tg body (xs.map enc) (S s) = .nx (S s') ∧ I (k + xs.length) s'
  | [], k, s, h, _ => ⟨s, rfl, h⟩
  | x :: xs, k, s, h, st => by
    obtain ⟨δ1, s', h1, h2, h3⟩ := st 0 x s rfl h
    obtain ⟨s'', k1, k2⟩ := loop_inv S enc I xs (k + 1) s' h3 fun i y s e hI => by
      have := st (i + 1) y s e (by rw [show k + (i + 1) = k + 1 + i by omega]; exact hI)
      rw [show k + (i + 1) + 1 = k + 1 + i + 1 by omega] at this
      exact this
    refine ⟨s'', ?_, by rw [List.length_cons, show k + (xs.length + 1) = k + 1 + xs.length by omega]; exact k2⟩
    rw [List.map_cons, loop_cons, h1]
    dsimp only
    rcases h2 with h2 | h2 <;> (rw [h2]; exact k1)
/-- a loop that goes on up to a place, and ends the def there -/
theorem loop_out {γ σ : Type} (S : σ → List O) (enc : γ → D) (I : Nat → σ → Prop) (R : SRes → Prop) (hR : ∀ r, R r → (∃ o δ, r = .rt o δ) ∨ ∃ x δ, r = .er x δ) : ∀ (xs : List γ) (k : Nat) (s : σ) (j : Nat), j < xs.length → I k s → (∀ i x s, i < j → xs[i]? = some x → I (k + i) s → ∃ δ1 s', tg (enc x) (S s) = some δ1 ∧ (body δ1 = .nx (S s') ∨ body δ1 = .ct (S s')) ∧ I (k + i + 1) s') →
    (∀ x s, xs[j]? = some x → I (k + j) s → ∃ δ1, tg (enc x) (S s) = some δ1 ∧ R (body δ1)) → R (loopS tg body (xs.map enc) (S s))
  | [], k, s, j, hj, h, _, _ => by simp at hj
  | x :: xs, k, s, 0, hj, h, st, fin => by
    obtain ⟨δ1, h1, h2⟩ := fin x s rfl h
    rw [List.map_cons, loop_cons, h1]
    dsimp only
    rcases hR _ h2 with ⟨o, δ, e⟩ | ⟨x, δ, e⟩ <;> (rw [e] at h2 ⊢; exact h2)
  | x :: xs, k, s, j + 1, hj, h, st, fin => by
    obtain ⟨δ1, s', h1, h2, h3⟩ := st 0 x s (by omega) rfl h
    have k1 := loop_out S enc I R hR xs (k + 1) s' j (by simpa using hj) h3 (fun i y s hi e hI => by
      have := st (i + 1) y s (by omega) e (by rw [show k + (i + 1) = k + 1 + i by omega]; exact hI)
      rw [show k + (i + 1) + 1 = k + 1 + i + 1 by omega] at this
      exact this) (fun y s e hI => fin y s e (by rw [show k + (j + 1) = k + 1 + j by omega]; exact hI))
    rw [List.map_cons, loop_cons, h1]
    dsimp only
    rcases h2 with h2 | h2 <;> (rw [h2]; exact k1)
end
end FW

set_option Elab.async false
set_option linter.all false
set_option maxRecDepth 100000
set_option maxHeartbeats 1000000
/-! PlB: plain data: equality, membership, sorting, repr. -/
namespace FW
open PySem PySem.Spec PyProof.Rows L2
noncomputable instance instDecD : DecidableEq D := fun a b => Classical.propDecidable _
mutual
/-- data without truth values, with fit texts -/
def D.pl : D → Bool
  | .non => true
  | .int _ => true
  | .str x => PyData.strOk x
  | .tup ds => D.pls ds
  | .lst ds => D.pls ds
  | _ => false
def D.pls : List D → Bool
  | [] => true
  | d :: ds => D.pl d && D.pls ds
end
mutual
def D.dp : D → Nat
  | .tup ds => D.dps ds + 1
  | .lst ds => D.dps ds + 1
  | _ => 0
def D.dps : List D → Nat
  | [] => 0
  | d :: ds => max (D.dp d) (D.dps ds)
end
mutual
def D.toPy : D → PyData
  | .int i => .int i
  | .str x => .str x
  | .bl b => .bool b
  | .tup ds => .tuple (D.toPys ds)
  | .lst ds => .list (D.toPys ds)
  | _ => .none
def D.toPys : List D → List PyData
  | [] => []
  | d :: ds => D.toPy d :: D.toPys ds
end
mutual
theorem py_toPy : ∀ d : D, d.pl = true → d.py = some d.toPy
  | .non, _ => by simp [D.py, D.toPy]
  | .int i, _ => by simp [D.py, D.toPy]
  | .str x, _ => by simp [D.py, D.toPy]
  | .tup ds, h => by simp only [D.pl] at h; simp only [D.py, D.toPy, pys_toPy ds h, Option.map_some]
  | .lst ds, h => by simp only [D.pl] at h; simp only [D.py, D.toPy, pys_toPy ds h, Option.map_some]
  | .bl b, h => by simp [D.pl] at h
  | .gl x, h => by simp [D.pl] at h
  | .clo x, h => by simp [D.pl] at h
theorem pys_toPy : ∀ ds : List D, D.pls ds = true → D.pys ds = some (D.toPys ds)
  | [], _ => by simp [D.pys, D.toPys]
  | d :: ds, h => by
    simp only [D.pls, Bool.and_eq_true] at h
    simp only [D.pys, D.toPys, py_toPy d h.1, pys_toPy ds h.2]
end
mutual
theorem lay_toPy : ∀ d : D, d.pl = true → d.toPy.canLay0 = true ∧ d.toPy.depth = d.dp
  | .non, _ => by simp [D.toPy, PyData.canLay0, PyData.depth, D.dp]
  | .int i, _ => by simp [D.toPy, PyData.canLay0, PyData.depth, D.dp]
  | .str x, h => by simp only [D.pl] at h; simp [D.toPy, PyData.canLay0, PyData.depth, D.dp, h]
  | .tup ds, h => by
    simp only [D.pl] at h
    obtain ⟨h1, h2⟩ := lay_toPys ds h
    simp only [D.toPy, PyData.canLay0, PyData.depth, D.dp, h1, h2, and_self]
  | .lst ds, h => by
    simp only [D.pl] at h
    obtain ⟨h1, h2⟩ := lay_toPys ds h
    simp only [D.toPy, PyData.canLay0, PyData.depth, D.dp, h1, h2, and_self]
  | .bl b, h => by simp [D.pl] at h
  | .gl x, h => by simp [D.pl] at h
  | .clo x, h => by simp [D.pl] at h
theorem lay_toPys : ∀ ds : List D, D.pls ds = true → PyData.canLayAll0 (D.toPys ds) = true ∧ PyData.depthAll (D.toPys ds) = D.dps ds
  | [], _ => by simp [D.toPys, PyData.canLayAll0, PyData.depthAll, D.dps]
  | d :: ds, h => by
    simp only [D.pls, Bool.and_eq_true] at h
    obtain ⟨h1, h2⟩ := lay_toPy d h.1
    obtain ⟨h3, h4⟩ := lay_toPys ds h.2
    simp only [D.toPys, PyData.canLayAll0, PyData.depthAll, D.dps, h1, h2, h3, h4, Bool.and_self, and_self]
end
mutual
theorem eqv_toPy : ∀ d e : D, d.pl = true → e.pl = true → (PyData.eqv d.toPy e.toPy = true ↔ d = e)
  | .non, e, _, h => by cases e <;> simp_all [D.pl, D.toPy, PyData.eqv]
  | .int i, e, _, h => by cases e <;> simp_all [D.pl, D.toPy, PyData.eqv]
  | .str x, e, _, h => by cases e <;> simp_all [D.pl, D.toPy, PyData.eqv]
  | .tup ds, e, h', h => by
    simp only [D.pl] at h'
    cases e with
    | tup es => simp only [D.pl] at h; simp only [D.toPy, PyData.eqv, D.tup.injEq]; exact eqv_toPys ds es h' h
    | _ => simp_all [D.pl, D.toPy, PyData.eqv]
  | .lst ds, e, h', h => by
    simp only [D.pl] at h'
    cases e with
    | lst es => simp only [D.pl] at h; simp only [D.toPy, PyData.eqv, D.lst.injEq]; exact eqv_toPys ds es h' h
    | _ => simp_all [D.pl, D.toPy, PyData.eqv]
  | .bl b, _, h, _ => by simp [D.pl] at h
  | .gl x, _, h, _ => by simp [D.pl] at h
  | .clo x, _, h, _ => by simp [D.pl] at h
theorem eqv_toPys : ∀ ds es : List D, D.pls ds = true → D.pls es = true → (PyData.eqvAll (D.toPys ds) (D.toPys es) = true ↔ ds = es)
  | [], [], _, _ => by simp [D.toPys, PyData.eqvAll]
  | [], _ :: _, _, _ => by simp [D.toPys, PyData.eqvAll]
  | _ :: _, [], _, _ => by simp [D.toPys, PyData.eqvAll]
  | d :: ds, e :: es, h, h' => by
    simp only [D.pls, Bool.and_eq_true] at h h'
    simp only [D.toPys, PyData.eqvAll, Bool.and_eq_true, eqv_toPy d e h.1 h'.1, eqv_toPys ds es h.2 h'.2, List.cons.injEq]
end
theorem eqv_dec {d e : D} (h : d.pl = true) (h' : e.pl = true) : PyData.eqv d.toPy e.toPy = decide (d = e) := by
  rw [Bool.eq_iff_iff, eqv_toPy d e h h', decide_eq_true_eq]
theorem shaped_toPy {d : D} (h : d.pl = true) (k : d.dp ≤ 64) : SeqAt.shaped d.toPy = true := by
  obtain ⟨h1, h2⟩ := lay_toPy d h
  simp only [SeqAt.shaped, h1, h2, k, decide_true, Bool.and_self]
theorem eqB_pl {d e : D} (h : d.pl = true) (h' : e.pl = true) (k : d.dp ≤ 64) (k' : e.dp ≤ 64) : eqB d e = some (decide (d = e)) := by
  unfold eqB
  rw [py_toPy d h, py_toPy e h']
  dsimp only
  rw [shaped_toPy h k, shaped_toPy h' k', eqv_dec h h']
  rfl
theorem any_toPys {d : D} (h : d.pl = true) : ∀ es : List D, D.pls es = true → (D.toPys es).any (fun z => PyData.eqv z d.toPy) = decide (d ∈ es)
  | [], _ => by simp [D.toPys]
  | e :: es, k => by
    simp only [D.pls, Bool.and_eq_true] at k
    simp only [D.toPys, List.any_cons, any_toPys h es k.2, eqv_dec k.1 h, List.mem_cons]
    rw [Bool.eq_iff_iff]
    simp only [Bool.or_eq_true, decide_eq_true_eq]
    exact or_congr ⟨fun z => z.symm, fun z => z.symm⟩ Iff.rfl
theorem in_core {d : D} {es : List D} (h : d.pl = true) (h' : D.pls es = true) (k : d.dp ≤ 64) (k' : D.dps es ≤ 63) : (match d.py, D.pys es with
    | some p, some qs => if SeqAt.shaped p && SeqAt.shaped (.list qs) then some (qs.any fun z => PyData.eqv z p) else none
    | _, _ => none) = some (decide (d ∈ es)) := by
  rw [py_toPy d h, pys_toPy es h']
  dsimp only
  have : SeqAt.shaped (.list (D.toPys es)) = true := shaped_toPy (d := .lst es) (by simpa only [D.pl] using h') (by simp only [D.dp]; omega)
  rw [shaped_toPy h k, this, any_toPys h es h']
  rfl
theorem inB_l {d : D} {es : List D} (h : d.pl = true) (h' : D.pls es = true) (k : d.dp ≤ 64) (k' : D.dps es ≤ 63) : inB d (.lst es) = some (decide (d ∈ es)) := in_core h h' k k'
theorem inB_t {d : D} {es : List D} (h : d.pl = true) (h' : D.pls es = true) (k : d.dp ≤ 64) (k' : D.dps es ≤ 63) : inB d (.tup es) = some (decide (d ∈ es)) := in_core h h' k k'
/-! ### maps of encodings -/
theorem pls_map {γ : Type} {enc : γ → D} (h : ∀ x, (enc x).pl = true) : ∀ xs : List γ, D.pls (xs.map enc) = true
  | [] => by simp [D.pls]
  | x :: xs => by simp only [List.map_cons, D.pls, h, pls_map h xs, Bool.and_self]
theorem dps_map {γ : Type} {enc : γ → D} {k : Nat} (h : ∀ x, (enc x).dp ≤ k) : ∀ xs : List γ, D.dps (xs.map enc) ≤ k
  | [] => by simp [D.dps]
  | x :: xs => by simp only [List.map_cons, D.dps]; exact Nat.max_le.mpr ⟨h x, dps_map h xs⟩
theorem pls_app (ds es : List D) : D.pls (ds ++ es) = (D.pls ds && D.pls es) := by
  induction ds with
  | nil => simp [D.pls]
  | cons d ds ih => simp [D.pls, ih, Bool.and_assoc]
/-! ### sorting -/
theorem sort_ints (xs : List Int) (h : xs.length ≤ 16777216) : sortD (xs.map .int) = some ((xs.mergeSort (fun a b => decide (a ≤ b))).map .int) := by
  unfold sortD
  rw [pys_toPy _ (pls_map (fun _ => by simp [D.pl]) xs)]
  dsimp only
  have e : D.toPys (xs.map .int) = xs.map .int := by
    induction xs with
    | nil => simp [D.toPys]
    | cons x xs ih => simp only [List.map_cons, D.toPys, D.toPy]; rw [ih (by simp at h; omega)]
  rw [e, if_pos (by simp [canSort, PySem.W.alike, PyData.depth]), if_pos (by rw [List.length_map]; exact h)]
  congr 1
  rw [List.map_mergeSort]
  intro a _ b _
  simp only [leK, PySem.W.dataLe, PySem.W.sortLe, cond_false, encD, D.py, Option.getD_some, PySem.W.keyToks]
  simp only [PyProof.Rows.lexLt, itemOrd, itemLt]
  by_cases hh : a ≤ b
  · simp [hh, Int.not_lt.mpr hh]
  · have : b < a := by omega
    simp [hh, this]
end FW

set_option Elab.async false
set_option linter.all false
set_option maxRecDepth 100000
set_option maxHeartbeats 1000000
/-! PlC: ends of runs, encodings. -/
namespace FW
open PySem PySem.Spec PyProof.Rows L2
def mskG (fx : List Nat) : Nat → Nat → List O → List O
  | _, 0, _ => []
  | k, n + 1, [] => .no :: mskG fx (k + 1) n []
  | k, n + 1, o :: δ => (if fx.contains k = true then o else .no) :: mskG fx (k + 1) n δ
theorem mskG_z {fx : List Nat} {k : Nat} {δ : List O} : mskG fx k 0 δ = [] := by cases δ <;> rfl
theorem mskG_s {fx : List Nat} {k n : Nat} {o : O} {δ : List O} : mskG fx k (n + 1) (o :: δ) = (if fx.contains k = true then o else .no) :: mskG fx (k + 1) n δ := rfl
theorem mskG_eq (fx : List Nat) : ∀ (n k : Nat) (δ : List O), mskG fx k n δ = (List.range' k n).map fun i => if fx.contains i then δ.getD (i - k) .no else .no
  | 0, k, δ => by rw [mskG_z]; rfl
  | n + 1, k, [] => by
    show O.no :: mskG fx (k + 1) n [] = _
    rw [mskG_eq fx n (k + 1) [], List.range'_succ, List.map_cons]
    simp
  | n + 1, k, o :: δ => by
    show (if fx.contains k = true then o else .no) :: mskG fx (k + 1) n δ = _
    rw [mskG_eq fx n (k + 1) δ, List.range'_succ, List.map_cons]
    simp only [Nat.sub_self, List.getD_cons_zero, List.cons.injEq, true_and]
    apply List.map_congr_left
    intro i hi
    rw [List.mem_range'_1] at hi
    rw [show i - k = (i - (k + 1)) + 1 by omega, List.getD_cons_succ]
theorem msk_ap {fx : List Nat} {n : Nat} {δ : List O} : msk fx n δ = mskG fx 0 n δ := by
  rw [mskG_eq, msk, List.range_eq_range']
  rfl
theorem wipe_nil {δ : List O} : wipeO δ [] = δ := rfl
theorem wipe_cons {δ : List O} {v : Nat} {vs : List Nat} : wipeO δ (v :: vs) = (wipeO δ vs).set v .no := rfl
def backK (o : Option O) (v : Nat) (δ : List O) : List O := match o with
  | some o => δ.set v o
  | none => δ
theorem back_nil {δ δ' : List O} : backO δ δ' [] = δ' := rfl
theorem backK_some {o : O} {v : Nat} {δ : List O} : backK (some o) v δ = δ.set v o := rfl
theorem back_cons {δ δ' : List O} {v : Nat} {vs : List Nat} : backO δ δ' (v :: vs) = backK (δ[v]?) v (backO δ δ' vs) := by
  rw [backO]
  cases δ[v]? <;> rfl
/-! ### encodings -/
def nD (n : Nat) : D := .int (n : Int)
def tN (xs : List Nat) : D := .tup (xs.map nD)
def lN (xs : List Nat) : D := .lst (xs.map nD)
def machD (M : List (List Nat) × List Nat) : D := .tup [.tup (M.1.map tN), tN M.2]
def nwD (p : Nat × Nat) : D := .tup [nD p.1, nD p.2]
def ddD (p : Nat × Nat × Nat) : D := .tup [nD p.1, nD p.2.1, nD p.2.2]
theorem nD_inj {a b : Nat} : nD a = nD b ↔ a = b := by simp only [nD, D.int.injEq]; omega
theorem map_inj {γ : Type} {enc : γ → D} (h : ∀ a b, enc a = enc b ↔ a = b) : ∀ {xs ys : List γ}, xs.map enc = ys.map enc ↔ xs = ys
  | [], [] => by simp
  | [], _ :: _ => by simp
  | _ :: _, [] => by simp
  | x :: xs, y :: ys => by simp only [List.map_cons, List.cons.injEq, h, map_inj h]
theorem mem_enc {γ : Type} {enc : γ → D} (h : ∀ a b, enc a = enc b ↔ a = b) {x : γ} {xs : List γ} : enc x ∈ xs.map enc ↔ x ∈ xs := by
  rw [List.mem_map]
  exact ⟨fun ⟨y, h1, h2⟩ => ((h _ _).mp h2) ▸ h1, fun h1 => ⟨x, h1, rfl⟩⟩
theorem tN_inj {a b : List Nat} : tN a = tN b ↔ a = b := by simp only [tN, D.tup.injEq, map_inj (fun _ _ => nD_inj)]
theorem lN_inj {a b : List Nat} : lN a = lN b ↔ a = b := by simp only [lN, D.lst.injEq, map_inj (fun _ _ => nD_inj)]
theorem nwD_inj {a b : Nat × Nat} : nwD a = nwD b ↔ a = b := by
  obtain ⟨a1, a2⟩ := a; obtain ⟨b1, b2⟩ := b
  simp [nwD, nD_inj]
theorem ddD_inj {a b : Nat × Nat × Nat} : ddD a = ddD b ↔ a = b := by
  obtain ⟨a1, a2, a3⟩ := a; obtain ⟨b1, b2, b3⟩ := b
  simp [ddD, nD_inj]
theorem pl_nD {n : Nat} : (nD n).pl = true := by simp [nD, D.pl]
theorem dp_nD {n : Nat} : (nD n).dp = 0 := by simp [nD, D.dp]
theorem pl_tN {xs : List Nat} : (tN xs).pl = true := by simp only [tN, D.pl]; exact pls_map (fun _ => pl_nD) xs
theorem dp_tN {xs : List Nat} : (tN xs).dp ≤ 1 := by simp only [tN, D.dp]; exact Nat.succ_le_succ (dps_map (k := 0) (fun _ => by rw [dp_nD]; exact Nat.le_refl 0) xs)
theorem pl_nwD {p : Nat × Nat} : (nwD p).pl = true := by simp [nwD, D.pl, D.pls, pl_nD]
theorem dp_nwD {p : Nat × Nat} : (nwD p).dp ≤ 1 := by simp [nwD, D.dp, D.dps, dp_nD]
theorem pl_ddD {p : Nat × Nat × Nat} : (ddD p).pl = true := by simp [ddD, D.pl, D.pls, pl_nD]
theorem dp_ddD {p : Nat × Nat × Nat} : (ddD p).dp ≤ 1 := by simp [ddD, D.dp, D.dps, dp_nD]
theorem nat_at {γ : Type} (xs : List γ) (k : Nat) : L2.atI xs (k : Int) = xs[k]? := by
  unfold L2.atI L2.ixN
  by_cases h : k < xs.length
  · have h1 : (0 : Int) ≤ (k : Int) := by omega
    have h2 : (k : Int) < (xs.length : Int) := by omega
    rw [if_pos h1, if_pos h2]
    simp
  · have h1 : (0 : Int) ≤ (k : Int) := by omega
    have h2 : ¬ (k : Int) < (xs.length : Int) := by omega
    rw [if_pos h1, if_neg h2]
    simp [List.getElem?_eq_none (Nat.le_of_not_lt h)]
theorem last_at {γ : Type} (xs : List γ) (h : xs ≠ []) : L2.atI xs (-1 : Int) = xs.getLast? := by
  unfold L2.atI L2.ixN
  have hl : 0 < xs.length := List.length_pos_iff.mpr h
  rw [if_neg (by omega), if_pos (by omega), List.getLast?_eq_getElem?]
  have : ((-1 : Int) + (xs.length : Int)).toNat = xs.length - 1 := by omega
  rw [this]
  rfl
theorem cut_pre {γ : Type} (xs : List γ) (k : Nat) : cutL xs none (some (k : Int)) = xs.take k := by
  unfold cutL
  rw [HT.sIx_none, HT.sIx_nat]
  simp only [List.drop_zero, Nat.sub_zero]
  by_cases h : k ≤ xs.length
  · rw [Nat.min_eq_left h]
  · rw [Nat.min_eq_right (by omega), List.take_of_length_le (by omega), List.take_of_length_le (by omega)]
end FW
namespace FW
open PySem PySem.Spec
section
variable {δ : List O} {fs : M (List D)} {tg : Tg} {t : M Bool} {fd : M D} {vs : List Nat}
theorem comp_map {γ : Type} (enc : γ → D) (u : γ → D) {xs : List γ} (h : ∀ x ∈ xs, ∃ δ1, tg (enc x) δ = some δ1 ∧ fd δ1 = .ok (u x) δ1 ∧ wipeO δ1 vs = δ) :
    compL tg (ret true) fd vs (xs.map enc) [] δ = .ok (xs.map u) δ := by
  rw [comp_pure enc (fun _ => true) u δ xs [] fun x hx => ?_]
  · rw [List.filter_eq_self.mpr (fun _ _ => rfl)]; rfl
  · obtain ⟨δ1, h1, h2, h3⟩ := h x hx
    exact ⟨δ1, h1, rfl, fun _ => h2, h3⟩
theorem comp_mapD (u : D → D) {xs : List D} (h : ∀ x ∈ xs, ∃ δ1, tg x δ = some δ1 ∧ fd δ1 = .ok (u x) δ1 ∧ wipeO δ1 vs = δ) :
    compL tg (ret true) fd vs xs [] δ = .ok (xs.map u) δ := by
  have := comp_map (fun d : D => d) u h
  rwa [List.map_id'] at this
theorem comp_fil {γ : Type} (enc : γ → D) (p : γ → Bool) (u : γ → D) {xs : List γ} (h : ∀ x ∈ xs, ∃ δ1, tg (enc x) δ = some δ1 ∧ t δ1 = .ok (p x) δ1 ∧ (p x = true → fd δ1 = .ok (u x) δ1) ∧ wipeO δ1 vs = δ) :
    compL tg t fd vs (xs.map enc) [] δ = .ok ((xs.filter p).map u) δ := by
  rw [comp_pure enc p u δ xs [] h]
  rfl
end
theorem bools_map {γ : Type} (f : γ → Bool) : ∀ xs : List γ, D.bools (xs.map fun x => .bl (f x)) = some (xs.map f)
  | [] => rfl
  | x :: xs => by simp only [List.map_cons, D.bools, bools_map f xs, Option.map_some]
theorem all_bl {γ : Type} {f : γ → Bool} {xs : List γ} : allD (.lst (xs.map fun x => .bl (f x))) = some (.bl (xs.all f)) := by
  show (D.bools (xs.map fun x => .bl (f x))).map _ = _
  rw [bools_map]
  simp [List.all_map, Function.comp_def]
theorem any_bl {γ : Type} {f : γ → Bool} {xs : List γ} : anyD (.lst (xs.map fun x => .bl (f x))) = some (.bl (xs.any f)) := by
  show (D.bools (xs.map fun x => .bl (f x))).map _ = _
  rw [bools_map]
  simp [List.any_map, Function.comp_def]
theorem ints_map_tl (x : Nat) {xs : List Nat} (h : D.ints (xs.map nD) = some (xs.map fun (n : Nat) => (n : Int))) : D.ints (nD x :: xs.map nD) = some ((x : Int) :: xs.map fun (n : Nat) => (n : Int)) := by
  show (D.ints (xs.map nD)).map _ = _
  rw [h]; rfl
theorem ints_map : ∀ xs : List Nat, D.ints (xs.map nD) = some (xs.map fun (n : Nat) => (n : Int))
  | [] => rfl
  | x :: xs => by exact ints_map_tl x (ints_map xs)
theorem enum_map {γ : Type} (enc : γ → D) (xs : List γ) : enumD (xs.map enc) = xs.zipIdx.map fun p => .tup [nD p.2, enc p.1] := by
  unfold enumD
  apply List.ext_getElem?
  intro i
  simp only [List.getElem?_mapIdx, List.getElem?_map, List.getElem?_zipIdx]
  cases xs[i]? <;> simp [nD]
theorem zipIdx_at {γ : Type} {xs : List γ} {i : Nat} {p : γ × Nat} (h : xs.zipIdx[i]? = some p) : p.2 = i ∧ xs[i]? = some p.1 := by
  rw [List.getElem?_zipIdx] at h
  cases e : xs[i]? with
  | none => rw [e] at h; cases h
  | some x =>
    rw [e] at h
    cases h
    simp
theorem range_nD (k : Nat) : rangeD 0 k = (List.range k).map nD := by
  unfold rangeD nD
  simp
theorem ix_tup {ds : List D} {k : Nat} : ixD (.tup ds) (nD k) = ds[k]? := by
  show L2.atI ds (k : Int) = _
  exact nat_at ds k
theorem ix_lst {ds : List D} {k : Nat} : ixD (.lst ds) (nD k) = ds[k]? := by
  show L2.atI ds (k : Int) = _
  exact nat_at ds k
theorem ix_tup0 {ds : List D} : ixD (.tup ds) (.int 0) = ds[0]? := nat_at ds 0
theorem ix_tup1 {ds : List D} : ixD (.tup ds) (.int 1) = ds[1]? := nat_at ds 1
theorem ix_tup2 {ds : List D} : ixD (.tup ds) (.int 2) = ds[2]? := nat_at ds 2
theorem ix_lst0 {ds : List D} : ixD (.lst ds) (.int 0) = ds[0]? := nat_at ds 0
theorem ix_lst1 {ds : List D} : ixD (.lst ds) (.int 1) = ds[1]? := nat_at ds 1
theorem ix_lst2 {ds : List D} : ixD (.lst ds) (.int 2) = ds[2]? := nat_at ds 2
theorem sort_nats (xs : List Nat) (h : xs.length ≤ 16777216) : sortD (xs.map nD) = some ((xs.mergeSort (fun a b => decide (a ≤ b))).map nD) := by
  have e : xs.map nD = (xs.map fun (n : Nat) => (n : Int)).map .int := by rw [List.map_map]; rfl
  rw [e, sort_ints _ (by rw [List.length_map]; exact h)]
  congr 1
  have : (xs.map fun (n : Nat) => (n : Int)).mergeSort (fun a b => decide (a ≤ b)) = (xs.mergeSort fun a b => decide (a ≤ b)).map fun (n : Nat) => (n : Int) := by
    rw [List.map_mergeSort]
    intro a _ b _
    simp
  rw [this, List.map_map]
  rfl
def leP (p q : Nat × Nat) : Bool := decide (p.1 < q.1) || (decide (p.1 = q.1) && decide (p.2 ≤ q.2))
theorem toPys_map {γ : Type} {enc : γ → D} : ∀ xs : List γ, D.toPys (xs.map enc) = xs.map fun x => (enc x).toPy
  | [] => by simp [D.toPys]
  | x :: xs => by simp only [List.map_cons, D.toPys, toPys_map xs]
theorem sort_nw (xs : List (Nat × Nat)) (h : xs.length ≤ 16777216) : sortD (xs.map nwD) = some ((xs.mergeSort leP).map nwD) := by
  unfold sortD
  rw [pys_toPy _ (pls_map (fun _ => pl_nwD) xs)]
  dsimp only
  rw [toPys_map, if_pos (by simp [canSort, PySem.W.alike, PySem.W.alikeAll, PyData.depth, PyData.depthAll, nwD, nD, D.toPy, D.toPys]), if_pos (by rw [List.length_map]; exact h)]
  congr 1
  rw [List.map_mergeSort]
  intro a _ b _
  obtain ⟨a1, a2⟩ := a
  obtain ⟨b1, b2⟩ := b
  simp only [leK, PySem.W.dataLe, PySem.W.sortLe, cond_false, encD, nwD, nD, D.py, D.pys, Option.map_some, Option.getD_some, PySem.W.keyToks, PySem.W.keyToksAll, List.cons_append, List.nil_append, leP]
  simp only [PyProof.Rows.lexLt, PyProof.Rows.itemOrd, PyProof.Rows.itemLt]
  rw [Bool.eq_iff_iff]
  simp
  omega
end FW
namespace FW
open PySem PySem.Spec
section
variable {i j : Int} {ds es : List D} {x y : Str} {b : Bool} {d : D}
theorem len_t : lenD (.tup ds) = some (nD ds.length) := rfl
theorem len_l : lenD (.lst ds) = some (nD ds.length) := rfl
theorem tuple_t : tupleD (.tup ds) = some (.tup ds) := rfl
theorem tuple_l : tupleD (.lst ds) = some (.tup ds) := rfl
theorem list_t : listDl (.tup ds) = some (.lst ds) := rfl
theorem list_l : listDl (.lst ds) = some (.lst ds) := rfl
theorem list_t' : listD (.tup ds) = some ds := rfl
theorem list_l' : listD (.lst ds) = some ds := rfl
theorem int_i : intD (.int i) = some (.int i) := rfl
theorem mul_i : mulD (.int i) (.int j) = if (-18446744073709551616 < i ∧ i < 18446744073709551616) ∨ (-18446744073709551616 < j ∧ j < 18446744073709551616) then some (.int (i * j)) else none := rfl
theorem lit (n : Nat) : D.int (no_index (OfNat.ofNat n)) = nD (OfNat.ofNat n) := rfl
variable {m n : Nat}
theorem int_n : intD (nD n) = some (nD n) := rfl
theorem abs_n : absD (nD n) = some (nD n) := by
  show some (D.int (if (n : Int) < 0 then -(n : Int) else n)) = _
  rw [if_neg (by omega)]; rfl
theorem neg_n : negD (nD n) = some (.int (-(n : Int))) := rfl
theorem add_n : addD (nD m) (nD n) = some (nD (m + n)) := rfl
theorem sub_n : subD (nD m) (nD n) = some (.int ((m : Int) - n)) := rfl
theorem mul_n : mulD (nD m) (nD n) = if m < 18446744073709551616 ∨ n < 18446744073709551616 then some (nD (m * n)) else none := by
  show mulD (.int (m : Int)) (.int (n : Int)) = _
  rw [mul_i]
  by_cases h : m < 18446744073709551616 ∨ n < 18446744073709551616
  · rw [if_pos h, if_pos (by omega)]; simp only [nD, Int.natCast_mul]
  · rw [if_neg h, if_neg (by omega)]
theorem mul_ln : mulD (.lst ds) (nD n) = if ds.length * n ≤ 16777216 ∧ n ≤ 1000000 then some (.lst (List.replicate n ds).flatten) else none := by
  show (if -1 < (n : Int) ∧ ds.length * (n : Int).toNat ≤ 16777216 ∧ (n : Int) ≤ 1000000 then _ else _) = _
  rw [Int.toNat_natCast]
  by_cases h : ds.length * n ≤ 16777216 ∧ n ≤ 1000000
  · rw [if_pos h, if_pos ⟨by omega, h.1, by omega⟩]
  · rw [if_neg h, if_neg (fun q => h ⟨q.2.1, by omega⟩)]
theorem mul_tn : mulD (.tup ds) (nD n) = if ds ≠ [] ∧ 2 ≤ n ∧ n ≤ 1000 ∧ ds.length ≤ 1000 then some (.tup (List.replicate n ds).flatten) else none := by
  show (if ds ≠ [] ∧ 2 ≤ (n : Int) ∧ (n : Int) ≤ 1000 ∧ ds.length ≤ 1000 then some (D.tup (List.replicate (n : Int).toNat ds).flatten) else none) = _
  rw [Int.toNat_natCast]
  by_cases h : ds ≠ [] ∧ 2 ≤ n ∧ n ≤ 1000 ∧ ds.length ≤ 1000
  · rw [if_pos h, if_pos ⟨h.1, by omega, by omega, h.2.2.2⟩]
  · rw [if_neg h, if_neg (fun q => h ⟨q.1, by omega, by omega, q.2.2.2⟩)]
theorem fdiv_n : fdivD (nD m) (nD n) = if 0 < n ∧ n < 1073741824 then some (nD (m / n)) else none := by
  show (if 0 < (n : Int) ∧ (n : Int) < 1073741824 then some (D.int ((m : Int) / n)) else none) = _
  by_cases h : 0 < n ∧ n < 1073741824
  · rw [if_pos h, if_pos (by omega)]; simp [nD]
  · rw [if_neg h, if_neg (by omega)]
theorem mod_n : modD (nD m) (nD n) = if 0 < n then some (nD (m % n)) else none := by
  show (if 0 < (n : Int) then some (D.int ((m : Int) % n)) else none) = _
  by_cases h : 0 < n
  · rw [if_pos h, if_pos (by omega)]; simp [nD]
  · rw [if_neg h, if_neg (by omega)]
theorem lt_n : ltD (nD m) (nD n) = some (.bl (decide (m < n))) := by show some (D.bl (decide ((m : Int) < n))) = _; congr 2; rw [decide_eq_decide]; omega
theorem le_n : leD (nD m) (nD n) = some (.bl (decide (m ≤ n))) := by show some (D.bl (decide ((m : Int) ≤ n))) = _; congr 2; rw [decide_eq_decide]; omega
theorem gt_n : gtD (nD m) (nD n) = some (.bl (decide (n < m))) := by show some (D.bl (decide ((n : Int) < m))) = _; congr 2; rw [decide_eq_decide]; omega
theorem ge_n : geD (nD m) (nD n) = some (.bl (decide (n ≤ m))) := by show some (D.bl (decide ((n : Int) ≤ m))) = _; congr 2; rw [decide_eq_decide]; omega
theorem neg_i : negD (.int i) = some (.int (-i)) := rfl
theorem add_i : addD (.int i) (.int j) = some (.int (i + j)) := rfl
theorem add_l : addD (.lst ds) (.lst es) = if ds.length + es.length ≤ 16777216 then some (.lst (ds ++ es)) else none := rfl
theorem add_t : addD (.tup ds) (.tup es) = if ds.length + es.length ≤ 16777216 then some (.tup (ds ++ es)) else none := rfl
theorem sub_i : subD (.int i) (.int j) = some (.int (i - j)) := rfl
theorem mul_l : mulD (.lst ds) (.int i) = if -1 < i ∧ ds.length * i.toNat ≤ 16777216 ∧ i ≤ 1000000 then some (.lst (List.replicate i.toNat ds).flatten) else none := rfl
theorem mul_t : mulD (.tup ds) (.int i) = if ds ≠ [] ∧ 2 ≤ i ∧ i ≤ 1000 ∧ ds.length ≤ 1000 then some (.tup (List.replicate i.toNat ds).flatten) else none := rfl
theorem fdiv_i : fdivD (.int i) (.int j) = if 0 < j ∧ j < 1073741824 then some (.int (i / j)) else none := rfl
theorem mod_i : modD (.int i) (.int j) = if 0 < j then some (.int (i % j)) else none := rfl
theorem lt_i : ltD (.int i) (.int j) = some (.bl (decide (i < j))) := rfl
theorem le_i : leD (.int i) (.int j) = some (.bl (decide (i ≤ j))) := rfl
theorem gt_i : gtD (.int i) (.int j) = some (.bl (decide (j < i))) := rfl
theorem ge_i : geD (.int i) (.int j) = some (.bl (decide (j ≤ i))) := rfl
theorem cmp_eq : cmpD .Eq = eqD := rfl
theorem cmp_ne : cmpD .NotEq = neD := rfl
theorem cmp_lt : cmpD .Lt = ltD := rfl
theorem cmp_le : cmpD .LtE = leD := rfl
theorem cmp_gt : cmpD .Gt = gtD := rfl
theorem cmp_ge : cmpD .GtE = geD := rfl
theorem cmp_in : cmpD .In = inD := rfl
theorem cmp_ni : cmpD .NotIn = notInD := rfl
theorem cmp_is : cmpD .Is = isNonD := rfl
theorem cmp_nt : cmpD .IsNot = notNonD := rfl
theorem eq_i : eqD (.int i) (.int j) = some (.bl (decide (i = j))) := by
  unfold eqD
  rw [eqB_pl (by simp [D.pl]) (by simp [D.pl]) (by simp [D.dp]) (by simp [D.dp])]
  simp only [Option.map_some, D.int.injEq]
theorem ne_i : neD (.int i) (.int j) = some (.bl (decide (i ≠ j))) := by
  unfold neD
  rw [eqB_pl (by simp [D.pl]) (by simp [D.pl]) (by simp [D.dp]) (by simp [D.dp])]
  simp only [Option.map_some, D.int.injEq, decide_not]
theorem eq_n : eqD (nD m) (nD n) = some (.bl (decide (m = n))) := by
  show eqD (.int (m : Int)) (.int (n : Int)) = _
  rw [eq_i]
  congr 2; rw [decide_eq_decide]; omega
theorem ne_n : neD (nD m) (nD n) = some (.bl (decide (m ≠ n))) := by
  show neD (.int (m : Int)) (.int (n : Int)) = _
  rw [ne_i]
  congr 2; rw [decide_eq_decide]; omega
theorem eq_pl {e : D} (h : d.pl = true) (h' : e.pl = true) (k : d.dp ≤ 64) (k' : e.dp ≤ 64) : eqD d e = some (.bl (decide (d = e))) := by
  unfold eqD
  rw [eqB_pl h h' k k']; rfl
theorem ne_pl {e : D} (h : d.pl = true) (h' : e.pl = true) (k : d.dp ≤ 64) (k' : e.dp ≤ 64) : neD d e = some (.bl (decide (d ≠ e))) := by
  unfold neD
  rw [eqB_pl h h' k k']
  simp
theorem in_l (h : d.pl = true) (h' : D.pls es = true) (k : d.dp ≤ 64) (k' : D.dps es ≤ 63) : inD d (.lst es) = some (.bl (decide (d ∈ es))) := by unfold inD; rw [inB_l h h' k k']; rfl
theorem in_t (h : d.pl = true) (h' : D.pls es = true) (k : d.dp ≤ 64) (k' : D.dps es ≤ 63) : inD d (.tup es) = some (.bl (decide (d ∈ es))) := by unfold inD; rw [inB_t h h' k k']; rfl
theorem ni_l (h : d.pl = true) (h' : D.pls es = true) (k : d.dp ≤ 64) (k' : D.dps es ≤ 63) : notInD d (.lst es) = some (.bl (!decide (d ∈ es))) := by unfold notInD; rw [inB_l h h' k k']; rfl
theorem ni_t (h : d.pl = true) (h' : D.pls es = true) (k : d.dp ≤ 64) (k' : D.dps es ≤ 63) : notInD d (.tup es) = some (.bl (!decide (d ∈ es))) := by unfold notInD; rw [inB_t h h' k k']; rfl
theorem inN_l {n : Nat} {xs : List Nat} : inD (nD n) (.lst (xs.map nD)) = some (.bl (decide (n ∈ xs))) := by
  rw [in_l pl_nD (pls_map (fun _ => pl_nD) xs) (by rw [dp_nD]; omega) (dps_map (k := 63) (fun _ => by rw [dp_nD]; omega) xs)]
  simp only [mem_enc (fun _ _ => nD_inj)]
theorem inN_t {n : Nat} {xs : List Nat} : inD (nD n) (.tup (xs.map nD)) = some (.bl (decide (n ∈ xs))) := by
  rw [in_t pl_nD (pls_map (fun _ => pl_nD) xs) (by rw [dp_nD]; omega) (dps_map (k := 63) (fun _ => by rw [dp_nD]; omega) xs)]
  simp only [mem_enc (fun _ _ => nD_inj)]
theorem niN_l {n : Nat} {xs : List Nat} : notInD (nD n) (.lst (xs.map nD)) = some (.bl (!decide (n ∈ xs))) := by
  rw [ni_l pl_nD (pls_map (fun _ => pl_nD) xs) (by rw [dp_nD]; omega) (dps_map (k := 63) (fun _ => by rw [dp_nD]; omega) xs)]
  simp only [mem_enc (fun _ _ => nD_inj)]
theorem niN_t {n : Nat} {xs : List Nat} : notInD (nD n) (.tup (xs.map nD)) = some (.bl (!decide (n ∈ xs))) := by
  rw [ni_t pl_nD (pls_map (fun _ => pl_nD) xs) (by rw [dp_nD]; omega) (dps_map (k := 63) (fun _ => by rw [dp_nD]; omega) xs)]
  simp only [mem_enc (fun _ _ => nD_inj)]
theorem is_nn : isNonD .non .non = some (.bl true) := rfl
theorem is_ni : isNonD (.int i) .non = some (.bl false) := rfl
theorem is_nn' : isNonD (nD n) .non = some (.bl false) := rfl
theorem nt_nn' : notNonD (nD n) .non = some (.bl true) := rfl
theorem is_nt : isNonD (.tup ds) .non = some (.bl false) := rfl
theorem is_nl : isNonD (.lst ds) .non = some (.bl false) := rfl
theorem nt_nn : notNonD .non .non = some (.bl false) := rfl
theorem nt_ni : notNonD (.int i) .non = some (.bl true) := rfl
theorem nt_nt : notNonD (.tup ds) .non = some (.bl true) := rfl
theorem nt_nl : notNonD (.lst ds) .non = some (.bl true) := rfl
theorem slc_l {l h : Option Int} : slcD l h (.lst ds) = some (.lst (cutL ds l h)) := rfl
theorem slc_t {l h : Option Int} : slcD l h (.tup ds) = some (.tup (cutL ds l h)) := rfl
theorem len_N {xs : List Nat} : lenD (tN xs) = some (nD xs.length) := by simp [tN, lenD, nD]
end
end FW
namespace FW
open PySem PySem.Spec
section
variable {tg : Tg} {body : G} {L : SRes}
theorem loop_E {γ σ : Type} {enc : γ → D} {xs : List γ} {s : σ} {δ : List O} (hL : loopS tg body (xs.map enc) δ = L) (S : σ → List O) (hδ : δ = S s) (I : Nat → σ → Prop) (h0 : I 0 s) (st : ∀ i x s, xs[i]? = some x → I i s → ∃ δ1 s', tg (enc x) (S s) = some δ1 ∧ (body δ1 = .nx (S s') ∨ body δ1 = .ct (S s')) ∧ I (i + 1) s') :
    ∃ s', L = .nx (S s') ∧ I xs.length s' := by
  subst hδ
  obtain ⟨s', h1, h2⟩ := loop_inv S enc I xs 0 s h0 (by simpa using st)
  exact ⟨s', hL ▸ h1, by simpa using h2⟩
theorem loop_X {γ σ : Type} {enc : γ → D} {xs : List γ} {s : σ} {δ : List O} (hL : loopS tg body (xs.map enc) δ = L) (S : σ → List O) (hδ : δ = S s) (I : Nat → σ → Prop) (h0 : I 0 s) (j : Nat) (hj : j < xs.length) (R : SRes → Prop) (hR : ∀ r, R r → (∃ o δ, r = .rt o δ) ∨ ∃ x δ, r = .er x δ) (st : ∀ i x s, i < j → xs[i]? = some x → I i s → ∃ δ1 s', tg (enc x) (S s) = some δ1 ∧ (body δ1 = .nx (S s') ∨ body δ1 = .ct (S s')) ∧ I (i + 1) s')
    (fin : ∀ x s, xs[j]? = some x → I j s → ∃ δ1, tg (enc x) (S s) = some δ1 ∧ R (body δ1)) : R L := by
  subst hδ
  subst hL
  exact loop_out S enc I R hR xs 0 s j hj h0 (by simpa using st) (by simpa using fin)
end
theorem seq_N {xs : List Nat} : seqD (tN xs) = some (xs.map nD) := rfl
theorem tuple_N {xs : List Nat} : tupleD (tN xs) = some (tN xs) := rfl
theorem ix_N {xs : List Nat} {k : Nat} : ixD (tN xs) (nD k) = xs[k]?.map nD := by
  show ixD (.tup (xs.map nD)) (nD k) = _
  rw [ix_tup, List.getElem?_map]
theorem ix_N0 {xs : List Nat} : ixD (tN xs) (.int 0) = xs[0]?.map nD := ix_N (k := 0)
end FW
namespace FW
open PySem PySem.Spec
def plainK : Option O → Bool
  | some o => plainO o
  | none => true
theorem simp_nil {δ : List O} : simpO δ [] = true := rfl
theorem simp_cons {δ : List O} {v : Nat} {vs : List Nat} : simpO δ (v :: vs) = (plainK (δ[v]?) && simpO δ vs) := by
  unfold simpO
  rw [List.all_cons]
  cases δ[v]? <;> rfl
theorem plainK_some {o : O} : plainK (some o) = plainO o := rfl
theorem plain_no : plainO .no = true := rfl
theorem plain_sh {d : D} : plainO (.sh d) = true := rfl
/-- a name that may be unset -/
def oO : Option D → O
  | none => .no
  | some d => .sh d
theorem plain_oO {x : Option D} : plainO (oO x) = true := by cases x <;> rfl
theorem mg1_oO {x : Option D} : mg1 false (oO x) (oO x) = some (oO x) := by cases x <;> simp [oO, mg1, noLO]
theorem oO_some {d : D} : oO (some d) = .sh d := rfl
theorem oO_none : oO none = .no := rfl
end FW
namespace FW
open PySem PySem.Spec
/-- a datum of which a type can be asked -/
def okT : D → Bool
  | .gl _ => false
  | .clo _ => false
  | _ => true
theorem okT_non : okT .non = true := Eq.trans rfl rfl
theorem okT_i {i : Int} : okT (.int i) = true := Eq.trans rfl rfl
theorem okT_s {x : Str} : okT (.str x) = true := Eq.trans rfl rfl
theorem okT_b {b : Bool} : okT (.bl b) = true := Eq.trans rfl rfl
theorem okT_t {ds : List D} : okT (.tup ds) = true := Eq.trans rfl rfl
theorem okT_l {ds : List D} : okT (.lst ds) = true := Eq.trans rfl rfl
theorem okT_nD {n : Nat} : okT (nD n) = true := Eq.trans rfl rfl
theorem okT_tN {xs : List Nat} : okT (tN xs) = true := Eq.trans rfl rfl
def isIntD : D → Bool
  | .int _ => true
  | _ => false
def isNumD : D → Bool
  | .int i => decide (0 ≤ i)
  | _ => false
def isBel (d : D) (k : Nat) : Bool := match d with
  | .int i => decide (0 ≤ i) && decide (i < (k : Int))
  | _ => false
def isSeq : D → Bool
  | .lst _ => true
  | .tup _ => true
  | _ => false
def isPrD : D → Bool
  | .tup ds => decide (ds.length = 2)
  | .lst ds => decide (ds.length = 2)
  | _ => false
theorem isq_N {xs : List Nat} : isSeq (tN xs) = true := Eq.trans rfl rfl
theorem isq_t {xs : List D} : isSeq (.tup xs) = true := Eq.trans rfl rfl
theorem isq_l {xs : List D} : isSeq (.lst xs) = true := Eq.trans rfl rfl
theorem isq_nw {p : Nat × Nat} : isSeq (nwD p) = true := Eq.trans rfl rfl
theorem isq_dd {p : Nat × Nat × Nat} : isSeq (ddD p) = true := Eq.trans rfl rfl
theorem bel_nD {n k : Nat} : isBel (nD n) k = decide (n < k) := by simp [isBel, nD]
theorem all_bel {xs : List Nat} {k : Nat} (h : ∀ x ∈ xs, x < k) : (xs.map nD).all (fun d => isBel d k) = true := by
  simp only [List.all_map, List.all_eq_true, Function.comp_def, isBel, nD]
  intro x hx
  have := h x hx
  simp; omega
theorem okT_map : ∀ {xs : List Nat}, ∀ d ∈ xs.map nD, okT d = true := by
  intro xs d h
  obtain ⟨x, _, rfl⟩ := List.mem_map.mp h
  rfl
structure MachOk (M : List (List Nat) × List Nat) : Prop where
  k1 : 1 ≤ M.1.length
  k2 : M.1.length ≤ 4
  s1 : 1 ≤ M.2.length
  s2 : M.2.length ≤ 8
  row : ∀ r ∈ M.1, r.length = M.2.length ∧ ∀ x ∈ r, x < M.2.length
  rd : ∀ x ∈ M.2, x < 100
end FW

namespace FW
open PySem PySem.Spec
def sxK (d : D) (δ : List O) : Res (Option Int) := match d with
  | .int i => .ok (some i) δ
  | _ => .bad
theorem sx_ap {fd : M D} {δ : List O} : sxM (some fd) δ = (fd δ).bind sxK := by
  show bnd fd _ δ = _
  unfold bnd Res.bind sxK
  cases fd δ with
  | ok d δ => cases d <;> rfl
  | er => rfl
  | bad => rfl
theorem sxK_n {n : Nat} {δ : List O} : sxK (nD n) δ = .ok (some (n : Int)) δ := rfl
theorem r1K_ex : ∃ f : D → List O → Res (List D), f = fun d δ => match d with
  | .int j => if -4611686018427387904 ≤ j ∧ j < 4611686018427387904 then .ok (rangeD 0 j.toNat) δ else .bad
  | _ => .bad := ⟨_, rfl⟩
/-- (by choice: the kernel is not to look into it) -/
noncomputable def r1K : D → List O → Res (List D) := Classical.choose r1K_ex
theorem r1K_eq (d : D) (δ : List O) : r1K d δ = match d with
  | .int j => if -4611686018427387904 ≤ j ∧ j < 4611686018427387904 then .ok (rangeD 0 j.toNat) δ else .bad
  | _ => .bad := congrFun (congrFun (Classical.choose_spec r1K_ex) d) δ
theorem r1_ap {fd : M D} {δ : List O} : itR1 fd δ = (fd δ).bind r1K := by
  rw [itR1_ap]
  congr 1
  funext d δ
  rw [r1K_eq]
  all_goals (cases d <;> rfl)
theorem r1K_n {n : Nat} {δ : List O} : r1K (nD n) δ = if n < 4611686018427387904 then .ok ((List.range n).map nD) δ else .bad := by
  show r1K (.int (n : Int)) δ = _
  rw [r1K_eq]
  dsimp only
  by_cases h : n < 4611686018427387904
  · rw [if_pos h, if_pos (by omega), range_nD, Int.toNat_natCast]
  · rw [if_neg h, if_neg (by omega)]
/-- a sequence: a tuple, or a list -/
def sV (b : Bool) (ds : List D) : D := if b then .tup ds else .lst ds
variable {b : Bool} {ds es : List D}
theorem okT_sV : okT (sV b ds) = true := by cases b <;> rfl
theorem isq_sV : isSeq (sV b ds) = true := by cases b <;> rfl
theorem seq_sV : seqD (sV b ds) = some ds := by cases b <;> rfl
theorem len_sV : lenD (sV b ds) = some (nD ds.length) := by cases b <;> rfl
theorem slc_sV {l h : Option Int} : slcD l h (sV b ds) = some (sV b (cutL ds l h)) := by cases b <;> rfl
theorem tuple_sV : tupleD (sV b ds) = some (.tup ds) := by cases b <;> rfl
theorem list_sV : listDl (sV b ds) = some (.lst ds) := by cases b <;> rfl
theorem in_sV {d : D} (h : d.pl = true) (h' : D.pls es = true) (k : d.dp ≤ 64) (k' : D.dps es ≤ 63) : inD d (sV b es) = some (.bl (decide (d ∈ es))) := by
  cases b
  · exact in_l h h' k k'
  · exact in_t h h' k k'
theorem inN_sV {n : Nat} {xs : List Nat} : inD (nD n) (sV b (xs.map nD)) = some (.bl (decide (n ∈ xs))) := by
  cases b
  · exact inN_l
  · exact inN_t
theorem sorted_sV : sortedD (sV b ds) = (sortD ds).map .lst := by cases b <;> rfl
theorem sorted_l : sortedD (.lst ds) = (sortD ds).map .lst := rfl
theorem sorted_t : sortedD (.tup ds) = (sortD ds).map .lst := rfl
theorem enum_D (xs : List D) : enumD xs = xs.zipIdx.map fun p => .tup [nD p.2, p.1] := by
  have := enum_map (fun d : D => d) xs
  rwa [List.map_id'] at this
theorem ix_tl {k : Nat} : ixD (.tup ds) (no_index (nD (OfNat.ofNat k))) = ds[(OfNat.ofNat k : Nat)]? := ix_tup
theorem last_t (h : ds ≠ []) : ixD (.tup ds) (.int (-1)) = ds.getLast? := last_at ds h
theorem last_l (h : ds ≠ []) : ixD (.lst ds) (.int (-1)) = ds.getLast? := last_at ds h
end FW

namespace FW
def sortN (xs : List Nat) : List Nat := xs.mergeSort fun a b => decide (a ≤ b)
theorem map_take' {xs : List Nat} {i : Nat} : (xs.map nD).take i = (xs.take i).map nD := by rw [List.map_take]
theorem nodup_take {γ : Type} {xs : List γ} (h : xs.Nodup) {i : Nat} {x : γ} (e : xs[i]? = some x) : x ∉ xs.take i := by
  intro hm
  obtain ⟨j, hj, ej⟩ := List.getElem_of_mem hm
  rw [List.length_take] at hj
  rw [List.getElem_take] at ej
  have hi := (List.getElem?_eq_some_iff.mp e)
  obtain ⟨h1, h2⟩ := hi
  have := (List.nodup_iff_pairwise_ne.mp h)
  have := List.pairwise_iff_getElem.mp this j i (by omega) h1 (by omega)
  exact this (ej.trans h2.symm)
theorem nodup_len {xs : List Nat} {n : Nat} (h : xs.Nodup) (k : ∀ x ∈ xs, x < n) : xs.length ≤ n := by
  have := List.Nodup.length_le_of_subset (l₁ := xs) (l₂ := List.range n) h fun x hx => List.mem_range.mpr (k x hx)
  simpa using this
end FW

namespace FW
open PySem PySem.Spec
theorem mskG_e : ∀ {n k : Nat} {δ : List O}, mskG [] k n δ = List.replicate n .no
  | 0, k, δ => by rw [mskG_z]; rfl
  | n + 1, k, [] => by show O.no :: mskG [] (k + 1) n [] = _; rw [mskG_e]; rfl
  | n + 1, k, o :: δ => by show O.no :: mskG [] (k + 1) n δ = _; rw [mskG_e]; rfl
theorem neg_1 : negD (nD 1) = some (.int (-1)) := rfl
/-- the state behind a state and a kind -/
def stp (maps : List (List Nat)) (s k : Nat) : Nat := (maps.getD k []).getD s 0
def led (maps : List (List Nat)) (s : Nat) (w : List Nat) : Nat := w.foldl (stp maps) s
theorem led_app {maps : List (List Nat)} {s : Nat} {v w : List Nat} : led maps s (v ++ w) = led maps (led maps s v) w := by simp only [led, List.foldl_append]
theorem stp_lt {M : List (List Nat) × List Nat} (h : MachOk M) {s k : Nat} (hs : s < M.2.length) (hk : k < M.1.length) : stp M.1 s k < M.2.length := by
  obtain ⟨h1, h2⟩ := h.row _ (List.getElem_mem hk)
  have e1 : M.1.getD k [] = M.1[k] := by rw [List.getD_eq_getElem?_getD, List.getElem?_eq_getElem hk, Option.getD_some]
  unfold stp
  rw [e1, List.getD_eq_getElem?_getD, List.getElem?_eq_getElem (by omega), Option.getD_some]
  exact h2 _ (List.getElem_mem _)
theorem led_lt {M : List (List Nat) × List Nat} (h : MachOk M) : ∀ {w : List Nat} {s : Nat}, s < M.2.length → (∀ k ∈ w, k < M.1.length) → led M.1 s w < M.2.length
  | [], s, hs, _ => hs
  | k :: w, s, hs, hw => by
    show led M.1 (stp M.1 s k) w < _
    exact led_lt h (stp_lt h hs (hw k (by simp))) fun x hx => hw x (by simp [hx])
/-- maps[kind][state] -/
theorem ix_maps {M : List (List Nat) × List Nat} (h : MachOk M) {s k : Nat} (hs : s < M.2.length) (hk : k < M.1.length) : ∃ r, ixD (.tup (M.1.map tN)) (nD k) = some (tN r) ∧ ixD (tN r) (nD s) = some (nD (stp M.1 s k)) := by
  obtain ⟨h1, h2⟩ := h.row _ (List.getElem_mem hk)
  refine ⟨M.1[k], ?_, ?_⟩
  · rw [ix_tup, List.getElem?_map, List.getElem?_eq_getElem hk]; rfl
  · rw [ix_N, List.getElem?_eq_getElem (by omega), Option.map_some]
    have e1 : M.1.getD k [] = M.1[k] := by rw [List.getD_eq_getElem?_getD, List.getElem?_eq_getElem hk, Option.getD_some]
    unfold stp
    rw [e1, List.getD_eq_getElem?_getD, List.getElem?_eq_getElem (by omega), Option.getD_some]
theorem range_succ_map {γ : Type} (f : Nat → γ) (n : Nat) : (List.range (n + 1)).map f = (List.range n).map f ++ [f n] := by rw [List.range_succ, List.map_append]; rfl
theorem take_succ_at {γ : Type} {xs : List γ} {i : Nat} {x : γ} (h : xs[i]? = some x) : xs.take (i + 1) = xs.take i ++ [x] := by
  rw [List.take_succ, h]; rfl
theorem in_dd {a b c : Nat} {xs : List (Nat × Nat × Nat)} : inD (.tup [nD a, nD b, nD c]) (.lst (xs.map ddD)) = some (.bl (decide ((a, b, c) ∈ xs))) := by
  show inD (ddD (a, b, c)) _ = _
  rw [in_l pl_ddD (pls_map (fun _ => pl_ddD) xs) (Nat.le_trans dp_ddD (by omega)) (Nat.le_trans (dps_map (k := 1) (fun _ => dp_ddD) xs) (by omega))]
  simp only [mem_enc (fun _ _ => ddD_inj)]
theorem ni_dd {a b c : Nat} {xs : List (Nat × Nat × Nat)} : notInD (.tup [nD a, nD b, nD c]) (.lst (xs.map ddD)) = some (.bl (!decide ((a, b, c) ∈ xs))) := by
  show notInD (ddD (a, b, c)) _ = _
  rw [ni_l pl_ddD (pls_map (fun _ => pl_ddD) xs) (Nat.le_trans dp_ddD (by omega)) (Nat.le_trans (dps_map (k := 1) (fun _ => dp_ddD) xs) (by omega))]
  simp only [mem_enc (fun _ _ => ddD_inj)]
theorem noL_nD {n : Nat} : noL (nD n) = true := noL_int
theorem noLs_nD {xs : List Nat} : noLs (xs.map nD) = true := noLs_map (fun _ => noL_nD) xs
theorem noL_nw {p : Nat × Nat} : noL (nwD p) = true := by simp only [nwD, noL_tup, noLs_cons, noLs_nil, noL_nD, Bool.and_self]
theorem noL_dd {p : Nat × Nat × Nat} : noL (ddD p) = true := by simp only [ddD, noL_tup, noLs_cons, noLs_nil, noL_nD, Bool.and_self]
theorem noL_N {xs : List Nat} : noL (tN xs) = true := by simp only [tN, noL_tup, noLs_nD]
theorem noLs_nw {xs : List (Nat × Nat)} : noLs (xs.map nwD) = true := noLs_map (fun _ => noL_nw) xs
theorem noLs_dd {xs : List (Nat × Nat × Nat)} : noLs (xs.map ddD) = true := noLs_map (fun _ => noL_dd) xs
theorem noLs_N {xs : List (List Nat)} : noLs (xs.map tN) = true := noLs_map (fun _ => noL_N) xs
theorem ix_dd0 {p : Nat × Nat × Nat} : ixD (ddD p) (nD 0) = some (nD p.1) := rfl
theorem ix_dd1 {p : Nat × Nat × Nat} : ixD (ddD p) (nD 1) = some (nD p.2.1) := rfl
theorem ix_dd2 {p : Nat × Nat × Nat} : ixD (ddD p) (nD 2) = some (nD p.2.2) := rfl
theorem ix_nw0 {p : Nat × Nat} : ixD (nwD p) (nD 0) = some (nD p.1) := rfl
theorem ix_nw1 {p : Nat × Nat} : ixD (nwD p) (nD 1) = some (nD p.2) := rfl
theorem mem_sortN {x : Nat} {xs : List Nat} : x ∈ sortN xs ↔ x ∈ xs := by unfold sortN; exact List.mem_mergeSort
end FW

namespace FW
open PySem PySem.Spec
/-- a deed, as a tuple or a list -/
def handD (p : Bool × (Nat × Nat × Nat)) : D := sV p.1 [nD p.2.1, nD p.2.2.1, nD p.2.2.2]
theorem okT_hand {p : Bool × (Nat × Nat × Nat)} : okT (handD p) = true := okT_sV
theorem seq_hand {p : Bool × (Nat × Nat × Nat)} : seqD (handD p) = some [nD p.2.1, nD p.2.2.1, nD p.2.2.2] := seq_sV
theorem tup_hand {p : Bool × (Nat × Nat × Nat)} : tupleD (handD p) = some (ddD p.2) := tuple_sV
theorem slc_t2 {p : Nat × Nat × Nat} : slcD none (some ((2 : Nat) : Int)) (ddD p) = some (nwD (p.1, p.2.1)) := by
  show slcD none _ (.tup _) = _
  rw [slc_t, cut_pre]
  rfl
theorem ni_l0 {n : Nat} {xs : List Nat} : notInD (nD n) (.lst (xs.map nD)) = some (.bl (!decide (n ∈ xs))) := niN_l
end FW

namespace FW
open PySem PySem.Spec
theorem r1K_s {n : Nat} {δ : List O} (h : n < 1000000) : r1K (nD n) δ = .ok ((List.range n).map nD) δ := by
  rw [r1K_n, if_pos (by omega)]
theorem states_last {M : List (List Nat) × List Nat} {w : List Nat} {l : List D} (h : l = ((List.range (w.length + 1)).map fun j => led M.1 0 (w.take j)).map nD) : ixD (.lst l) (.int (-1)) = some (nD (led M.1 0 w)) := by
  subst h
  rw [range_succ_map, List.map_append, last_l (by simp)]
  simp
end FW

set_option Elab.async false
set_option linter.all false
set_option maxRecDepth 100000
set_option maxHeartbeats 1000000
/-! PlD: the box of draws. -/
namespace FW
open PySem PySem.Spec
structure Box where
  cells : List Nat
  seed : Nat
  short : cells.length ≤ 60
instance : Inhabited Box := ⟨⟨[], 0, by decide⟩⟩
def bxO (B : Box) : O := .ol [oL (B.cells.map nD), .sh (nD B.seed)]
def bxD (B : Box) : D := .lst [.lst (B.cells.map nD), nD B.seed]
section
variable {B : Box} {δ : List O} {i n : Nat} {α : Type}
theorem frT_bx : frT (bxO B) = some (bxD B) := by
  show frT (.ol [oL (B.cells.map nD), .sh (nD B.seed)]) = _
  rw [frT]
  simp only [frTs, frT_oL, frT_sh]
  rfl
theorem frzK_bx {f : M α} {chk : α → Bool} : frzK chk i f δ (some (bxO B)) = (f (δ.set i (.sh (bxD B)))).frz chk i δ := frzK_ol frT_bx
theorem heldK_bx : heldK δ (some (bxO B)) = .ok () δ := rfl
theorem noLO_bx : noLO (bxO B) = true := by
  show noLO (.ol [oL (B.cells.map nD), .sh (nD B.seed)]) = true
  simp only [noLO, noLOs, noLO_oL, noL_nD, noLs_map (fun _ => noL_nD), Bool.and_self]
theorem mg1_bx {B' : Box} : mg1 false (bxO B) (bxO B') = some (bxO B') := by
  show (if noLO (bxO B') = true then some (bxO B') else none) = _
  rw [if_pos noLO_bx]
theorem heldL2_bx : heldL2K 0 δ (some (bxO B)) = .ok () δ := rfl
theorem ix_bx0 : ixD (bxD B) (nD 0) = some (.lst (B.cells.map nD)) := rfl
theorem ix_bx1 : ixD (bxD B) (nD 1) = some (nD B.seed) := rfl
theorem pop_bx {c : Nat} {cs : List Nat} {s : Nat} {h : (c :: cs).length ≤ 60} : lop2K popL 0 0 [nD 0] δ (some (bxO ⟨c :: cs, s, h⟩)) = .ok (nD c) (δ.set 0 (bxO ⟨cs, s, by simp at h; omega⟩)) := by
  have e : popL (((c :: cs).map nD).map .sh) [nD 0] = some (nD c, ((((c :: cs).map nD).eraseIdx 0)).map .sh) := pop_sh (k := 0) rfl (by omega)
  show (match popL (((c :: cs).map nD).map .sh) [nD 0] with
    | some (r, zs') => Res.ok r (δ.set 0 (.ol ([oL ((c :: cs).map nD), .sh (nD s)].set 0 (.ol zs'))))
    | none => .bad) = _
  rw [e]
  rfl
theorem ins_bx {r : Nat} {cs : List Nat} {s : Nat} {h : cs.length ≤ 60} (h' : (r :: cs).length ≤ 60) : lop2K insL 0 0 [nD 0, nD r] δ (some (bxO ⟨cs, s, h⟩)) = .ok .non (δ.set 0 (bxO ⟨r :: cs, s, h'⟩)) := by
  have e := ins_sh (xs := cs.map nD) (k := 0) (d := nD r) (by simp; omega) (by omega)
  show (match insL ((cs.map nD).map .sh) [nD 0, nD r] with
    | some (r, zs') => Res.ok r (δ.set 0 (.ol ([oL (cs.map nD), .sh (nD s)].set 0 (.ol zs'))))
    | none => .bad) = _
  have e' : insL ((cs.map nD).map .sh) [nD 0, nD r] = some (.non, (nD r :: cs.map nD).map .sh) := e
  rw [e']
  rfl
def putK (i n : Nat) (d : D) (δ : List O) : Option O → SRes
  | some (.ol ys) => match ys[n]? with
    | some (.sh _) => .nx (δ.set i (.ol (ys.set n (.sh d))))
    | _ => .bad
  | _ => .bad
theorem sPut_ap {f : M D} : sPut i n f δ = (f δ).bindS fun d δ => putK i n d δ (δ[i]?) := by
  unfold sPut bS Res.bindS
  cases f δ with
  | ok d δ =>
    dsimp only
    unfold putK
    cases δ[i]? with
    | none => rfl
    | some o => cases o <;> rfl
  | er => rfl
  | bad => rfl
theorem putK_bx {s : Nat} : putK 0 1 (nD s) δ (some (bxO B)) = .nx (δ.set 0 (bxO ⟨B.cells, s, B.short⟩)) := rfl
end
theorem ne_lN {xs : List Nat} : neD (.lst (xs.map nD)) (.lst []) = some (.bl (!xs.isEmpty)) := by
  rw [ne_pl (by simp only [D.pl]; exact pls_map (fun _ => pl_nD) xs) (by simp [D.pl, D.pls]) (by simp only [D.dp]; exact Nat.succ_le_succ (dps_map (k := 63) (fun _ => by rw [dp_nD]; omega) xs)) (by simp [D.dp, D.dps])]
  cases xs <;> simp
theorem eq_lN {xs : List Nat} : eqD (.lst (xs.map nD)) (.lst []) = some (.bl xs.isEmpty) := by
  rw [eq_pl (by simp only [D.pl]; exact pls_map (fun _ => pl_nD) xs) (by simp [D.pl, D.pls]) (by simp only [D.dp]; exact Nat.succ_le_succ (dps_map (k := 63) (fun _ => by rw [dp_nD]; omega) xs)) (by simp [D.dp, D.dps])]
  cases xs <;> simp
theorem ne_l0 : neD (.lst []) (.lst []) = some (.bl false) := ne_lN (xs := [])
theorem ne_lc {c : Nat} {cs : List Nat} : neD (.lst (nD c :: cs.map nD)) (.lst []) = some (.bl true) := ne_lN (xs := c :: cs)
theorem eq_l0 : eqD (.lst []) (.lst []) = some (.bl true) := eq_lN (xs := [])
theorem eq_lc {c : Nat} {cs : List Nat} : eqD (.lst (nD c :: cs.map nD)) (.lst []) = some (.bl false) := eq_lN (xs := c :: cs)
theorem sub_le {m n : Nat} (h : n ≤ m) : subD (nD m) (nD n) = some (nD (m - n)) := by
  show some (D.int ((m : Int) - n)) = some (D.int ((m - n : Nat) : Int))
  rw [Int.ofNat_sub h]
theorem pow_n {m n : Nat} (h : n ≤ 100) (h' : m < 18446744073709551616) : powD (nD m) (nD n) = some (nD (m ^ n)) := by
  show powD (.int (m : Int)) (.int (n : Int)) = _
  unfold powD
  dsimp only
  rw [if_pos ⟨by omega, by omega, by simpa using h'⟩]
  simp [nD]
theorem mul_s {m n : Nat} (h : n < 1000000) : mulD (nD m) (nD n) = some (nD (m * n)) := by rw [mul_n, if_pos (.inr (by omega))]
/-- the script in its slot -/
def slcFK (fh : M (Option Int)) (δ : List O) : Option O → Res D
  | some (.fz ds) => (fh δ).bind fun h δ' => .ok (.lst (cutL ds none h)) δ'
  | _ => .bad
theorem slcF_ok {ds : List D} {i : Nat} {fh : M (Option Int)} {δ δ' : List O} {h : Option Int} (e : δ[i]? = some (.fz ds)) (e' : fh δ = .ok h δ') : slcF i fh δ = .ok (.lst (cutL ds none h)) δ' := by
  unfold slcF
  rw [e]
  dsimp only
  rw [e']
def rgK (d : D) (δ : List O) : Res (List D) := match d with
  | .int j => opt (rgD 0 j) δ
  | _ => .bad
theorem rg1_ap {fd : M D} {δ : List O} : rg1M fd δ = (fd δ).bind rgK := by
  show bnd fd _ δ = _
  unfold bnd Res.bind rgK
  cases fd δ with
  | ok d δ => cases d <;> rfl
  | er => rfl
  | bad => rfl
theorem rgK_s {n : Nat} {δ : List O} (h : n < 1000000) : rgK (nD n) δ = .ok ((List.range n).map nD) δ := by
  show opt (rgD 0 (n : Int)) δ = _
  unfold rgD
  rw [if_pos (by omega)]
  show Res.ok (rangeD 0 ((n : Int) - 0).toNat) δ = _
  rw [Int.sub_zero, Int.toNat_natCast, range_nD]
theorem olL_ap {fd : M D} {δ : List O} : olL fd δ = (fd δ).bind fun d δ => match listD d with
  | some ds => .ok (oL ds) δ
  | none => .bad := by
  unfold olL bnd Res.bind
  cases fd δ with
  | ok d δ => dsimp only; cases listD d <;> rfl
  | er => rfl
  | bad => rfl
theorem listD_sV {b : Bool} {ds : List D} : listD (sV b ds) = some ds := by cases b <;> rfl
theorem olMO_ap {f : M (List O)} {δ : List O} : olMO f δ = (f δ).bind fun os δ => if os.length ≤ 16777216 then .ok (.ol os) δ else .bad := by
  unfold olMO bnd Res.bind
  cases f δ with
  | ok d δ => exact ite_ap
  | er => rfl
  | bad => rfl
theorem abs_i {i : Int} : absD (.int i) = some (nD i.natAbs) := by
  show some (D.int (if i < 0 then -i else i)) = some (D.int (i.natAbs : Int))
  split <;> congr 2 <;> omega
theorem lopK_popn {xs : List D} {k : Nat} {d : D} {i : Nat} {δ : List O} (h : xs[k]? = some d) (hk : k < 1000000) : lopK popL i [nD k] δ (some (oL xs)) = .ok d (δ.set i (oL (xs.eraseIdx k))) := lopK_pop h (by omega)
theorem max_nats {x : Nat} {xs : List Nat} : ∃ m, maxD (.lst ((x :: xs).map nD)) = some (nD m) ∧ m ∈ x :: xs ∧ ∀ y ∈ x :: xs, y ≤ m := by
  have key : ∀ (xs : List Nat) (x : Nat), ∃ m : Nat, (xs.map fun (n : Nat) => (n : Int)).foldl max (x : Int) = (m : Int) ∧ m ∈ x :: xs ∧ ∀ y ∈ x :: xs, y ≤ m := by
    intro xs
    induction xs with
    | nil => exact fun x => ⟨x, rfl, by simp, by simp⟩
    | cons y ys ih =>
      intro x
      obtain ⟨m, h1, h2, h3⟩ := ih (max x y)
      refine ⟨m, ?_, ?_, ?_⟩
      · rw [List.map_cons, List.foldl_cons, ← h1]
        congr 1
        omega
      · rcases List.mem_cons.mp h2 with h | h
        · rcases Nat.le_total x y with q | q
          · rw [h, Nat.max_eq_right q]; simp
          · rw [h, Nat.max_eq_left q]; simp
        · simp [h]
      · intro z hz
        rcases List.mem_cons.mp hz with rfl | hz
        · exact Nat.le_trans (Nat.le_max_left _ _) (h3 (max _ _) List.mem_cons_self)
        · rcases List.mem_cons.mp hz with rfl | hz
          · exact Nat.le_trans (Nat.le_max_right _ _) (h3 (max _ _) List.mem_cons_self)
          · exact h3 z (by simp [hz])
  obtain ⟨m, h1, h2, h3⟩ := key xs x
  refine ⟨m, ?_, h2, h3⟩
  show (D.ints ((x :: xs).map nD)).bind _ = _
  rw [ints_map]
  show (maxL (((x :: xs).map fun (n : Nat) => (n : Int)))).map D.int = _
  rw [List.map_cons]
  show some (D.int _) = _
  rw [h1]
  rfl
theorem comp_E {γ σ : Type} {tg : Tg} {t : M Bool} {fd : M D} {vs : List Nat} {enc : γ → D} {xs : List γ} {s : σ} {δ : List O} {L : Res (List D)} (hL : compL tg t fd vs (xs.map enc) [] δ = L) (S : σ → List O) (hδ : δ = S s) (R : γ → D → Prop) (st : ∀ x ∈ xs, ∀ s, ∃ δ1 δ3 y s', tg (enc x) (S s) = some δ1 ∧ t δ1 = .ok true δ1 ∧ fd δ1 = .ok y δ3 ∧ wipeO δ3 vs = S s' ∧ R x y) :
    ∃ ys s', L = .ok ys (S s') ∧ All2 R xs ys := by
  subst hδ
  subst hL
  obtain ⟨ys, s', h1, h2⟩ := comp_st S enc R xs s [] st
  exact ⟨ys, s', by simpa using h1, h2⟩
theorem comp_FE {γ σ : Type} {tg : Tg} {t : M Bool} {fd : M D} {vs : List Nat} {enc : γ → D} {xs : List γ} {s : σ} {δ : List O} {L : Res (List D)} (hL : compL tg t fd vs (xs.map enc) [] δ = L) (S : σ → List O) (hδ : δ = S s) (u : γ → D) (st : ∀ x ∈ xs, ∀ s, ∃ δ1 δ2 b s', tg (enc x) (S s) = some δ1 ∧ t δ1 = .ok b δ2 ∧ (b = true → fd δ2 = .ok (u x) δ2) ∧ wipeO δ2 vs = S s') :
    ∃ (ys : List γ) (s' : σ), L = .ok (ys.map u) (S s') ∧ ys.Sublist xs := by
  subst hδ
  subst hL
  obtain ⟨ys, s', h1, h2⟩ := comp_ft S enc u xs s [] st
  exact ⟨ys, s', by simpa using h1, h2⟩
theorem all2_len {γ ζ : Type} {R : γ → ζ → Prop} {xs : List γ} {ys : List ζ} (h : All2 R xs ys) : ys.length = xs.length := by
  induction h with
  | nil => rfl
  | cons _ _ ih => simp [ih]
/-- each one is of a form -/
theorem all2_form {γ α : Type} {P : α → Prop} {f : α → D} {xs : List γ} {ys : List D} (h : All2 (fun _ y => ∃ r, P r ∧ y = f r) xs ys) : ∃ rs : List α, ys = rs.map f ∧ rs.length = xs.length ∧ ∀ r ∈ rs, P r := by
  induction h with
  | nil => exact ⟨[], rfl, rfl, by simp⟩
  | cons h t ih =>
    obtain ⟨r, p, rfl⟩ := h
    obtain ⟨rs, rfl, h1, h2⟩ := ih
    exact ⟨r :: rs, rfl, by simp [h1], fun x hx => by
      rcases List.mem_cons.mp hx with rfl | hx
      · exact p
      · exact h2 x hx⟩
theorem erase_perm {γ : Type} : ∀ {l : List γ} {i : Nat} (h : i < l.length), (l[i] :: l.eraseIdx i).Perm l
  | [], i, h => absurd h (by simp)
  | x :: l, 0, h => by simp
  | x :: l, i + 1, h => by
    simp only [List.getElem_cons_succ, List.eraseIdx_cons_succ]
    exact (List.Perm.swap _ _ _).trans ((erase_perm (by simpa using h)).cons x)
theorem rep_flat {n x : Nat} : (List.replicate n [nD x]).flatten = (List.replicate n x).map nD := by
  induction n with
  | zero => rfl
  | succ n ih => simp [List.replicate_succ, ih]
theorem ne_lE {ds : List D} (h : D.pls ds = true) (k : D.dps ds ≤ 60) : neD (.lst ds) (.lst []) = some (.bl (!ds.isEmpty)) := by
  rw [ne_pl (by simpa only [D.pl] using h) (by simp [D.pl, D.pls]) (by simp only [D.dp]; omega) (by simp [D.dp, D.dps])]
  cases ds <;> simp
theorem ne_lnw {xs : List (Nat × Nat)} : neD (.lst (xs.map nwD)) (.lst []) = some (.bl (!xs.isEmpty)) := by
  rw [ne_lE (pls_map (fun _ => pl_nwD) xs) (dps_map (k := 60) (fun _ => Nat.le_trans dp_nwD (by omega)) xs)]
  cases xs <;> rfl
theorem sub_z {m n : Nat} : subD (nD m) (nD n) = some (.int ((m : Int) - (n : Int))) := rfl
theorem max0 {m n : Nat} : maxD (.lst [nD 0, .int ((m : Int) - (n : Int))]) = some (nD (m - n)) := by
  show some (D.int (max (0 : Int) ((m : Int) - n))) = some (D.int ((m - n : Nat) : Int))
  congr 2
  omega
theorem add_pred {t : Nat} (h : 1 ≤ t) : addD (.int ((t : Int) - 1)) (nD 1) = some (nD t) := by
  show some (D.int ((t : Int) - 1 + ((1 : Nat) : Int))) = some (D.int (t : Int))
  congr 2
  omega
/-- max([first - 1] + used) + 1 -/
theorem max_pred {f : Nat} {xs : List Nat} : ∃ t : Nat, maxD (.lst (.int ((f : Int) - ((1 : Nat) : Int)) :: xs.map nD)) = some (.int ((t : Int) - 1)) ∧ f ≤ t ∧ (∀ x ∈ xs, x < t) ∧ (t = f ∨ ∃ x ∈ xs, t = x + 1) := by
  have key : ∀ (xs : List Nat) (f : Nat), ∃ t : Nat, (xs.map fun (n : Nat) => (n : Int)).foldl max ((f : Int) - 1) = (t : Int) - 1 ∧ f ≤ t ∧ (∀ x ∈ xs, x < t) ∧ (t = f ∨ ∃ x ∈ xs, t = x + 1) := by
    intro xs
    induction xs with
    | nil => exact fun f => ⟨f, rfl, Nat.le_refl _, by simp, .inl rfl⟩
    | cons x xs ih =>
      intro f
      obtain ⟨t, h1, h2, h3, h4⟩ := ih (max f (x + 1))
      refine ⟨t, ?_, by omega, ?_, ?_⟩
      · have q : max ((f : Int) - 1) (x : Int) = ((max f (x + 1) : Nat) : Int) - 1 := by
          rcases Nat.le_total f (x + 1) with q | q
          · rw [Nat.max_eq_right q, Int.max_eq_right (by omega)]; omega
          · rw [Nat.max_eq_left q, Int.max_eq_left (by omega)]
        rw [List.map_cons, List.foldl_cons, q, h1]
      · intro y hy
        rcases List.mem_cons.mp hy with rfl | hy
        · omega
        · exact h3 y hy
      · rcases h4 with h4 | ⟨y, hy, h4⟩
        · rcases Nat.le_total f (x + 1) with q | q
          · exact .inr ⟨x, by simp, by omega⟩
          · exact .inl (by omega)
        · exact .inr ⟨y, by simp [hy], h4⟩
  obtain ⟨t, h1, h2⟩ := key xs f
  refine ⟨t, ?_, h2⟩
  show ((D.ints (xs.map nD)).map ((((f : Int) - ((1 : Nat) : Int)) :: ·))).bind _ = _
  rw [ints_map]
  show some (D.int _) = _
  rw [show ((f : Int) - ((1 : Nat) : Int)) = (f : Int) - 1 from rfl, h1]
theorem findEq_map {γ : Type} [BEq γ] [LawfulBEq γ] {enc : γ → D} (hi : ∀ a b, enc a = enc b ↔ a = b) (hp : ∀ a, (enc a).pl = true) (x : γ) : ∀ xs : List γ, x ∈ xs → ∃ j, findEq (enc x).toPy (D.toPys (xs.map enc)) = some j ∧ xs.eraseIdx j = xs.erase x
  | [], h => by simp at h
  | y :: ys, h => by
    simp only [List.map_cons, D.toPys]
    unfold findEq
    by_cases e : y = x
    · subst e
      exact ⟨0, by rw [if_pos ((eqv_toPy _ _ (hp _) (hp _)).mpr rfl)], by simp⟩
    · obtain ⟨j, h1, h2⟩ := findEq_map hi hp x ys (by
        rcases List.mem_cons.mp h with q | q
        · exact absurd q.symm e
        · exact q)
      refine ⟨j + 1, ?_, ?_⟩
      · rw [if_neg (fun q => e ((hi _ _).mp ((eqv_toPy _ _ (hp _) (hp _)).mp q))), h1]
        rfl
      · rw [List.eraseIdx_cons_succ, h2, List.erase_cons_tail (by simpa using e)]
theorem rem_sh {γ : Type} [BEq γ] [LawfulBEq γ] {enc : γ → D} (hi : ∀ a b, enc a = enc b ↔ a = b) (hp : ∀ a, (enc a).pl = true) (hd : ∀ a, (enc a).dp ≤ 60) {x : γ} {xs : List γ} (h : x ∈ xs) : remL ((xs.map enc).map .sh) [enc x] = some (.non, ((xs.erase x).map enc).map .sh) := by
  obtain ⟨j, h1, h2⟩ := findEq_map hi hp x xs h
  have s1 : SeqAt.shaped (.list (D.toPys (xs.map enc))) = true := shaped_toPy (d := .lst (xs.map enc)) (by simp only [D.pl]; exact pls_map hp xs) (by simp only [D.dp]; exact Nat.succ_le_succ (dps_map (k := 63) (fun a => Nat.le_trans (hd a) (by omega)) xs))
  have s2 : SeqAt.shaped (enc x).toPy = true := shaped_toPy (hp x) (Nat.le_trans (hd x) (by omega))
  unfold remL
  simp only [leafs_sh, py_toPy _ (hp x), pys_toPy _ (pls_map hp xs), s1, s2, Bool.and_self, if_true, h1, Option.map_some]
  rw [eraseIdx_map, eraseIdx_map, h2]
theorem rem_nw {x : Nat × Nat} {xs : List (Nat × Nat)} {i : Nat} {δ : List O} (h : x ∈ xs) : lopK remL i [nwD x] δ (some (oL (xs.map nwD))) = .ok .non (δ.set i (oL ((xs.erase x).map nwD))) :=
  lopK_gen (rem_sh (fun _ _ => nwD_inj) (fun _ => pl_nwD) (fun _ => Nat.le_trans dp_nwD (by omega)) h)
theorem add_nw1 {p : Nat × Nat} {n : Nat} : addD (nwD p) (.tup [nD n]) = some (ddD (p.1, p.2, n)) := rfl
theorem inN_lL {n : Nat} {xs : List Nat} : inD (nD n) (.lst (xs.map nD)) = some (.bl (decide (n ∈ xs))) := inN_l
theorem sub01 : subD (nD 0) (nD 1) = some (.int (-1)) := rfl
theorem addO_ap {fa fb : M D} {δ : List O} : addO fa fb δ = (fa δ).bind fun x δ => (fb δ).bind fun y δ => match catD x y with
  | some ds => .ok (oL ds) δ
  | none => .bad := by
  unfold addO bnd Res.bind
  cases fa δ with
  | ok x δ =>
    dsimp only
    cases fb δ with
    | ok y δ => dsimp only; cases catD x y <;> rfl
    | er => rfl
    | bad => rfl
  | er => rfl
  | bad => rfl
theorem cat_l {xs ys : List D} (h : xs.length + ys.length ≤ 16777216) : catD (.lst xs) (.lst ys) = some (xs ++ ys) := by
  show (if xs.length + ys.length ≤ 16777216 then some (xs ++ ys) else none) = _
  rw [if_pos h]
/-! ### closures -/
def SRes.cv (fx : List Nat) : SRes → SRes
  | .rt o δ' => if noCO o && noCOs (msk fx δ'.length δ') then .rt o (msk fx δ'.length δ') else .bad
  | .nx δ' => if noCOs (msk fx δ'.length δ') then .nx (msk fx δ'.length δ') else .bad
  | .er x δ' => if noCs x.xs && noCOs (msk fx δ'.length δ') then .er x (msk fx δ'.length δ') else .bad
  | _ => .bad
theorem cvG_ap {fx : List Nat} {g : G} {δ : List O} (h : noCOs δ = true) : cvG fx g δ = (g δ).cv fx := by
  unfold cvG
  rw [if_pos h]
  cases g δ <;> rfl
theorem cv_rt {fx : List Nat} {o : O} {δ : List O} : (SRes.rt o δ).cv fx = if (noCO o && noCOs (msk fx δ.length δ)) = true then .rt o (msk fx δ.length δ) else .bad := rfl
theorem noC_n {n : Nat} : noC (nD n) = true := by simp [nD, noC]
theorem noCs_map {γ : Type} {enc : γ → D} (h : ∀ x, noC (enc x) = true) (xs : List γ) : noCs (xs.map enc) = true := by
  induction xs with
  | nil => simp [noCs]
  | cons d ds ih => simp [noCs, ih, h]
theorem noC_N {xs : List Nat} : noC (tN xs) = true := by simp only [tN, noC]; exact noCs_map (fun _ => noC_n) xs
theorem noC_mach {M : List (List Nat) × List Nat} : noC (machD M) = true := by
  simp only [machD, noC, noCs, noC_N, noCs_map (fun _ => noC_N), Bool.and_self]
theorem noC_dd {p : Nat × Nat × Nat} : noC (ddD p) = true := by simp [ddD, noC, noCs, noC_n]
theorem noC_lN {xs : List Nat} : noC (.lst (xs.map nD)) = true := by simp only [noC]; exact noCs_map (fun _ => noC_n) xs
theorem noC_ldd {xs : List (Nat × Nat × Nat)} : noC (.lst (xs.map ddD)) = true := by simp only [noC]; exact noCs_map (fun _ => noC_dd) xs
theorem noC_bl {b : Bool} : noC (.bl b) = true := by simp [noC]
theorem noCOs_sh : ∀ xs : List D, noCOs (xs.map .sh) = noCs xs
  | [] => by simp [noCOs, noCs]
  | x :: xs => by simp only [List.map_cons, noCOs, noCO, noCs, noCOs_sh xs]
theorem noCO_bx {B : Box} : noCO (bxO B) = true := by
  show noCO (.ol [.ol ((B.cells.map nD).map .sh), .sh (nD B.seed)]) = true
  simp only [noCO, noCOs, noCOs_sh, noCs_map (fun _ => noC_n), noC_n, Bool.and_self]
theorem noCO_sh {d : D} : noCO (.sh d) = noC d := by simp [noCO]
theorem noCO_no : noCO .no = true := by simp [noCO]
theorem noCOs_nil : noCOs [] = true := by simp [noCOs]
theorem noCOs_cons {o : O} {os : List O} : noCOs (o :: os) = (noCO o && noCOs os) := by simp [noCOs]
def hoK (Ls : List (M O)) (T : M O → M D) (δ : List O) : D → Res D
  | .clo n => match Ls[n]? with
    | some g => T g δ
    | none => .bad
  | _ => .bad
theorem hoM_ap {Ls : List (M O)} {T : M O → M D} {f : M D} {δ : List O} : hoM Ls T f δ = (f δ).bind fun d δ => hoK Ls T δ d := by
  unfold hoM bnd Res.bind
  cases f δ with
  | ok d δ =>
    cases d with
    | clo n => show (match Ls[n]? with | some g => T g | none => bad) δ = hoK Ls T δ (.clo n); unfold hoK; dsimp only; cases Ls[n]? <;> rfl
    | _ => rfl
  | er => rfl
  | bad => rfl
theorem hoK_clo {Ls : List (M O)} {T : M O → M D} {g : M O} {n : Nat} {δ : List O} (h : Ls[n]? = some g) : hoK Ls T δ (.clo n) = T g δ := by unfold hoK; dsimp only; rw [h]
def Res.tryK (sub : PySem.Str → PySem.Str → Option Bool) (ks : List Kl) (r : D) : Res O → Res D
  | .ok _ δ' => .ok r δ'
  | .er x δ' => match pickK sub x ks with
    | some d => .ok d δ'
    | none => .bad
  | .bad => .bad
theorem tryM_ap {sub : PySem.Str → PySem.Str → Option Bool} {ks : List Kl} {r : D} {f : M O} {δ : List O} : tryM sub ks r f δ = (f δ).tryK sub ks r := by
  unfold tryM Res.tryK
  cases f δ <;> rfl
theorem try_ok {sub : PySem.Str → PySem.Str → Option Bool} {ks : List Kl} {r : D} {o : O} {δ : List O} : (Res.ok o δ).tryK sub ks r = .ok r δ := rfl
def pkK (δ : List O) : Option D → Res D
  | some d => .ok d δ
  | none => .bad
theorem try_er {sub : PySem.Str → PySem.Str → Option Bool} {ks : List Kl} {r : D} {x : DX} {δ : List O} : (Res.er x δ).tryK sub ks r = pkK δ (pickK sub x ks) := by
  unfold Res.tryK pkK
  rfl
theorem pkK_some {d : D} {δ : List O} : pkK δ (some d) = .ok d δ := rfl
end FW

set_option Elab.async false
set_option linter.all false
set_option maxRecDepth 100000
set_option maxHeartbeats 1000000
/-! PlE: repr of small data. -/
namespace FW
open PySem PySem.Spec
mutual
/-- whole numbers of at most twelve digits, None, and sequences of these -/
def D.num : D → Bool
  | .non => true
  | .int i => decide (i.natAbs < 1000000000000)
  | .tup ds => D.nums ds
  | .lst ds => D.nums ds
  | _ => false
def D.nums : List D → Bool
  | [] => true
  | d :: ds => D.num d && D.nums ds
end
mutual
def D.tz : D → Nat
  | .tup ds => D.tzs ds + 1
  | .lst ds => D.tzs ds + 1
  | _ => 1
def D.tzs : List D → Nat
  | [] => 0
  | d :: ds => D.tz d + D.tzs ds
end
mutual
theorem num_pl : ∀ d : D, d.num = true → d.pl = true
  | .non, _ => by simp [D.pl]
  | .int i, _ => by simp [D.pl]
  | .tup ds, h => by simp only [D.num] at h; simp only [D.pl]; exact nums_pl ds h
  | .lst ds, h => by simp only [D.num] at h; simp only [D.pl]; exact nums_pl ds h
  | .str x, h => by simp [D.num] at h
  | .bl b, h => by simp [D.num] at h
  | .gl x, h => by simp [D.num] at h
  | .clo x, h => by simp [D.num] at h
theorem nums_pl : ∀ ds : List D, D.nums ds = true → D.pls ds = true
  | [], _ => by simp [D.pls]
  | d :: ds, h => by
    simp only [D.nums, Bool.and_eq_true] at h
    simp only [D.pls, num_pl d h.1, nums_pl ds h.2, Bool.and_self]
end
mutual
theorem num_short : ∀ d : D, d.num = true → d.toPy.intsShort 13 = true
  | .non, _ => by simp [D.toPy, PyData.intsShort]
  | .int i, h => by
    simp only [D.num, decide_eq_true_eq] at h
    simp only [D.toPy, PyData.intsShort, decide_eq_true_eq]
    exact PyData.shown_int_le (by simpa using h)
  | .tup ds, h => by simp only [D.num] at h; simp only [D.toPy, PyData.intsShort]; exact nums_short ds h
  | .lst ds, h => by simp only [D.num] at h; simp only [D.toPy, PyData.intsShort]; exact nums_short ds h
  | .str x, h => by simp [D.num] at h
  | .bl b, h => by simp [D.num] at h
  | .gl x, h => by simp [D.num] at h
  | .clo x, h => by simp [D.num] at h
theorem nums_short : ∀ ds : List D, D.nums ds = true → PyData.intsShortAll 13 (D.toPys ds) = true
  | [], _ => by simp [D.toPys, PyData.intsShortAll]
  | d :: ds, h => by
    simp only [D.nums, Bool.and_eq_true] at h
    simp only [D.toPys, PyData.intsShortAll, num_short d h.1, nums_short ds h.2, Bool.and_self]
end
theorem log_num {i : Int} (h : i.natAbs < 1000000000000) : i.natAbs.log2 < 40 := by
  by_cases e : i.natAbs = 0
  · rw [e]; decide
  · exact (Nat.log2_lt e).mpr (Nat.lt_of_lt_of_le h (by decide))
mutual
theorem num_wt : ∀ d : D, d.num = true → d.toPy.weight + 1 ≤ 42 * d.tz ∧ d.toPy.showable = true ∧ d.toPy.hasDict = false
  | .non, _ => by simp [D.toPy, PyData.weight, D.tz, PyData.showable, PyData.hasDict]
  | .int i, h => by
    simp only [D.num, decide_eq_true_eq] at h
    have := log_num h
    simp only [D.toPy, PyData.weight, D.tz, PyData.showable, PyData.hasDict, decide_eq_true_eq, and_true]
    refine ⟨?_, by omega⟩
    split <;> omega
  | .tup ds, h => by
    simp only [D.num] at h
    obtain ⟨h1, h2, h3⟩ := nums_wt ds h
    simp only [D.toPy, PyData.weight, D.tz, PyData.showable, PyData.hasDict, h2, h3, and_true]
    omega
  | .lst ds, h => by
    simp only [D.num] at h
    obtain ⟨h1, h2, h3⟩ := nums_wt ds h
    simp only [D.toPy, PyData.weight, D.tz, PyData.showable, PyData.hasDict, h2, h3, and_true]
    omega
  | .str x, h => by simp [D.num] at h
  | .bl b, h => by simp [D.num] at h
  | .gl x, h => by simp [D.num] at h
  | .clo x, h => by simp [D.num] at h
theorem nums_wt : ∀ ds : List D, D.nums ds = true → PyData.weightAll (D.toPys ds) ≤ 42 * D.tzs ds ∧ PyData.showableAll (D.toPys ds) = true ∧ PyData.hasDictAll (D.toPys ds) = false
  | [], _ => by simp [D.toPys, PyData.weightAll, D.tzs, PyData.showableAll, PyData.hasDictAll]
  | d :: ds, h => by
    simp only [D.nums, Bool.and_eq_true] at h
    obtain ⟨h1, h2, h3⟩ := nums_wt ds h.2
    obtain ⟨g1, g2, g3⟩ := num_wt d h.1
    simp only [D.toPys, PyData.weightAll, D.tzs, PyData.showableAll, PyData.hasDictAll, h2, h3, g2, g3, Bool.and_self, Bool.or_self, and_self, and_true]
    omega
end
theorem ok_of (s : String) : PyData.strOk (Str.ofString s) = true := by
  rw [Str.ofString_eq_toList]
  unfold PyData.strOk
  rw [Array.all_eq_true_iff_forall_mem]
  intro x hx
  simp only [List.mem_toArray, List.mem_map] at hx
  obtain ⟨c, _, rfl⟩ := hx
  simp only [decide_eq_true_eq]
  have := c.valid
  simp only [UInt32.isValidChar, Nat.isValidChar] at this
  show c.val.toNat < 1114112
  omega
theorem ok_app {a b : Str} (h : PyData.strOk a = true) (h' : PyData.strOk b = true) : PyData.strOk (a ++ b) = true := by
  unfold PyData.strOk at *
  rw [Array.all_eq_true_iff_forall_mem] at *
  intro x hx
  have hx' : x ∈ a.cps ++ b.cps := hx
  rw [Array.mem_append] at hx'
  rcases hx' with q | q
  · exact h x q
  · exact h' x q
theorem ok_text : ∀ (ts : List Str) (k : Nat) (acc : Str), PyData.strOk acc = true → (∀ t ∈ ts, PyData.strOk t = true) → PyData.strOk (textFrom k acc ts) = true
  | [], _, _, h, _ => h
  | t :: ts, k, acc, h, h' => ok_text ts (k + 1) _ (ok_app (ok_app h (ok_of _)) (h' t (by simp))) fun u hu => h' u (by simp [hu])
theorem ok_join : ∀ ts : List Str, (∀ t ∈ ts, PyData.strOk t = true) → PyData.strOk (Str.join ", " ts) = true
  | [], _ => by decide +kernel
  | [x], h => h x (by simp)
  | x :: y :: r, h => ok_app (ok_app (h x (by simp)) (ok_of _)) (ok_join (y :: r) fun u hu => h u (by simp [hu]))
mutual
theorem ok_shown : ∀ d : D, d.num = true → PyData.strOk d.toPy.shown = true
  | .non, _ => ok_of "None"
  | .int i, _ => ok_of (toString i)
  | .tup ds, h => by
    simp only [D.num] at h
    exact ok_app (ok_app (ok_of "(") (ok_join _ (oks_shown ds h))) (ok_of _)
  | .lst ds, h => by
    simp only [D.num] at h
    exact ok_app (ok_text _ 0 _ (ok_of "[") (oks_shown ds h)) (ok_of "]")
  | .str x, h => by simp [D.num] at h
  | .bl b, h => by simp [D.num] at h
  | .gl x, h => by simp [D.num] at h
  | .clo x, h => by simp [D.num] at h
theorem oks_shown : ∀ ds : List D, D.nums ds = true → ∀ t ∈ PyData.shownAll (D.toPys ds), PyData.strOk t = true
  | [], _ => by simp [D.toPys, PyData.shownAll]
  | d :: ds, h => by
    simp only [D.nums, Bool.and_eq_true] at h
    intro t ht
    simp only [D.toPys, PyData.shownAll, List.mem_cons] at ht
    rcases ht with rfl | ht
    · exact ok_shown d h.1
    · exact oks_shown ds h.2 t ht
end
/-- repr of small data is a fit text -/
theorem repr_num {d : D} (h : d.num = true) (k : d.dp ≤ 60) (z : d.tz ≤ 20000) (s : isSeq d = true) : ∃ x, reprD d = some (.str x) ∧ PyData.strOk x = true := by
  obtain ⟨w1, w2, w3⟩ := num_wt d h
  obtain ⟨l1, l2⟩ := lay_toPy d (num_pl d h)
  have lay : d.toPy.layable0 = true := by
    simp only [PyData.layable0, l1, l2, Bool.true_and, Bool.and_eq_true, decide_eq_true_eq]
    exact ⟨by omega, Nat.le_trans (by omega) (show 1000000 ≤ 2 ^ 20 by decide)⟩
  have len := PyData.shown_le_of_layable0 lay (num_short d h)
  have len2 : d.toPy.shown.length ≤ 16777216 := by omega
  refine ⟨d.toPy.shown, ?_, ok_shown d h⟩
  have e := py_toPy d (num_pl d h)
  have key : (d.py.bind fun p => if p.showable && !p.hasDict && decide (p.depth ≤ 60) && decide (p.shown.length ≤ 16777216) then some (D.str p.shown) else none) = some (.str d.toPy.shown) := by
    rw [e]
    simp only [Option.bind_some, w2, w3, l2, k, len2, Bool.not_false, decide_true, Bool.and_self, if_true]
  cases d <;> first | exact key | (simp [isSeq] at s; done)
/-- repr(a) != repr(a) -/
theorem ne_str {x : Str} (h : PyData.strOk x = true) : neD (.str x) (.str x) = some (.bl false) := by
  rw [ne_pl (by simpa only [D.pl] using h) (by simpa only [D.pl] using h) (by simp [D.dp]) (by simp [D.dp])]
  simp
theorem nums_map {γ : Type} {enc : γ → D} {xs : List γ} (h : ∀ x ∈ xs, (enc x).num = true) : D.nums (xs.map enc) = true := by
  induction xs with
  | nil => simp [D.nums]
  | cons x xs ih => simp only [List.map_cons, D.nums, h x (by simp), ih fun y hy => h y (by simp [hy]), Bool.and_self]
theorem tzs_map {γ : Type} {enc : γ → D} {k : Nat} {xs : List γ} (h : ∀ x ∈ xs, (enc x).tz ≤ k) : D.tzs (xs.map enc) ≤ k * xs.length := by
  induction xs with
  | nil => simp [D.tzs]
  | cons x xs ih =>
    simp only [List.map_cons, D.tzs, List.length_cons, Nat.mul_succ]
    have := h x (by simp)
    have := ih fun y hy => h y (by simp [hy])
    omega
theorem num_nD {n : Nat} (h : n < 1000000000000) : (nD n).num = true := by simp [nD, D.num]; omega
theorem tz_nD {n : Nat} : (nD n).tz = 1 := by simp [nD, D.tz]
theorem rp_N {xs : List Nat} (h : ∀ x ∈ xs, x < 1000000000) (l : xs.length ≤ 10000) : ∃ x, reprD (tN xs) = some (.str x) ∧ PyData.strOk x = true := by
  refine repr_num ?_ (Nat.le_trans dp_tN (by omega)) ?_ rfl
  · simp only [tN, D.num]
    exact nums_map fun x hx => num_nD (by have := h x hx; omega)
  · simp only [tN, D.tz]
    have := tzs_map (enc := nD) (k := 1) (xs := xs) fun x _ => Nat.le_of_eq tz_nD
    omega
theorem num_nw {p : Nat × Nat} (h1 : p.1 < 1000000000) (h2 : p.2 < 1000000000) : (nwD p).num = true := by
  simp only [nwD, D.num, D.nums, Bool.and_true, Bool.and_eq_true]
  exact ⟨num_nD (by omega), num_nD (by omega)⟩
theorem tz_nw {p : Nat × Nat} : (nwD p).tz = 3 := by simp [nwD, D.tz, D.tzs, tz_nD]
theorem num_dd {p : Nat × Nat × Nat} (h1 : p.1 < 1000000000) (h2 : p.2.1 < 1000000000) (h3 : p.2.2 < 1000000000) : (ddD p).num = true := by
  simp only [ddD, D.num, D.nums, Bool.and_true, Bool.and_eq_true]
  exact ⟨num_nD (by omega), num_nD (by omega), num_nD (by omega)⟩
theorem tz_dd {p : Nat × Nat × Nat} : (ddD p).tz = 4 := by simp [ddD, D.tz, D.tzs, tz_nD]
theorem rp_nw {xs : List (Nat × Nat)} (h : ∀ p ∈ xs, p.1 < 1000000000 ∧ p.2 < 1000000000) (l : xs.length ≤ 5000) : ∃ x, reprD (.tup (xs.map nwD)) = some (.str x) ∧ PyData.strOk x = true := by
  refine repr_num ?_ ?_ ?_ rfl
  · simp only [D.num]
    exact nums_map fun x hx => num_nw (h x hx).1 (h x hx).2
  · simp only [D.dp]
    exact Nat.succ_le_succ (dps_map (k := 59) (fun _ => Nat.le_trans dp_nwD (by omega)) xs)
  · simp only [D.tz]
    have := tzs_map (enc := nwD) (k := 3) (xs := xs) fun x _ => Nat.le_of_eq tz_nw
    omega
theorem rp_dd {xs : List (Nat × Nat × Nat)} (h : ∀ p ∈ xs, p.1 < 1000000000 ∧ p.2.1 < 1000000000 ∧ p.2.2 < 1000000000) (l : xs.length ≤ 4000) : ∃ x, reprD (.tup (xs.map ddD)) = some (.str x) ∧ PyData.strOk x = true := by
  refine repr_num ?_ ?_ ?_ rfl
  · simp only [D.num]
    exact nums_map fun x hx => num_dd (h x hx).1 (h x hx).2.1 (h x hx).2.2
  · simp only [D.dp]
    exact Nat.succ_le_succ (dps_map (k := 59) (fun _ => Nat.le_trans dp_ddD (by omega)) xs)
  · simp only [D.tz]
    have := tzs_map (enc := ddD) (k := 4) (xs := xs) fun x _ => Nat.le_of_eq tz_dd
    omega
theorem rp_lls {ls gs : List Nat} {xs : List (Nat × Nat × Nat)} (h1 : ∀ x ∈ ls, x < 1000000000) (h2 : ∀ x ∈ gs, x < 1000000000) (h : ∀ p ∈ xs, p.1 < 1000000000 ∧ p.2.1 < 1000000000 ∧ p.2.2 < 1000000000) (l1 : ls.length ≤ 1000) (l2 : gs.length ≤ 1000) (l : xs.length ≤ 4000) :
    ∃ x, reprD (.tup [.lst (ls.map nD), .lst (gs.map nD), .lst (xs.map ddD)]) = some (.str x) ∧ PyData.strOk x = true := by
  refine repr_num ?_ ?_ ?_ rfl
  · simp only [D.num, D.nums, Bool.and_true, Bool.and_eq_true]
    exact ⟨nums_map fun x hx => num_nD (by have := h1 x hx; omega), nums_map fun x hx => num_nD (by have := h2 x hx; omega), nums_map fun x hx => num_dd (h x hx).1 (h x hx).2.1 (h x hx).2.2⟩
  · simp only [D.dp, D.dps]
    have := dps_map (enc := nD) (k := 50) (fun _ => by rw [dp_nD]; omega) ls
    have := dps_map (enc := nD) (k := 50) (fun _ => by rw [dp_nD]; omega) gs
    have := dps_map (enc := ddD) (k := 50) (fun _ => Nat.le_trans dp_ddD (by omega)) xs
    omega
  · simp only [D.tz, D.tzs]
    have := tzs_map (enc := nD) (k := 1) (xs := ls) fun x _ => Nat.le_of_eq tz_nD
    have := tzs_map (enc := nD) (k := 1) (xs := gs) fun x _ => Nat.le_of_eq tz_nD
    have := tzs_map (enc := ddD) (k := 4) (xs := xs) fun x _ => Nat.le_of_eq tz_dd
    omega
theorem loop_E2 {tg : Tg} {body : G} {L : SRes} {γ σ : Type} {enc : γ → D} {xs : List γ} {s : σ} {δ : List O} (hL : loopS tg body (xs.map enc) δ = L) (S : σ → List O) (hδ : δ = S s) (I : Nat → σ → Prop) (h0 : I 0 s) (st : ∀ i x s, xs[i]? = some x → I i s → ∃ δ1, tg (enc x) (S s) = some δ1 ∧ ∃ s', (body δ1 = .nx (S s') ∨ body δ1 = .ct (S s')) ∧ I (i + 1) s') :
    ∃ s', L = .nx (S s') ∧ I xs.length s' :=
  loop_E hL S hδ I h0 fun i x s e h => by
    obtain ⟨δ1, h1, s', h2, h3⟩ := st i x s e h
    exact ⟨δ1, s', h1, h2, h3⟩
theorem loop_N {tg : Tg} {body : G} {L : SRes} {γ σ : Type} {enc : γ → D} {xs : List γ} {s : σ} {δ : List O} (hL : loopS tg body (xs.map enc) δ = L) (S : σ → List O) (hδ : δ = S s) (I : Nat → σ → Prop) (h0 : I 0 s) (st : ∀ i x s, xs[i]? = some x → I i s → ∃ δ1, tg (enc x) (S s) = some δ1 ∧ ∃ s', body δ1 = .nx (S s') ∧ I (i + 1) s') :
    ∃ s', L = .nx (S s') ∧ I xs.length s' :=
  loop_E hL S hδ I h0 fun i x s e h => by
    obtain ⟨δ1, h1, s', h2, h3⟩ := st i x s e h
    exact ⟨δ1, s', h1, .inl h2, h3⟩
end FW

set_option Elab.async false
set_option linter.all false
set_option maxRecDepth 100000
set_option maxHeartbeats 4000000
namespace K43
open PySem PySem.Spec PyProof.Rows L2 FW FWE
abbrev P : Program := PySem.Challenge.pw_forgetwhen_k43_whole_news_that_are_withd
def tpS (i : Nat) : Stmt := P.main.body.getD i (.Pass ⟨0, 0, 0, 0⟩)
abbrev XH (P : Program) (K : PySem.W.Frag) (mg : Str → Option Value) (cn f : Str) : Prop := ∃ Ca fI, FWX.XTxt P K mg cn f Ca fI
variable {w : World} {K : PySem.W.Frag} {mg : Str → Option Value} {base : Heap} {C : Ct} {fa : Addr} {fd : FuncData}
def subT : List (Str × List Str) := [("TwinError", ["TwinError"]), ("InvalidMachine", ["InvalidMachine", "TwinError"]), ("InvalidLate", ["InvalidLate", "TwinError"]), ("InvalidGone", ["InvalidGone", "TwinError"]), ("InvalidLot", ["InvalidLot", "TwinError"])]
def subK (c c' : Str) : Option Bool := (subT.lookup c).bind fun l => if (subT.lookup c').isSome then some (l.contains c') else none
def st_is_integer : Stmt := tpS 7
def ps_is_integer : List Str := ["value"]
def N_is_integer : List Str := ["value"]
def g_is_integer : G :=
  (sRet (shM (andV (op1 (isaD .int) (gv 0)) (notV (op1 (isaD .bool) (gv 0))))))
def m_is_integer : Fm := runF 1 1 [] g_is_integer
theorem b_is_integer {X : Cx} {C : Ct} {W : WX} (B : Bst X C W 0 N_is_integer (defScope st_is_integer)) (hk : X.env.scope.kind = .function) (Bl : BLT C.mg)   : PGs' X C W [] (defBody st_is_integer) g_is_integer := by
  exact (FW.pgs_one (pg_ret (pd_and (pd_isa (t := .int) B.b (by decide +kernel) (Bl.at "isinstance" (by decide +kernel)) (by decide +kernel) (Bl.at "int" (by decide +kernel)) (kv B.b (by decide +kernel))) (pd_one (pd_not (pd_isa (t := .bool) B.b (by decide +kernel) (Bl.at "isinstance" (by decide +kernel)) (by decide +kernel) (Bl.at "bool" (by decide +kernel)) (kv B.b (by decide +kernel))))))))
theorem ok_is_integer (hK : C.K = K) (hmg : C.mg = mg) (F : Fun K "is_integer" "is_integer" st_is_integer fa fd) (hm : mg "is_integer" = some (.ref fa)) (hb : Binds K fd ps_is_integer []) (Bl : BLT C.mg)   : CalA P w K mg base C "is_integer" ps_is_integer 1 m_is_integer :=
  fun C' s => cal_of F hm hb ⟨rfl, rfl, rfl, (by decide +kernel), rfl, (by decide +kernel), (by decide +kernel)⟩ (by decide +kernel) (s.K.trans hK) (s.mg.trans hmg) fun cdv A outer s0 H E B hc => b_is_integer B rfl (s.blt Bl)  
def st_is_number : Stmt := tpS 8
def ps_is_number : List Str := ["value"]
def N_is_number : List Str := ["value"]
def g_is_number : G :=
  (sRet (shM (andV (dO (callM m_is_integer (.d (gv 0) :: []))) (op2 (cmpD .GtE) (gv 0) (cst (.int 0))))))
def m_is_number : Fm := runF 1 1 [] g_is_number
theorem b_is_number {X : Cx} {C : Ct} {W : WX} (B : Bst X C W 1 N_is_number (defScope st_is_number)) (hk : X.env.scope.kind = .function) (Bl : BLT C.mg) (c_is_integer : CalA X.prog X.w X.K X.mg X.base C "is_integer" ps_is_integer 1 m_is_integer)  : PGs' X C W [] (defBody st_is_number) g_is_number := by
  exact (FW.pgs_one (pg_ret (pd_and (PN.d (kcall B.b (c_is_integer _ SameC.rfl) (by decide) (by decide +kernel) (pav_d (kv B.b (by decide +kernel)) pav_nil))) (pd_one (kcmp B.b (kv B.b (by decide +kernel)) pd_int)))))
theorem ok_is_number (hK : C.K = K) (hmg : C.mg = mg) (F : Fun K "is_number" "is_number" st_is_number fa fd) (hm : mg "is_number" = some (.ref fa)) (hb : Binds K fd ps_is_number []) (Bl : BLT C.mg) (c_is_integer : CalA P w K mg base C "is_integer" ps_is_integer 1 m_is_integer)  : CalA P w K mg base C "is_number" ps_is_number 2 m_is_number :=
  fun C' s => cal_of F hm hb ⟨rfl, rfl, rfl, (by decide +kernel), rfl, (by decide +kernel), (by decide +kernel)⟩ (by decide +kernel) (s.K.trans hK) (s.mg.trans hmg) fun cdv A outer s0 H E B hc => b_is_number B rfl (s.blt Bl) (CalA.cv c_is_integer s) 
def st_is_below : Stmt := tpS 9
def ps_is_below : List Str := ["value", "many"]
def N_is_below : List Str := ["value", "many"]
def g_is_below : G :=
  (sRet (shM (andV (dO (callM m_is_number (.d (gv 0) :: []))) (op2 (cmpD .Lt) (gv 0) (gv 1)))))
def m_is_below : Fm := runF 2 2 [] g_is_below
theorem b_is_below {X : Cx} {C : Ct} {W : WX} (B : Bst X C W 2 N_is_below (defScope st_is_below)) (hk : X.env.scope.kind = .function) (Bl : BLT C.mg) (c_is_number : CalA X.prog X.w X.K X.mg X.base C "is_number" ps_is_number 2 m_is_number)  : PGs' X C W [] (defBody st_is_below) g_is_below := by
  exact (FW.pgs_one (pg_ret (pd_and (PN.d (kcall B.b (c_is_number _ SameC.rfl) (by decide) (by decide +kernel) (pav_d (kv B.b (by decide +kernel)) pav_nil))) (pd_one (kcmp B.b (kv B.b (by decide +kernel)) (kv B.b (by decide +kernel)))))))
theorem ok_is_below (hK : C.K = K) (hmg : C.mg = mg) (F : Fun K "is_below" "is_below" st_is_below fa fd) (hm : mg "is_below" = some (.ref fa)) (hb : Binds K fd ps_is_below []) (Bl : BLT C.mg) (c_is_number : CalA P w K mg base C "is_number" ps_is_number 2 m_is_number)  : CalA P w K mg base C "is_below" ps_is_below 3 m_is_below :=
  fun C' s => cal_of F hm hb ⟨rfl, rfl, rfl, (by decide +kernel), rfl, (by decide +kernel), (by decide +kernel)⟩ (by decide +kernel) (s.K.trans hK) (s.mg.trans hmg) fun cdv A outer s0 H E B hc => b_is_below B rfl (s.blt Bl) (CalA.cv c_is_number s) 
def st_is_sequence : Stmt := tpS 10
def ps_is_sequence : List Str := ["value"]
def N_is_sequence : List Str := ["value"]
def g_is_sequence : G :=
  (sRet (shM (op1 (isasD [.list, .tuple]) (gv 0))))
def m_is_sequence : Fm := runF 1 1 [] g_is_sequence
theorem b_is_sequence {X : Cx} {C : Ct} {W : WX} (B : Bst X C W 0 N_is_sequence (defScope st_is_sequence)) (hk : X.env.scope.kind = .function) (Bl : BLT C.mg)   : PGs' X C W [] (defBody st_is_sequence) g_is_sequence := by
  exact (FW.pgs_one (pg_ret (pd_isa2 (t := .list) (u := .tuple) B.b (by decide +kernel) (Bl.at "isinstance" (by decide +kernel)) (by decide +kernel) (Bl.at "list" (by decide +kernel)) (by decide +kernel) (Bl.at "tuple" (by decide +kernel)) (kv B.b (by decide +kernel)))))
theorem ok_is_sequence (hK : C.K = K) (hmg : C.mg = mg) (F : Fun K "is_sequence" "is_sequence" st_is_sequence fa fd) (hm : mg "is_sequence" = some (.ref fa)) (hb : Binds K fd ps_is_sequence []) (Bl : BLT C.mg)   : CalA P w K mg base C "is_sequence" ps_is_sequence 1 m_is_sequence :=
  fun C' s => cal_of F hm hb ⟨rfl, rfl, rfl, (by decide +kernel), rfl, (by decide +kernel), (by decide +kernel)⟩ (by decide +kernel) (s.K.trans hK) (s.mg.trans hmg) fun cdv A outer s0 H E B hc => b_is_sequence B rfl (s.blt Bl)  
def st_is_pair : Stmt := tpS 11
def ps_is_pair : List Str := ["value"]
def N_is_pair : List Str := ["value"]
def g_is_pair : G :=
  (sRet (shM (andV (dO (callM m_is_sequence (.d (gv 0) :: []))) (op2 (cmpD .Eq) (op1 lenD (gv 0)) (cst (.int 2))))))
def m_is_pair : Fm := runF 1 1 [] g_is_pair
theorem b_is_pair {X : Cx} {C : Ct} {W : WX} (B : Bst X C W 1 N_is_pair (defScope st_is_pair)) (hk : X.env.scope.kind = .function) (Bl : BLT C.mg) (c_is_sequence : CalA X.prog X.w X.K X.mg X.base C "is_sequence" ps_is_sequence 1 m_is_sequence)  : PGs' X C W [] (defBody st_is_pair) g_is_pair := by
  exact (FW.pgs_one (pg_ret (pd_and (PN.d (kcall B.b (c_is_sequence _ SameC.rfl) (by decide) (by decide +kernel) (pav_d (kv B.b (by decide +kernel)) pav_nil))) (pd_one (kcmp B.b (klen B.b (by decide +kernel) (Bl.at "len" (by decide +kernel)) (kv B.b (by decide +kernel))) pd_int)))))
theorem ok_is_pair (hK : C.K = K) (hmg : C.mg = mg) (F : Fun K "is_pair" "is_pair" st_is_pair fa fd) (hm : mg "is_pair" = some (.ref fa)) (hb : Binds K fd ps_is_pair []) (Bl : BLT C.mg) (c_is_sequence : CalA P w K mg base C "is_sequence" ps_is_sequence 1 m_is_sequence)  : CalA P w K mg base C "is_pair" ps_is_pair 2 m_is_pair :=
  fun C' s => cal_of F hm hb ⟨rfl, rfl, rfl, (by decide +kernel), rfl, (by decide +kernel), (by decide +kernel)⟩ (by decide +kernel) (s.K.trans hK) (s.mg.trans hmg) fun cdv A outer s0 H E B hc => b_is_pair B rfl (s.blt Bl) (CalA.cv c_is_sequence s) 
def st_is_row_below : Stmt := tpS 16
def ps_is_row_below : List Str := ["value", "length", "bound"]
def N_is_row_below : List Str := ["value", "length", "bound", "number"]
def g_is_row_below : G :=
  (sRet (shM (andV (dO (callM m_is_sequence (.d (gv 0) :: []))) (andV (op2 (cmpD .Eq) (op1 lenD (gv 0)) (gv 1)) (op1 allD (lstC (compM (itS (gv 0)) (tgName 3) (ret true) (dO (callM m_is_below (.d (gv 3) :: .d (gv 2) :: []))) [3])))))))
def m_is_row_below : Fm := runF 3 4 [] g_is_row_below
theorem b_is_row_below {X : Cx} {C : Ct} {W : WX} (B : Bst X C W 3 N_is_row_below (defScope st_is_row_below)) (hk : X.env.scope.kind = .function) (Bl : BLT C.mg) (c_is_below : CalA X.prog X.w X.K X.mg X.base C "is_below" ps_is_below 3 m_is_below) (c_is_sequence : CalA X.prog X.w X.K X.mg X.base C "is_sequence" ps_is_sequence 1 m_is_sequence)  : PGs' X C W [] (defBody st_is_row_below) g_is_row_below := by
  exact (FW.pgs_one (pg_ret (pd_and (PN.d (kcall B.b (c_is_sequence _ SameC.rfl) (by decide) (by decide +kernel) (pav_d (kv B.b (by decide +kernel)) pav_nil))) (pd_and (kcmp B.b (klen B.b (by decide +kernel) (Bl.at "len" (by decide +kernel)) (kv B.b (by decide +kernel))) (kv B.b (by decide +kernel))) (pd_one (kall B.b (by decide +kernel) (Bl.at "all" (by decide +kernel)) (pd_lc (own := [("number", 3)]) (gg := (gName 3)) (ix := [3]) B.b (kseq B.b (kv B.b (by decide +kernel))) (by decide +kernel) (fun _ _ _ _ _ B1 => (ktg (i := 3) B1 (by decide +kernel))) (fun _ _ _ _ _ B1 => pcs_nil) (fun _ _ _ _ _ B1 => (PN.d (kcall B1 (c_is_below _ SameC.rfl) (by decide) (by decide +kernel) (pav_d (kv B1 (by decide +kernel)) (pav_d (kv B1 (by decide +kernel)) pav_nil))))))))))))
theorem ok_is_row_below (hK : C.K = K) (hmg : C.mg = mg) (F : Fun K "is_row_below" "is_row_below" st_is_row_below fa fd) (hm : mg "is_row_below" = some (.ref fa)) (hb : Binds K fd ps_is_row_below []) (Bl : BLT C.mg) (c_is_below : CalA P w K mg base C "is_below" ps_is_below 3 m_is_below) (c_is_sequence : CalA P w K mg base C "is_sequence" ps_is_sequence 1 m_is_sequence)  : CalA P w K mg base C "is_row_below" ps_is_row_below 4 m_is_row_below :=
  fun C' s => cal_of F hm hb ⟨rfl, rfl, rfl, (by decide +kernel), rfl, (by decide +kernel), (by decide +kernel)⟩ (by decide +kernel) (s.K.trans hK) (s.mg.trans hmg) fun cdv A outer s0 H E B hc => b_is_row_below B rfl (s.blt Bl) (CalA.cv c_is_below s) (CalA.cv c_is_sequence s) 
def st_need_machine : Stmt := tpS 17
def ps_need_machine : List Str := ["value"]
def N_need_machine : List Str := ["value", "maps", "readings", "kind", "row"]
def g_need_machine : G :=
  (sSeq (sIf (orM (notM (blM (dO (callM m_is_pair (.d (gv 0) :: []))))) (orM (notM (blM (dO (callM m_is_sequence (.d (op2 ixD (gv 0) (cst (.int 0))) :: []))))) (notM (blM (dO (callM m_is_sequence (.d (op2 ixD (gv 0) (cst (.int 1))) :: [])))))))
  (sRaise "InvalidMachine" "at" (op1 negD (cst (.int 1))))
  sNext)
  (sSeq (sAsg (tgTup [(tgName 1), (tgName 2)]) (gv 0))
  (sSeq (sIf (orM (notM (blM (chM (cmpD .LtE) (cmpD .LtE) (cst (.int 1)) (op1 lenD (gv 1)) (cst (.int 4))))) (notM (blM (chM (cmpD .LtE) (cmpD .LtE) (cst (.int 1)) (op1 lenD (gv 2)) (cst (.int 8))))))
  (sRaise "InvalidMachine" "at" (op1 negD (cst (.int 1))))
  sNext)
  (sSeq (sFor (itE (gv 1)) (tgTup [(tgName 3), (tgName 4)])
  (sIf (notM (blM (dO (callM m_is_row_below (.d (gv 4) :: .d (op1 lenD (gv 2)) :: .d (op1 lenD (gv 2)) :: [])))))
  (sRaise "InvalidMachine" "at" (gv 3))
  sNext))
  (sSeq (sIf (notM (blM (dO (callM m_is_row_below (.d (gv 2) :: .d (op1 lenD (gv 2)) :: .d (cst (.int 100)) :: [])))))
  (sRaise "InvalidMachine" "at" (op1 lenD (gv 1)))
  sNext)
  (sRet (shM (tupM (aCons (op1 tupleD (lstC (compM (itS (gv 1)) (tgName 4) (ret true) (op1 tupleD (gv 4)) [4]))) (aCons (op1 tupleD (gv 2)) aNil))))))))))
def m_need_machine : Fm := runF 1 5 [] g_need_machine
theorem b_need_machine {X : Cx} {C : Ct} {W : WX} (B : Bst X C W 4 N_need_machine (defScope st_need_machine)) (hk : X.env.scope.kind = .function) (Bl : BLT C.mg) (h_MOST_KINDS : ConA C "MOST_KINDS" (.int 4)) (h_MOST_STATES : ConA C "MOST_STATES" (.int 8)) (h_READING_BOUND : ConA C "READING_BOUND" (.int 100)) (c_is_sequence : CalA X.prog X.w X.K X.mg X.base C "is_sequence" ps_is_sequence 1 m_is_sequence) (c_is_pair : CalA X.prog X.w X.K X.mg X.base C "is_pair" ps_is_pair 2 m_is_pair) (c_is_row_below : CalA X.prog X.w X.K X.mg X.base C "is_row_below" ps_is_row_below 4 m_is_row_below) (e_InvalidMachine : XH X.prog X.K X.mg "InvalidMachine" "at") : PGs' X C W [] (defBody st_need_machine) g_need_machine := by
  obtain ⟨_, _, x_InvalidMachine⟩ := e_InvalidMachine
  exact (FW.pgs_cons (pg_if (PWq.q (pwq_or (pq_not (pq_val (PN.d (kcall B.b (c_is_pair _ SameC.rfl) (by decide) (by decide +kernel) (pav_d (kv B.b (by decide +kernel)) pav_nil))))) (pwq_or (pq_not (pq_val (PN.d (kcall B.b (c_is_sequence _ SameC.rfl) (by decide) (by decide +kernel) (pav_d (kix B.b (kv B.b (by decide +kernel)) pd_int) pav_nil))))) (pwq_or1 (pq_not (pq_val (PN.d (kcall B.b (c_is_sequence _ SameC.rfl) (by decide) (by decide +kernel) (pav_d (kix B.b (kv B.b (by decide +kernel)) pd_int) pav_nil)))))))))
  (FW.pgs_one (kraise B.b x_InvalidMachine (by decide +kernel) (pd_neg pd_int)))
  FW.pgs_nil)
  (FW.pgs_cons (gs_asg (kv B.b (by decide +kernel)) (ktt (es := [(.Name "maps" _), (.Name "readings" _)]) B.b (ptgs_cons (ktg (i := 1) B.b (by decide +kernel)) (ptgs_cons (ktg (i := 2) B.b (by decide +kernel)) ptgs_nil))))
  (FW.pgs_cons (pg_if (PWq.q (pwq_or (pq_not (kchainq B.b pd_int (klen B.b (by decide +kernel) (Bl.at "len" (by decide +kernel)) (kv B.b (by decide +kernel))) (kcon B.b (by decide +kernel) (h_MOST_KINDS _ SameC.rfl)))) (pwq_or1 (pq_not (kchainq B.b pd_int (klen B.b (by decide +kernel) (Bl.at "len" (by decide +kernel)) (kv B.b (by decide +kernel))) (kcon B.b (by decide +kernel) (h_MOST_STATES _ SameC.rfl)))))))
  (FW.pgs_one (kraise B.b x_InvalidMachine (by decide +kernel) (pd_neg pd_int)))
  FW.pgs_nil)
  (FW.pgs_cons (kfor B (kenum B.b (by decide +kernel) (Bl.at "enumerate" (by decide +kernel)) (kv B.b (by decide +kernel))) (ktt (es := [(.Name "kind" _), (.Name "row" _)]) B.b (ptgs_cons (ktg (i := 3) B.b (by decide +kernel)) (ptgs_cons (ktg (i := 4) B.b (by decide +kernel)) ptgs_nil)))
  (FW.pgs_one (pg_if (pq_not (pq_val (PN.d (kcall B.b (c_is_row_below _ SameC.rfl) (by decide) (by decide +kernel) (pav_d (kv B.b (by decide +kernel)) (pav_d (klen B.b (by decide +kernel) (Bl.at "len" (by decide +kernel)) (kv B.b (by decide +kernel))) (pav_d (klen B.b (by decide +kernel) (Bl.at "len" (by decide +kernel)) (kv B.b (by decide +kernel))) pav_nil)))))))
  (FW.pgs_one (kraise B.b x_InvalidMachine (by decide +kernel) (kv B.b (by decide +kernel))))
  FW.pgs_nil)))
  (FW.pgs_cons (pg_if (pq_not (pq_val (PN.d (kcall B.b (c_is_row_below _ SameC.rfl) (by decide) (by decide +kernel) (pav_d (kv B.b (by decide +kernel)) (pav_d (klen B.b (by decide +kernel) (Bl.at "len" (by decide +kernel)) (kv B.b (by decide +kernel))) (pav_d (kcon B.b (by decide +kernel) (h_READING_BOUND _ SameC.rfl)) pav_nil)))))))
  (FW.pgs_one (kraise B.b x_InvalidMachine (by decide +kernel) (klen B.b (by decide +kernel) (Bl.at "len" (by decide +kernel)) (kv B.b (by decide +kernel)))))
  FW.pgs_nil)
  (FW.pgs_one (pg_ret (pd_tup (pad_cons (ktuple B.b (by decide +kernel) (Bl.at "tuple" (by decide +kernel)) (pd_lc (own := [("row", 4)]) (gg := (gName 4)) (ix := [4]) B.b (kseq B.b (kv B.b (by decide +kernel))) (by decide +kernel) (fun _ _ _ _ _ B1 => (ktg (i := 4) B1 (by decide +kernel))) (fun _ _ _ _ _ B1 => pcs_nil) (fun _ _ _ _ _ B1 => (ktuple B1 (by decide +kernel) (Bl.at "tuple" (by decide +kernel)) (kv B1 (by decide +kernel)))))) (pad_cons (ktuple B.b (by decide +kernel) (Bl.at "tuple" (by decide +kernel)) (kv B.b (by decide +kernel))) pad_nil))))))))))
theorem ok_need_machine (hK : C.K = K) (hmg : C.mg = mg) (F : Fun K "need_machine" "need_machine" st_need_machine fa fd) (hm : mg "need_machine" = some (.ref fa)) (hb : Binds K fd ps_need_machine []) (Bl : BLT C.mg) (h_MOST_KINDS : ConA C "MOST_KINDS" (.int 4)) (h_MOST_STATES : ConA C "MOST_STATES" (.int 8)) (h_READING_BOUND : ConA C "READING_BOUND" (.int 100)) (c_is_sequence : CalA P w K mg base C "is_sequence" ps_is_sequence 1 m_is_sequence) (c_is_pair : CalA P w K mg base C "is_pair" ps_is_pair 2 m_is_pair) (c_is_row_below : CalA P w K mg base C "is_row_below" ps_is_row_below 4 m_is_row_below) (e_InvalidMachine : XH P K mg "InvalidMachine" "at") : CalA P w K mg base C "need_machine" ps_need_machine 5 m_need_machine :=
  fun C' s => cal_of F hm hb ⟨rfl, rfl, rfl, (by decide +kernel), rfl, (by decide +kernel), (by decide +kernel)⟩ (by decide +kernel) (s.K.trans hK) (s.mg.trans hmg) fun cdv A outer s0 H E B hc => b_need_machine B rfl (s.blt Bl) (ConA.cv h_MOST_KINDS s) (ConA.cv h_MOST_STATES s) (ConA.cv h_READING_BOUND s) (CalA.cv c_is_sequence s) (CalA.cv c_is_pair s) (CalA.cv c_is_row_below s) e_InvalidMachine
def st_machine_sizes : Stmt := tpS 18
def ps_machine_sizes : List Str := ["machine"]
def N_machine_sizes : List Str := ["machine", "maps", "readings"]
def g_machine_sizes : G :=
  (sSeq (sAsg (tgTup [(tgName 1), (tgName 2)]) (dO (callM m_need_machine (.d (gv 0) :: []))))
  (sRet (shM (tupM (aCons (op1 lenD (gv 2)) (aCons (op1 lenD (gv 1)) aNil))))))
def m_machine_sizes : Fm := runF 1 3 [] g_machine_sizes
theorem b_machine_sizes {X : Cx} {C : Ct} {W : WX} (B : Bst X C W 5 N_machine_sizes (defScope st_machine_sizes)) (hk : X.env.scope.kind = .function) (Bl : BLT C.mg) (c_need_machine : CalA X.prog X.w X.K X.mg X.base C "need_machine" ps_need_machine 5 m_need_machine)  : PGs' X C W [] (defBody st_machine_sizes) g_machine_sizes := by
  exact (FW.pgs_cons (gs_asg (PN.d (kcall B.b (c_need_machine _ SameC.rfl) (by decide) (by decide +kernel) (pav_d (kv B.b (by decide +kernel)) pav_nil))) (ktt (es := [(.Name "maps" _), (.Name "readings" _)]) B.b (ptgs_cons (ktg (i := 1) B.b (by decide +kernel)) (ptgs_cons (ktg (i := 2) B.b (by decide +kernel)) ptgs_nil))))
  (FW.pgs_one (pg_ret (pd_tup (pad_cons (klen B.b (by decide +kernel) (Bl.at "len" (by decide +kernel)) (kv B.b (by decide +kernel))) (pad_cons (klen B.b (by decide +kernel) (Bl.at "len" (by decide +kernel)) (kv B.b (by decide +kernel))) pad_nil))))))
theorem ok_machine_sizes (hK : C.K = K) (hmg : C.mg = mg) (F : Fun K "machine_sizes" "machine_sizes" st_machine_sizes fa fd) (hm : mg "machine_sizes" = some (.ref fa)) (hb : Binds K fd ps_machine_sizes []) (Bl : BLT C.mg) (c_need_machine : CalA P w K mg base C "need_machine" ps_need_machine 5 m_need_machine)  : CalA P w K mg base C "machine_sizes" ps_machine_sizes 6 m_machine_sizes :=
  fun C' s => cal_of F hm hb ⟨rfl, rfl, rfl, (by decide +kernel), rfl, (by decide +kernel), (by decide +kernel)⟩ (by decide +kernel) (s.K.trans hK) (s.mg.trans hmg) fun cdv A outer s0 H E B hc => b_machine_sizes B rfl (s.blt Bl) (CalA.cv c_need_machine s) 
def st_need_late : Stmt := tpS 19
def ps_need_late : List Str := ["machine", "value"]
def N_need_late : List Str := ["machine", "value", "kinds", "at", "kind"]
def g_need_late : G :=
  (sSeq (sSet 2 (shM (op2 ixD (dO (callM m_machine_sizes (.d (gv 0) :: []))) (cst (.int 1)))))
  (sSeq (sIf (notM (blM (dO (callM m_is_sequence (.d (gv 1) :: [])))))
  (sRaise "InvalidLate" "at" (op1 negD (cst (.int 1))))
  sNext)
  (sSeq (sFor (itE (gv 1)) (tgTup [(tgName 3), (tgName 4)])
  (sIf (orM (notM (blM (dO (callM m_is_below (.d (gv 4) :: .d (gv 2) :: []))))) (blM (op2 (cmpD .In) (gv 4) (slcM (gv 1) (sxM none) (sxM (some (gv 3)))))))
  (sRaise "InvalidLate" "at" (gv 3))
  sNext))
  (sRet (shM (op1 tupleD (op1 sortedD (gv 1))))))))
def m_need_late : Fm := runF 2 5 [] g_need_late
theorem b_need_late {X : Cx} {C : Ct} {W : WX} (B : Bst X C W 6 N_need_late (defScope st_need_late)) (hk : X.env.scope.kind = .function) (Bl : BLT C.mg) (c_is_below : CalA X.prog X.w X.K X.mg X.base C "is_below" ps_is_below 3 m_is_below) (c_is_sequence : CalA X.prog X.w X.K X.mg X.base C "is_sequence" ps_is_sequence 1 m_is_sequence) (c_machine_sizes : CalA X.prog X.w X.K X.mg X.base C "machine_sizes" ps_machine_sizes 6 m_machine_sizes) (e_InvalidLate : XH X.prog X.K X.mg "InvalidLate" "at") : PGs' X C W [] (defBody st_need_late) g_need_late := by
  obtain ⟨_, _, x_InvalidLate⟩ := e_InvalidLate
  exact (FW.pgs_cons (gs_set B.b (by decide +kernel) (kix B.b (PN.d (kcall B.b (c_machine_sizes _ SameC.rfl) (by decide) (by decide +kernel) (pav_d (kv B.b (by decide +kernel)) pav_nil))) pd_int))
  (FW.pgs_cons (pg_if (pq_not (pq_val (PN.d (kcall B.b (c_is_sequence _ SameC.rfl) (by decide) (by decide +kernel) (pav_d (kv B.b (by decide +kernel)) pav_nil)))))
  (FW.pgs_one (kraise B.b x_InvalidLate (by decide +kernel) (pd_neg pd_int)))
  FW.pgs_nil)
  (FW.pgs_cons (kfor B (kenum B.b (by decide +kernel) (Bl.at "enumerate" (by decide +kernel)) (kv B.b (by decide +kernel))) (ktt (es := [(.Name "at" _), (.Name "kind" _)]) B.b (ptgs_cons (ktg (i := 3) B.b (by decide +kernel)) (ptgs_cons (ktg (i := 4) B.b (by decide +kernel)) ptgs_nil)))
  (FW.pgs_one (pg_if (PWq.q (pwq_or (pq_not (pq_val (PN.d (kcall B.b (c_is_below _ SameC.rfl) (by decide) (by decide +kernel) (pav_d (kv B.b (by decide +kernel)) (pav_d (kv B.b (by decide +kernel)) pav_nil)))))) (pwq_or1 (kcmpq B.b (kv B.b (by decide +kernel)) (kslc B.b (kv B.b (by decide +kernel)) px_none (px_some (kv B.b (by decide +kernel))))))))
  (FW.pgs_one (kraise B.b x_InvalidLate (by decide +kernel) (kv B.b (by decide +kernel))))
  FW.pgs_nil)))
  (FW.pgs_one (pg_ret (ktuple B.b (by decide +kernel) (Bl.at "tuple" (by decide +kernel)) (ksorted B.b (by decide +kernel) (Bl.at "sorted" (by decide +kernel)) (kv B.b (by decide +kernel)))))))))
theorem ok_need_late (hK : C.K = K) (hmg : C.mg = mg) (F : Fun K "need_late" "need_late" st_need_late fa fd) (hm : mg "need_late" = some (.ref fa)) (hb : Binds K fd ps_need_late []) (Bl : BLT C.mg) (c_is_below : CalA P w K mg base C "is_below" ps_is_below 3 m_is_below) (c_is_sequence : CalA P w K mg base C "is_sequence" ps_is_sequence 1 m_is_sequence) (c_machine_sizes : CalA P w K mg base C "machine_sizes" ps_machine_sizes 6 m_machine_sizes) (e_InvalidLate : XH P K mg "InvalidLate" "at") : CalA P w K mg base C "need_late" ps_need_late 7 m_need_late :=
  fun C' s => cal_of F hm hb ⟨rfl, rfl, rfl, (by decide +kernel), rfl, (by decide +kernel), (by decide +kernel)⟩ (by decide +kernel) (s.K.trans hK) (s.mg.trans hmg) fun cdv A outer s0 H E B hc => b_need_late B rfl (s.blt Bl) (CalA.cv c_is_below s) (CalA.cv c_is_sequence s) (CalA.cv c_machine_sizes s) e_InvalidLate
def st_states_along : Stmt := tpS 20
def ps_states_along : List Str := ["maps", "word"]
def N_states_along : List Str := ["maps", "word", "states", "kind"]
def g_states_along : G :=
  (sSeq (sSet 2 (olM (aCons (cst (.int 0)) aNil)))
  (sSeq (sFor (itS (gv 1)) (tgName 3)
  (sDrop (shM (lopM appL 2 (aCons (frzM noL 2 (op2 ixD (op2 ixD (gv 0) (gv 3)) (op2 ixD (gv 2) (op1 negD (cst (.int 1)))))) aNil)))))
  (sRet (shM (shrV 2)))))
def m_states_along : Fm := runF 2 4 [] g_states_along
theorem b_states_along {X : Cx} {C : Ct} {W : WX} (B : Bst X C W 0 N_states_along (defScope st_states_along)) (hk : X.env.scope.kind = .function) (Bl : BLT C.mg)   : PGs' X C W [] (defBody st_states_along) g_states_along := by
  exact (FW.pgs_cons (gs_setO B.b (by decide +kernel) (pn_lst (pad_cons pd_int pad_nil)))
  (FW.pgs_cons (kfor B (kseq B.b (kv B.b (by decide +kernel))) (ktg (i := 3) B.b (by decide +kernel))
  (FW.pgs_one (gs_drop (PD.o (kapp B.b (by decide +kernel) (pd_frz (i := 2) (kix B.b (kix B.b (kv B.b (by decide +kernel)) (kv B.b (by decide +kernel))) (kix B.b (kv B.b (by decide +kernel)) (pd_neg pd_int)))))))))
  (FW.pgs_one (pg_ret (pd_shr B.b (by decide +kernel))))))
theorem ok_states_along (hK : C.K = K) (hmg : C.mg = mg) (F : Fun K "states_along" "states_along" st_states_along fa fd) (hm : mg "states_along" = some (.ref fa)) (hb : Binds K fd ps_states_along []) (Bl : BLT C.mg)   : CalA P w K mg base C "states_along" ps_states_along 1 m_states_along :=
  fun C' s => cal_of F hm hb ⟨rfl, rfl, rfl, (by decide +kernel), rfl, (by decide +kernel), (by decide +kernel)⟩ (by decide +kernel) (s.K.trans hK) (s.mg.trans hmg) fun cdv A outer s0 H E B hc => b_states_along B rfl (s.blt Bl)  
def st_kinds_of_news : Stmt := tpS 23
def ps_kinds_of_news : List Str := ["story"]
def N_kinds_of_news : List Str := ["story", "moment", "kind"]
def g_kinds_of_news : G :=
  (sRet (shM (lstC (compM (itS (gv 0)) (tgTup [(tgName 1), (tgName 2)]) (ret true) (gv 2) [1, 2]))))
def m_kinds_of_news : Fm := runF 1 3 [] g_kinds_of_news
theorem b_kinds_of_news {X : Cx} {C : Ct} {W : WX} (B : Bst X C W 0 N_kinds_of_news (defScope st_kinds_of_news)) (hk : X.env.scope.kind = .function) (Bl : BLT C.mg)   : PGs' X C W [] (defBody st_kinds_of_news) g_kinds_of_news := by
  exact (FW.pgs_one (pg_ret (pd_lc (own := [("moment", 1), ("kind", 2)]) (gg := (gTup X.K 2 (gCons (gName 1) (gCons (gName 2) gNil)))) (ix := [1, 2]) B.b (kseq B.b (kv B.b (by decide +kernel))) (by decide +kernel) (fun _ _ _ _ _ B1 => (ktt (es := [(.Name "moment" _), (.Name "kind" _)]) B1 (ptgs_cons (ktg (i := 1) B1 (by decide +kernel)) (ptgs_cons (ktg (i := 2) B1 (by decide +kernel)) ptgs_nil)))) (fun _ _ _ _ _ B1 => pcs_nil) (fun _ _ _ _ _ B1 => (kv B1 (by decide +kernel))))))
theorem ok_kinds_of_news (hK : C.K = K) (hmg : C.mg = mg) (F : Fun K "kinds_of_news" "kinds_of_news" st_kinds_of_news fa fd) (hm : mg "kinds_of_news" = some (.ref fa)) (hb : Binds K fd ps_kinds_of_news []) (Bl : BLT C.mg)   : CalA P w K mg base C "kinds_of_news" ps_kinds_of_news 1 m_kinds_of_news :=
  fun C' s => cal_of F hm hb ⟨rfl, rfl, rfl, (by decide +kernel), rfl, (by decide +kernel), (by decide +kernel)⟩ (by decide +kernel) (s.K.trans hK) (s.mg.trans hmg) fun cdv A outer s0 H E B hc => b_kinds_of_news B rfl (s.blt Bl)  
def st_need_gone : Stmt := tpS 26
def ps_need_gone : List Str := ["machine", "value"]
def N_need_gone : List Str := ["machine", "value", "kinds", "at", "kind"]
def g_need_gone : G :=
  (sSeq (sSet 2 (shM (op2 ixD (dO (callM m_machine_sizes (.d (gv 0) :: []))) (cst (.int 1)))))
  (sSeq (sIf (notM (blM (dO (callM m_is_sequence (.d (gv 1) :: [])))))
  (sRaise "InvalidLot" "at" (op1 negD (cst (.int 1))))
  sNext)
  (sSeq (sFor (itE (gv 1)) (tgTup [(tgName 3), (tgName 4)])
  (sIf (orM (notM (blM (dO (callM m_is_below (.d (gv 4) :: .d (gv 2) :: []))))) (blM (op2 (cmpD .In) (gv 4) (slcM (gv 1) (sxM none) (sxM (some (gv 3)))))))
  (sRaise "InvalidLot" "at" (gv 3))
  sNext))
  (sRet (shM (op1 tupleD (op1 sortedD (gv 1))))))))
def m_need_gone : Fm := runF 2 5 [] g_need_gone
theorem b_need_gone {X : Cx} {C : Ct} {W : WX} (B : Bst X C W 6 N_need_gone (defScope st_need_gone)) (hk : X.env.scope.kind = .function) (Bl : BLT C.mg) (c_is_below : CalA X.prog X.w X.K X.mg X.base C "is_below" ps_is_below 3 m_is_below) (c_is_sequence : CalA X.prog X.w X.K X.mg X.base C "is_sequence" ps_is_sequence 1 m_is_sequence) (c_machine_sizes : CalA X.prog X.w X.K X.mg X.base C "machine_sizes" ps_machine_sizes 6 m_machine_sizes) (e_InvalidLot : XH X.prog X.K X.mg "InvalidLot" "at") : PGs' X C W [] (defBody st_need_gone) g_need_gone := by
  obtain ⟨_, _, x_InvalidLot⟩ := e_InvalidLot
  exact (FW.pgs_cons (gs_set B.b (by decide +kernel) (kix B.b (PN.d (kcall B.b (c_machine_sizes _ SameC.rfl) (by decide) (by decide +kernel) (pav_d (kv B.b (by decide +kernel)) pav_nil))) pd_int))
  (FW.pgs_cons (pg_if (pq_not (pq_val (PN.d (kcall B.b (c_is_sequence _ SameC.rfl) (by decide) (by decide +kernel) (pav_d (kv B.b (by decide +kernel)) pav_nil)))))
  (FW.pgs_one (kraise B.b x_InvalidLot (by decide +kernel) (pd_neg pd_int)))
  FW.pgs_nil)
  (FW.pgs_cons (kfor B (kenum B.b (by decide +kernel) (Bl.at "enumerate" (by decide +kernel)) (kv B.b (by decide +kernel))) (ktt (es := [(.Name "at" _), (.Name "kind" _)]) B.b (ptgs_cons (ktg (i := 3) B.b (by decide +kernel)) (ptgs_cons (ktg (i := 4) B.b (by decide +kernel)) ptgs_nil)))
  (FW.pgs_one (pg_if (PWq.q (pwq_or (pq_not (pq_val (PN.d (kcall B.b (c_is_below _ SameC.rfl) (by decide) (by decide +kernel) (pav_d (kv B.b (by decide +kernel)) (pav_d (kv B.b (by decide +kernel)) pav_nil)))))) (pwq_or1 (kcmpq B.b (kv B.b (by decide +kernel)) (kslc B.b (kv B.b (by decide +kernel)) px_none (px_some (kv B.b (by decide +kernel))))))))
  (FW.pgs_one (kraise B.b x_InvalidLot (by decide +kernel) (kv B.b (by decide +kernel))))
  FW.pgs_nil)))
  (FW.pgs_one (pg_ret (ktuple B.b (by decide +kernel) (Bl.at "tuple" (by decide +kernel)) (ksorted B.b (by decide +kernel) (Bl.at "sorted" (by decide +kernel)) (kv B.b (by decide +kernel)))))))))
theorem ok_need_gone (hK : C.K = K) (hmg : C.mg = mg) (F : Fun K "need_gone" "need_gone" st_need_gone fa fd) (hm : mg "need_gone" = some (.ref fa)) (hb : Binds K fd ps_need_gone []) (Bl : BLT C.mg) (c_is_below : CalA P w K mg base C "is_below" ps_is_below 3 m_is_below) (c_is_sequence : CalA P w K mg base C "is_sequence" ps_is_sequence 1 m_is_sequence) (c_machine_sizes : CalA P w K mg base C "machine_sizes" ps_machine_sizes 6 m_machine_sizes) (e_InvalidLot : XH P K mg "InvalidLot" "at") : CalA P w K mg base C "need_gone" ps_need_gone 7 m_need_gone :=
  fun C' s => cal_of F hm hb ⟨rfl, rfl, rfl, (by decide +kernel), rfl, (by decide +kernel), (by decide +kernel)⟩ (by decide +kernel) (s.K.trans hK) (s.mg.trans hmg) fun cdv A outer s0 H E B hc => b_need_gone B rfl (s.blt Bl) (CalA.cv c_is_below s) (CalA.cv c_is_sequence s) (CalA.cv c_machine_sizes s) e_InvalidLot
def st_is_told_deed : Stmt := tpS 27
def ps_is_told_deed : List Str := ["maps", "value"]
def N_is_told_deed : List Str := ["maps", "value"]
def g_is_told_deed : G :=
  (sSeq (sIf (orM (notM (blM (dO (callM m_is_sequence (.d (gv 1) :: []))))) (orM (blM (op2 (cmpD .NotEq) (op1 lenD (gv 1)) (cst (.int 3)))) (notM (blM (dO (callM m_is_below (.d (op2 ixD (gv 1) (cst (.int 0))) :: .d (cst (.int 1000000)) :: [])))))))
  (sRet (shM (cst (.bl false))))
  sNext)
  (sRet (shM (andV (dO (callM m_is_below (.d (op2 ixD (gv 1) (cst (.int 1))) :: .d (op1 lenD (gv 0)) :: []))) (dO (callM m_is_below (.d (op2 ixD (gv 1) (cst (.int 2))) :: .d (cst (.int 2)) :: [])))))))
def m_is_told_deed : Fm := runF 2 2 [] g_is_told_deed
theorem b_is_told_deed {X : Cx} {C : Ct} {W : WX} (B : Bst X C W 3 N_is_told_deed (defScope st_is_told_deed)) (hk : X.env.scope.kind = .function) (Bl : BLT C.mg) (h_MOMENT_BOUND : ConA C "MOMENT_BOUND" (.int 1000000)) (c_is_below : CalA X.prog X.w X.K X.mg X.base C "is_below" ps_is_below 3 m_is_below) (c_is_sequence : CalA X.prog X.w X.K X.mg X.base C "is_sequence" ps_is_sequence 1 m_is_sequence)  : PGs' X C W [] (defBody st_is_told_deed) g_is_told_deed := by
  exact (FW.pgs_cons (pg_if (PWq.q (pwq_or (pq_not (pq_val (PN.d (kcall B.b (c_is_sequence _ SameC.rfl) (by decide) (by decide +kernel) (pav_d (kv B.b (by decide +kernel)) pav_nil))))) (pwq_or (kcmpq B.b (klen B.b (by decide +kernel) (Bl.at "len" (by decide +kernel)) (kv B.b (by decide +kernel))) pd_int) (pwq_or1 (pq_not (pq_val (PN.d (kcall B.b (c_is_below _ SameC.rfl) (by decide) (by decide +kernel) (pav_d (kix B.b (kv B.b (by decide +kernel)) pd_int) (pav_d (kcon B.b (by decide +kernel) (h_MOMENT_BOUND _ SameC.rfl)) pav_nil))))))))))
  (FW.pgs_one (pg_ret pd_bl))
  FW.pgs_nil)
  (FW.pgs_one (pg_ret (pd_and (PN.d (kcall B.b (c_is_below _ SameC.rfl) (by decide) (by decide +kernel) (pav_d (kix B.b (kv B.b (by decide +kernel)) pd_int) (pav_d (klen B.b (by decide +kernel) (Bl.at "len" (by decide +kernel)) (kv B.b (by decide +kernel))) pav_nil)))) (pd_one (PN.d (kcall B.b (c_is_below _ SameC.rfl) (by decide) (by decide +kernel) (pav_d (kix B.b (kv B.b (by decide +kernel)) pd_int) (pav_d pd_int pav_nil)))))))))
theorem ok_is_told_deed (hK : C.K = K) (hmg : C.mg = mg) (F : Fun K "is_told_deed" "is_told_deed" st_is_told_deed fa fd) (hm : mg "is_told_deed" = some (.ref fa)) (hb : Binds K fd ps_is_told_deed []) (Bl : BLT C.mg) (h_MOMENT_BOUND : ConA C "MOMENT_BOUND" (.int 1000000)) (c_is_below : CalA P w K mg base C "is_below" ps_is_below 3 m_is_below) (c_is_sequence : CalA P w K mg base C "is_sequence" ps_is_sequence 1 m_is_sequence)  : CalA P w K mg base C "is_told_deed" ps_is_told_deed 4 m_is_told_deed :=
  fun C' s => cal_of F hm hb ⟨rfl, rfl, rfl, (by decide +kernel), rfl, (by decide +kernel), (by decide +kernel)⟩ (by decide +kernel) (s.K.trans hK) (s.mg.trans hmg) fun cdv A outer s0 H E B hc => b_is_told_deed B rfl (s.blt Bl) (ConA.cv h_MOMENT_BOUND s) (CalA.cv c_is_below s) (CalA.cv c_is_sequence s) 
def st_fits_deeds : Stmt := tpS 28
def ps_fits_deeds : List Str := ["late", "gone", "ahead", "deed"]
def N_fits_deeds : List Str := ["late", "gone", "ahead", "deed", "moment", "kind", "withdrawn", "other"]
def g_fits_deeds : G :=
  (sSeq (sAsg (tgTup [(tgName 4), (tgName 5), (tgName 6)]) (gv 3))
  (sSeq (sIf (blM (op2 (cmpD .Eq) (gv 6) (cst (.int 1))))
  (sRet (shM (andV (op2 (cmpD .In) (gv 5) (gv 1)) (andV (op2 (cmpD .In) (tupM (aCons (gv 4) (aCons (gv 5) (aCons (cst (.int 0)) aNil)))) (gv 2)) (op2 (cmpD .NotIn) (tupM (aCons (gv 4) (aCons (gv 5) (aCons (cst (.int 1)) aNil)))) (gv 2))))))
  sNext)
  (sSeq (sIf (blM (op2 (cmpD .In) (gv 5) (gv 0)))
  (sRet (shM (op1 allD (lstC (compM (itS (gv 2)) (tgName 7) (ret true) (op2 (cmpD .NotEq) (gv 4) (op2 ixD (gv 7) (cst (.int 0)))) [7])))))
  sNext)
  (sRet (shM (op1 allD (lstC (compM (itS (gv 2)) (tgName 7) (ret true) (op2 (cmpD .Gt) (gv 4) (op2 ixD (gv 7) (cst (.int 0)))) [7]))))))))
def m_fits_deeds : Fm := runF 4 8 [] g_fits_deeds
theorem b_fits_deeds {X : Cx} {C : Ct} {W : WX} (B : Bst X C W 0 N_fits_deeds (defScope st_fits_deeds)) (hk : X.env.scope.kind = .function) (Bl : BLT C.mg)   : PGs' X C W [] (defBody st_fits_deeds) g_fits_deeds := by
  exact (FW.pgs_cons (gs_asg (kv B.b (by decide +kernel)) (ktt (es := [(.Name "moment" _), (.Name "kind" _), (.Name "withdrawn" _)]) B.b (ptgs_cons (ktg (i := 4) B.b (by decide +kernel)) (ptgs_cons (ktg (i := 5) B.b (by decide +kernel)) (ptgs_cons (ktg (i := 6) B.b (by decide +kernel)) ptgs_nil)))))
  (FW.pgs_cons (pg_if (kcmpq B.b (kv B.b (by decide +kernel)) pd_int)
  (FW.pgs_one (pg_ret (pd_and (kcmp B.b (kv B.b (by decide +kernel)) (kv B.b (by decide +kernel))) (pd_and (kcmp B.b (pd_tup (pad_cons (kv B.b (by decide +kernel)) (pad_cons (kv B.b (by decide +kernel)) (pad_cons pd_int pad_nil)))) (kv B.b (by decide +kernel))) (pd_one (kcmp B.b (pd_tup (pad_cons (kv B.b (by decide +kernel)) (pad_cons (kv B.b (by decide +kernel)) (pad_cons pd_int pad_nil)))) (kv B.b (by decide +kernel))))))))
  FW.pgs_nil)
  (FW.pgs_cons (pg_if (kcmpq B.b (kv B.b (by decide +kernel)) (kv B.b (by decide +kernel)))
  (FW.pgs_one (pg_ret (kall B.b (by decide +kernel) (Bl.at "all" (by decide +kernel)) (pd_lc (own := [("other", 7)]) (gg := (gName 7)) (ix := [7]) B.b (kseq B.b (kv B.b (by decide +kernel))) (by decide +kernel) (fun _ _ _ _ _ B1 => (ktg (i := 7) B1 (by decide +kernel))) (fun _ _ _ _ _ B1 => pcs_nil) (fun _ _ _ _ _ B1 => (kcmp B1 (kv B1 (by decide +kernel)) (kix B1 (kv B1 (by decide +kernel)) pd_int)))))))
  FW.pgs_nil)
  (FW.pgs_one (pg_ret (kall B.b (by decide +kernel) (Bl.at "all" (by decide +kernel)) (pd_lc (own := [("other", 7)]) (gg := (gName 7)) (ix := [7]) B.b (kseq B.b (kv B.b (by decide +kernel))) (by decide +kernel) (fun _ _ _ _ _ B1 => (ktg (i := 7) B1 (by decide +kernel))) (fun _ _ _ _ _ B1 => pcs_nil) (fun _ _ _ _ _ B1 => (kcmp B1 (kv B1 (by decide +kernel)) (kix B1 (kv B1 (by decide +kernel)) pd_int))))))))))
theorem ok_fits_deeds (hK : C.K = K) (hmg : C.mg = mg) (F : Fun K "fits_deeds" "fits_deeds" st_fits_deeds fa fd) (hm : mg "fits_deeds" = some (.ref fa)) (hb : Binds K fd ps_fits_deeds []) (Bl : BLT C.mg)   : CalA P w K mg base C "fits_deeds" ps_fits_deeds 1 m_fits_deeds :=
  fun C' s => cal_of F hm hb ⟨rfl, rfl, rfl, (by decide +kernel), rfl, (by decide +kernel), (by decide +kernel)⟩ (by decide +kernel) (s.K.trans hK) (s.mg.trans hmg) fun cdv A outer s0 H E B hc => b_fits_deeds B rfl (s.blt Bl)  
def st_need_withdrawn : Stmt := tpS 29
def ps_need_withdrawn : List Str := ["machine", "late", "gone", "value"]
def N_need_withdrawn : List Str := ["machine", "late", "gone", "value", "maps", "found", "at", "deed"]
def g_need_withdrawn : G :=
  (sSeq (sPar [4, 1] (oCons (shM (op2 ixD (dO (callM m_need_machine (.d (gv 0) :: []))) (cst (.int 0)))) (oCons (shM (dO (callM m_need_late (.d (gv 0) :: .d (gv 1) :: [])))) oNil)))
  (sSeq (sSet 2 (shM (dO (callM m_need_gone (.d (gv 0) :: .d (gv 2) :: [])))))
  (sSeq (sIf (orM (notM (blM (dO (callM m_is_sequence (.d (gv 3) :: []))))) (blM (op2 (cmpD .Gt) (op1 lenD (gv 3)) (cst (.int 2000)))))
  (sRaise "InvalidGone" "at" (op1 negD (cst (.int 1))))
  sNext)
  (sSeq (sSet 5 (olM aNil))
  (sSeq (sFor (itE (gv 3)) (tgTup [(tgName 6), (tgName 7)])
  (sSeq (sIf (frzM (fun _ => true) 5 (orM (notM (blM (dO (callM m_is_told_deed (.d (gv 4) :: .d (gv 7) :: []))))) (notM (blM (dO (callM m_fits_deeds (.d (gv 1) :: .d (gv 2) :: .d (gv 5) :: .d (op1 tupleD (gv 7)) :: [])))))))
  (sRaise "InvalidGone" "at" (gv 6))
  sNext)
  (sDrop (shM (lopM appL 5 (aCons (op1 tupleD (gv 7)) aNil))))))
  (sRet (shM (op1 tupleD (shrV 5)))))))))
def m_need_withdrawn : Fm := runF 4 8 [] g_need_withdrawn
theorem b_need_withdrawn {X : Cx} {C : Ct} {W : WX} (B : Bst X C W 7 N_need_withdrawn (defScope st_need_withdrawn)) (hk : X.env.scope.kind = .function) (Bl : BLT C.mg) (h_MOST_DEEDS : ConA C "MOST_DEEDS" (.int 2000)) (c_is_sequence : CalA X.prog X.w X.K X.mg X.base C "is_sequence" ps_is_sequence 1 m_is_sequence) (c_need_machine : CalA X.prog X.w X.K X.mg X.base C "need_machine" ps_need_machine 5 m_need_machine) (c_need_late : CalA X.prog X.w X.K X.mg X.base C "need_late" ps_need_late 7 m_need_late) (c_need_gone : CalA X.prog X.w X.K X.mg X.base C "need_gone" ps_need_gone 7 m_need_gone) (c_is_told_deed : CalA X.prog X.w X.K X.mg X.base C "is_told_deed" ps_is_told_deed 4 m_is_told_deed) (c_fits_deeds : CalA X.prog X.w X.K X.mg X.base C "fits_deeds" ps_fits_deeds 1 m_fits_deeds) (e_InvalidGone : XH X.prog X.K X.mg "InvalidGone" "at") : PGs' X C W [] (defBody st_need_withdrawn) g_need_withdrawn := by
  obtain ⟨_, _, x_InvalidGone⟩ := e_InvalidGone
  exact (FW.pgs_cons (gs_par2 B.b (by decide +kernel) (by decide +kernel) (by decide) (by decide +kernel) hk (pao_cons (PD.o (kix B.b (PN.d (kcall B.b (c_need_machine _ SameC.rfl) (by decide) (by decide +kernel) (pav_d (kv B.b (by decide +kernel)) pav_nil))) pd_int)) (pao_cons (PD.o (PN.d (kcall B.b (c_need_late _ SameC.rfl) (by decide) (by decide +kernel) (pav_d (kv B.b (by decide +kernel)) (pav_d (kv B.b (by decide +kernel)) pav_nil))))) pao_nil)))
  (FW.pgs_cons (gs_set B.b (by decide +kernel) (PN.d (kcall B.b (c_need_gone _ SameC.rfl) (by decide) (by decide +kernel) (pav_d (kv B.b (by decide +kernel)) (pav_d (kv B.b (by decide +kernel)) pav_nil)))))
  (FW.pgs_cons (pg_if (PWq.q (pwq_or (pq_not (pq_val (PN.d (kcall B.b (c_is_sequence _ SameC.rfl) (by decide) (by decide +kernel) (pav_d (kv B.b (by decide +kernel)) pav_nil))))) (pwq_or1 (kcmpq B.b (klen B.b (by decide +kernel) (Bl.at "len" (by decide +kernel)) (kv B.b (by decide +kernel))) (kcon B.b (by decide +kernel) (h_MOST_DEEDS _ SameC.rfl))))))
  (FW.pgs_one (kraise B.b x_InvalidGone (by decide +kernel) (pd_neg pd_int)))
  FW.pgs_nil)
  (FW.pgs_cons (gs_setO B.b (by decide +kernel) (pn_lst pad_nil))
  (FW.pgs_cons (kfor B (kenum B.b (by decide +kernel) (Bl.at "enumerate" (by decide +kernel)) (kv B.b (by decide +kernel))) (ktt (es := [(.Name "at" _), (.Name "deed" _)]) B.b (ptgs_cons (ktg (i := 6) B.b (by decide +kernel)) (ptgs_cons (ktg (i := 7) B.b (by decide +kernel)) ptgs_nil)))
  (FW.pgs_cons (pg_if (pq_frz (i := 5) (PWq.q (pwq_or (pq_not (pq_val (PN.d (kcall B.b (c_is_told_deed _ SameC.rfl) (by decide) (by decide +kernel) (pav_d (kv B.b (by decide +kernel)) (pav_d (kv B.b (by decide +kernel)) pav_nil)))))) (pwq_or1 (pq_not (pq_val (PN.d (kcall B.b (c_fits_deeds _ SameC.rfl) (by decide) (by decide +kernel) (pav_d (kv B.b (by decide +kernel)) (pav_d (kv B.b (by decide +kernel)) (pav_d (kv B.b (by decide +kernel)) (pav_d (ktuple B.b (by decide +kernel) (Bl.at "tuple" (by decide +kernel)) (kv B.b (by decide +kernel))) pav_nil))))))))))))
  (FW.pgs_one (kraise B.b x_InvalidGone (by decide +kernel) (kv B.b (by decide +kernel))))
  FW.pgs_nil)
  (FW.pgs_one (gs_drop (PD.o (kapp B.b (by decide +kernel) (ktuple B.b (by decide +kernel) (Bl.at "tuple" (by decide +kernel)) (kv B.b (by decide +kernel)))))))))
  (FW.pgs_one (pg_ret (ktuple B.b (by decide +kernel) (Bl.at "tuple" (by decide +kernel)) (pd_shr B.b (by decide +kernel))))))))))
theorem ok_need_withdrawn (hK : C.K = K) (hmg : C.mg = mg) (F : Fun K "need_withdrawn" "need_withdrawn" st_need_withdrawn fa fd) (hm : mg "need_withdrawn" = some (.ref fa)) (hb : Binds K fd ps_need_withdrawn []) (Bl : BLT C.mg) (h_MOST_DEEDS : ConA C "MOST_DEEDS" (.int 2000)) (c_is_sequence : CalA P w K mg base C "is_sequence" ps_is_sequence 1 m_is_sequence) (c_need_machine : CalA P w K mg base C "need_machine" ps_need_machine 5 m_need_machine) (c_need_late : CalA P w K mg base C "need_late" ps_need_late 7 m_need_late) (c_need_gone : CalA P w K mg base C "need_gone" ps_need_gone 7 m_need_gone) (c_is_told_deed : CalA P w K mg base C "is_told_deed" ps_is_told_deed 4 m_is_told_deed) (c_fits_deeds : CalA P w K mg base C "fits_deeds" ps_fits_deeds 1 m_fits_deeds) (e_InvalidGone : XH P K mg "InvalidGone" "at") : CalA P w K mg base C "need_withdrawn" ps_need_withdrawn 8 m_need_withdrawn :=
  fun C' s => cal_of F hm hb ⟨rfl, rfl, rfl, (by decide +kernel), rfl, (by decide +kernel), (by decide +kernel)⟩ (by decide +kernel) (s.K.trans hK) (s.mg.trans hmg) fun cdv A outer s0 H E B hc => b_need_withdrawn B rfl (s.blt Bl) (ConA.cv h_MOST_DEEDS s) (CalA.cv c_is_sequence s) (CalA.cv c_need_machine s) (CalA.cv c_need_late s) (CalA.cv c_need_gone s) (CalA.cv c_is_told_deed s) (CalA.cv c_fits_deeds s) e_InvalidGone
theorem okK_need_withdrawn (hK : C.K = K) (hmg : C.mg = mg) (F : Fun K "need_withdrawn" "need_withdrawn" st_need_withdrawn fa fd) (hm : mg "need_withdrawn" = some (.ref fa)) (hb : ∀ (s : Shared) (us : List Value), us.length = ps_need_withdrawn.length → BindsTo s fd ⟨[], ps_need_withdrawn.zip us⟩ (ps_need_withdrawn.zip us)) (Bl : BLT C.mg) (h_MOST_DEEDS : ConA C "MOST_DEEDS" (.int 2000)) (c_is_sequence : CalA P w K mg base C "is_sequence" ps_is_sequence 1 m_is_sequence) (c_need_machine : CalA P w K mg base C "need_machine" ps_need_machine 5 m_need_machine) (c_need_late : CalA P w K mg base C "need_late" ps_need_late 7 m_need_late) (c_need_gone : CalA P w K mg base C "need_gone" ps_need_gone 7 m_need_gone) (c_is_told_deed : CalA P w K mg base C "is_told_deed" ps_is_told_deed 4 m_is_told_deed) (c_fits_deeds : CalA P w K mg base C "fits_deeds" ps_fits_deeds 1 m_fits_deeds) (e_InvalidGone : XH P K mg "InvalidGone" "at") : CalKA P w K mg base C "need_withdrawn" ps_need_withdrawn 8 m_need_withdrawn :=
  fun C' s => calK_of F hm hb ⟨rfl, rfl, rfl, (by decide +kernel), rfl, (by decide +kernel), (by decide +kernel)⟩ (by decide +kernel) (s.K.trans hK) (s.mg.trans hmg) fun cdv A outer s0 H E B hc => b_need_withdrawn B rfl (s.blt Bl) (ConA.cv h_MOST_DEEDS s) (CalA.cv c_is_sequence s) (CalA.cv c_need_machine s) (CalA.cv c_need_late s) (CalA.cv c_need_gone s) (CalA.cv c_is_told_deed s) (CalA.cv c_fits_deeds s) e_InvalidGone
def st_left_news : Stmt := tpS 30
def ps_left_news : List Str := ["story"]
def N_left_news : List Str := ["story", "struck", "deed"]
def g_left_news : G :=
  (sSeq (sSet 1 (shM (lstC (compM (itS (gv 0)) (tgName 2) (blM (op2 (cmpD .Eq) (op2 ixD (gv 2) (cst (.int 2))) (cst (.int 1)))) (op2 ixD (gv 2) (cst (.int 0))) [2]))))
  (sRet (shM (op1 tupleD (op1 sortedD (lstC (compM (itS (gv 0)) (tgName 2) (andM (blM (op2 (cmpD .Eq) (op2 ixD (gv 2) (cst (.int 2))) (cst (.int 0)))) (blM (op2 (cmpD .NotIn) (op2 ixD (gv 2) (cst (.int 0))) (gv 1)))) (slcM (gv 2) (sxM none) (sxM (some (cst (.int 2))))) [2])))))))
def m_left_news : Fm := runF 1 3 [] g_left_news
theorem b_left_news {X : Cx} {C : Ct} {W : WX} (B : Bst X C W 0 N_left_news (defScope st_left_news)) (hk : X.env.scope.kind = .function) (Bl : BLT C.mg)   : PGs' X C W [] (defBody st_left_news) g_left_news := by
  exact (FW.pgs_cons (gs_setC B.b (by decide +kernel) (by decide +kernel) (pd_lc (own := [("deed", 2)]) (gg := (gName 2)) (ix := [2]) B.b (kseq B.b (kv B.b (by decide +kernel))) (by decide +kernel) (fun _ _ _ _ _ B1 => (ktg (i := 2) B1 (by decide +kernel))) (fun _ _ _ _ _ B1 => (pcs_one (kcmpq B1 (kix B1 (kv B1 (by decide +kernel)) pd_int) pd_int))) (fun _ _ _ _ _ B1 => (kix B1 (kv B1 (by decide +kernel)) pd_int))))
  (FW.pgs_one (pg_ret (ktuple B.b (by decide +kernel) (Bl.at "tuple" (by decide +kernel)) (ksorted B.b (by decide +kernel) (Bl.at "sorted" (by decide +kernel)) (pd_lc (own := [("deed", 2)]) (gg := (gName 2)) (ix := [2]) B.b (kseq B.b (kv B.b (by decide +kernel))) (by decide +kernel) (fun _ _ _ _ _ B1 => (ktg (i := 2) B1 (by decide +kernel))) (fun _ _ _ _ _ B1 => (pcs_one (PWq.q (pwq_and (kcmpq B1 (kix B1 (kv B1 (by decide +kernel)) pd_int) pd_int) (pwq_and1 (kcmpq B1 (kix B1 (kv B1 (by decide +kernel)) pd_int) (kv B1 (by decide +kernel)))))))) (fun _ _ _ _ _ B1 => (kslc B1 (kv B1 (by decide +kernel)) px_none (px_some pd_int)))))))))
theorem ok_left_news (hK : C.K = K) (hmg : C.mg = mg) (F : Fun K "left_news" "left_news" st_left_news fa fd) (hm : mg "left_news" = some (.ref fa)) (hb : Binds K fd ps_left_news []) (Bl : BLT C.mg)   : CalA P w K mg base C "left_news" ps_left_news 1 m_left_news :=
  fun C' s => cal_of F hm hb ⟨rfl, rfl, rfl, (by decide +kernel), rfl, (by decide +kernel), (by decide +kernel)⟩ (by decide +kernel) (s.K.trans hK) (s.mg.trans hmg) fun cdv A outer s0 H E B hc => b_left_news B rfl (s.blt Bl)  
def st_standing_news : Stmt := tpS 31
def ps_standing_news : List Str := ["machine", "late", "gone", "story"]
def N_standing_news : List Str := ["machine", "late", "gone", "story"]
def g_standing_news : G :=
  (sRet (callM m_left_news (.d (dO (callM m_need_withdrawn (.d (gv 0) :: .d (gv 1) :: .d (gv 2) :: .d (gv 3) :: []))) :: [])))
def m_standing_news : Fm := runF 4 4 [] g_standing_news
theorem b_standing_news {X : Cx} {C : Ct} {W : WX} (B : Bst X C W 8 N_standing_news (defScope st_standing_news)) (hk : X.env.scope.kind = .function) (Bl : BLT C.mg) (c_need_withdrawn : CalA X.prog X.w X.K X.mg X.base C "need_withdrawn" ps_need_withdrawn 8 m_need_withdrawn) (c_left_news : CalA X.prog X.w X.K X.mg X.base C "left_news" ps_left_news 1 m_left_news)  : PGs' X C W [] (defBody st_standing_news) g_standing_news := by
  exact (FW.pgs_one (pg_retO (kcall B.b (c_left_news _ SameC.rfl) (by decide) (by decide +kernel) (pav_d (PN.d (kcall B.b (c_need_withdrawn _ SameC.rfl) (by decide) (by decide +kernel) (pav_d (kv B.b (by decide +kernel)) (pav_d (kv B.b (by decide +kernel)) (pav_d (kv B.b (by decide +kernel)) (pav_d (kv B.b (by decide +kernel)) pav_nil)))))) pav_nil))))
theorem ok_standing_news (hK : C.K = K) (hmg : C.mg = mg) (F : Fun K "standing_news" "standing_news" st_standing_news fa fd) (hm : mg "standing_news" = some (.ref fa)) (hb : Binds K fd ps_standing_news []) (Bl : BLT C.mg) (c_need_withdrawn : CalA P w K mg base C "need_withdrawn" ps_need_withdrawn 8 m_need_withdrawn) (c_left_news : CalA P w K mg base C "left_news" ps_left_news 1 m_left_news)  : CalA P w K mg base C "standing_news" ps_standing_news 9 m_standing_news :=
  fun C' s => cal_of F hm hb ⟨rfl, rfl, rfl, (by decide +kernel), rfl, (by decide +kernel), (by decide +kernel)⟩ (by decide +kernel) (s.K.trans hK) (s.mg.trans hmg) fun cdv A outer s0 H E B hc => b_standing_news B rfl (s.blt Bl) (CalA.cv c_need_withdrawn s) (CalA.cv c_left_news s) 
def st_withdrawn_readings : Stmt := tpS 32
def ps_withdrawn_readings : List Str := ["machine", "late", "gone", "story"]
def N_withdrawn_readings : List Str := ["machine", "late", "gone", "story", "maps", "readings", "many"]
def g_withdrawn_readings : G :=
  (sSeq (sSet 3 (shM (dO (callM m_need_withdrawn (.d (gv 0) :: .d (gv 1) :: .d (gv 2) :: .d (gv 3) :: [])))))
  (sSeq (sAsg (tgTup [(tgName 4), (tgName 5)]) (dO (callM m_need_machine (.d (gv 0) :: []))))
  (sRet (shM (op1 tupleD (lstC (compM (itR1 (op2 addD (op1 lenD (gv 3)) (cst (.int 1)))) (tgName 6) (ret true) (op2 ixD (gv 5) (op2 ixD (dO (callM m_states_along (.d (gv 4) :: .d (dO (callM m_kinds_of_news (.d (dO (callM m_left_news (.d (slcM (gv 3) (sxM none) (sxM (some (gv 6)))) :: []))) :: []))) :: []))) (op1 negD (cst (.int 1))))) [6])))))))
def m_withdrawn_readings : Fm := runF 4 7 [] g_withdrawn_readings
theorem b_withdrawn_readings {X : Cx} {C : Ct} {W : WX} (B : Bst X C W 8 N_withdrawn_readings (defScope st_withdrawn_readings)) (hk : X.env.scope.kind = .function) (Bl : BLT C.mg) (c_need_machine : CalA X.prog X.w X.K X.mg X.base C "need_machine" ps_need_machine 5 m_need_machine) (c_states_along : CalA X.prog X.w X.K X.mg X.base C "states_along" ps_states_along 1 m_states_along) (c_kinds_of_news : CalA X.prog X.w X.K X.mg X.base C "kinds_of_news" ps_kinds_of_news 1 m_kinds_of_news) (c_need_withdrawn : CalA X.prog X.w X.K X.mg X.base C "need_withdrawn" ps_need_withdrawn 8 m_need_withdrawn) (c_left_news : CalA X.prog X.w X.K X.mg X.base C "left_news" ps_left_news 1 m_left_news)  : PGs' X C W [] (defBody st_withdrawn_readings) g_withdrawn_readings := by
  exact (FW.pgs_cons (gs_set B.b (by decide +kernel) (PN.d (kcall B.b (c_need_withdrawn _ SameC.rfl) (by decide) (by decide +kernel) (pav_d (kv B.b (by decide +kernel)) (pav_d (kv B.b (by decide +kernel)) (pav_d (kv B.b (by decide +kernel)) (pav_d (kv B.b (by decide +kernel)) pav_nil)))))))
  (FW.pgs_cons (gs_asg (PN.d (kcall B.b (c_need_machine _ SameC.rfl) (by decide) (by decide +kernel) (pav_d (kv B.b (by decide +kernel)) pav_nil))) (ktt (es := [(.Name "maps" _), (.Name "readings" _)]) B.b (ptgs_cons (ktg (i := 4) B.b (by decide +kernel)) (ptgs_cons (ktg (i := 5) B.b (by decide +kernel)) ptgs_nil))))
  (FW.pgs_one (pg_ret (ktuple B.b (by decide +kernel) (Bl.at "tuple" (by decide +kernel)) (pd_lc (own := [("many", 6)]) (gg := (gName 6)) (ix := [6]) B.b (krange B.b (by decide +kernel) (Bl.at "range" (by decide +kernel)) (kadd B.b (klen B.b (by decide +kernel) (Bl.at "len" (by decide +kernel)) (kv B.b (by decide +kernel))) pd_int)) (by decide +kernel) (fun _ _ _ _ _ B1 => (ktg (i := 6) B1 (by decide +kernel))) (fun _ _ _ _ _ B1 => pcs_nil) (fun _ _ _ _ _ B1 => (kix B1 (kv B1 (by decide +kernel)) (kix B1 (PN.d (kcall B1 (c_states_along _ SameC.rfl) (by decide) (by decide +kernel) (pav_d (kv B1 (by decide +kernel)) (pav_d (PN.d (kcall B1 (c_kinds_of_news _ SameC.rfl) (by decide) (by decide +kernel) (pav_d (PN.d (kcall B1 (c_left_news _ SameC.rfl) (by decide) (by decide +kernel) (pav_d (kslc B1 (kv B1 (by decide +kernel)) px_none (px_some (kv B1 (by decide +kernel)))) pav_nil))) pav_nil))) pav_nil)))) (pd_neg pd_int))))))))))
theorem ok_withdrawn_readings (hK : C.K = K) (hmg : C.mg = mg) (F : Fun K "withdrawn_readings" "withdrawn_readings" st_withdrawn_readings fa fd) (hm : mg "withdrawn_readings" = some (.ref fa)) (hb : Binds K fd ps_withdrawn_readings []) (Bl : BLT C.mg) (c_need_machine : CalA P w K mg base C "need_machine" ps_need_machine 5 m_need_machine) (c_states_along : CalA P w K mg base C "states_along" ps_states_along 1 m_states_along) (c_kinds_of_news : CalA P w K mg base C "kinds_of_news" ps_kinds_of_news 1 m_kinds_of_news) (c_need_withdrawn : CalA P w K mg base C "need_withdrawn" ps_need_withdrawn 8 m_need_withdrawn) (c_left_news : CalA P w K mg base C "left_news" ps_left_news 1 m_left_news)  : CalA P w K mg base C "withdrawn_readings" ps_withdrawn_readings 9 m_withdrawn_readings :=
  fun C' s => cal_of F hm hb ⟨rfl, rfl, rfl, (by decide +kernel), rfl, (by decide +kernel), (by decide +kernel)⟩ (by decide +kernel) (s.K.trans hK) (s.mg.trans hmg) fun cdv A outer s0 H E B hc => b_withdrawn_readings B rfl (s.blt Bl) (CalA.cv c_need_machine s) (CalA.cv c_states_along s) (CalA.cv c_kinds_of_news s) (CalA.cv c_need_withdrawn s) (CalA.cv c_left_news s) 
def st__law_box : Stmt := tpS 34
def ps__law_box : List Str := ["_law_script"]
def N__law_box : List Str := ["_law_script", "_law_cells", "_law_cell", "_law_blend"]
def g__law_box : G :=
  (sSeq (sSet 1 (shM (lstC (compM (itS (slcF 0 (sxM (some (cst (.int 60)))))) (tgName 2) (ret true) (op1 absD (op1 intD (gv 2))) [2]))))
  (sSeq (sSet 3 (shM (cst (.int 52711))))
  (sSeq (sFor (itS (gv 1)) (tgName 2)
  (sSet 3 (shM (op2 modD (op1 intD (op2 addD (op2 addD (op2 mulD (gv 3) (cst (.int 16807))) (op2 modD (op1 intD (gv 2)) (cst (.int 2147483563)))) (cst (.int 77)))) (cst (.int 2147483647))))))
  (sRet (olMO (oCons (olC (compM (itS (gv 1)) (tgName 2) (blM (op2 (cmpD .GtE) (gv 2) (op2 powD (cst (.int 10)) (cst (.int 18))))) (gv 2) [2])) (oCons (shM (gv 3)) oNil)))))))
def m__law_box : Fm := runF 1 4 [0] g__law_box
theorem b__law_box {X : Cx} {C : Ct} {W : WX} (B : Bst X C W 0 N__law_box (defScope st__law_box)) (hk : X.env.scope.kind = .function) (Bl : BLT C.mg)   : PGs' X C W [0] (defBody st__law_box) g__law_box := by
  exact (FW.pgs_cons (gs_lcD (own := [("_law_cell", 2)]) (gg := (gName 2)) (ix := [2]) B.b (by decide +kernel) hk (kseq B.b (pd_slcF B.b (by decide +kernel) (px_some pd_int))) (by decide +kernel) (fun _ _ _ _ _ B1 => (ktg (i := 2) B1 (by decide +kernel))) (fun _ _ _ _ _ B1 => pcs_nil) (fun _ _ _ _ _ B1 => (kabs B1 (by decide +kernel) (Bl.at "abs" (by decide +kernel)) (kint B1 (by decide +kernel) (Bl.at "int" (by decide +kernel)) (kv B1 (by decide +kernel))))) (by decide +kernel))
  (FW.pgs_cons (gs_set B.b (by decide +kernel) pd_int)
  (FW.pgs_cons (kfor B (kseq B.b (kv B.b (by decide +kernel))) (ktg (i := 2) B.b (by decide +kernel))
  (FW.pgs_one (gs_set B.b (by decide +kernel) (kmod B.b (kint B.b (by decide +kernel) (Bl.at "int" (by decide +kernel)) (kadd B.b (kadd B.b (kmul B.b (kv B.b (by decide +kernel)) pd_int) (kmod B.b (kint B.b (by decide +kernel) (Bl.at "int" (by decide +kernel)) (kv B.b (by decide +kernel))) pd_int)) pd_int)) pd_int))))
  (FW.pgs_one (pg_retO (pn_lstO (pao_cons (pn_lc (own := [("_law_cell", 2)]) (gg := (gName 2)) (ix := [2]) B.b (kseq B.b (kv B.b (by decide +kernel))) (by decide +kernel) (fun _ _ _ _ _ B1 => (ktg (i := 2) B1 (by decide +kernel))) (fun _ _ _ _ _ B1 => (pcs_one (kcmpq B1 (kv B1 (by decide +kernel)) (kpow B1 pd_int pd_int)))) (fun _ _ _ _ _ B1 => (kv B1 (by decide +kernel)))) (pao_cons (PD.o (kv B.b (by decide +kernel))) pao_nil))))))))
theorem ok__law_box (hK : C.K = K) (hmg : C.mg = mg) (F : Fun K "_law_box" "_law_box" st__law_box fa fd) (hm : mg "_law_box" = some (.ref fa)) (hb : Binds K fd ps__law_box []) (Bl : BLT C.mg)   : CalA P w K mg base C "_law_box" ps__law_box 1 m__law_box :=
  fun C' s => cal_of F hm hb ⟨rfl, rfl, rfl, (by decide +kernel), rfl, (by decide +kernel), (by decide +kernel)⟩ (by decide +kernel) (s.K.trans hK) (s.mg.trans hmg) fun cdv A outer s0 H E B hc => b__law_box B rfl (s.blt Bl)  
def st__law_draw : Stmt := tpS 35
def ps__law_draw : List Str := ["_law_box_here", "_law_many"]
def N__law_draw : List Str := ["_law_box_here", "_law_many", "_law_turn", "_law_rest"]
def g__law_draw : G :=
  (sSeq (sFor (itR1 (cst (.int 60))) (tgName 2)
  (sIf (frzM (fun _ => true) 0 (andM (blM (op2 (cmpD .NotEq) (op2 ixD (gv 0) (cst (.int 0))) (lstM aNil))) (blM (op2 (cmpD .Eq) (op2 ixD (op2 ixD (gv 0) (cst (.int 0))) (cst (.int 0))) (cst (.int 0))))))
  (sDrop (shM (lop2M popL 0 0 (aCons (cst (.int 0)) aNil))))
  sNext))
  (sSeq (sIf (frzM (fun _ => true) 0 (blM (op2 (cmpD .NotEq) (op2 ixD (gv 0) (cst (.int 0))) (lstM aNil))))
  (sSeq (sSet 3 (shM (op1 intD (lop2M popL 0 0 (aCons (cst (.int 0)) aNil)))))
  (sSeq (sDrop (shM (lop2M insL 0 0 (aCons (cst (.int 0)) (aCons (op2 fdivD (gv 3) (gv 1)) aNil)))))
  (sRet (shM (op2 modD (op1 intD (gv 3)) (gv 1))))))
  sNext)
  (sSeq (sPut 0 1 (frzM noL 0 (op2 modD (op1 intD (op2 addD (op2 mulD (op2 ixD (gv 0) (cst (.int 1))) (cst (.int 16807))) (cst (.int 41)))) (cst (.int 2147483647)))))
  (sRet (shM (frzM noL 0 (op2 modD (op1 intD (op2 fdivD (op2 ixD (gv 0) (cst (.int 1))) (cst (.int 101)))) (gv 1))))))))
def m__law_draw : Fm := runF 2 4 [0] g__law_draw
theorem b__law_draw {X : Cx} {C : Ct} {W : WX} (B : Bst X C W 0 N__law_draw (defScope st__law_draw)) (hk : X.env.scope.kind = .function) (Bl : BLT C.mg)   : PGs' X C W [0] (defBody st__law_draw) g__law_draw := by
  exact (FW.pgs_cons (kfor B (krange B.b (by decide +kernel) (Bl.at "range" (by decide +kernel)) pd_int) (ktg (i := 2) B.b (by decide +kernel))
  (FW.pgs_one (pg_if (pq_frz (i := 0) (PWq.q (pwq_and (kcmpq B.b (kix B.b (kv B.b (by decide +kernel)) pd_int) (pd_lst pad_nil)) (pwq_and1 (kcmpq B.b (kix B.b (kix B.b (kv B.b (by decide +kernel)) pd_int) pd_int) pd_int)))))
  (FW.pgs_one (gs_drop (PD.o (pd_lop2 B.b lop_pop mt_popAt PySem.F.slot_list_pop PySem.F.type_list_pop (by decide +kernel) (pad_cons pd_int pad_nil)))))
  FW.pgs_nil)))
  (FW.pgs_cons (pg_if (pq_frz (i := 0) (kcmpq B.b (kix B.b (kv B.b (by decide +kernel)) pd_int) (pd_lst pad_nil)))
  (FW.pgs_cons (gs_set B.b (by decide +kernel) (kint B.b (by decide +kernel) (Bl.at "int" (by decide +kernel)) (pd_lop2 B.b lop_pop mt_popAt PySem.F.slot_list_pop PySem.F.type_list_pop (by decide +kernel) (pad_cons pd_int pad_nil))))
  (FW.pgs_cons (gs_drop (PD.o (pd_lop2 B.b lop_ins mt_insert PySem.F.slot_list_insert PySem.F.type_list_insert (by decide +kernel) (pad_cons pd_int (pad_cons (kfdiv B.b (kv B.b (by decide +kernel)) (kv B.b (by decide +kernel))) pad_nil)))))
  (FW.pgs_one (pg_ret (kmod B.b (kint B.b (by decide +kernel) (Bl.at "int" (by decide +kernel)) (kv B.b (by decide +kernel))) (kv B.b (by decide +kernel)))))))
  FW.pgs_nil)
  (FW.pgs_cons (gs_put B.b (by decide +kernel) (pd_frz (i := 0) (kmod B.b (kint B.b (by decide +kernel) (Bl.at "int" (by decide +kernel)) (kadd B.b (kmul B.b (kix B.b (kv B.b (by decide +kernel)) pd_int) pd_int) pd_int)) pd_int)))
  (FW.pgs_one (pg_ret (pd_frz (i := 0) (kmod B.b (kint B.b (by decide +kernel) (Bl.at "int" (by decide +kernel)) (kfdiv B.b (kix B.b (kv B.b (by decide +kernel)) pd_int) pd_int)) (kv B.b (by decide +kernel)))))))))
theorem ok__law_draw (hK : C.K = K) (hmg : C.mg = mg) (F : Fun K "_law_draw" "_law_draw" st__law_draw fa fd) (hm : mg "_law_draw" = some (.ref fa)) (hb : Binds K fd ps__law_draw []) (Bl : BLT C.mg)   : CalA P w K mg base C "_law_draw" ps__law_draw 1 m__law_draw :=
  fun C' s => cal_of F hm hb ⟨rfl, rfl, rfl, (by decide +kernel), rfl, (by decide +kernel), (by decide +kernel)⟩ (by decide +kernel) (s.K.trans hK) (s.mg.trans hmg) fun cdv A outer s0 H E B hc => b__law_draw B rfl (s.blt Bl)  
def st__law_pick : Stmt := tpS 36
def ps__law_pick : List Str := ["_law_box_here", "_law_some"]
def N__law_pick : List Str := ["_law_box_here", "_law_some"]
def g__law_pick : G :=
  (sRet (shM (op2 ixD (gv 1) (dO (callM m__law_draw (.s 0 :: .d (op1 lenD (gv 1)) :: []))))))
def m__law_pick : Fm := runF 2 2 [0] g__law_pick
theorem b__law_pick {X : Cx} {C : Ct} {W : WX} (B : Bst X C W 1 N__law_pick (defScope st__law_pick)) (hk : X.env.scope.kind = .function) (Bl : BLT C.mg) (c__law_draw : CalA X.prog X.w X.K X.mg X.base C "_law_draw" ps__law_draw 1 m__law_draw)  : PGs' X C W [0] (defBody st__law_pick) g__law_pick := by
  exact (FW.pgs_one (pg_ret (kix B.b (kv B.b (by decide +kernel)) (PN.d (kcall B.b (c__law_draw _ SameC.rfl) (by decide) (by decide +kernel) (pav_b B.b (by decide +kernel) (pav_d (klen B.b (by decide +kernel) (Bl.at "len" (by decide +kernel)) (kv B.b (by decide +kernel))) pav_nil)))))))
theorem ok__law_pick (hK : C.K = K) (hmg : C.mg = mg) (F : Fun K "_law_pick" "_law_pick" st__law_pick fa fd) (hm : mg "_law_pick" = some (.ref fa)) (hb : Binds K fd ps__law_pick []) (Bl : BLT C.mg) (c__law_draw : CalA P w K mg base C "_law_draw" ps__law_draw 1 m__law_draw)  : CalA P w K mg base C "_law_pick" ps__law_pick 2 m__law_pick :=
  fun C' s => cal_of F hm hb ⟨rfl, rfl, rfl, (by decide +kernel), rfl, (by decide +kernel), (by decide +kernel)⟩ (by decide +kernel) (s.K.trans hK) (s.mg.trans hmg) fun cdv A outer s0 H E B hc => b__law_pick B rfl (s.blt Bl) (CalA.cv c__law_draw s) 
def st__law_mixed : Stmt := tpS 37
def ps__law_mixed : List Str := ["_law_box_here", "_law_some"]
def N__law_mixed : List Str := ["_law_box_here", "_law_some", "_law_left", "_law_found", "_law_turn"]
def g__law_mixed : G :=
  (sSeq (sPar [2, 3] (oCons (olL (gv 1)) (oCons (olM aNil) oNil)))
  (sSeq (sFor (itR1 (op1 lenD (gv 1))) (tgName 4)
  (sDrop (shM (lopM appL 3 (aCons (lopM popL 2 (aCons (frzM noL 2 (dO (callM m__law_draw (.s 0 :: .d (op1 lenD (gv 2)) :: [])))) aNil)) aNil)))))
  (sRet (shM (shrV 3)))))
def m__law_mixed : Fm := runF 2 5 [0] g__law_mixed
theorem b__law_mixed {X : Cx} {C : Ct} {W : WX} (B : Bst X C W 1 N__law_mixed (defScope st__law_mixed)) (hk : X.env.scope.kind = .function) (Bl : BLT C.mg) (c__law_draw : CalA X.prog X.w X.K X.mg X.base C "_law_draw" ps__law_draw 1 m__law_draw)  : PGs' X C W [0] (defBody st__law_mixed) g__law_mixed := by
  exact (FW.pgs_cons (gs_par2 B.b (by decide +kernel) (by decide +kernel) (by decide) (by decide +kernel) hk (pao_cons (klistO B.b (by decide +kernel) (Bl.at "list" (by decide +kernel)) (kv B.b (by decide +kernel))) (pao_cons (pn_lst pad_nil) pao_nil)))
  (FW.pgs_cons (kfor B (krange B.b (by decide +kernel) (Bl.at "range" (by decide +kernel)) (klen B.b (by decide +kernel) (Bl.at "len" (by decide +kernel)) (kv B.b (by decide +kernel)))) (ktg (i := 4) B.b (by decide +kernel))
  (FW.pgs_one (gs_drop (PD.o (kapp B.b (by decide +kernel) (kpop B.b (by decide +kernel) (pd_frz (i := 2) (PN.d (kcall B.b (c__law_draw _ SameC.rfl) (by decide) (by decide +kernel) (pav_b B.b (by decide +kernel) (pav_d (klen B.b (by decide +kernel) (Bl.at "len" (by decide +kernel)) (kv B.b (by decide +kernel))) pav_nil)))))))))))
  (FW.pgs_one (pg_ret (pd_shr B.b (by decide +kernel))))))
theorem ok__law_mixed (hK : C.K = K) (hmg : C.mg = mg) (F : Fun K "_law_mixed" "_law_mixed" st__law_mixed fa fd) (hm : mg "_law_mixed" = some (.ref fa)) (hb : Binds K fd ps__law_mixed []) (Bl : BLT C.mg) (c__law_draw : CalA P w K mg base C "_law_draw" ps__law_draw 1 m__law_draw)  : CalA P w K mg base C "_law_mixed" ps__law_mixed 2 m__law_mixed :=
  fun C' s => cal_of F hm hb ⟨rfl, rfl, rfl, (by decide +kernel), rfl, (by decide +kernel), (by decide +kernel)⟩ (by decide +kernel) (s.K.trans hK) (s.mg.trans hmg) fun cdv A outer s0 H E B hc => b__law_mixed B rfl (s.blt Bl) (CalA.cv c__law_draw s) 
def st__law_map : Stmt := tpS 38
def ps__law_map : List Str := ["_law_box_here", "_law_many"]
def N__law_map : List Str := ["_law_box_here", "_law_many", "_law_form", "_law_state", "_law_last"]
def g__law_map : G :=
  (sSeq (sSet 2 (shM (dO (callM m__law_draw (.s 0 :: .d (cst (.int 6)) :: [])))))
  (sSeq (sIf (blM (op2 (cmpD .Eq) (gv 2) (cst (.int 0))))
  (sRet (shM (bnd (rg1M (gv 1)) fun ds => ret (.tup ds))))
  sNext)
  (sSeq (sIf (blM (op2 (cmpD .Eq) (gv 2) (cst (.int 1))))
  (sRet (shM (op2 mulD (tupM (aCons (dO (callM m__law_draw (.s 0 :: .d (gv 1) :: []))) aNil)) (gv 1))))
  sNext)
  (sSeq (sIf (blM (op2 (cmpD .Eq) (gv 2) (cst (.int 2))))
  (sRet (shM (op1 tupleD (lstC (compM (itR1 (gv 1)) (tgName 3) (ret true) (op2 modD (op1 intD (op2 addD (gv 3) (cst (.int 1)))) (gv 1)) [3])))))
  sNext)
  (sSeq (sIf (blM (op2 (cmpD .Eq) (gv 2) (cst (.int 3))))
  (sSeq (sSet 4 (shM (dO (callM m__law_draw (.s 0 :: .d (gv 1) :: [])))))
  (sRet (shM (op1 tupleD (lstC (compM (itR1 (gv 1)) (tgName 3) (ret true) (ifM (blM (op2 (cmpD .Eq) (dO (callM m__law_draw (.s 0 :: .d (cst (.int 2)) :: []))) (cst (.int 0)))) (gv 4) (gv 3)) [3]))))))
  sNext)
  (sSeq (sIf (blM (op2 (cmpD .Eq) (gv 2) (cst (.int 4))))
  (sRet (shM (op1 tupleD (dO (callM m__law_mixed (.s 0 :: .d (bnd (rg1M (gv 1)) fun ds => ret (.lst ds)) :: []))))))
  sNext)
  (sRet (shM (op1 tupleD (lstC (compM (itR1 (gv 1)) (tgName 3) (ret true) (dO (callM m__law_draw (.s 0 :: .d (gv 1) :: []))) [3])))))))))))
def m__law_map : Fm := runF 2 5 [0] g__law_map
theorem b__law_map {X : Cx} {C : Ct} {W : WX} (B : Bst X C W 2 N__law_map (defScope st__law_map)) (hk : X.env.scope.kind = .function) (Bl : BLT C.mg) (c__law_draw : CalA X.prog X.w X.K X.mg X.base C "_law_draw" ps__law_draw 1 m__law_draw) (c__law_mixed : CalA X.prog X.w X.K X.mg X.base C "_law_mixed" ps__law_mixed 2 m__law_mixed)  : PGs' X C W [0] (defBody st__law_map) g__law_map := by
  exact (FW.pgs_cons (gs_set B.b (by decide +kernel) (PN.d (kcall B.b (c__law_draw _ SameC.rfl) (by decide) (by decide +kernel) (pav_b B.b (by decide +kernel) (pav_d pd_int pav_nil)))))
  (FW.pgs_cons (pg_if (kcmpq B.b (kv B.b (by decide +kernel)) pd_int)
  (FW.pgs_one (pg_ret (ktupRg B.b (by decide +kernel) (Bl.at "tuple" (by decide +kernel)) (by decide +kernel) (Bl.at "range" (by decide +kernel)) (kv B.b (by decide +kernel)))))
  FW.pgs_nil)
  (FW.pgs_cons (pg_if (kcmpq B.b (kv B.b (by decide +kernel)) pd_int)
  (FW.pgs_one (pg_ret (kmul B.b (pd_tup (pad_cons (PN.d (kcall B.b (c__law_draw _ SameC.rfl) (by decide) (by decide +kernel) (pav_b B.b (by decide +kernel) (pav_d (kv B.b (by decide +kernel)) pav_nil)))) pad_nil)) (kv B.b (by decide +kernel)))))
  FW.pgs_nil)
  (FW.pgs_cons (pg_if (kcmpq B.b (kv B.b (by decide +kernel)) pd_int)
  (FW.pgs_one (pg_ret (ktuple B.b (by decide +kernel) (Bl.at "tuple" (by decide +kernel)) (pd_lc (own := [("_law_state", 3)]) (gg := (gName 3)) (ix := [3]) B.b (krange B.b (by decide +kernel) (Bl.at "range" (by decide +kernel)) (kv B.b (by decide +kernel))) (by decide +kernel) (fun _ _ _ _ _ B1 => (ktg (i := 3) B1 (by decide +kernel))) (fun _ _ _ _ _ B1 => pcs_nil) (fun _ _ _ _ _ B1 => (kmod B1 (kint B1 (by decide +kernel) (Bl.at "int" (by decide +kernel)) (kadd B1 (kv B1 (by decide +kernel)) pd_int)) (kv B1 (by decide +kernel))))))))
  FW.pgs_nil)
  (FW.pgs_cons (pg_if (kcmpq B.b (kv B.b (by decide +kernel)) pd_int)
  (FW.pgs_cons (gs_set B.b (by decide +kernel) (PN.d (kcall B.b (c__law_draw _ SameC.rfl) (by decide) (by decide +kernel) (pav_b B.b (by decide +kernel) (pav_d (kv B.b (by decide +kernel)) pav_nil)))))
  (FW.pgs_one (pg_ret (ktuple B.b (by decide +kernel) (Bl.at "tuple" (by decide +kernel)) (pd_lc (own := [("_law_state", 3)]) (gg := (gName 3)) (ix := [3]) B.b (krange B.b (by decide +kernel) (Bl.at "range" (by decide +kernel)) (kv B.b (by decide +kernel))) (by decide +kernel) (fun _ _ _ _ _ B1 => (ktg (i := 3) B1 (by decide +kernel))) (fun _ _ _ _ _ B1 => pcs_nil) (fun _ _ _ _ _ B1 => (pd_if (kcmpq B1 (PN.d (kcall B1 (c__law_draw _ SameC.rfl) (by decide) (by decide +kernel) (pav_b B1 (by decide +kernel) (pav_d pd_int pav_nil)))) pd_int) (kv B1 (by decide +kernel)) (kv B1 (by decide +kernel)))))))))
  FW.pgs_nil)
  (FW.pgs_cons (pg_if (kcmpq B.b (kv B.b (by decide +kernel)) pd_int)
  (FW.pgs_one (pg_ret (ktuple B.b (by decide +kernel) (Bl.at "tuple" (by decide +kernel)) (PN.d (kcall B.b (c__law_mixed _ SameC.rfl) (by decide) (by decide +kernel) (pav_b B.b (by decide +kernel) (pav_d (klstRg B.b (by decide +kernel) (Bl.at "list" (by decide +kernel)) (by decide +kernel) (Bl.at "range" (by decide +kernel)) (kv B.b (by decide +kernel))) pav_nil)))))))
  FW.pgs_nil)
  (FW.pgs_one (pg_ret (ktuple B.b (by decide +kernel) (Bl.at "tuple" (by decide +kernel)) (pd_lc (own := [("_law_state", 3)]) (gg := (gName 3)) (ix := [3]) B.b (krange B.b (by decide +kernel) (Bl.at "range" (by decide +kernel)) (kv B.b (by decide +kernel))) (by decide +kernel) (fun _ _ _ _ _ B1 => (ktg (i := 3) B1 (by decide +kernel))) (fun _ _ _ _ _ B1 => pcs_nil) (fun _ _ _ _ _ B1 => (PN.d (kcall B1 (c__law_draw _ SameC.rfl) (by decide) (by decide +kernel) (pav_b B1 (by decide +kernel) (pav_d (kv B1 (by decide +kernel)) pav_nil)))))))))))))))
theorem ok__law_map (hK : C.K = K) (hmg : C.mg = mg) (F : Fun K "_law_map" "_law_map" st__law_map fa fd) (hm : mg "_law_map" = some (.ref fa)) (hb : Binds K fd ps__law_map []) (Bl : BLT C.mg) (c__law_draw : CalA P w K mg base C "_law_draw" ps__law_draw 1 m__law_draw) (c__law_mixed : CalA P w K mg base C "_law_mixed" ps__law_mixed 2 m__law_mixed)  : CalA P w K mg base C "_law_map" ps__law_map 3 m__law_map :=
  fun C' s => cal_of F hm hb ⟨rfl, rfl, rfl, (by decide +kernel), rfl, (by decide +kernel), (by decide +kernel)⟩ (by decide +kernel) (s.K.trans hK) (s.mg.trans hmg) fun cdv A outer s0 H E B hc => b__law_map B rfl (s.blt Bl) (CalA.cv c__law_draw s) (CalA.cv c__law_mixed s) 
def st__law_machine : Stmt := tpS 39
def ps__law_machine : List Str := ["_law_box_here", "_law_most", "_law_kinds"]
def N__law_machine : List Str := ["_law_box_here", "_law_most", "_law_kinds", "_law_many", "_law_shown", "_law_maps", "_law_kind", "_law_state"]
def g__law_machine : G :=
  (sSeq (sSet 3 (shM (op2 addD (cst (.int 2)) (dO (callM m__law_draw (.s 0 :: .d (op2 subD (gv 1) (cst (.int 1))) :: []))))))
  (sSeq (sSet 4 (shM (dO (callM m__law_pick (.s 0 :: .d (lstM (aCons (cst (.int 2)) (aCons (cst (.int 2)) (aCons (cst (.int 3)) (aCons (cst (.int 100)) aNil))))) :: [])))))
  (sSeq (sSet 5 (shM (op1 tupleD (lstC (compM (itR1 (gv 2)) (tgName 6) (ret true) (dO (callM m__law_map (.s 0 :: .d (gv 3) :: []))) [6])))))
  (sRet (shM (tupM (aCons (gv 5) (aCons (op1 tupleD (lstC (compM (itR1 (gv 3)) (tgName 7) (ret true) (dO (callM m__law_draw (.s 0 :: .d (gv 4) :: []))) [7]))) aNil))))))))
def m__law_machine : Fm := runF 3 8 [0] g__law_machine
theorem b__law_machine {X : Cx} {C : Ct} {W : WX} (B : Bst X C W 3 N__law_machine (defScope st__law_machine)) (hk : X.env.scope.kind = .function) (Bl : BLT C.mg) (c__law_draw : CalA X.prog X.w X.K X.mg X.base C "_law_draw" ps__law_draw 1 m__law_draw) (c__law_pick : CalA X.prog X.w X.K X.mg X.base C "_law_pick" ps__law_pick 2 m__law_pick) (c__law_map : CalA X.prog X.w X.K X.mg X.base C "_law_map" ps__law_map 3 m__law_map)  : PGs' X C W [0] (defBody st__law_machine) g__law_machine := by
  exact (FW.pgs_cons (gs_set B.b (by decide +kernel) (kadd B.b pd_int (PN.d (kcall B.b (c__law_draw _ SameC.rfl) (by decide) (by decide +kernel) (pav_b B.b (by decide +kernel) (pav_d (ksub B.b (kv B.b (by decide +kernel)) pd_int) pav_nil))))))
  (FW.pgs_cons (gs_set B.b (by decide +kernel) (PN.d (kcall B.b (c__law_pick _ SameC.rfl) (by decide) (by decide +kernel) (pav_b B.b (by decide +kernel) (pav_d (pd_lst (pad_cons pd_int (pad_cons pd_int (pad_cons pd_int (pad_cons pd_int pad_nil))))) pav_nil)))))
  (FW.pgs_cons (gs_set B.b (by decide +kernel) (ktuple B.b (by decide +kernel) (Bl.at "tuple" (by decide +kernel)) (pd_lc (own := [("_law_kind", 6)]) (gg := (gName 6)) (ix := [6]) B.b (krange B.b (by decide +kernel) (Bl.at "range" (by decide +kernel)) (kv B.b (by decide +kernel))) (by decide +kernel) (fun _ _ _ _ _ B1 => (ktg (i := 6) B1 (by decide +kernel))) (fun _ _ _ _ _ B1 => pcs_nil) (fun _ _ _ _ _ B1 => (PN.d (kcall B1 (c__law_map _ SameC.rfl) (by decide) (by decide +kernel) (pav_b B1 (by decide +kernel) (pav_d (kv B1 (by decide +kernel)) pav_nil))))))))
  (FW.pgs_one (pg_ret (pd_tup (pad_cons (kv B.b (by decide +kernel)) (pad_cons (ktuple B.b (by decide +kernel) (Bl.at "tuple" (by decide +kernel)) (pd_lc (own := [("_law_state", 7)]) (gg := (gName 7)) (ix := [7]) B.b (krange B.b (by decide +kernel) (Bl.at "range" (by decide +kernel)) (kv B.b (by decide +kernel))) (by decide +kernel) (fun _ _ _ _ _ B1 => (ktg (i := 7) B1 (by decide +kernel))) (fun _ _ _ _ _ B1 => pcs_nil) (fun _ _ _ _ _ B1 => (PN.d (kcall B1 (c__law_draw _ SameC.rfl) (by decide) (by decide +kernel) (pav_b B1 (by decide +kernel) (pav_d (kv B1 (by decide +kernel)) pav_nil))))))) pad_nil))))))))
theorem ok__law_machine (hK : C.K = K) (hmg : C.mg = mg) (F : Fun K "_law_machine" "_law_machine" st__law_machine fa fd) (hm : mg "_law_machine" = some (.ref fa)) (hb : Binds K fd ps__law_machine []) (Bl : BLT C.mg) (c__law_draw : CalA P w K mg base C "_law_draw" ps__law_draw 1 m__law_draw) (c__law_pick : CalA P w K mg base C "_law_pick" ps__law_pick 2 m__law_pick) (c__law_map : CalA P w K mg base C "_law_map" ps__law_map 3 m__law_map)  : CalA P w K mg base C "_law_machine" ps__law_machine 4 m__law_machine :=
  fun C' s => cal_of F hm hb ⟨rfl, rfl, rfl, (by decide +kernel), rfl, (by decide +kernel), (by decide +kernel)⟩ (by decide +kernel) (s.K.trans hK) (s.mg.trans hmg) fun cdv A outer s0 H E B hc => b__law_machine B rfl (s.blt Bl) (CalA.cv c__law_draw s) (CalA.cv c__law_pick s) (CalA.cv c__law_map s) 
def st__law_lot : Stmt := tpS 40
def ps__law_lot : List Str := ["_law_box_here", "_law_kinds"]
def N__law_lot : List Str := ["_law_box_here", "_law_kinds", "_law_kind"]
def g__law_lot : G :=
  (sRet (shM (lstC (compM (itR1 (gv 1)) (tgName 2) (blM (op2 (cmpD .Eq) (dO (callM m__law_draw (.s 0 :: .d (cst (.int 2)) :: []))) (cst (.int 0)))) (gv 2) [2]))))
def m__law_lot : Fm := runF 2 3 [0] g__law_lot
theorem b__law_lot {X : Cx} {C : Ct} {W : WX} (B : Bst X C W 1 N__law_lot (defScope st__law_lot)) (hk : X.env.scope.kind = .function) (Bl : BLT C.mg) (c__law_draw : CalA X.prog X.w X.K X.mg X.base C "_law_draw" ps__law_draw 1 m__law_draw)  : PGs' X C W [0] (defBody st__law_lot) g__law_lot := by
  exact (FW.pgs_one (pg_ret (pd_lc (own := [("_law_kind", 2)]) (gg := (gName 2)) (ix := [2]) B.b (krange B.b (by decide +kernel) (Bl.at "range" (by decide +kernel)) (kv B.b (by decide +kernel))) (by decide +kernel) (fun _ _ _ _ _ B1 => (ktg (i := 2) B1 (by decide +kernel))) (fun _ _ _ _ _ B1 => (pcs_one (kcmpq B1 (PN.d (kcall B1 (c__law_draw _ SameC.rfl) (by decide) (by decide +kernel) (pav_b B1 (by decide +kernel) (pav_d pd_int pav_nil)))) pd_int))) (fun _ _ _ _ _ B1 => (kv B1 (by decide +kernel))))))
theorem ok__law_lot (hK : C.K = K) (hmg : C.mg = mg) (F : Fun K "_law_lot" "_law_lot" st__law_lot fa fd) (hm : mg "_law_lot" = some (.ref fa)) (hb : Binds K fd ps__law_lot []) (Bl : BLT C.mg) (c__law_draw : CalA P w K mg base C "_law_draw" ps__law_draw 1 m__law_draw)  : CalA P w K mg base C "_law_lot" ps__law_lot 2 m__law_lot :=
  fun C' s => cal_of F hm hb ⟨rfl, rfl, rfl, (by decide +kernel), rfl, (by decide +kernel), (by decide +kernel)⟩ (by decide +kernel) (s.K.trans hK) (s.mg.trans hmg) fun cdv A outer s0 H E B hc => b__law_lot B rfl (s.blt Bl) (CalA.cv c__law_draw s) 
def st__law_led : Stmt := tpS 41
def ps__law_led : List Str := ["_law_maps", "_law_state", "_law_word"]
def N__law_led : List Str := ["_law_maps", "_law_state", "_law_word", "_law_kind"]
def g__law_led : G :=
  (sSeq (sFor (itS (gv 2)) (tgName 3)
  (sSet 1 (shM (op2 ixD (op2 ixD (gv 0) (gv 3)) (gv 1)))))
  (sRet (shM (gv 1))))
def m__law_led : Fm := runF 3 4 [] g__law_led
theorem b__law_led {X : Cx} {C : Ct} {W : WX} (B : Bst X C W 0 N__law_led (defScope st__law_led)) (hk : X.env.scope.kind = .function) (Bl : BLT C.mg)   : PGs' X C W [] (defBody st__law_led) g__law_led := by
  exact (FW.pgs_cons (kfor B (kseq B.b (kv B.b (by decide +kernel))) (ktg (i := 3) B.b (by decide +kernel))
  (FW.pgs_one (gs_set B.b (by decide +kernel) (kix B.b (kix B.b (kv B.b (by decide +kernel)) (kv B.b (by decide +kernel))) (kv B.b (by decide +kernel))))))
  (FW.pgs_one (pg_ret (kv B.b (by decide +kernel)))))
theorem ok__law_led (hK : C.K = K) (hmg : C.mg = mg) (F : Fun K "_law_led" "_law_led" st__law_led fa fd) (hm : mg "_law_led" = some (.ref fa)) (hb : Binds K fd ps__law_led []) (Bl : BLT C.mg)   : CalA P w K mg base C "_law_led" ps__law_led 1 m__law_led :=
  fun C' s => cal_of F hm hb ⟨rfl, rfl, rfl, (by decide +kernel), rfl, (by decide +kernel), (by decide +kernel)⟩ (by decide +kernel) (s.K.trans hK) (s.mg.trans hmg) fun cdv A outer s0 H E B hc => b__law_led B rfl (s.blt Bl)  
def st__law_moment : Stmt := tpS 42
def ps__law_moment : List Str := ["_law_box_here", "_law_top", "_law_used", "_law_is_late"]
def N__law_moment : List Str := ["_law_box_here", "_law_top", "_law_used", "_law_is_late", "_law_moment_here", "_law_turn"]
def g__law_moment : G :=
  (sSeq (sIf (orM (notM (blM (gv 3))) (blM (op2 (cmpD .Eq) (gv 2) (lstM aNil))))
  (sRet (shM (op2 addD (op2 addD (gv 1) (cst (.int 1))) (dO (callM m__law_draw (.s 0 :: .d (cst (.int 3)) :: []))))))
  sNext)
  (sSeq (sSet 4 (shM (op1 maxD (lstM (aCons (cst (.int 0)) (aCons (op2 subD (op2 addD (dO (callM m__law_pick (.s 0 :: .d (gv 2) :: []))) (dO (callM m__law_draw (.s 0 :: .d (cst (.int 7)) :: [])))) (cst (.int 4))) aNil))))))
  (sSeq (sFor (itR1 (cst (.int 40))) (tgName 5)
  (sSeq (sIf (blM (op2 (cmpD .NotIn) (gv 4) (gv 2)))
  (sRet (shM (gv 4)))
  sNext)
  (sSet 4 (shM (op2 addD (gv 4) (cst (.int 1)))))))
  (sRet (shM (op2 addD (gv 1) (cst (.int 1))))))))
def m__law_moment : Fm := runF 4 6 [0] g__law_moment
theorem b__law_moment {X : Cx} {C : Ct} {W : WX} (B : Bst X C W 2 N__law_moment (defScope st__law_moment)) (hk : X.env.scope.kind = .function) (Bl : BLT C.mg) (c__law_draw : CalA X.prog X.w X.K X.mg X.base C "_law_draw" ps__law_draw 1 m__law_draw) (c__law_pick : CalA X.prog X.w X.K X.mg X.base C "_law_pick" ps__law_pick 2 m__law_pick)  : PGs' X C W [0] (defBody st__law_moment) g__law_moment := by
  exact (FW.pgs_cons (pg_if (PWq.q (pwq_or (pq_not (pq_val (kv B.b (by decide +kernel)))) (pwq_or1 (kcmpq B.b (kv B.b (by decide +kernel)) (pd_lst pad_nil)))))
  (FW.pgs_one (pg_ret (kadd B.b (kadd B.b (kv B.b (by decide +kernel)) pd_int) (PN.d (kcall B.b (c__law_draw _ SameC.rfl) (by decide) (by decide +kernel) (pav_b B.b (by decide +kernel) (pav_d pd_int pav_nil)))))))
  FW.pgs_nil)
  (FW.pgs_cons (gs_set B.b (by decide +kernel) (kmax B.b (by decide +kernel) (Bl.at "max" (by decide +kernel)) (pd_lst (pad_cons pd_int (pad_cons (ksub B.b (kadd B.b (PN.d (kcall B.b (c__law_pick _ SameC.rfl) (by decide) (by decide +kernel) (pav_b B.b (by decide +kernel) (pav_d (kv B.b (by decide +kernel)) pav_nil)))) (PN.d (kcall B.b (c__law_draw _ SameC.rfl) (by decide) (by decide +kernel) (pav_b B.b (by decide +kernel) (pav_d pd_int pav_nil))))) pd_int) pad_nil)))))
  (FW.pgs_cons (kfor B (krange B.b (by decide +kernel) (Bl.at "range" (by decide +kernel)) pd_int) (ktg (i := 5) B.b (by decide +kernel))
  (FW.pgs_cons (pg_if (kcmpq B.b (kv B.b (by decide +kernel)) (kv B.b (by decide +kernel)))
  (FW.pgs_one (pg_ret (kv B.b (by decide +kernel))))
  FW.pgs_nil)
  (FW.pgs_one (gs_set B.b (by decide +kernel) (kadd B.b (kv B.b (by decide +kernel)) pd_int)))))
  (FW.pgs_one (pg_ret (kadd B.b (kv B.b (by decide +kernel)) pd_int))))))
theorem ok__law_moment (hK : C.K = K) (hmg : C.mg = mg) (F : Fun K "_law_moment" "_law_moment" st__law_moment fa fd) (hm : mg "_law_moment" = some (.ref fa)) (hb : Binds K fd ps__law_moment []) (Bl : BLT C.mg) (c__law_draw : CalA P w K mg base C "_law_draw" ps__law_draw 1 m__law_draw) (c__law_pick : CalA P w K mg base C "_law_pick" ps__law_pick 2 m__law_pick)  : CalA P w K mg base C "_law_moment" ps__law_moment 3 m__law_moment :=
  fun C' s => cal_of F hm hb ⟨rfl, rfl, rfl, (by decide +kernel), rfl, (by decide +kernel), (by decide +kernel)⟩ (by decide +kernel) (s.K.trans hK) (s.mg.trans hmg) fun cdv A outer s0 H E B hc => b__law_moment B rfl (s.blt Bl) (CalA.cv c__law_draw s) (CalA.cv c__law_pick s) 
def st__law_story : Stmt := tpS 43
def ps__law_story : List Str := ["_law_box_here", "_law_kinds", "_law_late", "_law_gone", "_law_many"]
def N__law_story : List Str := ["_law_box_here", "_law_kinds", "_law_late", "_law_gone", "_law_many", "_law_story_here", "_law_standing_here", "_law_used", "_law_first", "_law_turn", "_law_struck", "_law_news", "_law_kind", "_law_moment_here"]
def g__law_story : G :=
  (sSeq (sPar [5, 6, 7] (oCons (olM aNil) (oCons (olM aNil) (oCons (olM aNil) oNil))))
  (sSeq (sSet 8 (shM (dO (callM m__law_pick (.s 0 :: .d (lstM (aCons (cst (.int 0)) (aCons (cst (.int 0)) (aCons (cst (.int 999900)) aNil)))) :: [])))))
  (sSeq (sFor (itR1 (gv 4)) (tgName 9)
  (sSeq (sSet 10 (shM (dO (frzM noLO 6 (olC (compM (itS (gv 6)) (tgName 11) (blM (op2 (cmpD .In) (op2 ixD (gv 11) (cst (.int 1))) (gv 3))) (gv 11) [11]))))))
  (sIf (andM (blM (op2 (cmpD .NotEq) (gv 10) (lstM aNil))) (blM (op2 (cmpD .Eq) (dO (callM m__law_draw (.s 0 :: .d (cst (.int 3)) :: []))) (cst (.int 0)))))
  (sSeq (sSet 11 (shM (dO (callM m__law_pick (.s 0 :: .d (gv 10) :: [])))))
  (sSeq (sDrop (shM (lopM remL 6 (aCons (gv 11) aNil))))
  (sDrop (shM (lopM appL 5 (aCons (op2 addD (gv 11) (tupM (aCons (cst (.int 1)) aNil))) aNil))))))
  (sSeq (sSet 12 (shM (dO (callM m__law_draw (.s 0 :: .d (gv 1) :: [])))))
  (sSeq (sSet 13 (shM (frzM noL 7 (dO (callM m__law_moment (.s 0 :: .d (op1 maxD (op2 addD (lstM (aCons (op2 subD (gv 8) (cst (.int 1))) aNil)) (gv 7))) :: .d (gv 7) :: .d (op2 (cmpD .In) (gv 12) (gv 2)) :: []))))))
  (sSeq (sDrop (shM (lopM appL 7 (aCons (gv 13) aNil))))
  (sSeq (sDrop (shM (lopM appL 6 (aCons (tupM (aCons (gv 13) (aCons (gv 12) aNil))) aNil))))
  (sDrop (shM (lopM appL 5 (aCons (tupM (aCons (gv 13) (aCons (gv 12) (aCons (cst (.int 0)) aNil)))) aNil)))))))))))
  (sRet (shM (shrV 5))))))
def m__law_story : Fm := runF 5 14 [0] g__law_story
theorem b__law_story {X : Cx} {C : Ct} {W : WX} (B : Bst X C W 3 N__law_story (defScope st__law_story)) (hk : X.env.scope.kind = .function) (Bl : BLT C.mg) (c__law_draw : CalA X.prog X.w X.K X.mg X.base C "_law_draw" ps__law_draw 1 m__law_draw) (c__law_pick : CalA X.prog X.w X.K X.mg X.base C "_law_pick" ps__law_pick 2 m__law_pick) (c__law_moment : CalA X.prog X.w X.K X.mg X.base C "_law_moment" ps__law_moment 3 m__law_moment)  : PGs' X C W [0] (defBody st__law_story) g__law_story := by
  exact (FW.pgs_cons (gs_par3 B.b (by decide +kernel) (by decide +kernel) (by decide +kernel) (by decide) (by decide) (by decide) (by decide +kernel) (by decide +kernel) (by decide +kernel) hk (pao_cons (pn_lst pad_nil) (pao_cons (pn_lst pad_nil) (pao_cons (pn_lst pad_nil) pao_nil))))
  (FW.pgs_cons (gs_set B.b (by decide +kernel) (PN.d (kcall B.b (c__law_pick _ SameC.rfl) (by decide) (by decide +kernel) (pav_b B.b (by decide +kernel) (pav_d (pd_lst (pad_cons pd_int (pad_cons pd_int (pad_cons pd_int pad_nil)))) pav_nil)))))
  (FW.pgs_cons (kfor B (krange B.b (by decide +kernel) (Bl.at "range" (by decide +kernel)) (kv B.b (by decide +kernel))) (ktg (i := 9) B.b (by decide +kernel))
  (FW.pgs_cons (gs_lcZD (own := [("_law_news", 11)]) (gg := (gName 11)) (ix := [11]) B.b (by decide +kernel) hk (kseq B.b (kv B.b (by decide +kernel))) (by decide +kernel) (fun _ _ _ _ _ B1 => (ktg (i := 11) B1 (by decide +kernel))) (fun _ _ _ _ _ B1 => (pcs_one (kcmpq B1 (kix B1 (kv B1 (by decide +kernel)) pd_int) (kv B1 (by decide +kernel))))) (fun _ _ _ _ _ B1 => (kv B1 (by decide +kernel))) (by decide +kernel))
  (FW.pgs_one (pg_if (PWq.q (pwq_and (kcmpq B.b (kv B.b (by decide +kernel)) (pd_lst pad_nil)) (pwq_and1 (kcmpq B.b (PN.d (kcall B.b (c__law_draw _ SameC.rfl) (by decide) (by decide +kernel) (pav_b B.b (by decide +kernel) (pav_d pd_int pav_nil)))) pd_int))))
  (FW.pgs_cons (gs_set B.b (by decide +kernel) (PN.d (kcall B.b (c__law_pick _ SameC.rfl) (by decide) (by decide +kernel) (pav_b B.b (by decide +kernel) (pav_d (kv B.b (by decide +kernel)) pav_nil)))))
  (FW.pgs_cons (gs_drop (PD.o (krem B.b (by decide +kernel) (kv B.b (by decide +kernel)))))
  (FW.pgs_one (gs_drop (PD.o (kapp B.b (by decide +kernel) (kadd B.b (kv B.b (by decide +kernel)) (pd_tup (pad_cons pd_int pad_nil)))))))))
  (FW.pgs_cons (gs_set B.b (by decide +kernel) (PN.d (kcall B.b (c__law_draw _ SameC.rfl) (by decide) (by decide +kernel) (pav_b B.b (by decide +kernel) (pav_d (kv B.b (by decide +kernel)) pav_nil)))))
  (FW.pgs_cons (gs_set B.b (by decide +kernel) (pd_frz (i := 7) (PN.d (kcall B.b (c__law_moment _ SameC.rfl) (by decide) (by decide +kernel) (pav_b B.b (by decide +kernel) (pav_d (kmax B.b (by decide +kernel) (Bl.at "max" (by decide +kernel)) (kadd B.b (pd_lst (pad_cons (ksub B.b (kv B.b (by decide +kernel)) pd_int) pad_nil)) (kv B.b (by decide +kernel)))) (pav_d (kv B.b (by decide +kernel)) (pav_d (kcmp B.b (kv B.b (by decide +kernel)) (kv B.b (by decide +kernel))) pav_nil))))))))
  (FW.pgs_cons (gs_drop (PD.o (kapp B.b (by decide +kernel) (kv B.b (by decide +kernel)))))
  (FW.pgs_cons (gs_drop (PD.o (kapp B.b (by decide +kernel) (pd_tup (pad_cons (kv B.b (by decide +kernel)) (pad_cons (kv B.b (by decide +kernel)) pad_nil))))))
  (FW.pgs_one (gs_drop (PD.o (kapp B.b (by decide +kernel) (pd_tup (pad_cons (kv B.b (by decide +kernel)) (pad_cons (kv B.b (by decide +kernel)) (pad_cons pd_int pad_nil))))))))))))))))
  (FW.pgs_one (pg_ret (pd_shr B.b (by decide +kernel)))))))
theorem ok__law_story (hK : C.K = K) (hmg : C.mg = mg) (F : Fun K "_law_story" "_law_story" st__law_story fa fd) (hm : mg "_law_story" = some (.ref fa)) (hb : Binds K fd ps__law_story []) (Bl : BLT C.mg) (c__law_draw : CalA P w K mg base C "_law_draw" ps__law_draw 1 m__law_draw) (c__law_pick : CalA P w K mg base C "_law_pick" ps__law_pick 2 m__law_pick) (c__law_moment : CalA P w K mg base C "_law_moment" ps__law_moment 3 m__law_moment)  : CalA P w K mg base C "_law_story" ps__law_story 4 m__law_story :=
  fun C' s => cal_of F hm hb ⟨rfl, rfl, rfl, (by decide +kernel), rfl, (by decide +kernel), (by decide +kernel)⟩ (by decide +kernel) (s.K.trans hK) (s.mg.trans hmg) fun cdv A outer s0 H E B hc => b__law_story B rfl (s.blt Bl) (CalA.cv c__law_draw s) (CalA.cv c__law_pick s) (CalA.cv c__law_moment s) 
def st__law_standing : Stmt := tpS 44
def ps__law_standing : List Str := ["_law_story_here"]
def N__law_standing : List Str := ["_law_story_here", "_law_found", "_law_moment_here", "_law_kind", "_law_struck"]
def g__law_standing : G :=
  (sSeq (sSet 1 (olM aNil))
  (sSeq (sFor (itS (gv 0)) (tgTup [(tgName 2), (tgName 3), (tgName 4)])
  (sIf (blM (op2 (cmpD .Eq) (gv 4) (cst (.int 1))))
  (sDrop (shM (lopM remL 1 (aCons (tupM (aCons (gv 2) (aCons (gv 3) aNil))) aNil))))
  (sDrop (shM (lopM appL 1 (aCons (tupM (aCons (gv 2) (aCons (gv 3) aNil))) aNil))))))
  (sRet (shM (op1 sortedD (shrV 1))))))
def m__law_standing : Fm := runF 1 5 [] g__law_standing
theorem b__law_standing {X : Cx} {C : Ct} {W : WX} (B : Bst X C W 0 N__law_standing (defScope st__law_standing)) (hk : X.env.scope.kind = .function) (Bl : BLT C.mg)   : PGs' X C W [] (defBody st__law_standing) g__law_standing := by
  exact (FW.pgs_cons (gs_setO B.b (by decide +kernel) (pn_lst pad_nil))
  (FW.pgs_cons (kfor B (kseq B.b (kv B.b (by decide +kernel))) (ktt (es := [(.Name "_law_moment_here" _), (.Name "_law_kind" _), (.Name "_law_struck" _)]) B.b (ptgs_cons (ktg (i := 2) B.b (by decide +kernel)) (ptgs_cons (ktg (i := 3) B.b (by decide +kernel)) (ptgs_cons (ktg (i := 4) B.b (by decide +kernel)) ptgs_nil))))
  (FW.pgs_one (pg_if (kcmpq B.b (kv B.b (by decide +kernel)) pd_int)
  (FW.pgs_one (gs_drop (PD.o (krem B.b (by decide +kernel) (pd_tup (pad_cons (kv B.b (by decide +kernel)) (pad_cons (kv B.b (by decide +kernel)) pad_nil)))))))
  (FW.pgs_one (gs_drop (PD.o (kapp B.b (by decide +kernel) (pd_tup (pad_cons (kv B.b (by decide +kernel)) (pad_cons (kv B.b (by decide +kernel)) pad_nil))))))))))
  (FW.pgs_one (pg_ret (ksorted B.b (by decide +kernel) (Bl.at "sorted" (by decide +kernel)) (pd_shr B.b (by decide +kernel)))))))
theorem ok__law_standing (hK : C.K = K) (hmg : C.mg = mg) (F : Fun K "_law_standing" "_law_standing" st__law_standing fa fd) (hm : mg "_law_standing" = some (.ref fa)) (hb : Binds K fd ps__law_standing []) (Bl : BLT C.mg)   : CalA P w K mg base C "_law_standing" ps__law_standing 1 m__law_standing :=
  fun C' s => cal_of F hm hb ⟨rfl, rfl, rfl, (by decide +kernel), rfl, (by decide +kernel), (by decide +kernel)⟩ (by decide +kernel) (s.K.trans hK) (s.mg.trans hmg) fun cdv A outer s0 H E B hc => b__law_standing B rfl (s.blt Bl)  
def st__law_right : Stmt := tpS 45
def ps__law_right : List Str := ["_law_machine_here", "_law_story_here"]
def N__law_right : List Str := ["_law_machine_here", "_law_story_here", "_law_moment_here", "_law_kind"]
def g__law_right : G :=
  (sRet (shM (op2 ixD (op2 ixD (gv 0) (cst (.int 1))) (dO (callM m__law_led (.d (op2 ixD (gv 0) (cst (.int 0))) :: .d (cst (.int 0)) :: .d (lstC (compM (itS (dO (callM m__law_standing (.d (gv 1) :: [])))) (tgTup [(tgName 2), (tgName 3)]) (ret true) (gv 3) [2, 3])) :: []))))))
def m__law_right : Fm := runF 2 4 [] g__law_right
theorem b__law_right {X : Cx} {C : Ct} {W : WX} (B : Bst X C W 1 N__law_right (defScope st__law_right)) (hk : X.env.scope.kind = .function) (Bl : BLT C.mg) (c__law_led : CalA X.prog X.w X.K X.mg X.base C "_law_led" ps__law_led 1 m__law_led) (c__law_standing : CalA X.prog X.w X.K X.mg X.base C "_law_standing" ps__law_standing 1 m__law_standing)  : PGs' X C W [] (defBody st__law_right) g__law_right := by
  exact (FW.pgs_one (pg_ret (kix B.b (kix B.b (kv B.b (by decide +kernel)) pd_int) (PN.d (kcall B.b (c__law_led _ SameC.rfl) (by decide) (by decide +kernel) (pav_d (kix B.b (kv B.b (by decide +kernel)) pd_int) (pav_d pd_int (pav_d (pd_lc (own := [("_law_moment_here", 2), ("_law_kind", 3)]) (gg := (gTup X.K 2 (gCons (gName 2) (gCons (gName 3) gNil)))) (ix := [2, 3]) B.b (kseq B.b (PN.d (kcall B.b (c__law_standing _ SameC.rfl) (by decide) (by decide +kernel) (pav_d (kv B.b (by decide +kernel)) pav_nil)))) (by decide +kernel) (fun _ _ _ _ _ B1 => (ktt (es := [(.Name "_law_moment_here" _), (.Name "_law_kind" _)]) B1 (ptgs_cons (ktg (i := 2) B1 (by decide +kernel)) (ptgs_cons (ktg (i := 3) B1 (by decide +kernel)) ptgs_nil)))) (fun _ _ _ _ _ B1 => pcs_nil) (fun _ _ _ _ _ B1 => (kv B1 (by decide +kernel)))) pav_nil))))))))
theorem ok__law_right (hK : C.K = K) (hmg : C.mg = mg) (F : Fun K "_law_right" "_law_right" st__law_right fa fd) (hm : mg "_law_right" = some (.ref fa)) (hb : Binds K fd ps__law_right []) (Bl : BLT C.mg) (c__law_led : CalA P w K mg base C "_law_led" ps__law_led 1 m__law_led) (c__law_standing : CalA P w K mg base C "_law_standing" ps__law_standing 1 m__law_standing)  : CalA P w K mg base C "_law_right" ps__law_right 2 m__law_right :=
  fun C' s => cal_of F hm hb ⟨rfl, rfl, rfl, (by decide +kernel), rfl, (by decide +kernel), (by decide +kernel)⟩ (by decide +kernel) (s.K.trans hK) (s.mg.trans hmg) fun cdv A outer s0 H E B hc => b__law_right B rfl (s.blt Bl) (CalA.cv c__law_led s) (CalA.cv c__law_standing s) 
def st__law_wrong_deeds : Stmt := tpS 46
def ps__law_wrong_deeds : List Str := ["_law_kinds", "_law_late", "_law_gone", "_law_story_here", "_law_at"]
def N__law_wrong_deeds : List Str := ["_law_kinds", "_law_late", "_law_gone", "_law_story_here", "_law_at", "_law_ahead", "_law_standing_here", "_law_used", "_law_deed", "_law_top", "_law_wrong", "_law_moment_here", "_law_kind", "_law_other", "_law_struck"]
def g__law_wrong_deeds : G :=
  (sSeq (sSet 5 (shM (slcM (gv 3) (sxM none) (sxM (some (gv 4))))))
  (sSeq (sPar [6, 7] (oCons (shM (dO (callM m__law_standing (.d (gv 5) :: [])))) (oCons (shM (lstC (compM (itS (gv 5)) (tgName 8) (ret true) (op2 ixD (gv 8) (cst (.int 0))) [8]))) oNil)))
  (sSeq (sSet 9 (shM (op1 maxD (op2 addD (lstM (aCons (cst (.int 0)) aNil)) (gv 7)))))
  (sSeq (sSet 10 (olM (aCons (cst .non) (aCons (cst (.int 7)) (aCons (tupM aNil) (aCons (tupM (aCons (op2 addD (gv 9) (cst (.int 1))) (aCons (cst (.int 0)) aNil))) (aCons (tupM (aCons (op2 addD (gv 9) (cst (.int 1))) (aCons (gv 0) (aCons (cst (.int 0)) aNil)))) (aCons (tupM (aCons (op2 addD (gv 9) (cst (.int 1))) (aCons (op2 subD (cst (.int 0)) (cst (.int 1))) (aCons (cst (.int 0)) aNil)))) (aCons (tupM (aCons (op2 addD (gv 9) (cst (.int 1))) (aCons (cst (.bl true)) (aCons (cst (.int 0)) aNil)))) (aCons (tupM (aCons (op2 addD (gv 9) (cst (.int 1))) (aCons (cst (.int 0)) (aCons (cst (.int 2)) aNil)))) aNil))))))))))
  (sSeq (sSet 10 (frzM noLO 10 (addO (gv 10) (lstM (aCons (tupM (aCons (cst (.int 1000000)) (aCons (cst (.int 0)) (aCons (cst (.int 0)) aNil)))) (aCons (tupM (aCons (op2 subD (cst (.int 0)) (cst (.int 1))) (aCons (cst (.int 0)) (aCons (cst (.int 0)) aNil)))) (aCons (tupM (aCons (cst (.str "1")) (aCons (cst (.int 0)) (aCons (cst (.int 0)) aNil)))) (aCons (tupM (aCons (op2 addD (gv 9) (cst (.int 1))) (aCons (cst (.int 0)) (aCons (cst (.bl false)) aNil)))) (aCons (tupM (aCons (op2 addD (gv 9) (cst (.int 1))) (aCons (cst (.int 0)) (aCons (cst (.int 0)) (aCons (cst (.int 0)) aNil))))) aNil)))))))))
  (sSeq (sFor (itS (gv 7)) (tgName 11)
  (sSet 10 (frzM noLO 10 (addO (gv 10) (lstC (compM (itR1 (gv 0)) (tgName 12) (ret true) (tupM (aCons (gv 11) (aCons (gv 12) (aCons (cst (.int 0)) aNil)))) [12]))))))
  (sSeq (sFor (itS (gv 6)) (tgTup [(tgName 11), (tgName 12)])
  (sSet 10 (frzM noLO 10 (addO (gv 10) (lstC (compM (itR1 (gv 0)) (tgName 13) (orM (blM (op2 (cmpD .NotEq) (gv 13) (gv 12))) (blM (op2 (cmpD .NotIn) (gv 13) (gv 2)))) (tupM (aCons (gv 11) (aCons (gv 13) (aCons (cst (.int 1)) aNil)))) [13]))))))
  (sSeq (sFor (itS (gv 5)) (tgTup [(tgName 11), (tgName 12), (tgName 14)])
  (sIf (blM (op2 (cmpD .Eq) (gv 14) (cst (.int 1))))
  (sDrop (shM (lopM appL 10 (aCons (tupM (aCons (gv 11) (aCons (gv 12) (aCons (cst (.int 1)) aNil)))) aNil))))
  sNext))
  (sSeq (sDrop (shM (lopM appL 10 (aCons (tupM (aCons (op2 addD (gv 9) (cst (.int 1))) (aCons (cst (.int 0)) (aCons (cst (.int 1)) aNil)))) aNil))))
  (sSeq (sIf (andM (blM (op2 (cmpD .NotEq) (gv 7) (lstM aNil))) (andM (blM (op2 (cmpD .Gt) (gv 9) (cst (.int 0)))) (blM (op2 (cmpD .NotIn) (op2 subD (gv 9) (cst (.int 1))) (gv 7)))))
  (sSet 10 (frzM noLO 10 (addO (gv 10) (lstC (compM (itR1 (gv 0)) (tgName 12) (blM (op2 (cmpD .NotIn) (gv 12) (gv 1))) (tupM (aCons (op2 subD (gv 9) (cst (.int 1))) (aCons (gv 12) (aCons (cst (.int 0)) aNil)))) [12])))))
  sNext)
  (sRet (shM (shrV 10)))))))))))))
def m__law_wrong_deeds : Fm := runF 5 15 [] g__law_wrong_deeds
theorem b__law_wrong_deeds {X : Cx} {C : Ct} {W : WX} (B : Bst X C W 1 N__law_wrong_deeds (defScope st__law_wrong_deeds)) (hk : X.env.scope.kind = .function) (Bl : BLT C.mg) (c__law_standing : CalA X.prog X.w X.K X.mg X.base C "_law_standing" ps__law_standing 1 m__law_standing)  : PGs' X C W [] (defBody st__law_wrong_deeds) g__law_wrong_deeds := by
  exact (FW.pgs_cons (gs_set B.b (by decide +kernel) (kslc B.b (kv B.b (by decide +kernel)) px_none (px_some (kv B.b (by decide +kernel)))))
  (FW.pgs_cons (gs_par2 B.b (by decide +kernel) (by decide +kernel) (by decide) (by decide +kernel) hk (pao_cons (PD.o (PN.d (kcall B.b (c__law_standing _ SameC.rfl) (by decide) (by decide +kernel) (pav_d (kv B.b (by decide +kernel)) pav_nil)))) (pao_cons (PD.o (pd_lc (own := [("_law_deed", 8)]) (gg := (gName 8)) (ix := [8]) B.b (kseq B.b (kv B.b (by decide +kernel))) (by decide +kernel) (fun _ _ _ _ _ B1 => (ktg (i := 8) B1 (by decide +kernel))) (fun _ _ _ _ _ B1 => pcs_nil) (fun _ _ _ _ _ B1 => (kix B1 (kv B1 (by decide +kernel)) pd_int)))) pao_nil)))
  (FW.pgs_cons (gs_set B.b (by decide +kernel) (kmax B.b (by decide +kernel) (Bl.at "max" (by decide +kernel)) (kadd B.b (pd_lst (pad_cons pd_int pad_nil)) (kv B.b (by decide +kernel)))))
  (FW.pgs_cons (gs_setO B.b (by decide +kernel) (pn_lst (pad_cons pd_non (pad_cons pd_int (pad_cons (pd_tup pad_nil) (pad_cons (pd_tup (pad_cons (kadd B.b (kv B.b (by decide +kernel)) pd_int) (pad_cons pd_int pad_nil))) (pad_cons (pd_tup (pad_cons (kadd B.b (kv B.b (by decide +kernel)) pd_int) (pad_cons (kv B.b (by decide +kernel)) (pad_cons pd_int pad_nil)))) (pad_cons (pd_tup (pad_cons (kadd B.b (kv B.b (by decide +kernel)) pd_int) (pad_cons (ksub B.b pd_int pd_int) (pad_cons pd_int pad_nil)))) (pad_cons (pd_tup (pad_cons (kadd B.b (kv B.b (by decide +kernel)) pd_int) (pad_cons pd_bl (pad_cons pd_int pad_nil)))) (pad_cons (pd_tup (pad_cons (kadd B.b (kv B.b (by decide +kernel)) pd_int) (pad_cons pd_int (pad_cons pd_int pad_nil)))) pad_nil))))))))))
  (FW.pgs_cons (gs_setO B.b (by decide +kernel) (pn_frz (i := 10) (kaddO (kv B.b (by decide +kernel)) (pd_lst (pad_cons (pd_tup (pad_cons pd_int (pad_cons pd_int (pad_cons pd_int pad_nil)))) (pad_cons (pd_tup (pad_cons (ksub B.b pd_int pd_int) (pad_cons pd_int (pad_cons pd_int pad_nil)))) (pad_cons (pd_tup (pad_cons pd_str (pad_cons pd_int (pad_cons pd_int pad_nil)))) (pad_cons (pd_tup (pad_cons (kadd B.b (kv B.b (by decide +kernel)) pd_int) (pad_cons pd_int (pad_cons pd_bl pad_nil)))) (pad_cons (pd_tup (pad_cons (kadd B.b (kv B.b (by decide +kernel)) pd_int) (pad_cons pd_int (pad_cons pd_int (pad_cons pd_int pad_nil))))) pad_nil)))))))))
  (FW.pgs_cons (kfor B (kseq B.b (kv B.b (by decide +kernel))) (ktg (i := 11) B.b (by decide +kernel))
  (FW.pgs_one (gs_setO B.b (by decide +kernel) (pn_frz (i := 10) (kaddO (kv B.b (by decide +kernel)) (pd_lc (own := [("_law_kind", 12)]) (gg := (gName 12)) (ix := [12]) B.b (krange B.b (by decide +kernel) (Bl.at "range" (by decide +kernel)) (kv B.b (by decide +kernel))) (by decide +kernel) (fun _ _ _ _ _ B1 => (ktg (i := 12) B1 (by decide +kernel))) (fun _ _ _ _ _ B1 => pcs_nil) (fun _ _ _ _ _ B1 => (pd_tup (pad_cons (kv B1 (by decide +kernel)) (pad_cons (kv B1 (by decide +kernel)) (pad_cons pd_int pad_nil)))))))))))
  (FW.pgs_cons (kfor B (kseq B.b (kv B.b (by decide +kernel))) (ktt (es := [(.Name "_law_moment_here" _), (.Name "_law_kind" _)]) B.b (ptgs_cons (ktg (i := 11) B.b (by decide +kernel)) (ptgs_cons (ktg (i := 12) B.b (by decide +kernel)) ptgs_nil)))
  (FW.pgs_one (gs_setO B.b (by decide +kernel) (pn_frz (i := 10) (kaddO (kv B.b (by decide +kernel)) (pd_lc (own := [("_law_other", 13)]) (gg := (gName 13)) (ix := [13]) B.b (krange B.b (by decide +kernel) (Bl.at "range" (by decide +kernel)) (kv B.b (by decide +kernel))) (by decide +kernel) (fun _ _ _ _ _ B1 => (ktg (i := 13) B1 (by decide +kernel))) (fun _ _ _ _ _ B1 => (pcs_one (PWq.q (pwq_or (kcmpq B1 (kv B1 (by decide +kernel)) (kv B1 (by decide +kernel))) (pwq_or1 (kcmpq B1 (kv B1 (by decide +kernel)) (kv B1 (by decide +kernel)))))))) (fun _ _ _ _ _ B1 => (pd_tup (pad_cons (kv B1 (by decide +kernel)) (pad_cons (kv B1 (by decide +kernel)) (pad_cons pd_int pad_nil)))))))))))
  (FW.pgs_cons (kfor B (kseq B.b (kv B.b (by decide +kernel))) (ktt (es := [(.Name "_law_moment_here" _), (.Name "_law_kind" _), (.Name "_law_struck" _)]) B.b (ptgs_cons (ktg (i := 11) B.b (by decide +kernel)) (ptgs_cons (ktg (i := 12) B.b (by decide +kernel)) (ptgs_cons (ktg (i := 14) B.b (by decide +kernel)) ptgs_nil))))
  (FW.pgs_one (pg_if (kcmpq B.b (kv B.b (by decide +kernel)) pd_int)
  (FW.pgs_one (gs_drop (PD.o (kapp B.b (by decide +kernel) (pd_tup (pad_cons (kv B.b (by decide +kernel)) (pad_cons (kv B.b (by decide +kernel)) (pad_cons pd_int pad_nil))))))))
  FW.pgs_nil)))
  (FW.pgs_cons (gs_drop (PD.o (kapp B.b (by decide +kernel) (pd_tup (pad_cons (kadd B.b (kv B.b (by decide +kernel)) pd_int) (pad_cons pd_int (pad_cons pd_int pad_nil)))))))
  (FW.pgs_cons (pg_if (PWq.q (pwq_and (kcmpq B.b (kv B.b (by decide +kernel)) (pd_lst pad_nil)) (pwq_and (kcmpq B.b (kv B.b (by decide +kernel)) pd_int) (pwq_and1 (kcmpq B.b (ksub B.b (kv B.b (by decide +kernel)) pd_int) (kv B.b (by decide +kernel)))))))
  (FW.pgs_one (gs_setO B.b (by decide +kernel) (pn_frz (i := 10) (kaddO (kv B.b (by decide +kernel)) (pd_lc (own := [("_law_kind", 12)]) (gg := (gName 12)) (ix := [12]) B.b (krange B.b (by decide +kernel) (Bl.at "range" (by decide +kernel)) (kv B.b (by decide +kernel))) (by decide +kernel) (fun _ _ _ _ _ B1 => (ktg (i := 12) B1 (by decide +kernel))) (fun _ _ _ _ _ B1 => (pcs_one (kcmpq B1 (kv B1 (by decide +kernel)) (kv B1 (by decide +kernel))))) (fun _ _ _ _ _ B1 => (pd_tup (pad_cons (ksub B1 (kv B1 (by decide +kernel)) pd_int) (pad_cons (kv B1 (by decide +kernel)) (pad_cons pd_int pad_nil))))))))))
  FW.pgs_nil)
  (FW.pgs_one (pg_ret (pd_shr B.b (by decide +kernel))))))))))))))
theorem ok__law_wrong_deeds (hK : C.K = K) (hmg : C.mg = mg) (F : Fun K "_law_wrong_deeds" "_law_wrong_deeds" st__law_wrong_deeds fa fd) (hm : mg "_law_wrong_deeds" = some (.ref fa)) (hb : Binds K fd ps__law_wrong_deeds []) (Bl : BLT C.mg) (c__law_standing : CalA P w K mg base C "_law_standing" ps__law_standing 1 m__law_standing)  : CalA P w K mg base C "_law_wrong_deeds" ps__law_wrong_deeds 2 m__law_wrong_deeds :=
  fun C' s => cal_of F hm hb ⟨rfl, rfl, rfl, (by decide +kernel), rfl, (by decide +kernel), (by decide +kernel)⟩ (by decide +kernel) (s.K.trans hK) (s.mg.trans hmg) fun cdv A outer s0 H E B hc => b__law_wrong_deeds B rfl (s.blt Bl) (CalA.cv c__law_standing s) 
def st__law_refused : Stmt := tpS 47
def N__law_refused : List Str := ["_law_work", "e"]
def ks__law_refused : List Kl := [⟨"InvalidMachine", true, "at", "machine"⟩, ⟨"InvalidLate", true, "at", "late"⟩, ⟨"InvalidLot", true, "at", "lot"⟩, ⟨"InvalidGone", true, "at", "gone"⟩, ⟨"TwinError", false, "", "other"⟩]
def r__law_refused : D := (.tup [.str "none"])
theorem t__law_refused (F : Fun K "_law_refused" "_law_refused" st__law_refused fa fd) (hm : mg "_law_refused" = some (.ref fa)) (hb : Binds K fd ["_law_work"] []) (e_InvalidMachine : XH P K mg "InvalidMachine" "at") (e_InvalidLate : XH P K mg "InvalidLate" "at") (e_InvalidLot : XH P K mg "InvalidLot" "at") (e_InvalidGone : XH P K mg "InvalidGone" "at") (e_TwinError : ∃ A, mg "TwinError" = some (.ref A)) : HoA P w K mg base C "_law_refused" "_law_work" ks__law_refused r__law_refused := by
  obtain ⟨_, _, x_InvalidMachine⟩ := e_InvalidMachine
  obtain ⟨_, _, x_InvalidLate⟩ := e_InvalidLate
  obtain ⟨_, _, x_InvalidLot⟩ := e_InvalidLot
  obtain ⟨_, _, x_InvalidGone⟩ := e_InvalidGone
  obtain ⟨_, x_TwinError⟩ := e_TwinError
  exact fun C' s => ⟨⟨fa, fd, st__law_refused, N__law_refused, _, _, _, _, _, _, _, _, F, hm, hb, ⟨rfl, rfl, rfl, (by decide +kernel), rfl, (by decide +kernel), (by decide +kernel)⟩, rfl, .inl (by decide +kernel), (by decide +kernel), (by decide +kernel), (by decide +kernel), rfl, fun cdv A outer s H E => (hdk_named (sc := defScope st__law_refused) rfl x_InvalidMachine (by decide +kernel) rfl (by decide +kernel) (by decide +kernel) (by decide +kernel)
    (hdk_named (sc := defScope st__law_refused) rfl x_InvalidLate (by decide +kernel) rfl (by decide +kernel) (by decide +kernel) (by decide +kernel)
    (hdk_named (sc := defScope st__law_refused) rfl x_InvalidLot (by decide +kernel) rfl (by decide +kernel) (by decide +kernel) (by decide +kernel)
    (hdk_named (sc := defScope st__law_refused) rfl x_InvalidGone (by decide +kernel) rfl (by decide +kernel) (by decide +kernel) (by decide +kernel)
    (hdk_plain (sc := defScope st__law_refused) rfl x_TwinError (by decide +kernel)
    hdk_nil))))), fun cdv A outer s H E => ret_tup1⟩⟩
def st__law_refusals : Stmt := tpS 48
def ps__law_refusals : List Str := ["_law_box_here", "_law_machine_here", "_law_late", "_law_gone", "_law_story_here"]
def N__law_refusals : List Str := ["_law_box_here", "_law_machine_here", "_law_late", "_law_gone", "_law_story_here", "_law_kinds", "_law_at", "_law_wrong", "_law_longer", "_law_works", "_law_bad", "_law_work", "_law_due"]
def L__law_refusals : List (M O) := [(callM m_need_withdrawn (.d (gv 1) :: .d (gv 2) :: .d (gv 3) :: .d (gv 8) :: [])),
  (callM m_standing_news (.d (gv 1) :: .d (gv 2) :: .d (gv 3) :: .d (gv 8) :: [])),
  (callM m_withdrawn_readings (.d (gv 1) :: .d (gv 2) :: .d (gv 3) :: .d (op1 tupleD (gv 8)) :: [])),
  (callM m_need_withdrawn (.d (gv 1) :: .d (gv 2) :: .d (gv 3) :: .d (dO (callM m__law_pick (.s 0 :: .d (lstM (aCons (cst .non) (aCons (cst (.int 7)) (aCons (cst (.str "gone")) aNil)))) :: []))) :: [])),
  (callM m_need_withdrawn (.d (gv 1) :: .d (gv 2) :: .d (gv 3) :: .d (op2 mulD (lstM (aCons (tupM (aCons (cst (.int 0)) (aCons (cst (.int 0)) (aCons (cst (.int 0)) aNil)))) aNil)) (cst (.int 2001))) :: [])),
  (callM m_need_gone (.d (gv 1) :: .d (gv 10) :: [])),
  (callM m_withdrawn_readings (.d (gv 1) :: .d (gv 2) :: .d (gv 10) :: .d (cst .non) :: [])),
  (callM m_need_gone (.d (gv 1) :: .d (dO (callM m__law_pick (.s 0 :: .d (lstM (aCons (cst .non) (aCons (cst (.int 1)) (aCons (cst (.str "0")) aNil)))) :: []))) :: [])),
  (callM m_standing_news (.d (gv 1) :: .d (op2 addD (gv 2) (lstM (aCons (gv 5) aNil))) :: .d (gv 10) :: .d (cst .non) :: [])),
  (callM m_need_withdrawn (.d (tupM (aCons (op2 ixD (gv 1) (cst (.int 0))) (aCons (tupM aNil) aNil))) :: .d (cst .non) :: .d (cst .non) :: .d (cst .non) :: [])),
  (callM m_need_withdrawn (.d (gv 1) :: .d (gv 2) :: .d (gv 3) :: .d (lstM aNil) :: []))]
def g__law_refusals : G :=
  (cvG [0] (sSeq (sAsg (tgTup [(tgName 5), (tgName 6)]) (tupM (aCons (op1 lenD (op2 ixD (gv 1) (cst (.int 0)))) (aCons (dO (callM m__law_draw (.s 0 :: .d (op2 addD (op1 lenD (gv 4)) (cst (.int 1))) :: []))) aNil))))
  (sSeq (sSet 7 (shM (dO (callM m__law_pick (.s 0 :: .d (dO (callM m__law_wrong_deeds (.d (gv 5) :: .d (gv 2) :: .d (gv 3) :: .d (gv 4) :: .d (gv 6) :: []))) :: [])))))
  (sSeq (sSet 8 (shM (op2 addD (op2 addD (slcM (gv 4) (sxM none) (sxM (some (gv 6)))) (lstM (aCons (gv 7) aNil))) (lstM (aCons (dO (callM m__law_pick (.s 0 :: .d (lstM (aCons (cst .non) (aCons (tupM (aCons (cst (.int 0)) (aCons (cst (.int 0)) (aCons (cst (.int 0)) aNil)))) aNil))) :: []))) aNil)))))
  (sSeq (sSet 9 (olM (aCons (tupM (aCons (cst (.clo 0)) (aCons (tupM (aCons (cst (.str "gone")) (aCons (gv 6) aNil))) aNil))) aNil)))
  (sSeq (sDrop (shM (lopM appL 9 (aCons (tupM (aCons (cst (.clo 1)) (aCons (tupM (aCons (cst (.str "gone")) (aCons (gv 6) aNil))) aNil))) aNil))))
  (sSeq (sDrop (shM (lopM appL 9 (aCons (tupM (aCons (cst (.clo 2)) (aCons (tupM (aCons (cst (.str "gone")) (aCons (gv 6) aNil))) aNil))) aNil))))
  (sSeq (sDrop (shM (lopM appL 9 (aCons (tupM (aCons (cst (.clo 3)) (aCons (tupM (aCons (cst (.str "gone")) (aCons (op2 subD (cst (.int 0)) (cst (.int 1))) aNil))) aNil))) aNil))))
  (sSeq (sDrop (shM (lopM appL 9 (aCons (tupM (aCons (cst (.clo 4)) (aCons (tupM (aCons (cst (.str "gone")) (aCons (op2 subD (cst (.int 0)) (cst (.int 1))) aNil))) aNil))) aNil))))
  (sSeq (sSet 10 (shM (op2 addD (op1 listDl (gv 3)) (lstM (aCons (dO (callM m__law_pick (.s 0 :: .d (op2 addD (lstM (aCons (gv 5) (aCons (op2 subD (cst (.int 0)) (cst (.int 1))) (aCons (cst (.bl true)) (aCons (cst .non) aNil))))) (gv 3)) :: []))) aNil)))))
  (sSeq (sDrop (shM (lopM appL 9 (aCons (tupM (aCons (cst (.clo 5)) (aCons (tupM (aCons (cst (.str "lot")) (aCons (op1 lenD (gv 3)) aNil))) aNil))) aNil))))
  (sSeq (sDrop (shM (lopM appL 9 (aCons (tupM (aCons (cst (.clo 6)) (aCons (tupM (aCons (cst (.str "lot")) (aCons (op1 lenD (gv 3)) aNil))) aNil))) aNil))))
  (sSeq (sDrop (shM (lopM appL 9 (aCons (tupM (aCons (cst (.clo 7)) (aCons (tupM (aCons (cst (.str "lot")) (aCons (op2 subD (cst (.int 0)) (cst (.int 1))) aNil))) aNil))) aNil))))
  (sSeq (sDrop (shM (lopM appL 9 (aCons (tupM (aCons (cst (.clo 8)) (aCons (tupM (aCons (cst (.str "late")) (aCons (op1 lenD (gv 2)) aNil))) aNil))) aNil))))
  (sSeq (sDrop (shM (lopM appL 9 (aCons (tupM (aCons (cst (.clo 9)) (aCons (tupM (aCons (cst (.str "machine")) (aCons (op2 subD (cst (.int 0)) (cst (.int 1))) aNil))) aNil))) aNil))))
  (sSeq (sDrop (shM (lopM appL 9 (aCons (tupM (aCons (cst (.clo 10)) (aCons (tupM (aCons (cst (.str "none")) aNil)) aNil))) aNil))))
  (sSeq (sFor (itS (lstM (aCons (frzM noL 9 (dO (callM m__law_pick (.s 0 :: .d (gv 9) :: [])))) (aCons (frzM noL 9 (dO (callM m__law_pick (.s 0 :: .d (gv 9) :: [])))) (aCons (frzM noL 9 (dO (callM m__law_pick (.s 0 :: .d (gv 9) :: [])))) aNil))))) (tgTup [(tgName 11), (tgName 12)])
  (sIf (blM (op2 (cmpD .NotEq) (hoM L__law_refusals (tryM subK ks__law_refused r__law_refused) (gv 11)) (gv 12)))
  (sRet (shM (cst (.bl false))))
  sNext))
  (sRet (shM (cst (.bl true)))))))))))))))))))))
def m__law_refusals : Fm := runF 5 13 [0] g__law_refusals
theorem b__law_refusals {X : Cx} {C : Ct} {W : WX} (B : Bst X C W 11 N__law_refusals (defScope st__law_refusals)) (hk : X.env.scope.kind = .function) (Bl : BLT C.mg) (c_need_gone : CalA X.prog X.w X.K X.mg X.base C "need_gone" ps_need_gone 7 m_need_gone) (c_need_withdrawn : CalA X.prog X.w X.K X.mg X.base C "need_withdrawn" ps_need_withdrawn 8 m_need_withdrawn) (c_standing_news : CalA X.prog X.w X.K X.mg X.base C "standing_news" ps_standing_news 9 m_standing_news) (c_withdrawn_readings : CalA X.prog X.w X.K X.mg X.base C "withdrawn_readings" ps_withdrawn_readings 9 m_withdrawn_readings) (c__law_draw : CalA X.prog X.w X.K X.mg X.base C "_law_draw" ps__law_draw 1 m__law_draw) (c__law_pick : CalA X.prog X.w X.K X.mg X.base C "_law_pick" ps__law_pick 2 m__law_pick) (c__law_wrong_deeds : CalA X.prog X.w X.K X.mg X.base C "_law_wrong_deeds" ps__law_wrong_deeds 2 m__law_wrong_deeds) (t__law_refused : HoA X.prog X.w X.K X.mg X.base C "_law_refused" "_law_work" ks__law_refused r__law_refused) (hsub : SubOk X.K X.mg subK)  (Mk : MkrA X C) : PGs' X C W [0] (defBody st__law_refusals) g__law_refusals := by
  exact (pgs_lam (C' := mkC C X [FWV.lamP X _ _ _, FWV.lamP X _ _ _, FWV.lamP X _ _ _, FWV.lamP X _ _ _, FWV.lamP X _ _ _, FWV.lamP X _ _ _, FWV.lamP X _ _ _, FWV.lamP X _ _ _, FWV.lamP X _ _ _, FWV.lamP X _ _ _, FWV.lamP X _ _ _]) mkC_same
  (FW.pgs_cons (gs_asgC (Bas.cv B.b mkC_same) (by decide +kernel) (pd_tup (pad_cons (klen (Bas.cv B.b mkC_same) (by decide +kernel) (Bl.at "len" (by decide +kernel)) (kix (Bas.cv B.b mkC_same) (kv (Bas.cv B.b mkC_same) (by decide +kernel)) pd_int)) (pad_cons (PN.d (kcall (Bas.cv B.b mkC_same) (c__law_draw _ mkC_same) (by decide) (by decide +kernel) (pav_b (Bas.cv B.b mkC_same) (by decide +kernel) (pav_d (kadd (Bas.cv B.b mkC_same) (klen (Bas.cv B.b mkC_same) (by decide +kernel) (Bl.at "len" (by decide +kernel)) (kv (Bas.cv B.b mkC_same) (by decide +kernel))) pd_int) pav_nil)))) pad_nil))) (ktt (es := [(.Name "_law_kinds" _), (.Name "_law_at" _)]) (Bas.cv B.b mkC_same) (ptgs_cons (ktg (i := 5) (Bas.cv B.b mkC_same) (by decide +kernel)) (ptgs_cons (ktg (i := 6) (Bas.cv B.b mkC_same) (by decide +kernel)) ptgs_nil))))
  (FW.pgs_cons (gs_set (Bas.cv B.b mkC_same) (by decide +kernel) (PN.d (kcall (Bas.cv B.b mkC_same) (c__law_pick _ mkC_same) (by decide) (by decide +kernel) (pav_b (Bas.cv B.b mkC_same) (by decide +kernel) (pav_d (PN.d (kcall (Bas.cv B.b mkC_same) (c__law_wrong_deeds _ mkC_same) (by decide) (by decide +kernel) (pav_d (kv (Bas.cv B.b mkC_same) (by decide +kernel)) (pav_d (kv (Bas.cv B.b mkC_same) (by decide +kernel)) (pav_d (kv (Bas.cv B.b mkC_same) (by decide +kernel)) (pav_d (kv (Bas.cv B.b mkC_same) (by decide +kernel)) (pav_d (kv (Bas.cv B.b mkC_same) (by decide +kernel)) pav_nil))))))) pav_nil)))))
  (FW.pgs_cons (gs_set (Bas.cv B.b mkC_same) (by decide +kernel) (kadd (Bas.cv B.b mkC_same) (kadd (Bas.cv B.b mkC_same) (kslc (Bas.cv B.b mkC_same) (kv (Bas.cv B.b mkC_same) (by decide +kernel)) px_none (px_some (kv (Bas.cv B.b mkC_same) (by decide +kernel)))) (pd_lst (pad_cons (kv (Bas.cv B.b mkC_same) (by decide +kernel)) pad_nil))) (pd_lst (pad_cons (PN.d (kcall (Bas.cv B.b mkC_same) (c__law_pick _ mkC_same) (by decide) (by decide +kernel) (pav_b (Bas.cv B.b mkC_same) (by decide +kernel) (pav_d (pd_lst (pad_cons pd_non (pad_cons (pd_tup (pad_cons pd_int (pad_cons pd_int (pad_cons pd_int pad_nil)))) pad_nil))) pav_nil)))) pad_nil))))
  (FW.pgs_cons (gs_setO (Bas.cv B.b mkC_same) (by decide +kernel) (pn_lst (pad_cons (pd_tup (pad_cons (pd_lam (n := 0) (Bas.cv B.b mkC_same) (Mk _ mkC_same) (by decide +kernel) rfl rfl) (pad_cons (pd_tup (pad_cons pd_str (pad_cons (kv (Bas.cv B.b mkC_same) (by decide +kernel)) pad_nil))) pad_nil))) pad_nil)))
  (FW.pgs_cons (gs_drop (PD.o (kapp (Bas.cv B.b mkC_same) (by decide +kernel) (pd_tup (pad_cons (pd_lam (n := 1) (Bas.cv B.b mkC_same) (Mk _ mkC_same) (by decide +kernel) rfl rfl) (pad_cons (pd_tup (pad_cons pd_str (pad_cons (kv (Bas.cv B.b mkC_same) (by decide +kernel)) pad_nil))) pad_nil))))))
  (FW.pgs_cons (gs_drop (PD.o (kapp (Bas.cv B.b mkC_same) (by decide +kernel) (pd_tup (pad_cons (pd_lam (n := 2) (Bas.cv B.b mkC_same) (Mk _ mkC_same) (by decide +kernel) rfl rfl) (pad_cons (pd_tup (pad_cons pd_str (pad_cons (kv (Bas.cv B.b mkC_same) (by decide +kernel)) pad_nil))) pad_nil))))))
  (FW.pgs_cons (gs_drop (PD.o (kapp (Bas.cv B.b mkC_same) (by decide +kernel) (pd_tup (pad_cons (pd_lam (n := 3) (Bas.cv B.b mkC_same) (Mk _ mkC_same) (by decide +kernel) rfl rfl) (pad_cons (pd_tup (pad_cons pd_str (pad_cons (ksub (Bas.cv B.b mkC_same) pd_int pd_int) pad_nil))) pad_nil))))))
  (FW.pgs_cons (gs_drop (PD.o (kapp (Bas.cv B.b mkC_same) (by decide +kernel) (pd_tup (pad_cons (pd_lam (n := 4) (Bas.cv B.b mkC_same) (Mk _ mkC_same) (by decide +kernel) rfl rfl) (pad_cons (pd_tup (pad_cons pd_str (pad_cons (ksub (Bas.cv B.b mkC_same) pd_int pd_int) pad_nil))) pad_nil))))))
  (FW.pgs_cons (gs_set (Bas.cv B.b mkC_same) (by decide +kernel) (kadd (Bas.cv B.b mkC_same) (klist (Bas.cv B.b mkC_same) (by decide +kernel) (Bl.at "list" (by decide +kernel)) (kv (Bas.cv B.b mkC_same) (by decide +kernel))) (pd_lst (pad_cons (PN.d (kcall (Bas.cv B.b mkC_same) (c__law_pick _ mkC_same) (by decide) (by decide +kernel) (pav_b (Bas.cv B.b mkC_same) (by decide +kernel) (pav_d (kadd (Bas.cv B.b mkC_same) (pd_lst (pad_cons (kv (Bas.cv B.b mkC_same) (by decide +kernel)) (pad_cons (ksub (Bas.cv B.b mkC_same) pd_int pd_int) (pad_cons pd_bl (pad_cons pd_non pad_nil))))) (kv (Bas.cv B.b mkC_same) (by decide +kernel))) pav_nil)))) pad_nil))))
  (FW.pgs_cons (gs_drop (PD.o (kapp (Bas.cv B.b mkC_same) (by decide +kernel) (pd_tup (pad_cons (pd_lam (n := 5) (Bas.cv B.b mkC_same) (Mk _ mkC_same) (by decide +kernel) rfl rfl) (pad_cons (pd_tup (pad_cons pd_str (pad_cons (klen (Bas.cv B.b mkC_same) (by decide +kernel) (Bl.at "len" (by decide +kernel)) (kv (Bas.cv B.b mkC_same) (by decide +kernel))) pad_nil))) pad_nil))))))
  (FW.pgs_cons (gs_drop (PD.o (kapp (Bas.cv B.b mkC_same) (by decide +kernel) (pd_tup (pad_cons (pd_lam (n := 6) (Bas.cv B.b mkC_same) (Mk _ mkC_same) (by decide +kernel) rfl rfl) (pad_cons (pd_tup (pad_cons pd_str (pad_cons (klen (Bas.cv B.b mkC_same) (by decide +kernel) (Bl.at "len" (by decide +kernel)) (kv (Bas.cv B.b mkC_same) (by decide +kernel))) pad_nil))) pad_nil))))))
  (FW.pgs_cons (gs_drop (PD.o (kapp (Bas.cv B.b mkC_same) (by decide +kernel) (pd_tup (pad_cons (pd_lam (n := 7) (Bas.cv B.b mkC_same) (Mk _ mkC_same) (by decide +kernel) rfl rfl) (pad_cons (pd_tup (pad_cons pd_str (pad_cons (ksub (Bas.cv B.b mkC_same) pd_int pd_int) pad_nil))) pad_nil))))))
  (FW.pgs_cons (gs_drop (PD.o (kapp (Bas.cv B.b mkC_same) (by decide +kernel) (pd_tup (pad_cons (pd_lam (n := 8) (Bas.cv B.b mkC_same) (Mk _ mkC_same) (by decide +kernel) rfl rfl) (pad_cons (pd_tup (pad_cons pd_str (pad_cons (klen (Bas.cv B.b mkC_same) (by decide +kernel) (Bl.at "len" (by decide +kernel)) (kv (Bas.cv B.b mkC_same) (by decide +kernel))) pad_nil))) pad_nil))))))
  (FW.pgs_cons (gs_drop (PD.o (kapp (Bas.cv B.b mkC_same) (by decide +kernel) (pd_tup (pad_cons (pd_lam (n := 9) (Bas.cv B.b mkC_same) (Mk _ mkC_same) (by decide +kernel) rfl rfl) (pad_cons (pd_tup (pad_cons pd_str (pad_cons (ksub (Bas.cv B.b mkC_same) pd_int pd_int) pad_nil))) pad_nil))))))
  (FW.pgs_cons (gs_drop (PD.o (kapp (Bas.cv B.b mkC_same) (by decide +kernel) (pd_tup (pad_cons (pd_lam (n := 10) (Bas.cv B.b mkC_same) (Mk _ mkC_same) (by decide +kernel) rfl rfl) (pad_cons (pd_tup (pad_cons pd_str pad_nil)) pad_nil))))))
  (FW.pgs_cons (kfor (Bst.cv B mkC_same) (kseq (Bas.cv B.b mkC_same) (pd_lst (pad_cons (pd_frz (i := 9) (PN.d (kcall (Bas.cv B.b mkC_same) (c__law_pick _ mkC_same) (by decide) (by decide +kernel) (pav_b (Bas.cv B.b mkC_same) (by decide +kernel) (pav_d (kv (Bas.cv B.b mkC_same) (by decide +kernel)) pav_nil))))) (pad_cons (pd_frz (i := 9) (PN.d (kcall (Bas.cv B.b mkC_same) (c__law_pick _ mkC_same) (by decide) (by decide +kernel) (pav_b (Bas.cv B.b mkC_same) (by decide +kernel) (pav_d (kv (Bas.cv B.b mkC_same) (by decide +kernel)) pav_nil))))) (pad_cons (pd_frz (i := 9) (PN.d (kcall (Bas.cv B.b mkC_same) (c__law_pick _ mkC_same) (by decide) (by decide +kernel) (pav_b (Bas.cv B.b mkC_same) (by decide +kernel) (pav_d (kv (Bas.cv B.b mkC_same) (by decide +kernel)) pav_nil))))) pad_nil))))) (ktt (es := [(.Name "_law_work" _), (.Name "_law_due" _)]) (Bas.cv B.b mkC_same) (ptgs_cons (ktg (i := 11) (Bas.cv B.b mkC_same) (by decide +kernel)) (ptgs_cons (ktg (i := 12) (Bas.cv B.b mkC_same) (by decide +kernel)) ptgs_nil)))
  (FW.pgs_one (pg_if (kcmpq (Bas.cv B.b mkC_same) (pd_ho (Ls := L__law_refusals) (sub := subK) (Bas.cv B.b mkC_same) (t__law_refused _ mkC_same) hsub (LamAll.at0 (lamAll_cons ⟨⟨_, _, _, rfl, rfl, Bas.lamS B.b (by decide +kernel), fun _ _ _ => rfl, fun A outer s H E f c' BL => (kcall BL (c_need_withdrawn _ mkC_same) (by decide) (by decide +kernel) (pav_d (kv BL (by decide +kernel)) (pav_d (kv BL (by decide +kernel)) (pav_d (kv BL (by decide +kernel)) (pav_d (kv BL (by decide +kernel)) pav_nil)))))⟩⟩
    (lamAll_cons ⟨⟨_, _, _, rfl, rfl, Bas.lamS B.b (by decide +kernel), fun _ _ _ => rfl, fun A outer s H E f c' BL => (kcall BL (c_standing_news _ mkC_same) (by decide) (by decide +kernel) (pav_d (kv BL (by decide +kernel)) (pav_d (kv BL (by decide +kernel)) (pav_d (kv BL (by decide +kernel)) (pav_d (kv BL (by decide +kernel)) pav_nil)))))⟩⟩
    (lamAll_cons ⟨⟨_, _, _, rfl, rfl, Bas.lamS B.b (by decide +kernel), fun _ _ _ => rfl, fun A outer s H E f c' BL => (kcall BL (c_withdrawn_readings _ mkC_same) (by decide) (by decide +kernel) (pav_d (kv BL (by decide +kernel)) (pav_d (kv BL (by decide +kernel)) (pav_d (kv BL (by decide +kernel)) (pav_d (ktuple BL (by decide +kernel) (Bl.at "tuple" (by decide +kernel)) (kv BL (by decide +kernel))) pav_nil)))))⟩⟩
    (lamAll_cons ⟨⟨_, _, _, rfl, rfl, Bas.lamS B.b (by decide +kernel), fun _ _ _ => rfl, fun A outer s H E f c' BL => (kcall BL (c_need_withdrawn _ mkC_same) (by decide) (by decide +kernel) (pav_d (kv BL (by decide +kernel)) (pav_d (kv BL (by decide +kernel)) (pav_d (kv BL (by decide +kernel)) (pav_d (PN.d (kcall BL (c__law_pick _ mkC_same) (by decide) (by decide +kernel) (pav_b BL (by decide +kernel) (pav_d (pd_lst (pad_cons pd_non (pad_cons pd_int (pad_cons pd_str pad_nil)))) pav_nil)))) pav_nil)))))⟩⟩
    (lamAll_cons ⟨⟨_, _, _, rfl, rfl, Bas.lamS B.b (by decide +kernel), fun _ _ _ => rfl, fun A outer s H E f c' BL => (kcall BL (c_need_withdrawn _ mkC_same) (by decide) (by decide +kernel) (pav_d (kv BL (by decide +kernel)) (pav_d (kv BL (by decide +kernel)) (pav_d (kv BL (by decide +kernel)) (pav_d (kmul BL (pd_lst (pad_cons (pd_tup (pad_cons pd_int (pad_cons pd_int (pad_cons pd_int pad_nil)))) pad_nil)) pd_int) pav_nil)))))⟩⟩
    (lamAll_cons ⟨⟨_, _, _, rfl, rfl, Bas.lamS B.b (by decide +kernel), fun _ _ _ => rfl, fun A outer s H E f c' BL => (kcall BL (c_need_gone _ mkC_same) (by decide) (by decide +kernel) (pav_d (kv BL (by decide +kernel)) (pav_d (kv BL (by decide +kernel)) pav_nil)))⟩⟩
    (lamAll_cons ⟨⟨_, _, _, rfl, rfl, Bas.lamS B.b (by decide +kernel), fun _ _ _ => rfl, fun A outer s H E f c' BL => (kcall BL (c_withdrawn_readings _ mkC_same) (by decide) (by decide +kernel) (pav_d (kv BL (by decide +kernel)) (pav_d (kv BL (by decide +kernel)) (pav_d (kv BL (by decide +kernel)) (pav_d pd_non pav_nil)))))⟩⟩
    (lamAll_cons ⟨⟨_, _, _, rfl, rfl, Bas.lamS B.b (by decide +kernel), fun _ _ _ => rfl, fun A outer s H E f c' BL => (kcall BL (c_need_gone _ mkC_same) (by decide) (by decide +kernel) (pav_d (kv BL (by decide +kernel)) (pav_d (PN.d (kcall BL (c__law_pick _ mkC_same) (by decide) (by decide +kernel) (pav_b BL (by decide +kernel) (pav_d (pd_lst (pad_cons pd_non (pad_cons pd_int (pad_cons pd_str pad_nil)))) pav_nil)))) pav_nil)))⟩⟩
    (lamAll_cons ⟨⟨_, _, _, rfl, rfl, Bas.lamS B.b (by decide +kernel), fun _ _ _ => rfl, fun A outer s H E f c' BL => (kcall BL (c_standing_news _ mkC_same) (by decide) (by decide +kernel) (pav_d (kv BL (by decide +kernel)) (pav_d (kadd BL (kv BL (by decide +kernel)) (pd_lst (pad_cons (kv BL (by decide +kernel)) pad_nil))) (pav_d (kv BL (by decide +kernel)) (pav_d pd_non pav_nil)))))⟩⟩
    (lamAll_cons ⟨⟨_, _, _, rfl, rfl, Bas.lamS B.b (by decide +kernel), fun _ _ _ => rfl, fun A outer s H E f c' BL => (kcall BL (c_need_withdrawn _ mkC_same) (by decide) (by decide +kernel) (pav_d (pd_tup (pad_cons (kix BL (kv BL (by decide +kernel)) pd_int) (pad_cons (pd_tup pad_nil) pad_nil))) (pav_d pd_non (pav_d pd_non (pav_d pd_non pav_nil)))))⟩⟩
    (lamAll_cons ⟨⟨_, _, _, rfl, rfl, Bas.lamS B.b (by decide +kernel), fun _ _ _ => rfl, fun A outer s H E f c' BL => (kcall BL (c_need_withdrawn _ mkC_same) (by decide) (by decide +kernel) (pav_d (kv BL (by decide +kernel)) (pav_d (kv BL (by decide +kernel)) (pav_d (kv BL (by decide +kernel)) (pav_d (pd_lst pad_nil) pav_nil)))))⟩⟩
    lamAll_nil)))))))))))) (by decide +kernel) (kv (Bas.cv B.b mkC_same) (by decide +kernel))) (kv (Bas.cv B.b mkC_same) (by decide +kernel)))
  (FW.pgs_one (pg_ret pd_bl))
  FW.pgs_nil)))
  (FW.pgs_one (pg_ret pd_bl)))))))))))))))))))
theorem ok__law_refusals (hK : C.K = K) (hmg : C.mg = mg) (F : Fun K "_law_refusals" "_law_refusals" st__law_refusals fa fd) (hm : mg "_law_refusals" = some (.ref fa)) (hb : Binds K fd ps__law_refusals []) (Bl : BLT C.mg) (c_need_gone : CalA P w K mg base C "need_gone" ps_need_gone 7 m_need_gone) (c_need_withdrawn : CalA P w K mg base C "need_withdrawn" ps_need_withdrawn 8 m_need_withdrawn) (c_standing_news : CalA P w K mg base C "standing_news" ps_standing_news 9 m_standing_news) (c_withdrawn_readings : CalA P w K mg base C "withdrawn_readings" ps_withdrawn_readings 9 m_withdrawn_readings) (c__law_draw : CalA P w K mg base C "_law_draw" ps__law_draw 1 m__law_draw) (c__law_pick : CalA P w K mg base C "_law_pick" ps__law_pick 2 m__law_pick) (c__law_wrong_deeds : CalA P w K mg base C "_law_wrong_deeds" ps__law_wrong_deeds 2 m__law_wrong_deeds) (t__law_refused : HoA P w K mg base C "_law_refused" "_law_work" ks__law_refused r__law_refused) (hsub : SubOk K mg subK)  (Mk : MkD base mg C.T fd "_law_refusals") : CalA P w K mg base C "_law_refusals" ps__law_refusals 12 m__law_refusals :=
  fun C' s => cal_of F hm hb ⟨rfl, rfl, rfl, (by decide +kernel), rfl, (by decide +kernel), (by decide +kernel)⟩ (by decide +kernel) (s.K.trans hK) (s.mg.trans hmg) fun cdv A outer s0 H E B hc => b__law_refusals B rfl (s.blt Bl) (CalA.cv c_need_gone s) (CalA.cv c_need_withdrawn s) (CalA.cv c_standing_news s) (CalA.cv c_withdrawn_readings s) (CalA.cv c__law_draw s) (CalA.cv c__law_pick s) (CalA.cv c__law_wrong_deeds s) (HoA.cv t__law_refused s) hsub  (mkrA_of Mk hc s)
def st_law : Stmt := tpS 49
def ps_law : List Str := ["_law_script"]
def N_law : List Str := ["_law_script", "_law_box_here", "_law_turn", "_law_kinds", "_law_machine_here", "_law_late", "_law_gone", "_law_story_here", "_law_kept", "_law_handed", "_law_deed", "_law_many", "_law_due"]
def g_law : G :=
  (sSeq (sSet 1 (callM m__law_box (.s 0 :: [])))
  (sSeq (sFor (itR1 (cst (.int 3))) (tgName 2)
  (sSeq (sSet 3 (shM (op2 addD (cst (.int 1)) (dO (callM m__law_draw (.s 1 :: .d (cst (.int 3)) :: []))))))
  (sSeq (sSet 4 (shM (dO (callM m__law_machine (.s 1 :: .d (cst (.int 4)) :: .d (gv 3) :: [])))))
  (sSeq (sPar [5, 6] (oCons (shM (dO (callM m__law_mixed (.s 1 :: .d (dO (callM m__law_lot (.s 1 :: .d (gv 3) :: []))) :: [])))) (oCons (shM (dO (callM m__law_mixed (.s 1 :: .d (dO (callM m__law_lot (.s 1 :: .d (gv 3) :: []))) :: [])))) oNil)))
  (sSeq (sSet 7 (shM (dO (callM m__law_story (.s 1 :: .d (gv 3) :: .d (gv 5) :: .d (gv 6) :: .d (dO (callM m__law_draw (.s 1 :: .d (cst (.int 15)) :: []))) :: [])))))
  (sSeq (sSet 8 (shM (op1 reprD (tupM (aCons (gv 5) (aCons (gv 6) (aCons (gv 7) aNil)))))))
  (sSeq (sSet 9 (shM (lstC (compM (itS (gv 7)) (tgName 10) (ret true) (ifM (blM (op2 (cmpD .Eq) (dO (callM m__law_draw (.s 1 :: .d (cst (.int 3)) :: []))) (cst (.int 0)))) (op1 listDl (gv 10)) (gv 10)) [10]))))
  (sSeq (sIf (blM (op2 (cmpD .NotEq) (op1 reprD (dO (callM m_need_gone (.d (gv 4) :: .d (gv 6) :: [])))) (op1 reprD (op1 tupleD (op1 sortedD (gv 6))))))
  (sRet (shM (cst (.bl false))))
  sNext)
  (sSeq (sIf (blM (op2 (cmpD .NotEq) (op1 reprD (dO (callM m_need_withdrawn (.d (gv 4) :: .d (gv 5) :: .d (gv 6) :: .d (gv 9) :: [])))) (op1 reprD (op1 tupleD (gv 7)))))
  (sRet (shM (cst (.bl false))))
  sNext)
  (sSeq (sFor (itR1 (op2 addD (op1 lenD (gv 7)) (cst (.int 1)))) (tgName 11)
  (sSeq (sSet 12 (shM (op1 tupleD (dO (callM m__law_standing (.d (slcM (gv 7) (sxM none) (sxM (some (gv 11)))) :: []))))))
  (sIf (blM (op2 (cmpD .NotEq) (op1 reprD (dO (callM m_standing_news (.d (gv 4) :: .d (op1 tupleD (gv 5)) :: .d (gv 6) :: .d (slcM (gv 9) (sxM none) (sxM (some (gv 11)))) :: [])))) (op1 reprD (gv 12))))
  (sRet (shM (cst (.bl false))))
  sNext)))
  (sSeq (sSet 12 (shM (op1 tupleD (lstC (compM (itR1 (op2 addD (op1 lenD (gv 7)) (cst (.int 1)))) (tgName 11) (ret true) (dO (callM m__law_right (.d (gv 4) :: .d (slcM (gv 7) (sxM none) (sxM (some (gv 11)))) :: []))) [11])))))
  (sSeq (sIf (blM (op2 (cmpD .NotEq) (op1 reprD (dO (callM m_withdrawn_readings (.d (gv 4) :: .d (gv 5) :: .d (op1 tupleD (gv 6)) :: .d (gv 9) :: [])))) (op1 reprD (gv 12))))
  (sRet (shM (cst (.bl false))))
  sNext)
  (sIf (orM (notM (blM (dO (callM m__law_refusals (.s 1 :: .d (gv 4) :: .d (gv 5) :: .d (gv 6) :: .d (gv 7) :: []))))) (blM (op2 (cmpD .NotEq) (op1 reprD (tupM (aCons (gv 5) (aCons (gv 6) (aCons (gv 7) aNil))))) (gv 8))))
  (sRet (shM (cst (.bl false))))
  sNext)))))))))))))
  (sRet (shM (cst (.bl true))))))
def m_law : Fm := runF 1 13 [0] g_law
theorem b_law {X : Cx} {C : Ct} {W : WX} (B : Bst X C W 12 N_law (defScope st_law)) (hk : X.env.scope.kind = .function) (Bl : BLT C.mg) (c_need_gone : CalA X.prog X.w X.K X.mg X.base C "need_gone" ps_need_gone 7 m_need_gone) (c_standing_news : CalA X.prog X.w X.K X.mg X.base C "standing_news" ps_standing_news 9 m_standing_news) (c_withdrawn_readings : CalA X.prog X.w X.K X.mg X.base C "withdrawn_readings" ps_withdrawn_readings 9 m_withdrawn_readings) (c__law_box : CalA X.prog X.w X.K X.mg X.base C "_law_box" ps__law_box 1 m__law_box) (c__law_draw : CalA X.prog X.w X.K X.mg X.base C "_law_draw" ps__law_draw 1 m__law_draw) (c__law_mixed : CalA X.prog X.w X.K X.mg X.base C "_law_mixed" ps__law_mixed 2 m__law_mixed) (c__law_machine : CalA X.prog X.w X.K X.mg X.base C "_law_machine" ps__law_machine 4 m__law_machine) (c__law_lot : CalA X.prog X.w X.K X.mg X.base C "_law_lot" ps__law_lot 2 m__law_lot) (c__law_story : CalA X.prog X.w X.K X.mg X.base C "_law_story" ps__law_story 4 m__law_story) (c__law_standing : CalA X.prog X.w X.K X.mg X.base C "_law_standing" ps__law_standing 1 m__law_standing) (c__law_right : CalA X.prog X.w X.K X.mg X.base C "_law_right" ps__law_right 2 m__law_right) (c__law_refusals : CalA X.prog X.w X.K X.mg X.base C "_law_refusals" ps__law_refusals 12 m__law_refusals) (k_need_withdrawn : CalKA X.prog X.w X.K X.mg X.base C "need_withdrawn" ps_need_withdrawn 8 m_need_withdrawn)  : PGs' X C W [0] (defBody st_law) g_law := by
  exact (FW.pgs_cons (gs_setO B.b (by decide +kernel) (kcall B.b (c__law_box _ SameC.rfl) (by decide) (by decide +kernel) (pav_b B.b (by decide +kernel) pav_nil)))
  (FW.pgs_cons (kfor B (krange B.b (by decide +kernel) (Bl.at "range" (by decide +kernel)) pd_int) (ktg (i := 2) B.b (by decide +kernel))
  (FW.pgs_cons (gs_set B.b (by decide +kernel) (kadd B.b pd_int (PN.d (kcall B.b (c__law_draw _ SameC.rfl) (by decide) (by decide +kernel) (pav_b B.b (by decide +kernel) (pav_d pd_int pav_nil))))))
  (FW.pgs_cons (gs_set B.b (by decide +kernel) (PN.d (kcall B.b (c__law_machine _ SameC.rfl) (by decide) (by decide +kernel) (pav_b B.b (by decide +kernel) (pav_d pd_int (pav_d (kv B.b (by decide +kernel)) pav_nil))))))
  (FW.pgs_cons (gs_par2 B.b (by decide +kernel) (by decide +kernel) (by decide) (by decide +kernel) hk (pao_cons (PD.o (PN.d (kcall B.b (c__law_mixed _ SameC.rfl) (by decide) (by decide +kernel) (pav_b B.b (by decide +kernel) (pav_d (PN.d (kcall B.b (c__law_lot _ SameC.rfl) (by decide) (by decide +kernel) (pav_b B.b (by decide +kernel) (pav_d (kv B.b (by decide +kernel)) pav_nil)))) pav_nil))))) (pao_cons (PD.o (PN.d (kcall B.b (c__law_mixed _ SameC.rfl) (by decide) (by decide +kernel) (pav_b B.b (by decide +kernel) (pav_d (PN.d (kcall B.b (c__law_lot _ SameC.rfl) (by decide) (by decide +kernel) (pav_b B.b (by decide +kernel) (pav_d (kv B.b (by decide +kernel)) pav_nil)))) pav_nil))))) pao_nil)))
  (FW.pgs_cons (gs_set B.b (by decide +kernel) (PN.d (kcall B.b (c__law_story _ SameC.rfl) (by decide) (by decide +kernel) (pav_b B.b (by decide +kernel) (pav_d (kv B.b (by decide +kernel)) (pav_d (kv B.b (by decide +kernel)) (pav_d (kv B.b (by decide +kernel)) (pav_d (PN.d (kcall B.b (c__law_draw _ SameC.rfl) (by decide) (by decide +kernel) (pav_b B.b (by decide +kernel) (pav_d pd_int pav_nil)))) pav_nil))))))))
  (FW.pgs_cons (gs_set B.b (by decide +kernel) (krepr B.b (by decide +kernel) (Bl.at "repr" (by decide +kernel)) (pd_tup (pad_cons (kv B.b (by decide +kernel)) (pad_cons (kv B.b (by decide +kernel)) (pad_cons (kv B.b (by decide +kernel)) pad_nil))))))
  (FW.pgs_cons (gs_lcD (own := [("_law_deed", 10)]) (gg := (gName 10)) (ix := [10]) B.b (by decide +kernel) hk (kseq B.b (kv B.b (by decide +kernel))) (by decide +kernel) (fun _ _ _ _ _ B1 => (ktg (i := 10) B1 (by decide +kernel))) (fun _ _ _ _ _ B1 => pcs_nil) (fun _ _ _ _ _ B1 => (pd_if (kcmpq B1 (PN.d (kcall B1 (c__law_draw _ SameC.rfl) (by decide) (by decide +kernel) (pav_b B1 (by decide +kernel) (pav_d pd_int pav_nil)))) pd_int) (klist B1 (by decide +kernel) (Bl.at "list" (by decide +kernel)) (kv B1 (by decide +kernel))) (kv B1 (by decide +kernel)))) (by decide +kernel))
  (FW.pgs_cons (pg_if (kcmpq B.b (krepr B.b (by decide +kernel) (Bl.at "repr" (by decide +kernel)) (PN.d (kcall B.b (c_need_gone _ SameC.rfl) (by decide) (by decide +kernel) (pav_d (kv B.b (by decide +kernel)) (pav_d (kv B.b (by decide +kernel)) pav_nil))))) (krepr B.b (by decide +kernel) (Bl.at "repr" (by decide +kernel)) (ktuple B.b (by decide +kernel) (Bl.at "tuple" (by decide +kernel)) (ksorted B.b (by decide +kernel) (Bl.at "sorted" (by decide +kernel)) (kv B.b (by decide +kernel))))))
  (FW.pgs_one (pg_ret pd_bl))
  FW.pgs_nil)
  (FW.pgs_cons (pg_if (kcmpq B.b (krepr B.b (by decide +kernel) (Bl.at "repr" (by decide +kernel)) (PN.d (kcallK B.b (k_need_withdrawn _ SameC.rfl) (by decide) (by decide +kernel) (pkv_d (kv B.b (by decide +kernel)) (pkv_d (kv B.b (by decide +kernel)) (pkv_d (kv B.b (by decide +kernel)) (pkv_d (kv B.b (by decide +kernel)) pkv_nil))))))) (krepr B.b (by decide +kernel) (Bl.at "repr" (by decide +kernel)) (ktuple B.b (by decide +kernel) (Bl.at "tuple" (by decide +kernel)) (kv B.b (by decide +kernel)))))
  (FW.pgs_one (pg_ret pd_bl))
  FW.pgs_nil)
  (FW.pgs_cons (kfor B (krange B.b (by decide +kernel) (Bl.at "range" (by decide +kernel)) (kadd B.b (klen B.b (by decide +kernel) (Bl.at "len" (by decide +kernel)) (kv B.b (by decide +kernel))) pd_int)) (ktg (i := 11) B.b (by decide +kernel))
  (FW.pgs_cons (gs_set B.b (by decide +kernel) (ktuple B.b (by decide +kernel) (Bl.at "tuple" (by decide +kernel)) (PN.d (kcall B.b (c__law_standing _ SameC.rfl) (by decide) (by decide +kernel) (pav_d (kslc B.b (kv B.b (by decide +kernel)) px_none (px_some (kv B.b (by decide +kernel)))) pav_nil)))))
  (FW.pgs_one (pg_if (kcmpq B.b (krepr B.b (by decide +kernel) (Bl.at "repr" (by decide +kernel)) (PN.d (kcall B.b (c_standing_news _ SameC.rfl) (by decide) (by decide +kernel) (pav_d (kv B.b (by decide +kernel)) (pav_d (ktuple B.b (by decide +kernel) (Bl.at "tuple" (by decide +kernel)) (kv B.b (by decide +kernel))) (pav_d (kv B.b (by decide +kernel)) (pav_d (kslc B.b (kv B.b (by decide +kernel)) px_none (px_some (kv B.b (by decide +kernel)))) pav_nil))))))) (krepr B.b (by decide +kernel) (Bl.at "repr" (by decide +kernel)) (kv B.b (by decide +kernel))))
  (FW.pgs_one (pg_ret pd_bl))
  FW.pgs_nil))))
  (FW.pgs_cons (gs_set B.b (by decide +kernel) (ktuple B.b (by decide +kernel) (Bl.at "tuple" (by decide +kernel)) (pd_lc (own := [("_law_many", 11)]) (gg := (gName 11)) (ix := [11]) B.b (krange B.b (by decide +kernel) (Bl.at "range" (by decide +kernel)) (kadd B.b (klen B.b (by decide +kernel) (Bl.at "len" (by decide +kernel)) (kv B.b (by decide +kernel))) pd_int)) (by decide +kernel) (fun _ _ _ _ _ B1 => (ktg (i := 11) B1 (by decide +kernel))) (fun _ _ _ _ _ B1 => pcs_nil) (fun _ _ _ _ _ B1 => (PN.d (kcall B1 (c__law_right _ SameC.rfl) (by decide) (by decide +kernel) (pav_d (kv B1 (by decide +kernel)) (pav_d (kslc B1 (kv B1 (by decide +kernel)) px_none (px_some (kv B1 (by decide +kernel)))) pav_nil))))))))
  (FW.pgs_cons (pg_if (kcmpq B.b (krepr B.b (by decide +kernel) (Bl.at "repr" (by decide +kernel)) (PN.d (kcall B.b (c_withdrawn_readings _ SameC.rfl) (by decide) (by decide +kernel) (pav_d (kv B.b (by decide +kernel)) (pav_d (kv B.b (by decide +kernel)) (pav_d (ktuple B.b (by decide +kernel) (Bl.at "tuple" (by decide +kernel)) (kv B.b (by decide +kernel))) (pav_d (kv B.b (by decide +kernel)) pav_nil))))))) (krepr B.b (by decide +kernel) (Bl.at "repr" (by decide +kernel)) (kv B.b (by decide +kernel))))
  (FW.pgs_one (pg_ret pd_bl))
  FW.pgs_nil)
  (FW.pgs_one (pg_if (PWq.q (pwq_or (pq_not (pq_val (PN.d (kcall B.b (c__law_refusals _ SameC.rfl) (by decide) (by decide +kernel) (pav_b B.b (by decide +kernel) (pav_d (kv B.b (by decide +kernel)) (pav_d (kv B.b (by decide +kernel)) (pav_d (kv B.b (by decide +kernel)) (pav_d (kv B.b (by decide +kernel)) pav_nil))))))))) (pwq_or1 (kcmpq B.b (krepr B.b (by decide +kernel) (Bl.at "repr" (by decide +kernel)) (pd_tup (pad_cons (kv B.b (by decide +kernel)) (pad_cons (kv B.b (by decide +kernel)) (pad_cons (kv B.b (by decide +kernel)) pad_nil))))) (kv B.b (by decide +kernel))))))
  (FW.pgs_one (pg_ret pd_bl))
  FW.pgs_nil))))))))))))))
  (FW.pgs_one (pg_ret pd_bl))))
theorem ok_law (hK : C.K = K) (hmg : C.mg = mg) (F : Fun K "law" "law" st_law fa fd) (hm : mg "law" = some (.ref fa)) (hb : Binds K fd ps_law []) (Bl : BLT C.mg) (c_need_gone : CalA P w K mg base C "need_gone" ps_need_gone 7 m_need_gone) (c_standing_news : CalA P w K mg base C "standing_news" ps_standing_news 9 m_standing_news) (c_withdrawn_readings : CalA P w K mg base C "withdrawn_readings" ps_withdrawn_readings 9 m_withdrawn_readings) (c__law_box : CalA P w K mg base C "_law_box" ps__law_box 1 m__law_box) (c__law_draw : CalA P w K mg base C "_law_draw" ps__law_draw 1 m__law_draw) (c__law_mixed : CalA P w K mg base C "_law_mixed" ps__law_mixed 2 m__law_mixed) (c__law_machine : CalA P w K mg base C "_law_machine" ps__law_machine 4 m__law_machine) (c__law_lot : CalA P w K mg base C "_law_lot" ps__law_lot 2 m__law_lot) (c__law_story : CalA P w K mg base C "_law_story" ps__law_story 4 m__law_story) (c__law_standing : CalA P w K mg base C "_law_standing" ps__law_standing 1 m__law_standing) (c__law_right : CalA P w K mg base C "_law_right" ps__law_right 2 m__law_right) (c__law_refusals : CalA P w K mg base C "_law_refusals" ps__law_refusals 12 m__law_refusals) (k_need_withdrawn : CalKA P w K mg base C "need_withdrawn" ps_need_withdrawn 8 m_need_withdrawn)  : CalA P w K mg base C "law" ps_law 13 m_law :=
  fun C' s => cal_of F hm hb ⟨rfl, rfl, rfl, (by decide +kernel), rfl, (by decide +kernel), (by decide +kernel)⟩ (by decide +kernel) (s.K.trans hK) (s.mg.trans hmg) fun cdv A outer s0 H E B hc => b_law B rfl (s.blt Bl) (CalA.cv c_need_gone s) (CalA.cv c_standing_news s) (CalA.cv c_withdrawn_readings s) (CalA.cv c__law_box s) (CalA.cv c__law_draw s) (CalA.cv c__law_mixed s) (CalA.cv c__law_machine s) (CalA.cv c__law_lot s) (CalA.cv c__law_story s) (CalA.cv c__law_standing s) (CalA.cv c__law_right s) (CalA.cv c__law_refusals s) (CalKA.cv k_need_withdrawn s) 
theorem fnl_law (hK : C.K = K) (hmg : C.mg = mg) (F : Fun K "law" "law" st_law fa fd) (Bl : BLT C.mg) (c_need_gone : CalA P w K mg base C "need_gone" ps_need_gone 7 m_need_gone) (c_standing_news : CalA P w K mg base C "standing_news" ps_standing_news 9 m_standing_news) (c_withdrawn_readings : CalA P w K mg base C "withdrawn_readings" ps_withdrawn_readings 9 m_withdrawn_readings) (c__law_box : CalA P w K mg base C "_law_box" ps__law_box 1 m__law_box) (c__law_draw : CalA P w K mg base C "_law_draw" ps__law_draw 1 m__law_draw) (c__law_mixed : CalA P w K mg base C "_law_mixed" ps__law_mixed 2 m__law_mixed) (c__law_machine : CalA P w K mg base C "_law_machine" ps__law_machine 4 m__law_machine) (c__law_lot : CalA P w K mg base C "_law_lot" ps__law_lot 2 m__law_lot) (c__law_story : CalA P w K mg base C "_law_story" ps__law_story 4 m__law_story) (c__law_standing : CalA P w K mg base C "_law_standing" ps__law_standing 1 m__law_standing) (c__law_right : CalA P w K mg base C "_law_right" ps__law_right 2 m__law_right) (c__law_refusals : CalA P w K mg base C "_law_refusals" ps__law_refusals 12 m__law_refusals) (k_need_withdrawn : CalKA P w K mg base C "need_withdrawn" ps_need_withdrawn 8 m_need_withdrawn)  : FnG P w K mg base 13 fa fd 1 ps_law (spM C m_law) :=
  fnl_of (C := C) (k := 12) (ps := ps_law) (N := N_law) (g := g_law) F ⟨rfl, rfl, rfl, (by decide +kernel), rfl, (by decide +kernel), (by decide +kernel)⟩ (by decide +kernel) hK hmg fun cdv A outer s0 H E B hc => b_law B rfl Bl c_need_gone c_standing_news c_withdrawn_readings c__law_box c__law_draw c__law_mixed c__law_machine c__law_lot c__law_story c__law_standing c__law_right c__law_refusals k_need_withdrawn 
end K43

set_option maxHeartbeats 2000000
namespace K43
open FW
local macro_rules
  | `(tactic| os_names $xs:ident*) => `(tactic| simp -implicitDefEqProofs only [bind_ok, bind_er, bindS_ok, bindS_er, then_nx, then_rt, then_er, then_bk, then_ct, bnd_ap, ret_ap, opt_some, cst_ap, shM_ap, op1_ap, op2_ap, aNil_ap, aCons_ap, ite_ap, iteG_ap, tup0, tupC, lst0, lstC', olM_ap, frO_sh, frO_oL, frT_sh, frT_oL, dO_ap, blM_ap, notM_ap, andM_ap, orM_ap, ifM_ap, andV_ap, orV_ap, andK_bl, orK_bl, notV_ap, chM_ap, cal_ok, cal_er, calS_ok, calS_er, call0, call1, call2, call3, call4, call5, callS0, callS1, callS2, callS3, callS4, held_ap, heldK_oL, heldK_ol, heldK_sh, heldK_fz, bS_ap, sNext_ap, sPass_ap, sBreak_ap, sCont_ap, sSeq_ap, sSet_ap, sRet_ap, sRetN_ap, sDrop_ap, sIf_ap, sRaise_ap, sFor_ap, sAsg_ap, tgK_some, tgName_ap, tgTup_ap, tgAll_nil, tgAll_cons, oNil_ap, oCons_ap, sPar2, sPar3, run_ap, fin_rt, fin_nx, fin_er, frzM_ap, frzK_oL, frz_ok, frz_er, mrgK_some, mrgX_some, mrgC_some, merge_cons, merge_nil, mg1_t, mg1_sh, mg1_fz, mg1_no, mg1_ol, mg1_oL, noLO_no, noLO_sh, noLO_oL, noL_int, noL_bl, noL_non, noL_str, noL_tup, noLs_nil, noLs_cons, noLs_app, heldL_ap, heldLK_oL, lopM_ap, lopS_ap, lopK_app, heldL2_ap, lop2S_ap, lop2M_ap, shrV_ap, shrK_sh, shrK_oL, mvO_ap, mvK_oL, gb_ap, gbK_sh, gbK_oL, op2s_ap, slcM_ap, slcS_ap, sxM_none, sx_ap, sxK_n, itS_ap, itE_ap, seqD_l, seqD_t, r1_ap, r1K_s, compM_ap', olC_ap, lstC_ap, compE_ok, msk_ap, mskG_e, mskG_z, mskG_s, wipe_nil, wipe_cons, back_nil, backK_some, back_cons, Bool.true_eq_false, reduceCtorEq, ne_eq, not_true_eq_false, not_false_eq_true, eq_self, Nat.reduceAdd, Nat.reduceSub, Nat.reduceMul, Nat.reduceLT, Nat.reducePow, Nat.reduceLeDiff, Nat.reduceBEq, Nat.reduceEqDiff, Nat.zero_add, okT_non, okT_i, okT_s, okT_b, okT_t, okT_l, okT_nD, okT_tN, isq_N, isq_t, isq_l, isq_nw, isq_dd, Option.bind_some, Option.map_some, Option.map_none, Option.bind_none, if_true, if_false, ite_true, ite_false, reduceIte, List.length_cons, List.length_nil, List.replicate_succ, List.replicate_zero, List.cons_append, List.nil_append, List.map_cons, List.map_nil, and_self, and_true, true_and, Bool.not_true, Bool.not_false, Bool.true_and, Bool.false_and, Bool.and_true, Bool.and_false, Bool.or_true, Bool.or_false, Bool.true_or, Bool.false_or, Bool.not_eq_true', List.contains_cons, List.contains_nil, decide_true, decide_false, noL_nD, noLs_nD, noL_nw, noL_dd, noL_N, noLs_nw, noLs_dd, noLs_N, frzK_bx, heldK_bx, noLO_bx, mg1_bx, heldL2_bx, ix_bx0, ix_bx1, sPut_ap, putK_bx, ne_l0, ne_lc, eq_l0, eq_lc, ne_lN, eq_lN, cv_rt, noC_n, noC_N, noC_mach, noC_dd, noC_lN, noC_ldd, noC_bl, noCO_bx, noCO_sh, noCO_no, noCOs_nil, noCOs_cons, tryM_ap, try_ok, try_er, pkK_some, sub_le, sub01, addO_ap, cat_l, pow_n, mul_s, rg1_ap, rgK_s, olL_ap, listD_sV, olMO_ap, abs_i, noL_nD, ix_dd0, ix_dd1, ix_dd2, ix_nw0, ix_nw1, lit, seq_N, tuple_N, ix_N, enum_map, len_t, len_l, tuple_t, tuple_l, list_t, list_l, list_t', list_l', int_n, neg_1, add_n, add_l, add_t, mul_tn, fdiv_n, mod_n, lt_n, le_n, gt_n, ge_n, cmp_eq, cmp_ne, cmp_lt, cmp_le, cmp_gt, cmp_ge, cmp_in, cmp_ni, cmp_is, cmp_nt, eq_n, ne_n, inN_l, inN_t, niN_l, niN_t, is_nn, is_nn', is_nt, is_nl, nt_nn, nt_nn', nt_nt, nt_nl, slc_l, slc_t, len_N, abs_n, isaD, isasD, isT, isTs, ix_tup, ix_lst, List.getElem?_cons_zero, List.getElem?_cons_succ, okT_sV, isq_sV, seq_sV, len_sV, slc_sV, tuple_sV, list_sV, inN_sV, sorted_sV, sorted_l, sorted_t, cut_pre, last_t, last_l, int_i, neg_i, add_i, sub_i, lt_i, le_i, gt_i, ge_i, eq_i, ne_i, Bool.false_eq_true, decide_eq_true_eq, decide_eq_false_iff_not, simp_nil, simp_cons, plainK_some, plain_no, plain_sh, plain_oO, mg1_oO, gv0, gt0, st0, gd0, gv1, gt1, st1, gd1, gv2, gt2, st2, gd2, gv3, gt3, st3, gd3, gv4, gt4, st4, gd4, gv5, gt5, st5, gd5, gv6, gt6, st6, gd6, gv7, gt7, st7, gd7, gv8, gt8, st8, gd8, gv9, gt9, st9, gd9, gv10, gt10, st10, gd10, gv11, gt11, st11, gd11, gv12, gt12, st12, gd12, gv13, gt13, st13, gd13, gv14, gt14, st14, gd14, gv15, gt15, st15, gd15, gv16, gt16, st16, gd16, gv17, gt17, st17, gd17, gv18, gt18, st18, gd18, gv19, gt19, st19, gd19, gv20, gt20, st20, gd20, gv21, gt21, st21, gd21, gv22, gt22, st22, gd22, gv23, gt23, st23, gd23, gv24, gt24, st24, gd24, gv25, gt25, st25, gd25, gv26, gt26, st26, gd26, gv27, gt27, st27, gd27, gv28, gt28, st28, gd28, gv29, gt29, st29, gd29, gv30, gt30, st30, gd30, gv31, gt31, st31, gd31, gv32, gt32, st32, gd32, gv33, gt33, st33, gd33, gv34, gt34, st34, gd34, gv35, gt35, st35, gd35, $[$xs:ident],*])
theorem e_is_integer {d : D} (h : okT d = true) : m_is_integer [.sh d] = .ok (.sh (.bl (isIntD d))) [.no] := by
  unfold m_is_integer g_is_integer
  cases d <;> first | (simp [okT] at h; done) | os_names isIntD
theorem e_is_number {d : D} (h : okT d = true) : m_is_number [.sh d] = .ok (.sh (.bl (isNumD d))) [.no] := by
  unfold m_is_number g_is_number
  os_names e_is_integer h
  have q : ∀ i : Int, geD (.int i) (nD 0) = some (.bl (decide (0 ≤ i))) := fun i => rfl
  cases d <;> os_names isIntD isNumD q
theorem e_is_below {d : D} {k : Nat} (h : okT d = true) : m_is_below [.sh d, .sh (nD k)] = .ok (.sh (.bl (isBel d k))) [.no, .no] := by
  unfold m_is_below g_is_below
  os_names e_is_number h
  cases d with
  | int i =>
    have q : ltD (.int i) (nD k) = some (.bl (decide (i < (k : Int)))) := rfl
    by_cases h : 0 ≤ i <;> os_names h isBel isNumD q
  | _ => os_names isBel isNumD
theorem e_is_sequence {d : D} (h : okT d = true) : m_is_sequence [.sh d] = .ok (.sh (.bl (isSeq d))) [.no] := by
  unfold m_is_sequence g_is_sequence
  cases d <;> first | (simp [okT] at h; done) | os_names isSeq
theorem e_is_pair {d : D} (h : okT d = true) : m_is_pair [.sh d] = .ok (.sh (.bl (isPrD d))) [.no] := by
  unfold m_is_pair g_is_pair
  os_names e_is_sequence h
  cases d <;> first | (simp [okT] at h; done) | os_names isSeq isPrD
theorem e_is_row_below {ds : List D} {n k : Nat} (hl : ds.length ≤ 16777216) (h : ∀ d ∈ ds, okT d = true) : m_is_row_below [.sh (.tup ds), .sh (nD n), .sh (nD k)] = .ok (.sh (.bl (decide (ds.length = n) && ds.all fun d => isBel d k))) [.no, .no, .no] := by
  unfold m_is_row_below g_is_row_below
  os_names e_is_sequence
  by_cases e : ds.length = n
  · have hl' : n ≤ 16777216 := by omega
    os_names e hl' true_and
    rw [comp_mapD fun d => .bl (isBel d k)]
    · os_names all_bl and_self
    · exact fun x hx => ⟨_, rfl, by have := h x hx; os_names e_is_below this, by os_names bind_ok⟩
  · os_names e
theorem e_row_N {r : List Nat} {n k : Nat} (hl : r.length = n) (hn : n ≤ 1000) (h : ∀ x ∈ r, x < k) : m_is_row_below [.sh (tN r), .sh (nD n), .sh (nD k)] = .ok (.sh (.bl true)) [.no, .no, .no] := by
  rw [tN, e_is_row_below (by simp; omega) okT_map, all_bel h]
  simp [hl]
theorem e_need_machine {M : List (List Nat) × List Nat} (h : MachOk M) : m_need_machine [.sh (machD M)] = .ok (.sh (machD M)) [.no] := by
  obtain ⟨maps, rd⟩ := M
  obtain ⟨k1, k2, s1, s2, row, rdh⟩ := h
  simp only at k1 k2 s1 s2 row rdh
  have hr : ∀ r : List Nat, r.length = rd.length → (∀ x ∈ r, x < rd.length) → m_is_row_below [.sh (tN r), .sh (nD rd.length), .sh (nD rd.length)] = .ok (.sh (.bl true)) [.no, .no, .no] := fun r h1 h2 =>
    e_row_N h1 (by omega) h2
  have hd : m_is_row_below [.sh (tN rd), .sh (nD rd.length), .sh (nD 100)] = .ok (.sh (.bl true)) [.no, .no, .no] :=
    e_row_N rfl (by omega) rdh
  have pr : isPrD (.tup [.tup (maps.map tN), tN rd]) = true := rfl
  unfold m_need_machine g_need_machine machD
  os_names e_is_pair e_is_sequence pr k1 s1 k2 s2 List.length_map
  generalize hL : loopS _ _ _ _ = L
  obtain ⟨s', rfl, -⟩ := loop_E hL (s := ((none, none) : Option D × Option D)) (fun s => [O.sh (D.tup [D.tup (List.map tN maps), tN rd]), .sh (.tup (maps.map tN)), .sh (tN rd), oO s.1, oO s.2]) rfl (fun _ _ => True) trivial (by
    intro i x s hx _
    obtain ⟨r1, r2⟩ := zipIdx_at hx
    obtain ⟨h1, h2⟩ := row x.1 (List.mem_of_getElem? r2)
    have h3 := hr x.1 h1 h2
    refine ⟨_, (some (nD x.2), some (tN x.1)), rfl, ?_, trivial⟩
    left
    os_names h3 oO_some)
  have l1 : maps.length ≤ 16777216 := by omega
  os_names hd List.length_map l1 true_and
  rw [comp_map tN tN]
  · os_names bind_ok
  · exact fun x hx => ⟨_, rfl, by os_names bind_ok, by os_names bind_ok⟩
theorem e_machine_sizes {M : List (List Nat) × List Nat} (h : MachOk M) : m_machine_sizes [.sh (machD M)] = .ok (.sh (.tup [nD M.2.length, nD M.1.length])) [.no] := by
  have hm := e_need_machine h
  unfold m_machine_sizes g_machine_sizes
  os_names hm
  unfold machD
  os_names List.length_map
theorem e_need_late {M : List (List Nat) × List Nat} (h : MachOk M) {b : Bool} {ks : List Nat} (hn : ks.Nodup) (hk : ∀ k ∈ ks, k < M.1.length) : m_need_late [.sh (machD M), .sh (sV b (ks.map nD))] = .ok (.sh (tN (sortN ks))) [.no, .no] := by
  have hl := nodup_len hn hk
  have k2 := h.k2
  have hl' : ks.length ≤ 16777216 := by omega
  have z1 : (nD M.2.length :: [nD M.1.length])[1]? = some (nD M.1.length) := rfl
  unfold m_need_late g_need_late
  os_names e_machine_sizes h e_is_sequence z1
  generalize hL : loopS _ _ _ _ = L
  obtain ⟨s', rfl, -⟩ := loop_E hL (s := ((none, none) : Option D × Option D)) (fun s => [.sh (machD M), .sh (sV b (ks.map nD)), .sh (nD M.1.length), oO s.1, oO s.2]) rfl (fun _ _ => True) trivial (by
    intro i x s hx _
    obtain ⟨r1, r2⟩ := zipIdx_at hx
    have h1 := hk x.1 (List.mem_of_getElem? r2)
    have h2 : x.1 ∉ ks.take x.2 := by rw [r1]; exact nodup_take hn r2
    refine ⟨_, (some (nD x.2), some (nD x.1)), rfl, ?_, trivial⟩
    left
    os_names e_is_below bel_nD h1 h2 oO_some map_take')
  os_names sort_nats hl'
  rfl
/-- the first wrong one -/
theorem x_need_late {M : List (List Nat) × List Nat} (h : MachOk M) {b : Bool} {ks : List Nat} {d : D} {r : List D} (hn : ks.Nodup) (hk : ∀ k ∈ ks, k < M.1.length) (hd : okT d = true) (hb : isBel d M.1.length = false ∨ ∃ k ∈ ks, d = nD k) : m_need_late [.sh (machD M), .sh (sV b (ks.map nD ++ d :: r))] = .er ⟨"InvalidLate", ["at"], [nD ks.length]⟩ [.no, .no] := by
  have z1 : (nD M.2.length :: [nD M.1.length])[1]? = some (nD M.1.length) := rfl
  unfold m_need_late g_need_late
  os_names e_machine_sizes h e_is_sequence z1 enum_D
  generalize hL : loopS _ _ _ _ = L
  have key := loop_X hL (s := ((none, none) : Option D × Option D)) (fun s => [.sh (machD M), .sh (sV b (ks.map nD ++ d :: r)), .sh (nD M.1.length), oO s.1, oO s.2]) rfl (fun _ _ => True) trivial ks.length (by simp) (fun r => ∃ δ, r = .er ⟨"InvalidLate", ["at"], [nD ks.length]⟩ δ) (by rintro _ ⟨δ, rfl⟩; exact .inr ⟨_, _, rfl⟩) (by
    intro i x s hi hx _
    obtain ⟨r1, r2⟩ := zipIdx_at hx
    rw [List.getElem?_append_left (by simpa using hi), List.getElem?_map] at r2
    obtain ⟨k, r3, r4⟩ := Option.map_eq_some_iff.mp r2
    have h1 := hk k (List.mem_of_getElem? r3)
    have h2 : k ∉ ks.take i := nodup_take hn r3
    have h3 : (ks.map nD ++ d :: r).take i = (ks.take i).map nD := by rw [List.take_append_of_le_length (by simp; omega), List.map_take]
    refine ⟨_, (some (nD i), some (nD k)), rfl, ?_, trivial⟩
    left
    rw [r1, ← r4]
    os_names e_is_below bel_nD h1 h2 h3 oO_some) (by
    intro x s hx _
    obtain ⟨r1, r2⟩ := zipIdx_at hx
    rw [List.getElem?_append_right (by simp)] at r2
    simp only [List.length_map, Nat.sub_self, List.getElem?_cons_zero, Option.some.injEq] at r2
    have h3 : (ks.map nD ++ d :: r).take ks.length = ks.map nD := by rw [List.take_append_of_le_length (by simp), List.take_of_length_le (by simp)]
    refine ⟨_, rfl, ?_⟩
    rw [r1, ← r2]
    rcases hb with hb | ⟨k, hk1, rfl⟩
    · os_names e_is_below hd hb
      exact ⟨_, rfl⟩
    · have h1 := hk k hk1
      os_names e_is_below bel_nD h1 h3 hk1
      exact ⟨_, rfl⟩)
  obtain ⟨δ, rfl⟩ := key
  os_names bind_ok
/-- no sequence -/
theorem z_need_late {M : List (List Nat) × List Nat} (h : MachOk M) {d : D} (hd : okT d = true) (hs : isSeq d = false) : m_need_late [.sh (machD M), .sh d] = .er ⟨"InvalidLate", ["at"], [.int (-1)]⟩ [.no, .no] := by
  have z1 : (nD M.2.length :: [nD M.1.length])[1]? = some (nD M.1.length) := rfl
  unfold m_need_late g_need_late
  os_names e_machine_sizes h e_is_sequence z1 hd hs
theorem e_need_gone {M : List (List Nat) × List Nat} (h : MachOk M) {b : Bool} {ks : List Nat} (hn : ks.Nodup) (hk : ∀ k ∈ ks, k < M.1.length) : m_need_gone [.sh (machD M), .sh (sV b (ks.map nD))] = .ok (.sh (tN (sortN ks))) [.no, .no] := by
  have hl := nodup_len hn hk
  have k2 := h.k2
  have hl' : ks.length ≤ 16777216 := by omega
  have z1 : (nD M.2.length :: [nD M.1.length])[1]? = some (nD M.1.length) := rfl
  unfold m_need_gone g_need_gone
  os_names e_machine_sizes h e_is_sequence z1
  generalize hL : loopS _ _ _ _ = L
  obtain ⟨s', rfl, -⟩ := loop_E hL (s := ((none, none) : Option D × Option D)) (fun s => [.sh (machD M), .sh (sV b (ks.map nD)), .sh (nD M.1.length), oO s.1, oO s.2]) rfl (fun _ _ => True) trivial (by
    intro i x s hx _
    obtain ⟨r1, r2⟩ := zipIdx_at hx
    have h1 := hk x.1 (List.mem_of_getElem? r2)
    have h2 : x.1 ∉ ks.take x.2 := by rw [r1]; exact nodup_take hn r2
    refine ⟨_, (some (nD x.2), some (nD x.1)), rfl, ?_, trivial⟩
    left
    os_names e_is_below bel_nD h1 h2 oO_some map_take')
  os_names sort_nats hl'
  rfl
/-- the first wrong one -/
theorem x_need_gone {M : List (List Nat) × List Nat} (h : MachOk M) {b : Bool} {ks : List Nat} {d : D} {r : List D} (hn : ks.Nodup) (hk : ∀ k ∈ ks, k < M.1.length) (hd : okT d = true) (hb : isBel d M.1.length = false ∨ ∃ k ∈ ks, d = nD k) : m_need_gone [.sh (machD M), .sh (sV b (ks.map nD ++ d :: r))] = .er ⟨"InvalidLot", ["at"], [nD ks.length]⟩ [.no, .no] := by
  have z1 : (nD M.2.length :: [nD M.1.length])[1]? = some (nD M.1.length) := rfl
  unfold m_need_gone g_need_gone
  os_names e_machine_sizes h e_is_sequence z1 enum_D
  generalize hL : loopS _ _ _ _ = L
  have key := loop_X hL (s := ((none, none) : Option D × Option D)) (fun s => [.sh (machD M), .sh (sV b (ks.map nD ++ d :: r)), .sh (nD M.1.length), oO s.1, oO s.2]) rfl (fun _ _ => True) trivial ks.length (by simp) (fun r => ∃ δ, r = .er ⟨"InvalidLot", ["at"], [nD ks.length]⟩ δ) (by rintro _ ⟨δ, rfl⟩; exact .inr ⟨_, _, rfl⟩) (by
    intro i x s hi hx _
    obtain ⟨r1, r2⟩ := zipIdx_at hx
    rw [List.getElem?_append_left (by simpa using hi), List.getElem?_map] at r2
    obtain ⟨k, r3, r4⟩ := Option.map_eq_some_iff.mp r2
    have h1 := hk k (List.mem_of_getElem? r3)
    have h2 : k ∉ ks.take i := nodup_take hn r3
    have h3 : (ks.map nD ++ d :: r).take i = (ks.take i).map nD := by rw [List.take_append_of_le_length (by simp; omega), List.map_take]
    refine ⟨_, (some (nD i), some (nD k)), rfl, ?_, trivial⟩
    left
    rw [r1, ← r4]
    os_names e_is_below bel_nD h1 h2 h3 oO_some) (by
    intro x s hx _
    obtain ⟨r1, r2⟩ := zipIdx_at hx
    rw [List.getElem?_append_right (by simp)] at r2
    simp only [List.length_map, Nat.sub_self, List.getElem?_cons_zero, Option.some.injEq] at r2
    have h3 : (ks.map nD ++ d :: r).take ks.length = ks.map nD := by rw [List.take_append_of_le_length (by simp), List.take_of_length_le (by simp)]
    refine ⟨_, rfl, ?_⟩
    rw [r1, ← r2]
    rcases hb with hb | ⟨k, hk1, rfl⟩
    · os_names e_is_below hd hb
      exact ⟨_, rfl⟩
    · have h1 := hk k hk1
      os_names e_is_below bel_nD h1 h3 hk1
      exact ⟨_, rfl⟩)
  obtain ⟨δ, rfl⟩ := key
  os_names bind_ok
/-- no sequence -/
theorem z_need_gone {M : List (List Nat) × List Nat} (h : MachOk M) {d : D} (hd : okT d = true) (hs : isSeq d = false) : m_need_gone [.sh (machD M), .sh d] = .er ⟨"InvalidLot", ["at"], [.int (-1)]⟩ [.no, .no] := by
  have z1 : (nD M.2.length :: [nD M.1.length])[1]? = some (nD M.1.length) := rfl
  unfold m_need_gone g_need_gone
  os_names e_machine_sizes h e_is_sequence z1 hd hs
theorem e_states_along {M : List (List Nat) × List Nat} (h : MachOk M) {w : List Nat} (hw : ∀ k ∈ w, k < M.1.length) (hl : w.length ≤ 16000000) : m_states_along [.sh (.tup (M.1.map tN)), .sh (.lst (w.map nD))] = .ok (.sh (.lst (((List.range (w.length + 1)).map fun j => led M.1 0 (w.take j)).map nD))) [.no, .no] := by
  have l1 : ([D.int 0] : List D).length ≤ 16777216 := by decide
  unfold m_states_along g_states_along
  os_names bind_ok
  generalize hL : loopS _ _ _ _ = L
  obtain ⟨s', rfl, h'⟩ := loop_E hL (s := (([0], none) : List Nat × Option D)) (fun s => [.sh (.tup (M.1.map tN)), .sh (.lst (w.map nD)), oL (s.1.map nD), oO s.2]) rfl (fun i s => s.1 = (List.range (i + 1)).map fun j => led M.1 0 (w.take j)) rfl (by
    rintro i k ⟨l, v⟩ hx hI
    simp only at hI
    subst hI
    have hk := hw k (List.mem_of_getElem? hx)
    have hi : i < w.length := (List.getElem?_eq_some_iff.mp hx).1
    have hs : led M.1 0 (w.take i) < M.2.length := led_lt h h.s1 fun y hy => hw y (List.mem_of_mem_take hy)
    obtain ⟨r, q1, q2⟩ := ix_maps h hs hk
    have q3 : ixD (.lst (((List.range (i + 1)).map fun j => led M.1 0 (w.take j)).map nD)) (.int (-1)) = some (nD (led M.1 0 (w.take i))) := by
      rw [range_succ_map, List.map_append, last_l (by simp)]; simp
    have q4 : i + 1 < 16777216 := by omega
    refine ⟨_, (((List.range (i + 1)).map fun j => led M.1 0 (w.take j)) ++ [stp M.1 (led M.1 0 (w.take i)) k], some (nD k)), rfl, ?_, ?_⟩
    · left
      os_names q1 q2 q3 q4 List.length_map List.length_range oO_some List.map_append
    · dsimp only
      rw [range_succ_map _ (i + 1), take_succ_at hx, led_app]
      rfl)
  obtain ⟨l, v⟩ := s'
  dsimp only at h' ⊢
  subst h'
  os_names bind_ok
theorem e_states_last {M : List (List Nat) × List Nat} (h : MachOk M) {w : List Nat} (hw : ∀ k ∈ w, k < M.1.length) (hl : w.length ≤ 16000000) : ∃ l, m_states_along [.sh (.tup (M.1.map tN)), .sh (.lst (w.map nD))] = .ok (.sh (.lst l)) [.no, .no] ∧ ixD (.lst l) (.int (-1)) = some (nD (led M.1 0 w)) :=
  ⟨_, e_states_along h hw hl, states_last rfl⟩
theorem e_kinds_of_news {xs : List (Nat × Nat)} (hl : xs.length ≤ 16777216) : m_kinds_of_news [.sh (.tup (xs.map nwD))] = .ok (.sh (.lst ((xs.map (·.2)).map nD))) [.no] := by
  unfold m_kinds_of_news g_kinds_of_news
  os_names List.length_map hl true_and
  rw [comp_map nwD fun p => nD p.2]
  · os_names List.map_map and_self
    rfl
  · exact fun x hx => ⟨_, rfl, by os_names bind_ok, by os_names bind_ok⟩
/-- a datum is a moment, a kind, a mark -/
def toldB (n : Nat) (d : D) : Bool := match seqD d with
  | some [a, b, c] => isBel a 1000000 && (isBel b n && isBel c 2)
  | _ => false
theorem e_is_told_deed {ms : List D} {d : D} (h : okT d = true) (h2 : ∀ ds, seqD d = some ds → ∀ x ∈ ds, okT x = true) : m_is_told_deed [.sh (.tup ms), .sh d] = .ok (.sh (.bl (toldB ms.length d))) [.no, .no] := by
  unfold m_is_told_deed g_is_told_deed
  have key : ∀ (b : Bool) (ds : List D), d = sV b ds → runF 2 2 [] g_is_told_deed [.sh (.tup ms), .sh d] = .ok (.sh (.bl (toldB ms.length d))) [.no, .no] := fun b ds e => by
    subst e
    have h3 := h2 ds seq_sV
    unfold g_is_told_deed toldB
    os_names e_is_sequence
    match ds, h3 with
    | [], _ => os_names bind_ok
    | [_], _ => os_names bind_ok
    | [_, _], _ => os_names bind_ok
    | [x, y, z], h3 =>
      have o1 := h3 x (by simp)
      have o2 := h3 y (by simp)
      have o3 := h3 z (by simp)
      have i0 : ixD (sV b [x, y, z]) (nD 0) = some x := by cases b <;> rfl
      have i1 : ixD (sV b [x, y, z]) (nD 1) = some y := by cases b <;> rfl
      have i2 : ixD (sV b [x, y, z]) (nD 2) = some z := by cases b <;> rfl
      os_names i0 i1 i2 e_is_below o1 o2 o3
      cases isBel x 1000000
      · os_names bind_ok
      · os_names i1 i2 e_is_below o2 o3
        cases isBel y ms.length
        · os_names bind_ok
        · os_names i2 e_is_below o3
    | _ :: _ :: _ :: _ :: r, _ =>
      have q : ¬ (r.length + 1 + 1 + 1 + 1 = 3) := by omega
      os_names q
  cases d with
  | tup ds => exact key true ds rfl
  | lst ds => exact key false ds rfl
  | gl x => simp [okT] at h
  | clo x => simp [okT] at h
  | _ => os_names e_is_sequence isSeq; rfl
def fitsB (ls gs : List Nat) (ah : List (Nat × Nat × Nat)) (d : Nat × Nat × Nat) : Bool :=
  if d.2.2 = 1 then decide (d.2.1 ∈ gs) && (decide ((d.1, d.2.1, 0) ∈ ah) && !decide ((d.1, d.2.1, 1) ∈ ah))
  else if d.2.1 ∈ ls then ah.all fun o => decide (d.1 ≠ o.1)
  else ah.all fun o => decide (o.1 < d.1)
theorem e_fits_deeds {ls gs : List Nat} {ah : List (Nat × Nat × Nat)} {d : Nat × Nat × Nat} (hl : ah.length ≤ 16777216) : m_fits_deeds [.sh (tN ls), .sh (tN gs), .sh (.lst (ah.map ddD)), .sh (ddD d)] = .ok (.sh (.bl (fitsB ls gs ah d))) [.no, .no, .no, .no] := by
  obtain ⟨m, k, w⟩ := d
  have hd : ddD (m, k, w) = .tup [nD m, nD k, nD w] := rfl
  rw [hd]
  unfold m_fits_deeds g_fits_deeds fitsB
  have n1 : inD (nD k) (tN gs) = some (.bl (decide (k ∈ gs))) := inN_t
  have n2 : inD (nD k) (tN ls) = some (.bl (decide (k ∈ ls))) := inN_t
  by_cases e : w = 1
  · by_cases e2 : k ∈ gs
    · by_cases e3 : (m, k, 0) ∈ ah
      · os_names e n1 e2 in_dd e3 ni_dd
      · os_names e n1 e2 in_dd e3 ni_dd
    · os_names e n1 e2
  · by_cases e2 : k ∈ ls
    · os_names e n2 e2 List.length_map hl and_self
      rw [comp_map ddD fun o => D.bl (decide (m ≠ o.1))]
      · os_names all_bl
      · exact fun x hx => ⟨_, rfl, by os_names bind_ok, by os_names bind_ok⟩
    · os_names e n2 e2 List.length_map hl and_self
      rw [comp_map ddD fun o => D.bl (decide (o.1 < m))]
      · os_names all_bl
      · exact fun x hx => ⟨_, rfl, by os_names bind_ok, by os_names bind_ok⟩
theorem fits_sort {ls gs : List Nat} : fitsB (sortN ls) (sortN gs) = fitsB ls gs := by
  funext ah d
  unfold fitsB
  simp only [mem_sortN]
abbrev Deed := Nat × Nat × Nat
def StoryOk (n : Nat) (ls gs : List Nat) (st : List Deed) : Prop := ∀ i d, st[i]? = some d → d.1 < 1000000 ∧ d.2.1 < n ∧ d.2.2 < 2 ∧ fitsB ls gs (st.take i) d = true
theorem told_hand {n : Nat} {p : Bool × Deed} (h1 : p.2.1 < 1000000) (h2 : p.2.2.1 < n) (h3 : p.2.2.2 < 2) : toldB n (handD p) = true := by
  unfold toldB
  rw [seq_hand]
  simp [bel_nD, h1, h2, h3]
theorem e_told_hand {M : List (List Nat) × List Nat} {p : Bool × Deed} (h1 : p.2.1 < 1000000) (h2 : p.2.2.1 < M.1.length) (h3 : p.2.2.2 < 2) : m_is_told_deed [.sh (.tup (M.1.map tN)), .sh (handD p)] = .ok (.sh (.bl true)) [.no, .no] := by
  rw [e_is_told_deed okT_hand (fun ds e x hx => ?_), told_hand h1 (by simpa using h2) h3]
  rw [seq_hand] at e
  cases e
  simp only [List.mem_cons, List.not_mem_nil, or_false] at hx
  rcases hx with rfl | rfl | rfl <;> rfl
theorem e_need_withdrawn {M : List (List Nat) × List Nat} (h : MachOk M) {b b1 b2 : Bool} {ls gs : List Nat} (l1 : ls.Nodup) (l2 : ∀ k ∈ ls, k < M.1.length) (g1 : gs.Nodup) (g2 : ∀ k ∈ gs, k < M.1.length) {hs : List (Bool × Deed)} (hl : hs.length ≤ 2000) (ok : StoryOk M.1.length ls gs (hs.map (·.2))) :
    m_need_withdrawn [.sh (machD M), .sh (sV b1 (ls.map nD)), .sh (sV b2 (gs.map nD)), .sh (sV b (hs.map handD))] = .ok (.sh (.tup ((hs.map (·.2)).map ddD))) [.no, .no, .no, .no] := by
  have m0 : ixD (machD M) (nD 0) = some (.tup (M.1.map tN)) := rfl
  have hl2 : ¬ 2000 < hs.length := by omega
  unfold m_need_withdrawn g_need_withdrawn
  have q1 := e_need_late h (b := b1) l1 l2
  have q2 := e_need_gone h (b := b2) g1 g2
  os_names e_need_machine h m0 q1 q2 e_is_sequence List.length_map hl2
  have l0 : ([] : List D).length ≤ 16777216 := by decide
  generalize hL : loopS _ _ _ _ = L
  obtain ⟨s', rfl, h'⟩ := loop_E hL (s := (([], none, none) : List Deed × Option D × Option D)) (fun s => [.sh (machD M), .sh (tN (sortN ls)), .sh (tN (sortN gs)), .sh (sV b (hs.map handD)), .sh (.tup (M.1.map tN)), oL (s.1.map ddD), oO s.2.1, oO s.2.2]) rfl (fun i s => s.1 = (hs.map (·.2)).take i) rfl (by
    rintro i x ⟨f, v1, v2⟩ hx hI
    obtain ⟨r1, r2⟩ := zipIdx_at hx
    simp only at hI
    subst hI
    have r3 : (hs.map (·.2))[i]? = some x.1.2 := by rw [List.getElem?_map, r2]; rfl
    obtain ⟨o1, o2, o3, o4⟩ := ok i _ r3
    have hi : i < hs.length := (List.getElem?_eq_some_iff.mp r2).1
    have t1 := e_told_hand (M := M) o1 o2 o3
    have tl : ((hs.map (·.2)).take i).length ≤ 16777216 := by simp; omega
    have tl2 : ((hs.map (·.2)).take i).length < 16777216 := by simp; omega
    have t2 : m_fits_deeds [.sh (tN (sortN ls)), .sh (tN (sortN gs)), .sh (.lst (((hs.map (·.2)).take i).map ddD)), .sh (ddD x.1.2)] = .ok (.sh (.bl true)) [.no, .no, .no, .no] := by
      rw [e_fits_deeds tl, fits_sort, o4]
    refine ⟨_, ((hs.map (·.2)).take (i + 1), some (nD x.2), some (handD x.1)), rfl, ?_, rfl⟩
    left
    rw [take_succ_at r3]
    os_names t1 t2 tup_hand tl2 List.length_map List.map_append oO_some)
  obtain ⟨f, v1, v2⟩ := s'
  dsimp only at h' ⊢
  subst h'
  os_names bind_ok
  rw [List.length_zipIdx, List.take_of_length_le (by simp)]
def leftL (st : List Deed) : List (Nat × Nat) := (st.filter fun d => decide (d.2.2 = 0) && !decide (d.1 ∈ (st.filter fun d => decide (d.2.2 = 1)).map (·.1))).map fun d => (d.1, d.2.1)
theorem e_left_news {st : List Deed} (hl : st.length ≤ 16777216) : m_left_news [.sh (.tup (st.map ddD))] = .ok (.sh (.tup (((leftL st).mergeSort leP).map nwD))) [.no] := by
  unfold m_left_news g_left_news
  os_names List.length_map hl and_self
  rw [comp_fil ddD (fun d : Deed => decide (d.2.2 = 1)) fun d : Deed => nD d.1]
  · have e1 : (st.filter fun d : Deed => decide (d.2.2 = 1)).map (fun d : Deed => nD d.1) = ((st.filter fun d : Deed => decide (d.2.2 = 1)).map (·.1)).map nD := by rw [List.map_map]; rfl
    rw [e1]
    os_names List.length_map hl and_self
    rw [comp_fil ddD (fun d : Deed => decide (d.2.2 = 0) && !decide (d.1 ∈ (st.filter fun d : Deed => decide (d.2.2 = 1)).map (·.1))) fun d : Deed => nwD (d.1, d.2.1)]
    · have e2 : (st.filter fun d : Deed => decide (d.2.2 = 0) && !decide (d.1 ∈ (st.filter fun d : Deed => decide (d.2.2 = 1)).map (·.1))).map (fun d : Deed => nwD (d.1, d.2.1)) = (leftL st).map nwD := by unfold leftL; rw [List.map_map]; rfl
      rw [e2]
      have e3 : (leftL st).length ≤ 16777216 := by
        unfold leftL
        rw [List.length_map]
        exact Nat.le_trans (List.length_filter_le _ _) hl
      os_names sort_nw e3
    · intro x hx
      refine ⟨_, rfl, ?_, fun _ => ?_, ?_⟩
      · by_cases e : x.2.2 = 0 <;> os_names e
      · os_names slc_t2
      · os_names bind_ok
  · intro x hx
    exact ⟨_, rfl, by os_names bind_ok, fun _ => by os_names bind_ok, by os_names bind_ok⟩
def leftS (st : List Deed) : List (Nat × Nat) := (leftL st).mergeSort leP
theorem e_standing_news {M : List (List Nat) × List Nat} (h : MachOk M) {b b1 b2 : Bool} {ls gs : List Nat} (l1 : ls.Nodup) (l2 : ∀ k ∈ ls, k < M.1.length) (g1 : gs.Nodup) (g2 : ∀ k ∈ gs, k < M.1.length) {hs : List (Bool × Deed)} (hl : hs.length ≤ 2000) (ok : StoryOk M.1.length ls gs (hs.map (·.2))) :
    m_standing_news [.sh (machD M), .sh (sV b1 (ls.map nD)), .sh (sV b2 (gs.map nD)), .sh (sV b (hs.map handD))] = .ok (.sh (.tup ((leftS (hs.map (·.2))).map nwD))) [.no, .no, .no, .no] := by
  have q1 := e_need_withdrawn h (b := b) (b1 := b1) (b2 := b2) l1 l2 g1 g2 hl ok
  have q2 := e_left_news (st := hs.map (·.2)) (by simp; omega)
  unfold m_standing_news g_standing_news
  os_names q1 q2
  rfl
theorem left_kinds {n : Nat} {ls gs : List Nat} {st : List Deed} (ok : StoryOk n ls gs st) : ∀ i, ∀ k ∈ (leftS (st.take i)).map (·.2), k < n := by
  intro i k hk
  obtain ⟨p, hp, rfl⟩ := List.mem_map.mp hk
  unfold leftS leftL at hp
  rw [List.mem_mergeSort] at hp
  obtain ⟨d, hd, rfl⟩ := List.mem_map.mp hp
  have hd2 := List.mem_of_mem_take (List.mem_filter.mp hd).1
  obtain ⟨j, hj⟩ := List.getElem?_of_mem hd2
  exact (ok j d hj).2.1
theorem left_len (st : List Deed) : (leftS st).length ≤ st.length := by
  unfold leftS leftL
  rw [List.length_mergeSort, List.length_map]
  exact List.length_filter_le _ _
def rdAt (M : List (List Nat) × List Nat) (nws : List (Nat × Nat)) : Nat := M.2.getD (led M.1 0 (nws.map (·.2))) 0
theorem e_withdrawn_readings {M : List (List Nat) × List Nat} (h : MachOk M) {b b1 b2 : Bool} {ls gs : List Nat} (l1 : ls.Nodup) (l2 : ∀ k ∈ ls, k < M.1.length) (g1 : gs.Nodup) (g2 : ∀ k ∈ gs, k < M.1.length) {hs : List (Bool × Deed)} (hl : hs.length ≤ 2000) (ok : StoryOk M.1.length ls gs (hs.map (·.2))) :
    m_withdrawn_readings [.sh (machD M), .sh (sV b1 (ls.map nD)), .sh (sV b2 (gs.map nD)), .sh (sV b (hs.map handD))] = .ok (.sh (tN ((List.range (hs.length + 1)).map fun i => rdAt M (leftS ((hs.map (·.2)).take i))))) [.no, .no, .no, .no] := by
  have q1 := e_need_withdrawn h (b := b) (b1 := b1) (b2 := b2) l1 l2 g1 g2 hl ok
  have m0 : machD M = .tup [.tup (M.1.map tN), tN M.2] := rfl
  have hl2 : hs.length + 1 ≤ 16777216 := by omega
  have hl3 : hs.length + 1 < 1000000 := by omega
  have q2 := e_need_machine h
  unfold m_withdrawn_readings g_withdrawn_readings
  os_names q1 q2
  rw [m0]
  os_names List.length_map List.length_range hl2 hl3 and_self
  rw [comp_map nD fun i => nD (rdAt M (leftS ((hs.map (·.2)).take i)))]
  · os_names bind_ok
    simp only [tN, List.map_map, Function.comp_def]
  · intro i hi
    have hi' : i < hs.length + 1 := List.mem_range.mp hi
    generalize hst : hs.map (·.2) = st at *
    have lst : st.length = hs.length := by rw [← hst, List.length_map]
    have e1 : (st.map ddD).take i = (st.take i).map ddD := List.map_take.symm
    have q3 := e_left_news (st := st.take i) (by simp; omega)
    have q4 := e_kinds_of_news (xs := leftS (st.take i)) (by have := left_len (st.take i); simp at this; omega)
    obtain ⟨l, q5, q6⟩ := e_states_last h (w := (leftS (st.take i)).map (·.2)) (left_kinds ok i) (by have := left_len (st.take i); simp at this ⊢; omega)
    have q7 : led M.1 0 ((leftS (st.take i)).map (·.2)) < M.2.length := led_lt h h.s1 (left_kinds ok i)
    have q8 : M.2[led M.1 0 ((leftS (st.take i)).map (·.2))]? = some (rdAt M (leftS (st.take i))) := by
      unfold rdAt
      rw [List.getD_eq_getElem?_getD, List.getElem?_eq_getElem q7, Option.getD_some]
    have q9 : (leftL (st.take i)).mergeSort leP = leftS (st.take i) := rfl
    exact ⟨_, rfl, by os_names e1 q3 q9 q4 q5 q6 q8, by os_names bind_ok⟩
/-- a datum that does not fit behind a story -/
structure BadD (n : Nat) (ls gs : List Nat) (st : List Deed) (d : D) : Prop where
  t : okT d = true
  ts : ∀ ds, seqD d = some ds → ∀ x ∈ ds, okT x = true
  b : toldB n d = false ∨ ∃ c dd, d = handD (c, dd) ∧ dd.1 < 1000000 ∧ dd.2.1 < n ∧ dd.2.2 < 2 ∧ fitsB ls gs st dd = false
theorem x_need_withdrawn {M : List (List Nat) × List Nat} (h : MachOk M) {b b1 b2 : Bool} {ls gs : List Nat} (l1 : ls.Nodup) (l2 : ∀ k ∈ ls, k < M.1.length) (g1 : gs.Nodup) (g2 : ∀ k ∈ gs, k < M.1.length) {hs : List (Bool × Deed)} {d : D} {r : List D} (hl : hs.length + r.length + 1 ≤ 2000) (ok : StoryOk M.1.length ls gs (hs.map (·.2))) (bad : BadD M.1.length ls gs (hs.map (·.2)) d) :
    m_need_withdrawn [.sh (machD M), .sh (sV b1 (ls.map nD)), .sh (sV b2 (gs.map nD)), .sh (sV b (hs.map handD ++ d :: r))] = .er ⟨"InvalidGone", ["at"], [nD hs.length]⟩ [.no, .no, .no, .no] := by
  have m0 : ixD (machD M) (nD 0) = some (.tup (M.1.map tN)) := rfl
  have hl2 : ¬ 2000 < hs.length + (r.length + 1) := by omega
  have q1 := e_need_late h (b := b1) l1 l2
  have q2 := e_need_gone h (b := b2) g1 g2
  unfold m_need_withdrawn g_need_withdrawn
  os_names e_need_machine h m0 q1 q2 e_is_sequence List.length_map List.length_append hl2 enum_D
  have l0 : ([] : List D).length ≤ 16777216 := by decide
  generalize hL : loopS _ _ _ _ = L
  have key := loop_X hL (s := (([], none, none) : List Deed × Option D × Option D)) (fun s => [.sh (machD M), .sh (tN (sortN ls)), .sh (tN (sortN gs)), .sh (sV b (hs.map handD ++ d :: r)), .sh (.tup (M.1.map tN)), oL (s.1.map ddD), oO s.2.1, oO s.2.2]) rfl (fun i s => s.1 = (hs.map (·.2)).take i) rfl hs.length (by simp) (fun r => ∃ δ, r = .er ⟨"InvalidGone", ["at"], [nD hs.length]⟩ δ) (by rintro _ ⟨δ, rfl⟩; exact .inr ⟨_, _, rfl⟩) (by
    rintro i x ⟨f, v1, v2⟩ hi hx hI
    obtain ⟨r1, r2⟩ := zipIdx_at hx
    simp only at hI
    subst hI
    rw [List.getElem?_append_left (by simpa using hi), List.getElem?_map] at r2
    obtain ⟨p, r2, r4⟩ := Option.map_eq_some_iff.mp r2
    have r3 : (hs.map (·.2))[i]? = some p.2 := by rw [List.getElem?_map, r2]; rfl
    obtain ⟨o1, o2, o3, o4⟩ := ok i _ r3
    have t1 := e_told_hand (M := M) o1 o2 o3
    have tl : ((hs.map (·.2)).take i).length ≤ 16777216 := by simp; omega
    have tl2 : ((hs.map (·.2)).take i).length < 16777216 := by simp; omega
    have t2 : m_fits_deeds [.sh (tN (sortN ls)), .sh (tN (sortN gs)), .sh (.lst (((hs.map (·.2)).take i).map ddD)), .sh (ddD p.2)] = .ok (.sh (.bl true)) [.no, .no, .no, .no] := by
      rw [e_fits_deeds tl, fits_sort, o4]
    refine ⟨_, ((hs.map (·.2)).take (i + 1), some (nD x.2), some (handD p)), rfl, ?_, rfl⟩
    left
    rw [take_succ_at r3, ← r4]
    os_names t1 t2 tup_hand tl2 List.length_map List.map_append oO_some) (by
    rintro x ⟨f, v1, v2⟩ hx hI
    obtain ⟨r1, r2⟩ := zipIdx_at hx
    simp only at hI
    subst hI
    rw [List.getElem?_append_right (by simp)] at r2
    simp only [List.length_map, Nat.sub_self, List.getElem?_cons_zero, Option.some.injEq] at r2
    have ft : (hs.map (·.2)).take hs.length = hs.map (·.2) := List.take_of_length_le (by simp)
    have tl : (hs.map (·.2)).length ≤ 16777216 := by simp; omega
    have bt := bad.t
    have t1 := e_is_told_deed (ms := M.1.map tN) bad.t bad.ts
    rw [List.length_map] at t1
    refine ⟨_, rfl, ?_⟩
    rw [r1, ← r2, ft]
    rcases bad.b with hb | ⟨c, dd, hd, o1, o2, o3, hb⟩
    · rw [hb] at t1
      os_names t1
      exact ⟨_, rfl⟩
    · subst hd
      have t1 := e_told_hand (M := M) (p := (c, dd)) o1 o2 o3
      have t2 : m_fits_deeds [.sh (tN (sortN ls)), .sh (tN (sortN gs)), .sh (.lst ((hs.map (·.2)).map ddD)), .sh (ddD dd)] = .ok (.sh (.bl false)) [.no, .no, .no, .no] := by
        rw [e_fits_deeds tl, fits_sort, hb]
      have t3 : tupleD (handD (c, dd)) = some (ddD dd) := tup_hand
      os_names t1 t2 t3
      exact ⟨_, rfl⟩)
  obtain ⟨δ, rfl⟩ := key
  os_names bind_ok
/-- no sequence, or too long -/
theorem z_need_withdrawn {M : List (List Nat) × List Nat} (h : MachOk M) {b1 b2 : Bool} {ls gs : List Nat} (l1 : ls.Nodup) (l2 : ∀ k ∈ ls, k < M.1.length) (g1 : gs.Nodup) (g2 : ∀ k ∈ gs, k < M.1.length) {d : D} (hd : okT d = true) (hs : isSeq d = false ∨ ∃ b ds, d = sV b ds ∧ 2000 < ds.length) :
    m_need_withdrawn [.sh (machD M), .sh (sV b1 (ls.map nD)), .sh (sV b2 (gs.map nD)), .sh d] = .er ⟨"InvalidGone", ["at"], [.int (-1)]⟩ [.no, .no, .no, .no] := by
  have m0 : ixD (machD M) (nD 0) = some (.tup (M.1.map tN)) := rfl
  have q1 := e_need_late h (b := b1) l1 l2
  have q2 := e_need_gone h (b := b2) g1 g2
  unfold m_need_withdrawn g_need_withdrawn
  rcases hs with hs | ⟨b, ds, rfl, hs⟩
  · os_names e_need_machine h m0 q1 q2 e_is_sequence hd hs
  · os_names e_need_machine h m0 q1 q2 e_is_sequence hs
/-- an error in an argument ahead -/
theorem late_need_withdrawn {M : List (List Nat) × List Nat} (h : MachOk M) {l g v : D} {x : DX} (q : m_need_late [.sh (machD M), .sh l] = .er x [.no, .no]) : m_need_withdrawn [.sh (machD M), .sh l, .sh g, .sh v] = .er x [.no, .no, .no, .no] := by
  have m0 : ixD (machD M) (nD 0) = some (.tup (M.1.map tN)) := rfl
  unfold m_need_withdrawn g_need_withdrawn
  os_names e_need_machine h m0 q
theorem gone_need_withdrawn {M : List (List Nat) × List Nat} (h : MachOk M) {b1 : Bool} {ls : List Nat} (l1 : ls.Nodup) (l2 : ∀ k ∈ ls, k < M.1.length) {g v : D} {x : DX} (q : m_need_gone [.sh (machD M), .sh g] = .er x [.no, .no]) : m_need_withdrawn [.sh (machD M), .sh (sV b1 (ls.map nD)), .sh g, .sh v] = .er x [.no, .no, .no, .no] := by
  have m0 : ixD (machD M) (nD 0) = some (.tup (M.1.map tN)) := rfl
  have q1 := e_need_late h (b := b1) l1 l2
  unfold m_need_withdrawn g_need_withdrawn
  os_names e_need_machine h m0 q1 q
theorem mach_need_withdrawn {m l g v : D} {x : DX} (q : m_need_machine [.sh m] = .er x [.no]) : m_need_withdrawn [.sh m, .sh l, .sh g, .sh v] = .er x [.no, .no, .no, .no] := by
  unfold m_need_withdrawn g_need_withdrawn
  os_names q
theorem er_standing_news {m l g v : D} {x : DX} (q : m_need_withdrawn [.sh m, .sh l, .sh g, .sh v] = .er x [.no, .no, .no, .no]) : m_standing_news [.sh m, .sh l, .sh g, .sh v] = .er x [.no, .no, .no, .no] := by
  unfold m_standing_news g_standing_news
  os_names q
theorem er_withdrawn_readings {m l g v : D} {x : DX} (q : m_need_withdrawn [.sh m, .sh l, .sh g, .sh v] = .er x [.no, .no, .no, .no]) : m_withdrawn_readings [.sh m, .sh l, .sh g, .sh v] = .er x [.no, .no, .no, .no] := by
  unfold m_withdrawn_readings g_withdrawn_readings
  os_names q
theorem x_need_machine {maps : List (List Nat)} (k1 : 1 ≤ maps.length) (k2 : maps.length ≤ 4) : m_need_machine [.sh (.tup [.tup (maps.map tN), .tup []])] = .er ⟨"InvalidMachine", ["at"], [.int (-1)]⟩ [.no] := by
  have pr : isPrD (.tup [.tup (maps.map tN), .tup []]) = true := rfl
  unfold m_need_machine g_need_machine
  os_names e_is_pair e_is_sequence pr k1 k2 List.length_map
theorem s_box (ns : List Int) : ∃ B, m__law_box [.fz (ns.map .int)] = .ok (bxO B) [.fz (ns.map .int)] := by
  have e1 : ∀ δ : List O, δ[0]? = some (.fz (ns.map .int)) → slcF 0 (sxM (some (cst (.int 60)))) δ = .ok (.lst ((ns.take 60).map .int)) δ := fun δ h => by
    rw [slcF_ok (fh := sxM (some (cst (.int 60)))) (δ' := δ) (h := some 60) h rfl, show (60 : Int) = ((60 : Nat) : Int) from rfl, cut_pre, List.map_take]
  have e2 := e1 [.fz (ns.map .int), .no, .no, .no] rfl
  have l1 : (ns.take 60).length ≤ 16777216 := by simp; omega
  unfold m__law_box g__law_box
  os_names bind_ok
  rw [show nD 60 = D.int 60 from rfl, e2]
  os_names List.length_map l1 and_self
  rw [FW.comp_map D.int fun i : Int => nD i.natAbs]
  · have e3 : (ns.take 60).map (fun i : Int => nD i.natAbs) = ((ns.take 60).map Int.natAbs).map nD := by rw [List.map_map]; rfl
    have l2 : ((ns.take 60).map Int.natAbs).length ≤ 60 := by simp; omega
    rw [e3]
    generalize (ns.take 60).map Int.natAbs = cs at l2 ⊢
    have l3 : cs.length ≤ 16777216 := by omega
    os_names bind_ok
    generalize hL : loopS _ _ _ _ = L
    obtain ⟨s', rfl, h'⟩ := loop_E hL (s := ((none, 52711) : Option D × Nat)) (fun s => [.fz (ns.map .int), .sh (.lst (cs.map nD)), oO s.1, .sh (nD s.2)]) rfl (fun i s => s.1 = none ∨ ∃ n, s.1 = some (nD n)) (.inl rfl) (by
      rintro i c ⟨v, s⟩ hx _
      refine ⟨_, (some (nD c), (s * 16807 + c % 2147483563 + 77) % 2147483647), rfl, ?_, .inr ⟨_, rfl⟩⟩
      left
      os_names oO_some)
    obtain ⟨v, s⟩ := s'
    os_names List.length_map l3 and_self
    rw [comp_fil nD (fun c : Nat => decide (1000000000000000000 ≤ c)) nD]
    · os_names bind_ok
      exact ⟨⟨_, s, Nat.le_trans (List.length_filter_le _ _) l2⟩, rfl⟩
    · exact fun x hx => ⟨_, rfl, by os_names bind_ok, fun _ => by os_names bind_ok, by os_names bind_ok⟩
  · exact fun x hx => ⟨_, rfl, by os_names bind_ok, by os_names bind_ok⟩
theorem s_draw (B : Box) (k : Nat) (h1 : 0 < k) (h2 : k < 1000000) : ∃ p : Nat × Box, p.1 < k ∧ m__law_draw [bxO B, .sh (nD k)] = .ok (.sh (nD p.1)) [bxO p.2, .no] := by
  have h3 : k < 1073741824 := by omega
  unfold m__law_draw g__law_draw
  os_names bind_ok
  generalize hL : loopS _ _ _ _ = L
  obtain ⟨s', rfl, h'⟩ := loop_E hL (s := ((B, none) : Box × Option D)) (fun s => [bxO s.1, .sh (nD k), oO s.2, .no]) rfl (fun i s => True) trivial (by
    rintro i c ⟨B, v⟩ hx _
    obtain ⟨cs, sd, hs⟩ := B
    match cs, hs with
    | [], hs =>
      refine ⟨_, (⟨[], sd, hs⟩, some (nD c)), rfl, ?_, trivial⟩
      left
      os_names oO_some List.isEmpty_nil
    | 0 :: cs, hs =>
      refine ⟨_, (⟨cs, sd, by simp at hs; omega⟩, some (nD c)), rfl, ?_, trivial⟩
      left
      os_names oO_some List.isEmpty_cons pop_bx
    | (n + 1) :: cs, hs =>
      refine ⟨_, (⟨(n + 1) :: cs, sd, hs⟩, some (nD c)), rfl, ?_, trivial⟩
      left
      have q : ¬ (n + 1 = 0) := by omega
      os_names oO_some List.isEmpty_cons q)
  obtain ⟨⟨cs, sd, hs⟩, v⟩ := s'
  match cs, hs with
  | [], hs =>
    have q : (((sd * 16807 + 41) % 2147483647) / 101) % k < k := Nat.mod_lt _ h1
    refine ⟨(_, ⟨[], (sd * 16807 + 41) % 2147483647, hs⟩), q, ?_⟩
    os_names List.isEmpty_nil h1
  | c :: cs, hs =>
    refine ⟨(_, ⟨c / k :: cs, sd, hs⟩), Nat.mod_lt c h1, ?_⟩
    have hs2 : cs.length ≤ 59 := by simp at hs; omega
    os_names List.isEmpty_cons pop_bx ins_bx hs2 h1 h3
noncomputable def dr (B : Box) (k : Nat) : Nat × Box := open Classical in if h : 0 < k ∧ k < 1000000 then Classical.choose (s_draw B k h.1 h.2) else (0, B)
theorem dr_lt {B : Box} {k : Nat} (h1 : 0 < k) (h2 : k < 1000000) : (dr B k).1 < k := by
  unfold dr
  rw [dif_pos ⟨h1, h2⟩]
  exact (Classical.choose_spec (s_draw B k h1 h2)).1
theorem e_draw {B : Box} {k : Nat} (h1 : 0 < k) (h2 : k < 1000000) : m__law_draw [bxO B, .sh (nD k)] = .ok (.sh (nD (dr B k).1)) [bxO (dr B k).2, .no] := by
  have := (Classical.choose_spec (s_draw B k h1 h2)).2
  unfold dr
  rw [dif_pos ⟨h1, h2⟩]
  exact this
theorem e_pick {B : Box} {b : Bool} {ds : List D} (h1 : ds ≠ []) (h2 : ds.length < 1000000) : ∃ d ∈ ds, m__law_pick [bxO B, .sh (sV b ds)] = .ok (.sh d) [bxO (dr B ds.length).2, .no] := by
  have h3 : 0 < ds.length := List.length_pos_iff.mpr h1
  have h4 := dr_lt (B := B) h3 h2
  refine ⟨ds[(dr B ds.length).1], List.getElem_mem h4, ?_⟩
  have h5 : ixD (sV b ds) (nD (dr B ds.length).1) = some ds[(dr B ds.length).1] := by
    cases b
    · show ixD (.lst ds) _ = _
      rw [ix_lst, List.getElem?_eq_getElem h4]
    · show ixD (.tup ds) _ = _
      rw [ix_tup, List.getElem?_eq_getElem h4]
  unfold m__law_pick g__law_pick
  os_names e_draw h3 h2 h5
theorem e_mixed {B : Box} {b : Bool} {xs : List Nat} (h2 : xs.length < 100000) : ∃ (B' : Box) (ys : List Nat), ys.Perm xs ∧ m__law_mixed [bxO B, .sh (sV b (xs.map nD))] = .ok (.sh (.lst (ys.map nD))) [bxO B', .no] := by
  have h3 : ([] : List D).length ≤ 16777216 := by decide
  have h4 : xs.length < 1000000 := by omega
  unfold m__law_mixed g__law_mixed
  os_names List.length_map h4
  generalize hL : loopS _ _ _ _ = L
  obtain ⟨s', rfl, h'⟩ := loop_E hL (s := ((B, xs, [], none) : Box × List Nat × List Nat × Option D)) (fun s => [bxO s.1, .sh (sV b (xs.map nD)), oL (s.2.1.map nD), oL (s.2.2.1.map nD), oO s.2.2.2]) rfl (fun i s => s.2.1.length + i = xs.length ∧ s.2.2.1.length = i ∧ (s.2.2.1 ++ s.2.1).Perm xs) ⟨rfl, rfl, by simp⟩ (by
    rintro i c ⟨B, l, f, v⟩ hx ⟨i1, i2, i3⟩
    simp only at i1 i2 i3
    have hi : i < xs.length := by have := (List.getElem?_eq_some_iff.mp hx).1; simpa using this
    have q1 : 0 < l.length := by omega
    have q2 : l.length < 1000000 := by omega
    have q3 := dr_lt (B := B) q1 q2
    have q4 : (l.map nD)[(dr B l.length).1]? = some (nD l[(dr B l.length).1]) := by rw [List.getElem?_map, List.getElem?_eq_getElem q3]; rfl
    have q5 : (dr B l.length).1 < 1000000 := by omega
    have q6 : f.length < 16777216 := by omega
    have q7 := fun (i : Nat) (δ : List O) => lopK_popn (i := i) (δ := δ) q4 q5
    refine ⟨_, ((dr B l.length).2, l.eraseIdx (dr B l.length).1, f ++ [l[(dr B l.length).1]], some (nD c)), rfl, ?_, ?_⟩
    · left
      os_names oO_some e_draw q1 q2 List.length_map q7 q6 eraseIdx_map List.map_append
    · refine ⟨?_, ?_, ?_⟩
      · simp only [List.length_eraseIdx, q3, if_true]; omega
      · simp; omega
      · refine List.Perm.trans ?_ i3
        rw [List.append_assoc]
        refine List.Perm.append_left _ ?_
        exact erase_perm q3)
  obtain ⟨B', l, f, v⟩ := s'
  obtain ⟨i1, i2, i3⟩ := h'
  simp only [List.length_range] at i1 i2 i3
  have hl : l = [] := List.length_eq_zero_iff.mp (by omega)
  subst hl
  refine ⟨B', f, by simpa using i3, ?_⟩
  os_names bind_ok
theorem e_map {B : Box} {n : Nat} (h1 : 2 ≤ n) (h2 : n ≤ 8) : ∃ (B' : Box) (r : List Nat), r.length = n ∧ (∀ x ∈ r, x < n) ∧ m__law_map [bxO B, .sh (nD n)] = .ok (.sh (tN r)) [bxO B', .no] := by
  have n1 : 0 < n := by omega
  have n2 : n < 1000000 := by omega
  have n3 : n ≤ 1000 := by omega
  have n4 : n ≤ 16777216 := by omega
  have dl : (dr B 6).1 < 6 := dr_lt (by omega) (by omega)
  unfold m__law_map g__law_map
  os_names e_draw
  generalize (dr B 6).2 = B1
  by_cases c0 : (dr B 6).1 = 0
  · refine ⟨B1, List.range n, by simp, fun x hx => List.mem_range.mp hx, ?_⟩
    os_names c0 n2
    rfl
  by_cases c1 : (dr B 6).1 = 1
  · refine ⟨(dr B1 n).2, List.replicate n (dr B1 n).1, by simp, fun x hx => ?_, ?_⟩
    · rw [List.eq_of_mem_replicate hx]; exact dr_lt n1 n2
    · have e : ([nD (dr B1 n).1] : List D) ≠ [] := by simp
      os_names c1 e_draw n1 n2 h1 n3 e rep_flat List.length_cons
      rfl
  by_cases c2 : (dr B 6).1 = 2
  · refine ⟨B1, (List.range n).map fun s => (s + 1) % n, by simp, fun x hx => ?_, ?_⟩
    · obtain ⟨y, _, rfl⟩ := List.mem_map.mp hx
      exact Nat.mod_lt _ n1
    · os_names c2 n2 List.length_map List.length_range n4
      rw [FW.comp_map nD fun s => nD ((s + 1) % n)]
      · os_names tN List.map_map
        rfl
      · exact fun x hx => ⟨_, rfl, by os_names n1, by os_names bind_ok⟩
  by_cases c3 : (dr B 6).1 = 3
  · os_names c3 n1 n2 e_draw List.length_map List.length_range n4
    have dl := dr_lt (B := B1) n1 n2
    generalize hL : compL _ _ _ _ _ _ _ = L
    obtain ⟨ys, s', rfl, h'⟩ := comp_E hL (s := (dr B1 n).2) (fun s => [bxO s, .sh (nD n), .sh (nD 3), .no, .sh (nD (dr B1 n).1)]) rfl (fun _ y => ∃ r, r < n ∧ y = nD r) (by
      intro x hx s
      have hx := List.mem_range.mp hx
      by_cases q : (dr s 2).1 = 0
      · exact ⟨_, _, nD (dr B1 n).1, (dr s 2).2, rfl, rfl, by os_names e_draw q; rfl, by os_names bind_ok, _, dl, rfl⟩
      · exact ⟨_, _, nD x, (dr s 2).2, rfl, rfl, by os_names e_draw q; rfl, by os_names bind_ok, _, hx, rfl⟩)
    obtain ⟨rs, rfl, r1, r2⟩ := all2_form h'
    refine ⟨s', rs, by simpa using r1, r2, ?_⟩
    os_names bind_ok
    rfl
  by_cases c4 : (dr B 6).1 = 4
  · obtain ⟨B2, ys, p, e⟩ := e_mixed (B := B1) (b := false) (xs := List.range n) (by simp; omega)
    have e' : m__law_mixed [bxO B1, .sh (.lst ((List.range n).map nD))] = .ok (.sh (.lst (ys.map nD))) [bxO B2, .no] := e
    refine ⟨B2, ys, by rw [p.length_eq]; simp, fun x hx => List.mem_range.mp (p.mem_iff.mp hx), ?_⟩
    os_names c4 n2 e'
    rfl
  have c5 : (dr B 6).1 = 5 := by omega
  os_names c5 n1 n2 List.length_map List.length_range n4
  generalize hL : compL _ _ _ _ _ _ _ = L
  obtain ⟨ys, s', rfl, h'⟩ := comp_E hL (s := B1) (fun s => [bxO s, .sh (nD n), .sh (nD 5), .no, .no]) rfl (fun _ y => ∃ r, r < n ∧ y = nD r) (by
    intro x hx s
    exact ⟨_, _, nD (dr s n).1, (dr s n).2, rfl, rfl, by os_names e_draw n1 n2; rfl, by os_names bind_ok, _, dr_lt n1 n2, rfl⟩)
  obtain ⟨rs, rfl, r1, r2⟩ := all2_form h'
  refine ⟨s', rs, by simpa using r1, r2, ?_⟩
  os_names bind_ok
  rfl
theorem e_machine {B : Box} {m k : Nat} (h1 : 2 ≤ m) (h2 : m ≤ 8) (h3 : 1 ≤ k) (h4 : k ≤ 4) : ∃ (B' : Box) (M : List (List Nat) × List Nat), MachOk M ∧ M.1.length = k ∧ 2 ≤ M.2.length ∧ M.2.length ≤ m ∧ m__law_machine [bxO B, .sh (nD m), .sh (nD k)] = .ok (.sh (machD M)) [bxO B', .no, .no] := by
  have a1 : 1 ≤ m := by omega
  have a2 : 0 < m - 1 := by omega
  have a3 : m - 1 < 1000000 := by omega
  have d1 := dr_lt (B := B) a2 a3
  obtain ⟨sh, s1, s2⟩ := e_pick (B := (dr B (m - 1)).2) (b := false) (ds := [nD 2, nD 2, nD 3, nD 100]) (by simp) (by simp)
  have s2' : m__law_pick [bxO (dr B (m - 1)).2, .sh (.lst [nD 2, nD 2, nD 3, nD 100])] = .ok (.sh sh) [bxO (dr (dr B (m - 1)).2 4).2, .no] := s2
  obtain ⟨z, z1, z2, rfl⟩ : ∃ z, 0 < z ∧ z ≤ 100 ∧ sh = nD z := by
    simp only [List.mem_cons, List.not_mem_nil, or_false] at s1
    rcases s1 with rfl | rfl | rfl | rfl
    · exact ⟨2, by omega, by omega, rfl⟩
    · exact ⟨2, by omega, by omega, rfl⟩
    · exact ⟨3, by omega, by omega, rfl⟩
    · exact ⟨100, by omega, by omega, rfl⟩
  have k1 : k < 1000000 := by omega
  have k2 : k ≤ 16777216 := by omega
  unfold m__law_machine g__law_machine
  os_names a1 a2 a3 e_draw s2' k1 k2 List.length_map List.length_range
  generalize hn : 2 + (dr B (m - 1)).1 = n
  have n1 : 2 ≤ n := by omega
  have n2 : n ≤ 8 := by omega
  have n3 : n < 1000000 := by omega
  have n4 : n ≤ 16777216 := by omega
  have z3 : z < 1000000 := by omega
  generalize hL : compL _ _ _ _ _ _ _ = L
  obtain ⟨ys, B2, rfl, h'⟩ := comp_E hL (s := (dr (dr B (m - 1)).2 4).2) (fun s => [bxO s, .sh (nD m), .sh (nD k), .sh (nD n), .sh (nD z), .no, .no, .no]) rfl (fun _ y => ∃ r : List Nat, (r.length = n ∧ ∀ x ∈ r, x < n) ∧ y = tN r) (by
    intro x hx s
    obtain ⟨B', r, r1, r2, r3⟩ := e_map (B := s) n1 n2
    exact ⟨_, _, tN r, B', rfl, rfl, by os_names r3; rfl, by os_names bind_ok, r, ⟨r1, r2⟩, rfl⟩)
  obtain ⟨maps, rfl, r1, r2⟩ := all2_form h'
  os_names n3 n4 List.length_map List.length_range
  generalize hL2 : compL _ _ _ _ _ _ _ = L
  obtain ⟨ys, B3, rfl, h''⟩ := comp_E hL2 (s := B2) (fun s => [bxO s, .sh (nD m), .sh (nD k), .sh (nD n), .sh (nD z), .sh (.tup (maps.map tN)), .no, .no]) rfl (fun _ y => ∃ r : Nat, r < z ∧ y = nD r) (by
    intro x hx s
    exact ⟨_, _, nD (dr s z).1, (dr s z).2, rfl, rfl, by os_names e_draw z1 z3; rfl, by os_names bind_ok, _, dr_lt z1 z3, rfl⟩)
  obtain ⟨rd, rfl, q1, q2⟩ := all2_form h''
  simp only [List.length_range] at r1 q1
  refine ⟨B3, (maps, rd), ⟨by simp only; omega, by simp only; omega, by simp only; omega, by simp only; omega, ?_, ?_⟩, r1, by simp only; omega, by simp only; omega, ?_⟩
  · intro r hr
    simp only [q1]
    exact r2 r hr
  · intro x hx
    have := q2 x hx
    omega
  · os_names bind_ok
    rfl
theorem e_lot {B : Box} {k : Nat} (h4 : k ≤ 4) : ∃ (B' : Box) (xs : List Nat), xs.Sublist (List.range k) ∧ m__law_lot [bxO B, .sh (nD k)] = .ok (.sh (.lst (xs.map nD))) [bxO B', .no] := by
  have k1 : k < 1000000 := by omega
  have k2 : k ≤ 16777216 := by omega
  unfold m__law_lot g__law_lot
  os_names k1 k2 List.length_map List.length_range
  generalize hL : compL _ _ _ _ _ _ _ = L
  obtain ⟨ys, B2, rfl, h'⟩ := comp_FE hL (s := B) (fun s => [bxO s, .sh (nD k), .no]) rfl nD (by
    intro x hx s
    exact ⟨_, _, decide ((dr s 2).1 = 0), (dr s 2).2, rfl, by os_names e_draw; rfl, fun _ => by os_names bind_ok, by os_names bind_ok⟩)
  refine ⟨B2, ys, h', ?_⟩
  os_names bind_ok
/-- a lot in a drawn order -/
theorem e_lots {B : Box} {k : Nat} (h4 : k ≤ 4) : ∃ (B' B'' : Box) (xs ys : List Nat), ys.Nodup ∧ (∀ x ∈ ys, x < k) ∧ m__law_lot [bxO B, .sh (nD k)] = .ok (.sh (.lst (xs.map nD))) [bxO B', .no] ∧ m__law_mixed [bxO B', .sh (.lst (xs.map nD))] = .ok (.sh (.lst (ys.map nD))) [bxO B'', .no] := by
  obtain ⟨B1, xs, x1, x2⟩ := e_lot (B := B) h4
  have x3 := x1.length_le
  simp only [List.length_range] at x3
  obtain ⟨B2, ys, p, e⟩ := e_mixed (B := B1) (b := false) (xs := xs) (by omega)
  refine ⟨B1, B2, xs, ys, p.nodup_iff.mpr (x1.nodup List.nodup_range), fun x hx => List.mem_range.mp (x1.subset (p.mem_iff.mp hx)), x2, e⟩
theorem e_led {M : List (List Nat) × List Nat} (h : MachOk M) {s : Nat} (hs : s < M.2.length) {w : List Nat} (hw : ∀ k ∈ w, k < M.1.length) : m__law_led [.sh (.tup (M.1.map tN)), .sh (nD s), .sh (.lst (w.map nD))] = .ok (.sh (nD (led M.1 s w))) [.no, .no, .no] := by
  unfold m__law_led g__law_led
  os_names bind_ok
  generalize hL : loopS _ _ _ _ = L
  obtain ⟨s', rfl, h'⟩ := loop_E hL (s := ((s, none) : Nat × Option D)) (fun q => [.sh (.tup (M.1.map tN)), .sh (nD q.1), .sh (.lst (w.map nD)), oO q.2]) rfl (fun i q => q.1 = led M.1 s (w.take i)) rfl (by
    rintro i c ⟨q, v⟩ hx hI
    simp only at hI
    subst hI
    have hk := hw c (List.mem_of_getElem? hx)
    have hq : led M.1 s (w.take i) < M.2.length := led_lt h hs fun y hy => hw y (List.mem_of_mem_take hy)
    obtain ⟨r, q1, q2⟩ := ix_maps h hq hk
    refine ⟨_, (stp M.1 (led M.1 s (w.take i)) c, some (nD c)), rfl, ?_, ?_⟩
    · left
      os_names q1 q2 oO_some
    · dsimp only
      rw [take_succ_at hx, led_app]
      rfl)
  obtain ⟨q, v⟩ := s'
  simp only at h'
  subst h'
  os_names List.take_length
/-! plain: what stands -/
def stkM (st : List Deed) : List Nat := (st.filter fun d : Deed => decide (d.2.2 = 1)).map (·.1)
theorem leftL_eq (st : List Deed) : leftL st = (st.filter fun d : Deed => decide (d.2.2 = 0) && !decide (d.1 ∈ stkM st)).map fun d => (d.1, d.2.1) := rfl
theorem mem_stk {m : Nat} {st : List Deed} : m ∈ stkM st ↔ ∃ k, (m, k, 1) ∈ st := by
  unfold stkM
  simp only [List.mem_map, List.mem_filter, decide_eq_true_eq]
  constructor
  · rintro ⟨⟨m', k, w⟩, ⟨h1, h2⟩, rfl⟩
    simp only at h2
    subst h2
    exact ⟨k, h1⟩
  · rintro ⟨k, h⟩
    exact ⟨(m, k, 1), ⟨h, rfl⟩, rfl⟩
theorem mem_left {m k : Nat} {st : List Deed} : (m, k) ∈ leftL st ↔ (m, k, 0) ∈ st ∧ m ∉ stkM st := by
  rw [leftL_eq]
  simp only [List.mem_map, List.mem_filter, Bool.and_eq_true, decide_eq_true_eq, Bool.not_eq_true', decide_eq_false_iff_not]
  constructor
  · rintro ⟨⟨m', k', w⟩, ⟨h1, h2, h3⟩, h4⟩
    simp only [Prod.mk.injEq] at h2 h3 h4
    obtain ⟨rfl, rfl⟩ := h4
    subst h2
    exact ⟨h1, h3⟩
  · rintro ⟨h1, h2⟩
    exact ⟨(m, k, 0), ⟨h1, rfl, h2⟩, rfl⟩
theorem left_snoc0 {m k : Nat} {st : List Deed} (h : m ∉ st.map (·.1)) : leftL (st ++ [(m, k, 0)]) = leftL st ++ [(m, k)] := by
  have e : stkM (st ++ [(m, k, 0)]) = stkM st := by
    unfold stkM
    rw [List.filter_append]
    simp
  have e2 : m ∉ stkM st := fun q => by
    obtain ⟨k', q⟩ := mem_stk.mp q
    exact h (List.mem_map.mpr ⟨_, q, rfl⟩)
  rw [leftL_eq, leftL_eq, e, List.filter_append, List.map_append]
  congr 1
  simp [e2]
theorem nodup_filter_ne {l : List (Nat × Nat)} {m k : Nat} (h : (l.map (·.1)).Nodup) (hm : (m, k) ∈ l) : l.erase (m, k) = l.filter fun p => !decide (p.1 = m) := by
  induction l with
  | nil => simp at hm
  | cons p l ih =>
    simp only [List.map_cons, List.nodup_cons] at h
    by_cases e : p = (m, k)
    · subst e
      rw [List.erase_cons_head, List.filter_cons_of_neg (by simp)]
      symm
      apply List.filter_eq_self.mpr
      intro q hq
      simp only [Bool.not_eq_true', decide_eq_false_iff_not]
      intro e
      exact h.1 (List.mem_map.mpr ⟨q, hq, e⟩)
    · have hm' : (m, k) ∈ l := by
        rcases List.mem_cons.mp hm with q | q
        · exact absurd q.symm e
        · exact q
      have e1 : p.1 ≠ m := fun q => h.1 (List.mem_map.mpr ⟨_, hm', q.symm⟩)
      rw [List.erase_cons_tail (by simpa using e), List.filter_cons_of_pos (by simpa using e1), ih h.2 hm']
theorem left_snoc1 {m k : Nat} {st : List Deed} (h : ((leftL st).map (·.1)).Nodup) (hm : (m, k) ∈ leftL st) : leftL (st ++ [(m, k, 1)]) = (leftL st).erase (m, k) := by
  have e : stkM (st ++ [(m, k, 1)]) = stkM st ++ [m] := by
    unfold stkM
    rw [List.filter_append, List.map_append]
    rfl
  rw [nodup_filter_ne h hm, leftL_eq (st ++ _), e, List.filter_append, List.map_append]
  rw [show List.map (fun d : Deed => (d.1, d.2.1)) (List.filter (fun d : Deed => decide (d.2.2 = 0) && !decide (d.1 ∈ stkM st ++ [m])) [(m, k, 1)]) = [] by simp, List.append_nil]
  rw [leftL_eq, List.filter_map, List.filter_filter]
  congr 1
  apply List.filter_congr
  rintro ⟨m', k', w⟩ _
  simp only [List.mem_append, List.mem_singleton, Function.comp]
  by_cases e1 : w = 0 <;> by_cases e2 : m' ∈ stkM st <;> by_cases e3 : m' = m <;> simp [e1, e2, e3]
theorem ok_take {n : Nat} {ls gs : List Nat} {st : List Deed} (h : StoryOk n ls gs st) (j : Nat) : StoryOk n ls gs (st.take j) := by
  intro i d e
  rw [List.getElem?_take] at e
  split at e
  · rename_i hi
    rw [List.take_take, Nat.min_eq_left (by omega)]
    exact h i d e
  · cases e
theorem ok_snoc {n : Nat} {ls gs : List Nat} {st : List Deed} {d : Deed} (h : StoryOk n ls gs st) (h1 : d.1 < 1000000) (h2 : d.2.1 < n) (h3 : d.2.2 < 2) (h4 : fitsB ls gs st d = true) : StoryOk n ls gs (st ++ [d]) := by
  intro i e hi
  by_cases q : i < st.length
  · rw [List.getElem?_append_left q] at hi
    rw [List.take_append_of_le_length (by omega)]
    exact h i e hi
  · rw [List.getElem?_append_right (by omega)] at hi
    have : i - st.length = 0 := by
      have := (List.getElem?_eq_some_iff.mp hi).1
      simp at this
      omega
    rw [this] at hi
    simp only [List.getElem?_cons_zero, Option.some.injEq] at hi
    subst hi
    rw [List.take_append_of_le_length (by omega), List.take_of_length_le (by omega)]
    exact ⟨h1, h2, h3, h4⟩
theorem fits0 {ls gs : List Nat} {st : List Deed} {m k : Nat} (h : fitsB ls gs st (m, k, 0) = true) : m ∉ st.map (·.1) := by
  intro q
  obtain ⟨o, ho, rfl⟩ := List.mem_map.mp q
  unfold fitsB at h
  simp only [Nat.zero_ne_one, if_false] at h
  split at h
  · have := List.all_eq_true.mp h o ho
    simp at this
  · have := List.all_eq_true.mp h o ho
    simp at this
theorem fits1 {ls gs : List Nat} {st : List Deed} {m k : Nat} (h : fitsB ls gs st (m, k, 1) = true) : k ∈ gs ∧ (m, k, 0) ∈ st ∧ (m, k, 1) ∉ st := by
  unfold fitsB at h
  simpa using h
/-- what the first ones of a story are like -/
structure Good (st : List Deed) : Prop where
  nd : ((leftL st).map (·.1)).Nodup
  un : ∀ m k k', (m, k, 0) ∈ st → (m, k', 0) ∈ st → k = k'
  fr : ∀ m k, (m, k, 1) ∈ st → (m, k, 0) ∈ st
theorem good_step {n : Nat} {ls gs : List Nat} {st : List Deed} {d : Deed} (g : Good st) (h2 : d.2.2 < 2) (f : fitsB ls gs st d = true) : Good (st ++ [d]) ∧ (d.2.2 = 0 → d.1 ∉ st.map (·.1)) ∧ (d.2.2 = 1 → (d.1, d.2.1) ∈ leftL st) := by
  obtain ⟨m, k, w⟩ := d
  simp only at h2 f
  have hw : w = 0 ∨ w = 1 := by omega
  rcases hw with rfl | rfl
  · have f0 := fits0 f
    refine ⟨⟨?_, ?_, ?_⟩, fun _ => f0, fun h => by simp at h⟩
    · rw [left_snoc0 f0, List.map_append]
      refine List.nodup_append.mpr ⟨g.nd, by simp, ?_⟩
      intro a ha b hb e
      simp only [List.map_cons, List.map_nil, List.mem_singleton] at hb
      subst hb
      subst e
      obtain ⟨⟨m', k'⟩, hp, e⟩ := List.mem_map.mp ha
      simp only at e
      subst e
      exact f0 (List.mem_map.mpr ⟨_, (mem_left.mp hp).1, rfl⟩)
    · intro m' a b ha hb
      simp only [List.mem_append, List.mem_singleton, Prod.mk.injEq, and_true] at ha hb
      rcases ha with ha | ⟨rfl, rfl⟩ <;> rcases hb with hb | ⟨h1, rfl⟩
      · exact g.un m' a b ha hb
      · subst h1; exact absurd (List.mem_map.mpr ⟨_, ha, rfl⟩) f0
      · exact absurd (List.mem_map.mpr ⟨_, hb, rfl⟩) f0
      · rfl
    · intro m' a ha
      simp only [List.mem_append, List.mem_singleton, Prod.mk.injEq, Nat.one_ne_zero, and_false, or_false] at ha
      exact List.mem_append_left _ (g.fr m' a ha)
  · obtain ⟨f1, f2, f3⟩ := fits1 f
    have hl : (m, k) ∈ leftL st := by
      refine mem_left.mpr ⟨f2, fun q => ?_⟩
      obtain ⟨k', q⟩ := mem_stk.mp q
      have := g.un m k k' f2 (g.fr m k' q)
      subst this
      exact f3 q
    refine ⟨⟨?_, ?_, ?_⟩, fun h => by simp at h, fun _ => hl⟩
    · rw [left_snoc1 g.nd hl]
      exact g.nd.sublist ((List.erase_sublist).map _)
    · intro m' a b ha hb
      simp only [List.mem_append, List.mem_singleton, Prod.mk.injEq, Nat.zero_ne_one, and_false, or_false] at ha hb
      exact g.un m' a b ha hb
    · intro m' a ha
      simp only [List.mem_append, List.mem_singleton, Prod.mk.injEq, and_true] at ha
      rcases ha with ha | ⟨rfl, rfl⟩
      · exact List.mem_append_left _ (g.fr m' a ha)
      · exact List.mem_append_left _ f2
theorem good_of {n : Nat} {ls gs : List Nat} {st : List Deed} (h : StoryOk n ls gs st) : ∀ i, i ≤ st.length → Good (st.take i) := by
  intro i
  induction i with
  | zero => intro _; exact ⟨by simp [leftL], by simp, by simp⟩
  | succ i ih =>
    intro hi
    have e : st[i]? = some st[i] := List.getElem?_eq_getElem (by omega)
    obtain ⟨_, _, h3, h4⟩ := h i _ e
    rw [take_succ_at e]
    exact (good_step (n := n) (ih (by omega)) h3 h4).1
theorem good_at {n : Nat} {ls gs : List Nat} {st : List Deed} (h : StoryOk n ls gs st) {i : Nat} {d : Deed} (e : st[i]? = some d) : Good (st.take i) ∧ d.2.2 < 2 ∧ (d.2.2 = 0 → d.1 ∉ (st.take i).map (·.1)) ∧ (d.2.2 = 1 → (d.1, d.2.1) ∈ leftL (st.take i)) := by
  have hi := (List.getElem?_eq_some_iff.mp e).1
  have g := good_of h i (by omega)
  obtain ⟨_, _, h3, h4⟩ := h i _ e
  exact ⟨g, h3, (good_step (n := n) g h3 h4).2⟩
theorem mem_moments {st : List Deed} (g : Good st) {m : Nat} (h : m ∈ st.map (·.1)) : ∀ hw : (∀ d ∈ st, d.2.2 < 2), ∃ k, (m, k, 0) ∈ st := by
  intro hw
  obtain ⟨⟨m', k, w⟩, hd, rfl⟩ := List.mem_map.mp h
  have := hw _ hd
  simp only at this
  have : w = 0 ∨ w = 1 := by omega
  rcases this with rfl | rfl
  · exact ⟨k, hd⟩
  · exact ⟨k, g.fr _ _ hd⟩
theorem fresh_ex (used : List Nat) (m : Nat) (hl : used.length ≤ 14) : ∃ j, j < 40 ∧ m + j ∉ used ∧ ∀ i, i < j → m + i ∈ used := by
  have ex : ∃ j, j ≤ 14 ∧ m + j ∉ used := by
    refine Classical.byContradiction fun q => ?_
    have q' : ∀ j, j ≤ 14 → m + j ∈ used := fun j hj => Classical.byContradiction fun z => q ⟨j, hj, z⟩
    have h1 : ((List.range 15).map fun j => m + j).Nodup := by
      have : (List.range 15).map (fun j => m + j) = List.range' m 15 := by rw [List.range_eq_range', List.map_add_range', Nat.add_zero]
      rw [this]
      exact List.nodup_range'
    have h2 := List.Nodup.length_le_of_subset h1 (l₂ := used) (by
      intro x hx
      obtain ⟨j, hj, rfl⟩ := List.mem_map.mp hx
      exact q' j (by have := List.mem_range.mp hj; omega))
    simp at h2
    omega
  obtain ⟨j0, hj0, hn0⟩ := ex
  have key : ∀ j, m + j ∉ used → j ≤ 14 → ∃ j, j < 40 ∧ m + j ∉ used ∧ ∀ i, i < j → m + i ∈ used := by
    intro j
    induction j using Nat.strongRecOn with
    | ind j ih =>
      intro hn hj
      by_cases c : ∀ i, i < j → m + i ∈ used
      · exact ⟨j, by omega, hn, c⟩
      · obtain ⟨i, c⟩ := Classical.not_forall.mp c
        obtain ⟨c1, c2⟩ := Classical.not_imp.mp c
        exact ih i c1 c2 (by omega)
  exact key j0 hn0 hj0
theorem e_moment {B : Box} {t : Nat} {used : List Nat} {lt : Bool} (h1 : ∀ u ∈ used, u < t) (hl : used.length ≤ 14) : ∃ (B' : Box) (m : Nat), m ∉ used ∧ m ≤ t + 2 ∧ (lt = false → t ≤ m) ∧ m__law_moment [bxO B, .sh (.int ((t : Int) - 1)), .sh (.lst (used.map nD)), .sh (.bl lt)] = .ok (.sh (nD m)) [bxO B', .no, .no, .no] := by
  have d3 := dr_lt (B := B) (k := 3) (by omega) (by omega)
  have ap : addD (.int ((t : Int) - 1)) (nD 1) = some (nD t) := by
    show some (D.int ((t : Int) - 1 + ((1 : Nat) : Int))) = some (D.int (t : Int))
    congr 2
    omega
  unfold m__law_moment g__law_moment
  by_cases c : lt = false ∨ used = []
  · refine ⟨(dr B 3).2, t + (dr B 3).1, fun q => by have := h1 _ q; omega, by omega, fun _ => by omega, ?_⟩
    rcases c with c | c
    · os_names c ap e_draw
    · cases lt
      · os_names ap e_draw
      · os_names c ap e_draw
  · have c1 : lt = true := by cases lt <;> simp_all
    have c2 : used ≠ [] := fun q => c (.inr q)
    have c3 : used.isEmpty = false := by cases used <;> simp_all
    obtain ⟨d, p1, p2⟩ := e_pick (B := B) (b := false) (ds := used.map nD) (by simpa using c2) (by simp; omega)
    obtain ⟨u, hu, rfl⟩ := List.mem_map.mp p1
    have p2' : m__law_pick [bxO B, .sh (.lst (used.map nD))] = .ok (.sh (nD u)) [bxO (dr B (used.map nD).length).2, .no] := p2
    have hu' := h1 u hu
    generalize (dr B (used.map nD).length).2 = B1 at p2'
    have d7 := dr_lt (B := B1) (k := 7) (by omega) (by omega)
    generalize hm : u + (dr B1 7).1 - 4 = m0
    have hm0 : m0 ≤ t + 1 := by omega
    obtain ⟨j, j1, j2, j3⟩ := fresh_ex used m0 hl
    have jm : m0 + j ≤ t + 2 := by
      cases j with
      | zero => omega
      | succ j => have := h1 _ (j3 j (by omega)); omega
    refine ⟨(dr B1 7).2, m0 + j, j2, jm, (by rw [c1]; exact fun q => nomatch q), ?_⟩
    have sz : subD (nD (u + (dr B1 7).1)) (nD 4) = some (.int (((u + (dr B1 7).1 : Nat) : Int) - ((4 : Nat) : Int))) := rfl
    have mx : maxD (.lst [nD 0, .int (((u + (dr B1 7).1 : Nat) : Int) - ((4 : Nat) : Int))]) = some (nD m0) := by rw [max0, hm]
    os_names c1 c3 p2' e_draw sz mx
    generalize hL : loopS _ _ _ _ = L
    have key := loop_X hL (s := ((m0, none) : Nat × Option D)) (fun s => [bxO (dr B1 7).2, .sh (.int ((t : Int) - 1)), .sh (.lst (used.map nD)), .sh (.bl true), .sh (nD s.1), oO s.2]) rfl (fun i s => s.1 = m0 + i) rfl j (by simpa using j1) (fun r => ∃ v, r = .rt (.sh (nD (m0 + j))) [bxO (dr B1 7).2, .sh (.int ((t : Int) - 1)), .sh (.lst (used.map nD)), .sh (.bl true), .sh (nD (m0 + j)), oO v]) (by rintro _ ⟨v, rfl⟩; exact .inl ⟨_, _, rfl⟩) (by
      rintro i x ⟨q, v⟩ hi hx hI
      simp only at hI
      subst hI
      have hin := j3 i hi
      refine ⟨_, (m0 + i + 1, some (nD x)), rfl, ?_, rfl⟩
      left
      os_names hin oO_some) (by
      rintro x ⟨q, v⟩ hx hI
      simp only at hI
      subst hI
      refine ⟨_, rfl, some (nD x), ?_⟩
      os_names j2 oO_some)
    obtain ⟨v, rfl⟩ := key
    os_names bind_ok
def usedL (st : List Deed) : List Nat := (st.filter fun d : Deed => decide (d.2.2 = 0)).map (·.1)
theorem used_snoc {st : List Deed} {d : Deed} : usedL (st ++ [d]) = usedL st ++ (if d.2.2 = 0 then [d.1] else []) := by
  unfold usedL
  rw [List.filter_append, List.map_append]
  congr 1
  by_cases e : d.2.2 = 0 <;> simp [e]
theorem mem_used {m : Nat} {st : List Deed} : m ∈ usedL st ↔ ∃ k, (m, k, 0) ∈ st := by
  unfold usedL
  simp only [List.mem_map, List.mem_filter, decide_eq_true_eq]
  constructor
  · rintro ⟨⟨m', k, w⟩, ⟨h1, h2⟩, rfl⟩
    simp only at h2
    subst h2
    exact ⟨k, h1⟩
  · rintro ⟨k, h⟩
    exact ⟨(m, k, 0), ⟨h, rfl⟩, rfl⟩
theorem used_len (st : List Deed) : (usedL st).length ≤ st.length := by unfold usedL; rw [List.length_map]; exact List.length_filter_le _ _
theorem story_else (B1 : Box) {n f i : Nat} {ls gs : List Nat} {st : List Deed} (hn : 1 ≤ n) (hn4 : n ≤ 4) (hf : f ≤ 999900) (hi : i ≤ 13) (i1 : st.length = i) (i2 : StoryOk n ls gs st) (i3 : ∀ u ∈ usedL st, u < f + 3 * i) :
    ∃ (B2 B3 : Box) (t k m : Nat), m__law_draw [bxO B1, .sh (nD n)] = .ok (.sh (nD k)) [bxO B2, .no] ∧ maxD (.lst (.int ((f : Int) - ((1 : Nat) : Int)) :: (usedL st).map nD)) = some (.int ((t : Int) - 1)) ∧
      m__law_moment [bxO B2, .sh (.int ((t : Int) - 1)), .sh (.lst ((usedL st).map nD)), .sh (.bl (decide (k ∈ ls)))] = .ok (.sh (nD m)) [bxO B3, .no, .no, .no] ∧
      StoryOk n ls gs (st ++ [(m, k, 0)]) ∧ leftL (st ++ [(m, k, 0)]) = leftL st ++ [(m, k)] ∧ usedL (st ++ [(m, k, 0)]) = usedL st ++ [m] ∧ ∀ u ∈ usedL st ++ [m], u < f + 3 * (i + 1) := by
  have k1 := dr_lt (B := B1) (k := n) (by omega) (by omega)
  obtain ⟨t, t1, t2, t3, t4⟩ := max_pred (f := f) (xs := usedL st)
  obtain ⟨B3, m, m1, m2, m3, m4⟩ := e_moment (B := (dr B1 n).2) (t := t) (used := usedL st) (lt := decide ((dr B1 n).1 ∈ ls)) t3 (by have := used_len st; omega)
  have g := good_of i2 st.length (Nat.le_refl _)
  rw [List.take_length] at g
  have w2 : ∀ d ∈ st, d.2.2 < 2 := fun d hd => by
    obtain ⟨j, hj⟩ := List.getElem?_of_mem hd
    exact (i2 j d hj).2.2.1
  have mu : ∀ o ∈ st, o.1 ∈ usedL st := fun o ho => mem_used.mpr (mem_moments g (List.mem_map.mpr ⟨o, ho, rfl⟩) w2)
  have tb : t ≤ f + 3 * i := by
    rcases t4 with t4 | ⟨u, hu, t4⟩
    · omega
    · have := i3 u hu; omega
  refine ⟨(dr B1 n).2, B3, t, (dr B1 n).1, m, e_draw (by omega) (by omega), t1, m4, ?_, ?_, ?_, ?_⟩
  · refine ok_snoc i2 ?_ k1 (by show (0 : Nat) < 2; omega) ?_
    · show m < 1000000
      omega
    · unfold fitsB
      simp only [Nat.zero_ne_one, if_false]
      by_cases e : (dr B1 n).1 ∈ ls
      · simp only [e, if_true, List.all_eq_true, decide_eq_true_eq]
        intro o ho q
        exact m1 (q ▸ mu o ho)
      · simp only [e, if_false, List.all_eq_true, decide_eq_true_eq]
        intro o ho
        have := t3 _ (mu o ho)
        have := m3 (by simp [e])
        omega
  · refine left_snoc0 fun q => ?_
    obtain ⟨o, ho, e⟩ := List.mem_map.mp q
    exact m1 (e ▸ mu o ho)
  · rw [used_snoc]; rfl
  · intro u hu
    rcases List.mem_append.mp hu with hu | hu
    · have := i3 u hu; omega
    · have : u = m := by simpa using hu
      omega
theorem story_strike {n : Nat} {ls gs : List Nat} {st : List Deed} (i2 : StoryOk n ls gs st) (g2 : ∀ k ∈ gs, k < n) {p : Nat × Nat} (hp : p ∈ leftL st) (hg : p.2 ∈ gs) :
    StoryOk n ls gs (st ++ [(p.1, p.2, 1)]) ∧ leftL (st ++ [(p.1, p.2, 1)]) = (leftL st).erase p ∧ usedL (st ++ [(p.1, p.2, 1)]) = usedL st := by
  have g := good_of i2 st.length (Nat.le_refl _)
  rw [List.take_length] at g
  obtain ⟨h1, h2⟩ := mem_left.mp hp
  refine ⟨ok_snoc i2 ?_ (g2 _ hg) (by show (1 : Nat) < 2; omega) ?_, left_snoc1 g.nd hp, by rw [used_snoc]; simp⟩
  · obtain ⟨j, hj⟩ := List.getElem?_of_mem h1
    exact (i2 j _ hj).1
  · unfold fitsB
    simp only [if_true, hg, h1, decide_true, Bool.true_and, Bool.not_eq_true', decide_eq_false_iff_not]
    exact fun q => h2 (mem_stk.mpr ⟨_, q⟩)
theorem e_story {B : Box} {n many : Nat} {ls gs : List Nat} (hn : 1 ≤ n) (hn4 : n ≤ 4) (hm : many ≤ 14) (g2 : ∀ k ∈ gs, k < n) : ∃ (B' : Box) (st : List Deed), st.length ≤ 14 ∧ StoryOk n ls gs st ∧ m__law_story [bxO B, .sh (nD n), .sh (.lst (ls.map nD)), .sh (.lst (gs.map nD)), .sh (nD many)] = .ok (.sh (.lst (st.map ddD))) [bxO B', .no, .no, .no, .no] := by
  have l0 : ([] : List D).length ≤ 16777216 := by decide
  obtain ⟨fd, p1, p2⟩ := e_pick (B := B) (b := false) (ds := [nD 0, nD 0, nD 999900]) (by simp) (by simp)
  have p2' : m__law_pick [bxO B, .sh (.lst [nD 0, nD 0, nD 999900])] = .ok (.sh fd) [bxO (dr B 3).2, .no] := p2
  obtain ⟨f, hf, rfl⟩ : ∃ f, f ≤ 999900 ∧ fd = nD f := by
    simp only [List.mem_cons, List.not_mem_nil, or_false] at p1
    rcases p1 with rfl | rfl | rfl
    · exact ⟨0, by omega, rfl⟩
    · exact ⟨0, by omega, rfl⟩
    · exact ⟨999900, by omega, rfl⟩
  have hm' : many < 1000000 := by omega
  unfold m__law_story g__law_story
  os_names p2' hm'
  generalize (dr B 3).2 = B0
  generalize hL : loopS _ _ _ _ = L
  obtain ⟨s', rfl, h'⟩ := loop_E hL (s := ((B0, [], none, none, none, none, none) : Box × List Deed × Option D × Option D × Option D × Option D × Option D)) (fun s => [bxO s.1, .sh (nD n), .sh (.lst (ls.map nD)), .sh (.lst (gs.map nD)), .sh (nD many), oL (s.2.1.map ddD), oL ((leftL s.2.1).map nwD), oL ((usedL s.2.1).map nD), .sh (nD f), oO s.2.2.1, oO s.2.2.2.1, oO s.2.2.2.2.1, oO s.2.2.2.2.2.1, oO s.2.2.2.2.2.2]) rfl (fun i s => s.2.1.length = i ∧ StoryOk n ls gs s.2.1 ∧ ∀ u ∈ usedL s.2.1, u < f + 3 * i) ⟨rfl, by intro i d h; simp at h, by simp [usedL]⟩ (by
    rintro i x ⟨B, st, v1, v2, v3, v4, v5⟩ hx ⟨i1, i2, i3⟩
    simp only at i1 i2 i3
    have hi : i < many := by have := (List.getElem?_eq_some_iff.mp hx).1; simpa using this
    have hst : st.length ≤ 13 := by omega
    have g := good_of i2 st.length (Nat.le_refl _)
    rw [List.take_length] at g
    have ll : (leftL st).length ≤ 16777216 := by unfold leftL; rw [List.length_map]; exact Nat.le_trans (List.length_filter_le _ _) (by omega)
    have ul : (usedL st).length ≤ 14 := by unfold usedL; rw [List.length_map]; exact Nat.le_trans (List.length_filter_le _ _) (by omega)
    have w2 : ∀ d ∈ st, d.2.2 < 2 := fun d hd => by
      obtain ⟨j, hj⟩ := List.getElem?_of_mem hd
      exact (i2 j d hj).2.2.1
    have e1 : compL (tgName 11) (blM (op2 inD (op2 ixD (gv 11) (cst (nD 1))) (gv 3))) (gv 11) [11] ((leftL st).map nwD) [] [bxO B, .sh (nD n), .sh (.lst (ls.map nD)), .sh (.lst (gs.map nD)), .sh (nD many), oL (st.map ddD), .sh (.lst ((leftL st).map nwD)), oL ((usedL st).map nD), .sh (nD f), .sh (nD x), oO v2, .no, oO v4, oO v5] = .ok (((leftL st).filter fun p => decide (p.2 ∈ gs)).map nwD) [bxO B, .sh (nD n), .sh (.lst (ls.map nD)), .sh (.lst (gs.map nD)), .sh (nD many), oL (st.map ddD), .sh (.lst ((leftL st).map nwD)), oL ((usedL st).map nD), .sh (nD f), .sh (nD x), oO v2, .no, oO v4, oO v5] := by
      rw [FW.comp_fil nwD (fun p : Nat × Nat => decide (p.2 ∈ gs)) nwD]
      exact fun y hy => ⟨_, rfl, by os_names bind_ok, fun _ => by os_names bind_ok, by os_names bind_ok⟩
    have ll2 : (leftL st).length < 16777216 := by unfold leftL; rw [List.length_map]; exact Nat.lt_of_le_of_lt (List.length_filter_le _ _) (by omega)
    have ul1 : 1 + (usedL st).length ≤ 16777216 := by omega
    have ul2 : (usedL st).length < 16777216 := by omega
    have sl2 : st.length < 16777216 := by omega
    have sz : subD (nD f) (nD 1) = some (.int ((f : Int) - ((1 : Nat) : Int))) := rfl
    have dn : ∀ (m k : Nat), D.tup [nD m, nD k] = nwD (m, k) := fun _ _ => rfl
    have dd : ∀ (m k w : Nat), D.tup [nD m, nD k, nD w] = ddD (m, k, w) := fun _ _ _ => rfl
    by_cases cs : (leftL st).filter (fun p => decide (p.2 ∈ gs)) = []
    · obtain ⟨B2, B3, t, k, m, q1, q2, q3, q4, q5, q6, q7⟩ := story_else B hn hn4 hf (by omega) i1 i2 i3
      refine ⟨_, (B3, st ++ [(m, k, 0)], some (nD x), some (.lst []), v3, some (nD k), some (nD m)), rfl, ?_, by simp [i1], q4, by rw [q6]; exact q7⟩
      left
      rw [q5, q6]
      os_names e1 List.length_map ll cs ne_l0 q1 q2 q3 sz ul1 ul2 ll2 sl2 oO_some List.map_append mg1_oO
      rfl
    · have cs' : ((leftL st).filter (fun p => decide (p.2 ∈ gs))).isEmpty = false := by simpa using cs
      obtain ⟨pd, p1, p2⟩ := e_pick (B := (dr B 3).2) (b := false) (ds := ((leftL st).filter (fun p => decide (p.2 ∈ gs))).map nwD) (by simpa using cs) (by
        rw [List.length_map]
        exact Nat.lt_of_le_of_lt (List.length_filter_le _ _) (by unfold leftL; rw [List.length_map]; exact Nat.lt_of_le_of_lt (List.length_filter_le _ _) (by omega)))
      obtain ⟨p, hp, rfl⟩ := List.mem_map.mp p1
      obtain ⟨hp1, hp2⟩ := List.mem_filter.mp hp
      have p2' : m__law_pick [bxO (dr B 3).2, .sh (.lst (((leftL st).filter (fun p => decide (p.2 ∈ gs))).map nwD))] = .ok (.sh (nwD p)) [bxO (dr (dr B 3).2 (((leftL st).filter (fun p => decide (p.2 ∈ gs))).map nwD).length).2, .no] := p2
      generalize (dr (dr B 3).2 (((leftL st).filter (fun p => decide (p.2 ∈ gs))).map nwD).length).2 = B9 at p2'
      by_cases c3 : (dr B 3).1 = 0
      · obtain ⟨s1, s2, s3⟩ := story_strike i2 g2 hp1 (by simpa using hp2)
        refine ⟨_, (B9, st ++ [(p.1, p.2, 1)], some (nD x), some (.lst (((leftL st).filter (fun p => decide (p.2 ∈ gs))).map nwD)), some (nwD p), v4, v5), rfl, ?_, by simp [i1], s1, by rw [s3]; intro u hu; have := i3 u hu; omega⟩
        left
        rw [s2, s3]
        os_names e1 List.length_map ll cs' ne_lnw e_draw c3 p2' rem_nw hp1 add_nw1 sl2 oO_some List.map_append mg1_oO
      · obtain ⟨B2, B3, t, k, m, q1, q2, q3, q4, q5, q6, q7⟩ := story_else (dr B 3).2 hn hn4 hf (by omega) i1 i2 i3
        refine ⟨_, (B3, st ++ [(m, k, 0)], some (nD x), some (.lst (((leftL st).filter (fun p => decide (p.2 ∈ gs))).map nwD)), v3, some (nD k), some (nD m)), rfl, ?_, by simp [i1], q4, by rw [q6]; exact q7⟩
        left
        rw [q5, q6]
        os_names e1 List.length_map ll cs' ne_lnw e_draw c3 q1 q2 q3 sz ul1 ul2 ll2 sl2 oO_some List.map_append mg1_oO
        rfl)
  obtain ⟨B', st, v1, v2, v3, v4, v5⟩ := s'
  obtain ⟨i1, i2, i3⟩ := h'
  simp only [List.length_range] at i1 i2 i3
  refine ⟨B', st, by omega, i2, ?_⟩
  os_names bind_ok
theorem e_standing {n : Nat} {ls gs : List Nat} {st : List Deed} (h : StoryOk n ls gs st) (hl : st.length ≤ 2000) : m__law_standing [.sh (.lst (st.map ddD))] = .ok (.sh (.lst ((leftS st).map nwD))) [.no] := by
  have l0 : ([] : List D).length ≤ 16777216 := by decide
  unfold m__law_standing g__law_standing
  os_names bind_ok
  generalize hL : loopS _ _ _ _ = L
  obtain ⟨s', rfl, h'⟩ := loop_E hL (s := (([], none, none, none) : List (Nat × Nat) × Option D × Option D × Option D)) (fun s => [.sh (.lst (st.map ddD)), oL (s.1.map nwD), oO s.2.1, oO s.2.2.1, oO s.2.2.2]) rfl (fun i s => s.1 = leftL (st.take i)) rfl (by
    rintro i ⟨m, k, w⟩ ⟨f, v1, v2, v3⟩ hx hI
    simp only at hI
    subst hI
    have hi := (List.getElem?_eq_some_iff.mp hx).1
    obtain ⟨g, g1, g2, g3⟩ := good_at h hx
    have ll2 : (leftL (st.take i)).length < 16777216 := by
      unfold leftL; rw [List.length_map]; exact Nat.lt_of_le_of_lt (List.length_filter_le _ _) (by simp; omega)
    have dn : D.tup [nD m, nD k] = nwD (m, k) := rfl
    simp only at g1 g2 g3
    have hw : w = 0 ∨ w = 1 := by omega
    rcases hw with rfl | rfl
    · refine ⟨_, (leftL (st.take i) ++ [(m, k)], some (nD m), some (nD k), some (nD 0)), rfl, ?_, ?_⟩
      · left
        os_names dn List.length_map ll2 List.map_append oO_some
      · dsimp only
        rw [take_succ_at hx, left_snoc0 (g2 rfl)]
    · have hm := g3 rfl
      refine ⟨_, ((leftL (st.take i)).erase (m, k), some (nD m), some (nD k), some (nD 1)), rfl, ?_, ?_⟩
      · left
        os_names dn rem_nw hm oO_some
      · dsimp only
        rw [take_succ_at hx, left_snoc1 g.nd hm])
  obtain ⟨f, v1, v2, v3⟩ := s'
  simp only [List.take_length] at h'
  subst h'
  have e3 : (leftL st).length ≤ 16777216 := by
    unfold leftL
    rw [List.length_map]
    exact Nat.le_trans (List.length_filter_le _ _) (by omega)
  os_names sort_nw e3
  rfl
theorem e_right {M : List (List Nat) × List Nat} (h : MachOk M) {ls gs : List Nat} {st : List Deed} (ok : StoryOk M.1.length ls gs st) (hl : st.length ≤ 2000) : m__law_right [.sh (machD M), .sh (.lst (st.map ddD))] = .ok (.sh (nD (rdAt M (leftS st)))) [.no, .no] := by
  have m0 : ixD (machD M) (nD 0) = some (.tup (M.1.map tN)) := rfl
  have m1 : ixD (machD M) (nD 1) = some (tN M.2) := rfl
  have q1 := e_standing ok hl
  have kb := left_kinds ok st.length
  rw [List.take_length] at kb
  have q2 := e_led h h.s1 kb
  have l1 : (leftS st).length ≤ 16777216 := Nat.le_trans (left_len st) (by omega)
  have q7 : led M.1 0 ((leftS st).map (·.2)) < M.2.length := led_lt h h.s1 kb
  have q8 : M.2[led M.1 0 ((leftS st).map (·.2))]? = some (rdAt M (leftS st)) := by
    unfold rdAt
    rw [List.getD_eq_getElem?_getD, List.getElem?_eq_getElem q7, Option.getD_some]
  unfold m__law_right g__law_right
  os_names m0 m1 q1 List.length_map l1
  rw [FW.comp_map nwD fun p : Nat × Nat => nD p.2]
  · have e1 : (leftS st).map (fun p : Nat × Nat => nD p.2) = ((leftS st).map (·.2)).map nD := by rw [List.map_map]; rfl
    rw [e1]
    os_names q2 q8
  · exact fun x hx => ⟨_, rfl, by os_names bind_ok, by os_names bind_ok⟩
theorem bad_told {n : Nat} {ls gs : List Nat} {st : List Deed} {d : D} (t : okT d = true) (ts : ∀ ds, seqD d = some ds → ∀ x ∈ ds, okT x = true) (h : toldB n d = false) : BadD n ls gs st d := ⟨t, ts, .inl h⟩
theorem ok_dd {m k w : Nat} : ∀ ds, seqD (ddD (m, k, w)) = some ds → ∀ x ∈ ds, okT x = true := by
  intro ds e x hx
  have e' : [nD m, nD k, nD w] = ds := by simpa [ddD, seqD] using e
  subst e'
  simp only [List.mem_cons, List.not_mem_nil, or_false] at hx
  rcases hx with rfl | rfl | rfl <;> rfl
theorem bad_fit {n : Nat} {ls gs : List Nat} {st : List Deed} {m k w : Nat} (hk : k < n) (hw : w < 2) (h : m < 1000000 → fitsB ls gs st (m, k, w) = false) : BadD n ls gs st (ddD (m, k, w)) := by
  refine ⟨rfl, ok_dd, ?_⟩
  by_cases hm : m < 1000000
  · exact .inr ⟨true, (m, k, w), rfl, hm, hk, hw, h hm⟩
  · left
    show (isBel (nD m) 1000000 && (isBel (nD k) n && isBel (nD w) 2)) = false
    rw [bel_nD]
    simp [hm]
theorem bad_dup {n : Nat} {ls gs : List Nat} {st : List Deed} {m k : Nat} (hk : k < n) (hm : m ∈ st.map (·.1)) : BadD n ls gs st (ddD (m, k, 0)) := by
  refine bad_fit hk (by omega) fun _ => ?_
  rw [Bool.eq_false_iff]
  exact fun q => fits0 q hm
theorem e_wrong {n : Nat} {ls gs : List Nat} {st : List Deed} {a : Nat} (hn1 : 1 ≤ n) (hn : n ≤ 4) (h : StoryOk n ls gs st) (hl : st.length ≤ 14) (ha : a ≤ st.length) : ∃ ds : List D, ds ≠ [] ∧ ds.length ≤ 1000 ∧ (∀ d ∈ ds, BadD n ls gs (st.take a) d) ∧
    m__law_wrong_deeds [.sh (nD n), .sh (.lst (ls.map nD)), .sh (.lst (gs.map nD)), .sh (.lst (st.map ddD)), .sh (nD a)] = .ok (.sh (.lst ds)) [.no, .no, .no, .no, .no] := by
  have hn' : n < 1000000 := by omega
  have hn'' : n ≤ 16777216 := by omega
  have ok := ok_take h a
  have hal : (st.take a).length ≤ 14 := by simp; omega
  have e1 : (st.map ddD).take a = (st.take a).map ddD := List.map_take.symm
  generalize hah : st.take a = ah at *
  have g := good_of ok ah.length (Nat.le_refl _)
  rw [List.take_length] at g
  have w2 : ∀ d ∈ ah, d.2.2 < 2 := fun d hd => by
    obtain ⟨j, hj⟩ := List.getElem?_of_mem hd
    exact (ok j d hj).2.2.1
  have kn : ∀ d ∈ ah, d.2.1 < n := fun d hd => by
    obtain ⟨j, hj⟩ := List.getElem?_of_mem hd
    exact (ok j d hj).2.1
  have q1 := e_standing ok (by omega)
  have ahl : ah.length ≤ 16777216 := by omega
  have ahl2 : 1 + ah.length ≤ 16777216 := by omega
  obtain ⟨top, t1, t2, t3⟩ := max_nats (x := 0) (xs := ah.map (·.1))
  have t1' : maxD (.lst (nD 0 :: (ah.map (·.1)).map nD)) = some (nD top) := t1
  have et : ∀ (x y z : Nat), D.tup [nD x, nD y, nD z] = ddD (x, y, z) := fun _ _ _ => rfl
  have tt : top + 1 ∉ ah.map (·.1) := fun q => by have := t3 _ (List.mem_cons_of_mem _ q); omega
  unfold m__law_wrong_deeds g__law_wrong_deeds
  os_names e1 q1 List.length_map ahl
  rw [FW.comp_map ddD fun d : Deed => nD d.1]
  · have e2 : ah.map (fun d : Deed => nD d.1) = (ah.map (·.1)).map nD := by rw [List.map_map]; rfl
    rw [e2]
    os_names t1' ahl2 List.length_map
    have bads : ∀ d ∈ [D.non, nD 7, .tup [], .tup [nD (top + 1), nD 0], .tup [nD (top + 1), nD n, nD 0], .tup [nD (top + 1), .int (-1), nD 0], .tup [nD (top + 1), .bl true, nD 0], .tup [nD (top + 1), nD 0, nD 2],
        .tup [nD 1000000, nD 0, nD 0], .tup [.int (-1), nD 0, nD 0], .tup [.str "1", nD 0, nD 0], .tup [nD (top + 1), nD 0, .bl false], .tup [nD (top + 1), nD 0, nD 0, nD 0]], BadD n ls gs ah d := by
      intro d hd
      have ob : ∀ x : Nat, okT (nD x) = true := fun _ => rfl
      refine bad_told ?_ ?_ ?_
      · simp only [List.mem_cons, List.not_mem_nil, or_false] at hd
        rcases hd with rfl | rfl | rfl | rfl | rfl | rfl | rfl | rfl | rfl | rfl | rfl | rfl | rfl <;> rfl
      · intro ds e x hx
        simp only [List.mem_cons, List.not_mem_nil, or_false] at hd
        rcases hd with rfl | rfl | rfl | rfl | rfl | rfl | rfl | rfl | rfl | rfl | rfl | rfl | rfl <;> first | (simp [seqD, nD] at e; done) | (simp only [seqD, Option.some.injEq] at e; subst e; simp at hx; done) | (simp only [seqD, Option.some.injEq] at e; subst e; simp only [List.mem_cons, List.not_mem_nil, or_false] at hx; first | (rcases hx with rfl | rfl <;> rfl) | (rcases hx with rfl | rfl | rfl <;> rfl) | (rcases hx with rfl | rfl | rfl | rfl <;> rfl))
      · simp only [List.mem_cons, List.not_mem_nil, or_false] at hd
        rcases hd with rfl | rfl | rfl | rfl | rfl | rfl | rfl | rfl | rfl | rfl | rfl | rfl | rfl <;> simp [toldB, seqD, isBel, nD]
    have nls : noLs [D.non, nD 7, .tup [], .tup [nD (top + 1), nD 0], .tup [nD (top + 1), nD n, nD 0], .tup [nD (top + 1), .int (-1), nD 0], .tup [nD (top + 1), .bl true, nD 0], .tup [nD (top + 1), nD 0, nD 2],
        .tup [nD 1000000, nD 0, nD 0], .tup [.int (-1), nD 0, nD 0], .tup [.str "1", nD 0, nD 0], .tup [nD (top + 1), nD 0, .bl false], .tup [nD (top + 1), nD 0, nD 0, nD 0]] = true := by
      os_names bind_ok
    generalize hds : [D.non, nD 7, .tup [], .tup [nD (top + 1), nD 0], .tup [nD (top + 1), nD n, nD 0], .tup [nD (top + 1), .int (-1), nD 0], .tup [nD (top + 1), .bl true, nD 0], .tup [nD (top + 1), nD 0, nD 2],
        .tup [nD 1000000, nD 0, nD 0], .tup [.int (-1), nD 0, nD 0], .tup [.str "1", nD 0, nD 0], .tup [nD (top + 1), nD 0, .bl false], .tup [nD (top + 1), nD 0, nD 0, nD 0]] = ds0 at bads nls
    have hds' := hds
    simp only [PySem.Str.ofString] at hds'
    generalize hL : loopS _ _ _ _ = L
    obtain ⟨s', rfl, h'⟩ := loop_E hL (s := ((ds0, none, none) : List D × Option D × Option D)) (fun s => [.sh (nD n), .sh (.lst (ls.map nD)), .sh (.lst (gs.map nD)), .sh (.lst (st.map ddD)), .sh (nD a), .sh (.lst (ah.map ddD)), .sh (.lst ((leftS ah).map nwD)), .sh (.lst ((ah.map (·.1)).map nD)), .no, .sh (nD top), oL s.1, oO s.2.1, oO s.2.2, .no, .no]) (by rw [← hds]; rfl) (fun i s => s.1 ≠ [] ∧ s.1.length ≤ 13 + 4 * i ∧ (∀ d ∈ s.1, BadD n ls gs ah d) ∧ noLs s.1 = true) ⟨by rw [← hds]; simp, by rw [← hds]; simp, bads, nls⟩ (by
      rintro i m ⟨ds, v1, v2⟩ hx ⟨i1, i2, i3, i4⟩
      simp only at i1 i2 i3 i4
      have hi := (List.getElem?_eq_some_iff.mp hx).1
      rw [List.length_map] at hi
      have hm := List.mem_of_getElem? hx
      have dl : ds.length + n ≤ 16777216 := by omega
      refine ⟨_, (ds ++ (List.range n).map fun k => ddD (m, k, 0), some (nD m), v2), rfl, ?_, ?_, ?_, ?_, ?_⟩
      · left
        os_names hn' hn'' List.length_map List.length_range
        rw [FW.comp_map nD fun k : Nat => ddD (m, k, 0)]
        · have nn : noLs ((List.range n).map fun k => ddD (m, k, 0)) = true := noLs_map (fun _ => noL_dd) _
          os_names List.length_map List.length_range dl i4 nn oO_some
        · exact fun x hx => ⟨_, rfl, by os_names bind_ok; rfl, by os_names bind_ok⟩
      · simp [i1]
      · simp; omega
      · intro d hd
        rcases List.mem_append.mp hd with hd | hd
        · exact i3 d hd
        · obtain ⟨k, hk, rfl⟩ := List.mem_map.mp hd
          exact bad_dup (List.mem_range.mp hk) hm
      · show noLs (ds ++ _) = true
        rw [noLs_app, i4, noLs_map (fun _ => noL_dd)]; rfl)
    obtain ⟨ds1, v1, v2⟩ := s'
    obtain ⟨i1, i2, i3, i4⟩ := h'
    simp only [List.length_map] at i1 i2 i3 i4
    os_names bind_ok
    generalize hL2 : loopS _ _ _ _ = L
    have sl := left_len ah
    obtain ⟨s', rfl, h'⟩ := loop_E hL2 (s := ((ds1, v1, v2, none) : List D × Option D × Option D × Option D)) (fun s => [.sh (nD n), .sh (.lst (ls.map nD)), .sh (.lst (gs.map nD)), .sh (.lst (st.map ddD)), .sh (nD a), .sh (.lst (ah.map ddD)), .sh (.lst ((leftS ah).map nwD)), .sh (.lst ((ah.map (·.1)).map nD)), .no, .sh (nD top), oL s.1, oO s.2.1, oO s.2.2.1, oO s.2.2.2, .no]) rfl (fun i s => s.1 ≠ [] ∧ s.1.length ≤ 100 + 4 * i ∧ (∀ d ∈ s.1, BadD n ls gs ah d) ∧ noLs s.1 = true) ⟨i1, by simp only; omega, i3, i4⟩ (by
      rintro i ⟨m, k⟩ ⟨ds, v1, v2, v3⟩ hx ⟨i1, i2, i3, i4⟩
      simp only at i1 i2 i3 i4
      have hi := (List.getElem?_eq_some_iff.mp hx).1
      have hm := List.mem_of_getElem? hx
      unfold leftS at hm
      rw [List.mem_mergeSort] at hm
      obtain ⟨hm1, hm2⟩ := mem_left.mp hm
      have fl : ((List.range n).filter fun o => !decide (o = k) || !decide (o ∈ gs)).length ≤ n := Nat.le_trans (List.length_filter_le _ _) (by simp)
      have dl : ds.length + ((List.range n).filter fun o => !decide (o = k) || !decide (o ∈ gs)).length ≤ 16777216 := by omega
      refine ⟨_, (ds ++ ((List.range n).filter fun o => !decide (o = k) || !decide (o ∈ gs)).map fun o => ddD (m, o, 1), some (nD m), some (nD k), v3), rfl, ?_, ?_, ?_, ?_, ?_⟩
      · left
        os_names hn' hn'' List.length_map List.length_range
        rw [FW.comp_fil nD (fun o : Nat => !decide (o = k) || !decide (o ∈ gs)) fun o : Nat => ddD (m, o, 1)]
        · have nn : noLs (((List.range n).filter fun o => !decide (o = k) || !decide (o ∈ gs)).map fun o => ddD (m, o, 1)) = true := noLs_map (fun _ => noL_dd) _
          os_names List.length_map dl i4 nn oO_some
        · intro o ho
          refine ⟨_, rfl, ?_, fun _ => ?_, ?_⟩
          · by_cases e : o = k <;> os_names e
          · os_names bind_ok
            rfl
          · os_names bind_ok
      · simp [i1]
      · simp; omega
      · intro d hd
        rcases List.mem_append.mp hd with hd | hd
        · exact i3 d hd
        · obtain ⟨o, ho, rfl⟩ := List.mem_map.mp hd
          obtain ⟨ho1, ho2⟩ := List.mem_filter.mp ho
          refine bad_fit (List.mem_range.mp ho1) (by omega) fun _ => ?_
          rw [Bool.eq_false_iff]
          intro q
          obtain ⟨f1, f2, f3⟩ := fits1 q
          have := g.un m k o hm1 f2
          subst this
          simp [f1] at ho2
      · show noLs (ds ++ _) = true
        rw [noLs_app, i4, noLs_map (fun _ => noL_dd)]; rfl)
    obtain ⟨ds2, v1, v2, v3⟩ := s'
    obtain ⟨i1, i2, i3, i4⟩ := h'
    simp only [List.length_map] at i1 i2 i3 i4
    os_names bind_ok
    generalize hL3 : loopS _ _ _ _ = L
    obtain ⟨s', rfl, h'⟩ := loop_E hL3 (s := ((ds2, v1, v2, none) : List D × Option D × Option D × Option D)) (fun s => [.sh (nD n), .sh (.lst (ls.map nD)), .sh (.lst (gs.map nD)), .sh (.lst (st.map ddD)), .sh (nD a), .sh (.lst (ah.map ddD)), .sh (.lst ((leftS ah).map nwD)), .sh (.lst ((ah.map (·.1)).map nD)), .no, .sh (nD top), oL s.1, oO s.2.1, oO s.2.2.1, oO v3, oO s.2.2.2]) rfl (fun i s => s.1 ≠ [] ∧ s.1.length ≤ 200 + i ∧ (∀ d ∈ s.1, BadD n ls gs ah d) ∧ noLs s.1 = true) ⟨i1, by simp only; omega, i3, i4⟩ (by
      rintro i ⟨m, k, w⟩ ⟨ds, v1, v2, v3⟩ hx ⟨i1, i2, i3, i4⟩
      simp only at i1 i2 i3 i4
      have hi := (List.getElem?_eq_some_iff.mp hx).1
      have hm := List.mem_of_getElem? hx
      have dl : ds.length < 16777216 := by omega
      by_cases e : w = 1
      · subst e
        refine ⟨_, (ds ++ [ddD (m, k, 1)], some (nD m), some (nD k), some (nD 1)), rfl, ?_, ?_, ?_, ?_, ?_⟩
        · left
          os_names dl oO_some
          rfl
        · simp
        · simp; omega
        · intro d hd
          rcases List.mem_append.mp hd with hd | hd
          · exact i3 d hd
          · have : d = ddD (m, k, 1) := by simpa using hd
            subst this
            refine bad_fit (kn _ hm) (by omega) fun _ => ?_
            rw [Bool.eq_false_iff]
            exact fun q => (fits1 q).2.2 hm
        · os_names i4
      · refine ⟨_, (ds, some (nD m), some (nD k), some (nD w)), rfl, ?_, i1, by simp only; omega, i3, i4⟩
        left
        os_names e oO_some)
    obtain ⟨ds3, v1, v2, v4⟩ := s'
    obtain ⟨i1, i2, i3, i4⟩ := h'
    simp only [List.length_map] at i1 i2 i3 i4
    have dl3 : ds3.length < 16777216 := by omega
    have b4 : ∀ d ∈ ds3 ++ [ddD (top + 1, 0, 1)], BadD n ls gs ah d := by
      intro d hd
      rcases List.mem_append.mp hd with hd | hd
      · exact i3 d hd
      · have : d = ddD (top + 1, 0, 1) := by simpa using hd
        subst this
        refine bad_fit hn1 (by omega) fun _ => ?_
        rw [Bool.eq_false_iff]
        exact fun q => tt (List.mem_map.mpr ⟨_, (fits1 q).2.1, rfl⟩)
    have el : (ah.map (·.1)).isEmpty = ah.isEmpty := by cases ah <;> rfl
    by_cases c : ah ≠ [] ∧ 0 < top ∧ top - 1 ∉ ah.map (·.1)
    · obtain ⟨c1, c2, c3⟩ := c
      have c1' : ah.isEmpty = false := by simpa using c1
      have c2' : 1 ≤ top := c2
      have ht : top ∈ ah.map (·.1) := by
        rcases List.mem_cons.mp t2 with q | q
        · omega
        · exact q
      have fl : ((List.range n).filter fun o => !decide (o ∈ ls)).length ≤ n := Nat.le_trans (List.length_filter_le _ _) (by simp)
      have dl : ds3.length + 1 + ((List.range n).filter fun o => !decide (o ∈ ls)).length ≤ 16777216 := by omega
      refine ⟨(ds3 ++ [ddD (top + 1, 0, 1)]) ++ ((List.range n).filter fun o => !decide (o ∈ ls)).map fun o => ddD (top - 1, o, 0), by simp, by simp; omega, ?_, ?_⟩
      · intro d hd
        rcases List.mem_append.mp hd with hd | hd
        · exact b4 d hd
        · obtain ⟨o, ho, rfl⟩ := List.mem_map.mp hd
          obtain ⟨ho1, ho2⟩ := List.mem_filter.mp ho
          have ho2 : o ∉ ls := by simpa using ho2
          refine bad_fit (List.mem_range.mp ho1) (by omega) fun _ => ?_
          unfold fitsB
          simp only [Nat.zero_ne_one, if_false, ho2]
          rw [Bool.eq_false_iff]
          intro q
          obtain ⟨d, hd, e⟩ := List.mem_map.mp ht
          have := List.all_eq_true.mp q d hd
          simp only [decide_eq_true_eq] at this
          omega
      · os_names dl3 el c1' c2 c2' c3 hn' hn'' List.length_map List.length_range
        rw [FW.comp_fil nD (fun o : Nat => !decide (o ∈ ls)) fun o : Nat => ddD (top - 1, o, 0)]
        · have nn : noLs (((List.range n).filter fun o => !decide (o ∈ ls)).map fun o => ddD (top - 1, o, 0)) = true := noLs_map (fun _ => noL_dd) _
          os_names List.length_map List.length_append dl i4 nn
          rfl
        · exact fun x hx => ⟨_, rfl, by os_names bind_ok, fun _ => by os_names c2'; rfl, by os_names bind_ok⟩
    · refine ⟨ds3 ++ [ddD (top + 1, 0, 1)], by simp, by simp; omega, b4, ?_⟩
      by_cases c1 : ah = []
      · have c1' : ah.isEmpty = true := by simpa using c1
        os_names dl3 el c1'
        rfl
      · have c1' : ah.isEmpty = false := by simpa using c1
        by_cases c2 : 0 < top
        · have c2' : 1 ≤ top := c2
          have c3 : top - 1 ∈ ah.map (·.1) := Classical.byContradiction fun q => c ⟨c1, c2, q⟩
          os_names dl3 el c1' c2 c2' c3
          rfl
        · os_names dl3 el c1' c2
          rfl
  · exact fun x hx => ⟨_, rfl, by os_names bind_ok, by os_names bind_ok⟩
theorem sV_t {ds : List D} : sV true ds = .tup ds := rfl
theorem sV_f {ds : List D} : sV false ds = .lst ds := rfl
theorem pk_gone (d : D) : pickK subK ⟨"InvalidGone", ["at"], [d]⟩ ks__law_refused = some (.tup [.str "gone", d]) := by rfl
theorem pk_lot (d : D) : pickK subK ⟨"InvalidLot", ["at"], [d]⟩ ks__law_refused = some (.tup [.str "lot", d]) := by rfl
theorem pk_late (d : D) : pickK subK ⟨"InvalidLate", ["at"], [d]⟩ ks__law_refused = some (.tup [.str "late", d]) := by rfl
theorem pk_mach (d : D) : pickK subK ⟨"InvalidMachine", ["at"], [d]⟩ ks__law_refused = some (.tup [.str "machine", d]) := by rfl
def works (a : Nat) (ls gs : List Nat) : List D := [.tup [.clo 0, .tup [.str "gone", nD a]], .tup [.clo 1, .tup [.str "gone", nD a]], .tup [.clo 2, .tup [.str "gone", nD a]], .tup [.clo 3, .tup [.str "gone", .int (-1)]], .tup [.clo 4, .tup [.str "gone", .int (-1)]],
  .tup [.clo 5, .tup [.str "lot", nD gs.length]], .tup [.clo 6, .tup [.str "lot", nD gs.length]], .tup [.clo 7, .tup [.str "lot", .int (-1)]], .tup [.clo 8, .tup [.str "late", nD ls.length]], .tup [.clo 9, .tup [.str "machine", .int (-1)]], .tup [.clo 10, .tup [.str "none"]]]
def refS (M : List (List Nat) × List Nat) (ls gs : List Nat) (st : List Deed) (a : Nat) (wr x y : D) (B : Box) (u v : O) : List O :=
  [bxO B, .sh (machD M), .sh (.lst (ls.map nD)), .sh (.lst (gs.map nD)), .sh (.lst (st.map ddD)), .sh (nD M.1.length), .sh (nD a), .sh wr, .sh (.lst ((st.take a).map ddD ++ [wr, x])), oL (works a ls gs), .sh (.lst (gs.map nD ++ [y])), u, v]
theorem hand_t (st : List Deed) : (st.map fun d => (true, d)).map handD = st.map ddD := by rw [List.map_map]; rfl
theorem hand_s (st : List Deed) : (st.map fun d => (true, d)).map (·.2) = st := by rw [List.map_map]; simp [Function.comp_def]
theorem e_work {M : List (List Nat) × List Nat} (h : MachOk M) {ls gs : List Nat} (l1 : ls.Nodup) (l2 : ∀ k ∈ ls, k < M.1.length) (g1 : gs.Nodup) (g2 : ∀ k ∈ gs, k < M.1.length) {st : List Deed} (ok : StoryOk M.1.length ls gs st) (hl : st.length ≤ 14) {a : Nat} (ha : a ≤ st.length) {wr x y : D}
    (hw : BadD M.1.length ls gs (st.take a) wr) (hy : okT y = true) (hy2 : isBel y M.1.length = false ∨ ∃ k ∈ gs, y = nD k) {w : D} (mw : w ∈ works a ls gs) :
    ∃ i due, w = .tup [.clo i, due] ∧ due.pl = true ∧ due.dp ≤ 60 ∧ ∀ B v, ∃ B', hoM L__law_refusals (tryM subK ks__law_refused r__law_refused) (gv 11) (refS M ls gs st a wr x y B (.sh (.clo i)) v) = .ok due (refS M ls gs st a wr x y B' (.sh (.clo i)) v) := by
  have hal : (st.take a).length = a := by simp; omega
  have m0 : ixD (machD M) (nD 0) = some (.tup (M.1.map tN)) := rfl
  have okt := ok_take ok a
  have X : ∀ b : Bool, m_need_withdrawn [.sh (machD M), .sh (.lst (ls.map nD)), .sh (.lst (gs.map nD)), .sh (sV b ((st.take a).map ddD ++ [wr, x]))] = .er ⟨"InvalidGone", ["at"], [nD a]⟩ [.no, .no, .no, .no] := fun b => by
    have := x_need_withdrawn h (b := b) (b1 := false) (b2 := false) l1 l2 g1 g2 (hs := (st.take a).map fun d => (true, d)) (d := wr) (r := [x]) (by simp; omega) (by rw [hand_s]; exact okt) (by rw [hand_s]; exact hw)
    rw [hand_t, List.length_map, hal] at this
    exact this
  have X0 := X false
  have X1 := X true
  simp only [sV_t, sV_f] at X0 X1
  have Y : m_need_gone [.sh (machD M), .sh (.lst (gs.map nD ++ [y]))] = .er ⟨"InvalidLot", ["at"], [nD gs.length]⟩ [.no, .no] := x_need_gone h (b := false) (ks := gs) (d := y) (r := []) g1 g2 hy hy2
  have Z : ∀ d : D, okT d = true → isSeq d = false → m_need_withdrawn [.sh (machD M), .sh (.lst (ls.map nD)), .sh (.lst (gs.map nD)), .sh d] = .er ⟨"InvalidGone", ["at"], [.int (-1)]⟩ [.no, .no, .no, .no] := fun d h1 h2 => z_need_withdrawn h (b1 := false) (b2 := false) l1 l2 g1 g2 h1 (.inl h2)
  have so1 : PySem.PyData.strOk (PySem.Str.ofString "gone") = true := by decide +kernel
  have so2 : PySem.PyData.strOk (PySem.Str.ofString "lot") = true := by decide +kernel
  have so3 : PySem.PyData.strOk (PySem.Str.ofString "late") = true := by decide +kernel
  have so4 : PySem.PyData.strOk (PySem.Str.ofString "machine") = true := by decide +kernel
  have so5 : PySem.PyData.strOk (PySem.Str.ofString "none") = true := by decide +kernel
  have pn : ∀ n, (nD n).pl = true := fun _ => pl_nD
  unfold works at mw
  simp only [List.mem_cons, List.not_mem_nil, or_false] at mw
  rcases mw with rfl | rfl | rfl | rfl | rfl | rfl | rfl | rfl | rfl | rfl | rfl
  · refine ⟨_, _, rfl, by simp [D.pl, D.pls, so1, pn], by simp [D.dp, D.dps, dp_nD], fun B v => ⟨B, ?_⟩⟩
    have h0 := fun (T : FW.M O → FW.M D) (δ : List O) => hoK_clo (Ls := L__law_refusals) (T := T) (δ := δ) (n := 0) rfl
    unfold refS
    os_names hoM_ap h0 X0 pk_gone
  · refine ⟨_, _, rfl, by simp [D.pl, D.pls, so1, pn], by simp [D.dp, D.dps, dp_nD], fun B v => ⟨B, ?_⟩⟩
    have h0 := fun (T : FW.M O → FW.M D) (δ : List O) => hoK_clo (Ls := L__law_refusals) (T := T) (δ := δ) (n := 1) rfl
    have X2 := er_standing_news X0
    unfold refS
    os_names hoM_ap h0 X2 pk_gone
  · refine ⟨_, _, rfl, by simp [D.pl, D.pls, so1, pn], by simp [D.dp, D.dps, dp_nD], fun B v => ⟨B, ?_⟩⟩
    have h0 := fun (T : FW.M O → FW.M D) (δ : List O) => hoK_clo (Ls := L__law_refusals) (T := T) (δ := δ) (n := 2) rfl
    have X2 := er_withdrawn_readings X1
    unfold refS
    os_names hoM_ap h0 X2 pk_gone
  · refine ⟨_, _, rfl, by simp [D.pl, D.pls, so1, pn], by simp [D.dp, D.dps, dp_nD], fun B v => ?_⟩
    have h0 := fun (T : FW.M O → FW.M D) (δ : List O) => hoK_clo (Ls := L__law_refusals) (T := T) (δ := δ) (n := 3) rfl
    obtain ⟨d, d1, d2⟩ := e_pick (B := B) (b := false) (ds := [.non, nD 7, .str "gone"]) (by simp) (by simp)
    have d3 : m__law_pick [bxO B, .sh (.lst [.non, nD 7, .str "gone"])] = .ok (.sh d) [bxO (dr B 3).2, .no] := d2
    have Z1 := Z d (by simp only [List.mem_cons, List.not_mem_nil, or_false] at d1; rcases d1 with rfl | rfl | rfl <;> rfl) (by simp only [List.mem_cons, List.not_mem_nil, or_false] at d1; rcases d1 with rfl | rfl | rfl <;> rfl)
    refine ⟨(dr B 3).2, ?_⟩
    unfold refS
    os_names hoM_ap h0 d3 Z1 pk_gone
  · refine ⟨_, _, rfl, by simp [D.pl, D.pls, so1, pn], by simp [D.dp, D.dps, dp_nD], fun B v => ⟨B, ?_⟩⟩
    have h0 := fun (T : FW.M O → FW.M D) (δ : List O) => hoK_clo (Ls := L__law_refusals) (T := T) (δ := δ) (n := 4) rfl
    obtain ⟨big, hb, hlen⟩ : ∃ big, mulD (.lst [D.tup [nD 0, nD 0, nD 0]]) (nD 2001) = some (.lst big) ∧ 2000 < big.length :=
      ⟨_, by rw [mul_ln, if_pos (by simp)], by simp⟩
    have Z2 := z_need_withdrawn h (b1 := false) (b2 := false) l1 l2 g1 g2 (d := .lst big) rfl (.inr ⟨false, _, rfl, hlen⟩)
    simp only [sV_f] at Z2
    unfold refS
    os_names hoM_ap h0 hb Z2 pk_gone
  · refine ⟨_, _, rfl, by simp [D.pl, D.pls, so2, pn], by simp [D.dp, D.dps, dp_nD], fun B v => ⟨B, ?_⟩⟩
    have h0 := fun (T : FW.M O → FW.M D) (δ : List O) => hoK_clo (Ls := L__law_refusals) (T := T) (δ := δ) (n := 5) rfl
    unfold refS
    os_names hoM_ap h0 Y pk_lot
  · refine ⟨_, _, rfl, by simp [D.pl, D.pls, so2, pn], by simp [D.dp, D.dps, dp_nD], fun B v => ⟨B, ?_⟩⟩
    have h0 := fun (T : FW.M O → FW.M D) (δ : List O) => hoK_clo (Ls := L__law_refusals) (T := T) (δ := δ) (n := 6) rfl
    have Y2 := er_withdrawn_readings (gone_need_withdrawn h (b1 := false) l1 l2 (v := .non) Y)
    simp only [sV_f] at Y2
    unfold refS
    os_names hoM_ap h0 Y2 pk_lot
  · refine ⟨_, _, rfl, by simp [D.pl, D.pls, so2, pn], by simp [D.dp, D.dps, dp_nD], fun B v => ?_⟩
    have h0 := fun (T : FW.M O → FW.M D) (δ : List O) => hoK_clo (Ls := L__law_refusals) (T := T) (δ := δ) (n := 7) rfl
    obtain ⟨d, d1, d2⟩ := e_pick (B := B) (b := false) (ds := [.non, nD 1, .str "0"]) (by simp) (by simp)
    have d3 : m__law_pick [bxO B, .sh (.lst [.non, nD 1, .str "0"])] = .ok (.sh d) [bxO (dr B 3).2, .no] := d2
    have Z1 := z_need_gone h (d := d) (by simp only [List.mem_cons, List.not_mem_nil, or_false] at d1; rcases d1 with rfl | rfl | rfl <;> rfl) (by simp only [List.mem_cons, List.not_mem_nil, or_false] at d1; rcases d1 with rfl | rfl | rfl <;> rfl)
    refine ⟨(dr B 3).2, ?_⟩
    unfold refS
    os_names hoM_ap h0 d3 Z1 pk_lot
  · refine ⟨_, _, rfl, by simp [D.pl, D.pls, so3, pn], by simp [D.dp, D.dps, dp_nD], fun B v => ⟨B, ?_⟩⟩
    have h0 := fun (T : FW.M O → FW.M D) (δ : List O) => hoK_clo (Ls := L__law_refusals) (T := T) (δ := δ) (n := 8) rfl
    have Y2 := er_standing_news (late_need_withdrawn h (g := .lst (gs.map nD ++ [y])) (v := .non) (x_need_late h (b := false) (ks := ls) (d := nD M.1.length) (r := []) l1 l2 rfl (.inl (by rw [bel_nD]; simp))))
    simp only [sV_f] at Y2
    have ll : ls.length + 1 ≤ 16777216 := by have := nodup_len l1 l2; have := h.k2; omega
    unfold refS
    os_names hoM_ap h0 List.length_map ll Y2 pk_late
  · refine ⟨_, _, rfl, by simp [D.pl, D.pls, so4, pn], by simp [D.dp, D.dps, dp_nD], fun B v => ⟨B, ?_⟩⟩
    have h0 := fun (T : FW.M O → FW.M D) (δ : List O) => hoK_clo (Ls := L__law_refusals) (T := T) (δ := δ) (n := 9) rfl
    have Y2 := mach_need_withdrawn (l := .non) (g := .non) (v := .non) (x_need_machine h.k1 h.k2)
    unfold refS
    os_names hoM_ap h0 m0 Y2 pk_mach
  · refine ⟨_, _, rfl, by simp [D.pl, D.pls, so5, pn], by simp [D.dp, D.dps, dp_nD], fun B v => ⟨B, ?_⟩⟩
    have h0 := fun (T : FW.M O → FW.M D) (δ : List O) => hoK_clo (Ls := L__law_refusals) (T := T) (δ := δ) (n := 10) rfl
    have Y2 := e_need_withdrawn h (b := false) (b1 := false) (b2 := false) l1 l2 g1 g2 (hs := []) (by simp) (by intro i d q; simp at q)
    simp only [sV_f, List.map_nil] at Y2
    unfold refS
    os_names hoM_ap h0 Y2
    rfl
theorem e_refusals {M : List (List Nat) × List Nat} (h : MachOk M) {ls gs : List Nat} (l1 : ls.Nodup) (l2 : ∀ k ∈ ls, k < M.1.length) (g1 : gs.Nodup) (g2 : ∀ k ∈ gs, k < M.1.length) {st : List Deed} (ok : StoryOk M.1.length ls gs st) (hl : st.length ≤ 14) {B : Box} :
    ∃ B', m__law_refusals [bxO B, .sh (machD M), .sh (.lst (ls.map nD)), .sh (.lst (gs.map nD)), .sh (.lst (st.map ddD))] = .ok (.sh (.bl true)) [bxO B', .no, .no, .no, .no] := by
  have m0 : ixD (machD M) (nD 0) = some (.tup (M.1.map tN)) := rfl
  have n2 := h.k2
  have a1 : 0 < st.length + 1 := by omega
  have a2 : st.length + 1 < 1000000 := by omega
  have a3 := dr_lt (B := B) a1 a2
  generalize ha : (dr B (st.length + 1)).1 = a at a3
  have ha' : a ≤ st.length := by omega
  generalize hB1 : (dr B (st.length + 1)).2 = B1
  obtain ⟨ds, w1, w2, w3, w4⟩ := e_wrong h.k1 h.k2 ok hl ha'
  obtain ⟨wr, p1, p2⟩ := e_pick (B := B1) (b := false) w1 (by omega)
  have p3 : m__law_pick [bxO B1, .sh (.lst ds)] = .ok (.sh wr) [bxO (dr B1 ds.length).2, .no] := p2
  generalize hB2 : (dr B1 ds.length).2 = B2 at p3
  obtain ⟨x, x1, x2⟩ := e_pick (B := B2) (b := false) (ds := [.non, .tup [nD 0, nD 0, nD 0]]) (by simp) (by simp)
  have x3 : m__law_pick [bxO B2, .sh (.lst [.non, .tup [nD 0, nD 0, nD 0]])] = .ok (.sh x) [bxO (dr B2 2).2, .no] := x2
  generalize hB3 : (dr B2 2).2 = B3 at x3
  have gl := nodup_len g1 g2
  obtain ⟨y, y1, y2⟩ := e_pick (B := B3) (b := false) (ds := nD M.1.length :: .int (-1) :: .bl true :: .non :: gs.map nD) (by simp) (by simp; omega)
  have y3 : m__law_pick [bxO B3, .sh (.lst (nD M.1.length :: .int (-1) :: .bl true :: .non :: gs.map nD))] = .ok (.sh y) [bxO (dr B3 (nD M.1.length :: .int (-1) :: .bl true :: .non :: gs.map nD).length).2, .no] := y2
  generalize hB4 : (dr B3 (nD M.1.length :: .int (-1) :: .bl true :: .non :: gs.map nD).length).2 = B4 at y3
  have hy : okT y = true ∧ (isBel y M.1.length = false ∨ ∃ k ∈ gs, y = nD k) := by
    simp only [List.mem_cons, List.mem_map] at y1
    rcases y1 with rfl | rfl | rfl | rfl | ⟨k, hk, rfl⟩
    · exact ⟨rfl, .inl (by rw [bel_nD]; simp)⟩
    · exact ⟨rfl, .inl (by simp [isBel])⟩
    · exact ⟨rfl, .inl rfl⟩
    · exact ⟨rfl, .inl rfl⟩
    · exact ⟨rfl, .inr ⟨k, hk, rfl⟩⟩
  have W := fun {w : D} (mw : w ∈ works a ls gs) => e_work h l1 l2 g1 g2 ok hl ha' (x := x) (w3 wr p1) hy.1 hy.2 mw
  have c1 : (st.map ddD).take a = (st.take a).map ddD := List.map_take.symm
  have c2 : min a st.length + 1 ≤ 16777216 := by omega
  have c3 : min a st.length + 1 + 1 ≤ 16777216 := by omega
  have c4 : gs.length + 1 ≤ 16777216 := by omega
  have c5 : 4 + gs.length ≤ 16777216 := by omega
  have c6 : ((st.take a).map ddD ++ [wr]) ++ [x] = (st.take a).map ddD ++ [wr, x] := by simp
  have c7 : 1 ≤ st.length + 1 := by omega
  unfold m__law_refusals g__law_refusals
  os_names cvG_ap m0 e_draw a1 a2 ha hB1 w4 p3 x3 y3 List.length_map List.length_take List.length_append c1 c2 c3 c4 c5 c6
  have hwk : [D.tup [D.clo 0, D.tup [D.str "gone", nD a]], D.tup [D.clo 1, D.tup [D.str "gone", nD a]], D.tup [D.clo 2, D.tup [D.str "gone", nD a]], D.tup [D.clo 3, D.tup [D.str "gone", D.int (-1)]], D.tup [D.clo 4, D.tup [D.str "gone", D.int (-1)]],
      D.tup [D.clo 5, D.tup [D.str "lot", nD gs.length]], D.tup [D.clo 6, D.tup [D.str "lot", nD gs.length]], D.tup [D.clo 7, D.tup [D.str "lot", D.int (-1)]], D.tup [D.clo 8, D.tup [D.str "late", nD ls.length]], D.tup [D.clo 9, D.tup [D.str "machine", D.int (-1)]], D.tup [D.clo 10, D.tup [D.str "none"]]] = works a ls gs := rfl
  simp only [hwk]
  have P : ∀ B, ∃ w ∈ works a ls gs, m__law_pick [bxO B, .sh (.lst (works a ls gs))] = .ok (.sh w) [bxO (dr B (works a ls gs).length).2, .no] := fun B => e_pick (B := B) (b := false) (ds := works a ls gs) (by simp [works]) (by simp [works])
  have nl : ∀ w ∈ works a ls gs, noL w = true := by
    intro w mw
    unfold works at mw
    simp only [List.mem_cons, List.not_mem_nil, or_false] at mw
    rcases mw with rfl | rfl | rfl | rfl | rfl | rfl | rfl | rfl | rfl | rfl | rfl <;> simp [noL, noLs, nD]
  obtain ⟨u1, v1, q1⟩ := P B4
  generalize (dr B4 (works a ls gs).length).2 = B5 at q1
  obtain ⟨u2, v2, q2⟩ := P B5
  generalize (dr B5 (works a ls gs).length).2 = B6 at q2
  obtain ⟨u3, v3, q3⟩ := P B6
  generalize (dr B6 (works a ls gs).length).2 = B7 at q3
  have nl1 := nl u1 v1
  have nl2 := nl u2 v2
  have nl3 := nl u3 v3
  os_names q1 q2 q3 nl1 nl2 nl3
  generalize hL : loopS _ _ _ _ = L
  obtain ⟨s', rfl, -⟩ := loop_E (xs := [u1, u2, u3]) (enc := fun d => d) hL (s := ((B7, none, none) : Box × Option D × Option D)) (fun s => refS M ls gs st a wr x y s.1 (oO s.2.1) (oO s.2.2)) rfl (fun i s => True) trivial (by
    rintro i w ⟨B, r1, r2⟩ hx _
    have mw : w ∈ works a ls gs := by
      have := List.mem_of_getElem? hx
      simp only [List.mem_cons, List.not_mem_nil, or_false] at this
      rcases this with rfl | rfl | rfl <;> assumption
    obtain ⟨j, due, rfl, d1, d2, hw⟩ := W mw
    obtain ⟨B', hw⟩ := hw B (.sh due)
    have hne : neD due due = some (.bl false) := by rw [ne_pl d1 d1 (by omega) (by omega)]; simp
    unfold refS at hw ⊢
    refine ⟨_, (B', some (.clo j), some due), rfl, ?_, trivial⟩
    left
    os_names hw hne oO_some)
  obtain ⟨B8, r1, r2⟩ := s'
  refine ⟨B8, ?_⟩
  unfold refS
  os_names bind_ok
theorem all2_hand {st : List Deed} {ys : List D} (h : All2 (fun d y => ∃ b, y = handD (b, d)) st ys) : ∃ hs : List (Bool × Deed), ys = hs.map handD ∧ hs.map (·.2) = st := by
  induction h with
  | nil => exact ⟨[], rfl, rfl⟩
  | cons h t ih =>
    obtain ⟨b, rfl⟩ := h
    obtain ⟨hs, rfl, rfl⟩ := ih
    exact ⟨(b, _) :: hs, rfl, rfl⟩
theorem story_num {n : Nat} {ls gs : List Nat} {st : List Deed} (h : StoryOk n ls gs st) (hn : n ≤ 10) : ∀ p ∈ st, p.1 < 1000000000 ∧ p.2.1 < 1000000000 ∧ p.2.2 < 1000000000 := by
  intro p hp
  obtain ⟨j, hj⟩ := List.getElem?_of_mem hp
  obtain ⟨h1, h2, h3, _⟩ := h j p hj
  omega
theorem left_num {n : Nat} {ls gs : List Nat} {st : List Deed} (h : StoryOk n ls gs st) (hn : n ≤ 10) : ∀ p ∈ leftS st, p.1 < 1000000000 ∧ p.2 < 1000000000 := by
  rintro ⟨m, k⟩ hp
  unfold leftS at hp
  rw [List.mem_mergeSort] at hp
  have := story_num h hn _ (mem_left.mp hp).1
  exact ⟨this.1, this.2.1⟩
theorem rd_num {M : List (List Nat) × List Nat} (h : MachOk M) {ls gs : List Nat} {st : List Deed} (ok : StoryOk M.1.length ls gs st) (j : Nat) : rdAt M (leftS (st.take j)) < 1000000000 := by
  have q7 : led M.1 0 ((leftS (st.take j)).map (·.2)) < M.2.length := led_lt h h.s1 (left_kinds ok j)
  unfold rdAt
  rw [List.getD_eq_getElem?_getD, List.getElem?_eq_getElem q7, Option.getD_some]
  have := h.rd _ (List.getElem_mem q7)
  omega
theorem plain (ns : List Int) : ∃ as, m_law [.fz (ns.map .int)] = .ok (.sh (.bl true)) as := by
  obtain ⟨B0, hb⟩ := s_box ns
  unfold m_law g_law
  os_names hb
  generalize hL : loopS _ _ _ _ = L
  obtain ⟨s', rfl, -⟩ := loop_N hL (s := ((B0, none, none, none, none, none, none, none, none, none, none, none) : Box × Option D × Option D × Option D × Option D × Option D × Option D × Option D × Option D × Option D × Option D × Option D))
    (fun s => [.fz (ns.map .int), bxO s.1, oO s.2.1, oO s.2.2.1, oO s.2.2.2.1, oO s.2.2.2.2.1, oO s.2.2.2.2.2.1, oO s.2.2.2.2.2.2.1, oO s.2.2.2.2.2.2.2.1, oO s.2.2.2.2.2.2.2.2.1, oO s.2.2.2.2.2.2.2.2.2.1, oO s.2.2.2.2.2.2.2.2.2.2.1, oO s.2.2.2.2.2.2.2.2.2.2.2]) rfl (fun i s => True) trivial (by
    rintro i c ⟨B, v2, v3, v4, v5, v6, v7, v8, v9, v10, v11, v12⟩ hx _
    have d3 := dr_lt (B := B) (k := 3) (by omega) (by omega)
    generalize hk : 1 + (dr B 3).1 = k
    generalize hB1 : (dr B 3).2 = B1
    obtain ⟨B2, M, h, m1, m2, m3, m4⟩ := e_machine (B := B1) (m := 4) (k := k) (by omega) (by omega) (by omega) (by omega)
    have hk4 : k ≤ 4 := by omega
    obtain ⟨B3, B4, xs, ls, l1, l2, l3, l4⟩ := e_lots (B := B2) hk4
    obtain ⟨B5, B6, ys, gs, g1, g2, g3, g4⟩ := e_lots (B := B4) hk4
    have d15 := dr_lt (B := B6) (k := 15) (by omega) (by omega)
    generalize hm : (dr B6 15).1 = many at d15
    generalize hB7 : (dr B6 15).2 = B7
    obtain ⟨B8, st, s1, s2, s3⟩ := e_story (B := B7) (n := k) (many := many) (ls := ls) (gs := gs) (by omega) hk4 (by omega) g2
    subst m1
    have ll := nodup_len l1 l2
    have gl := nodup_len g1 g2
    obtain ⟨kp, k1, k2⟩ := rp_lls (ls := ls) (gs := gs) (xs := st) (fun x hx => by have := l2 x hx; omega) (fun x hx => by have := g2 x hx; omega) (story_num s2 (by omega)) (by omega) (by omega) (by omega)
    have sl : st.length ≤ 16777216 := by omega
    have hsk : ∀ k : Nat, k ∈ gs → k < 1000000000 := fun x hx => by have := g2 x hx; omega
    obtain ⟨r1, r2, r3⟩ := rp_N (xs := sortN gs) (fun x hx => hsk x (mem_sortN.mp hx)) (by unfold sortN; rw [List.length_mergeSort]; omega)
    have r2' : reprD (.tup ((gs.mergeSort fun a b => decide (a ≤ b)).map nD)) = some (.str r1) := r2
    obtain ⟨t1, t2, t3⟩ := rp_dd (xs := st) (story_num s2 (by omega)) (by omega)
    have gl' : gs.length ≤ 16777216 := by omega
    have ng := e_need_gone h (b := false) g1 g2
    refine ⟨_, rfl, ?_⟩
    os_names e_draw hk hB1 m4 l3 l4 g3 g4 hm hB7 s3 k1 List.length_map sl
    generalize hL2 : compL _ _ _ _ _ _ _ = L2
    obtain ⟨hd, B9, rfl, h'⟩ := comp_E hL2 (s := B8) (fun s => [.fz (ns.map .int), bxO s, .sh (nD c), .sh (nD M.1.length), .sh (machD M), .sh (.lst (ls.map nD)), .sh (.lst (gs.map nD)), .sh (.lst (st.map ddD)), .sh (.str kp), oO v9, .no, oO v11, oO v12]) rfl (fun d y => ∃ b, y = handD (b, d)) (by
      intro d hdm s
      have q1 : listDl (ddD d) = some (handD (false, d)) := rfl
      have q2 : ddD d = handD (true, d) := rfl
      by_cases q : (dr s 3).1 = 0
      · exact ⟨_, _, handD (false, d), (dr s 3).2, rfl, rfl, by os_names e_draw q q1; rfl, by os_names bind_ok, false, rfl⟩
      · exact ⟨_, _, handD (true, d), (dr s 3).2, rfl, rfl, by os_names e_draw q q2; rfl, by os_names bind_ok, true, rfl⟩)
    obtain ⟨hs, rfl, hst⟩ := all2_hand h'
    have hsl : hs.length = st.length := by rw [← hst, List.length_map]
    have nw := e_need_withdrawn h (b := false) (b1 := false) (b2 := false) l1 l2 g1 g2 (hs := hs) (by omega) (by rw [hst]; exact s2)
    rw [hst] at nw
    simp only [sV_f] at nw ng
    have st1 : st.length + 1 < 1000000 := by omega
    os_names ng r2 sort_nats gl' r2' ne_str r3 nw t2 t3 List.length_map st1
    generalize hL3 : loopS _ _ _ _ = L3
    obtain ⟨s', rfl, -⟩ := loop_N hL3 (s := ((v11, v12) : Option D × Option D)) (fun s => [.fz (ns.map .int), bxO B9, .sh (nD c), .sh (nD M.1.length), .sh (machD M), .sh (.lst (ls.map nD)), .sh (.lst (gs.map nD)), .sh (.lst (st.map ddD)), .sh (.str kp), .sh (.lst (hs.map handD)), oO v10, oO s.1, oO s.2]) rfl (fun i s => True) trivial (by
      rintro i j ⟨w1, w2⟩ hj _
      have e1 : (st.map ddD).take j = (st.take j).map ddD := List.map_take.symm
      have e2 : (hs.map handD).take j = (hs.take j).map handD := List.map_take.symm
      have okj := ok_take s2 j
      have lj : (st.take j).length ≤ 14 := by simp; omega
      have f1 := e_standing okj (by omega)
      have hj2 : (hs.take j).map (·.2) = st.take j := by rw [List.map_take, hst]
      have f2 := e_standing_news h (b := false) (b1 := true) (b2 := false) l1 l2 g1 g2 (hs := hs.take j) (by simp; omega) (by rw [hj2]; exact okj)
      rw [hj2] at f2
      simp only [sV_f, sV_t] at f2
      obtain ⟨x1, x2, x3⟩ := rp_nw (xs := leftS (st.take j)) (left_num okj (by omega)) (by have := left_len (st.take j); omega)
      refine ⟨_, rfl, (some (nD j), some (.tup ((leftS (st.take j)).map nwD))), ?_, trivial⟩
      os_names e1 e2 f1 f2 x2 x3 ne_str oO_some)
    obtain ⟨w1, w2⟩ := s'
    have rg : st.length + 1 ≤ 16777216 := by omega
    os_names List.length_map List.length_range st1 rg
    rw [FW.comp_map nD fun j : Nat => nD (rdAt M (leftS (st.take j)))]
    · have wr := e_withdrawn_readings h (b := false) (b1 := false) (b2 := true) l1 l2 g1 g2 (hs := hs) (by omega) (by rw [hst]; exact s2)
      rw [hst, hsl] at wr
      simp only [sV_f, sV_t] at wr
      obtain ⟨x1, x2, x3⟩ := rp_N (xs := (List.range (st.length + 1)).map fun j => rdAt M (leftS (st.take j))) (fun x hx => by
        obtain ⟨j, _, rfl⟩ := List.mem_map.mp hx
        exact rd_num h s2 j) (by simp; omega)
      have x2' : reprD (.tup ((List.range (st.length + 1)).map fun j => nD (rdAt M (leftS (st.take j))))) = some (.str x1) := by
        rw [← x2]
        simp only [tN, List.map_map, Function.comp_def]
      obtain ⟨B10, rf⟩ := e_refusals h l1 l2 g1 g2 s2 s1 (B := B9)
      refine ⟨(B10, some (nD c), some (nD M.1.length), some (machD M), some (.lst (ls.map nD)), some (.lst (gs.map nD)), some (.lst (st.map ddD)), some (.str kp), some (.lst (hs.map handD)), v10, w1, some (.tup ((List.range (st.length + 1)).map fun j => nD (rdAt M (leftS (st.take j)))))), ?_⟩
      os_names wr x2 x2' ne_str x3 rf k1 k2 oO_some
    · intro j hj
      have e1 : (st.map ddD).take j = (st.take j).map ddD := List.map_take.symm
      have okj := ok_take s2 j
      have f1 := e_right h okj (by simp; omega)
      exact ⟨_, rfl, by os_names e1 f1, by os_names bind_ok⟩)
  obtain ⟨B', v2, v3, v4, v5, v6, v7, v8, v9, v10, v11, v12⟩ := s'
  os_names bind_ok
  exact ⟨_, rfl⟩
end K43

set_option Elab.async false
set_option linter.all false
set_option maxRecDepth 100000
set_option maxHeartbeats 0
namespace K43
open PySem PySem.Spec PyProof.Rows L2 FW FWE
def clsInit (st : Stmt) : Stmt := match st with
  | .ClassDef _ _ _ b _ _ _ _ _ _ _ => b.getD 0 (.Pass ⟨0, 0, 0, 0⟩)
  | _ => st
abbrev R : PySem.W.OpenRow := PySem.W.OpenLaw.row PySem.Challenge.rw_forgetwhen_k43_whole_news_that_are_withd
def dd (x : Str) (i : Nat) : He.DefD := ⟨(x, none), x, x, defArgs (tpS i), defBody (tpS i), defScope (tpS i), [], []⟩
def ii (c : Str) (i : Nat) : IniD := ⟨c, c ++ ".__init__", defArgs (clsInit (tpS i)), defBody (clsInit (tpS i)), defScope (clsInit (tpS i))⟩
def fn : List He.DefD := [dd "is_integer" 7, dd "is_number" 8, dd "is_below" 9, dd "is_sequence" 10, dd "is_pair" 11, dd "is_row_below" 16, dd "need_machine" 17, dd "machine_sizes" 18, dd "need_late" 19, dd "states_along" 20, dd "kinds_of_news" 23, dd "need_gone" 26, dd "is_told_deed" 27, dd "fits_deeds" 28, dd "need_withdrawn" 29, dd "left_news" 30, dd "standing_news" 31, dd "withdrawn_readings" 32, dd "_law_box" 34, dd "_law_draw" 35, dd "_law_pick" 36, dd "_law_mixed" 37, dd "_law_map" 38, dd "_law_machine" 39, dd "_law_lot" 40, dd "_law_led" 41, dd "_law_moment" 42, dd "_law_story" 43, dd "_law_standing" 44, dd "_law_right" 45, dd "_law_wrong_deeds" 46, dd "_law_refused" 47, dd "_law_refusals" 48, dd "law" 49]
def fa0 : List He.Fa := [.glo "is_integer", .glo "is_number", .glo "is_below", .glo "is_sequence", .glo "is_pair", .glo "is_row_below", .glo "need_machine", .glo "machine_sizes", .glo "need_late", .glo "states_along", .glo "kinds_of_news", .glo "need_gone", .glo "is_told_deed", .glo "fits_deeds", .glo "need_withdrawn", .glo "left_news", .glo "standing_news", .glo "withdrawn_readings", .glo "_law_box", .glo "_law_draw", .glo "_law_pick", .glo "_law_mixed", .glo "_law_map", .glo "_law_machine", .glo "_law_lot", .glo "_law_led", .glo "_law_moment", .glo "_law_story", .glo "_law_standing", .glo "_law_right"]
def fa1 : List He.Fa := [.glo "_law_wrong_deeds", .glo "_law_refused", .glo "_law_refusals", .glo "law", .glo "TwinError", .glo "InvalidMachine", .glo "InvalidLate", .glo "InvalidGone", .glo "InvalidLot", .int "MOST_STATES" 8, .int "MOST_KINDS" 4, .int "READING_BOUND" 100, .int "MOMENT_BOUND" 1000000, .int "MOST_DEEDS" 2000, .free "isinstance", .free "int", .free "bool", .free "str", .free "list", .free "tuple", .free "len", .free "abs", .free "all", .free "any", .free "sum", .free "max", .free "min", .free "range", .free "enumerate", .free "sorted"]
def fa2 : List He.Fa := [.free "repr", .free "zip", .free "set", .free "reversed", .free "super"]
def fa : List He.Fa := fa0 ++ fa1 ++ fa2
def tf : List He.Defn := [("_law_refusals", none)]
def ini : List IniD := [ii "InvalidMachine" 2, ii "InvalidLate" 3, ii "InvalidGone" 4, ii "InvalidLot" 5]
def exs : List (Str × Str) := [("InvalidMachine", "at"), ("InvalidLate", "at"), ("InvalidGone", "at"), ("InvalidLot", "at")]
def exB (K : PySem.W.Frag) : Bool := (exs.all fun c => xcB K (He.ga K c.1) (fIn K c.1) c.2 && fiB K P (He.ga K c.1) (fIn K c.1) (c.1 ++ ".__init__")) &&
  subT.all fun c => subT.all fun c' => decide (PySem.W.exmOne K (.ref (He.ga K c.1)) (.ref (He.ga K c'.1)) = subK c.1 c'.1)
abbrev hk : PySem.W.Hook := hookY 5 fa fn tf ini exB
def ob (s : PySem.W.SharedT) : AlY := obsY 5 fa fn tf ini exB (HandSHeadRun.getT s)
theorem ob_eq (s : PySem.W.SharedT) : ob s = hk.obs s.abs := obsY_eq (HandSHeadRun.getT_eq s)
def loose0 : List Str := ["TwinError", "InvalidMachine", "InvalidLate", "InvalidGone", "InvalidLot", "is_integer", "is_number", "is_below", "is_sequence", "is_pair", "MOST_STATES", "MOST_KINDS", "READING_BOUND", "is_row_below", "need_machine", "machine_sizes", "need_late", "states_along", "MOMENT_BOUND", "kinds_of_news", "MOST_DEEDS", "need_gone", "is_told_deed", "fits_deeds", "need_withdrawn", "left_news", "standing_news", "withdrawn_readings", "_law_box", "_law_draw"]
def loose1 : List Str := ["_law_pick", "_law_mixed", "_law_map", "_law_machine", "_law_lot", "_law_led", "_law_moment", "_law_story", "_law_standing", "_law_right", "_law_wrong_deeds", "_law_refused", "_law_refusals"]
def loose : List Str := loose0 ++ loose1
theorem run (w : World) : HandSHeadRun.RunEq R (PySem.W.view R.prog [49]) hk ob 6000 loose w := by
  intro os
  kernel_rfl
end K43

set_option Elab.async false
set_option linter.all false
set_option maxRecDepth 100000
set_option maxHeartbeats 4000000
namespace K43
open PySem PySem.Spec PyProof.Rows L2 LamX FW FWE PySem.W PySem.Calls
theorem subK_mem {a b : Str} {r : Bool} (e : subK a b = some r) : (∃ l, (a, l) ∈ subT) ∧ ∃ l, (b, l) ∈ subT := by
  have mem : ∀ {x : Str} {l : List Str} {T : List (Str × List Str)}, T.lookup x = some l → (x, l) ∈ T := fun {x l T} h => by
    induction T with
    | nil => cases h
    | cons p T ih =>
      obtain ⟨y, m⟩ := p
      rw [List.lookup_cons] at h
      split at h
      · rename_i hb; cases h; rw [beq_iff_eq.mp hb]; exact List.mem_cons_self
      · exact List.mem_cons_of_mem _ (ih h)
  unfold subK at e
  cases h1 : subT.lookup a with
  | none => rw [h1] at e; cases e
  | some l =>
    rw [h1] at e
    cases h2 : subT.lookup b with
    | none => rw [h2] at e; cases e
    | some m => exact ⟨⟨l, mem h1⟩, m, mem h2⟩
theorem facts {w : World} {K : Frag} {h : Heap} {mg : Str → Option Value} {fa0 : Addr} (KX : K.In h) (G : h.Ns mainGlobals mg) (hfa : mg ("law" : Str) = some (.ref fa0)) (c : SaysY fa fn tf ini exB h K)
    (plain : ∀ ns : List Int, ns.length ≤ 63 → (∀ z ∈ ns, Builtin.Int.intBits z ≤ 1048576) → ∃ as, m_law [.fz (ns.map .int)] = .ok (.sh (.bl true)) as) : LawG PySem.Challenge.rw_forgetwhen_k43_whole_news_that_are_withd w K 13 63 "_law_script" mg fa0 h := by
  obtain ⟨mx, ms⟩ := Bool.and_eq_true_iff.mp c.more
  have eS : mg ("super" : Str) = none := He.free_ok KX G (c.d.fact 64 (f := .free "super") rfl)
  have e_InvalidMachine : XH P K mg "InvalidMachine" "at" := by
    obtain ⟨u1, u2⟩   := Bool.and_eq_true_iff.mp (List.all_eq_true.mp mx ("InvalidMachine", "at") (List.mem_of_getElem? (i := 0) rfl))
    exact ⟨_, _, xt_of (He.glo_ok KX G (c.d.fact 35 (f := .glo "InvalidMachine") rfl)) eS u1 u2 (c.i (ii "InvalidMachine" 2) (List.mem_of_getElem? (i := 0) rfl)) rfl rfl rfl rfl rfl (fun _ _ _ _ _ _ _ _ => rfl) (fun _ _ _ => rfl)⟩
  have e_InvalidLate : XH P K mg "InvalidLate" "at" := by
    obtain ⟨u1, u2⟩   := Bool.and_eq_true_iff.mp (List.all_eq_true.mp mx ("InvalidLate", "at") (List.mem_of_getElem? (i := 1) rfl))
    exact ⟨_, _, xt_of (He.glo_ok KX G (c.d.fact 36 (f := .glo "InvalidLate") rfl)) eS u1 u2 (c.i (ii "InvalidLate" 3) (List.mem_of_getElem? (i := 1) rfl)) rfl rfl rfl rfl rfl (fun _ _ _ _ _ _ _ _ => rfl) (fun _ _ _ => rfl)⟩
  have e_InvalidGone : XH P K mg "InvalidGone" "at" := by
    obtain ⟨u1, u2⟩   := Bool.and_eq_true_iff.mp (List.all_eq_true.mp mx ("InvalidGone", "at") (List.mem_of_getElem? (i := 2) rfl))
    exact ⟨_, _, xt_of (He.glo_ok KX G (c.d.fact 37 (f := .glo "InvalidGone") rfl)) eS u1 u2 (c.i (ii "InvalidGone" 4) (List.mem_of_getElem? (i := 2) rfl)) rfl rfl rfl rfl rfl (fun _ _ _ _ _ _ _ _ => rfl) (fun _ _ _ => rfl)⟩
  have e_InvalidLot : XH P K mg "InvalidLot" "at" := by
    obtain ⟨u1, u2⟩   := Bool.and_eq_true_iff.mp (List.all_eq_true.mp mx ("InvalidLot", "at") (List.mem_of_getElem? (i := 3) rfl))
    exact ⟨_, _, xt_of (He.glo_ok KX G (c.d.fact 38 (f := .glo "InvalidLot") rfl)) eS u1 u2 (c.i (ii "InvalidLot" 5) (List.mem_of_getElem? (i := 3) rfl)) rfl rfl rfl rfl rfl (fun _ _ _ _ _ _ _ _ => rfl) (fun _ _ _ => rfl)⟩
  have e_TwinError : ∃ A, mg "TwinError" = some (.ref A) := ⟨_, He.glo_ok KX G (c.d.fact 34 (f := .glo "TwinError") rfl)⟩
  obtain ⟨fd_is_integer, D_is_integer⟩ := defAt KX G c (x := "is_integer") (st := st_is_integer) (ps := ps_is_integer) 0 rfl 0 rfl (fun _ _ _ _ _ _ us hl => match us, hl with | [_], _ => rfl)
  obtain ⟨fd_is_number, D_is_number⟩ := defAt KX G c (x := "is_number") (st := st_is_number) (ps := ps_is_number) 1 rfl 1 rfl (fun _ _ _ _ _ _ us hl => match us, hl with | [_], _ => rfl)
  obtain ⟨fd_is_below, D_is_below⟩ := defAt KX G c (x := "is_below") (st := st_is_below) (ps := ps_is_below) 2 rfl 2 rfl (fun _ _ _ _ _ _ us hl => match us, hl with | [_, _], _ => rfl)
  obtain ⟨fd_is_sequence, D_is_sequence⟩ := defAt KX G c (x := "is_sequence") (st := st_is_sequence) (ps := ps_is_sequence) 3 rfl 3 rfl (fun _ _ _ _ _ _ us hl => match us, hl with | [_], _ => rfl)
  obtain ⟨fd_is_pair, D_is_pair⟩ := defAt KX G c (x := "is_pair") (st := st_is_pair) (ps := ps_is_pair) 4 rfl 4 rfl (fun _ _ _ _ _ _ us hl => match us, hl with | [_], _ => rfl)
  obtain ⟨fd_is_row_below, D_is_row_below⟩ := defAt KX G c (x := "is_row_below") (st := st_is_row_below) (ps := ps_is_row_below) 5 rfl 5 rfl (fun _ _ _ _ _ _ us hl => match us, hl with | [_, _, _], _ => rfl)
  obtain ⟨fd_need_machine, D_need_machine⟩ := defAt KX G c (x := "need_machine") (st := st_need_machine) (ps := ps_need_machine) 6 rfl 6 rfl (fun _ _ _ _ _ _ us hl => match us, hl with | [_], _ => rfl)
  obtain ⟨fd_machine_sizes, D_machine_sizes⟩ := defAt KX G c (x := "machine_sizes") (st := st_machine_sizes) (ps := ps_machine_sizes) 7 rfl 7 rfl (fun _ _ _ _ _ _ us hl => match us, hl with | [_], _ => rfl)
  obtain ⟨fd_need_late, D_need_late⟩ := defAt KX G c (x := "need_late") (st := st_need_late) (ps := ps_need_late) 8 rfl 8 rfl (fun _ _ _ _ _ _ us hl => match us, hl with | [_, _], _ => rfl)
  obtain ⟨fd_states_along, D_states_along⟩ := defAt KX G c (x := "states_along") (st := st_states_along) (ps := ps_states_along) 9 rfl 9 rfl (fun _ _ _ _ _ _ us hl => match us, hl with | [_, _], _ => rfl)
  obtain ⟨fd_kinds_of_news, D_kinds_of_news⟩ := defAt KX G c (x := "kinds_of_news") (st := st_kinds_of_news) (ps := ps_kinds_of_news) 10 rfl 10 rfl (fun _ _ _ _ _ _ us hl => match us, hl with | [_], _ => rfl)
  obtain ⟨fd_need_gone, D_need_gone⟩ := defAt KX G c (x := "need_gone") (st := st_need_gone) (ps := ps_need_gone) 11 rfl 11 rfl (fun _ _ _ _ _ _ us hl => match us, hl with | [_, _], _ => rfl)
  obtain ⟨fd_is_told_deed, D_is_told_deed⟩ := defAt KX G c (x := "is_told_deed") (st := st_is_told_deed) (ps := ps_is_told_deed) 12 rfl 12 rfl (fun _ _ _ _ _ _ us hl => match us, hl with | [_, _], _ => rfl)
  obtain ⟨fd_fits_deeds, D_fits_deeds⟩ := defAt KX G c (x := "fits_deeds") (st := st_fits_deeds) (ps := ps_fits_deeds) 13 rfl 13 rfl (fun _ _ _ _ _ _ us hl => match us, hl with | [_, _, _, _], _ => rfl)
  obtain ⟨fd_need_withdrawn, D_need_withdrawn⟩ := defAt KX G c (x := "need_withdrawn") (st := st_need_withdrawn) (ps := ps_need_withdrawn) 14 rfl 14 rfl (fun _ _ _ _ _ _ us hl => match us, hl with | [_, _, _, _], _ => rfl)
  obtain ⟨fd_left_news, D_left_news⟩ := defAt KX G c (x := "left_news") (st := st_left_news) (ps := ps_left_news) 15 rfl 15 rfl (fun _ _ _ _ _ _ us hl => match us, hl with | [_], _ => rfl)
  obtain ⟨fd_standing_news, D_standing_news⟩ := defAt KX G c (x := "standing_news") (st := st_standing_news) (ps := ps_standing_news) 16 rfl 16 rfl (fun _ _ _ _ _ _ us hl => match us, hl with | [_, _, _, _], _ => rfl)
  obtain ⟨fd_withdrawn_readings, D_withdrawn_readings⟩ := defAt KX G c (x := "withdrawn_readings") (st := st_withdrawn_readings) (ps := ps_withdrawn_readings) 17 rfl 17 rfl (fun _ _ _ _ _ _ us hl => match us, hl with | [_, _, _, _], _ => rfl)
  obtain ⟨fd__law_box, D__law_box⟩ := defAt KX G c (x := "_law_box") (st := st__law_box) (ps := ps__law_box) 18 rfl 18 rfl (fun _ _ _ _ _ _ us hl => match us, hl with | [_], _ => rfl)
  obtain ⟨fd__law_draw, D__law_draw⟩ := defAt KX G c (x := "_law_draw") (st := st__law_draw) (ps := ps__law_draw) 19 rfl 19 rfl (fun _ _ _ _ _ _ us hl => match us, hl with | [_, _], _ => rfl)
  obtain ⟨fd__law_pick, D__law_pick⟩ := defAt KX G c (x := "_law_pick") (st := st__law_pick) (ps := ps__law_pick) 20 rfl 20 rfl (fun _ _ _ _ _ _ us hl => match us, hl with | [_, _], _ => rfl)
  obtain ⟨fd__law_mixed, D__law_mixed⟩ := defAt KX G c (x := "_law_mixed") (st := st__law_mixed) (ps := ps__law_mixed) 21 rfl 21 rfl (fun _ _ _ _ _ _ us hl => match us, hl with | [_, _], _ => rfl)
  obtain ⟨fd__law_map, D__law_map⟩ := defAt KX G c (x := "_law_map") (st := st__law_map) (ps := ps__law_map) 22 rfl 22 rfl (fun _ _ _ _ _ _ us hl => match us, hl with | [_, _], _ => rfl)
  obtain ⟨fd__law_machine, D__law_machine⟩ := defAt KX G c (x := "_law_machine") (st := st__law_machine) (ps := ps__law_machine) 23 rfl 23 rfl (fun _ _ _ _ _ _ us hl => match us, hl with | [_, _, _], _ => rfl)
  obtain ⟨fd__law_lot, D__law_lot⟩ := defAt KX G c (x := "_law_lot") (st := st__law_lot) (ps := ps__law_lot) 24 rfl 24 rfl (fun _ _ _ _ _ _ us hl => match us, hl with | [_, _], _ => rfl)
  obtain ⟨fd__law_led, D__law_led⟩ := defAt KX G c (x := "_law_led") (st := st__law_led) (ps := ps__law_led) 25 rfl 25 rfl (fun _ _ _ _ _ _ us hl => match us, hl with | [_, _, _], _ => rfl)
  obtain ⟨fd__law_moment, D__law_moment⟩ := defAt KX G c (x := "_law_moment") (st := st__law_moment) (ps := ps__law_moment) 26 rfl 26 rfl (fun _ _ _ _ _ _ us hl => match us, hl with | [_, _, _, _], _ => rfl)
  obtain ⟨fd__law_story, D__law_story⟩ := defAt KX G c (x := "_law_story") (st := st__law_story) (ps := ps__law_story) 27 rfl 27 rfl (fun _ _ _ _ _ _ us hl => match us, hl with | [_, _, _, _, _], _ => rfl)
  obtain ⟨fd__law_standing, D__law_standing⟩ := defAt KX G c (x := "_law_standing") (st := st__law_standing) (ps := ps__law_standing) 28 rfl 28 rfl (fun _ _ _ _ _ _ us hl => match us, hl with | [_], _ => rfl)
  obtain ⟨fd__law_right, D__law_right⟩ := defAt KX G c (x := "_law_right") (st := st__law_right) (ps := ps__law_right) 29 rfl 29 rfl (fun _ _ _ _ _ _ us hl => match us, hl with | [_, _], _ => rfl)
  obtain ⟨fd__law_wrong_deeds, D__law_wrong_deeds⟩ := defAt KX G c (x := "_law_wrong_deeds") (st := st__law_wrong_deeds) (ps := ps__law_wrong_deeds) 30 rfl 30 rfl (fun _ _ _ _ _ _ us hl => match us, hl with | [_, _, _, _, _], _ => rfl)
  obtain ⟨fd__law_refused, D__law_refused⟩ := defAt KX G c (x := "_law_refused") (st := st__law_refused) (ps := ["_law_work"]) 31 rfl 31 rfl (fun _ _ _ _ _ _ us hl => match us, hl with | [_], _ => rfl)
  obtain ⟨fd__law_refusals, D__law_refusals⟩ := defAt KX G c (x := "_law_refusals") (st := st__law_refusals) (ps := ps__law_refusals) 32 rfl 32 rfl (fun _ _ _ _ _ _ us hl => match us, hl with | [_, _, _, _, _], _ => rfl)
  obtain ⟨fd_law, D_law⟩ := defAt KX G c (x := "law") (st := st_law) (ps := ps_law) 33 rfl 33 rfl (fun _ _ _ _ _ _ us hl => match us, hl with | [_], _ => rfl)
  obtain rfl : fa0 = He.ga K "law" := by
    have e := hfa.symm.trans D_law.gl
    cases e
    rfl
  have hsub : SubOk K mg subK := sub_of (subT := subT) (fun a b r e => subK_mem e) KX G (by
    simp only [subT, List.mem_cons, List.not_mem_nil, or_false]
    rintro p (rfl | rfl | rfl | rfl | rfl)
    · exact He.glo_ok KX G (c.d.fact 34 (f := .glo "TwinError") rfl)
    · exact He.glo_ok KX G (c.d.fact 35 (f := .glo "InvalidMachine") rfl)
    · exact He.glo_ok KX G (c.d.fact 36 (f := .glo "InvalidLate") rfl)
    · exact He.glo_ok KX G (c.d.fact 37 (f := .glo "InvalidGone") rfl)
    · exact He.glo_ok KX G (c.d.fact 38 (f := .glo "InvalidLot") rfl)) ms
  refine ⟨⟨fd_law, tf.map (He.cT K), m_law, ⟨K, mg, fun _ _ _ _ => False, fun _ _ _ => False, tf.map fun p => ((He.cT K p).2, lamQ p.1)⟩, ?_, ?_, ?_, fun s u => FunD.bindsA (ps := ps_law) D_law.fnD (fun _ _ _ _ _ _ us hl => match us, hl with | [_], _ => rfl) s [u] rfl, rfl, ?_, plain, fun base KB GB TB => ?_⟩⟩
  · intro p hp; obtain ⟨z, hz, rfl⟩ := List.mem_map.mp hp; exact c.empty z hz
  · intro p hp; obtain ⟨z, hz, rfl⟩ := List.mem_map.mp hp; exact c.out z hz
  · intro p hp; obtain ⟨z, hz, rfl⟩ := List.mem_map.mp hp; exact codeHd_of_K KX (c.hd z hz)
  · intro p hp; obtain ⟨z, hz, rfl⟩ := List.mem_map.mp hp; exact ⟨_, List.mem_map.mpr ⟨z, hz, rfl⟩, rfl⟩
  have Bl : BLT mg := blt_of (C := ⟨K, mg, fun _ _ _ _ => False, fun _ _ _ => False, []⟩) rfl KX G c (by decide +kernel)
  have h_MOST_STATES : ConA ⟨K, mg, fun _ _ _ _ => False, fun _ _ _ => False, tf.map fun p => ((He.cT K p).2, lamQ p.1)⟩ "MOST_STATES" (.int 8) := conA_int rfl KX G c 39 rfl
  have h_MOST_KINDS : ConA ⟨K, mg, fun _ _ _ _ => False, fun _ _ _ => False, tf.map fun p => ((He.cT K p).2, lamQ p.1)⟩ "MOST_KINDS" (.int 4) := conA_int rfl KX G c 40 rfl
  have h_READING_BOUND : ConA ⟨K, mg, fun _ _ _ _ => False, fun _ _ _ => False, tf.map fun p => ((He.cT K p).2, lamQ p.1)⟩ "READING_BOUND" (.int 100) := conA_int rfl KX G c 41 rfl
  have h_MOMENT_BOUND : ConA ⟨K, mg, fun _ _ _ _ => False, fun _ _ _ => False, tf.map fun p => ((He.cT K p).2, lamQ p.1)⟩ "MOMENT_BOUND" (.int 1000000) := conA_int rfl KX G c 42 rfl
  have h_MOST_DEEDS : ConA ⟨K, mg, fun _ _ _ _ => False, fun _ _ _ => False, tf.map fun p => ((He.cT K p).2, lamQ p.1)⟩ "MOST_DEEDS" (.int 2000) := conA_int rfl KX G c 43 rfl
  have c_is_integer : CalA P w K mg base ⟨K, mg, fun _ _ _ _ => False, fun _ _ _ => False, tf.map fun p => ((He.cT K p).2, lamQ p.1)⟩ "is_integer" ps_is_integer 1 m_is_integer := ok_is_integer rfl rfl D_is_integer.fn D_is_integer.gl D_is_integer.bi Bl  
  have c_is_number : CalA P w K mg base ⟨K, mg, fun _ _ _ _ => False, fun _ _ _ => False, tf.map fun p => ((He.cT K p).2, lamQ p.1)⟩ "is_number" ps_is_number 2 m_is_number := ok_is_number rfl rfl D_is_number.fn D_is_number.gl D_is_number.bi Bl (c_is_integer := c_is_integer) 
  have c_is_below : CalA P w K mg base ⟨K, mg, fun _ _ _ _ => False, fun _ _ _ => False, tf.map fun p => ((He.cT K p).2, lamQ p.1)⟩ "is_below" ps_is_below 3 m_is_below := ok_is_below rfl rfl D_is_below.fn D_is_below.gl D_is_below.bi Bl (c_is_number := c_is_number) 
  have c_is_sequence : CalA P w K mg base ⟨K, mg, fun _ _ _ _ => False, fun _ _ _ => False, tf.map fun p => ((He.cT K p).2, lamQ p.1)⟩ "is_sequence" ps_is_sequence 1 m_is_sequence := ok_is_sequence rfl rfl D_is_sequence.fn D_is_sequence.gl D_is_sequence.bi Bl  
  have c_is_pair : CalA P w K mg base ⟨K, mg, fun _ _ _ _ => False, fun _ _ _ => False, tf.map fun p => ((He.cT K p).2, lamQ p.1)⟩ "is_pair" ps_is_pair 2 m_is_pair := ok_is_pair rfl rfl D_is_pair.fn D_is_pair.gl D_is_pair.bi Bl (c_is_sequence := c_is_sequence) 
  have c_is_row_below : CalA P w K mg base ⟨K, mg, fun _ _ _ _ => False, fun _ _ _ => False, tf.map fun p => ((He.cT K p).2, lamQ p.1)⟩ "is_row_below" ps_is_row_below 4 m_is_row_below := ok_is_row_below rfl rfl D_is_row_below.fn D_is_row_below.gl D_is_row_below.bi Bl (c_is_below := c_is_below) (c_is_sequence := c_is_sequence) 
  have c_need_machine : CalA P w K mg base ⟨K, mg, fun _ _ _ _ => False, fun _ _ _ => False, tf.map fun p => ((He.cT K p).2, lamQ p.1)⟩ "need_machine" ps_need_machine 5 m_need_machine := ok_need_machine rfl rfl D_need_machine.fn D_need_machine.gl D_need_machine.bi Bl (h_MOST_KINDS := h_MOST_KINDS) (h_MOST_STATES := h_MOST_STATES) (h_READING_BOUND := h_READING_BOUND) (c_is_sequence := c_is_sequence) (c_is_pair := c_is_pair) (c_is_row_below := c_is_row_below) (e_InvalidMachine := e_InvalidMachine)
  have c_machine_sizes : CalA P w K mg base ⟨K, mg, fun _ _ _ _ => False, fun _ _ _ => False, tf.map fun p => ((He.cT K p).2, lamQ p.1)⟩ "machine_sizes" ps_machine_sizes 6 m_machine_sizes := ok_machine_sizes rfl rfl D_machine_sizes.fn D_machine_sizes.gl D_machine_sizes.bi Bl (c_need_machine := c_need_machine) 
  have c_need_late : CalA P w K mg base ⟨K, mg, fun _ _ _ _ => False, fun _ _ _ => False, tf.map fun p => ((He.cT K p).2, lamQ p.1)⟩ "need_late" ps_need_late 7 m_need_late := ok_need_late rfl rfl D_need_late.fn D_need_late.gl D_need_late.bi Bl (c_is_below := c_is_below) (c_is_sequence := c_is_sequence) (c_machine_sizes := c_machine_sizes) (e_InvalidLate := e_InvalidLate)
  have c_states_along : CalA P w K mg base ⟨K, mg, fun _ _ _ _ => False, fun _ _ _ => False, tf.map fun p => ((He.cT K p).2, lamQ p.1)⟩ "states_along" ps_states_along 1 m_states_along := ok_states_along rfl rfl D_states_along.fn D_states_along.gl D_states_along.bi Bl  
  have c_kinds_of_news : CalA P w K mg base ⟨K, mg, fun _ _ _ _ => False, fun _ _ _ => False, tf.map fun p => ((He.cT K p).2, lamQ p.1)⟩ "kinds_of_news" ps_kinds_of_news 1 m_kinds_of_news := ok_kinds_of_news rfl rfl D_kinds_of_news.fn D_kinds_of_news.gl D_kinds_of_news.bi Bl  
  have c_need_gone : CalA P w K mg base ⟨K, mg, fun _ _ _ _ => False, fun _ _ _ => False, tf.map fun p => ((He.cT K p).2, lamQ p.1)⟩ "need_gone" ps_need_gone 7 m_need_gone := ok_need_gone rfl rfl D_need_gone.fn D_need_gone.gl D_need_gone.bi Bl (c_is_below := c_is_below) (c_is_sequence := c_is_sequence) (c_machine_sizes := c_machine_sizes) (e_InvalidLot := e_InvalidLot)
  have c_is_told_deed : CalA P w K mg base ⟨K, mg, fun _ _ _ _ => False, fun _ _ _ => False, tf.map fun p => ((He.cT K p).2, lamQ p.1)⟩ "is_told_deed" ps_is_told_deed 4 m_is_told_deed := ok_is_told_deed rfl rfl D_is_told_deed.fn D_is_told_deed.gl D_is_told_deed.bi Bl (h_MOMENT_BOUND := h_MOMENT_BOUND) (c_is_below := c_is_below) (c_is_sequence := c_is_sequence) 
  have c_fits_deeds : CalA P w K mg base ⟨K, mg, fun _ _ _ _ => False, fun _ _ _ => False, tf.map fun p => ((He.cT K p).2, lamQ p.1)⟩ "fits_deeds" ps_fits_deeds 1 m_fits_deeds := ok_fits_deeds rfl rfl D_fits_deeds.fn D_fits_deeds.gl D_fits_deeds.bi Bl  
  have c_need_withdrawn : CalA P w K mg base ⟨K, mg, fun _ _ _ _ => False, fun _ _ _ => False, tf.map fun p => ((He.cT K p).2, lamQ p.1)⟩ "need_withdrawn" ps_need_withdrawn 8 m_need_withdrawn := ok_need_withdrawn rfl rfl D_need_withdrawn.fn D_need_withdrawn.gl D_need_withdrawn.bi Bl (h_MOST_DEEDS := h_MOST_DEEDS) (c_is_sequence := c_is_sequence) (c_need_machine := c_need_machine) (c_need_late := c_need_late) (c_need_gone := c_need_gone) (c_is_told_deed := c_is_told_deed) (c_fits_deeds := c_fits_deeds) (e_InvalidGone := e_InvalidGone)
  have k_need_withdrawn : CalKA P w K mg base ⟨K, mg, fun _ _ _ _ => False, fun _ _ _ => False, tf.map fun p => ((He.cT K p).2, lamQ p.1)⟩ "need_withdrawn" ps_need_withdrawn 8 m_need_withdrawn := okK_need_withdrawn rfl rfl D_need_withdrawn.fn D_need_withdrawn.gl (kwBind (ps := ps_need_withdrawn) D_need_withdrawn.fnD fun _ _ _ _ _ _ us hl => match us, hl with | [_, _, _, _], _ => rfl) Bl (h_MOST_DEEDS := h_MOST_DEEDS) (c_is_sequence := c_is_sequence) (c_need_machine := c_need_machine) (c_need_late := c_need_late) (c_need_gone := c_need_gone) (c_is_told_deed := c_is_told_deed) (c_fits_deeds := c_fits_deeds) (e_InvalidGone := e_InvalidGone)
  have c_left_news : CalA P w K mg base ⟨K, mg, fun _ _ _ _ => False, fun _ _ _ => False, tf.map fun p => ((He.cT K p).2, lamQ p.1)⟩ "left_news" ps_left_news 1 m_left_news := ok_left_news rfl rfl D_left_news.fn D_left_news.gl D_left_news.bi Bl  
  have c_standing_news : CalA P w K mg base ⟨K, mg, fun _ _ _ _ => False, fun _ _ _ => False, tf.map fun p => ((He.cT K p).2, lamQ p.1)⟩ "standing_news" ps_standing_news 9 m_standing_news := ok_standing_news rfl rfl D_standing_news.fn D_standing_news.gl D_standing_news.bi Bl (c_need_withdrawn := c_need_withdrawn) (c_left_news := c_left_news) 
  have c_withdrawn_readings : CalA P w K mg base ⟨K, mg, fun _ _ _ _ => False, fun _ _ _ => False, tf.map fun p => ((He.cT K p).2, lamQ p.1)⟩ "withdrawn_readings" ps_withdrawn_readings 9 m_withdrawn_readings := ok_withdrawn_readings rfl rfl D_withdrawn_readings.fn D_withdrawn_readings.gl D_withdrawn_readings.bi Bl (c_need_machine := c_need_machine) (c_states_along := c_states_along) (c_kinds_of_news := c_kinds_of_news) (c_need_withdrawn := c_need_withdrawn) (c_left_news := c_left_news) 
  have c__law_box : CalA P w K mg base ⟨K, mg, fun _ _ _ _ => False, fun _ _ _ => False, tf.map fun p => ((He.cT K p).2, lamQ p.1)⟩ "_law_box" ps__law_box 1 m__law_box := ok__law_box rfl rfl D__law_box.fn D__law_box.gl D__law_box.bi Bl  
  have c__law_draw : CalA P w K mg base ⟨K, mg, fun _ _ _ _ => False, fun _ _ _ => False, tf.map fun p => ((He.cT K p).2, lamQ p.1)⟩ "_law_draw" ps__law_draw 1 m__law_draw := ok__law_draw rfl rfl D__law_draw.fn D__law_draw.gl D__law_draw.bi Bl  
  have c__law_pick : CalA P w K mg base ⟨K, mg, fun _ _ _ _ => False, fun _ _ _ => False, tf.map fun p => ((He.cT K p).2, lamQ p.1)⟩ "_law_pick" ps__law_pick 2 m__law_pick := ok__law_pick rfl rfl D__law_pick.fn D__law_pick.gl D__law_pick.bi Bl (c__law_draw := c__law_draw) 
  have c__law_mixed : CalA P w K mg base ⟨K, mg, fun _ _ _ _ => False, fun _ _ _ => False, tf.map fun p => ((He.cT K p).2, lamQ p.1)⟩ "_law_mixed" ps__law_mixed 2 m__law_mixed := ok__law_mixed rfl rfl D__law_mixed.fn D__law_mixed.gl D__law_mixed.bi Bl (c__law_draw := c__law_draw) 
  have c__law_map : CalA P w K mg base ⟨K, mg, fun _ _ _ _ => False, fun _ _ _ => False, tf.map fun p => ((He.cT K p).2, lamQ p.1)⟩ "_law_map" ps__law_map 3 m__law_map := ok__law_map rfl rfl D__law_map.fn D__law_map.gl D__law_map.bi Bl (c__law_draw := c__law_draw) (c__law_mixed := c__law_mixed) 
  have c__law_machine : CalA P w K mg base ⟨K, mg, fun _ _ _ _ => False, fun _ _ _ => False, tf.map fun p => ((He.cT K p).2, lamQ p.1)⟩ "_law_machine" ps__law_machine 4 m__law_machine := ok__law_machine rfl rfl D__law_machine.fn D__law_machine.gl D__law_machine.bi Bl (c__law_draw := c__law_draw) (c__law_pick := c__law_pick) (c__law_map := c__law_map) 
  have c__law_lot : CalA P w K mg base ⟨K, mg, fun _ _ _ _ => False, fun _ _ _ => False, tf.map fun p => ((He.cT K p).2, lamQ p.1)⟩ "_law_lot" ps__law_lot 2 m__law_lot := ok__law_lot rfl rfl D__law_lot.fn D__law_lot.gl D__law_lot.bi Bl (c__law_draw := c__law_draw) 
  have c__law_led : CalA P w K mg base ⟨K, mg, fun _ _ _ _ => False, fun _ _ _ => False, tf.map fun p => ((He.cT K p).2, lamQ p.1)⟩ "_law_led" ps__law_led 1 m__law_led := ok__law_led rfl rfl D__law_led.fn D__law_led.gl D__law_led.bi Bl  
  have c__law_moment : CalA P w K mg base ⟨K, mg, fun _ _ _ _ => False, fun _ _ _ => False, tf.map fun p => ((He.cT K p).2, lamQ p.1)⟩ "_law_moment" ps__law_moment 3 m__law_moment := ok__law_moment rfl rfl D__law_moment.fn D__law_moment.gl D__law_moment.bi Bl (c__law_draw := c__law_draw) (c__law_pick := c__law_pick) 
  have c__law_story : CalA P w K mg base ⟨K, mg, fun _ _ _ _ => False, fun _ _ _ => False, tf.map fun p => ((He.cT K p).2, lamQ p.1)⟩ "_law_story" ps__law_story 4 m__law_story := ok__law_story rfl rfl D__law_story.fn D__law_story.gl D__law_story.bi Bl (c__law_draw := c__law_draw) (c__law_pick := c__law_pick) (c__law_moment := c__law_moment) 
  have c__law_standing : CalA P w K mg base ⟨K, mg, fun _ _ _ _ => False, fun _ _ _ => False, tf.map fun p => ((He.cT K p).2, lamQ p.1)⟩ "_law_standing" ps__law_standing 1 m__law_standing := ok__law_standing rfl rfl D__law_standing.fn D__law_standing.gl D__law_standing.bi Bl  
  have c__law_right : CalA P w K mg base ⟨K, mg, fun _ _ _ _ => False, fun _ _ _ => False, tf.map fun p => ((He.cT K p).2, lamQ p.1)⟩ "_law_right" ps__law_right 2 m__law_right := ok__law_right rfl rfl D__law_right.fn D__law_right.gl D__law_right.bi Bl (c__law_led := c__law_led) (c__law_standing := c__law_standing) 
  have c__law_wrong_deeds : CalA P w K mg base ⟨K, mg, fun _ _ _ _ => False, fun _ _ _ => False, tf.map fun p => ((He.cT K p).2, lamQ p.1)⟩ "_law_wrong_deeds" ps__law_wrong_deeds 2 m__law_wrong_deeds := ok__law_wrong_deeds rfl rfl D__law_wrong_deeds.fn D__law_wrong_deeds.gl D__law_wrong_deeds.bi Bl (c__law_standing := c__law_standing) 
  have t__law_refused : HoA P w K mg base ⟨K, mg, fun _ _ _ _ => False, fun _ _ _ => False, tf.map fun p => ((He.cT K p).2, lamQ p.1)⟩ "_law_refused" "_law_work" ks__law_refused r__law_refused := t__law_refused D__law_refused.fn D__law_refused.gl D__law_refused.bi (e_InvalidMachine := e_InvalidMachine) (e_InvalidLate := e_InvalidLate) (e_InvalidLot := e_InvalidLot) (e_InvalidGone := e_InvalidGone) (e_TwinError := e_TwinError)
  have Mk__law_refusals : MkD base mg (tf.map fun p => ((He.cT K p).2, lamQ p.1)) fd__law_refusals "_law_refusals" := mkD_of c D__law_refusals.fn (by decide) TB rfl (by decide) (by intro p hp _; simp only [tf, List.mem_cons, List.not_mem_nil, or_false] at hp; rw [hp])
  have c__law_refusals : CalA P w K mg base ⟨K, mg, fun _ _ _ _ => False, fun _ _ _ => False, tf.map fun p => ((He.cT K p).2, lamQ p.1)⟩ "_law_refusals" ps__law_refusals 12 m__law_refusals := ok__law_refusals rfl rfl D__law_refusals.fn D__law_refusals.gl D__law_refusals.bi Bl (c_need_gone := c_need_gone) (c_need_withdrawn := c_need_withdrawn) (c_standing_news := c_standing_news) (c_withdrawn_readings := c_withdrawn_readings) (c__law_draw := c__law_draw) (c__law_pick := c__law_pick) (c__law_wrong_deeds := c__law_wrong_deeds) (t__law_refused := t__law_refused) (hsub := hsub)  (Mk := Mk__law_refusals)
  exact fnl_law (C := ⟨K, mg, fun _ _ _ _ => False, fun _ _ _ => False, tf.map fun p => ((He.cT K p).2, lamQ p.1)⟩) rfl rfl D_law.fn Bl (c_need_gone := c_need_gone) (c_standing_news := c_standing_news) (c_withdrawn_readings := c_withdrawn_readings) (c__law_box := c__law_box) (c__law_draw := c__law_draw) (c__law_mixed := c__law_mixed) (c__law_machine := c__law_machine) (c__law_lot := c__law_lot) (c__law_story := c__law_story) (c__law_standing := c__law_standing) (c__law_right := c__law_right) (c__law_refusals := c__law_refusals) (k_need_withdrawn := k_need_withdrawn) 
theorem holds_of (plain : ∀ ns : List Int, ns.length ≤ 63 → (∀ z ∈ ns, Builtin.Int.intBits z ≤ 1048576) → ∃ as, m_law [.fz (ns.map .int)] = .ok (.sh (.bl true)) as) : PySem.Challenge.rw_forgetwhen_k43_whole_news_that_are_withd.Holds := by
  w_on; o_law
  refine HandSHeadRun.head_any (r := OpenLaw.row PySem.Challenge.rw_forgetwhen_k43_whole_news_that_are_withd) (q := view (OpenLaw.row PySem.Challenge.rw_forgetwhen_k43_whole_news_that_are_withd).prog [49]) (H := hk) (ob := ob) (M := 6000) (loose := loose) (d := HandSHeadRun.topDef (OpenLaw.row PySem.Challenge.rw_forgetwhen_k43_whole_news_that_are_withd).prog 49) (kwd := []) ob_eq
    (by kernel_rfl) (fun s => by kernel_rfl) run (by kernel_rfl) (by kernel_rfl) (by kernel_rfl) (by rfl) (by first | assumption | decide +kernel) (by decide +kernel) ⟨rfl, rfl, rfl, rfl, rfl, by decide +kernel⟩ ?hw ?hc
  case hw => w_witness2
  case hc =>
    refine walk_ofG (l := PySem.Challenge.rw_forgetwhen_k43_whole_news_that_are_withd) (n := 63) (k := 13) (x := "_law_script") rfl (by decide) (by kernel_rfl) ⟨rfl, by decide, by decide⟩ ?F
    intro w mg fa0 h Y G hmg0
    obtain ⟨K, KX, c⟩ := Y
    have hmg : mg ("law" : PySem.Str) = some (.ref fa0) := by
      have e : (HandSHeadRun.topDef (OpenLaw.row PySem.Challenge.rw_forgetwhen_k43_whole_news_that_are_withd).prog 49).name = ("law" : PySem.Str) := by kernel_rfl
      rw [← e]
      exact hmg0
    exact ⟨K, KX, facts KX G hmg c plain⟩
end K43

theorem PySem.Challenge.cw_forgetwhen_k43_whole_news_that_are_withd_holds : PySem.Challenge.rw_forgetwhen_k43_whole_news_that_are_withd.Holds := by
  exact K43.holds_of fun ns _ _ => K43.plain ns
