import PyProof.Rows.All
import Wide.All
import OpenK.AllK
import Wide.FinOn
import HandS.ForMost
import HandS.IsInst
import HandS.Wide
import HandS.SetFor
import HandS.SortInts
import HandS.TryOnly
import HandS.Deep
import HandS.Strs
import HandS.DeepEq
import HandS.Iter
import HandS.Conv
import HandS.DictComp
import KE.KDictList
import HandS.DictEq
import PyProof.DictUpdate
import HandS.Rev
import PySem.Challenge.RW_forkedshelves_k01_changes_lead_back
set_option Elab.async false
set_option linter.all false
set_option maxRecDepth 100000
set_option maxHeartbeats 4000000
/-! Z: typed triples over the hand layer: what is known and never changes (F), what is owned and may change (Os), what a value stands for. -/
namespace Z
open PySem PySem.Spec L2

/-! ### frozen and owned -/
/-- what an object is to hold, by what is frozen -/
structure OC where
  p : Hp → HO → Prop
  mono : ∀ {F F' : Hp} {o : HO}, Same F F' → p F o → p F' o
abbrev Owns := List (Addr × OC)
structure Wf (F : Hp) (Os : Owns) (H : Hp) : Prop where
  sub : Same F H
  own : ∀ p ∈ Os, F p.1 = none ∧ ∃ o, H p.1 = some o ∧ p.2.p F o
  nd : (Os.map (·.1)).Nodup

theorem same_upd {H : Hp} {p : Addr} {o : HO} (h : H p = none) : Same H (upd H p o) := fun b x e => by
  rw [upd_ne (ne_of_none e h)]
  exact e
theorem same_upd2 {F H : Hp} {p : Addr} {o : HO} (s : Same F H) (h : F p = none) : Same F (upd H p o) := fun b x e => by
  rw [upd_ne (ne_of_none e h)]
  exact s b x e
theorem same_updU {F H : Hp} {p : Addr} {o : HO} (s : Same F H) : Same (upd F p o) (upd H p o) := fun b x e => by
  by_cases hb : b = p
  · subst hb
    rw [upd_same] at e ⊢
    exact e
  · rw [upd_ne hb] at e ⊢
    exact s b x e
theorem same_updF {F H : Hp} {p : Addr} {o : HO} (s : Same F H) (h : H p = some o) : Same (upd F p o) H := fun b x e => by
  by_cases hb : b = p
  · subst hb
    rw [upd_same] at e
    rw [h]
    exact e
  · rw [upd_ne hb] at e
    exact s b x e
section
variable {F F' H : Hp} {Os : Owns} {p a : Addr} {o o' : HO} {O O' : OC} {i : Nat}
theorem Wf.notin (w : Wf F Os H) (hp : H p = none) : ∀ q ∈ Os, q.1 ≠ p := fun q hq e => by
  obtain ⟨_, o, h, _⟩ := w.own q hq
  rw [e, hp] at h
  cases h
/-- a new object that never changes -/
theorem Wf.froz (w : Wf F Os H) (hp : H p = none) : Wf (upd F p o) Os (upd H p o) where
  sub := same_updU w.sub
  own := fun q hq => by
    obtain ⟨h1, u, h2, h3⟩ := w.own q hq
    have n := w.notin hp q hq
    exact ⟨by rw [upd_ne n]; exact h1, u, by rw [upd_ne n]; exact h2, q.2.mono (same_upd (w.sub.free hp)) h3⟩
  nd := w.nd
theorem Wf.frozS (w : Wf F Os H) (hp : H p = none) : Same F (upd F p o) := same_upd (w.sub.free hp)
/-- a new object that is owned -/
theorem Wf.new (w : Wf F Os H) (hp : H p = none) (ho : O.p F o) : Wf F ((p, O) :: Os) (upd H p o) where
  sub := same_upd2 w.sub (w.sub.free hp)
  own := fun q hq => by
    rcases List.mem_cons.mp hq with rfl | hq
    · exact ⟨w.sub.free hp, o, upd_same, ho⟩
    · obtain ⟨h1, u, h2, h3⟩ := w.own q hq
      exact ⟨h1, u, by rw [upd_ne (w.notin hp q hq)]; exact h2, h3⟩
  nd := by
    rw [List.map_cons]
    refine List.nodup_cons.mpr ⟨fun m => ?_, w.nd⟩
    obtain ⟨q, hq, e⟩ := List.mem_map.mp m
    exact w.notin hp q hq e
theorem Wf.at (w : Wf F Os H) (hi : Os[i]? = some (a, O)) : F a = none ∧ ∃ o, H a = some o ∧ O.p F o := w.own (a, O) (List.mem_of_getElem? hi)
theorem nd_at {l : List Addr} (hN : l.Nodup) {i j : Nat} {x : Addr} (a : l[i]? = some x) (b : l[j]? = some x) : i = j := by
  obtain ⟨h1, e1⟩ := List.getElem?_eq_some_iff.mp a
  obtain ⟨h2, e2⟩ := List.getElem?_eq_some_iff.mp b
  exact (List.getElem_inj hN).mp (e1.trans e2.symm)
theorem Wf.ne (w : Wf F Os H) {i j : Nat} {q r : Addr × OC} (hi : Os[i]? = some q) (hj : Os[j]? = some r) (h : i ≠ j) : q.1 ≠ r.1 := fun e =>
  h (nd_at (x := r.1) w.nd (by rw [List.getElem?_map, hi, Option.map_some, e]) (by rw [List.getElem?_map, hj, Option.map_some]))
/-- an owned object changes -/
theorem Wf.set (w : Wf F Os H) (hi : Os[i]? = some (a, O)) (ho : O'.p F o') : Wf F (Os.set i (a, O')) (upd H a o') where
  sub := same_upd2 w.sub (w.at hi).1
  own := fun q hq => by
    obtain ⟨j, hj⟩ := List.mem_iff_getElem?.mp hq
    by_cases e : i = j
    · subst e
      rw [List.getElem?_set_self (List.getElem?_eq_some_iff.mp hi).1] at hj
      cases hj
      exact ⟨(w.at hi).1, o', upd_same, ho⟩
    · rw [List.getElem?_set_ne e] at hj
      obtain ⟨h1, u, h2, h3⟩ := w.own q (List.mem_of_getElem? hj)
      exact ⟨h1, u, by rw [upd_ne (w.ne hj hi (Ne.symm e))]; exact h2, h3⟩
  nd := by
    have e : (Os.set i (a, O')).map (·.1) = Os.map (·.1) := by
      rw [List.map_set]
      refine List.ext_getElem? fun j => ?_
      by_cases e : i = j
      · subst e
        have l := (List.getElem?_eq_some_iff.mp hi).1
        rw [List.getElem?_set_self (by rw [List.length_map]; exact l), List.getElem?_map, hi]
        rfl
      · rw [List.getElem?_set_ne e]
    rw [e]
    exact w.nd
theorem mem_eraseIdx_of {α : Type} {l : List α} {i : Nat} {x : α} (h : x ∈ l.eraseIdx i) : ∃ j, j ≠ i ∧ l[j]? = some x := by
  obtain ⟨j, hj⟩ := List.mem_iff_getElem?.mp h
  rw [List.getElem?_eraseIdx] at hj
  split at hj
  · exact ⟨j, by omega, hj⟩
  · exact ⟨j + 1, by omega, hj⟩
/-- an owned object is from now on never changed -/
theorem Wf.fz (w : Wf F Os H) (hi : Os[i]? = some (a, O)) : ∃ o, O.p (upd F a o) o ∧ Same F (upd F a o) ∧ Wf (upd F a o) (Os.eraseIdx i) H := by
  obtain ⟨h1, o, h2, h3⟩ := w.at hi
  have s : Same F (upd F a o) := same_upd h1
  refine ⟨o, O.mono s h3, s, same_updF w.sub h2, fun q hq => ?_, ?_⟩
  · obtain ⟨j, hj, e⟩ := mem_eraseIdx_of hq
    obtain ⟨k1, u, k2, k3⟩ := w.own q (List.mem_of_getElem? e)
    exact ⟨by rw [upd_ne (w.ne e hi hj)]; exact k1, u, k2, q.2.mono s k3⟩
  · refine List.Nodup.sublist ?_ w.nd
    exact List.Sublist.map _ (List.eraseIdx_sublist ..)
theorem Wf.ext (w : Wf F Os H) (h : ∀ q ∈ Os, q ∈ Os) : Wf F Os H := w
/-- an owned object is laid aside -/
theorem Wf.drop (w : Wf F Os H) : Wf F (Os.eraseIdx i) H := ⟨w.sub, fun q hq => by
  obtain ⟨j, _, e⟩ := mem_eraseIdx_of hq
  exact w.own q (List.mem_of_getElem? e), List.Nodup.sublist (List.Sublist.map _ (List.eraseIdx_sublist ..)) w.nd⟩
theorem Wf.tail {q : Addr × OC} (w : Wf F (q :: Os) H) : Wf F Os H := ⟨w.sub, fun r hr => w.own r (List.mem_cons_of_mem _ hr), (List.nodup_cons.mp w.nd).2⟩
theorem Wf.perm {Os' : Owns} (w : Wf F Os H) (h : Os.Perm Os') : Wf F Os' H := ⟨w.sub, fun q hq => w.own q (h.mem_iff.mpr hq), (h.map _).nodup_iff.mp w.nd⟩
end

theorem perm_pull {α : Type} : ∀ (l : List α) (i : Nat) (q : α), l[i]? = some q → l.Perm (q :: l.eraseIdx i)
  | [], _, _, h => by simp at h
  | a :: l, 0, q, h => by
    have e : a = q := Option.some.inj h
    subst e
    exact .refl _
  | a :: l, i + 1, q, h => (List.Perm.cons a (perm_pull l i q (by simpa using h))).trans (List.Perm.swap q a _)
theorem Wf.pull {F H : Hp} {Os : Owns} {i : Nat} {q : Addr × OC} (w : Wf F Os H) (hi : Os[i]? = some q) : Wf F (q :: Os.eraseIdx i) H := w.perm (perm_pull _ _ _ hi)
theorem perm_ins {α : Type} (q : α) : ∀ (i : Nat) (l : List α), i ≤ l.length → (q :: l).Perm (l.insertIdx i q)
  | 0, _, _ => .refl _
  | i + 1, [], h => absurd h (by simp)
  | i + 1, a :: l, h => (List.Perm.swap a q l).trans (List.Perm.cons a (perm_ins q i l (by simpa using h)))
theorem Wf.back {F H : Hp} {Os : Owns} {i : Nat} {q : Addr × OC} (w : Wf F (q :: Os) H) (h : i ≤ Os.length := by first | (simp; done) | exact Nat.zero_le _ | exact Nat.succ_le_succ (Nat.zero_le _) | exact Nat.succ_le_succ (Nat.succ_le_succ (Nat.zero_le _)) | exact Nat.succ_le_succ (Nat.succ_le_succ (Nat.succ_le_succ (Nat.zero_le _)))) : Wf F (Os.insertIdx i q) H := w.perm (perm_ins q i Os h)
theorem Wf.back2 {F H : Hp} {Os : Owns} {i : Nat} {q r : Addr × OC} (w : Wf F (r :: q :: Os) H) (h : i ≤ Os.length := by first | (simp; done) | exact Nat.zero_le _ | exact Nat.succ_le_succ (Nat.zero_le _) | exact Nat.succ_le_succ (Nat.succ_le_succ (Nat.zero_le _)) | exact Nat.succ_le_succ (Nat.succ_le_succ (Nat.succ_le_succ (Nat.zero_le _)))) : Wf F (r :: Os.insertIdx i q) H := w.perm (.cons r (perm_ins q i Os h))
theorem Wf.tail2 {F H : Hp} {Os : Owns} {q r : Addr × OC} (w : Wf F (r :: q :: Os) H) : Wf F (r :: Os) H := w.drop (i := 1)

/-- exactly this -/
def ocIs (o : HO) : OC := ⟨fun _ u => u = o, fun _ h => h⟩
/-- for a while the objects at S never change; nothing that is owned changes meanwhile -/
theorem Wf.tmpE {F H : Hp} {Os : Owns} (w : Wf F Os H) (S : List Addr) : ∃ G Ex, G = (fun b => if b ∈ S then H b else F b) ∧ Ex = ((Os.filter fun p => decide (p.1 ∉ S)).filterMap fun p => (H p.1).map fun o => (p.1, ocIs o)) ∧ Same F G ∧ Wf G Ex H ∧ (∀ a (O : OC), (a, O) ∈ Os → a ∈ S → ∃ o, G a = some o ∧ O.p G o) ∧ ∀ F2 H2, Same G F2 → Wf F2 Ex H2 → Wf F Os H2 := by
  have sG : Same F (fun b => if b ∈ S then H b else F b) := fun b o e => by
    show (if b ∈ S then H b else F b) = some o
    by_cases hb : b ∈ S
    · rw [if_pos hb]; exact w.sub b o e
    · rw [if_neg hb]; exact e
  refine ⟨fun b => if b ∈ S then H b else F b, (Os.filter fun p => decide (p.1 ∉ S)).filterMap fun p => (H p.1).map fun o => (p.1, ocIs o), rfl, rfl, sG, ⟨fun b o e => ?_, fun q hq => ?_, ?_⟩, fun a O hO hS => ?_, fun F2 H2 s2 w2 => ⟨fun b o e => ?_, fun q hq => ?_, w.nd⟩⟩
  · have e : (if b ∈ S then H b else F b) = some o := e
    by_cases hb : b ∈ S
    · rw [if_pos hb] at e; exact e
    · rw [if_neg hb] at e; exact w.sub b o e
  · obtain ⟨p, hp, e⟩ := List.mem_filterMap.mp hq
    obtain ⟨h1, h2⟩ := List.mem_filter.mp hp
    obtain ⟨h3, o, h4, h5⟩ := w.own p h1
    rw [h4] at e
    cases e
    have hn : p.1 ∉ S := of_decide_eq_true h2
    exact ⟨by show (if p.1 ∈ S then H p.1 else F p.1) = none; rw [if_neg hn]; exact h3, o, h4, rfl⟩
  · have : ∀ l : Owns, (∀ p ∈ l, ∃ o, H p.1 = some o) → (l.filterMap fun p => (H p.1).map fun o => ((p.1, ocIs o) : Addr × OC)).map (·.1) = l.map (·.1) := fun l => by
      induction l with
      | nil => intro _; rfl
      | cons p r ih =>
        intro hl
        obtain ⟨o, ho⟩ := hl p (List.mem_cons_self ..)
        rw [List.filterMap_cons, ho]
        show p.1 :: _ = p.1 :: _
        rw [ih fun q hq => hl q (List.mem_cons_of_mem _ hq)]
    rw [this _ fun p hp => by
      obtain ⟨_, o, h, _⟩ := w.own p (List.mem_filter.mp hp).1
      exact ⟨o, h⟩]
    exact List.Nodup.sublist (List.Sublist.map _ (List.filter_sublist ..)) w.nd
  · obtain ⟨h3, o, h4, h5⟩ := w.own _ hO
    exact ⟨o, by show (if a ∈ S then H a else F a) = some o; rw [if_pos hS]; exact h4, O.mono sG h5⟩
  · exact w2.sub _ _ (s2 _ _ (sG b o e))
  · obtain ⟨h3, o, h4, h5⟩ := w.own q hq
    refine ⟨h3, o, ?_, h5⟩
    by_cases hS : q.1 ∈ S
    · exact w2.sub _ _ (s2 _ _ (by show (if q.1 ∈ S then H q.1 else F q.1) = some o; rw [if_pos hS]; exact h4))
    · obtain ⟨_, u, h6, h7⟩ := w2.own (q.1, ocIs o) (List.mem_filterMap.mpr ⟨q, List.mem_filter.mpr ⟨hq, decide_eq_true hS⟩, by rw [h4]; rfl⟩)
      rw [show u = o from h7] at h6
      exact h6

theorem Wf.tmp {F H : Hp} {Os : Owns} (w : Wf F Os H) (S : List Addr) : ∃ G Ex, Same F G ∧ Wf G Ex H ∧ (∀ a (O : OC), (a, O) ∈ Os → a ∈ S → ∃ o, G a = some o ∧ O.p G o) ∧ ∀ F2 H2, Same G F2 → Wf F2 Ex H2 → Wf F Os H2 := by
  obtain ⟨G, Ex, _, _, h⟩ := w.tmpE S
  exact ⟨G, Ex, h⟩

/-! ### what a value stands for -/
structure Rep (α : Type) where
  r : Hp → V → α → Prop
  mono : ∀ {F F' : Hp} {v : V} {x : α}, Same F F' → r F v x → r F' v x
structure Vw (α : Type) where
  r : Hp → Owns → V → α → Prop
  mono : ∀ {F F' : Hp} {Os : Owns} {v : V} {x : α}, Same F F' → r F Os v x → r F' Os v x
def Rep.v {α : Type} (R : Rep α) : Vw α := ⟨fun F _ v x => R.r F v x, fun s h => R.mono s h⟩
def rInt : Rep Int := ⟨fun _ v x => v = .int x, fun _ h => h⟩
def rBool : Rep Bool := ⟨fun _ v x => v = .bl x, fun _ h => h⟩
def rStr : Rep Str := ⟨fun _ v x => v = .str x, fun _ h => h⟩
def rNone : Rep Unit := ⟨fun _ v _ => v = .non, fun _ h => h⟩
/-- the very value -/
def rIs (u : V) : Rep Unit := ⟨fun _ v _ => v = u, fun _ h => h⟩
def rOpt {α : Type} (R : Rep α) : Rep (Option α) := ⟨fun F v x => match x with
  | none => v = .non
  | some y => R.r F v y ∧ v ≠ .non, fun {F F' v x} s h => by
    cases x with
    | none => exact h
    | some y => exact ⟨R.mono s h.1, h.2⟩⟩
theorem paired_mono {α β : Type} {R R' : α → β → Prop} (h : ∀ a b, R a b → R' a b) : ∀ {xs : List α} {ys : List β}, Paired R xs ys → Paired R' xs ys
  | _, _, .nil => .nil
  | _, _, .cons a t => .cons (h _ _ a) (paired_mono h t)
/-- the script -/
def rScr (K : PySem.W.Frag) : Rep (List Int) := ⟨fun F v xs => ∃ a, v = .ref a ∧ SqL K F a (xs.map V.int), fun s ⟨a, e, h⟩ => ⟨a, e, Same.seq s h⟩⟩
/-- a list's content -/
def oList {α : Type} (R : Rep α) (xs : List α) : OC := ⟨fun F o => ∃ vs, o = .lst vs ∧ Paired (R.r F) vs xs, fun s ⟨vs, e, h⟩ => ⟨vs, e, paired_mono (fun _ _ q => R.mono s q) h⟩⟩
/-- an object that never changes -/
def rOf {α : Type} (O : α → OC) : Rep α := ⟨fun F v x => ∃ a o, v = .ref a ∧ F a = some o ∧ (O x).p F o, fun s ⟨a, o, e, h1, h2⟩ => ⟨a, o, e, s _ _ h1, (O _).mono s h2⟩⟩
/-- an object, frozen or owned -/
def vOf {α : Type} (O : α → OC) : Vw α := ⟨fun F Os v x => ∃ a, v = .ref a ∧ ((∃ o, F a = some o ∧ (O x).p F o) ∨ (a, O x) ∈ Os), fun s ⟨a, e, h⟩ => ⟨a, e, h.elim (fun ⟨o, h1, h2⟩ => .inl ⟨o, s _ _ h1, (O _).mono s h2⟩) .inr⟩⟩
abbrev rList {α : Type} (R : Rep α) : Rep (List α) := rOf (oList R)
abbrev vList {α : Type} (R : Rep α) : Vw (List α) := vOf (oList R)
theorem vOf.get {α : Type} {O : α → OC} {F H : Hp} {Os : Owns} {v : V} {x : α} (w : Wf F Os H) (h : (vOf O).r F Os v x) : ∃ a o, v = .ref a ∧ H a = some o ∧ (O x).p F o := by
  obtain ⟨a, e, h | h⟩ := h
  · obtain ⟨o, h1, h2⟩ := h
    exact ⟨a, o, e, w.sub _ _ h1, h2⟩
  · obtain ⟨_, o, h1, h2⟩ := w.own _ h
    exact ⟨a, o, e, h1, h2⟩
theorem vOf.of {α : Type} {O : α → OC} {F : Hp} {Os : Owns} {v : V} {x : α} (h : (rOf O).r F v x) : (vOf O).r F Os v x := by
  obtain ⟨a, o, e, h1, h2⟩ := h
  exact ⟨a, e, .inl ⟨o, h1, h2⟩⟩
theorem vOf.own {α : Type} {O : α → OC} {F : Hp} {Os : Owns} {a : Addr} {x : α} {i : Nat} (h : Os[i]? = some (a, O x)) : (vOf O).r F Os (.ref a) x := ⟨a, rfl, .inr (List.mem_of_getElem? h)⟩
/-- an owned object is from now on frozen -/
theorem fz_own {α : Type} {O : α → OC} {F H : Hp} {Os : Owns} {a : Addr} {x : α} {i : Nat} (w : Wf F Os H) (hi : Os[i]? = some (a, O x)) : ∃ F', Same F F' ∧ Wf F' (Os.eraseIdx i) H ∧ (rOf O).r F' (.ref a) x := by
  obtain ⟨o, h1, h2, h3⟩ := w.fz hi
  exact ⟨_, h2, h3, a, o, rfl, upd_same, h1⟩
/-- tuples -/
def rT2 {α β : Type} (R : Rep α) (S : Rep β) : Rep (α × β) := ⟨fun F v x => ∃ a u1 u2, v = .ref a ∧ F a = some (.tup [u1, u2]) ∧ R.r F u1 x.1 ∧ S.r F u2 x.2, fun s ⟨a, u1, u2, e, h, h1, h2⟩ => ⟨a, u1, u2, e, s _ _ h, R.mono s h1, S.mono s h2⟩⟩
def rT3 {α β γ : Type} (R : Rep α) (S : Rep β) (T : Rep γ) : Rep (α × β × γ) := ⟨fun F v x => ∃ a u1 u2 u3, v = .ref a ∧ F a = some (.tup [u1, u2, u3]) ∧ R.r F u1 x.1 ∧ S.r F u2 x.2.1 ∧ T.r F u3 x.2.2,
  fun s ⟨a, u1, u2, u3, e, h, h1, h2, h3⟩ => ⟨a, u1, u2, u3, e, s _ _ h, R.mono s h1, S.mono s h2, T.mono s h3⟩⟩
/-- a tuple of any length, its items alike -/
def rTup {α : Type} (R : Rep α) : Rep (List α) := ⟨fun F v xs => ∃ a vs, v = .ref a ∧ F a = some (.tup vs) ∧ Paired (R.r F) vs xs, fun s ⟨a, vs, e, h, h1⟩ => ⟨a, vs, e, s _ _ h, paired_mono (fun _ _ q => R.mono s q) h1⟩⟩
theorem paired_get {α β : Type} {R : α → β → Prop} : ∀ {xs : List α} {ys : List β} {i : Nat} {y : β}, Paired R xs ys → ys[i]? = some y → ∃ x, xs[i]? = some x ∧ R x y
  | _, _, _, _, .nil, e => by simp at e
  | _, _, 0, _, .cons r _, e => by simp at e; subst e; exact ⟨_, rfl, r⟩
  | _, _, i + 1, y, .cons _ t, e => by
    obtain ⟨u, h1, h2⟩ := paired_get (i := i) (y := y) t (by simpa using e)
    exact ⟨u, by simpa using h1, h2⟩
theorem paired_set {α β : Type} {R : α → β → Prop} {x : α} {y : β} (r : R x y) : ∀ {xs : List α} {ys : List β} (i : Nat), Paired R xs ys → Paired R (xs.set i x) (ys.set i y)
  | _, _, _, .nil => .nil
  | _, _, 0, .cons _ t => .cons r t
  | _, _, i + 1, .cons q t => .cons q (paired_set r i t)
theorem paired_append {α β : Type} {R : α → β → Prop} : ∀ {xs xs' : List α} {ys ys' : List β}, Paired R xs ys → Paired R xs' ys' → Paired R (xs ++ xs') (ys ++ ys')
  | _, _, _, _, .nil, s => s
  | _, _, _, _, .cons r t, s => .cons r (paired_append t s)

/-! ### the mirror's words -/
/-- a name is given a value -/
def lt {α β : Type} (x : α) (k : α → β) : β := k x
theorem lt_some {α β : Type} {x : α} {k : α → Option β} {r : β} (h : lt x k = some r) : ∃ y, y = x ∧ k y = some r := ⟨x, rfl, h⟩
def bd {α β : Type} (x : Option α) (k : α → Option β) : Option β := match x with
  | none => none
  | some y => k y
theorem bd_some {α β : Type} {x : Option α} {k : α → Option β} {r : β} (h : bd x k = some r) : ∃ y, x = some y ∧ k y = some r := by
  cases x with
  | none => cases h
  | some y => exact ⟨y, rfl, h⟩
theorem bd_eq {α β : Type} {y : α} {k : α → Option β} : bd (some y) k = k y := by
  generalize hx : some y = x
  cases x with
  | none => cases hx
  | some z =>
    cases hx
    rfl
theorem lt_eq {α β : Type} {x : α} {k : α → β} : lt x k = k x := by
  generalize hx : x = z
  cases hx
  rfl
/-- only where c holds -/
def gd {β : Type} (c : Prop) [Decidable c] (k : Option β) : Option β := if c then k else none
theorem gd_some {β : Type} {c : Prop} [Decidable c] {k : Option β} {r : β} (h : gd c k = some r) : c ∧ k = some r := by
  unfold gd at h
  by_cases hc : c
  · rw [if_pos hc] at h
    exact ⟨hc, h⟩
  · rw [if_neg hc] at h
    cases h
theorem if_some {β : Type} {b : Bool} {A B : Option β} {r : β} (h : (if b = true then A else B) = some r) : (b = true → A = some r) ∧ (b = false → B = some r) := by
  cases b with
  | true => exact ⟨fun _ => h, fun z => nomatch z⟩
  | false => exact ⟨(fun z => nomatch z), fun _ => h⟩
/-- the ways out of a block -/
inductive Fl (ρ σ : Type) where
  | nx (s : σ)
  | ret (r : ρ)
  | brk (s : σ)
def foldO {α σ : Type} (f : σ → α → Option σ) : σ → List α → Option σ
  | s, [] => some s
  | s, x :: r => bd (f s x) fun s' => foldO f s' r
def foldF {α ρ σ : Type} (f : σ → α → Option (Fl ρ σ)) : σ → List α → Option (Fl ρ σ)
  | s, [] => some (.nx s)
  | s, x :: r => bd (f s x) fun z => match z with
    | .nx s' => foldF f s' r
    | .ret v => some (.ret v)
    | .brk s' => some (.nx s')
theorem nn_of {α : Type} {O : α → OC} {x : α} : ∀ F v, (rOf O).r F v x → v ≠ .non := fun F v ⟨a, o, e, _⟩ h => by rw [e] at h; cases h
theorem nn_int {x : Int} : ∀ F v, rInt.r F v x → v ≠ .non := fun F v e h => by rw [show v = V.int x from e] at h; cases h
theorem nn_bool {x : Bool} : ∀ F v, rBool.r F v x → v ≠ .non := fun F v e h => by rw [show v = V.bl x from e] at h; cases h
theorem nn_str {x : Str} : ∀ F v, rStr.r F v x → v ≠ .non := fun F v e h => by rw [show v = V.str x from e] at h; cases h
theorem nn_t2 {α β : Type} {R : Rep α} {S : Rep β} {x : α × β} : ∀ F v, (rT2 R S).r F v x → v ≠ .non := fun F v ⟨a, _, _, e, _⟩ h => by rw [e] at h; cases h
theorem nn_t3 {α β γ : Type} {R : Rep α} {S : Rep β} {T : Rep γ} {x : α × β × γ} : ∀ F v, (rT3 R S T).r F v x → v ≠ .non := fun F v ⟨a, _, _, _, e, _⟩ h => by rw [e] at h; cases h
theorem nn_tup {α : Type} {R : Rep α} {x : List α} : ∀ F v, (rTup R).r F v x → v ≠ .non := fun F v ⟨a, _, e, _⟩ h => by rw [e] at h; cases h
/-- a turn's way out, then the turns that are left -/
def fstep {ρ σ : Type} (k : σ → Option (Fl ρ σ)) (z : Fl ρ σ) : Option (Fl ρ σ) := match z with
  | .nx s' => k s'
  | .ret v => some (.ret v)
  | .brk s' => some (.nx s')
def whF {ρ σ : Type} (f : σ → Option (Fl ρ σ)) : Nat → σ → Option (Fl ρ σ)
  | 0, _ => none
  | n + 1, s => bd (f s) (fstep (whF f n))
def flk {ρ σ β : Type} (z : Fl ρ σ) (kn : σ → β) (kr : ρ → β) : β := match z with
  | .nx s => kn s
  | .ret r => kr r
  | .brk s => kn s
theorem flk_ret {ρ σ β : Type} {r : ρ} {kn : σ → Option β} {kr : ρ → Option β} {y : β} (h : flk (.ret r) kn kr = some y) : kr r = some y := h
theorem flk_nx {ρ σ β : Type} {s : σ} {kn : σ → Option β} {kr : ρ → Option β} {y : β} (h : flk (.nx s) kn kr = some y) : kn s = some y := h
theorem foldO_some {α σ : Type} {f : σ → α → Option σ} {s z : σ} {x : α} {r : List α} (h : foldO f s (x :: r) = some z) : ∃ y, f s x = some y ∧ foldO f y r = some z := bd_some h
theorem foldO_nil {α σ : Type} {f : σ → α → Option σ} {s z : σ} (h : foldO f s [] = some z) : z = s := (Option.some.inj h).symm
theorem foldF_some {α ρ σ : Type} {f : σ → α → Option (Fl ρ σ)} {s : σ} {z : Fl ρ σ} {x : α} {r : List α} (h : foldF f s (x :: r) = some z) : ∃ y, f s x = some y ∧ fstep (fun s' => foldF f s' r) y = some z := by
  obtain ⟨y, h1, h2⟩ := bd_some h
  refine ⟨y, h1, ?_⟩
  cases y <;> exact h2
theorem foldF_nil {α ρ σ : Type} {f : σ → α → Option (Fl ρ σ)} {s : σ} {z : Fl ρ σ} (h : foldF f s [] = some z) : z = .nx s := (Option.some.inj h).symm
theorem whF_some {ρ σ : Type} {f : σ → Option (Fl ρ σ)} {n : Nat} {s : σ} {z : Fl ρ σ} (h : whF f n s = some z) : ∃ m y, n = m + 1 ∧ f s = some y ∧ fstep (whF f m) y = some z := by
  cases n with
  | zero => cases h
  | succ m =>
    obtain ⟨y, h1, h2⟩ := bd_some h
    exact ⟨m, y, rfl, h1, h2⟩
theorem pair_inj {α β : Type} {a c : α} {b d : β} (h : some (a, b) = some (c, d)) : a = c ∧ b = d := Prod.mk.inj (Option.some.inj h)
theorem pair_inj3 {α β γ : Type} {a c : α} {b d : β} {e f : γ} (h : some (a, b, e) = some (c, d, f)) : a = c ∧ b = d ∧ e = f := by
  cases h
  exact ⟨rfl, rfl, rfl⟩
/-- xs.append(x) -/
def app {α : Type} (xs : List α) (x : α) : Option (List α) := if xs.length < 16777216 then some (xs ++ [x]) else none
theorem app_some {α : Type} {xs ys : List α} {x : α} (h : app xs x = some ys) : xs.length < sizeLine ∧ ys = xs ++ [x] := by
  unfold app at h
  by_cases hc : xs.length < 16777216
  · rw [if_pos hc] at h
    exact ⟨by rw [sizeLine_eq]; exact hc, (Option.some.inj h).symm⟩
  · rw [if_neg hc] at h
    cases h
/-- xs + ys -/
def cat {α : Type} (xs ys : List α) : Option (List α) := if xs.length + ys.length ≤ 16777216 then some (xs ++ ys) else none
theorem cat_some {α : Type} {xs ys zs : List α} (h : cat xs ys = some zs) : xs.length + ys.length ≤ sizeLine ∧ zs = xs ++ ys := by
  unfold cat at h
  by_cases hc : xs.length + ys.length ≤ 16777216
  · rw [if_pos hc] at h
    exact ⟨by rw [sizeLine_eq]; exact hc, (Option.some.inj h).symm⟩
  · rw [if_neg hc] at h
    cases h
/-- xs[i] -/
def ix {α : Type} (xs : List α) (i : Int) : Option α := atI xs i
/-- xs[i] = x -/
def stI {α : Type} (xs : List α) (i : Int) (x : α) : Option (List α) := bd (ixN xs.length i) fun j => some (xs.set j x)
instance (i j : Int) : Decidable (CMul i j) := by unfold CMul; infer_instance
def mulO (i j : Int) : Option Int := if CMul i j then some (i * j) else none
theorem mulO_some {i j z : Int} (h : mulO i j = some z) : CMul i j ∧ z = i * j := by
  unfold mulO at h
  by_cases hc : CMul i j
  · rw [if_pos hc] at h
    exact ⟨hc, (Option.some.inj h).symm⟩
  · rw [if_neg hc] at h
    cases h
instance (i j : Int) : Decidable (CDivW i j) := by unfold CDivW; infer_instance
/-- i // j, 0 < j; i % j, 0 < j -/
def divO (i j : Int) : Option Int := if CDivW i j then some (i / j) else none
theorem divO_some {i j z : Int} (h : divO i j = some z) : CDivW i j ∧ z = i / j := by
  unfold divO at h
  by_cases hc : CDivW i j
  · rw [if_pos hc] at h
    exact ⟨hc, (Option.some.inj h).symm⟩
  · rw [if_neg hc] at h
    cases h
def modO (i j : Int) : Option Int := if 0 < j then some (i % j) else none
theorem modO_some {i j z : Int} (h : modO i j = some z) : 0 < j ∧ z = i % j := by
  unfold modO at h
  by_cases hc : 0 < j
  · rw [if_pos hc] at h
    exact ⟨hc, (Option.some.inj h).symm⟩
  · rw [if_neg hc] at h
    cases h
end Z

namespace Z
open PySem PySem.Spec L2
/-! ### what must hold so that code ends as wanted -/
section
variable {X : Cx} {e a b c : Expr} {pos : Pos} {σ : St} {H : Hp}
def We (X : Cx) (e : Expr) (σ : St) (H : Hp) (Q : VK) : Prop := ∀ pins s, Inv X pins σ H s → wpAny (model X.prog X.w) X.A (eval e X.env) (EP X pins σ Q) X.xe s
def Wt (X : Cx) (e : Expr) (σ : St) (H : Hp) (Q : Bool → Hp → Prop) : Prop := ∀ pins s, Inv X pins σ H s → wpAny (model X.prog X.w) X.A (isTrue e X.env (eval e X.env)) (TP X pins σ Q) X.xe s
def Wv (X : Cx) (e : Expr) (σ : St) (H : Hp) (Q : Bool → Hp → Prop) : Prop := ∀ whole pins s, Inv X pins σ H s → wpAny (model X.prog X.w) X.A (isTrue e X.env whole) (TP X pins σ Q) X.xe s
def Wa (X : Cx) (es : List Expr) (σ : St) (H : Hp) (Q : List V → Hp → Prop) : Prop := ∀ pos pins s, Inv X pins σ H s → wpAny (model X.prog X.w) X.A (spliced (backTo pos (starEach es X.env))) (AP X pins σ Q) X.xe s
def W1 (X : Cx) (st : Stmt) (D : Ends) (σ : St) (H : Hp) : Prop := ∀ pins s, Inv X pins σ H s → wpAny (model X.prog X.w) X.A (exec st X.env) (SP X pins D) X.xe s
def Ws (X : Cx) (sts : List Stmt) (D : Ends) (σ : St) (H : Hp) : Prop := ∀ pins s, Inv X pins σ H s → wpAny (model X.prog X.w) X.A (execs sts X.env) (SP X pins D) X.xe s
theorem pe_w : PE X e (We X e) := ⟨fun pins s _ _ _ I h => h pins s I⟩
theorem pt_w : PT X e (Wt X e) := ⟨fun pins s _ _ _ I h => h pins s I⟩
theorem pw_w : PW X e (Wv X e) := ⟨fun wh pins s _ _ _ I h => h wh pins s I⟩
theorem pa_w {es : List Expr} : PA X es (Wa X es) := ⟨fun pos pins s _ _ _ I h => h pos pins s I⟩
theorem ps_w {st : Stmt} : PS X st (W1 X st) := ⟨fun pins s _ _ _ I h => h pins s I⟩
theorem pss_w {sts : List Stmt} : PSs X sts (Ws X sts) := ⟨fun pins s _ _ _ I h => h pins s I⟩
theorem w_pe {t : TE} {Q : VK} (h : PE X e t) (q : t σ H Q) : We X e σ H Q := fun pins s I => h.run pins s σ H Q I q
theorem w_pt {t : TT} {Q : Bool → Hp → Prop} (h : PT X e t) (q : t σ H Q) : Wt X e σ H Q := fun pins s I => h.run pins s σ H Q I q
theorem w_pw {t : TT} {Q : Bool → Hp → Prop} (h : PW X e t) (q : t σ H Q) : Wv X e σ H Q := fun wh pins s I => h.run wh pins s σ H Q I q
theorem w_pa {es : List Expr} {t : TA} {Q : List V → Hp → Prop} (h : PA X es t) (q : t σ H Q) : Wa X es σ H Q := fun pos pins s I => h.run pos pins s σ H Q I q
theorem w_ps {st : Stmt} {t : TS} {D : Ends} (h : PS X st t) (q : t D σ H) : W1 X st D σ H := fun pins s I => h.run pins s σ H D I q
theorem w_pss {sts : List Stmt} {t : TS} {D : Ends} (h : PSs X sts t) (q : t D σ H) : Ws X sts D σ H := fun pins s I => h.run pins s σ H D I q
end

/-! ### triples: from a state that knows F and owns Os, e gives x -/
section
variable {α β γ : Type}
def Ev (X : Cx) (e : Expr) (σ : St) (F : Hp) (Os : Owns) (W : Vw α) (x : α) (Os' : Owns) : Prop :=
  ∀ F1 H, Same F F1 → Wf F1 Os H → ∀ Q : VK, (∀ v F' H', Same F1 F' → Wf F' Os' H' → W.r F' Os' v x → Q v H') → We X e σ H Q
/-- a new object, owned -/
def EvN (X : Cx) (e : Expr) (σ : St) (F : Hp) (Os : Owns) (O : OC) (Os' : Owns) : Prop :=
  ∀ F1 H, Same F F1 → Wf F1 Os H → ∀ Q : VK, (∀ p F' H', Same F1 F' → Wf F' ((p, O) :: Os') H' → Q (.ref p) H') → We X e σ H Q
def Et (X : Cx) (e : Expr) (σ : St) (F : Hp) (Os : Owns) (b : Bool) (Os' : Owns) : Prop :=
  ∀ F1 H, Same F F1 → Wf F1 Os H → ∀ Q : Bool → Hp → Prop, (∀ F' H', Same F1 F' → Wf F' Os' H' → Q b H') → Wt X e σ H Q
def Ew (X : Cx) (e : Expr) (σ : St) (F : Hp) (Os : Owns) (b : Bool) (Os' : Owns) : Prop :=
  ∀ F1 H, Same F F1 → Wf F1 Os H → ∀ Q : Bool → Hp → Prop, (∀ F' H', Same F1 F' → Wf F' Os' H' → Q b H') → Wv X e σ H Q
/-- arguments: what holds of their values -/
def Ea (X : Cx) (es : List Expr) (σ : St) (F : Hp) (Os : Owns) (P : Hp → Owns → List V → Prop) : Prop :=
  ∀ F1 H, Same F F1 → Wf F1 Os H → ∀ Q : List V → Hp → Prop, (∀ vs F' Os' H', Same F1 F' → Wf F' Os' H' → P F' Os' vs → Q vs H') → Wa X es σ H Q
/-- a comparison's answer by values -/
def Cp (X : Cx) (op : CmpOp) (W : Vw α) (U : Vw β) (f : α → β → Bool) : Prop :=
  ∃ r : R2, OpR X (compareOp op) r ∧ ∀ F Os H v u x y (Q : VK), Wf F Os H → W.r F Os v x → U.r F Os u y → Q (.bl (f x y)) H → r v u H Q
end
section
variable {α β γ : Type} {X : Cx} {e a b c : Expr} {pos : Pos} {σ : St} {F F' : Hp} {Os Os1 Os2 Os3 : Owns} {W : Vw α} {U : Vw β} {x x' : α} {y : β} {i j z : Int} {k k' l : Bool}
theorem Ev.go (h : Ev X e σ F Os W x Os1) {F1 H : Hp} (s : Same F F1) (w : Wf F1 Os H) {Q : VK} (k : ∀ v F' H', Same F1 F' → Wf F' Os1 H' → W.r F' Os1 v x → Q v H') : We X e σ H Q := h F1 H s w Q k
theorem EvN.go {O : OC} (h : EvN X e σ F Os O Os1) {F1 H : Hp} (s : Same F F1) (w : Wf F1 Os H) {Q : VK} (k : ∀ p F' H', Same F1 F' → Wf F' ((p, O) :: Os1) H' → Q (.ref p) H') : We X e σ H Q := h F1 H s w Q k
theorem Et.go (h : Et X e σ F Os k Os1) {F1 H : Hp} (s : Same F F1) (w : Wf F1 Os H) {Q : Bool → Hp → Prop} (q : ∀ F' H', Same F1 F' → Wf F' Os1 H' → Q k H') : Wt X e σ H Q := h F1 H s w Q q
theorem Ew.go (h : Ew X e σ F Os k Os1) {F1 H : Hp} (s : Same F F1) (w : Wf F1 Os H) {Q : Bool → Hp → Prop} (q : ∀ F' H', Same F1 F' → Wf F' Os1 H' → Q k H') : Wv X e σ H Q := h F1 H s w Q q
theorem Ea.go {es : List Expr} {P : Hp → Owns → List V → Prop} (h : Ea X es σ F Os P) {F1 H : Hp} (s : Same F F1) (w : Wf F1 Os H) {Q : List V → Hp → Prop} (k : ∀ vs F' Os' H', Same F1 F' → Wf F' Os' H' → P F' Os' vs → Q vs H') : Wa X es σ H Q := h F1 H s w Q k
theorem Ev.eq (h : Ev X e σ F Os W x Os1) (hx : x' = x) : Ev X e σ F Os W x' Os1 := hx ▸ h
theorem Ew.eq (h : Ew X e σ F Os k Os1) (hx : k' = k) : Ew X e σ F Os k' Os1 := hx ▸ h
theorem Et.eq (h : Et X e σ F Os k Os1) (hx : k' = k) : Et X e σ F Os k' Os1 := hx ▸ h
theorem Ev.up (h : Ev X e σ F Os W x Os1) (s : Same F F') : Ev X e σ F' Os W x Os1 := fun F1 H s1 => h F1 H (s.trans s1)
theorem Ev.vw {O : α → OC} (h : Ev X e σ F Os (rOf O).v x Os1) : Ev X e σ F Os (vOf O) x Os1 := fun F1 H s w Q q => h.go s w fun v F2 H2 s2 w2 r2 => q v F2 H2 s2 w2 (vOf.of r2)
theorem Ev.imp {U : Vw α} (h : Ev X e σ F Os W x Os1) (hi : ∀ F v, W.r F Os1 v x → U.r F Os1 v x) : Ev X e σ F Os U x Os1 := fun F1 H s w Q q => h.go s w fun v F2 H2 s2 w2 r2 => q v F2 H2 s2 w2 (hi _ _ r2)
/-- what is new may be frozen at once -/
theorem EvN.fz {O : α → OC} (h : EvN X e σ F Os (O x) Os1) : Ev X e σ F Os (rOf O).v x Os1 := fun F1 H s w Q q => h.go s w fun p F2 H2 s2 w2 => by
  obtain ⟨o, h1, h2, h3⟩ := w2.fz (i := 0) rfl
  exact q (.ref p) _ H2 (s2.trans h2) h3 ⟨p, o, rfl, upd_same, h1⟩
theorem EvN.eq {O O' : OC} (h : EvN X e σ F Os O Os1) (hx : O' = O) : EvN X e σ F Os O' Os1 := hx ▸ h
theorem EvN.eqO {O : α → OC} (h : EvN X e σ F Os (O x) Os1) (hx : x' = x) : EvN X e σ F Os (O x') Os1 := hx ▸ h
/-- a name in slot n -/
theorem ev_var {n : Nat} {nm : Str} {v : V} (hv : σ[n]? = some (some v)) (hr : W.r F Os v x) (hN : X.N[n]? = some nm := by rfl) (hV : Vis X.env.scope nm := by first | exact Or.inl rfl | exact Or.inr (Or.inl rfl) | exact Or.inr (Or.inr rfl)) (hd : (nm == ("__debug__" : Str)) = false := by decide)
    (hcd : (nm == ("__classdict__" : Str)) = false := by decide) : Ev X (.Name nm pos) σ F Os W x Os := fun F1 H s w Q q =>
  w_pe (pe_var hN hV hd hcd) ⟨v, hv, q v F1 H (Same.refl _) w (W.mono s hr)⟩
theorem ev_int {m : Nat} : Ev X (.Constant (.int i) m pos) σ F Os rInt.v i Os := fun F1 H s w Q q => w_pe pe_int (q _ F1 H (Same.refl _) w rfl)
theorem ev_bool {m : Nat} : Ev X (.Constant (.bool k) m pos) σ F Os rBool.v k Os := fun F1 H s w Q q => w_pe pe_bl (q _ F1 H (Same.refl _) w rfl)
theorem ev_str {m : Nat} {t : Str} : Ev X (.Constant (.str t) m pos) σ F Os rStr.v t Os := fun F1 H s w Q q => w_pe pe_str (q _ F1 H (Same.refl _) w rfl)
theorem ev_none {m : Nat} : Ev X (.Constant .none m pos) σ F Os rNone.v () Os := fun F1 H s w Q q => w_pe pe_non (q _ F1 H (Same.refl _) w rfl)
theorem ev_opt {R : Rep α} (h : Ev X e σ F Os R.v x Os1) (hn : ∀ F v, R.r F v x → v ≠ .non) : Ev X e σ F Os (rOpt R).v (some x) Os1 := fun F1 H s w Q q => h.go s w fun v F2 H2 s2 w2 r2 => q v F2 H2 s2 w2 ⟨r2, hn F2 v r2⟩
theorem ev_optN {R : Rep α} (h : Ev X e σ F Os rNone.v () Os1) : Ev X e σ F Os (rOpt R).v none Os1 := fun F1 H s w Q q => h.go s w fun v F2 H2 s2 w2 r2 => q v F2 H2 s2 w2 r2
/-! arithmetic -/
theorem ev_add (ha : Ev X a σ F Os rInt.v i Os1) (hb : Ev X b σ F Os1 rInt.v j Os2) : Ev X (.BinOp a .Add b pos) σ F Os rInt.v (i + j) Os2 := fun F1 H s w Q q =>
  w_pe (pe_op op_add pe_w pe_w) (ha.go s w fun v F2 H2 s2 w2 r2 => hb.go (s.trans s2) w2 fun u F3 H3 s3 w3 r3 => ⟨i, j, r2, r3, q _ F3 H3 (s2.trans s3) w3 rfl⟩)
theorem ev_sub (ha : Ev X a σ F Os rInt.v i Os1) (hb : Ev X b σ F Os1 rInt.v j Os2) : Ev X (.BinOp a .Sub b pos) σ F Os rInt.v (i - j) Os2 := fun F1 H s w Q q =>
  w_pe (pe_op op_sub pe_w pe_w) (ha.go s w fun v F2 H2 s2 w2 r2 => hb.go (s.trans s2) w2 fun u F3 H3 s3 w3 r3 => ⟨i, j, r2, r3, q _ F3 H3 (s2.trans s3) w3 rfl⟩)
theorem ev_mul (ha : Ev X a σ F Os rInt.v i Os1) (hb : Ev X b σ F Os1 rInt.v j Os2) (hc : CMul i j) : Ev X (.BinOp a .Mult b pos) σ F Os rInt.v (i * j) Os2 := fun F1 H s w Q q =>
  w_pe (pe_op op_mul pe_w pe_w) (ha.go s w fun v F2 H2 s2 w2 r2 => hb.go (s.trans s2) w2 fun u F3 H3 s3 w3 r3 => ⟨i, j, r2, r3, hc, q _ F3 H3 (s2.trans s3) w3 rfl⟩)
theorem ev_mulO (h : mulO i j = some z) (ha : Ev X a σ F Os rInt.v i Os1) (hb : Ev X b σ F Os1 rInt.v j Os2) : Ev X (.BinOp a .Mult b pos) σ F Os rInt.v z Os2 := (ev_mul ha hb (mulO_some h).1).eq (mulO_some h).2
theorem ev_div (ha : Ev X a σ F Os rInt.v i Os1) (hb : Ev X b σ F Os1 rInt.v j Os2) (hc : CDivW i j) : Ev X (.BinOp a .FloorDiv b pos) σ F Os rInt.v (i / j) Os2 := fun F1 H s w Q q =>
  w_pe (pe_op op_fdivW pe_w pe_w) (ha.go s w fun v F2 H2 s2 w2 r2 => hb.go (s.trans s2) w2 fun u F3 H3 s3 w3 r3 => ⟨i, j, r2, r3, hc, q _ F3 H3 (s2.trans s3) w3 rfl⟩)
theorem ev_divO (h : divO i j = some z) (ha : Ev X a σ F Os rInt.v i Os1) (hb : Ev X b σ F Os1 rInt.v j Os2) : Ev X (.BinOp a .FloorDiv b pos) σ F Os rInt.v z Os2 := (ev_div ha hb (divO_some h).1).eq (divO_some h).2
theorem ev_mod (ha : Ev X a σ F Os rInt.v i Os1) (hb : Ev X b σ F Os1 rInt.v j Os2) (hc : 0 < j) : Ev X (.BinOp a .Mod b pos) σ F Os rInt.v (i % j) Os2 := fun F1 H s w Q q =>
  w_pe (pe_op op_mod pe_w pe_w) (ha.go s w fun v F2 H2 s2 w2 r2 => hb.go (s.trans s2) w2 fun u F3 H3 s3 w3 r3 => ⟨i, j, r2, r3, hc, q _ F3 H3 (s2.trans s3) w3 rfl⟩)
theorem ev_modO (h : modO i j = some z) (ha : Ev X a σ F Os rInt.v i Os1) (hb : Ev X b σ F Os1 rInt.v j Os2) : Ev X (.BinOp a .Mod b pos) σ F Os rInt.v z Os2 := (ev_mod ha hb (modO_some h).1).eq (modO_some h).2
theorem ev_pow (ha : Ev X a σ F Os rInt.v i Os1) (hb : Ev X b σ F Os1 rInt.v j Os2) (hc : CPow i j) : Ev X (.BinOp a .Pow b pos) σ F Os rInt.v (i ^ j.toNat) Os2 := fun F1 H s w Q q =>
  w_pe (pe_op op_pow pe_w pe_w) (ha.go s w fun v F2 H2 s2 w2 r2 => hb.go (s.trans s2) w2 fun u F3 H3 s3 w3 r3 => ⟨i, j, r2, r3, hc, q _ F3 H3 (s2.trans s3) w3 rfl⟩)
theorem ev_neg (ha : Ev X a σ F Os rInt.v i Os1) : Ev X (.UnaryOp .USub a pos) σ F Os rInt.v (-i) Os1 := fun F1 H s w Q q =>
  w_pe (pe_un un_neg pe_w) (ha.go s w fun v F2 H2 s2 w2 r2 => ⟨i, r2, q _ F2 H2 s2 w2 rfl⟩)
/-! comparisons -/
theorem cp_lt : Cp X .Lt rInt.v rInt.v (fun i j => decide (i < j)) := ⟨_, op_lt, fun _ _ _ _ _ x y _ _ r1 r2 q => ⟨x, y, r1, r2, q⟩⟩
theorem cp_le : Cp X .LtE rInt.v rInt.v (fun i j => decide (i ≤ j)) := ⟨_, op_le, fun _ _ _ _ _ x y _ _ r1 r2 q => ⟨x, y, r1, r2, q⟩⟩
theorem cp_gt : Cp X .Gt rInt.v rInt.v (fun i j => decide (j < i)) := ⟨_, op_gt, fun _ _ _ _ _ x y _ _ r1 r2 q => ⟨x, y, r1, r2, q⟩⟩
theorem cp_ge : Cp X .GtE rInt.v rInt.v (fun i j => decide (j ≤ i)) := ⟨_, op_ge, fun _ _ _ _ _ x y _ _ r1 r2 q => ⟨x, y, r1, r2, q⟩⟩
theorem cp_eq : Cp X .Eq rInt.v rInt.v (fun i j => decide (i = j)) := ⟨_, op_eq, fun _ _ _ _ _ x y Q _ r1 r2 q => by
  cases (show _ = V.int x from r1); cases (show _ = V.int y from r2)
  refine ⟨rfl, ?_⟩
  rw [dec_int]
  have q : Q (V.bl (decide (x = y))) _ := q
  rwa [show decide (x = y) = (x == y) by rw [Bool.beq_eq_decide_eq]] at q⟩
theorem cp_ne : Cp X .NotEq rInt.v rInt.v (fun i j => decide (i ≠ j)) := ⟨_, op_ne, fun _ _ _ _ _ x y Q _ r1 r2 q => by
  cases (show _ = V.int x from r1); cases (show _ = V.int y from r2)
  refine ⟨rfl, ?_⟩
  rw [dec_int]
  have q : Q (V.bl (decide (x ≠ y))) _ := q
  rwa [show decide (x ≠ y) = !(x == y) by rw [Bool.beq_eq_decide_eq, decide_not]] at q⟩
/-- the left one of what never changes -/
theorem ev_cmp {op : CmpOp} {R : Rep α} {f : α → β → Bool} (hc : Cp X op R.v U f) (ha : Ev X a σ F Os R.v x Os1) (hb : Ev X b σ F Os1 U y Os2) (hm : behindInMarks op b = false := by exact nomark _) : Ev X (.Compare a [op] [b] pos) σ F Os rBool.v (f x y) Os2 := fun F1 H s w Q q => by
  obtain ⟨r, ho, hr⟩ := hc
  exact w_pe (pe_cmpR ho pe_w pe_w hm) (ha.go s w fun v F2 H2 s2 w2 r2 => hb.go (s.trans s2) w2 fun u F3 H3 s3 w3 r3 => hr F3 Os2 H3 v u x y Q w3 (R.mono s3 r2) r3 (q _ F3 H3 (s2.trans s3) w3 rfl))
theorem et_cmp {op : CmpOp} {R : Rep α} {f : α → β → Bool} (hc : Cp X op R.v U f) (ha : Ev X a σ F Os R.v x Os1) (hb : Ev X b σ F Os1 U y Os2) (hm : behindInMarks op b = false := by exact nomark _) : Et X (.Compare a [op] [b] pos) σ F Os (f x y) Os2 := fun F1 H s w Q q => by
  obtain ⟨r, ho, hr⟩ := hc
  exact w_pt (pt_cmpR ho pe_w pe_w hm) (ha.go s w fun v F2 H2 s2 w2 r2 => hb.go (s.trans s2) w2 fun u F3 H3 s3 w3 r3 => hr F3 Os2 H3 v u x y _ w3 (R.mono s3 r2) r3 ⟨_, rfl, q F3 H3 (s2.trans s3) w3⟩)
/-- the right one owns what it owned -/
theorem ev_cmpV {op : CmpOp} {f : α → β → Bool} (hc : Cp X op W U f) (ha : Ev X a σ F Os W x Os1) (hb : Ev X b σ F Os1 U y Os1) (hm : behindInMarks op b = false := by exact nomark _) : Ev X (.Compare a [op] [b] pos) σ F Os rBool.v (f x y) Os1 := fun F1 H s w Q q => by
  obtain ⟨r, ho, hr⟩ := hc
  exact w_pe (pe_cmpR ho pe_w pe_w hm) (ha.go s w fun v F2 H2 s2 w2 r2 => hb.go (s.trans s2) w2 fun u F3 H3 s3 w3 r3 => hr F3 Os1 H3 v u x y Q w3 (W.mono s3 r2) r3 (q _ F3 H3 (s2.trans s3) w3 rfl))
theorem et_cmpV {op : CmpOp} {f : α → β → Bool} (hc : Cp X op W U f) (ha : Ev X a σ F Os W x Os1) (hb : Ev X b σ F Os1 U y Os1) (hm : behindInMarks op b = false := by exact nomark _) : Et X (.Compare a [op] [b] pos) σ F Os (f x y) Os1 := fun F1 H s w Q q => by
  obtain ⟨r, ho, hr⟩ := hc
  exact w_pt (pt_cmpR ho pe_w pe_w hm) (ha.go s w fun v F2 H2 s2 w2 r2 => hb.go (s.trans s2) w2 fun u F3 H3 s3 w3 r3 => hr F3 Os1 H3 v u x y _ w3 (W.mono s3 r2) r3 ⟨_, rfl, q F3 H3 (s2.trans s3) w3⟩)
/-! tests -/
theorem et_val (h : Ev X e σ F Os rBool.v k Os1) (he : ∀ whole, isTrue e X.env whole = (do let v ← whole; standAt e.pos; holding [v] (truthy v)) := by intro _; rfl) : Et X e σ F Os k Os1 := fun F1 H s w Q q =>
  w_pt (pt_val pe_w he) (h.go s w fun v F2 H2 s2 w2 r2 => ⟨k, r2, q F2 H2 s2 w2⟩)
theorem et_not (h : Et X e σ F Os k Os1) : Et X (.UnaryOp .Not e pos) σ F Os (!k) Os1 := fun F1 H s w Q q =>
  w_pt (pt_not pt_w) (h.go s w fun F2 H2 s2 w2 => q F2 H2 s2 w2)
theorem ew_and1 (h : Et X a σ F Os k Os1) : Ew X (.BoolOp .And [a] pos) σ F Os k Os1 := fun F1 H s w Q q => w_pw (pw_and1 pt_w) (h F1 H s w _ q)
theorem ew_or1 (h : Et X a σ F Os k Os1) : Ew X (.BoolOp .Or [a] pos) σ F Os k Os1 := fun F1 H s w Q q => w_pw (pw_or1 pt_w) (h F1 H s w _ q)
/-- a and rest: rest is asked where a holds -/
theorem ew_andG {es : List Expr} (ha : Et X a σ F Os k Os1) (hb : k = true → Ew X (.BoolOp .And (b :: es) pos) σ F Os1 l Os1) (hf : k = false → l = false) : Ew X (.BoolOp .And (a :: b :: es) pos) σ F Os l Os1 := fun F1 H s w Q q =>
  w_pw (pw_and pt_w pw_w) (ha.go s w fun F2 H2 s2 w2 => by
    cases k with
    | true => exact (hb rfl).go (s.trans s2) w2 fun F3 H3 s3 w3 => q F3 H3 (s2.trans s3) w3
    | false =>
      cases hf rfl
      exact q F2 H2 s2 w2)
theorem ew_and {es : List Expr} (ha : Et X a σ F Os k Os1) (hb : Ew X (.BoolOp .And (b :: es) pos) σ F Os1 l Os1) : Ew X (.BoolOp .And (a :: b :: es) pos) σ F Os (k && l) Os1 := ew_andG ha (fun h => by subst h; exact hb) fun h => by subst h; rfl
theorem ew_orG {es : List Expr} (ha : Et X a σ F Os k Os1) (hb : k = false → Ew X (.BoolOp .Or (b :: es) pos) σ F Os1 l Os1) (hf : k = true → l = true) : Ew X (.BoolOp .Or (a :: b :: es) pos) σ F Os l Os1 := fun F1 H s w Q q =>
  w_pw (pw_or pt_w pw_w) (ha.go s w fun F2 H2 s2 w2 => by
    cases k with
    | false => exact (hb rfl).go (s.trans s2) w2 fun F3 H3 s3 w3 => q F3 H3 (s2.trans s3) w3
    | true =>
      cases hf rfl
      exact q F2 H2 s2 w2)
theorem ew_or {es : List Expr} (ha : Et X a σ F Os k Os1) (hb : Ew X (.BoolOp .Or (b :: es) pos) σ F Os1 l Os1) : Ew X (.BoolOp .Or (a :: b :: es) pos) σ F Os (k || l) Os1 := ew_orG ha (fun h => by subst h; exact hb) fun h => by subst h; rfl
theorem et_w (h : Ew X e σ F Os k Os1) : Et X e σ F Os k Os1 := fun F1 H s w Q q => w_pt (PW.pt pw_w) (h F1 H s w Q q)
/-! tests as values -/
theorem ev_not (h : Ev X e σ F Os rBool.v k Os1) : Ev X (.UnaryOp .Not e pos) σ F Os rBool.v (!k) Os1 := fun F1 H s w Q q =>
  w_pe (pe_not pe_w) (h.go s w fun v F2 H2 s2 w2 r2 => ⟨k, r2, q _ F2 H2 s2 w2 rfl⟩)
theorem ev_one {op} (h : Ev X a σ F Os W x Os1) : Ev X (.BoolOp op [a] pos) σ F Os W x Os1 := fun F1 H s w Q q => w_pe (pe_one pe_w) (h F1 H s w Q q)
theorem ev_andG {es : List Expr} (ha : Ev X a σ F Os rBool.v k Os1) (hb : k = true → Ev X (.BoolOp .And (b :: es) pos) σ F Os1 rBool.v l Os1) (hf : k = false → l = false) : Ev X (.BoolOp .And (a :: b :: es) pos) σ F Os rBool.v l Os1 := fun F1 H s w Q q =>
  w_pe (pe_and pe_w pe_w) (ha.go s w fun v F2 H2 s2 w2 r2 => ⟨k, r2, by
    cases k with
    | true => exact (hb rfl).go (s.trans s2) w2 fun v F3 H3 s3 w3 r3 => q v F3 H3 (s2.trans s3) w3 r3
    | false =>
      cases hf rfl
      exact q _ F2 H2 s2 w2 rfl⟩)
theorem ev_and {es : List Expr} (ha : Ev X a σ F Os rBool.v k Os1) (hb : Ev X (.BoolOp .And (b :: es) pos) σ F Os1 rBool.v l Os1) : Ev X (.BoolOp .And (a :: b :: es) pos) σ F Os rBool.v (k && l) Os1 := ev_andG ha (fun h => by subst h; exact hb) fun h => by subst h; rfl
theorem ev_orG {es : List Expr} (ha : Ev X a σ F Os rBool.v k Os1) (hb : k = false → Ev X (.BoolOp .Or (b :: es) pos) σ F Os1 rBool.v l Os1) (hf : k = true → l = true) : Ev X (.BoolOp .Or (a :: b :: es) pos) σ F Os rBool.v l Os1 := fun F1 H s w Q q =>
  w_pe (pe_or pe_w pe_w) (ha.go s w fun v F2 H2 s2 w2 r2 => ⟨k, r2, by
    cases k with
    | false => exact (hb rfl).go (s.trans s2) w2 fun v F3 H3 s3 w3 r3 => q v F3 H3 (s2.trans s3) w3 r3
    | true =>
      cases hf rfl
      exact q _ F2 H2 s2 w2 rfl⟩)
theorem ev_or {es : List Expr} (ha : Ev X a σ F Os rBool.v k Os1) (hb : Ev X (.BoolOp .Or (b :: es) pos) σ F Os1 rBool.v l Os1) : Ev X (.BoolOp .Or (a :: b :: es) pos) σ F Os rBool.v (k || l) Os1 := ev_orG ha (fun h => by subst h; exact hb) fun h => by subst h; rfl
theorem ev_ifG (hc : Et X c σ F Os k Os1) (ha : k = true → Ev X a σ F Os1 W x Os2) (hb : k = false → Ev X b σ F Os1 W x Os2) : Ev X (.IfExp c a b pos) σ F Os W x Os2 := fun F1 H s w Q q =>
  w_pe (pe_ifExp pt_w pe_w pe_w) (hc.go s w fun F2 H2 s2 w2 => by
    cases k with
    | true => exact (ha rfl).go (s.trans s2) w2 fun v F3 H3 s3 w3 r3 => q v F3 H3 (s2.trans s3) w3 r3
    | false => exact (hb rfl).go (s.trans s2) w2 fun v F3 H3 s3 w3 r3 => q v F3 H3 (s2.trans s3) w3 r3)
theorem ev_if (hc : Et X c σ F Os k Os1) (ha : Ev X a σ F Os1 W x Os2) (hb : Ev X b σ F Os1 W x' Os2) : Ev X (.IfExp c a b pos) σ F Os W (if k = true then x else x') Os2 :=
  ev_ifG hc (fun h => by subst h; exact ha) fun h => by subst h; exact hb
end
end Z

namespace Z
open PySem PySem.Spec L2
section
variable {α β γ : Type} {X : Cx} {e a b c it : Expr} {es : List Expr} {pos p1 p2 : Pos} {σ : St} {F F' H : Hp} {Os Os1 Os2 Os3 : Owns} {W : Vw α} {U : Vw β} {R : Rep α} {S : Rep β} {T : Rep γ} {x x' : α} {y : β} {z : γ} {i j : Int} {k k' l : Bool} {xs ys zs : List α} {D : Ends} {rest body : List Stmt} {n m : Nat} {nm : Str} {v : V}
/-! ### arguments -/
/-- no more arguments; owned are Os -/
def PN (Os : Owns) : Hp → Owns → List V → Prop := fun _ Os' vs => Os' = Os ∧ vs = []
def PC1 (R : Rep α) (x : α) (P : Hp → Owns → List V → Prop) : Hp → Owns → List V → Prop := fun F Os vs => ∃ v r, vs = v :: r ∧ R.r F v x ∧ P F Os r
/-- a new object, owned from here on -/
def PCN (P : Addr → Hp → Owns → List V → Prop) : Hp → Owns → List V → Prop := fun F Os vs => ∃ p r, vs = .ref p :: r ∧ P p F Os r
theorem ea_nil : Ea X [] σ F Os (PN Os) := fun F1 H s w Q q => w_pa pa_nil (q [] F1 Os H (Same.refl _) w ⟨rfl, rfl⟩)
theorem ea_cons {P : Hp → Owns → List V → Prop} (h : Ev X e σ F Os R.v x Os1) (hr : Ea X es σ F Os1 P) (hs : starEach (e :: es) X.env = (false, eval e X.env) :: starEach es X.env := by rfl) : Ea X (e :: es) σ F Os (PC1 R x P) := fun F1 H s w Q q =>
  w_pa (pa_cons pe_w pa_w hs) (h.go s w fun v F2 H2 s2 w2 r2 => hr.go (s.trans s2) w2 fun vs F3 Os3 H3 s3 w3 r3 => q (v :: vs) F3 Os3 H3 (s2.trans s3) w3 ⟨v, vs, rfl, R.mono s3 r2, r3⟩)
theorem ea_new {O : OC} {P : Addr → Hp → Owns → List V → Prop} (h : EvN X e σ F Os O Os1) (hr : ∀ p, Ea X es σ F ((p, O) :: Os1) (P p)) (hs : starEach (e :: es) X.env = (false, eval e X.env) :: starEach es X.env := by rfl) : Ea X (e :: es) σ F Os (PCN P) := fun F1 H s w Q q =>
  w_pa (pa_cons pe_w pa_w hs) (h.go s w fun p F2 H2 s2 w2 => (hr p).go (s.trans s2) w2 fun vs F3 Os3 H3 s3 w3 r3 => q (.ref p :: vs) F3 Os3 H3 (s2.trans s3) w3 ⟨p, vs, rfl, r3⟩)
/-! ### displays -/
theorem ev_tup2 {x1 : Nat} (ea : Ea X [a, b] σ F Os (PC1 R x (PC1 S y (PN Os2)))) : Ev X (.Tuple [a, b] x1 pos) σ F Os (rT2 R S).v (x, y) Os2 := fun F1 H s w Q q =>
  w_pe (pe_tup pa_w) (ea.go s w fun vs F2 Os' H2 s2 w2 ⟨v1, _, e1, r1, v2, _, e2, r2, e0, e3⟩ => by
    cases e1; cases e2; cases e3; cases e0
    refine ⟨(show 2 ≤ sizeLine by rw [sizeLine_eq]; decide), fun p hp => ?_⟩
    exact q _ _ _ (s2.trans (w2.frozS hp)) (w2.froz hp) ⟨p, v1, v2, rfl, upd_same, R.mono (w2.frozS hp) r1, S.mono (w2.frozS hp) r2⟩)
theorem ev_tup3 {x1 : Nat} (ea : Ea X [a, b, c] σ F Os (PC1 R x (PC1 S y (PC1 T z (PN Os2))))) : Ev X (.Tuple [a, b, c] x1 pos) σ F Os (rT3 R S T).v (x, y, z) Os2 := fun F1 H s w Q q =>
  w_pe (pe_tup pa_w) (ea.go s w fun vs F2 Os' H2 s2 w2 ⟨v1, _, e1, r1, v2, _, e2, r2, v3, _, e3, r3, e0, e4⟩ => by
    cases e1; cases e2; cases e3; cases e4; cases e0
    refine ⟨(show 3 ≤ sizeLine by rw [sizeLine_eq]; decide), fun p hp => ?_⟩
    exact q _ _ _ (s2.trans (w2.frozS hp)) (w2.froz hp) ⟨p, v1, v2, v3, rfl, upd_same, R.mono (w2.frozS hp) r1, S.mono (w2.frozS hp) r2, T.mono (w2.frozS hp) r3⟩)
/-- items alike -/
def PL (R : Rep α) (xs : List α) (Os : Owns) : Hp → Owns → List V → Prop := fun F Os' vs => Os' = Os ∧ Paired (R.r F) vs xs
theorem el_nil : Ea X [] σ F Os (PL R [] Os) := fun F1 H s w Q q => w_pa pa_nil (q [] F1 Os H (Same.refl _) w ⟨rfl, .nil⟩)
theorem el_cons (h : Ev X e σ F Os R.v x Os1) (hr : Ea X es σ F Os1 (PL R xs Os2)) (hs : starEach (e :: es) X.env = (false, eval e X.env) :: starEach es X.env := by rfl) : Ea X (e :: es) σ F Os (PL R (x :: xs) Os2) := fun F1 H s w Q q =>
  w_pa (pa_cons pe_w pa_w hs) (h.go s w fun v F2 H2 s2 w2 r2 => hr.go (s.trans s2) w2 fun vs F3 Os3 H3 s3 w3 r3 => q (v :: vs) F3 Os3 H3 (s2.trans s3) w3 ⟨r3.1, .cons (R.mono s3 r2) r3.2⟩)
theorem evn_list (h : Ea X es σ F Os (PL R xs Os1)) (hz : xs.length ≤ 16777216 := by exact (by decide : _ ≤ 16777216)) : EvN X (.List es pos) σ F Os (oList R xs) Os1 := fun F1 H s w Q q =>
  w_pe (pe_lst pa_w) (h.go s w fun vs F2 Os' H2 s2 w2 ⟨e0, r2⟩ => ⟨by rw [sizeLine_eq, r2.length]; exact hz, fun p hp => by
    cases e0
    exact q p F2 _ s2 (w2.new hp ⟨vs, rfl, r2⟩)⟩)
theorem ev_vtup {x1 : Nat} (h : Ea X es σ F Os (PL R xs Os1)) (hz : xs.length ≤ 16777216 := by exact (by decide : _ ≤ 16777216)) : Ev X (.Tuple es x1 pos) σ F Os (rTup R).v xs Os1 := fun F1 H s w Q q =>
  w_pe (pe_tup pa_w) (h.go s w fun vs F2 Os' H2 s2 w2 ⟨e0, r2⟩ => ⟨by rw [sizeLine_eq, r2.length]; exact hz, fun p hp => by
    cases e0
    exact q _ _ _ (s2.trans (w2.frozS hp)) (w2.froz hp) ⟨p, vs, rfl, upd_same, paired_mono (fun _ _ t => R.mono (w2.frozS hp) t) r2⟩⟩)
/-! ### items -/
theorem atI_paired {β : Type} {Q : V → β → Prop} {vs : List V} {ys : List β} {y : β} (h : Paired Q vs ys) (e : atI ys i = some y) : ∃ u, atI vs i = some u ∧ Q u y := by
  unfold atI at e ⊢
  rw [h.length]
  cases h1 : ixN ys.length i with
  | none => rw [h1] at e; cases e
  | some j =>
    rw [h1] at e
    exact paired_get h e
theorem ev_ixL (h : ix xs i = some x) (ha : Ev X a σ F Os (vList R) xs Os1) (hb : Ev X b σ F Os1 rInt.v i Os1) (hp : PlainIx b := by exact (fun _ _ => rfl)) : Ev X (.Subscript a b pos) σ F Os R.v x Os1 := fun F1 H s w Q q =>
  w_pe (pe_ix ix_list pe_w pe_w hp) (ha.go s w fun v F2 H2 s2 w2 r2 => hb.go (s.trans s2) w2 fun u F3 H3 s3 w3 r3 => by
    obtain ⟨p, o, e1, h1, vs, e2, h2⟩ := vOf.get w3 ((vOf (oList R)).mono s3 r2)
    cases e2
    obtain ⟨t, g1, g2⟩ := atI_paired h2 h
    exact ⟨p, vs, i, t, e1, r3, .of h1, g1, q t F3 H3 (s2.trans s3) w3 g2⟩)
theorem ev_ixV (h : ix xs i = some x) (ha : Ev X a σ F Os (rTup R).v xs Os1) (hb : Ev X b σ F Os1 rInt.v i Os2) (hp : PlainIx b := by exact (fun _ _ => rfl)) : Ev X (.Subscript a b pos) σ F Os R.v x Os2 := fun F1 H s w Q q =>
  w_pe (pe_ix ix_tup pe_w pe_w hp) (ha.go s w fun v F2 H2 s2 w2 r2 => hb.go (s.trans s2) w2 fun u F3 H3 s3 w3 r3 => by
    obtain ⟨p, vs, e1, h1, h2⟩ := (rTup R).mono s3 r2
    obtain ⟨t, g1, g2⟩ := atI_paired h2 h
    exact ⟨p, vs, i, t, e1, r3, .of (w3.sub _ _ h1), g1, q t F3 H3 (s2.trans s3) w3 g2⟩)
theorem ev_t2a {w2 : α × β} {d : Nat} {p3 : Pos} (ha : Ev X a σ F Os (rT2 R S).v w2 Os1) : Ev X (.Subscript a (.Constant (.int 0) d p3) pos) σ F Os R.v w2.1 Os1 := fun F1 H s w Q q =>
  w_pe (pe_ix ix_tup pe_w pe_int (fun _ _ => rfl)) (ha.go s w fun v F2 H2 s2 w2 r2 => by
    obtain ⟨p, u1, u2, e1, h1, h2, h3⟩ := r2
    exact ⟨p, _, 0, u1, e1, rfl, .of (w2.sub _ _ h1), rfl, q _ F2 H2 s2 w2 h2⟩)
theorem ev_t2b {w2 : α × β} {d : Nat} {p3 : Pos} (ha : Ev X a σ F Os (rT2 R S).v w2 Os1) : Ev X (.Subscript a (.Constant (.int 1) d p3) pos) σ F Os S.v w2.2 Os1 := fun F1 H s w Q q =>
  w_pe (pe_ix ix_tup pe_w pe_int (fun _ _ => rfl)) (ha.go s w fun v F2 H2 s2 w2 r2 => by
    obtain ⟨p, u1, u2, e1, h1, h2, h3⟩ := r2
    exact ⟨p, _, 1, u2, e1, rfl, .of (w2.sub _ _ h1), rfl, q _ F2 H2 s2 w2 h3⟩)
theorem ev_t3a {w2 : α × β × γ} {d : Nat} {p3 : Pos} (ha : Ev X a σ F Os (rT3 R S T).v w2 Os1) : Ev X (.Subscript a (.Constant (.int 0) d p3) pos) σ F Os R.v w2.1 Os1 := fun F1 H s w Q q =>
  w_pe (pe_ix ix_tup pe_w pe_int (fun _ _ => rfl)) (ha.go s w fun v F2 H2 s2 w2 r2 => by
    obtain ⟨p, u1, u2, u3, e1, h1, h2, h3, h4⟩ := r2
    exact ⟨p, _, 0, u1, e1, rfl, .of (w2.sub _ _ h1), rfl, q _ F2 H2 s2 w2 h2⟩)
theorem ev_t3b {w2 : α × β × γ} {d : Nat} {p3 : Pos} (ha : Ev X a σ F Os (rT3 R S T).v w2 Os1) : Ev X (.Subscript a (.Constant (.int 1) d p3) pos) σ F Os S.v w2.2.1 Os1 := fun F1 H s w Q q =>
  w_pe (pe_ix ix_tup pe_w pe_int (fun _ _ => rfl)) (ha.go s w fun v F2 H2 s2 w2 r2 => by
    obtain ⟨p, u1, u2, u3, e1, h1, h2, h3, h4⟩ := r2
    exact ⟨p, _, 1, u2, e1, rfl, .of (w2.sub _ _ h1), rfl, q _ F2 H2 s2 w2 h3⟩)
theorem ev_t3c {w2 : α × β × γ} {d : Nat} {p3 : Pos} (ha : Ev X a σ F Os (rT3 R S T).v w2 Os1) : Ev X (.Subscript a (.Constant (.int 2) d p3) pos) σ F Os T.v w2.2.2 Os1 := fun F1 H s w Q q =>
  w_pe (pe_ix ix_tup pe_w pe_int (fun _ _ => rfl)) (ha.go s w fun v F2 H2 s2 w2 r2 => by
    obtain ⟨p, u1, u2, u3, e1, h1, h2, h3, h4⟩ := r2
    exact ⟨p, _, 2, u3, e1, rfl, .of (w2.sub _ _ h1), rfl, q _ F2 H2 s2 w2 h4⟩)
theorem sqL_mono {K : PySem.W.Frag} {F H : Hp} {Os : Owns} {p : Addr} {vs : List V} (w : Wf F Os H) (h : SqL K F p vs) : SqL K H p vs := Same.seq w.sub h
theorem ev_ixS {xs : List Int} {x : Int} (h : ix xs i = some x) (ha : Ev X a σ F Os (rScr X.K).v xs Os1) (hb : Ev X b σ F Os1 rInt.v i Os2) (hp : PlainIx b := by exact (fun _ _ => rfl)) : Ev X (.Subscript a b pos) σ F Os rInt.v x Os2 := fun F1 H s w Q q =>
  w_pe (pe_ix ix_list pe_w pe_w hp) (ha.go s w fun v F2 H2 s2 w2 r2 => hb.go (s.trans s2) w2 fun u F3 H3 s3 w3 r3 => by
    obtain ⟨p, e1, h1⟩ := (rScr X.K).mono s3 r2
    refine ⟨p, xs.map V.int, i, .int x, e1, r3, sqL_mono w3 h1, ?_, q _ F3 H3 (s2.trans s3) w3 rfl⟩
    unfold ix atI at h
    unfold atI
    rw [List.length_map]
    cases hj : ixN xs.length i with
    | none => rw [hj] at h; cases h
    | some j =>
      rw [hj] at h
      show (xs.map V.int)[j]? = some (V.int x)
      rw [List.getElem?_map, show xs[j]? = some x from h]
      rfl)
theorem ev_t2tup {w2 : α × α} (h : Ev X e σ F Os (rT2 R R).v w2 Os1) : Ev X e σ F Os (rTup R).v [w2.1, w2.2] Os1 := fun F1 H s w Q q => h.go s w fun v F2 H2 s2 w2 r2 => q v F2 H2 s2 w2 (by
  obtain ⟨p, u1, u2, e1, h1, h2, h3⟩ := r2
  exact ⟨p, _, e1, h1, .cons h2 (.cons h3 .nil)⟩)
theorem ev_t3tup {w2 : α × α × α} (h : Ev X e σ F Os (rT3 R R R).v w2 Os1) : Ev X e σ F Os (rTup R).v [w2.1, w2.2.1, w2.2.2] Os1 := fun F1 H s w Q q => h.go s w fun v F2 H2 s2 w2 r2 => q v F2 H2 s2 w2 (by
  obtain ⟨p, u1, u2, u3, e1, h1, h2, h3, h4⟩ := r2
  exact ⟨p, _, e1, h1, .cons h2 (.cons h3 (.cons h4 .nil))⟩)
/-! ### lists joined -/
theorem evn_cat (h : cat xs ys = some zs) (ha : Ev X a σ F Os (rList R).v xs Os1) (hb : Ev X b σ F Os1 (rList R).v ys Os2) : EvN X (.BinOp a .Add b pos) σ F Os (oList R zs) Os2 := fun F1 H s w Q q =>
  w_pe (pe_op op_cat pe_w pe_w) (ha.go s w fun v F2 H2 s2 w2 r2 => hb.go (s.trans s2) w2 fun u F3 H3 s3 w3 r3 => by
    obtain ⟨h1, rfl⟩ := cat_some h
    obtain ⟨p, o, e1, g1, vs, e2, q1⟩ := (rList R).mono s3 r2
    obtain ⟨p', o', e1', g1', vs', e2', q1'⟩ := r3
    cases e2; cases e2'
    exact ⟨p, p', vs, vs', e1, e1', w3.sub _ _ g1, w3.sub _ _ g1', by rw [q1.length, q1'.length]; exact h1, fun pp hp => q pp F3 _ (s2.trans s3) (w3.new hp ⟨_, rfl, paired_append q1 q1'⟩)⟩)
theorem evn_catV (h : cat xs ys = some zs) (ha : Ev X a σ F Os (vList R) xs Os1) (hb : Ev X b σ F Os1 (vList R) ys Os1) : EvN X (.BinOp a .Add b pos) σ F Os (oList R zs) Os1 := fun F1 H s w Q q =>
  w_pe (pe_op op_cat pe_w pe_w) (ha.go s w fun v F2 H2 s2 w2 r2 => hb.go (s.trans s2) w2 fun u F3 H3 s3 w3 r3 => by
    obtain ⟨h1, rfl⟩ := cat_some h
    obtain ⟨p, o, e1, g1, vs, e2, q1⟩ := vOf.get w3 ((vOf (oList R)).mono s3 r2)
    obtain ⟨p', o', e1', g1', vs', e2', q1'⟩ := vOf.get w3 r3
    cases e2; cases e2'
    exact ⟨p, p', vs, vs', e1, e1', g1, g1', by rw [q1.length, q1'.length]; exact h1, fun pp hp => q pp F3 _ (s2.trans s3) (w3.new hp ⟨_, rfl, paired_append q1 q1'⟩)⟩)
/-! ### built-in functions of one argument -/
theorem ev_cb1 {id : String} {r : List V → Hp → VK → Prop} (hc : CallR X (.builtin id) r) (ha : Ev X a σ F Os W x Os1)
    (hr : ∀ F H v (Q : VK), Wf F Os1 H → W.r F Os1 v x → (∀ u F' H', Same F F' → Wf F' Os2 H' → U.r F' Os2 u y → Q u H') → r [v] H Q)
    (hg : Gl X nm) (hm : X.mg nm = none) (hv : bootBuiltins nm = some (.builtin id)) (hn : nm ≠ "__name__" := by decide) (hdb : (nm == ("__debug__" : Str)) = false := by decide)
    (he : starEach [a] X.env = (false, eval a X.env) :: starEach [] X.env := by rfl) (hpl : (backTo pos (starEach [] X.env)).any (·.1) = false := by rfl) : Ev X (.Call (.Name nm p1) [a] [] pos) σ F Os U y Os2 := fun F1 H s w Q q =>
  w_pe (pe_callB hc hg hm hv (pa_cons pe_w pa_nil he) hn hdb he hpl) (ha.go s w fun v F2 H2 s2 w2 r2 => hr F2 H2 v Q w2 r2 fun u F3 H3 s3 w3 r3 => q u F3 H3 (s2.trans s3) w3 r3)
theorem ev_ct1 {id : String} {r : List V → Hp → VK → Prop} (hc : CallR X (.type id) r) (ha : Ev X a σ F Os W x Os1)
    (hr : ∀ F H v (Q : VK), Wf F Os1 H → W.r F Os1 v x → (∀ u F' H', Same F F' → Wf F' Os2 H' → U.r F' Os2 u y → Q u H') → r [v] H Q)
    (hg : Gl X nm) (hm : X.mg nm = none) (hv : bootBuiltins nm = some (.type id)) (hn : nm ≠ "__name__" := by decide) (hdb : (nm == ("__debug__" : Str)) = false := by decide)
    (he : starEach [a] X.env = (false, eval a X.env) :: starEach [] X.env := by rfl) (hpl : (backTo pos (starEach [] X.env)).any (·.1) = false := by rfl) : Ev X (.Call (.Name nm p1) [a] [] pos) σ F Os U y Os2 := fun F1 H s w Q q =>
  w_pe (pe_callTy hc hg hm hv (pa_cons pe_w pa_nil he) hn hdb he hpl) (ha.go s w fun v F2 H2 s2 w2 r2 => hr F2 H2 v Q w2 r2 fun u F3 H3 s3 w3 r3 => q u F3 H3 (s2.trans s3) w3 r3)
theorem ev_len (ha : Ev X a σ F Os (vList R) xs Os1) (hm : X.mg "len" = none) (hg : Gl X "len" := by rfl) (he : starEach [a] X.env = (false, eval a X.env) :: starEach [] X.env := by rfl) (hpl : (backTo pos (starEach [] X.env)).any (·.1) = false := by rfl) : Ev X (.Call (.Name "len" p1) [a] [] pos) σ F Os rInt.v (xs.length : Int) Os1 :=
  ev_cb1 call_len_seq ha (fun F H v Q w r q => by
    obtain ⟨p, o, e1, h1, vs, e2, h2⟩ := vOf.get w r
    cases e1; cases e2
    exact ⟨p, vs, rfl, .inl (.of h1), by rw [h2.length]; exact q _ F H (Same.refl _) w rfl⟩) hg hm PySem.boot_len (by decide) (by decide) he hpl
theorem ev_lenS {xs : List Int} (ha : Ev X a σ F Os (rScr X.K).v xs Os1) (hm : X.mg "len" = none) (hg : Gl X "len" := by rfl) (he : starEach [a] X.env = (false, eval a X.env) :: starEach [] X.env := by rfl) (hpl : (backTo pos (starEach [] X.env)).any (·.1) = false := by rfl) : Ev X (.Call (.Name "len" p1) [a] [] pos) σ F Os rInt.v (xs.length : Int) Os1 :=
  ev_cb1 call_len_seq ha (fun F H v Q w r q => by
    obtain ⟨p, e1, h1⟩ := r
    cases e1
    exact ⟨p, xs.map V.int, rfl, .inl (sqL_mono w h1), by rw [List.length_map]; exact q _ F H (Same.refl _) w rfl⟩) hg hm PySem.boot_len (by decide) (by decide) he hpl
theorem ev_lenT (ha : Ev X a σ F Os (rTup R).v xs Os1) (hm : X.mg "len" = none) (hg : Gl X "len" := by rfl) (he : starEach [a] X.env = (false, eval a X.env) :: starEach [] X.env := by rfl) (hpl : (backTo pos (starEach [] X.env)).any (·.1) = false := by rfl) : Ev X (.Call (.Name "len" p1) [a] [] pos) σ F Os rInt.v (xs.length : Int) Os1 :=
  ev_cb1 call_len_seq ha (fun F H v Q w r q => by
    obtain ⟨p, vs, e1, h1, h2⟩ := r
    cases e1
    exact ⟨p, vs, rfl, .inr (.of (w.sub _ _ h1)), by rw [h2.length]; exact q _ F H (Same.refl _) w rfl⟩) hg hm PySem.boot_len (by decide) (by decide) he hpl
theorem ev_lenT2 {w2 : α × β} (ha : Ev X a σ F Os (rT2 R S).v w2 Os1) (hm : X.mg "len" = none) (hg : Gl X "len" := by rfl) (he : starEach [a] X.env = (false, eval a X.env) :: starEach [] X.env := by rfl) (hpl : (backTo pos (starEach [] X.env)).any (·.1) = false := by rfl) : Ev X (.Call (.Name "len" p1) [a] [] pos) σ F Os rInt.v 2 Os1 :=
  ev_cb1 call_len_seq ha (fun F H v Q w r q => by
    obtain ⟨p, u1, u2, e1, h1, h2⟩ := r
    cases e1
    exact ⟨p, _, rfl, .inr (.of (w.sub _ _ h1)), q _ F H (Same.refl _) w rfl⟩) hg hm PySem.boot_len (by decide) (by decide) he hpl
theorem ev_intI (ha : Ev X a σ F Os rInt.v i Os1) (hm : X.mg "int" = none) (hg : Gl X "int" := by rfl) (he : starEach [a] X.env = (false, eval a X.env) :: starEach [] X.env := by rfl) (hpl : (backTo pos (starEach [] X.env)).any (·.1) = false := by rfl) : Ev X (.Call (.Name "int" p1) [a] [] pos) σ F Os rInt.v i Os1 :=
  ev_ct1 call_int1 ha (fun F H v Q w r q => .inl ⟨i, by rw [show v = V.int i from r], q _ F H (Same.refl _) w rfl⟩) hg hm (by decide +kernel) (by decide) (by decide) he hpl
theorem ev_intB (ha : Ev X a σ F Os rBool.v k Os1) (hm : X.mg "int" = none) (hg : Gl X "int" := by rfl) (he : starEach [a] X.env = (false, eval a X.env) :: starEach [] X.env := by rfl) (hpl : (backTo pos (starEach [] X.env)).any (·.1) = false := by rfl) : Ev X (.Call (.Name "int" p1) [a] [] pos) σ F Os rInt.v (if k = true then 1 else 0) Os1 :=
  ev_ct1 call_int1 ha (fun F H v Q w r q => .inr ⟨k, by rw [show v = V.bl k from r], q _ F H (Same.refl _) w rfl⟩) hg hm (by decide +kernel) (by decide) (by decide) he hpl
/-! ### isinstance with a built-in class -/
def TyI (W : Vw α) (x : α) (t : String) : Prop := ∀ (K : PySem.W.Frag) F Os H v, Wf F Os H → W.r F Os v x → TyX K H v (.type t)
theorem ty_int : TyI rInt.v i "int" := fun K F Os H v w r => by
  cases (show v = V.int i from r)
  exact .base (.int i)
theorem ty_bool : TyI rBool.v k "bool" := fun K F Os H v w r => by
  cases (show v = V.bl k from r)
  exact .base (.bl k)
theorem ty_str {t : Str} : TyI rStr.v t "str" := fun K F Os H v w r => by
  cases (show v = V.str t from r)
  exact .base (.str t)
theorem ty_list : TyI (vList R) xs "list" := fun K F Os H v w r => by
  obtain ⟨p, o, e1, h1, vs, e2, h2⟩ := vOf.get w r
  cases e1; cases e2
  exact .base (.lst h1)
theorem ty_tup : TyI (rTup R).v xs "tuple" := fun K F Os H v w r => by
  obtain ⟨p, vs, e1, h1, h2⟩ := r
  cases e1
  exact .base (.tup (w.sub _ _ h1))
theorem ty_t2 {w2 : α × β} : TyI (rT2 R S).v w2 "tuple" := fun K F Os H v w r => by
  obtain ⟨p, u1, u2, e1, h1, h2⟩ := r
  cases e1
  exact .base (.tup (w.sub _ _ h1))
theorem ty_t3 {w2 : α × β × γ} : TyI (rT3 R S T).v w2 "tuple" := fun K F Os H v w r => by
  obtain ⟨p, u1, u2, u3, e1, h1, h2⟩ := r
  cases e1
  exact .base (.tup (w.sub _ _ h1))
theorem ev_isi {t u : String} {tn : Str} (hk : kitB t u = some k) (ht : TyI W x t) (ha : Ev X a σ F Os W x Os1) (hm : X.mg "isinstance" = none) (hm2 : X.mg tn = none) (hv2 : bootBuiltins tn = some (.type u)) (hg : Gl X "isinstance" := by rfl) (hg2 : Gl X tn := by rfl) (hn : tn ≠ "__name__" := by decide) (hd : (tn == ("__debug__" : Str)) = false := by decide)
    (he : starEach [a, .Name tn p2] X.env = (false, eval a X.env) :: starEach [.Name tn p2] X.env := by rfl) (he2 : starEach [.Name tn p2] X.env = (false, eval (.Name tn p2) X.env) :: starEach [] X.env := by rfl) (hpl : (backTo pos (starEach [.Name tn p2] X.env)).any (·.1) = false := by rfl) :
    Ev X (.Call (.Name "isinstance" p1) [a, .Name tn p2] [] pos) σ F Os rBool.v k Os1 := fun F1 H s w Q q =>
  w_pe (pe_callB call_isi hg hm (by decide +kernel) (pa_cons pe_w (pa_cons (pe_bltn (v := .ty u) hg2 hm2 hv2 rfl hn hd) pa_nil he2) he) (by decide) (by decide) he hpl)
    (ha.go s w fun v F2 H2 s2 w2 r2 => ⟨v, .ty u, .type t, .type u, k, rfl, .ty u, ht X.K F2 Os1 H2 v w2 r2, kit_ty hk, q _ F2 H2 s2 w2 rfl⟩)

/-! ### calls of the program's own defs -/
theorem ev_call {sp : Sp} {CX : CXT} {kk : Nat} {f : Addr} {fd : FuncData} {ps : List Str} {P : Hp → Owns → List V → Prop} (G : FnOk X.prog X.w X.K X.mg X.base CX kk f fd ps sp) (hr : Room kk X.A) (hm : X.mg nm = some (.ref f)) (hk : PySem.W.keepIn X.K (.ref f) = true) (hb : Binds X.K fd ps []) (hx : Passes CX X E0)
    (ha : Ea X (e :: es) σ F Os P) (h : ∀ F' Os' H' vs (Q : VK), Wf F' Os' H' → P F' Os' vs → (∀ u F2 H2, Same F' F2 → Wf F2 Os2 H2 → U.r F2 Os2 u y → Q u H2) → sp vs H' Q E0)
    (hg : Gl X nm := by rfl) (hdb : (nm == ("__debug__" : Str)) = false := by decide) (he : starEach (e :: es) X.env = (false, eval e X.env) :: starEach es X.env := by rfl) (hpl : (backTo pos (starEach es X.env)).any (·.1) = false := by rfl) :
    Ev X (.Call (.Name nm p1) (e :: es) [] pos) σ F Os U y Os2 := fun F1 H s w Q q =>
  w_pe (pe_call G hr hg hm hk hb .nil hx pa_w hdb he hpl) (ha.go s w fun vs F2 Os' H2 s2 w2 r2 => by
    rw [List.append_nil]
    exact h F2 Os' H2 vs Q w2 r2 fun u F3 H3 s3 w3 r3 => q u F3 H3 (s2.trans s3) w3 r3)
theorem evn_call {sp : Sp} {CX : CXT} {kk : Nat} {f : Addr} {fd : FuncData} {ps : List Str} {P : Hp → Owns → List V → Prop} {O : OC} (G : FnOk X.prog X.w X.K X.mg X.base CX kk f fd ps sp) (hr : Room kk X.A) (hm : X.mg nm = some (.ref f)) (hk : PySem.W.keepIn X.K (.ref f) = true) (hb : Binds X.K fd ps []) (hx : Passes CX X E0)
    (ha : Ea X (e :: es) σ F Os P) (h : ∀ F' Os' H' vs (Q : VK), Wf F' Os' H' → P F' Os' vs → (∀ p F2 H2, Same F' F2 → Wf F2 ((p, O) :: Os2) H2 → Q (.ref p) H2) → sp vs H' Q E0)
    (hg : Gl X nm := by rfl) (hdb : (nm == ("__debug__" : Str)) = false := by decide) (he : starEach (e :: es) X.env = (false, eval e X.env) :: starEach es X.env := by rfl) (hpl : (backTo pos (starEach es X.env)).any (·.1) = false := by rfl) :
    EvN X (.Call (.Name nm p1) (e :: es) [] pos) σ F Os O Os2 := fun F1 H s w Q q =>
  w_pe (pe_call G hr hg hm hk hb .nil hx pa_w hdb he hpl) (ha.go s w fun vs F2 Os' H2 s2 w2 r2 => by
    rw [List.append_nil]
    exact h F2 Os' H2 vs Q w2 r2 fun u F3 H3 s3 w3 => q u F3 H3 (s2.trans s3) w3)
end
end Z

namespace Z
open PySem PySem.Spec L2
section
variable {α β γ : Type} {X : Cx} {e a b c it : Expr} {es : List Expr} {pos p1 p2 p3 : Pos} {σ : St} {F F' H : Hp} {Os Os1 Os2 Os3 : Owns} {W : Vw α} {U : Vw β} {R : Rep α} {S : Rep β} {x x' : α} {y : β} {i j : Int} {k k' l : Bool} {xs ys zs : List α} {D : Ends} {rest body A B : List Stmt} {n m : Nat} {nm : Str} {v : V} {O : OC}
/-! ### blocks -/
theorem ws_nil (h : D.nx σ H) : Ws X [] D σ H := w_pss pss_nil h
theorem ws_cons {st : Stmt} (h : W1 X st { D with nx := Ws X rest D } σ H) : Ws X (st :: rest) D σ H := w_pss (pss_cons ps_w pss_w) h
abbrev Loc1 (X : Cx) (nm : Str) : Prop := Loc X.env.scope nm
theorem ws_set (w : Wf F Os H) (he : Ev X e σ F Os W x Os1) (hN : X.N.Nodup) (k : ∀ v F1 H1, Same F F1 → Wf F1 Os1 H1 → W.r F1 Os1 v x → Ws X rest D (σ.set n (some v)) H1)
    (hi : X.N[n]? = some nm := by rfl) (hx : Loc X.env.scope nm := by first | exact Or.inl rfl | exact Or.inr rfl) (hs : swapsWith e (some (.Name nm p1)) pos.line X.env = pure false := by rfl) (hf : X.fn nm = true ∨ X.env.scope.names.lookup nm = some .local := by first | exact .inl rfl | exact .inr rfl) :
    Ws X (.Assign [.Name nm p1] e pos :: rest) D σ H :=
  ws_cons (w_ps (ps_set hN hi hx pe_w hs hf) (he.go (Same.refl _) w fun v F1 H1 s1 w1 r1 => k v F1 H1 s1 w1 r1))
theorem ws_setN (w : Wf F Os H) (he : EvN X e σ F Os O Os1) (hN : X.N.Nodup) (k : ∀ p F1 H1, Same F F1 → Wf F1 ((p, O) :: Os1) H1 → Ws X rest D (σ.set n (some (.ref p))) H1)
    (hi : X.N[n]? = some nm := by rfl) (hx : Loc X.env.scope nm := by first | exact Or.inl rfl | exact Or.inr rfl) (hs : swapsWith e (some (.Name nm p1)) pos.line X.env = pure false := by rfl) (hf : X.fn nm = true ∨ X.env.scope.names.lookup nm = some .local := by first | exact .inl rfl | exact .inr rfl) :
    Ws X (.Assign [.Name nm p1] e pos :: rest) D σ H :=
  ws_cons (w_ps (ps_set hN hi hx pe_w hs hf) (he.go (Same.refl _) w fun v F1 H1 s1 w1 => k v F1 H1 s1 w1))
theorem ws_ret (w : Wf F Os H) (he : Ev X e σ F Os W x Os1) (k : ∀ v F1 H1, Same F F1 → Wf F1 Os1 H1 → W.r F1 Os1 v x → D.rt v H1) : Ws X (.Return (some e) pos :: rest) D σ H :=
  ws_cons (w_ps (ps_ret pe_w) (he.go (Same.refl _) w fun v F1 H1 s1 w1 r1 => k v F1 H1 s1 w1 r1))
theorem ws_retN (w : Wf F Os H) (he : EvN X e σ F Os O Os1) (k : ∀ p F1 H1, Same F F1 → Wf F1 ((p, O) :: Os1) H1 → D.rt (.ref p) H1) : Ws X (.Return (some e) pos :: rest) D σ H :=
  ws_cons (w_ps (ps_ret pe_w) (he.go (Same.refl _) w fun v F1 H1 s1 w1 => k v F1 H1 s1 w1))
theorem ws_ret0 (h : D.rt .non H) : Ws X (.Return none pos :: rest) D σ H := ws_cons (w_ps ps_retN h)
theorem ws_pass (h : Ws X rest D σ H) : Ws X (.Pass pos :: rest) D σ H := ws_cons (w_ps ps_pass h)
theorem ws_brk (h : D.bk σ H) : Ws X (.Break pos :: rest) D σ H := ws_cons (w_ps ps_break h)
theorem ws_cont (h : D.ct σ H) : Ws X (.Continue pos :: rest) D σ H := ws_cons (w_ps ps_continue h)
theorem ws_if (w : Wf F Os H) (hc : Et X c σ F Os k Os1) (h1 : k = true → ∀ F1 H1, Same F F1 → Wf F1 Os1 H1 → Ws X A { D with nx := Ws X rest D } σ H1) (h2 : k = false → ∀ F1 H1, Same F F1 → Wf F1 Os1 H1 → Ws X B { D with nx := Ws X rest D } σ H1) :
    Ws X (.If c A B pos :: rest) D σ H :=
  ws_cons (w_ps (ps_if pt_w pss_w pss_w) (hc.go (Same.refl _) w fun F1 H1 s1 w1 => by
    cases k with
    | true => exact iteT (h1 rfl F1 H1 s1 w1)
    | false => exact iteF (h2 rfl F1 H1 s1 w1)))
/-- a statement, and what holds behind it -/
theorem ws_j {st : Stmt} (M : St → Hp → Prop) (h : W1 X st { D with nx := M } σ H) (hm : ∀ σ' H', M σ' H' → Ws X rest D σ' H') : Ws X (st :: rest) D σ H := by
  refine ws_cons fun pins s I => ?_
  refine thn (h pins s I) fun f s' h => ?_
  cases f with
  | next =>
    obtain ⟨σ', H', I', hm'⟩ := h
    exact ⟨σ', H', I', hm σ' H' hm'⟩
  | ret u => exact h
  | brk => exact h
  | cont => exact h
theorem w1_if (w : Wf F Os H) (hc : Et X c σ F Os k Os1) (h1 : k = true → ∀ F1 H1, Same F F1 → Wf F1 Os1 H1 → Ws X A D σ H1) (h2 : k = false → ∀ F1 H1, Same F F1 → Wf F1 Os1 H1 → Ws X B D σ H1) :
    W1 X (.If c A B pos) D σ H :=
  w_ps (ps_if pt_w pss_w pss_w) (hc.go (Same.refl _) w fun F1 H1 s1 w1 => by
    cases k with
    | true => exact iteT (h1 rfl F1 H1 s1 w1)
    | false => exact iteF (h2 rfl F1 H1 s1 w1))
theorem ws_expr (w : Wf F Os H) (he : Ev X e σ F Os W x Os1) (k : ∀ F1 H1, Same F F1 → Wf F1 Os1 H1 → Ws X rest D σ H1) (hs : swapsWith e none pos.line X.env = pure false := by rfl) : Ws X (.Expr e pos :: rest) D σ H :=
  ws_cons (w_ps (ps_expr pe_w hs) (he.go (Same.refl _) w fun v F1 H1 s1 w1 _ => k F1 H1 s1 w1))
/-! ### lists that are owned -/
/-- the written form of o.m(e, ..) -/
structure BmOk (X : Cx) (o : Expr) (name : Str) (e : Expr) (es : List Expr) (apos cpos : Pos) : Prop where
  base : attributeBase o name X.env (eval o X.env) = eval o X.env
  few : ((backTo cpos (starEach (e :: es) X.env)).all (fun x => !x.1) && (backToKw cpos (keywordEach [] X.env)).all (fun x => x.1.isSome)
      && decide ((e :: es).length + ([] : List Keyword).length + (if ([] : List Keyword).isEmpty then 0 else 1) < 30)) = true
  line : (apos.endLine == cpos.line) = true
  hs : starEach (e :: es) X.env = (false, eval e X.env) :: starEach es X.env
  plain : (backTo cpos (starEach es X.env)).any (·.1) = false
structure BmOk0 (X : Cx) (o : Expr) (name : Str) (apos cpos : Pos) : Prop where
  base : attributeBase o name X.env (eval o X.env) = eval o X.env
  line : (apos.endLine == cpos.line) = true
theorem ws_app (w : Wf F Os H) {l : Addr} (hl : σ[m]? = some (some (.ref l))) (he : Ev X e σ F Os R.v x Os1) (ho : Os1[n]? = some (l, oList R xs)) (h : app xs x = some ys) (k : ∀ F1 H1, Same F F1 → Wf F1 (Os1.set n (l, oList R ys)) H1 → Ws X rest D σ H1)
    (hN : X.N[m]? = some nm := by rfl) (hV : Vis X.env.scope nm := by first | exact Or.inl rfl | exact Or.inr (Or.inl rfl) | exact Or.inr (Or.inr rfl)) (hd : (nm == ("__debug__" : Str)) = false := by decide) (hcd : (nm == ("__classdict__" : Str)) = false := by decide)
    (hs : swapsWith (.Call (.Attribute (.Name nm p1) "append" p2) [e] [] p3) none pos.line X.env = pure false := by rfl) (hb : BmOk X (.Name nm p1) "append" e [] p2 p3 := by exact ⟨rfl, rfl, rfl, rfl, rfl⟩) (ho0 : Os[n]? = some (l, oList R xs) := by rfl) : Ws X (.Expr (.Call (.Attribute (.Name nm p1) "append" p2) [e] [] p3) pos :: rest) D σ H := by
  obtain ⟨h1, rfl⟩ := app_some h
  obtain ⟨_, o0, g0, vs0, e0, _⟩ := w.at ho0
  subst e0
  refine ws_cons (w_ps (ps_expr (pe_bm PySem.F.plainAttrs_list PySem.F.slot_list_append PySem.F.type_list_append mt_append (pe_var hN hV hd hcd) (pa_cons pe_w pa_nil hb.hs) hb.base hb.few hb.line hb.hs hb.plain) hs) ?_)
  refine ⟨_, hl, .inl ⟨rfl, _, .of g0⟩, he.go (Same.refl _) w fun v F1 H1 s1 w1 r1 => ?_⟩
  obtain ⟨_, o, g, vs, e, q⟩ := w1.at ho
  subst e
  exact ⟨l, vs, v, rfl, rfl, g, by rw [q.length]; exact h1, k F1 _ s1 (w1.set ho ⟨_, rfl, paired_append q (.cons r1 .nil)⟩)⟩
theorem stI_some {xs ys : List α} (h : stI xs i x = some ys) : ∃ j, ixN xs.length i = some j ∧ ys = xs.set j x := by
  obtain ⟨j, h1, h2⟩ := bd_some h
  exact ⟨j, h1, (Option.some.inj h2).symm⟩
theorem ws_stL (w : Wf F Os H) {l : Addr} (he : Ev X e σ F Os R.v x Os1) (ha : Ev X a σ F Os1 (rIs (.ref l)).v () Os1) (hb : Ev X b σ F Os1 rInt.v i Os1) (ho : Os1[n]? = some (l, oList R xs)) (h : stI xs i x = some ys)
    (k : ∀ F1 H1, Same F F1 → Wf F1 (Os1.set n (l, oList R ys)) H1 → Ws X rest D σ H1)
    (hs : swapsWithSole [.Subscript a b p1] e pos.line X.env = pure false := by rfl) (hw : swappedStores [.Subscript a b p1] e X.env = pure none := by rfl) (h1 : (assignEach [.Subscript a b p1] X.env).map (·.2) = [assign (.Subscript a b p1) X.env] := by rfl)
    (hA : ∀ v, assign (.Subscript a b p1) X.env v = (do
      let ov ← holding [v] (eval a X.env)
      let iv ← holding [v, ov] (eval b X.env)
      standAt p1
      holding [v, ov, iv] (setItem ov iv v)
      release [v, ov, iv] []) := by intro _; rfl) : Ws X (.Assign [.Subscript a b p1] e pos :: rest) D σ H := by
  obtain ⟨jj, h2, rfl⟩ := stI_some h
  refine ws_cons (w_ps (ps_asg pe_w (pg_sub pe_w pe_w set_list hA) hs hw h1) ?_)
  refine he.go (Same.refl _) w fun v F1 H1 s1 w1 r1 => ?_
  refine ha.go s1 w1 fun u F2 H2 s2 w2 r2 => ?_
  refine hb.go (s1.trans s2) w2 fun u3 F3 H3 s3 w3 r3 => ?_
  obtain ⟨_, o, g, vs, e, q⟩ := w3.at ho
  subst e
  exact ⟨l, vs, i, jj, r2, r3, g, by rw [q.length]; exact h2, k F3 _ (s1.trans (s2.trans s3)) (w3.set ho ⟨_, rfl, paired_set (R.mono (s2.trans s3) r1) jj q⟩)⟩
/-! ### loops -/
theorem drop_cons {xs : List α} {i : Nat} {x : α} (h : xs[i]? = some x) : xs.drop i = x :: xs.drop (i + 1) := by
  obtain ⟨h1, h2⟩ := List.getElem?_eq_some_iff.mp h
  rw [List.drop_eq_getElem_cons h1, h2]
theorem w1_forG {g : TG} {tg : Expr} (w : Wf F Os H) (hi : Ev X it σ F Os (rList R).v xs Os1) (hg : PG X tg g)
    (k : ∀ F1 H1, Same F F1 → Wf F1 Os1 H1 → ∃ I : List α → St → Hp → Prop, I xs σ H1 ∧ (∀ r σ' H', I r σ' H' → Same F1 H') ∧
      (∀ x r σ' H' v, I (x :: r) σ' H' → R.r F1 v x → g v σ' H' fun σ2 H2 => Ws X body { D with nx := I r, ct := I r, bk := D.nx } σ2 H2) ∧ (∀ σ' H', I [] σ' H' → D.nx σ' H'))
    (hp : PassesOwn (model X.prog X.w) X.A X.env X.xe) (hc : X.calm = true := by rfl) (hs : ∀ x, foldedSetIterable it X.env x = pure x := by intro _; rfl) : W1 X (.For tg it body [] pos) D σ H := by
  refine w_ps (ps_for hp hc (pi_list pe_w) hg pss_w hs) ?_
  refine hi.go (Same.refl _) w fun v F1 H1 s1 w1 r1 => ?_
  obtain ⟨I, h0, hk, ht, hd⟩ := k F1 H1 s1 w1
  obtain ⟨p, o, rfl, g1, vs, rfl, q⟩ := r1
  refine ⟨p, rfl, ⟨vs, .of (w1.sub _ _ g1)⟩, for_list (K := X.K) (a := p) (xs := vs) (fun i σ' H' => I (xs.drop i) σ' H') h0 (fun i σ' H' _ hI => .of (hk _ _ _ hI _ _ g1)) (fun i u σ' H' hu hI => ?_) fun σ' H' hI => hd σ' H' ?_⟩
  · have hl : i < xs.length := by
      have z := (List.getElem?_eq_some_iff.mp hu).1
      rw [q.length] at z
      exact z
    have hx : xs[i]? = some xs[i] := List.getElem?_eq_getElem hl
    obtain ⟨u', hu', hr⟩ := paired_get q hx
    cases hu.symm.trans hu'
    rw [drop_cons hx] at hI
    exact ht _ _ σ' H' u hI hr
  · rw [q.length, List.drop_length] at hI
    exact hI
theorem w1_for (w : Wf F Os H) (hi : Ev X it σ F Os (rList R).v xs Os1) (hN : X.N.Nodup)
    (k : ∀ F1 H1, Same F F1 → Wf F1 Os1 H1 → ∃ I : List α → St → Hp → Prop, I xs σ H1 ∧ (∀ r σ' H', I r σ' H' → Same F1 H') ∧
      (∀ x r σ' H' v, I (x :: r) σ' H' → R.r F1 v x → Ws X body { D with nx := I r, ct := I r, bk := D.nx } (σ'.set n (some v)) H') ∧ (∀ σ' H', I [] σ' H' → D.nx σ' H'))
    (hp : PassesOwn (model X.prog X.w) X.A X.env X.xe) (hn : X.N[n]? = some nm := by rfl) (hx : Loc X.env.scope nm := by first | exact Or.inl rfl | exact Or.inr rfl) (hf : X.fn nm = true ∨ X.env.scope.names.lookup nm = some .local := by first | exact .inl rfl | exact .inr rfl)
    (hc : X.calm = true := by rfl) (hs : ∀ x, foldedSetIterable it X.env x = pure x := by intro _; rfl) : W1 X (.For (.Name nm p1) it body [] pos) D σ H :=
  w1_forG w hi (pg_name hN hn hx hf) k hp hc hs
/-- over a tuple -/
theorem w1_forV (w : Wf F Os H) (hi : Ev X it σ F Os (rTup R).v xs Os1) (hN : X.N.Nodup)
    (k : ∀ F1 H1, Same F F1 → Wf F1 Os1 H1 → ∃ I : List α → St → Hp → Prop, I xs σ H1 ∧ (∀ r σ' H', I r σ' H' → Same F1 H') ∧
      (∀ x r σ' H' v, I (x :: r) σ' H' → R.r F1 v x → Ws X body { D with nx := I r, ct := I r, bk := D.nx } (σ'.set n (some v)) H') ∧ (∀ σ' H', I [] σ' H' → D.nx σ' H'))
    (hp : PassesOwn (model X.prog X.w) X.A X.env X.xe) (hn : X.N[n]? = some nm := by rfl) (hx : Loc X.env.scope nm := by first | exact Or.inl rfl | exact Or.inr rfl) (hf : X.fn nm = true ∨ X.env.scope.names.lookup nm = some .local := by first | exact .inl rfl | exact .inr rfl)
    (hc : X.calm = true := by rfl) (hs : ∀ x, foldedSetIterable it X.env x = pure x := by intro _; rfl) : W1 X (.For (.Name nm p1) it body [] pos) D σ H := by
  refine w_ps (ps_for hp hc (pi_tup pe_w) (pg_name hN hn hx hf) pss_w hs) ?_
  refine hi.go (Same.refl _) w fun v F1 H1 s1 w1 r1 => ?_
  obtain ⟨I, h0, hk, ht, hd⟩ := k F1 H1 s1 w1
  obtain ⟨p, vs, rfl, g1, q⟩ := r1
  refine ⟨p, rfl, ⟨vs, .of (w1.sub _ _ g1)⟩, for_tup (K := X.K) (a := p) (xs := vs) (fun i σ' H' => I (xs.drop i) σ' H') h0 (fun i σ' H' _ hI => .of (hk _ _ _ hI _ _ g1)) (fun i u σ' H' hu hI => ?_) fun σ' H' hI => hd σ' H' ?_⟩
  · have hl : i < xs.length := by
      have z := (List.getElem?_eq_some_iff.mp hu).1
      rw [q.length] at z
      exact z
    have hx : xs[i]? = some xs[i] := List.getElem?_eq_getElem hl
    obtain ⟨u', hu', hr⟩ := paired_get q hx
    cases hu.symm.trans hu'
    rw [drop_cons hx] at hI
    exact ht _ _ σ' H' u hI hr
  · rw [q.length, List.drop_length] at hI
    exact hI
/-- for a, b in pairs -/
theorem w1_for2 {nm2 : Str} {m2 d : Nat} {xs : List (α × β)} (w : Wf F Os H) (hi : Ev X it σ F Os (rList (rT2 R S)).v xs Os1) (hN : X.N.Nodup)
    (k : ∀ F1 H1, Same F F1 → Wf F1 Os1 H1 → ∃ I : List (α × β) → St → Hp → Prop, I xs σ H1 ∧ (∀ r σ' H', I r σ' H' → Same F1 H') ∧
      (∀ x y r σ' H' v u, I ((x, y) :: r) σ' H' → R.r F1 v x → S.r F1 u y → Ws X body { D with nx := I r, ct := I r, bk := D.nx } ((σ'.set n (some v)).set m2 (some u)) H') ∧ (∀ σ' H', I [] σ' H' → D.nx σ' H'))
    (hp : PassesOwn (model X.prog X.w) X.A X.env X.xe) (hn : X.N[n]? = some nm := by rfl) (hx : Loc X.env.scope nm := by first | exact Or.inl rfl | exact Or.inr rfl) (hf : X.fn nm = true ∨ X.env.scope.names.lookup nm = some .local := by first | exact .inl rfl | exact .inr rfl)
    (hn2 : X.N[m2]? = some nm2 := by rfl) (hx2 : Loc X.env.scope nm2 := by first | exact Or.inl rfl | exact Or.inr rfl) (hf2 : X.fn nm2 = true ∨ X.env.scope.names.lookup nm2 = some .local := by first | exact .inl rfl | exact .inr rfl)
    (hc : X.calm = true := by rfl) (hs : ∀ x, foldedSetIterable it X.env x = pure x := by intro _; rfl) (hl : (assignEach [.Name nm p1, .Name nm2 p2] X.env).length = 2 := by rfl) (hst : (assignEach [.Name nm p1, .Name nm2 p2] X.env).findIdx? (·.1) = none := by rfl) :
    W1 X (.For (.Tuple [.Name nm p1, .Name nm2 p2] d p3) it body [] pos) D σ H := by
  refine w1_forG (R := rT2 R S) w hi (pg_tup hc (pgs_cons (pg_name hN hn hx hf) (pgs_cons (pg_name hN hn2 hx2 hf2) pgs_nil)) hl hst) (fun F1 H1 s1 w1 => ?_) hp hc hs
  obtain ⟨I, h0, hk, ht, hd⟩ := k F1 H1 s1 w1
  refine ⟨I, h0, hk, fun ⟨x, y⟩ r σ' H' v hI hv => ?_, hd⟩
  obtain ⟨a, u1, u2, rfl, g1, q1, q2⟩ := hv
  exact ⟨a, [u1, u2], rfl, .of (hk _ _ _ hI _ _ g1), rfl, u1, [u2], rfl, u2, [], rfl, rfl, ht x y r σ' H' u1 u2 hI q1 q2⟩
/-- the ints from lo, below hi -/
def rng (lo hi : Int) : List Int := (List.range (hi - lo).toNat).map fun (k : Nat) => lo + (k : Int)
theorem rng_len (lo hi : Int) : (rng lo hi).length = (hi - lo).toNat := by simp [rng]
theorem rng_get {lo hi : Int} {i : Nat} (h : i < (hi - lo).toNat) : (rng lo hi)[i]? = some (lo + (i : Int)) := by
  simp [rng, h]
def rngOk (lo hi : Int) : Prop := (-(2 ^ 62) ≤ lo ∧ lo < 2 ^ 62 ∧ -(2 ^ 62) ≤ hi ∧ hi < 2 ^ 62) ∧ hi - lo ≤ 16777216
instance (lo hi : Int) : Decidable (rngOk lo hi) := by unfold rngOk; infer_instance
def rngO (lo hi : Int) : Option (List Int) := if rngOk lo hi then some (rng lo hi) else none
theorem rngO_some {lo hi : Int} {r : List Int} (h : rngO lo hi = some r) : rngOk lo hi ∧ r = rng lo hi := by
  unfold rngO at h
  by_cases hc : rngOk lo hi
  · rw [if_pos hc] at h
    exact ⟨hc, (Option.some.inj h).symm⟩
  · rw [if_neg hc] at h
    cases h
theorem w1_forR1 {r : List Int} (hr : rngO 0 i = some r) (w : Wf F Os H) (hi : Ev X a σ F Os rInt.v i Os1) (hN : X.N.Nodup)
    (k : ∀ F1 H1, Same F F1 → Wf F1 Os1 H1 → ∃ I : List Int → St → Hp → Prop, I r σ H1 ∧
      (∀ x r σ' H', I (x :: r) σ' H' → Ws X body { D with nx := I r, ct := I r, bk := D.nx } (σ'.set n (some (.int x))) H') ∧ (∀ σ' H', I [] σ' H' → D.nx σ' H'))
    (hp : PassesOwn (model X.prog X.w) X.A X.env X.xe) (hm : X.mg "range" = none) (hn : X.N[n]? = some nm := by rfl) (hx : Loc X.env.scope nm := by first | exact Or.inl rfl | exact Or.inr rfl) (hf : X.fn nm = true ∨ X.env.scope.names.lookup nm = some .local := by first | exact .inl rfl | exact .inr rfl)
    (hc : X.calm = true := by rfl) (hs : ∀ x, foldedSetIterable (.Call (.Name "range" p2) [a] [] p3) X.env x = pure x := by intro _; rfl) (hg : Gl X "range" := by rfl) (he : starEach [a] X.env = [(false, eval a X.env)] := by rfl) (he2 : starEach [a] X.env = (false, eval a X.env) :: starEach [] X.env := by rfl) : W1 X (.For (.Name nm p1) (.Call (.Name "range" p2) [a] [] p3) body [] pos) D σ H := by
  obtain ⟨ok, rfl⟩ := rngO_some hr
  refine w_ps (ps_for hp hc (pi_range1 hg hm (pa_cons pe_w pa_nil he2) he) (pg_name hN hn hx hf) pss_w hs) ?_
  refine hi.go (Same.refl _) w fun v F1 H1 s1 w1 r1 => ?_
  obtain ⟨I, h0, ht, hd⟩ := k F1 H1 s1 w1
  cases (show v = V.int i from r1)
  obtain ⟨⟨_, _, k3, k4⟩, _⟩ := ok
  have hl : (rng 0 i).length = i.toNat := by rw [rng_len, Int.sub_zero]
  refine ⟨i, rfl, k3, k4, for_range (lo := 0) (n := i.toNat) (fun q σ' H' => I ((rng 0 i).drop q) σ' H') h0 (fun q σ' H' hq hI => ?_) fun σ' H' hI => hd σ' H' ?_⟩
  · rw [drop_cons (rng_get (by rw [Int.sub_zero]; exact hq))] at hI
    exact ht _ _ σ' H' hI
  · rw [← hl, List.drop_length] at hI
    exact hI
theorem w1_forR2 {r : List Int} (hr : rngO i j = some r) (w : Wf F Os H) (hi : Ev X a σ F Os rInt.v i Os1) (hj : Ev X b σ F Os1 rInt.v j Os2) (hN : X.N.Nodup)
    (k : ∀ F1 H1, Same F F1 → Wf F1 Os2 H1 → ∃ I : List Int → St → Hp → Prop, I r σ H1 ∧
      (∀ x r σ' H', I (x :: r) σ' H' → Ws X body { D with nx := I r, ct := I r, bk := D.nx } (σ'.set n (some (.int x))) H') ∧ (∀ σ' H', I [] σ' H' → D.nx σ' H'))
    (hp : PassesOwn (model X.prog X.w) X.A X.env X.xe) (hm : X.mg "range" = none) (hn : X.N[n]? = some nm := by rfl) (hx : Loc X.env.scope nm := by first | exact Or.inl rfl | exact Or.inr rfl) (hf : X.fn nm = true ∨ X.env.scope.names.lookup nm = some .local := by first | exact .inl rfl | exact .inr rfl)
    (hc : X.calm = true := by rfl) (hs : ∀ x, foldedSetIterable (.Call (.Name "range" p2) [a, b] [] p3) X.env x = pure x := by intro _; rfl) (hg : Gl X "range" := by rfl) (he : starEach [a, b] X.env = [(false, eval a X.env), (false, eval b X.env)] := by rfl) (he3 : starEach [b] X.env = [(false, eval b X.env)] := by rfl)
    (he2 : starEach [a, b] X.env = (false, eval a X.env) :: starEach [b] X.env := by rfl) (he4 : starEach [b] X.env = (false, eval b X.env) :: starEach [] X.env := by rfl) : W1 X (.For (.Name nm p1) (.Call (.Name "range" p2) [a, b] [] p3) body [] pos) D σ H := by
  obtain ⟨ok, rfl⟩ := rngO_some hr
  refine w_ps (ps_for hp hc (pi_range2 hg hm (pa_cons pe_w (pa_cons pe_w pa_nil he4) he2) he he3) (pg_name hN hn hx hf) pss_w hs) ?_
  refine hi.go (Same.refl _) w fun v F1 H1 s1 w1 r1 => ?_
  refine hj.go s1 w1 fun u F2 H2 s2 w2 r2 => ?_
  obtain ⟨I, h0, ht, hd⟩ := k F2 H2 (s1.trans s2) w2
  cases (show v = V.int i from r1)
  cases (show u = V.int j from r2)
  have hl : (rng i j).length = (j - i).toNat := rng_len i j
  refine ⟨i, j, rfl, ok.1, for_range (lo := i) (n := (j - i).toNat) (fun q σ' H' => I ((rng i j).drop q) σ' H') h0 (fun q σ' H' hq hI => ?_) fun σ' H' hI => hd σ' H' ?_⟩
  · rw [drop_cons (rng_get hq)] at hI
    exact ht _ _ σ' H' hI
  · rw [← hl, List.drop_length] at hI
    exact hI
theorem wt_cases {Q : Bool → Hp → Prop} (w : Wf F Os H) (hc : Et X c σ F Os k Os1) (h1 : k = true → ∀ F1 H1, Same F F1 → Wf F1 Os1 H1 → Q true H1) (h2 : k = false → ∀ F1 H1, Same F F1 → Wf F1 Os1 H1 → Q false H1) : Wt X c σ H Q :=
  hc.go (Same.refl _) w fun F1 H1 s1 w1 => by
    cases k with
    | true => exact h1 rfl F1 H1 s1 w1
    | false => exact h2 rfl F1 H1 s1 w1
/-- while: I by what is left to do -/
theorem w1_while (I : Nat → St → Hp → Prop) (n0 : Nat) (h0 : I n0 σ H)
    (ht : ∀ n σ' H', I n σ' H' → Wt X c σ' H' fun k H1 => if k = true then Ws X body { D with nx := fun σ2 H2 => ∃ n', n' < n ∧ I n' σ2 H2, ct := fun σ2 H2 => ∃ n', n' < n ∧ I n' σ2 H2, bk := D.nx } σ' H1 else D.nx σ' H1)
    (hp : PassesOwn (model X.prog X.w) X.A X.env X.xe) : W1 X (.While c body [] pos) D σ H := by
  refine w_ps (ps_while hp pt_w pss_w) ⟨I, ⟨n0, h0⟩, fun n σ' H' hI => ?_⟩
  have q := ht n σ' H' hI
  intro pins s I'
  refine thn (q pins s I') fun b s' h => ?_
  obtain ⟨H1, I1, h⟩ := h
  refine ⟨H1, I1, ?_⟩
  cases b with
  | true => exact iteT ⟨_, fun _ _ z => z, h⟩
  | false => exact iteF h
end
/-- a def of the program as it stands behind the top -/
structure FT (K : PySem.W.Frag) (mg : Str → Option Value) (x : Str) (st : Stmt) (ps : List Str) (f : Addr) (fd : FuncData) : Prop where
  fn : Fun K x x st f fd
  bi : Binds K fd ps []
  gm : mg x = some (.ref f)
end Z

namespace Z
open PySem PySem.Spec L2
/-! ### what is walked -/
section
variable {α β γ : Type} {X : Cx} {e a b c it tg elt : Expr} {es ifs : List Expr} {pos p1 p2 p3 : Pos} {σ : St} {F F' H : Hp} {Os Os1 Os2 Os3 : Owns} {W : Vw α} {U : Vw β} {R : Rep α} {S : Rep β} {T : Rep γ} {Y : Rep α} {x x' : α} {y : β} {i j k : Int} {l : Bool} {xs ys zs : List α} {D : Ends} {rest body : List Stmt} {n m : Nat} {nm : Str} {v : V}
structure Itx (J : It) (F : Hp) (Y : Rep α) (xs : List α) : Prop where
  len : xs.length ≤ 16777216
  stop : ∀ H, Same F H → J.stop xs.length H
  go : ∀ i H, Same F H → i < xs.length → J.go i H
  yld : ∀ i H v H' F2 Os2, Same F F2 → Wf F2 Os2 H → J.yld i H v H' → i < xs.length → ∃ F3, Same F2 F3 ∧ Wf F3 Os2 H' ∧ ∀ x, xs[i]? = some x → Y.r F3 v x
def Wi (X : Cx) (tg it : Expr) (σ : St) (H : Hp) (R : It → Hp → Prop) : Prop := ∀ pins s, Inv X pins σ H s → wpAny (model X.prog X.w) X.A (eval it X.env) (fun v s1 => wpAny (model X.prog X.w) X.A (pyIter v) (PIE X pins σ tg R) X.xe s1) X.xe s
theorem pi_w : PI X tg it (Wi X tg it) := ⟨fun pins s _ _ _ I h => h pins s I⟩
theorem w_pi {t : TI} {R : It → Hp → Prop} (h : PI X tg it t) (q : t σ H R) : Wi X tg it σ H R := fun pins s I => h.run pins s σ H R I q
def Ei (X : Cx) (tg it : Expr) (σ : St) (F : Hp) (Os : Owns) (Y : Rep α) (xs : List α) (Os' : Owns) : Prop :=
  ∀ F1 H, Same F F1 → Wf F1 Os H → ∀ Q : It → Hp → Prop, (∀ J F' H', Same F1 F' → Wf F' Os' H' → Itx J F' Y xs → Q J H') → Wi X tg it σ H Q
theorem Ei.go (h : Ei X tg it σ F Os Y xs Os1) {F1 H : Hp} (s : Same F F1) (w : Wf F1 Os H) {Q : It → Hp → Prop} (k : ∀ J F' H', Same F1 F' → Wf F' Os1 H' → Itx J F' Y xs → Q J H') : Wi X tg it σ H Q := h F1 H s w Q k
theorem Ei.eq (h : Ei X tg it σ F Os Y xs Os1) (hx : ys = xs) : Ei X tg it σ F Os Y ys Os1 := hx ▸ h
theorem itx_list {K : PySem.W.Frag} {p : Addr} {vs : List V} (g : F p = some (.lst vs)) (q : Paired (Y.r F) vs xs) (hz : vs.length ≤ sizeLine) : Itx (Itl K p) F Y xs where
  len := by rw [← q.length, ← sizeLine_eq]; exact hz
  stop := fun H s => ⟨vs, .of (s _ _ g), by rw [q.length]; exact Nat.le_refl _⟩
  go := fun i H s hi => ⟨vs, vs[i]'(by rw [q.length]; exact hi), .of (s _ _ g), List.getElem?_eq_getElem _⟩
  yld := fun i H v H' F2 Os2 s w h hi => by
    obtain ⟨rfl, h⟩ := h
    have hv := h vs (.of (w.sub _ _ (s _ _ g)))
    refine ⟨F2, Same.refl _, w, fun x hx => ?_⟩
    obtain ⟨u, h1, h2⟩ := paired_get q hx
    cases hv.symm.trans h1
    exact Y.mono s h2
theorem itx_tup {K : PySem.W.Frag} {p : Addr} {vs : List V} (g : F p = some (.tup vs)) (q : Paired (Y.r F) vs xs) (hz : vs.length ≤ sizeLine) : Itx (Itt K p) F Y xs where
  len := by rw [← q.length, ← sizeLine_eq]; exact hz
  stop := fun H s => ⟨vs, .of (s _ _ g), by rw [q.length]; exact Nat.le_refl _⟩
  go := fun i H s hi => ⟨vs, vs[i]'(by rw [q.length]; exact hi), .of (s _ _ g), List.getElem?_eq_getElem _⟩
  yld := fun i H v H' F2 Os2 s w h hi => by
    obtain ⟨rfl, h⟩ := h
    have hv := h vs (.of (w.sub _ _ (s _ _ g)))
    refine ⟨F2, Same.refl _, w, fun x hx => ?_⟩
    obtain ⟨u, h1, h2⟩ := paired_get q hx
    cases hv.symm.trans h1
    exact Y.mono s h2
/-- what is tracked has a size that the model carries -/
def HSz (H : Hp) : Prop := ∀ a o, H a = some o → (∀ vs, o = .lst vs ∨ o = .tup vs → vs.length ≤ sizeLine) ∧ ∀ kvs, o = .dK kvs → kvs.length ≤ sizeLine
theorem hsz_of {pins : List (Addr × Obj)} {s : Shared} (I : Inv X pins σ H s) : HSz H := fun a o h => ⟨fun vs e => by
    have q := I.hok a o h
    rcases e with rfl | rfl
    · exact q.1
    · exact q.1, fun kvs e => by
    have q := I.hok a o h
    subst e
    exact q.1⟩
theorem we_sz {Q : VK} (h : We X e σ H fun v H' => HSz H' → Q v H') : We X e σ H Q := fun pins s I => thn (h pins s I) fun u s' ⟨v, H', I', r, q⟩ => ⟨v, H', I', r, q (hsz_of I')⟩
theorem ei_list (h : Ev X it σ F Os (rList Y).v xs Os1) : Ei X tg it σ F Os Y xs Os1 := fun F1 H s w Q q =>
  w_pi (pi_list pe_w) (we_sz (h.go s w fun v F2 H2 s2 w2 r2 => by
    intro hz
    obtain ⟨p, o, rfl, g, vs, rfl, qv⟩ := r2
    exact ⟨p, rfl, ⟨vs, .of (w2.sub _ _ g)⟩, q _ F2 H2 s2 w2 (itx_list g qv ((hz _ _ (w2.sub _ _ g)).1 vs (.inl rfl)))⟩))
theorem ei_tup (h : Ev X it σ F Os (rTup Y).v xs Os1) : Ei X tg it σ F Os Y xs Os1 := fun F1 H s w Q q =>
  w_pi (pi_tup pe_w) (we_sz (h.go s w fun v F2 H2 s2 w2 r2 => by
    intro hz
    obtain ⟨p, vs, rfl, g, qv⟩ := r2
    exact ⟨p, rfl, ⟨vs, .of (w2.sub _ _ g)⟩, q _ F2 H2 s2 w2 (itx_tup g qv ((hz _ _ (w2.sub _ _ g)).1 vs (.inr rfl)))⟩))
theorem itx_rng {lo hi : Int} (hz : hi - lo ≤ 16777216) : Itx (Itr lo (hi - lo).toNat) F rInt (rng lo hi) where
  len := by rw [rng_len]; omega
  stop := fun H s => by rw [rng_len]; exact Nat.le_refl _
  go := fun i H s hi => by rw [rng_len] at hi; exact hi
  yld := fun i H v H' F2 Os2 s w h hi => by
    obtain ⟨rfl, rfl⟩ := h
    refine ⟨F2, Same.refl _, w, fun x hx => ?_⟩
    rw [rng_len] at hi
    cases (rng_get hi).symm.trans hx
    rfl
theorem ei_rng1 {r : List Int} (hr : rngO 0 i = some r) (h : Ev X a σ F Os rInt.v i Os1) (hm : X.mg "range" = none) (hg : Gl X "range" := by rfl) (he : starEach [a] X.env = [(false, eval a X.env)] := by rfl) (he2 : starEach [a] X.env = (false, eval a X.env) :: starEach [] X.env := by rfl) :
    Ei X tg (.Call (.Name "range" p2) [a] [] p3) σ F Os rInt r Os1 := fun F1 H s w Q q =>
  w_pi (pi_range1 hg hm (pa_cons pe_w pa_nil he2) he) (h.go s w fun v F2 H2 s2 w2 r2 => by
    obtain ⟨⟨⟨_, _, k3, k4⟩, k5⟩, rfl⟩ := rngO_some hr
    cases (show v = V.int i from r2)
    refine ⟨i, rfl, k3, k4, ?_⟩
    have z := q (Itr 0 i.toNat) F2 H2 s2 w2 (by have := itx_rng (F := F2) k5; rwa [Int.sub_zero] at this)
    exact z)
theorem ei_rng2 {r : List Int} (hr : rngO i j = some r) (h : Ev X a σ F Os rInt.v i Os1) (h2 : Ev X b σ F Os1 rInt.v j Os2) (hm : X.mg "range" = none) (hg : Gl X "range" := by rfl) (he : starEach [a, b] X.env = [(false, eval a X.env), (false, eval b X.env)] := by rfl) (he3 : starEach [b] X.env = [(false, eval b X.env)] := by rfl)
    (he2 : starEach [a, b] X.env = (false, eval a X.env) :: starEach [b] X.env := by rfl) (he4 : starEach [b] X.env = (false, eval b X.env) :: starEach [] X.env := by rfl) : Ei X tg (.Call (.Name "range" p2) [a, b] [] p3) σ F Os rInt r Os2 := fun F1 H s w Q q =>
  w_pi (pi_range2 hg hm (pa_cons pe_w (pa_cons pe_w pa_nil he4) he2) he he3) (h.go s w fun v F2 H2 s2 w2 r2 => h2.go (s.trans s2) w2 fun u F3 H3 s3 w3 r3 => by
    obtain ⟨ok, rfl⟩ := rngO_some hr
    cases (show v = V.int i from r2)
    cases (show u = V.int j from r3)
    exact ⟨i, j, rfl, ok.1, q _ F3 H3 (s2.trans s3) w3 (itx_rng ok.2)⟩)
/-! ### targets -/
def Wg (X : Cx) (tg : Expr) (v : V) (σ : St) (H : Hp) (Q : St → Hp → Prop) : Prop := ∀ pins s u, Inv X pins σ H s → RelV v u → wpAny (model X.prog X.w) X.A (assign tg X.env u) (fun _ s' => ∃ σ' H', Inv X pins σ' H' s' ∧ Q σ' H') X.xe s
theorem pg_w : PG X tg (fun v σ H Q => Wg X tg v σ H Q) := ⟨fun pins s _ _ _ u _ I r h => h pins s u I r⟩
theorem w_pg {g : TG} {Q : St → Hp → Prop} (h : PG X tg g) (q : g v σ H Q) : Wg X tg v σ H Q := fun pins s u I r => h.run pins s σ H v u Q I r q
theorem wg_name {Q : St → Hp → Prop} (hN : X.N.Nodup) (q : Q (σ.set n (some v)) H) (hn : X.N[n]? = some nm := by rfl) (hx : Loc X.env.scope nm := by first | exact Or.inl rfl | exact Or.inr rfl) (hf : X.fn nm = true ∨ X.env.scope.names.lookup nm = some .local := by first | exact .inl rfl | exact .inr rfl) : Wg X (.Name nm p1) v σ H Q :=
  w_pg (pg_name hN hn hx hf) q
theorem wg_t2 {d : Nat} {w2 : α × β} {Q : St → Hp → Prop} (r : (rT2 R S).r F v w2) (w : Wf F Os H) (k : ∀ v1 v2, R.r F v1 w2.1 → S.r F v2 w2.2 → Wg X a v1 σ H fun σ1 H1 => Wg X b v2 σ1 H1 Q)
    (hc : X.calm = true := by rfl) (hl : (assignEach [a, b] X.env).length = 2 := by rfl) (hst : (assignEach [a, b] X.env).findIdx? (·.1) = none := by rfl)
    (hp : ∀ {g1 g2 : TG}, PG X a g1 → PG X b g2 → PGs X [a, b] (gCons g1 (gCons g2 gNil)) := by intro _ _ h1 h2; exact pgs_cons h1 (pgs_cons h2 pgs_nil)) : Wg X (.Tuple [a, b] d pos) v σ H Q := by
  obtain ⟨p, u1, u2, rfl, g, q1, q2⟩ := r
  refine w_pg (pg_tup hc (hp pg_w pg_w) hl hst) ⟨p, [u1, u2], rfl, .of (w.sub _ _ g), rfl, u1, [u2], rfl, ?_⟩
  have z := k u1 u2 q1 q2
  intro pins s u I ru
  refine thn (z pins s u I ru) fun _ s' h => ?_
  obtain ⟨σ', H', I', h⟩ := h
  exact ⟨σ', H', I', u2, [], rfl, fun pins2 s2 u' I2 r2 => thn (h pins2 s2 u' I2 r2) fun _ s3 ⟨σ3, H3, I3, h3⟩ => ⟨σ3, H3, I3, rfl, h3⟩⟩
theorem wg_t3 {d : Nat} {w2 : α × β × γ} {Q : St → Hp → Prop} (r : (rT3 R S T).r F v w2) (w : Wf F Os H) (k : ∀ v1 v2 v3, R.r F v1 w2.1 → S.r F v2 w2.2.1 → T.r F v3 w2.2.2 → Wg X a v1 σ H fun σ1 H1 => Wg X b v2 σ1 H1 fun σ2 H2 => Wg X c v3 σ2 H2 Q)
    (hc : X.calm = true := by rfl) (hl : (assignEach [a, b, c] X.env).length = 3 := by rfl) (hst : (assignEach [a, b, c] X.env).findIdx? (·.1) = none := by rfl)
    (hp : ∀ {g1 g2 g3 : TG}, PG X a g1 → PG X b g2 → PG X c g3 → PGs X [a, b, c] (gCons g1 (gCons g2 (gCons g3 gNil))) := by intro _ _ _ h1 h2 h3; exact pgs_cons h1 (pgs_cons h2 (pgs_cons h3 pgs_nil))) : Wg X (.Tuple [a, b, c] d pos) v σ H Q := by
  obtain ⟨p, u1, u2, u3, rfl, g, q1, q2, q3⟩ := r
  refine w_pg (pg_tup hc (hp pg_w pg_w pg_w) hl hst) ⟨p, [u1, u2, u3], rfl, .of (w.sub _ _ g), rfl, u1, [u2, u3], rfl, ?_⟩
  have z := k u1 u2 u3 q1 q2 q3
  intro pins s u I ru
  refine thn (z pins s u I ru) fun _ s' ⟨σ', H', I', h⟩ => ?_
  refine ⟨σ', H', I', u2, [u3], rfl, fun pins2 s2 u' I2 r2 => thn (h pins2 s2 u' I2 r2) fun _ s3 ⟨σ3, H3, I3, h3⟩ => ?_⟩
  exact ⟨σ3, H3, I3, u3, [], rfl, fun pins4 s4 u4 I4 r4 => thn (h3 pins4 s4 u4 I4 r4) fun _ s5 ⟨σ5, H5, I5, h5⟩ => ⟨σ5, H5, I5, rfl, h5⟩⟩
/-- a, b = e -/
theorem ws_unpack (w : Wf F Os H) (he : Ev X e σ F Os W x Os1) (k : ∀ v F1 H1, Same F F1 → Wf F1 Os1 H1 → W.r F1 Os1 v x → Wg X tg v σ H1 (Ws X rest D))
    (hs : swapsWithSole [tg] e pos.line X.env = pure false := by rfl) (hw : swappedStores [tg] e X.env = pure none := by rfl) (h1 : (assignEach [tg] X.env).map (·.2) = [assign tg X.env] := by rfl) : Ws X (.Assign [tg] e pos :: rest) D σ H :=
  ws_cons (w_ps (ps_asg pe_w pg_w hs hw h1) (he.go (Same.refl _) w fun v F1 H1 s1 w1 r1 => k v F1 H1 s1 w1 r1))
/-! ### for -/
def LpN (F1 : Hp) (P : Hp → Owns → St → Prop) : St → Hp → Prop := fun σ H => ∃ F' Os', Wf F' Os' H ∧ Same F1 F' ∧ P F' Os' σ
theorem w1_forE (w : Wf F Os H) (hi : Ei X tg it σ F Os Y xs Os1)
    (k : ∀ F1 H1, Same F F1 → Wf F1 Os1 H1 → ∃ P : List α → Hp → Owns → St → Prop, P xs F1 Os1 σ ∧
      (∀ x r F2 Os2 σ' F3 H3 v, P (x :: r) F2 Os2 σ' → Same F1 F2 → Same F2 F3 → Wf F3 Os2 H3 → Y.r F3 v x → Wg X tg v σ' H3 (Ws X body { D with nx := LpN F1 (P r), ct := LpN F1 (P r), bk := D.nx })) ∧
      (∀ F2 Os2 σ' H', P [] F2 Os2 σ' → Same F1 F2 → Wf F2 Os2 H' → D.nx σ' H'))
    (hp : PassesOwn (model X.prog X.w) X.A X.env X.xe) (hc : X.calm = true := by rfl) (hs : ∀ x, foldedSetIterable it X.env x = pure x := by intro _; rfl) : W1 X (.For tg it body [] pos) D σ H := by
  refine w_ps (ps_for hp hc pi_w pg_w pss_w hs) ?_
  refine hi.go (Same.refl _) w fun J F1 H1 s1 w1 T => ?_
  obtain ⟨P, h0, ht, hd⟩ := k F1 H1 s1 w1
  refine ⟨fun i m σ' H' => m = xs.length - i ∧ i ≤ xs.length ∧ LpN F1 (P (xs.drop i)) σ' H', ⟨xs.length, by simp, Nat.zero_le _, F1, Os1, w1, Same.refl _, h0⟩, ?_⟩
  rintro i m σ' H' ⟨rfl, hi, F2, Os2, w2, s2, hP⟩
  by_cases hl : i < xs.length
  · refine .inr ⟨T.go i H' (s2.trans w2.sub) hl, LpN F1 (P (xs.drop (i + 1))), fun σ2 H2 q => ⟨xs.length - (i + 1), by omega, rfl, hl, q⟩, fun v H3 hy => ?_⟩
    obtain ⟨F3, s3, w3, hv⟩ := T.yld i H' v H3 F2 Os2 s2 w2 hy hl
    have hx : xs[i]? = some xs[i] := List.getElem?_eq_getElem hl
    rw [drop_cons hx] at hP
    exact ht _ _ F2 Os2 σ' F3 H3 v hP s2 s3 w3 (hv _ hx)
  · have e : i = xs.length := by omega
    subst e
    rw [List.drop_length] at hP
    exact .inl ⟨T.stop H' (s2.trans w2.sub), hd F2 Os2 σ' H' hP s2 w2⟩
/-! ### list comprehensions -/
/-- tests and element, each asked once a turn -/
def lcO (tO : α → Option Bool) (eO : α → Option β) : List α → Option (List β)
  | [] => some []
  | x :: r => bd (tO x) fun b => if b = true then bd (eO x) fun y => bd (lcO tO eO r) fun ys => some (y :: ys) else lcO tO eO r
theorem lcO_pure {c : α → Bool} {f : α → β} : ∀ xs : List α, lcO (fun x => some (c x)) (fun x => some (f x)) xs = some ((xs.filter c).map f)
  | [] => rfl
  | x :: r => by
    show bd (some (c x)) _ = _
    rw [bd_eq, List.filter_cons]
    cases h : c x with
    | true =>
      rw [if_pos rfl, if_pos rfl, bd_eq, lcO_pure r]
      rfl
    | false =>
      rw [if_neg (by decide), if_neg (by decide), lcO_pure r]
theorem lcO_cons {tO : α → Option Bool} {eO : α → Option β} {x : α} {r : List α} {ys : List β} (h : lcO tO eO (x :: r) = some ys) : ∃ b, tO x = some b ∧ (b = true → ∃ y ys', eO x = some y ∧ lcO tO eO r = some ys' ∧ ys = y :: ys') ∧ (b = false → lcO tO eO r = some ys) := by
  obtain ⟨b, h1, h2⟩ := bd_some h
  refine ⟨b, h1, fun hb => ?_, fun hb => ?_⟩
  · rw [if_pos hb] at h2
    obtain ⟨y, h3, h4⟩ := bd_some h2
    obtain ⟨ys', h5, h6⟩ := bd_some h4
    exact ⟨y, ys', h3, h5, (Option.some.inj h6).symm⟩
  · rw [if_neg (by rw [hb]; decide)] at h2
    exact h2
theorem lcO_len {tO : α → Option Bool} {eO : α → Option β} : ∀ {xs : List α} {ys : List β}, lcO tO eO xs = some ys → ys.length ≤ xs.length
  | [], ys, h => by cases h; exact Nat.le_refl _
  | x :: r, ys, h => by
    obtain ⟨b, _, h2, h3⟩ := lcO_cons h
    cases b with
    | true =>
      obtain ⟨y, ys', _, h5, rfl⟩ := h2 rfl
      have := lcO_len h5
      simp only [List.length_cons]
      omega
    | false =>
      have := lcO_len (h3 rfl)
      simp only [List.length_cons]
      omega
abbrev BX (X : Cx) (scope : Scope) (s : Shared) (H : Hp) (C : Addr) (cl : List (Str × Addr)) (fp : List Addr) : Cx := X.blk s H scope (compEnvC scope cl C X.env) fp
/-- the comprehension's names in a turn: Tg F x σ' says what σ' is -/
abbrev gB (X : Cx) (scope : Scope) (tg : Expr) : TG := fun v σ H Q => ∀ s H' C cl fp, Wg (BX X scope s H' C cl fp) tg v σ H Q
abbrev eB (X : Cx) (scope : Scope) (elt : Expr) : TE := fun σ H Q => ∀ s H' C cl fp, We (BX X scope s H' C cl fp) elt σ H Q
abbrev tB1 (X : Cx) (scope : Scope) (c : Expr) : TT := fun σ H Q => ∀ s H' C cl fp, Wt (BX X scope s H' C cl fp) c σ H Q
theorem gB_ok {scope : Scope} : ∀ s H C cl fp, PG (BX X scope s H C cl fp) tg (gB X scope tg) := fun s H C cl fp => ⟨fun pins s' _ _ _ u _ I r h => h s H C cl fp pins s' u I r⟩
theorem eB_ok {scope : Scope} : ∀ s H C cl fp, PE (BX X scope s H C cl fp) elt (eB X scope elt) := fun s H C cl fp => ⟨fun pins s' _ _ _ I h => h s H C cl fp pins s' I⟩
theorem tB1_ok {scope : Scope} : ∀ s H C cl fp, PTs (BX X scope s H C cl fp) [c] (tB1 X scope c) := fun s H C cl fp => pts_one ⟨fun pins s' _ _ _ I h => h s H C cl fp pins s' I⟩
/-- what a comprehension's target does in a turn -/
abbrev TgB (X : Cx) (scope : Scope) (σ : St) (vs : List Nat) (tg : Expr) (Y : Rep α) (Tg : Hp → α → St → Prop) : Prop :=
  ∀ F3 Os3 H3 v x, Wf F3 Os3 H3 → Y.r F3 v x → ∀ Q : St → Hp → Prop, (∀ σ', Tg F3 x σ' → wipe σ' vs = wipe σ vs → Q σ' H3) → ∀ s H C cl fp, Wg (BX X scope s H C cl fp) tg v (wipe σ vs) H3 Q
theorem lc_read {scope : Scope} {vs : List Nat} {tt : TT} (hi : Ei X tg it σ F Os Y xs Os1) (Tg : Hp → α → St → Prop) {tO : α → Option Bool} {eO : α → Option β} {ys : List β} (hf : lcO tO eO xs = some ys) (hT : TgB X scope σ vs tg Y Tg)
    (ht : ∀ q x b F1 σ', tO x = some b → Same F F1 → Tg F1 x σ' → ∀ F2 H2, Same F1 F2 → Wf F2 (q :: Os1) H2 → ∀ Q : Bool → Hp → Prop, (∀ F3 H3, Same F2 F3 → Wf F3 (q :: Os1) H3 → Q b H3) → tt σ' H2 Q)
    (he : ∀ q x y F1 σ', eO x = some y → Same F F1 → Tg F1 x σ' → ∀ s H C cl fp, Ev (BX X scope s H C cl fp) elt σ' F1 (q :: Os1) S.v y (q :: Os1)) {F0 H0 : Hp} (s0 : Same F F0) (w0 : Wf F0 Os H0) {Q : VK}
    (q : ∀ p F' H', Same F0 F' → Wf F' ((p, oList S ys) :: Os1) H' → Q (.ref p) H') : tLc (Wi X tg it) (gB X scope tg) tt (eB X scope elt) vs σ H0 Q := by
  refine hi.go s0 w0 fun J F1 H1 s1 w1 T => fun Dl hD => ?_
  -- what is made so far: acc; what is left: the rest of xs
  let P : Nat → Hp → Prop := fun i H => ∃ F' acc zs, Wf F' ((Dl, oList S acc) :: Os1) H ∧ Same F1 F' ∧ lcO tO eO (xs.drop i) = some zs ∧ ys = acc ++ zs ∧ acc.length ≤ i
  have hsz := sizeLine_eq
  refine ⟨fun i m H => m = xs.length - i ∧ i ≤ xs.length ∧ P i H, ⟨xs.length, by simp, Nat.zero_le _, F1, [], ys, w1.new hD ⟨[], rfl, .nil⟩, Same.refl _, hf, rfl, Nat.le_refl _⟩, ?_⟩
  rintro i m H ⟨rfl, hi, F2, acc, zs, w2, s2, hf2, rfl, hl2⟩
  by_cases hl : i < xs.length
  · refine .inr ⟨T.go i H (s2.trans w2.sub) hl, P (i + 1), fun H' p => ⟨xs.length - (i + 1), by omega, rfl, hl, p⟩, fun v H3 hy => ?_⟩
    obtain ⟨F3, s3, w3, hv⟩ := T.yld i H v H3 F2 _ s2 w2 hy hl
    have hx : xs[i]? = some xs[i] := List.getElem?_eq_getElem hl
    rw [drop_cons hx] at hf2
    obtain ⟨b, hb, hb1, hb2⟩ := lcO_cons hf2
    refine hT F3 _ H3 v xs[i] w3 (hv _ hx) _ fun σ' htg hw => ⟨hw, ?_⟩
    have sF : Same F F3 := s0.trans (s1.trans (s2.trans s3))
    refine ht (Dl, oList S acc) xs[i] b F3 σ' hb sF htg F3 H3 (Same.refl _) w3 _ fun F4 H4 s4 w4 => ?_
    cases b with
    | false => exact ⟨F4, acc, zs, w4, s2.trans (s3.trans s4), hb2 rfl, rfl, by omega⟩
    | true =>
      obtain ⟨y, zs', h5, h6, rfl⟩ := hb1 rfl
      intro s H' C cl fp
      refine (he (Dl, oList S acc) xs[i] y F3 σ' h5 sF htg s H' C cl fp).go s4 w4 fun u F5 H5 s5 w5 r5 => ?_
      obtain ⟨h7, o, h8, vs, rfl, h9⟩ := w5.at (i := 0) rfl
      refine ⟨vs, h8, by have := T.len; rw [h9.length]; omega, F5, acc ++ [y], zs', ?_, s2.trans (s3.trans (s4.trans s5)), h6, by simp, by simp; omega⟩
      exact w5.set (i := 0) rfl ⟨_, rfl, paired_append h9 (.cons r5 .nil)⟩
  · have e : i = xs.length := by omega
    subst e
    rw [List.drop_length] at hf2
    cases hf2
    refine .inl ⟨T.stop H (s2.trans w2.sub), ?_⟩
    rw [List.append_nil] at q
    exact q Dl F2 H (s1.trans s2) w2
/-- no test; one test -/
theorem evn_lc0 {scope : Scope} {own : List (Str × Nat)} (hi : Ei X tg it σ F Os Y xs Os1) (Tg : Hp → α → St → Prop) {eO : α → Option β} {ys : List β} (hf : lcO (fun _ => some true) eO xs = some ys) (hT : TgB X scope σ (own.map (·.2)) tg Y Tg)
    (he : ∀ q x y F1 σ', eO x = some y → Same F F1 → Tg F1 x σ' → ∀ s H C cl fp, Ev (BX X scope s H C cl fp) elt σ' F1 (q :: Os1) S.v y (q :: Os1))
    (hN : X.N.Nodup) (ok : BlkOk X.N X.env.scope scope own) (hc : X.calm = true := by rfl) (hs : ∀ x, foldedSetIterable it X.env x = pure x := by intro _; rfl) :
    EvN X (.ListComp elt [⟨tg, it, [], 0⟩] scope pos) σ F Os (oList S ys) Os1 := fun F0 H0 s0 w0 Q q =>
  w_pe (pe_lc (own := own) hc hN pi_w ok gB_ok (fun _ _ _ _ _ => pts_nil) eB_ok hs) (lc_read (tO := fun _ => some true) hi Tg hf hT (fun q x b F1 σ' hb _ _ F2 H2 _ w Q k => by
    cases hb
    exact k F2 H2 (Same.refl _) w) he s0 w0 q)
theorem evn_lc1 {scope : Scope} {own : List (Str × Nat)} (hi : Ei X tg it σ F Os Y xs Os1) (Tg : Hp → α → St → Prop) {tO : α → Option Bool} {eO : α → Option β} {ys : List β} (hf : lcO tO eO xs = some ys) (hT : TgB X scope σ (own.map (·.2)) tg Y Tg)
    (ht : ∀ q x b F1 σ', tO x = some b → Same F F1 → Tg F1 x σ' → ∀ s H C cl fp, Et (BX X scope s H C cl fp) c σ' F1 (q :: Os1) b (q :: Os1))
    (he : ∀ q x y F1 σ', eO x = some y → Same F F1 → Tg F1 x σ' → ∀ s H C cl fp, Ev (BX X scope s H C cl fp) elt σ' F1 (q :: Os1) S.v y (q :: Os1))
    (hN : X.N.Nodup) (ok : BlkOk X.N X.env.scope scope own) (hc : X.calm = true := by rfl) (hs : ∀ x, foldedSetIterable it X.env x = pure x := by intro _; rfl) :
    EvN X (.ListComp elt [⟨tg, it, [c], 0⟩] scope pos) σ F Os (oList S ys) Os1 := fun F0 H0 s0 w0 Q q =>
  w_pe (pe_lc (own := own) hc hN pi_w ok gB_ok tB1_ok eB_ok hs) (lc_read hi Tg hf hT (fun q x b F1 σ' hb sF htg F2 H2 s2 w2 Q k => fun s H' C cl fp => (ht q x b F1 σ' hb sF htg s H' C cl fp).go s2 w2 k) he s0 w0 q)
/-- y = [..], the store within the comprehension's frame -/
theorem ws_setLc0 {scope : Scope} {own : List (Str × Nat)} (w : Wf F Os H) (hi : Ei X tg it σ F Os Y xs Os1) (Tg : Hp → α → St → Prop) {eO : α → Option β} {ys : List β} (hf : lcO (fun _ => some true) eO xs = some ys) (hT : TgB X scope σ (own.map (·.2)) tg Y Tg)
    (he : ∀ q x y F1 σ', eO x = some y → Same F F1 → Tg F1 x σ' → ∀ s H C cl fp, Ev (BX X scope s H C cl fp) elt σ' F1 (q :: Os1) S.v y (q :: Os1))
    (hN : X.N.Nodup) (ok : BlkOk X.N X.env.scope scope own) (k : ∀ p F1 H1, Same F F1 → Wf F1 ((p, oList S ys) :: Os1) H1 → Ws X rest D (σ.set n (some (.ref p))) H1)
    (hsw : swapsWith (.ListComp elt [⟨tg, it, [], 0⟩] scope p3) (some (.Name nm p1)) pos.line X.env = pure true) (hn : X.N[n]? = some nm := by rfl) (hl : X.env.scope.names.lookup nm = some .local := by rfl) (hc : X.calm = true := by rfl) (hs : ∀ x, foldedSetIterable it X.env x = pure x := by intro _; rfl) :
    Ws X (.Assign [.Name nm p1] (.ListComp elt [⟨tg, it, [], 0⟩] scope p3) pos :: rest) D σ H :=
  ws_cons (w_ps (ps_setLc (own := own) hc hN hn hl hsw pi_w ok gB_ok (fun _ _ _ _ _ => pts_nil) eB_ok hs) (lc_read (tO := fun _ => some true) hi Tg hf hT (fun q x b F1 σ' hb _ _ F2 H2 _ w Q k => by
    cases hb
    exact k F2 H2 (Same.refl _) w) he (Same.refl _) w k))
theorem ws_setLc1 {scope : Scope} {own : List (Str × Nat)} (w : Wf F Os H) (hi : Ei X tg it σ F Os Y xs Os1) (Tg : Hp → α → St → Prop) {tO : α → Option Bool} {eO : α → Option β} {ys : List β} (hf : lcO tO eO xs = some ys) (hT : TgB X scope σ (own.map (·.2)) tg Y Tg)
    (ht : ∀ q x b F1 σ', tO x = some b → Same F F1 → Tg F1 x σ' → ∀ s H C cl fp, Et (BX X scope s H C cl fp) c σ' F1 (q :: Os1) b (q :: Os1))
    (he : ∀ q x y F1 σ', eO x = some y → Same F F1 → Tg F1 x σ' → ∀ s H C cl fp, Ev (BX X scope s H C cl fp) elt σ' F1 (q :: Os1) S.v y (q :: Os1))
    (hN : X.N.Nodup) (ok : BlkOk X.N X.env.scope scope own) (k : ∀ p F1 H1, Same F F1 → Wf F1 ((p, oList S ys) :: Os1) H1 → Ws X rest D (σ.set n (some (.ref p))) H1)
    (hsw : swapsWith (.ListComp elt [⟨tg, it, [c], 0⟩] scope p3) (some (.Name nm p1)) pos.line X.env = pure true) (hn : X.N[n]? = some nm := by rfl) (hl : X.env.scope.names.lookup nm = some .local := by rfl) (hc : X.calm = true := by rfl) (hs : ∀ x, foldedSetIterable it X.env x = pure x := by intro _; rfl) :
    Ws X (.Assign [.Name nm p1] (.ListComp elt [⟨tg, it, [c], 0⟩] scope p3) pos :: rest) D σ H :=
  ws_cons (w_ps (ps_setLc (own := own) hc hN hn hl hsw pi_w ok gB_ok tB1_ok eB_ok hs) (lc_read hi Tg hf hT (fun q x b F1 σ' hb sF htg F2 H2 s2 w2 Q k => fun s H' C cl fp => (ht q x b F1 σ' hb sF htg s H' C cl fp).go s2 w2 k) he (Same.refl _) w k))
theorem lcO_pure0 {f : α → β} : ∀ xs : List α, lcO (fun _ => some true) (fun x => some (f x)) xs = some (xs.map f)
  | [] => rfl
  | x :: r => by
    show bd (some true) _ = _
    rw [bd_eq, if_pos rfl, bd_eq, lcO_pure0 r]
    rfl
end
end Z

namespace Z
open PySem PySem.Spec PyProof.Rows L2
/-! ### sorted(set(xs)), ints, below 4095 of them -/
section
variable {P : Program} {w : World} {A : Around} {E : Value → Shared → Prop} {s : Shared}
/-- a new set -/
abbrev eS (w : World) : Obj := { cls := .type "set", dict := none, data := .set #[] 0 (.fresh 0 0 (!w.params.followText "set-order")) }
/-- what is known of the set behind -/
def SetIs (w : World) (h : Heap) (ns : List Int) (h' : Heap) : Prop :=
  (∃ c, c ≤ ns.length ∧ SetR w h' h.objs.size (fun j => decide (j ∈ ns)) c) ∧ ∀ b o, h.get? b = some o → h'.get? b = some o
theorem get_push {h : Heap} {u : Obj} {b : Addr} {o : Obj} (e : h.get? b = some o) : (h.push u).get? b = some o := Heap.get?_push_of_some _ e
/-- the set's filling -/
theorem set_fill {l : Addr} {its : Array Value} {ns : List Int} {Q : Unit → Shared → Prop} (hh : A.handled = none) (hl : s.heap.IsList l its) (hi : IntsAre its.toList ns) (hb : ns.length + 1 < scanBound)
    (q : ∀ h' tk, SetIs w s.heap ns h' → Q () { s with heap := h', toks := tk }) :
    wpAny (model P w) A (Builtin.Frozenset.updateFrom "set.__init__" s.heap.objs.size (.ref l)) Q E { s with heap := s.heap.push (eS w) } := by
  obtain ⟨⟨cl, od, dt, sl⟩, ho, hc, n, hd⟩ := hl
  simp only at hc hd
  subst hc hd
  have k0 := get_push (u := eS w) ho
  have kS : (s.heap.push (eS w)).get? s.heap.objs.size = some (eS w) := Heap.get?_push_size _ rfl
  have z1 := F.sub_list_set
  have z2 := F.sub_list_frozenset
  have z3 : (Value.type "list" == Value.type "dict") = false := by decide
  unfold Builtin.Frozenset.updateFrom
  generalize hp : pyIter = pi
  wp_walk
  subst hp
  have i1 : its.size = ns.length := (Array.length_toList ▸ hi.length :)
  have lt : l < s.heap.objs.size := Heap.lt_size ho
  have zz : (s.heap.push (eS w)).objs.size = s.heap.objs.size + 1 := Heap.size_push ..
  refine wpAny_pyIter_list ⟨_, k0, rfl, n, rfl⟩ (wpAny_bind (wpAny_runValue ?_))
  have at' : ∀ (i : Nat) (v : Value), its[i]? = some v → ∃ k t, ns[i]? = some k ∧ v = Value.int k t := fun i v hv => by
    have hb := (Array.getElem?_eq_some_iff.mp hv).1
    obtain ⟨t, e⟩ := hi.int_at i v (by rw [Array.getElem?_toList]; exact hv)
    have g := List.getElem?_eq_getElem (i1 ▸ hb : i < ns.length)
    exact ⟨_, t, g, by rw [e, List.getD_eq_getElem?_getD, g]; rfl⟩
  have ne1 : l ≠ (s.heap.push (eS w)).objs.size := Nat.ne_of_lt (zz ▸ Nat.lt_succ_of_lt lt)
  have hn : s.heap.objs.size ∉ [(s.heap.push (eS w)).objs.size, l] := by
    simp only [List.mem_cons, List.not_mem_nil, or_false, not_or]
    exact ⟨Nat.ne_of_lt (zz ▸ Nat.lt_succ_self _), Nat.ne_of_gt lt⟩
  have W := (Walks.list (prog := P) (w := w) (A := A.in1) hh _ l ne1 its).toS
  refine set_update_ints W s.heap.objs.size hn ns i1 hb at' its.size 0 _ (by omega) (Nat.zero_le _) ⟨⟨_, Heap.get?_push_size _ rfl, rfl, rfl⟩, ⟨_, get_push k0, rfl, n, rfl⟩⟩ ⟨0, Nat.le_refl 0, setR_new_at (get_push kS)⟩ fun s' c m hc r => ?_
  have e : s' = { s with heap := s'.heap, toks := s'.toks } := by
    have h1 := m.gens
    have h2 := m.drawn
    have h3 := m.os
    cases s'
    cases s
    cases h1
    cases h2
    cases h3
    rfl
  refine wpAny_pure ?_
  rw [e]
  refine q _ _ ⟨⟨c, i1 ▸ hc, r⟩, fun b o hb => m.heap b o ?_ (get_push (get_push hb))⟩
  have lb := Heap.lt_size hb
  simp only [List.mem_cons, List.not_mem_nil, or_false, not_or]
  exact ⟨Nat.ne_of_lt lb, Nat.ne_of_lt (zz ▸ Nat.lt_succ_of_lt lb)⟩
/-- set(l) -/
theorem set_of_list {l : Addr} {its : Array Value} {ns : List Int} {Q : Value → Shared → Prop} (hh : A.handled = none) (hl : s.heap.IsList l its) (hi : IntsAre its.toList ns) (hb : ns.length + 1 < scanBound)
    (q : ∀ h' tk, SetIs w s.heap ns h' → Q (.ref s.heap.objs.size) { s with heap := h', toks := tk }) : wpAny (model P w) A (call (.type "set") [.ref l]) Q E s := by
  refine wpAny_call (codeAny_of_tree ?_)
  show wpAny _ _ (callAny (.type "set") _) _ _ _
  refine wpAny_pure ⟨Code.quiet_builtin _ (by decide +kernel), codeAny_builtin F.entry_type_call ?_⟩
  rw [Around.under_plain rfl rfl]
  obtain ⟨_, _, m⟩ := F.called_set.mro
  have m2 := F.called_set.made
  have m3 := F.called_set.sub
  have m4 := F.called_set.notType
  have m5 := F.called_set.canCreate
  have m6 := F.typeCall_set_1 (.ref l)
  repeat (any_goals (first | assumption | wp_step))
  refine codeAny_mono (code_set_led1 (.ref l) (E := E) (Q₁ := fun o s1 => o = .ref s.heap.objs.size ∧ s1 = { s with heap := s.heap.push (eS w) }) ⟨rfl, rfl⟩) fun r s1 h => ?_
  match r, h with
  | .error e, h => exact h
  | .ok (.ret o), h =>
    obtain ⟨rfl, rfl⟩ := h
    have kS : (s.heap.push (eS w)).get? s.heap.objs.size = some (eS w) := Heap.get?_push_size _ rfl
    have hT : Shared.TypeIs { s with heap := s.heap.push (eS w) } (.ref s.heap.objs.size) "set" := ⟨_, kS, rfl⟩
    have m7 := F.called_set.init.lookup
    have m8 := F.called_set.init.bind (.ref s.heap.objs.size)
    repeat (any_goals (first | assumption | wp_step))
    refine codeAny_mono (codeAny_call_builtin (R := wants (fun r s2 => r = .none ∧ ∃ h' tk, s2 = { s with heap := h', toks := tk } ∧ SetIs w s.heap ns h') E) F.called_set.init.plain F.entry_set_init (check_set_init_1 hT ?_)) fun r2 s2 h2 => ?_
    · unfold Builtin.«set.__init__» noKeywords
      generalize hu : Builtin.Frozenset.updateFrom = uf
      wp_walk
      subst hu
      exact set_fill (by simpa using hh) hl hi hb fun h' tk r => wpAny_pure ⟨rfl, h', tk, rfl, r⟩
    · match r2, h2 with
      | .error e, h2 => exact h2
      | .ok (.ret o), h2 =>
        obtain ⟨rfl, h', tk, rfl, hq⟩ := h2
        repeat (any_goals (first | assumption | wp_step))
        exact q _ _ hq
end
/-- sorted(a), a set -/
theorem sorted_any {P : Program} {w : World} {A : Around} {E : Value → Shared → Prop} {s : Shared} {a : Addr} {S : Int → Bool} {n : Nat} {Q : Value → Shared → Prop} (R : SetR w s.heap a S n) (hh : A.handled = none)
    (q : ∀ s' p (out : List Value) (c : Nat) (ns : List Int), (∀ b o, s.heap.get? b = some o → s'.heap.get? b = some o) → s'.gens = s.gens → s'.os = s.os → s.heap.objs.size ≤ p → s'.heap.get? p = some (seqObj "list" out.toArray c) →
      IntsAre out ns → ns.Pairwise (· < ·) → (∀ k, k ∈ ns ↔ S k = true) → ns.length ≤ sizeLine → Q (.ref p) s') : wpAny (model P w) A (call (.builtin "sorted") [.ref a]) Q E s := by
  obtain ⟨o, es, ep, t, ho, he, hd, g, nd, mm, hb, hf, _, hr, hl⟩ := R
  refine Calls.call_function_entry kind_sorted plain_sorted entry_sorted (args_sorted1 _) ?_
  unfold Builtin.«sorted»
  refine wpAny_bind (m := checkCount "sorted" 1 1 _) (wpAny_pure ?_)
  have kk : ∀ v ∈ es.toList.map (·.2), ∃ i u, v = Value.int i u := fun v hv => by
    obtain ⟨x, hx, e⟩ := List.mem_map.mp hv
    obtain ⟨i, u, e1, _⟩ := g x hx
    exact ⟨i, u, e.symm.trans e1⟩
  refine wpAny_bind (collect_set (A := A.in1) hh ⟨o, ho, he.1, hd⟩ hf hb hr hl fun s1 vs k1 z1 g1 o1 pm => ?_)
  have vi : IntsAre vs (vs.map SrtO.iv) := SrtO.ints_iv fun v hv => kk v (pm.mem_iff.mp hv)
  have vz : vs.length ≤ sizeLine := by
    rw [pm.length_eq, List.length_map, Array.length_toList]
    exact fits_of_scanBound hb
  have ee : (es.toList.map (·.2)).map SrtO.iv = es.toList.map keyOf := by
    rw [List.map_map]
    refine List.map_congr_left fun x hx => ?_
    obtain ⟨i, u, e1, _⟩ := g x hx
    show SrtO.iv x.2 = Builtin.Re.reRawOf x.2
    rw [e1]
    rfl
  refine wpAny_bind (wpAny_newList ?_ vz)
  have hm : (s1.heap.push (seqObj "list" vs.toArray 0)).get? s1.heap.objs.size = some (seqObj "list" vs.toArray 0) := Heap.get?_push_size _ rfl
  refine wpAny_bind (wpAny_holding (wpAny_call_entry slot_list_sort ⟨_, hm, rfl⟩ entry_list_sort (SrtO.list_sort_ord SrtO.swo_int hm vz (fun h2 => SrtO.ints_sortable vi h2) fun out h1 h2 => ⟨_, rfl, ?_⟩) (args_list_sort _)))
  obtain ⟨c, hc⟩ := sortedHeap_at (vs := vs) (out := out.toArray) hm
  obtain ⟨x1, x2, x3⟩ := SrtO.ints_out vi h1 h2
  have pn : (out.map SrtO.iv).Perm (es.toList.map keyOf) := ee ▸ x2.trans (pm.map SrtO.iv)
  refine wpAny_pure ⟨_, rfl, q _ _ out c _ (fun b u e => ?_) g1 o1 z1 hc x1 (lt_of_le_nodup _ x3 (pn.nodup_iff.mpr nd)) (fun k => by rw [pn.mem_iff, mm k]) ?_⟩
  · have e1 := k1 b u e
    have lb := Heap.lt_size e1
    exact (sortedHeap_old (Nat.ne_of_lt lb) (by rw [Heap.size_push]; exact Nat.lt_succ_of_lt lb)).trans (get_push e1)
  · rw [List.length_map, h2.perm.length_eq]
    exact vz
end Z

namespace Z
open PySem PySem.Spec L2
/-! ### data and their equality -/
structure Enc {α : Type} [DecidableEq α] (e : α → PyData) (n : Nat) : Prop where
  lay : ∀ x, (e x).canLay0 = true
  dep : ∀ x, (e x).depth ≤ n
  eq : ∀ x y, PyData.eqv (e x) (e y) = decide (x = y)
def DV {α : Type} (W : Vw α) (e : α → PyData) : Prop := ∀ (K : PySem.W.Frag) F Os H v x, Wf F Os H → W.r F Os v x → Dp K H v (e x)
def DR {α : Type} (R : Rep α) (e : α → PyData) : Prop := ∀ (K : PySem.W.Frag) F H v x, Same F H → R.r F v x → Dp K H v (e x)
section
variable {α β γ : Type} [DecidableEq α] [DecidableEq β] [DecidableEq γ] {R : Rep α} {S : Rep β} {T : Rep γ} {e : α → PyData} {f : β → PyData} {g : γ → PyData} {n m k : Nat}
def dI : Int → PyData := .int
def dB : Bool → PyData := .bool
def dO (e : α → PyData) : Option α → PyData
  | none => .none
  | some x => e x
def dL (e : α → PyData) (xs : List α) : PyData := .list (xs.map e)
def dU (e : α → PyData) (xs : List α) : PyData := .tuple (xs.map e)
def d2 (e : α → PyData) (f : β → PyData) (x : α × β) : PyData := .tuple [e x.1, f x.2]
def d3 (e : α → PyData) (f : β → PyData) (g : γ → PyData) (x : α × β × γ) : PyData := .tuple [e x.1, f x.2.1, g x.2.2]
theorem enc_I : Enc dI 0 := ⟨fun x => rfl, fun x => Nat.le_refl _, fun x y => by
  show (PyData.int x).eqv (.int y) = _
  rw [PyData.eqv, Bool.beq_eq_decide_eq]⟩
theorem enc_B : Enc dB 0 := ⟨fun x => rfl, fun x => Nat.le_refl _, fun x y => by
  show (PyData.bool x).eqv (.bool y) = _
  rw [PyData.eqv, Bool.beq_eq_decide_eq]⟩
theorem lay_all (h : ∀ x, (e x).canLay0 = true) : ∀ xs : List α, PyData.canLayAll0 (xs.map e) = true
  | [] => rfl
  | x :: r => by
    rw [List.map_cons, PyData.canLayAll0, h x, lay_all h r]
    rfl
theorem dep_all (h : ∀ x, (e x).depth ≤ n) : ∀ xs : List α, PyData.depthAll (xs.map e) ≤ n
  | [] => Nat.zero_le _
  | x :: r => by
    rw [List.map_cons, PyData.depthAll]
    have := h x
    have := dep_all h r
    omega
theorem eqv_all (h : ∀ x y, PyData.eqv (e x) (e y) = decide (x = y)) : ∀ xs ys : List α, PyData.eqvAll (xs.map e) (ys.map e) = decide (xs = ys)
  | [], [] => rfl
  | [], y :: ys => by simp [PyData.eqvAll]
  | x :: xs, [] => by simp [PyData.eqvAll]
  | x :: xs, y :: ys => by
    rw [List.map_cons, List.map_cons, PyData.eqvAll, h, eqv_all h xs ys, ← Bool.decide_and]
    exact decide_eq_decide.mpr (by simp)
theorem enc_L (h : Enc e n) : Enc (dL e) (n + 1) := ⟨fun x => by
    show (PyData.list _).canLay0 = true
    rw [PyData.canLay0, lay_all h.lay x], fun x => by
    show (PyData.list _).depth ≤ _
    rw [PyData.depth]
    have := dep_all h.dep x
    omega, fun x y => by
    show (PyData.list _).eqv (.list _) = _
    rw [PyData.eqv, eqv_all h.eq]⟩
theorem enc_U (h : Enc e n) : Enc (dU e) (n + 1) := ⟨fun x => by
    show (PyData.tuple _).canLay0 = true
    rw [PyData.canLay0, lay_all h.lay x], fun x => by
    show (PyData.tuple _).depth ≤ _
    rw [PyData.depth]
    have := dep_all h.dep x
    omega, fun x y => by
    show (PyData.tuple _).eqv (.tuple _) = _
    rw [PyData.eqv, eqv_all h.eq]⟩
theorem enc_2 (h : Enc e n) (h' : Enc f m) : Enc (d2 e f) (max n m + 1) := ⟨fun x => by
    show (PyData.tuple [_, _]).canLay0 = true
    simp [PyData.canLay0, PyData.canLayAll0, h.lay, h'.lay], fun x => by
    show (PyData.tuple [_, _]).depth ≤ _
    have := h.dep x.1
    have := h'.dep x.2
    simp [PyData.depth, PyData.depthAll]
    omega, fun x y => by
    show (PyData.tuple [_, _]).eqv (.tuple [_, _]) = _
    simp [PyData.eqv, PyData.eqvAll, h.eq, h'.eq, Prod.ext_iff]⟩
theorem enc_3 (h : Enc e n) (h' : Enc f m) (h2 : Enc g k) : Enc (d3 e f g) (max n (max m k) + 1) := ⟨fun x => by
    show (PyData.tuple [_, _, _]).canLay0 = true
    simp [PyData.canLay0, PyData.canLayAll0, h.lay, h'.lay, h2.lay], fun x => by
    show (PyData.tuple [_, _, _]).depth ≤ _
    have := h.dep x.1
    have := h'.dep x.2.1
    have := h2.dep x.2.2
    simp [PyData.depth, PyData.depthAll]
    omega, fun x y => by
    show (PyData.tuple [_, _, _]).eqv (.tuple [_, _, _]) = _
    simp [PyData.eqv, PyData.eqvAll, h.eq, h'.eq, h2.eq, Prod.ext_iff]⟩
theorem enc_O (h : Enc e n) (hn : ∀ x, PyData.eqv (e x) .none = false ∧ PyData.eqv .none (e x) = false) : Enc (dO e) n := ⟨fun x => by
    cases x with
    | none => rfl
    | some y => exact h.lay y, fun x => by
    cases x with
    | none => exact Nat.zero_le _
    | some y => exact h.dep y, fun x y => by
    cases x with
    | none =>
      cases y with
      | none => show PyData.eqv .none .none = _; simp [PyData.eqv]
      | some y => show PyData.eqv .none (e y) = _; rw [(hn y).2]; simp
    | some x =>
      cases y with
      | none => show PyData.eqv (e x) .none = _; rw [(hn x).1]; simp
      | some y => show PyData.eqv (e x) (e y) = _; rw [h.eq]; simp⟩
theorem Enc.shaped (h : Enc e n) (hn : n ≤ 64) (x : α) : SeqAt.shaped (e x) = true := by
  unfold SeqAt.shaped
  rw [h.lay x, decide_eq_true (Nat.le_trans (h.dep x) hn)]
  rfl
theorem DR.v {α : Type} {R : Rep α} {e : α → PyData} (h : DR R e) : DV R.v e := fun K F Os H v x w r => h K F H v x w.sub r
theorem dr_I : DR rInt dI := fun K F H v x s r => by
  cases (show v = V.int x from r)
  exact .int x
theorem dr_B : DR rBool dB := fun K F H v x s r => by
  cases (show v = V.bl x from r)
  exact .bl x
theorem dp_all {α : Type} {R : Rep α} {e : α → PyData} {K : PySem.W.Frag} {F H : Hp} (h : DR R e) (s : Same F H) : ∀ {vs : List V} {xs : List α}, Paired (R.r F) vs xs → DpAll K H vs (xs.map e)
  | _, _, .nil => .nil
  | _, _, .cons r t => .cons (h K F H _ _ s r) (dp_all h s t)
theorem dv_L {α : Type} {R : Rep α} {e : α → PyData} (h : DR R e) : DV (vList R) (dL e) := fun K F Os H v x w r => by
  obtain ⟨p, o, rfl, h1, vs, rfl, h2⟩ := vOf.get w r
  exact .lst (.of h1) (dp_all h w.sub h2)
theorem dr_L {α : Type} {R : Rep α} {e : α → PyData} (h : DR R e) : DR (rList R) (dL e) := fun K F H v x s r => by
  obtain ⟨p, o, rfl, h1, vs, rfl, h2⟩ := r
  exact .lst (.of (s _ _ h1)) (dp_all h s h2)
theorem dr_U {α : Type} {R : Rep α} {e : α → PyData} (h : DR R e) : DR (rTup R) (dU e) := fun K F H v x s r => by
  obtain ⟨p, vs, rfl, h1, h2⟩ := r
  exact .tup (.of (s _ _ h1)) (dp_all h s h2)
theorem dr_2 {α β : Type} {R : Rep α} {S : Rep β} {e : α → PyData} {f : β → PyData} (h : DR R e) (h' : DR S f) : DR (rT2 R S) (d2 e f) := fun K F H v x s r => by
  obtain ⟨p, u1, u2, rfl, h1, h2, h3⟩ := r
  exact .tup (.of (s _ _ h1)) (.cons (h K F H _ _ s h2) (.cons (h' K F H _ _ s h3) .nil))
theorem dr_3 {α β γ : Type} {R : Rep α} {S : Rep β} {T : Rep γ} {e : α → PyData} {f : β → PyData} {g : γ → PyData} (h : DR R e) (h' : DR S f) (h'' : DR T g) : DR (rT3 R S T) (d3 e f g) := fun K F H v x s r => by
  obtain ⟨p, u1, u2, u3, rfl, h1, h2, h3, h4⟩ := r
  exact .tup (.of (s _ _ h1)) (.cons (h K F H _ _ s h2) (.cons (h' K F H _ _ s h3) (.cons (h'' K F H _ _ s h4) .nil)))
theorem dr_O {α : Type} {R : Rep α} {e : α → PyData} (h : DR R e) : DR (rOpt R) (dO e) := fun K F H v x s r => by
  cases x with
  | none =>
    cases (show v = V.non from r)
    exact .non
  | some y => exact h K F H v y s r.1
variable {X : Cx} {W U : Vw α} {V' : Vw (List α)}
theorem cp_eqD (he : Enc e n) (h1 : DV W e) (h2 : DV U e) (hu : X.A.units + 64 < cLine) (hn : n ≤ 64 := by decide) : Cp X .Eq W U (fun x y => decide (x = y)) := ⟨_, op_eqD hu, fun F Os H v u x y Q w r1 r2 q =>
  ⟨_, _, h1 X.K F Os H v x w r1, h2 X.K F Os H u y w r2, he.shaped hn x, he.shaped hn y, by rw [he.eq]; exact q⟩⟩
theorem cp_neD (he : Enc e n) (h1 : DV W e) (h2 : DV U e) (hu : X.A.units + 64 < cLine) (hn : n ≤ 64 := by decide) : Cp X .NotEq W U (fun x y => decide (x ≠ y)) := ⟨_, op_neD hu, fun F Os H v u x y Q w r1 r2 q =>
  ⟨_, _, h1 X.K F Os H v x w r1, h2 X.K F Os H u y w r2, he.shaped hn x, he.shaped hn y, by
    rw [he.eq]
    have q : Q (V.bl (decide (x ≠ y))) _ := q
    rwa [decide_not] at q⟩⟩
theorem any_eqv (he : Enc e n) (x : α) : ∀ ys : List α, ((ys.map e).any fun z => PyData.eqv z (e x)) = decide (x ∈ ys)
  | [] => rfl
  | y :: ys => by
    rw [List.map_cons, List.any_cons, any_eqv he x ys, he.eq, ← Bool.decide_or]
    refine decide_eq_decide.mpr ?_
    rw [List.mem_cons]
    exact or_congr_left eq_comm
theorem cp_inD (he : Enc e n) (h1 : DV W e) (h2 : DV V' (dL e)) (hu : X.A.units + 65 < cLine) (hn : n + 1 ≤ 64 := by decide) : Cp X .In W V' (fun x ys => decide (x ∈ ys)) := ⟨_, op_inD hu, fun F Os H v u x y Q w r1 r2 q =>
  ⟨_, _, h1 X.K F Os H v x w r1, h2 X.K F Os H u y w r2, he.shaped (by omega) x, (enc_L he).shaped hn y, by rw [any_eqv he]; exact q⟩⟩
theorem cp_ninD (he : Enc e n) (h1 : DV W e) (h2 : DV V' (dL e)) (hu : X.A.units + 65 < cLine) (hn : n + 1 ≤ 64 := by decide) : Cp X .NotIn W V' (fun x ys => decide (x ∉ ys)) := ⟨_, op_notInD hu, fun F Os H v u x y Q w r1 r2 q =>
  ⟨_, _, h1 X.K F Os H v x w r1, h2 X.K F Os H u y w r2, he.shaped (by omega) x, (enc_L he).shaped hn y, by
    rw [any_eqv he]
    have q : Q (V.bl (decide (x ∉ y))) _ := q
    rwa [decide_not] at q⟩⟩
end
end Z

namespace Z
open PySem PySem.Spec L2
section
variable {α β γ δ : Type} {X : Cx} {e a b c it tg elt o : Expr} {es ifs : List Expr} {pos p1 p2 p3 p4 : Pos} {σ : St} {F F' H : Hp} {Os Os1 Os2 Os3 : Owns} {W : Vw α} {U : Vw β} {R : Rep α} {S : Rep β} {T : Rep γ} {Y : Rep α} {x x' : α} {y : β} {z : γ} {i j : Int} {k l : Bool} {xs ys zs : List α} {D : Ends} {rest body : List Stmt} {n m : Nat} {nm tn : Str} {v : V} {O : OC}
/-! ### comprehensions whose element changes what is owned: s is told anew each turn -/
def lcS (tO : δ → α → Option Bool) (eO : δ → α → Option (β × δ)) : δ → List α → Option (List β × δ)
  | s, [] => some ([], s)
  | s, x :: r => bd (tO s x) fun b => if b = true then bd (eO s x) fun y => bd (lcS tO eO y.2 r) fun q => some (y.1 :: q.1, q.2) else lcS tO eO s r
theorem lcS_cons {tO : δ → α → Option Bool} {eO : δ → α → Option (β × δ)} {s : δ} {x : α} {r : List α} {ys : List β × δ} (h : lcS tO eO s (x :: r) = some ys) : ∃ b, tO s x = some b ∧ (b = true → ∃ y q, eO s x = some y ∧ lcS tO eO y.2 r = some q ∧ ys = (y.1 :: q.1, q.2)) ∧ (b = false → lcS tO eO s r = some ys) := by
  obtain ⟨b, h1, h2⟩ := bd_some h
  refine ⟨b, h1, fun hb => ?_, fun hb => ?_⟩
  · rw [if_pos hb] at h2
    obtain ⟨y, h3, h4⟩ := bd_some h2
    obtain ⟨ys', h5, h6⟩ := bd_some h4
    exact ⟨y, ys', h3, h5, (Option.some.inj h6).symm⟩
  · rw [if_neg (by rw [hb]; decide)] at h2
    exact h2
theorem lcS_read {scope : Scope} {vs : List Nat} {tt : TT} {s0 s1 : δ} {Oo : δ → Owns} (hi : Ei X tg it σ F Os Y xs (Oo s0)) (Tg : Hp → α → St → Prop) {tO : δ → α → Option Bool} {eO : δ → α → Option (β × δ)} {ys : List β} (hf : lcS tO eO s0 xs = some (ys, s1)) (hT : TgB X scope σ vs tg Y Tg)
    (ht : ∀ q d x b F1 σ', tO d x = some b → Same F F1 → Tg F1 x σ' → ∀ F2 H2, Same F1 F2 → Wf F2 (q :: Oo d) H2 → ∀ Q : Bool → Hp → Prop, (∀ F3 H3, Same F2 F3 → Wf F3 (q :: Oo d) H3 → Q b H3) → tt σ' H2 Q)
    (he : ∀ q d x y d' F1 σ', eO d x = some (y, d') → Same F F1 → Tg F1 x σ' → ∀ s H C cl fp, Ev (BX X scope s H C cl fp) elt σ' F1 (q :: Oo d) S.v y (q :: Oo d')) {F0 H0 : Hp} (t0 : Same F F0) (w0 : Wf F0 Os H0) {Q : VK}
    (q : ∀ p F' H', Same F0 F' → Wf F' ((p, oList S ys) :: Oo s1) H' → Q (.ref p) H') : tLc (Wi X tg it) (gB X scope tg) tt (eB X scope elt) vs σ H0 Q := by
  refine hi.go t0 w0 fun J F1 H1 t1 w1 I => fun Dl hD => ?_
  have hsz := sizeLine_eq
  refine ⟨fun i m H => m = xs.length - i ∧ i ≤ xs.length ∧ ∃ F' acc zs d, Wf F' ((Dl, oList S acc) :: Oo d) H ∧ Same F1 F' ∧ lcS tO eO d (xs.drop i) = some (zs, s1) ∧ ys = acc ++ zs ∧ acc.length ≤ i,
    ⟨xs.length, by simp, Nat.zero_le _, F1, [], ys, s0, w1.new hD ⟨[], rfl, .nil⟩, Same.refl _, hf, rfl, Nat.le_refl _⟩, ?_⟩
  rintro i m H ⟨rfl, hi, F2, acc, zs, d, w2, t2, hf2, rfl, hl2⟩
  by_cases hl : i < xs.length
  · refine .inr ⟨I.go i H (t2.trans w2.sub) hl, fun H => ∃ F' acc' zs' d, Wf F' ((Dl, oList S acc') :: Oo d) H ∧ Same F1 F' ∧ lcS tO eO d (xs.drop (i + 1)) = some (zs', s1) ∧ acc ++ zs = acc' ++ zs' ∧ acc'.length ≤ i + 1, fun H' p => ⟨xs.length - (i + 1), by omega, rfl, hl, p⟩, fun v H3 hy => ?_⟩
    obtain ⟨F3, t3, w3, hv⟩ := I.yld i H v H3 F2 _ t2 w2 hy hl
    have hx : xs[i]? = some xs[i] := List.getElem?_eq_getElem hl
    rw [drop_cons hx] at hf2
    obtain ⟨b, hb, hb1, hb2⟩ := lcS_cons hf2
    refine hT F3 _ H3 v xs[i] w3 (hv _ hx) _ fun σ' htg hw => ⟨hw, ?_⟩
    have sF : Same F F3 := t0.trans (t1.trans (t2.trans t3))
    refine ht (Dl, oList S acc) d xs[i] b F3 σ' hb sF htg F3 H3 (Same.refl _) w3 _ fun F4 H4 t4 w4 => ?_
    cases b with
    | false => exact ⟨F4, acc, zs, d, w4, t2.trans (t3.trans t4), hb2 rfl, rfl, by omega⟩
    | true =>
      obtain ⟨⟨y, d'⟩, ⟨zs', d2⟩, h5, h6, h7⟩ := hb1 rfl
      cases h7
      intro s H' C cl fp
      refine (he (Dl, oList S acc) d xs[i] y d' F3 σ' h5 sF htg s H' C cl fp).go t4 w4 fun u F5 H5 t5 w5 r5 => ?_
      obtain ⟨h7, o, h8, vs, rfl, h9⟩ := w5.at (i := 0) rfl
      refine ⟨vs, h8, by have := I.len; rw [h9.length]; omega, F5, acc ++ [y], zs', d', ?_, t2.trans (t3.trans (t4.trans t5)), h6, by simp, by simp; omega⟩
      exact w5.set (i := 0) rfl ⟨_, rfl, paired_append h9 (.cons r5 .nil)⟩
  · have e : i = xs.length := by omega
    subst e
    rw [List.drop_length] at hf2
    cases hf2
    refine .inl ⟨I.stop H (t2.trans w2.sub), ?_⟩
    rw [List.append_nil] at q
    exact q Dl F2 H (t1.trans t2) w2
theorem evn_lcS0 {scope : Scope} {own : List (Str × Nat)} {s0 s1 : δ} (Oo : δ → Owns) (hi : Ei X tg it σ F Os Y xs (Oo s0)) (Tg : Hp → α → St → Prop) {eO : δ → α → Option (β × δ)} {ys : List β} (hf : lcS (fun _ _ => some true) eO s0 xs = some (ys, s1)) (hT : TgB X scope σ (own.map (·.2)) tg Y Tg)
    (he : ∀ q d x y d' F1 σ', eO d x = some (y, d') → Same F F1 → Tg F1 x σ' → ∀ s H C cl fp, Ev (BX X scope s H C cl fp) elt σ' F1 (q :: Oo d) S.v y (q :: Oo d'))
    (hN : X.N.Nodup) (ok : BlkOk X.N X.env.scope scope own) (hc : X.calm = true := by rfl) (hs : ∀ x, foldedSetIterable it X.env x = pure x := by intro _; rfl) :
    EvN X (.ListComp elt [⟨tg, it, [], 0⟩] scope pos) σ F Os (oList S ys) (Oo s1) := fun F0 H0 s0 w0 Q q =>
  w_pe (pe_lc (own := own) hc hN pi_w ok gB_ok (fun _ _ _ _ _ => pts_nil) eB_ok hs) (lcS_read (tO := fun _ _ => some true) hi Tg hf hT (fun q d x b F1 σ' hb _ _ F2 H2 _ w Q k => by
    cases hb
    exact k F2 H2 (Same.refl _) w) he s0 w0 q)
theorem evn_lcS1 {scope : Scope} {own : List (Str × Nat)} {s0 s1 : δ} (Oo : δ → Owns) (hi : Ei X tg it σ F Os Y xs (Oo s0)) (Tg : Hp → α → St → Prop) {tO : δ → α → Option Bool} {eO : δ → α → Option (β × δ)} {ys : List β} (hf : lcS tO eO s0 xs = some (ys, s1)) (hT : TgB X scope σ (own.map (·.2)) tg Y Tg)
    (ht : ∀ q d x b F1 σ', tO d x = some b → Same F F1 → Tg F1 x σ' → ∀ s H C cl fp, Et (BX X scope s H C cl fp) c σ' F1 (q :: Oo d) b (q :: Oo d))
    (he : ∀ q d x y d' F1 σ', eO d x = some (y, d') → Same F F1 → Tg F1 x σ' → ∀ s H C cl fp, Ev (BX X scope s H C cl fp) elt σ' F1 (q :: Oo d) S.v y (q :: Oo d'))
    (hN : X.N.Nodup) (ok : BlkOk X.N X.env.scope scope own) (hc : X.calm = true := by rfl) (hs : ∀ x, foldedSetIterable it X.env x = pure x := by intro _; rfl) :
    EvN X (.ListComp elt [⟨tg, it, [c], 0⟩] scope pos) σ F Os (oList S ys) (Oo s1) := fun F0 H0 s0 w0 Q q =>
  w_pe (pe_lc (own := own) hc hN pi_w ok gB_ok tB1_ok eB_ok hs) (lcS_read hi Tg hf hT (fun q d x b F1 σ' hb sF htg F2 H2 s2 w2 Q k => fun s H' C cl fp => (ht q d x b F1 σ' hb sF htg s H' C cl fp).go s2 w2 k) he s0 w0 q)
theorem ws_setLcS0 {scope : Scope} {own : List (Str × Nat)} {s0 s1 : δ} (Oo : δ → Owns) (w : Wf F Os H) (hi : Ei X tg it σ F Os Y xs (Oo s0)) (Tg : Hp → α → St → Prop) {eO : δ → α → Option (β × δ)} {ys : List β} (hf : lcS (fun _ _ => some true) eO s0 xs = some (ys, s1)) (hT : TgB X scope σ (own.map (·.2)) tg Y Tg)
    (he : ∀ q d x y d' F1 σ', eO d x = some (y, d') → Same F F1 → Tg F1 x σ' → ∀ s H C cl fp, Ev (BX X scope s H C cl fp) elt σ' F1 (q :: Oo d) S.v y (q :: Oo d'))
    (hN : X.N.Nodup) (ok : BlkOk X.N X.env.scope scope own) (k : ∀ p F1 H1, Same F F1 → Wf F1 ((p, oList S ys) :: Oo s1) H1 → Ws X rest D (σ.set n (some (.ref p))) H1)
    (hsw : swapsWith (.ListComp elt [⟨tg, it, [], 0⟩] scope p3) (some (.Name nm p1)) pos.line X.env = pure true) (hn : X.N[n]? = some nm := by rfl) (hl : X.env.scope.names.lookup nm = some .local := by rfl) (hc : X.calm = true := by rfl) (hs : ∀ x, foldedSetIterable it X.env x = pure x := by intro _; rfl) :
    Ws X (.Assign [.Name nm p1] (.ListComp elt [⟨tg, it, [], 0⟩] scope p3) pos :: rest) D σ H :=
  ws_cons (w_ps (ps_setLc (own := own) hc hN hn hl hsw pi_w ok gB_ok (fun _ _ _ _ _ => pts_nil) eB_ok hs) (lcS_read (tO := fun _ _ => some true) hi Tg hf hT (fun q d x b F1 σ' hb _ _ F2 H2 _ w Q k => by
    cases hb
    exact k F2 H2 (Same.refl _) w) he (Same.refl _) w k))
theorem ws_setLcS1 {scope : Scope} {own : List (Str × Nat)} {s0 s1 : δ} (Oo : δ → Owns) (w : Wf F Os H) (hi : Ei X tg it σ F Os Y xs (Oo s0)) (Tg : Hp → α → St → Prop) {tO : δ → α → Option Bool} {eO : δ → α → Option (β × δ)} {ys : List β} (hf : lcS tO eO s0 xs = some (ys, s1)) (hT : TgB X scope σ (own.map (·.2)) tg Y Tg)
    (ht : ∀ q d x b F1 σ', tO d x = some b → Same F F1 → Tg F1 x σ' → ∀ s H C cl fp, Et (BX X scope s H C cl fp) c σ' F1 (q :: Oo d) b (q :: Oo d))
    (he : ∀ q d x y d' F1 σ', eO d x = some (y, d') → Same F F1 → Tg F1 x σ' → ∀ s H C cl fp, Ev (BX X scope s H C cl fp) elt σ' F1 (q :: Oo d) S.v y (q :: Oo d'))
    (hN : X.N.Nodup) (ok : BlkOk X.N X.env.scope scope own) (k : ∀ p F1 H1, Same F F1 → Wf F1 ((p, oList S ys) :: Oo s1) H1 → Ws X rest D (σ.set n (some (.ref p))) H1)
    (hsw : swapsWith (.ListComp elt [⟨tg, it, [c], 0⟩] scope p3) (some (.Name nm p1)) pos.line X.env = pure true) (hn : X.N[n]? = some nm := by rfl) (hl : X.env.scope.names.lookup nm = some .local := by rfl) (hc : X.calm = true := by rfl) (hs : ∀ x, foldedSetIterable it X.env x = pure x := by intro _; rfl) :
    Ws X (.Assign [.Name nm p1] (.ListComp elt [⟨tg, it, [c], 0⟩] scope p3) pos :: rest) D σ H :=
  ws_cons (w_ps (ps_setLc (own := own) hc hN hn hl hsw pi_w ok gB_ok tB1_ok eB_ok hs) (lcS_read hi Tg hf hT (fun q d x b F1 σ' hb sF htg F2 H2 s2 w2 Q k => fun s H' C cl fp => (ht q d x b F1 σ' hb sF htg s H' C cl fp).go s2 w2 k) he (Same.refl _) w k))
/-- the target of a comprehension: a name; a pair -/
theorem tgb_1 {scope : Scope} (hN : X.N.Nodup) (hn : X.N[n]? = some nm := by rfl) (hx : Loc (relabel scope X.env) nm := by first | exact Or.inl rfl | exact Or.inr rfl) (hf : (relabel scope X.env).names.lookup nm = some .local := by rfl) :
    TgB X scope σ [n] (.Name nm p1) Y (fun F x σ' => ∃ v, σ' = (wipe σ [n]).set n (some v) ∧ Y.r F v x) := fun F3 Os3 H3 v x w r Q q s H C cl fp =>
  wg_name hN (q _ ⟨v, rfl, r⟩ (by
    show (((σ.set n none).set n (some v)).set n none) = σ.set n none
    rw [List.set_set, List.set_set])) hn hx (.inr hf)
theorem wipe2 {σ : St} {n m : Nat} {v1 v2 : V} (h : n ≠ m) : wipe (((wipe σ [n, m]).set n (some v1)).set m (some v2)) [n, m] = wipe σ [n, m] := by
  show (((((σ.set m none).set n none).set n (some v1)).set m (some v2)).set m none).set n none = (σ.set m none).set n none
  refine List.ext_getElem? fun k => ?_
  simp only [List.getElem?_set, List.length_set]
  by_cases h1 : n = k
  · simp [h1]
  · by_cases h2 : m = k
    · simp [h1, h2]
    · simp [h1, h2]
theorem tgb_2 {scope : Scope} {nm2 : Str} {d : Nat} {pt : Pos} (hN : X.N.Nodup) (hnm : n ≠ m) (hn : X.N[n]? = some nm := by rfl) (hx : Loc (relabel scope X.env) nm := by first | exact Or.inl rfl | exact Or.inr rfl) (hf : (relabel scope X.env).names.lookup nm = some .local := by rfl)
    (hn2 : X.N[m]? = some nm2 := by rfl) (hx2 : Loc (relabel scope X.env) nm2 := by first | exact Or.inl rfl | exact Or.inr rfl) (hf2 : (relabel scope X.env).names.lookup nm2 = some .local := by rfl) (hc : X.calm = true := by rfl)
    (hl : ∀ env : Env, (assignEach [.Name nm p1, .Name nm2 p2] env).length = 2 := by intro _; rfl) (hst : ∀ env : Env, (assignEach [.Name nm p1, .Name nm2 p2] env).findIdx? (·.1) = none := by intro _; rfl) :
    TgB X scope σ [n, m] (.Tuple [.Name nm p1, .Name nm2 p2] d pt) (rT2 R S) (fun F x σ' => ∃ v1 v2, σ' = ((wipe σ [n, m]).set n (some v1)).set m (some v2) ∧ R.r F v1 x.1 ∧ S.r F v2 x.2) := fun F3 Os3 H3 v x w r Q q s H C cl fp =>
  wg_t2 r w (fun v1 v2 r1 r2 => wg_name hN (wg_name hN (q _ ⟨v1, v2, rfl, r1, r2⟩ (wipe2 hnm)) hn2 hx2 (.inr hf2)) hn hx (.inr hf)) hc (hl _) (hst _)
/-! ### slices -/
def cut (xs : List α) (lo hi : Option Int) : List α := (xs.drop (HT.sIx xs.length 0 lo)).take (HT.sIx xs.length xs.length hi - HT.sIx xs.length 0 lo)
theorem paired_drop {α β : Type} {P : α → β → Prop} : ∀ {xs : List α} {ys : List β} (i : Nat), Paired P xs ys → Paired P (xs.drop i) (ys.drop i)
  | _, _, 0, h => h
  | _, _, _ + 1, .nil => .nil
  | _, _, i + 1, .cons _ t => paired_drop i t
theorem paired_take {α β : Type} {P : α → β → Prop} : ∀ {xs : List α} {ys : List β} (i : Nat), Paired P xs ys → Paired P (xs.take i) (ys.take i)
  | _, _, 0, _ => .nil
  | _, _, _ + 1, .nil => .nil
  | _, _, i + 1, .cons r t => .cons r (paired_take i t)
def Eo (X : Cx) (o : Option Expr) (σ : St) (F : Hp) (Os : Owns) (i : Option Int) : Prop :=
  ∃ t, PO X o t ∧ ∀ F1 H, Same F F1 → Wf F1 Os H → ∀ Q : Option Int → Hp → Prop, (∀ F' H', Same F1 F' → Wf F' Os H' → Q i H') → t σ H Q
theorem eo_none : Eo X none σ F Os none := ⟨_, po_none, fun F1 H s w Q q => q F1 H (Same.refl _) w⟩
theorem eo_some (h : Ev X e σ F Os rInt.v i Os) : Eo X (some e) σ F Os (some i) := ⟨_, po_some pe_w, fun F1 H s w Q q => h.go s w fun v F2 H2 s2 w2 r2 => ⟨i, r2, q F2 H2 s2 w2⟩⟩
theorem evn_cut {lo hi : Option Expr} {u t : Option Int} (ha : Ev X a σ F Os (vList R) xs Os1) (hl : Eo X lo σ F Os1 u) (hh : Eo X hi σ F Os1 t) : EvN X (.Subscript a (.Slice lo hi none p2) pos) σ F Os (oList R (cut xs u t)) Os1 := fun F1 H s w Q q => by
  obtain ⟨t1, h1, g1⟩ := hl
  obtain ⟨t2, h2, g2⟩ := hh
  refine w_pe (pe_slice sl_list pe_w h1 h2) (ha.go s w fun v F2 H2 s2 w2 r2 => g1 F2 H2 (s.trans s2) w2 _ fun F3 H3 s3 w3 => g2 F3 H3 (s.trans (s2.trans s3)) w3 _ fun F4 H4 s4 w4 => ?_)
  obtain ⟨p, o, e1, g, vs, e2, q2⟩ := vOf.get w4 ((vOf (oList R)).mono (s3.trans s4) r2)
  subst e2
  refine ⟨p, vs, e1, .of g, fun pp hp => q pp F4 _ (s2.trans (s3.trans s4)) (w4.new hp ⟨_, rfl, ?_⟩)⟩
  unfold cut cutV
  rw [q2.length]
  exact paired_take _ (paired_drop _ q2)
/-! ### built-in functions that give new objects -/
theorem evn_cb1 {id : String} {r : List V → Hp → VK → Prop} (hc : CallR X (.builtin id) r) (ha : Ev X a σ F Os W x Os1)
    (hr : ∀ F H v (Q : VK), Wf F Os1 H → W.r F Os1 v x → (∀ p F' H', Same F F' → Wf F' ((p, O) :: Os2) H' → Q (.ref p) H') → r [v] H Q)
    (hg : Gl X nm) (hm : X.mg nm = none) (hv : bootBuiltins nm = some (.builtin id)) (hn : nm ≠ "__name__" := by decide) (hdb : (nm == ("__debug__" : Str)) = false := by decide)
    (he : starEach [a] X.env = (false, eval a X.env) :: starEach [] X.env := by rfl) (hpl : (backTo pos (starEach [] X.env)).any (·.1) = false := by rfl) : EvN X (.Call (.Name nm p1) [a] [] pos) σ F Os O Os2 := fun F1 H s w Q q =>
  w_pe (pe_callB hc hg hm hv (pa_cons pe_w pa_nil he) hn hdb he hpl) (ha.go s w fun v F2 H2 s2 w2 r2 => hr F2 H2 v Q w2 r2 fun u F3 H3 s3 w3 => q u F3 H3 (s2.trans s3) w3)
theorem evn_ct1 {id : String} {r : List V → Hp → VK → Prop} (hc : CallR X (.type id) r) (ha : Ev X a σ F Os W x Os1)
    (hr : ∀ F H v (Q : VK), Wf F Os1 H → W.r F Os1 v x → (∀ p F' H', Same F F' → Wf F' ((p, O) :: Os2) H' → Q (.ref p) H') → r [v] H Q)
    (hg : Gl X nm) (hm : X.mg nm = none) (hv : bootBuiltins nm = some (.type id)) (hn : nm ≠ "__name__" := by decide) (hdb : (nm == ("__debug__" : Str)) = false := by decide)
    (he : starEach [a] X.env = (false, eval a X.env) :: starEach [] X.env := by rfl) (hpl : (backTo pos (starEach [] X.env)).any (·.1) = false := by rfl) : EvN X (.Call (.Name nm p1) [a] [] pos) σ F Os O Os2 := fun F1 H s w Q q =>
  w_pe (pe_callTy hc hg hm hv (pa_cons pe_w pa_nil he) hn hdb he hpl) (ha.go s w fun v F2 H2 s2 w2 r2 => hr F2 H2 v Q w2 r2 fun u F3 H3 s3 w3 => q u F3 H3 (s2.trans s3) w3)
theorem evn_listL (ha : Ev X a σ F Os (vList R) xs Os1) (hm : X.mg "list" = none) (hg : Gl X "list" := by rfl) (he : starEach [a] X.env = (false, eval a X.env) :: starEach [] X.env := by rfl) (hpl : (backTo pos (starEach [] X.env)).any (·.1) = false := by rfl) : EvN X (.Call (.Name "list" p1) [a] [] pos) σ F Os (oList R xs) Os1 :=
  evn_ct1 call_list_of ha (fun F H v Q w r q => by
    obtain ⟨p, o, e1, h1, vs, e2, h2⟩ := vOf.get w r
    cases e1; cases e2
    exact ⟨p, vs, rfl, .inl (.of h1), fun l hl => q l F _ (Same.refl _) (w.new hl ⟨vs, rfl, h2⟩)⟩) hg hm (by decide +kernel) (by decide) (by decide) he hpl
theorem evn_listT (ha : Ev X a σ F Os (rTup R).v xs Os1) (hm : X.mg "list" = none) (hg : Gl X "list" := by rfl) (he : starEach [a] X.env = (false, eval a X.env) :: starEach [] X.env := by rfl) (hpl : (backTo pos (starEach [] X.env)).any (·.1) = false := by rfl) : EvN X (.Call (.Name "list" p1) [a] [] pos) σ F Os (oList R xs) Os1 :=
  evn_ct1 call_list_of ha (fun F H v Q w r q => by
    obtain ⟨p, vs, e1, h1, h2⟩ := r
    cases e1
    exact ⟨p, vs, rfl, .inr (.of (w.sub _ _ h1)), fun l hl => q l F _ (Same.refl _) (w.new hl ⟨vs, rfl, h2⟩)⟩) hg hm (by decide +kernel) (by decide) (by decide) he hpl
theorem ev_tupL (ha : Ev X a σ F Os (vList R) xs Os1) (hm : X.mg "tuple" = none) (hg : Gl X "tuple" := by rfl) (he : starEach [a] X.env = (false, eval a X.env) :: starEach [] X.env := by rfl) (hpl : (backTo pos (starEach [] X.env)).any (·.1) = false := by rfl) : Ev X (.Call (.Name "tuple" p1) [a] [] pos) σ F Os (rTup R).v xs Os1 :=
  ev_ct1 call_tuple_of ha (fun F H v Q w r q => by
    obtain ⟨p, o, e1, h1, vs, e2, h2⟩ := vOf.get w r
    cases e1; cases e2
    exact ⟨p, vs, rfl, .inl ⟨.of h1, fun l hl => q _ _ _ (w.frozS hl) (w.froz hl) ⟨l, vs, rfl, upd_same, paired_mono (fun _ _ t => R.mono (w.frozS hl) t) h2⟩⟩⟩) hg hm (by decide +kernel) (by decide) (by decide) he hpl
theorem paired_int {F : Hp} : ∀ {vs : List V} {ns : List Int}, Paired (rInt.r F) vs ns → vs = ns.map V.int
  | _, _, .nil => rfl
  | _, _, .cons r t => by rw [show _ = V.int _ from r, paired_int t]; rfl
theorem paired_int2 {F : Hp} : ∀ ns : List Int, Paired (rInt.r F) (ns.map V.int) ns
  | [] => .nil
  | n :: r => .cons rfl (paired_int2 r)
theorem ev_sum {xs : List Int} (ha : Ev X a σ F Os (vList rInt) xs Os1) (hm : X.mg "sum" = none) (hc : X.calm = true := by rfl) (hg : Gl X "sum" := by rfl) (he : starEach [a] X.env = (false, eval a X.env) :: starEach [] X.env := by rfl) (hpl : (backTo pos (starEach [] X.env)).any (·.1) = false := by rfl) : Ev X (.Call (.Name "sum" p1) [a] [] pos) σ F Os rInt.v xs.sum Os1 :=
  ev_cb1 (cr_sum hc) ha (fun F H v Q w r q => by
    obtain ⟨p, o, e1, h1, vs, e2, h2⟩ := vOf.get w r
    cases e1; cases e2
    exact ⟨p, xs, rfl, .of (paired_int h2 ▸ h1), q _ F H (Same.refl _) w rfl⟩) hg hm (by decide +kernel) (by decide) (by decide) he hpl
def maxL : List Int → Option Int
  | [] => none
  | x :: r => some (r.foldl max x)
def minL : List Int → Option Int
  | [] => none
  | x :: r => some (r.foldl min x)
theorem foldl_max (r : List Int) : ∀ x : Int, (r.foldl max x = x ∨ r.foldl max x ∈ r) ∧ x ≤ r.foldl max x ∧ ∀ y ∈ r, y ≤ r.foldl max x := by
  induction r with
  | nil => intro x; exact ⟨.inl rfl, Int.le_refl _, fun y h => absurd h (by simp)⟩
  | cons z r ih =>
    intro x
    obtain ⟨h1, h2, h3⟩ := ih (max x z)
    refine ⟨?_, Int.le_trans (Int.le_max_left x z) h2, fun y hy => ?_⟩
    · rcases h1 with h1 | h1
      · rw [List.foldl_cons, h1]
        rcases Int.le_total x z with h | h
        · right; rw [Int.max_eq_right h]; exact List.mem_cons_self
        · left; rw [Int.max_eq_left h]
      · exact .inr (List.mem_cons_of_mem _ h1)
    · rcases List.mem_cons.mp hy with rfl | hy
      · exact Int.le_trans (Int.le_max_right x y) h2
      · exact h3 y hy
theorem foldl_min (r : List Int) : ∀ x : Int, (r.foldl min x = x ∨ r.foldl min x ∈ r) ∧ r.foldl min x ≤ x ∧ ∀ y ∈ r, r.foldl min x ≤ y := by
  induction r with
  | nil => intro x; exact ⟨.inl rfl, Int.le_refl _, fun y h => absurd h (by simp)⟩
  | cons z r ih =>
    intro x
    obtain ⟨h1, h2, h3⟩ := ih (min x z)
    refine ⟨?_, Int.le_trans h2 (Int.min_le_left x z), fun y hy => ?_⟩
    · rcases h1 with h1 | h1
      · rw [List.foldl_cons, h1]
        rcases Int.le_total x z with h | h
        · left; rw [Int.min_eq_left h]
        · right; rw [Int.min_eq_right h]; exact List.mem_cons_self
      · exact .inr (List.mem_cons_of_mem _ h1)
    · rcases List.mem_cons.mp hy with rfl | hy
      · exact Int.le_trans h2 (Int.min_le_right x y)
      · exact h3 y hy
theorem maxL_spec {ns : List Int} {m : Int} (h : maxL ns = some m) : 0 < ns.length ∧ m ∈ ns ∧ ∀ y ∈ ns, y ≤ m := by
  cases ns with
  | nil => cases h
  | cons x r =>
    cases h
    obtain ⟨h1, h2, h3⟩ := foldl_max r x
    exact ⟨Nat.succ_pos _, List.mem_cons.mpr h1, fun y hy => (List.mem_cons.mp hy).elim (fun e => e ▸ h2) (h3 y)⟩
theorem minL_spec {ns : List Int} {m : Int} (h : minL ns = some m) : 0 < ns.length ∧ m ∈ ns ∧ ∀ y ∈ ns, m ≤ y := by
  cases ns with
  | nil => cases h
  | cons x r =>
    cases h
    obtain ⟨h1, h2, h3⟩ := foldl_min r x
    exact ⟨Nat.succ_pos _, List.mem_cons.mpr h1, fun y hy => (List.mem_cons.mp hy).elim (fun e => e ▸ h2) (h3 y)⟩
theorem ev_maxL {xs : List Int} {t : Int} (h : maxL xs = some t) (ha : Ev X a σ F Os (vList rInt) xs Os1) (hm : X.mg "max" = none) (hc : X.calm = true := by rfl) (hg : Gl X "max" := by rfl) (he : starEach [a] X.env = (false, eval a X.env) :: starEach [] X.env := by rfl) (hpl : (backTo pos (starEach [] X.env)).any (·.1) = false := by rfl) : Ev X (.Call (.Name "max" p1) [a] [] pos) σ F Os rInt.v t Os1 :=
  ev_cb1 (cr_max hc) ha (fun F H v Q w r q => by
    obtain ⟨p, o, e1, h1, vs, e2, h2⟩ := vOf.get w r
    cases e1; cases e2
    obtain ⟨k1, k2, k3⟩ := maxL_spec h
    exact ⟨p, xs, rfl, .of (paired_int h2 ▸ h1), k1, fun m h3 h4 => q _ F H (Same.refl _) w (by rw [Int.le_antisymm (k3 m h3) (h4 t k2)]; rfl)⟩) hg hm (by decide +kernel) (by decide) (by decide) he hpl
theorem ev_minL {xs : List Int} {t : Int} (h : minL xs = some t) (ha : Ev X a σ F Os (vList rInt) xs Os1) (hm : X.mg "min" = none) (hc : X.calm = true := by rfl) (hg : Gl X "min" := by rfl) (he : starEach [a] X.env = (false, eval a X.env) :: starEach [] X.env := by rfl) (hpl : (backTo pos (starEach [] X.env)).any (·.1) = false := by rfl) : Ev X (.Call (.Name "min" p1) [a] [] pos) σ F Os rInt.v t Os1 :=
  ev_cb1 (cr_min hc) ha (fun F H v Q w r q => by
    obtain ⟨p, o, e1, h1, vs, e2, h2⟩ := vOf.get w r
    cases e1; cases e2
    obtain ⟨k1, k2, k3⟩ := minL_spec h
    exact ⟨p, xs, rfl, .of (paired_int h2 ▸ h1), k1, fun m h3 h4 => q _ F H (Same.refl _) w (by rw [Int.le_antisymm (h4 t k2) (k3 m h3)]; rfl)⟩) hg hm (by decide +kernel) (by decide) (by decide) he hpl
end
end Z

namespace Z
open PySem PySem.Spec L2
section
variable {α β γ δ : Type} {X : Cx} {e a b c it tg elt o : Expr} {es ifs : List Expr} {pos p1 p2 p3 p4 : Pos} {σ : St} {F F' H : Hp} {Os Os1 Os2 Os3 : Owns} {W : Vw α} {U : Vw β} {R : Rep α} {S : Rep β} {T : Rep γ} {Y : Rep α} {x x' : α} {y : β} {z : γ} {i j : Int} {k l : Bool} {xs ys zs : List α} {D : Ends} {rest body : List Stmt} {n m : Nat} {nm tn : Str} {v : V} {O : OC}
/-! ### truth of lists -/
theorem et_list (h : Ev X e σ F Os (vList R) xs Os1) (he : ∀ whole, isTrue e X.env whole = (do let v ← whole; standAt e.pos; holding [v] (truthy v)) := by intro _; rfl) : Et X e σ F Os (!xs.isEmpty) Os1 := fun F1 H s w Q q =>
  w_pt (pt_truth pe_w he) (h.go s w fun v F2 H2 s2 w2 r2 => by
    obtain ⟨p, o, e1, h1, vs, e2, h2⟩ := vOf.get w2 r2
    cases e1; cases e2
    exact ⟨_, .inl ⟨vs, .of h1, by cases h2 <;> rfl⟩, q F2 H2 s2 w2⟩)
theorem et_tup (h : Ev X e σ F Os (rTup R).v xs Os1) (he : ∀ whole, isTrue e X.env whole = (do let v ← whole; standAt e.pos; holding [v] (truthy v)) := by intro _; rfl) : Et X e σ F Os (!xs.isEmpty) Os1 := fun F1 H s w Q q =>
  w_pt (pt_truth pe_w he) (h.go s w fun v F2 H2 s2 w2 r2 => by
    obtain ⟨p, vs, e1, h1, h2⟩ := r2
    cases e1
    exact ⟨_, .inr (.inl ⟨vs, .of (w2.sub _ _ h1), by cases h2 <;> rfl⟩), q F2 H2 s2 w2⟩)
theorem et_int (h : Ev X e σ F Os rInt.v i Os1) (he : ∀ whole, isTrue e X.env whole = (do let v ← whole; standAt e.pos; holding [v] (truthy v)) := by intro _; rfl) : Et X e σ F Os (decide (i ≠ 0)) Os1 := fun F1 H s w Q q =>
  w_pt (pt_truth pe_w he) (h.go s w fun v F2 H2 s2 w2 r2 => by
    cases (show v = V.int i from r2)
    exact ⟨_, by
      show decide (i ≠ 0) = (i != 0)
      rw [bne, decide_not, Bool.beq_eq_decide_eq], q F2 H2 s2 w2⟩)
/-! ### owned lists: extend, pop, remove -/
theorem ws_ext (w : Wf F Os H) {l : Addr} (hl : σ[m]? = some (some (.ref l))) (he : Ev X e σ F Os (vList R) xs Os1) (ho : Os1[n]? = some (l, oList R zs)) (h : cat zs xs = some ys) (k : ∀ F1 H1, Same F F1 → Wf F1 (Os1.set n (l, oList R ys)) H1 → Ws X rest D σ H1)
    (hN : X.N[m]? = some nm := by rfl) (hV : Vis X.env.scope nm := by first | exact Or.inl rfl | exact Or.inr (Or.inl rfl) | exact Or.inr (Or.inr rfl)) (hd : (nm == ("__debug__" : Str)) = false := by decide) (hcd : (nm == ("__classdict__" : Str)) = false := by decide)
    (hs : swapsWith (.Call (.Attribute (.Name nm p1) "extend" p2) [e] [] p3) none pos.line X.env = pure false := by rfl) (hb : BmOk X (.Name nm p1) "extend" e [] p2 p3 := by exact ⟨rfl, rfl, rfl, rfl, rfl⟩) (ho0 : Os[n]? = some (l, oList R zs) := by rfl) : Ws X (.Expr (.Call (.Attribute (.Name nm p1) "extend" p2) [e] [] p3) pos :: rest) D σ H := by
  obtain ⟨h1, rfl⟩ := cat_some h
  obtain ⟨_, o0, g0, vs0, e0, _⟩ := w.at ho0
  subst e0
  refine ws_cons (w_ps (ps_expr (pe_bm PySem.F.plainAttrs_list PySem.F.slot_list_extend PySem.F.type_list_extend mt_extend (pe_var hN hV hd hcd) (pa_cons pe_w pa_nil hb.hs) hb.base hb.few hb.line hb.hs hb.plain) hs) ?_)
  refine ⟨_, hl, .inl ⟨rfl, _, .of g0⟩, he.go (Same.refl _) w fun v F1 H1 s1 w1 r1 => ?_⟩
  obtain ⟨_, o, g, vs, e, q⟩ := w1.at ho
  subst e
  obtain ⟨pb, ob, rfl, gb, vb, e, qb⟩ := vOf.get w1 r1
  subst e
  exact ⟨l, pb, vs, vb, rfl, rfl, g, gb, by rw [q.length, qb.length]; exact h1, k F1 _ s1 (w1.set ho ⟨_, rfl, paired_append q qb⟩)⟩
/-- xs.pop() -/
def pop (xs : List α) : Option (α × List α) := bd xs.getLast? fun x => some (x, xs.dropLast)
theorem pop_some {q : α × List α} (h : pop xs = some q) : xs[xs.length - 1]? = some q.1 ∧ q.2 = xs.dropLast := by
  obtain ⟨x, h1, h2⟩ := bd_some h
  cases h2
  rw [List.getLast?_eq_getElem?] at h1
  exact ⟨h1, rfl⟩
theorem paired_dropLast {P : V → α → Prop} : ∀ {vs : List V} {xs : List α}, Paired P vs xs → Paired P vs.dropLast xs.dropLast
  | _, _, .nil => .nil
  | _, _, .cons r .nil => .nil
  | _, _, .cons r (.cons r2 t) => .cons r (paired_dropLast (.cons r2 t))
theorem ev_pop {q : α × List α} (h : pop xs = some q) {l : Addr} (hl : σ[m]? = some (some (.ref l))) (ho : Os[n]? = some (l, oList R xs))
    (hN : X.N[m]? = some nm := by rfl) (hV : Vis X.env.scope nm := by first | exact Or.inl rfl | exact Or.inr (Or.inl rfl) | exact Or.inr (Or.inr rfl)) (hd : (nm == ("__debug__" : Str)) = false := by decide) (hcd : (nm == ("__classdict__" : Str)) = false := by decide)
    (hb : BmOk0 X (.Name nm p1) "pop" p2 p3 := by exact ⟨rfl, rfl⟩) : Ev X (.Call (.Attribute (.Name nm p1) "pop" p2) [] [] p3) σ F Os R.v q.1 (Os.set n (l, oList R q.2)) := fun F1 H s w Q qq => by
  obtain ⟨h1, h2⟩ := pop_some h
  obtain ⟨_, o, g, vs, e, q0⟩ := w.at ho
  subst e
  refine w_pe (pe_bm0 PySem.F.plainAttrs_list PySem.F.slot_list_pop PySem.F.type_list_pop mt_pop (pe_var hN hV hd hcd) hb.base hb.line) ⟨_, hl, .inl ⟨rfl, _, .of g⟩, ?_⟩
  obtain ⟨u, g1, g2⟩ := paired_get q0 h1
  exact ⟨l, vs, u, rfl, rfl, g, by rw [q0.length]; exact g1, qq u F1 _ (Same.refl _) (w.set ho ⟨_, rfl, h2 ▸ paired_dropLast q0⟩) g2⟩
/-- xs.remove(x), ints -/
def remI (xs : List Int) (x : Int) : Option (List Int) := if x ∈ xs then some (xs.erase x) else none
theorem first_idx : ∀ {xs : List Int} {x : Int}, x ∈ xs → ∃ j : Nat, xs[j]? = some x ∧ (∀ m, m < j → xs[m]? ≠ some x) ∧ xs.erase x = xs.eraseIdx j
  | [], x, h => absurd h (by simp)
  | y :: r, x, h => by
    by_cases e : y = x
    · subst e
      exact ⟨0, rfl, fun m hm => absurd hm (Nat.not_lt_zero _), by rw [List.erase_cons_head]; rfl⟩
    · obtain ⟨j, h1, h2, h3⟩ := first_idx ((List.mem_cons.mp h).resolve_left fun z => e z.symm)
      refine ⟨j + 1, h1, fun m hm => ?_, ?_⟩
      · cases m with
        | zero => exact fun z => e (Option.some.inj z)
        | succ m => exact h2 m (by omega)
      · rw [List.erase_cons_tail (by simpa using e), h3]
        rfl
theorem remI_some {xs ys : List Int} {x : Int} (h : remI xs x = some ys) : x ∈ xs ∧ ys = xs.erase x := by
  unfold remI at h
  by_cases hc : x ∈ xs
  · rw [if_pos hc] at h
    exact ⟨hc, (Option.some.inj h).symm⟩
  · rw [if_neg hc] at h
    cases h
theorem ws_rem {xs ys : List Int} (w : Wf F Os H) {l : Addr} (hl : σ[m]? = some (some (.ref l))) (he : Ev X e σ F Os rInt.v i Os1) (ho : Os1[n]? = some (l, oList rInt xs)) (h : remI xs i = some ys) (k : ∀ F1 H1, Same F F1 → Wf F1 (Os1.set n (l, oList rInt ys)) H1 → Ws X rest D σ H1)
    (hN : X.N[m]? = some nm := by rfl) (hV : Vis X.env.scope nm := by first | exact Or.inl rfl | exact Or.inr (Or.inl rfl) | exact Or.inr (Or.inr rfl)) (hd : (nm == ("__debug__" : Str)) = false := by decide) (hcd : (nm == ("__classdict__" : Str)) = false := by decide)
    (hs : swapsWith (.Call (.Attribute (.Name nm p1) "remove" p2) [e] [] p3) none pos.line X.env = pure false := by rfl) (hb : BmOk X (.Name nm p1) "remove" e [] p2 p3 := by exact ⟨rfl, rfl, rfl, rfl, rfl⟩) (ho0 : Os[n]? = some (l, oList rInt xs) := by rfl) : Ws X (.Expr (.Call (.Attribute (.Name nm p1) "remove" p2) [e] [] p3) pos :: rest) D σ H := by
  obtain ⟨h1, rfl⟩ := remI_some h
  obtain ⟨_, o0, g0, vs0, e0, _⟩ := w.at ho0
  subst e0
  refine ws_cons (w_ps (ps_expr (pe_bm PySem.F.plainAttrs_list PySem.F.slot_list_remove PySem.F.type_list_remove mt_remove (pe_var hN hV hd hcd) (pa_cons pe_w pa_nil hb.hs) hb.base hb.few hb.line hb.hs hb.plain) hs) ?_)
  refine ⟨_, hl, .inl ⟨rfl, _, .of g0⟩, he.go (Same.refl _) w fun v F1 H1 s1 w1 r1 => ?_⟩
  obtain ⟨_, o, g, vs, e, q⟩ := w1.at ho
  subst e
  cases (show v = V.int i from r1)
  obtain ⟨j, k1, k2, k3⟩ := first_idx h1
  refine ⟨l, xs, i, j, rfl, rfl, paired_int q ▸ g, k1, k2, k F1 _ s1 (w1.set ho ⟨_, rfl, ?_⟩)⟩
  rw [k3]
  exact paired_int2 _
/-! ### a op b op' c -/
theorem ev_chain {op op' : CmpOp} {f : α → β → Bool} {g : β → γ → Bool} {V' : Vw γ} (hc : Cp X op R.v S.v f) (hc2 : Cp X op' S.v V' g) (ha : Ev X a σ F Os R.v x Os1) (hb : Ev X b σ F Os1 S.v y Os2) (hcc : Ev X c σ F Os2 V' z Os2)
    (hm : lastMarks [op, op'] [b, c] = false := by with_unfolding_all rfl) : Ev X (.Compare a [op, op'] [b, c] pos) σ F Os rBool.v (f x y && g y z) Os2 := fun F1 H s w Q q => by
  obtain ⟨r, ho, hr⟩ := hc
  obtain ⟨r', ho', hr'⟩ := hc2
  refine w_pe (pe_chain ho ho' pe_w pe_w pe_w hm) (ha.go s w fun v F2 H2 s2 w2 r2 => hb.go (s.trans s2) w2 fun u F3 H3 s3 w3 r3 => hr F3 Os2 H3 v u x y _ w3 (R.mono s3 r2) r3 ⟨_, rfl, ?_⟩)
  cases hf : f x y with
  | true => exact iteT (hcc.go (s.trans (s2.trans s3)) w3 fun u2 F4 H4 s4 w4 r4 => hr' F4 Os2 H4 u u2 y z Q w4 (S.mono s4 r3) r4 (by
      have := q (V.bl (g y z)) F4 H4 (s2.trans (s3.trans s4)) w4 (by rw [hf]; rfl)
      exact this))
  | false => exact iteF (q _ F3 H3 (s2.trans s3) w3 (by rw [hf]; rfl))
theorem et_chain {op op' : CmpOp} {f : α → β → Bool} {g : β → γ → Bool} {V' : Vw γ} (hc : Cp X op R.v S.v f) (hc2 : Cp X op' S.v V' g) (ha : Ev X a σ F Os R.v x Os1) (hb : Ev X b σ F Os1 S.v y Os2) (hcc : Ev X c σ F Os2 V' z Os2)
    (hm : lastMarks [op, op'] [b, c] = false := by with_unfolding_all rfl) : Et X (.Compare a [op, op'] [b, c] pos) σ F Os (f x y && g y z) Os2 := fun F1 H s w Q q => by
  obtain ⟨r, ho, hr⟩ := hc
  obtain ⟨r', ho', hr'⟩ := hc2
  refine w_pt (pt_chain ho ho' pe_w pe_w pe_w hm) (ha.go s w fun v F2 H2 s2 w2 r2 => hb.go (s.trans s2) w2 fun u F3 H3 s3 w3 r3 => hr F3 Os2 H3 v u x y _ w3 (R.mono s3 r2) r3 ⟨_, rfl, ?_⟩)
  cases hf : f x y with
  | true => exact iteT (hcc.go (s.trans (s2.trans s3)) w3 fun u2 F4 H4 s4 w4 r4 => hr' F4 Os2 H4 u u2 y z _ w4 (S.mono s4 r3) r4 ⟨_, rfl, by
      have := q F4 H4 (s2.trans (s3.trans s4)) w4
      rw [hf] at this
      exact this⟩)
  | false => exact iteF ⟨_, rfl, by
      have := q F3 H3 (s2.trans s3) w3
      rw [hf] at this
      exact this⟩
/-! ### a, b = a list -/
def un2 (xs : List α) : Option (α × α) := match xs with
  | [x, y] => some (x, y)
  | _ => none
theorem un2_some {q : α × α} (h : un2 xs = some q) : xs = [q.1, q.2] := by
  match xs, h with
  | [x, y], h => cases h; rfl
theorem wg_l2 {d : Nat} {w2 : α × α} {Q : St → Hp → Prop} (h : un2 xs = some w2) (r : (rList R).r F v xs) (w : Wf F Os H) (k : ∀ v1 v2, R.r F v1 w2.1 → R.r F v2 w2.2 → Wg X a v1 σ H fun σ1 H1 => Wg X b v2 σ1 H1 Q)
    (hc : X.calm = true := by rfl) (hl : (assignEach [a, b] X.env).length = 2 := by rfl) (hst : (assignEach [a, b] X.env).findIdx? (·.1) = none := by rfl)
    (hp : ∀ {g1 g2 : TG}, PG X a g1 → PG X b g2 → PGs X [a, b] (gCons g1 (gCons g2 gNil)) := by intro _ _ h1 h2; exact pgs_cons h1 (pgs_cons h2 pgs_nil)) : Wg X (.Tuple [a, b] d pos) v σ H Q := by
  cases un2_some h
  obtain ⟨p, o, rfl, g, vs, rfl, q⟩ := r
  cases q with
  | cons q1 q =>
    cases q with
    | cons q2 q =>
      cases q
      refine w_pg (pg_lst hc (hp pg_w pg_w) hl hst) ⟨p, _, rfl, .of (w.sub _ _ g), rfl, _, _, rfl, ?_⟩
      have z := k _ _ q1 q2
      intro pins s u I ru
      refine thn (z pins s u I ru) fun _ s' h => ?_
      obtain ⟨σ', H', I', h⟩ := h
      exact ⟨σ', H', I', _, [], rfl, fun pins2 s2 u' I2 r2 => thn (h pins2 s2 u' I2 r2) fun _ s3 ⟨σ3, H3, I3, h3⟩ => ⟨σ3, H3, I3, rfl, h3⟩⟩
/-! ### min, max of two -/
theorem ev_cb2 {id : String} {r : List V → Hp → VK → Prop} (hc : CallR X (.builtin id) r) (ha : Ev X a σ F Os R.v x Os1) (hb : Ev X b σ F Os1 S.v y Os2)
    (hr : ∀ F H v u (Q : VK), Wf F Os2 H → R.r F v x → S.r F u y → (∀ u F' H', Same F F' → Wf F' Os2 H' → T.r F' u z → Q u H') → r [v, u] H Q)
    (hg : Gl X nm) (hm : X.mg nm = none) (hv : bootBuiltins nm = some (.builtin id)) (hn : nm ≠ "__name__" := by decide) (hdb : (nm == ("__debug__" : Str)) = false := by decide)
    (he : starEach [a, b] X.env = (false, eval a X.env) :: starEach [b] X.env := by rfl) (he2 : starEach [b] X.env = (false, eval b X.env) :: starEach [] X.env := by rfl) (hpl : (backTo pos (starEach [b] X.env)).any (·.1) = false := by rfl) : Ev X (.Call (.Name nm p1) [a, b] [] pos) σ F Os T.v z Os2 := fun F1 H s w Q q =>
  w_pe (pe_callB hc hg hm hv (pa_cons pe_w (pa_cons pe_w pa_nil he2) he) hn hdb he hpl) (ha.go s w fun v F2 H2 s2 w2 r2 => hb.go (s.trans s2) w2 fun v3 F3 H3 s3 w3 r3 => hr F3 H3 v v3 Q w3 (R.mono s3 r2) r3 fun u F4 H4 s4 w4 r4 => q u F4 H4 (s2.trans (s3.trans s4)) w4 r4)
theorem ev_min2 (ha : Ev X a σ F Os rInt.v i Os1) (hb : Ev X b σ F Os1 rInt.v j Os2) (hm : X.mg "min" = none) (hc : X.calm = true := by rfl) (hg : Gl X "min" := by rfl)
    (he : starEach [a, b] X.env = (false, eval a X.env) :: starEach [b] X.env := by rfl) (he2 : starEach [b] X.env = (false, eval b X.env) :: starEach [] X.env := by rfl) (hpl : (backTo pos (starEach [b] X.env)).any (·.1) = false := by rfl) : Ev X (.Call (.Name "min" p1) [a, b] [] pos) σ F Os rInt.v (min i j) Os2 :=
  ev_cb2 (T := rInt) (call_min2 hc) ha hb (fun F H v u Q w r1 r2 q => by
    cases (show v = V.int i from r1); cases (show u = V.int j from r2)
    refine ⟨i, j, rfl, ?_⟩
    have e : (if j < i then j else i) = min i j := by
      by_cases h : j < i
      · rw [if_pos h]; omega
      · rw [if_neg h]; omega
    rw [e]
    exact q _ F H (Same.refl _) w rfl) hg hm (by decide +kernel) (by decide) (by decide) he he2 hpl
theorem ev_max2 (ha : Ev X a σ F Os rInt.v i Os1) (hb : Ev X b σ F Os1 rInt.v j Os2) (hm : X.mg "max" = none) (hc : X.calm = true := by rfl) (hg : Gl X "max" := by rfl)
    (he : starEach [a, b] X.env = (false, eval a X.env) :: starEach [b] X.env := by rfl) (he2 : starEach [b] X.env = (false, eval b X.env) :: starEach [] X.env := by rfl) (hpl : (backTo pos (starEach [b] X.env)).any (·.1) = false := by rfl) : Ev X (.Call (.Name "max" p1) [a, b] [] pos) σ F Os rInt.v (max i j) Os2 :=
  ev_cb2 (T := rInt) (call_max2 hc) ha hb (fun F H v u Q w r1 r2 q => by
    cases (show v = V.int i from r1); cases (show u = V.int j from r2)
    refine ⟨i, j, rfl, ?_⟩
    have e : (if j > i then j else i) = max i j := by
      by_cases h : j > i
      · rw [if_pos h]; omega
      · rw [if_neg h]; omega
    rw [e]
    exact q _ F H (Same.refl _) w rfl) hg hm (by decide +kernel) (by decide) (by decide) he he2 hpl
/-! ### sets of ints, sorted -/
def rSetI (w : World) : Rep (List Int) := ⟨fun F v xs => ∃ a S n, v = .ref a ∧ F a = some (SetO w a S n) ∧ ∀ j, S j = true ↔ j ∈ xs, fun s ⟨a, S, n, e, h, g⟩ => ⟨a, S, n, e, s _ _ h, g⟩⟩
def rMkSet (K : PySem.W.Frag) (w : World) : List V → Hp → VK → Prop := fun vs H Q => ∃ (l : Addr) (ns : List Int), vs = [.ref l] ∧ SqL K H l (ns.map V.int) ∧ ns.length + 1 < scanBound ∧
  ∀ p S n, H p = none → (∀ j, S j = true ↔ j ∈ ns) → Q (.ref p) (upd H p (SetO w p S n))
theorem cr_set (hc : X.calm = true) : CallR X (.type "set") (rMkSet X.K X.w) := by
  intro pins s σ H vs us Q I r h
  obtain ⟨l, ns, rfl, hs, hb, q⟩ := h
  obtain ⟨its, rv, hl, hz⟩ := I.list hs
  rw [Vals.ref1 r]
  refine set_of_list (I.ok.hd hc) hl.isList (by simpa using rv.ints) hb fun h' tk g => ?_
  obtain ⟨⟨c, _, hR⟩, kk⟩ := g
  exact ⟨.ref _, upd H s.heap.objs.size (SetO X.w s.heap.objs.size _ c), I.laid (t' := tk) kk (Nat.le_refl _) (setO_new hR), rfl, q _ _ _ (I.hok.fresh (Nat.le_refl _)) fun j => decide_eq_true_iff⟩
def rSrtSet (w : World) : List V → Hp → VK → Prop := fun vs H Q => ∃ (a : Addr) (S : Int → Bool) (n : Nat), vs = [.ref a] ∧ H a = some (SetO w a S n) ∧
  ∀ (ns : List Int) (p : Addr), ns.Pairwise (· < ·) → (∀ k : Int, k ∈ ns ↔ S k = true) → H p = none → Q (.ref p) (upd H p (.lst (ns.map V.int)))
theorem cr_srtSet (hc : X.calm = true) : CallR X (.builtin "sorted") (rSrtSet X.w) := by
  intro pins s σ H vs us Q I r h
  obtain ⟨a, S, n, rfl, ha, q⟩ := h
  rw [Vals.ref1 r]
  refine sorted_any (setO_get I ha) (I.ok.hd hc) fun s' p out c ns k g o hp hg hi hs hm hl => ?_
  have hn : H p = none := I.hok.fresh hp
  have J := I.call' (s' := s') (ch := []) o (Un.laid k hp hn) (I.hok.laid (o := .lst (ns.map V.int)) k hp ⟨by rw [List.length_map]; exact hl, out, c, vals_of_ints hi, hg⟩) (by rw [g]; exact I.bare) (fun _ z => nomatch z)
  exact ⟨.ref p, _, J, rfl, q ns p hs hm hn⟩
theorem ev_set {xs : List Int} (hz : xs.length + 1 < 4096) (ha : Ev X a σ F Os (vList rInt) xs Os1) (hm : X.mg "set" = none) (hc : X.calm = true := by rfl) (hg : Gl X "set" := by rfl) (he : starEach [a] X.env = (false, eval a X.env) :: starEach [] X.env := by rfl) (hpl : (backTo pos (starEach [] X.env)).any (·.1) = false := by rfl) : Ev X (.Call (.Name "set" p1) [a] [] pos) σ F Os (rSetI X.w).v xs Os1 :=
  ev_ct1 (cr_set hc) ha (fun F H v Q w r q => by
    obtain ⟨p, o, e1, h1, vs, e2, h2⟩ := vOf.get w r
    cases e1; cases e2
    exact ⟨p, xs, rfl, .of (paired_int h2 ▸ h1), hz, fun pp S n hp hS => q _ _ _ (w.frozS hp) (w.froz hp) ⟨pp, S, n, rfl, upd_same, hS⟩⟩) hg hm (by decide +kernel) (by decide) (by decide) he hpl
/-- the members, from below -/
def insA (x : Int) : List Int → List Int
  | [] => [x]
  | y :: r => if x < y then x :: y :: r else if x = y then y :: r else y :: insA x r
def asc : List Int → List Int
  | [] => []
  | x :: r => insA x (asc r)
theorem insA_mem {x z : Int} : ∀ {l : List Int}, z ∈ insA x l ↔ z = x ∨ z ∈ l
  | [] => by simp [insA]
  | y :: r => by
    unfold insA
    by_cases h1 : x < y
    · rw [if_pos h1]; simp
    · rw [if_neg h1]
      by_cases h2 : x = y
      · rw [if_pos h2]; subst h2; simp
      · rw [if_neg h2, List.mem_cons, insA_mem, List.mem_cons]
        constructor
        · rintro (h | h | h)
          · exact .inr (.inl h)
          · exact .inl h
          · exact .inr (.inr h)
        · rintro (h | h | h)
          · exact .inr (.inl h)
          · exact .inl h
          · exact .inr (.inr h)
theorem insA_lt {x : Int} : ∀ {l : List Int}, l.Pairwise (· < ·) → (insA x l).Pairwise (· < ·)
  | [], _ => List.pairwise_singleton _ _
  | y :: r, h => by
    obtain ⟨h1, h2⟩ := List.pairwise_cons.mp h
    unfold insA
    by_cases g1 : x < y
    · rw [if_pos g1]
      exact List.pairwise_cons.mpr ⟨fun z hz => (List.mem_cons.mp hz).elim (fun e => e ▸ g1) fun hz => Int.lt_trans g1 (h1 z hz), h⟩
    · rw [if_neg g1]
      by_cases g2 : x = y
      · rw [if_pos g2]; exact h
      · rw [if_neg g2]
        refine List.pairwise_cons.mpr ⟨fun z hz => ?_, insA_lt h2⟩
        rcases insA_mem.mp hz with rfl | hz
        · omega
        · exact h1 z hz
theorem asc_mem {z : Int} : ∀ {l : List Int}, z ∈ asc l ↔ z ∈ l
  | [] => Iff.rfl
  | x :: r => by
    show z ∈ insA x (asc r) ↔ _
    rw [insA_mem, asc_mem, List.mem_cons]
theorem asc_lt : ∀ l : List Int, (asc l).Pairwise (· < ·)
  | [] => List.Pairwise.nil
  | x :: r => insA_lt (asc_lt r)
theorem lt_uniq : ∀ {l m : List Int}, l.Pairwise (· < ·) → m.Pairwise (· < ·) → (∀ z, z ∈ l ↔ z ∈ m) → l = m
  | [], [], _, _, _ => rfl
  | [], y :: m, _, _, h => absurd ((h y).mpr List.mem_cons_self) (by simp)
  | x :: l, [], _, _, h => absurd ((h x).mp List.mem_cons_self) (by simp)
  | x :: l, y :: m, hl, hm, h => by
    obtain ⟨h1, h2⟩ := List.pairwise_cons.mp hl
    obtain ⟨g1, g2⟩ := List.pairwise_cons.mp hm
    have e : x = y := by
      rcases List.mem_cons.mp ((h x).mp List.mem_cons_self) with e | hx
      · exact e
      · rcases List.mem_cons.mp ((h y).mpr List.mem_cons_self) with e | hy
        · exact e.symm
        · have := h1 y hy
          have := g1 x hx
          omega
    subst e
    rw [lt_uniq h2 g2 fun z => ⟨fun hz => ?_, fun hz => ?_⟩]
    · rcases List.mem_cons.mp ((h z).mp (List.mem_cons_of_mem _ hz)) with e | q
      · have := h1 z hz
        omega
      · exact q
    · rcases List.mem_cons.mp ((h z).mpr (List.mem_cons_of_mem _ hz)) with e | q
      · have := g1 z hz
        omega
      · exact q
def setO (xs : List Int) : Option (List Int) := if xs.length + 1 < 4096 then some xs else none
theorem setO_some {xs ys : List Int} (h : setO xs = some ys) : xs.length + 1 < 4096 ∧ ys = xs := by
  unfold setO at h
  by_cases hc : xs.length + 1 < 4096
  · rw [if_pos hc] at h
    exact ⟨hc, (Option.some.inj h).symm⟩
  · rw [if_neg hc] at h
    cases h
theorem ev_setO {xs ys : List Int} (h : setO xs = some ys) (ha : Ev X a σ F Os (vList rInt) xs Os1) (hm : X.mg "set" = none) (hc : X.calm = true := by rfl) (hg : Gl X "set" := by rfl) (he : starEach [a] X.env = (false, eval a X.env) :: starEach [] X.env := by rfl) (hpl : (backTo pos (starEach [] X.env)).any (·.1) = false := by rfl) : Ev X (.Call (.Name "set" p1) [a] [] pos) σ F Os (rSetI X.w).v ys Os1 := by
  obtain ⟨h1, rfl⟩ := setO_some h
  exact ev_set h1 ha hm hc hg he hpl
theorem evn_srtSet {xs : List Int} (ha : Ev X a σ F Os (rSetI X.w).v xs Os1) (hm : X.mg "sorted" = none) (hc : X.calm = true := by rfl) (hg : Gl X "sorted" := by rfl) (he : starEach [a] X.env = (false, eval a X.env) :: starEach [] X.env := by rfl) (hpl : (backTo pos (starEach [] X.env)).any (·.1) = false := by rfl) : EvN X (.Call (.Name "sorted" p1) [a] [] pos) σ F Os (oList rInt (asc xs)) Os1 :=
  evn_cb1 (cr_srtSet hc) ha (fun F H v Q w r q => by
    obtain ⟨p, S, n, e1, h1, h2⟩ := r
    cases e1
    refine ⟨p, S, n, rfl, w.sub _ _ h1, fun ns pp hs hm hp => ?_⟩
    have e : asc xs = ns := lt_uniq (asc_lt _) hs fun z => by rw [asc_mem, hm, h2]
    rw [e] at q
    exact q pp F _ (Same.refl _) (w.new hp ⟨_, rfl, paired_int2 ns⟩)) hg hm (by decide +kernel) (by decide) (by decide) he hpl
theorem cp_inS : Cp X .In rInt.v (rSetI X.w).v (fun x ys => decide (x ∈ ys)) := ⟨_, or_sin, fun F Os H v u x y Q w r1 r2 q => by
  obtain ⟨p, S, n, e1, h1, h2⟩ := r2
  refine ⟨x, p, S, n, r1, e1, w.sub _ _ h1, ?_⟩
  have e : S x = decide (x ∈ y) := by
    by_cases h : x ∈ y
    · rw [decide_eq_true h]; exact (h2 x).mpr h
    · rw [decide_eq_false h]
      cases hs : S x with
      | false => rfl
      | true => exact absurd ((h2 x).mp hs) h
  rw [e]
  exact q⟩
theorem cp_ninS : Cp X .NotIn rInt.v (rSetI X.w).v (fun x ys => decide (x ∉ ys)) := ⟨_, or_snotin, fun F Os H v u x y Q w r1 r2 q => by
  obtain ⟨p, S, n, e1, h1, h2⟩ := r2
  refine ⟨x, p, S, n, r1, e1, w.sub _ _ h1, ?_⟩
  have e : (!S x) = decide (x ∉ y) := by
    by_cases h : x ∈ y
    · rw [decide_eq_false (fun z => z h), (h2 x).mpr h]; rfl
    · rw [decide_eq_true h]
      cases hs : S x with
      | false => rfl
      | true => exact absurd ((h2 x).mp hs) h
  rw [e]
  exact q⟩
/-- sorted(xs), ints -/
def insS (x : Int) : List Int → List Int
  | [] => [x]
  | y :: r => if x ≤ y then x :: y :: r else y :: insS x r
def srt : List Int → List Int
  | [] => []
  | x :: r => insS x (srt r)
theorem insS_perm {x : Int} : ∀ l : List Int, (insS x l).Perm (x :: l)
  | [] => .refl _
  | y :: r => by
    unfold insS
    by_cases h : x ≤ y
    · rw [if_pos h]
    · rw [if_neg h]
      exact (List.Perm.cons y (insS_perm r)).trans (List.Perm.swap x y r)
theorem insS_le {x : Int} : ∀ {l : List Int}, l.Pairwise (· ≤ ·) → (insS x l).Pairwise (· ≤ ·)
  | [], _ => List.pairwise_singleton _ _
  | y :: r, h => by
    obtain ⟨h1, h2⟩ := List.pairwise_cons.mp h
    unfold insS
    by_cases g : x ≤ y
    · rw [if_pos g]
      exact List.pairwise_cons.mpr ⟨fun z hz => (List.mem_cons.mp hz).elim (fun e => e ▸ g) fun hz => Int.le_trans g (h1 z hz), h⟩
    · rw [if_neg g]
      refine List.pairwise_cons.mpr ⟨fun z hz => ?_, insS_le h2⟩
      rcases List.mem_cons.mp ((insS_perm r).mem_iff.mp hz) with rfl | hz
      · omega
      · exact h1 z hz
theorem srt_perm : ∀ l : List Int, (srt l).Perm l
  | [] => .refl _
  | x :: r => (insS_perm _).trans ((srt_perm r).cons x)
theorem srt_le : ∀ l : List Int, (srt l).Pairwise (· ≤ ·)
  | [] => List.Pairwise.nil
  | x :: r => insS_le (srt_le r)
theorem le_uniq {l m : List Int} (h1 : l.Pairwise (· ≤ ·)) (h2 : m.Pairwise (· ≤ ·)) (h : l.Perm m) : l = m := h.eq_of_pairwise (fun a b _ _ => Int.le_antisymm) h1 h2
theorem evn_srtL {xs : List Int} (ha : Ev X a σ F Os (vList rInt) xs Os1) (hm : X.mg "sorted" = none) (hg : Gl X "sorted" := by rfl) (he : starEach [a] X.env = (false, eval a X.env) :: starEach [] X.env := by rfl) (hpl : (backTo pos (starEach [] X.env)).any (·.1) = false := by rfl) : EvN X (.Call (.Name "sorted" p1) [a] [] pos) σ F Os (oList rInt (srt xs)) Os1 :=
  evn_cb1 cr_sortedI ha (fun F H v Q w r q => by
    obtain ⟨p, o, e1, h1, vs, e2, h2⟩ := vOf.get w r
    cases e1; cases e2
    refine ⟨p, xs, rfl, .of (paired_int h2 ▸ h1), fun ns pp hp hs hn => ?_⟩
    have e : srt xs = ns := le_uniq (srt_le _) hs ((srt_perm xs).trans hp.symm)
    rw [e] at q
    exact q pp F _ (Same.refl _) (w.new hn ⟨_, rfl, paired_int2 ns⟩)) hg hm (by decide +kernel) (by decide) (by decide) he hpl
/-- a list that never changes, its index may change what is owned -/
theorem ev_ixF (h : ix xs i = some x) (ha : Ev X a σ F Os (rList R).v xs Os1) (hb : Ev X b σ F Os1 rInt.v i Os2) (hp : PlainIx b := by exact (fun _ _ => rfl)) : Ev X (.Subscript a b pos) σ F Os R.v x Os2 := fun F1 H s w Q q =>
  w_pe (pe_ix ix_list pe_w pe_w hp) (ha.go s w fun v F2 H2 s2 w2 r2 => hb.go (s.trans s2) w2 fun u F3 H3 s3 w3 r3 => by
    obtain ⟨p, o, e1, h1, vs, e2, h2⟩ := (rList R).mono s3 r2
    cases e2
    obtain ⟨t, g1, g2⟩ := atI_paired h2 h
    exact ⟨p, vs, i, t, e1, r3, .of (w3.sub _ _ h1), g1, q t F3 H3 (s2.trans s3) w3 g2⟩)
theorem u65 {kk : Nat} {A : Around} (r : Room kk A) : A.units + 65 < cLine := by
  have := r.un
  omega
end
/-! ### frozen for a while, the result new -/
/-- it looks at tuples alone -/
def NlR {α : Type} (R : Rep α) : Prop := ∀ (F F' : Hp) v x, (∀ a vs, F a = some (.tup vs) → F' a = some (.tup vs)) → R.r F v x → R.r F' v x
def NlO (O : OC) : Prop := ∀ (F F' : Hp) o, (∀ a vs, F a = some (.tup vs) → F' a = some (.tup vs)) → O.p F o → O.p F' o
theorem nl_int : NlR rInt := fun _ _ _ _ _ h => h
theorem nl_bool : NlR rBool := fun _ _ _ _ _ h => h
theorem nl_str : NlR rStr := fun _ _ _ _ _ h => h
theorem nl_none : NlR rNone := fun _ _ _ _ _ h => h
theorem nl_opt {α : Type} {R : Rep α} (h : NlR R) : NlR (rOpt R) := fun F F' v x s r => by
  cases x with
  | none => exact r
  | some y => exact ⟨h F F' v y s r.1, r.2⟩
theorem nl_2 {α β : Type} {R : Rep α} {S : Rep β} (h : NlR R) (h' : NlR S) : NlR (rT2 R S) := fun F F' v x s ⟨a, u1, u2, e, g, g1, g2⟩ => ⟨a, u1, u2, e, s _ _ g, h F F' _ _ s g1, h' F F' _ _ s g2⟩
theorem nl_3 {α β γ : Type} {R : Rep α} {S : Rep β} {T : Rep γ} (h : NlR R) (h' : NlR S) (h2 : NlR T) : NlR (rT3 R S T) := fun F F' v x s ⟨a, u1, u2, u3, e, g, g1, g2, g3⟩ => ⟨a, u1, u2, u3, e, s _ _ g, h F F' _ _ s g1, h' F F' _ _ s g2, h2 F F' _ _ s g3⟩
theorem nl_tup {α : Type} {R : Rep α} (h : NlR R) : NlR (rTup R) := fun F F' v x s ⟨a, vs, e, g, g1⟩ => ⟨a, vs, e, s _ _ g, paired_mono (fun _ _ q => h F F' _ _ s q) g1⟩
theorem nl_L {α : Type} {R : Rep α} (h : NlR R) (xs : List α) : NlO (oList R xs) := fun F F' o s ⟨vs, e, g⟩ => ⟨vs, e, paired_mono (fun _ _ q => h F F' _ _ s q) g⟩
/-- the owned lists at S never change for a while; what stands ahead of them (Ms) may -/
theorem Wf.tmpM {F H : Hp} {Ms Os : Owns} (w : Wf F (Ms ++ Os) H) (S : List Addr) (hS : ∀ a ∈ S, ∃ O u, (a, O) ∈ Os ∧ H a = some u ∧ ∀ vs, u ≠ .tup vs) : ∃ G Ex, Same F G ∧ Wf G (Ms ++ Ex) H ∧ (∀ a (O : OC), (a, O) ∈ Os → a ∈ S → ∃ o, G a = some o ∧ O.p G o) ∧
    ∀ F2 H2 Ms', Same G F2 → (∀ q ∈ Ms', NlO q.2) → Wf F2 (Ms' ++ Ex) H2 → ∃ F3, Same F F3 ∧ Wf F3 (Ms' ++ Os) H2 ∧ ∀ a vs, F2 a = some (.tup vs) → F3 a = some (.tup vs) := by
  have nd := w.nd
  rw [List.map_append] at nd
  obtain ⟨nd1, nd2, nd3⟩ := List.nodup_append.mp nd
  have hF : ∀ a ∈ S, F a = none := fun a ha => by
    obtain ⟨O, vs, h1, _⟩ := hS a ha
    exact (w.own _ (List.mem_append_right _ h1)).1
  have hM : ∀ q ∈ Ms, q.1 ∉ S := fun q hq hs => by
    obtain ⟨O, vs, h1, _⟩ := hS _ hs
    exact nd3 _ (List.mem_map.mpr ⟨q, hq, rfl⟩) _ (List.mem_map.mpr ⟨_, h1, rfl⟩) rfl
  obtain ⟨G, hG⟩ : ∃ G : Hp, G = fun b => if b ∈ S then H b else F b := ⟨_, rfl⟩
  have g1 : ∀ b, b ∈ S → G b = H b := fun b hb => by rw [hG]; exact if_pos hb
  have g2 : ∀ b, b ∉ S → G b = F b := fun b hb => by rw [hG]; exact if_neg hb
  obtain ⟨Ex, hE⟩ : ∃ Ex : Owns, Ex = (Os.filter fun p => decide (p.1 ∉ S)).filterMap fun p => (H p.1).map fun o => (p.1, ocIs o) := ⟨_, rfl⟩
  have inE : ∀ q ∈ Ex, ∃ p ∈ Os, p.1 ∉ S ∧ p.1 = q.1 ∧ ∃ o, H p.1 = some o ∧ q.2 = ocIs o := fun q hq => by
    rw [hE] at hq
    obtain ⟨p, hp, e⟩ := List.mem_filterMap.mp hq
    obtain ⟨h1, h2⟩ := List.mem_filter.mp hp
    obtain ⟨_, o, h4, _⟩ := w.own p (List.mem_append_right _ h1)
    rw [h4] at e
    cases e
    exact ⟨p, h1, of_decide_eq_true h2, rfl, o, h4, rfl⟩
  have toE : ∀ p ∈ Os, p.1 ∉ S → ∃ o, H p.1 = some o ∧ (p.1, ocIs o) ∈ Ex := fun p hp hn => by
    obtain ⟨_, o, h4, _⟩ := w.own p (List.mem_append_right _ hp)
    exact ⟨o, h4, by rw [hE]; exact List.mem_filterMap.mpr ⟨p, List.mem_filter.mpr ⟨hp, decide_eq_true hn⟩, by rw [h4]; rfl⟩⟩
  have sG : Same F G := fun b o e => by
    by_cases hb : b ∈ S
    · rw [hF b hb] at e; cases e
    · rw [g2 b hb]; exact e
  have subE : Ex.map (·.1) = (Os.filter fun p => decide (p.1 ∉ S)).map (·.1) := by
    rw [hE]
    have : ∀ l : Owns, (∀ p ∈ l, ∃ o, H p.1 = some o) → (l.filterMap fun p => (H p.1).map fun o => ((p.1, ocIs o) : Addr × OC)).map (·.1) = l.map (·.1) := fun l => by
      induction l with
      | nil => intro _; rfl
      | cons p r ih =>
        intro hl
        obtain ⟨o, ho⟩ := hl p List.mem_cons_self
        rw [List.filterMap_cons, ho]
        show p.1 :: _ = p.1 :: _
        rw [ih fun q hq => hl q (List.mem_cons_of_mem _ hq)]
    exact this _ fun p hp => by
      obtain ⟨_, o, h, _⟩ := w.own p (List.mem_append_right _ (List.mem_filter.mp hp).1)
      exact ⟨o, h⟩
  refine ⟨G, Ex, sG, ⟨fun b o e => ?_, fun q hq => ?_, ?_⟩, fun a O hO hs => ?_, fun F2 H2 Ms' s2 nl w2 => ?_⟩
  · by_cases hb : b ∈ S
    · rw [g1 b hb] at e; exact e
    · rw [g2 b hb] at e; exact w.sub _ _ e
  · rcases List.mem_append.mp hq with hq | hq
    · obtain ⟨h1, o, h2, h3⟩ := w.own q (List.mem_append_left _ hq)
      exact ⟨by rw [g2 _ (hM q hq)]; exact h1, o, h2, q.2.mono sG h3⟩
    · obtain ⟨p, hp, hn, e, o, ho, e2⟩ := inE q hq
      rw [← e, e2]
      exact ⟨by rw [g2 _ hn]; exact (w.own p (List.mem_append_right _ hp)).1, o, ho, rfl⟩
  · rw [List.map_append, subE, ← List.map_append]
    exact List.Nodup.sublist (List.Sublist.map _ (List.Sublist.append (List.Sublist.refl _) List.filter_sublist)) w.nd
  · obtain ⟨_, o, h4, h5⟩ := w.own _ (List.mem_append_right Ms hO)
    exact ⟨o, by rw [g1 _ hs]; exact h4, O.mono sG h5⟩
  · have inL : ∀ a ∈ S, ∃ u, F2 a = some u ∧ ∀ vs, u ≠ .tup vs := fun a ha => by
      obtain ⟨O, vs, _, e⟩ := hS a ha
      exact ⟨vs, s2 _ _ (by rw [g1 a ha]; exact e.1), e.2⟩
    obtain ⟨F3, h3⟩ : ∃ F3 : Hp, F3 = fun b => if b ∈ S then none else F2 b := ⟨_, rfl⟩
    have k1 : ∀ b, b ∈ S → F3 b = none := fun b hb => by rw [h3]; exact if_pos hb
    have k2 : ∀ b, b ∉ S → F3 b = F2 b := fun b hb => by rw [h3]; exact if_neg hb
    have kt : ∀ a vs, F2 a = some (.tup vs) → F3 a = some (.tup vs) := fun a vs e => by
      by_cases ha : a ∈ S
      · obtain ⟨u, e', hu⟩ := inL a ha
        rw [e] at e'
        cases e'
        exact absurd rfl (hu _)
      · rw [k2 a ha]; exact e
    have s3 : Same F F3 := fun b u e => by
      by_cases hb : b ∈ S
      · rw [hF b hb] at e; cases e
      · rw [k2 b hb]; exact s2 _ _ (by rw [g2 b hb]; exact e)
    have kM : ∀ q ∈ Ms', q.1 ∉ S := fun q hq hs => by
      obtain ⟨vs, e, _⟩ := inL _ hs
      rw [(w2.own q (List.mem_append_left _ hq)).1] at e
      cases e
    refine ⟨F3, s3, ⟨fun b u e => ?_, fun q hq => ?_, ?_⟩, kt⟩
    · by_cases hb : b ∈ S
      · rw [k1 b hb] at e; cases e
      · rw [k2 b hb] at e; exact w2.sub _ _ e
    · rcases List.mem_append.mp hq with hq | hq
      · obtain ⟨h1, o, h2, h5⟩ := w2.own q (List.mem_append_left _ hq)
        exact ⟨by rw [k2 _ (kM q hq)]; exact h1, o, h2, nl q hq F2 F3 o kt h5⟩
      · obtain ⟨_, o, h4, h5⟩ := w.own q (List.mem_append_right _ hq)
        have h5 := q.2.mono s3 h5
        by_cases hb : q.1 ∈ S
        · exact ⟨k1 _ hb, o, w2.sub _ _ (s2 _ _ (by rw [g1 _ hb]; exact h4)), h5⟩
        · obtain ⟨o', h6, h7⟩ := toE q hq hb
          obtain ⟨h8, u, h9, h10⟩ := w2.own _ (List.mem_append_right _ h7)
          cases (show u = o' from h10)
          cases h6.symm.trans h4
          exact ⟨by rw [k2 _ hb]; exact h8, _, h9, h5⟩
    · have nd' := w2.nd
      rw [List.map_append] at nd' ⊢
      obtain ⟨n1, n2, n3⟩ := List.nodup_append.mp nd'
      refine List.nodup_append.mpr ⟨n1, nd2, fun x hx y hy e => ?_⟩
      subst e
      obtain ⟨q, hq, rfl⟩ := List.mem_map.mp hx
      obtain ⟨p, hp, e⟩ := List.mem_map.mp hy
      have hn : p.1 ∉ S := fun hs => kM q hq (by rw [← e]; exact hs)
      obtain ⟨o', _, h7⟩ := toE p hp hn
      exact n3 _ (List.mem_map.mpr ⟨q, hq, rfl⟩) _ (List.mem_map.mpr ⟨_, h7, rfl⟩) e.symm
theorem own_lst {α : Type} {F H : Hp} {Ms Os : Owns} {R : Rep α} {xs : List α} {a : Addr} {i : Nat} (w : Wf F (Ms ++ Os) H) (hi : Os[i]? = some (a, oList R xs)) : ∃ O u, (a, O) ∈ Os ∧ H a = some u ∧ ∀ vs, u ≠ .tup vs := by
  have hm := List.mem_of_getElem? hi
  obtain ⟨_, o, h, vs, e, _⟩ := w.own _ (List.mem_append_right _ hm)
  subst e
  exact ⟨_, _, hm, h, fun _ z => nomatch z⟩
end Z

namespace Z
open PySem PySem.Spec L2
/-! ### dicts with int keys, in plain words -/
section
variable {α β : Type}
def dlook (d : List (Int × α)) (k : Int) : Option α := (d.find? fun p => decide (p.1 = k)).map (·.2)
def dput (d : List (Int × α)) (k : Int) (x : α) : List (Int × α) := if (d.any fun p => decide (p.1 = k)) = true then d.map (fun p => if p.1 = k then (p.1, x) else p) else d ++ [(k, x)]
def dputO (d : List (Int × α)) (k : Int) (x : α) : Option (List (Int × α)) := if d.length < 16777216 then some (dput d k x) else none
def dkeys (d : List (Int × α)) : List Int := d.map (·.1)
theorem dputO_some {d e : List (Int × α)} {k : Int} {x : α} (h : dputO d k x = some e) : d.length < sizeLine ∧ e = dput d k x := by
  unfold dputO at h
  by_cases hc : d.length < 16777216
  · rw [if_pos hc] at h
    exact ⟨by rw [sizeLine_eq]; exact hc, (Option.some.inj h).symm⟩
  · rw [if_neg hc] at h
    cases h
abbrev DP (R : Rep α) (F : Hp) : List (Key × V) → List (Int × α) → Prop := Paired fun kv q => kv.1 = Sum.inl q.1 ∧ R.r F kv.2 q.2
theorem DP.mono {R : Rep α} {F F' : Hp} {kvs : List (Key × V)} {d : List (Int × α)} (s : Same F F') (h : DP R F kvs d) : DP R F' kvs d := paired_mono (fun _ _ q => ⟨q.1, R.mono s q.2⟩) h
theorem dp_look {R : Rep α} {F : Hp} {k : Int} : ∀ {kvs : List (Key × V)} {d : List (Int × α)}, DP R F kvs d → (dlook d k = none → valV kvs (Sum.inl k) = none) ∧ ∀ x, dlook d k = some x → ∃ v, valV kvs (Sum.inl k) = some v ∧ R.r F v x
  | _, _, .nil => ⟨fun _ => rfl, fun x h => by cases h⟩
  | _, _, .cons (a := p) (b := q) (l₁ := ps) (l₂ := qs) ⟨h1, h2⟩ t => by
    have ih := dp_look (k := k) t
    by_cases e : q.1 = k
    · have l : dlook (q :: qs) k = some q.2 := by simp [dlook, e]
      rw [l, valV_pos (by rw [h1, e])]
      exact ⟨fun z => by (cases z), fun x z => ⟨_, rfl, by cases z; exact h2⟩⟩
    · have l : dlook (q :: qs) k = dlook qs k := by simp [dlook, e]
      rw [l, valV_neg (by rw [h1]; exact fun z => e (Sum.inl.inj z))]
      exact ih
theorem dp_any {R : Rep α} {F : Hp} {k : Int} : ∀ {kvs : List (Key × V)} {d : List (Int × α)}, DP R F kvs d → (kvs.any fun kv => decide (kv.1 = Sum.inl k)) = d.any fun p => decide (p.1 = k)
  | _, _, .nil => rfl
  | _, _, .cons (a := p) (b := q) (l₁ := ps) (l₂ := qs) ⟨h1, h2⟩ t => by
    rw [List.any_cons, List.any_cons, dp_any t, h1]
    congr 1
    exact decide_eq_decide.mpr ⟨fun z => Sum.inl.inj z, fun z => by rw [z]⟩
theorem dp_map {R : Rep α} {F : Hp} {k : Int} {v : V} {x : α} (r : R.r F v x) : ∀ {kvs : List (Key × V)} {d : List (Int × α)}, DP R F kvs d → DP R F (kvs.map fun kv => if kv.1 = Sum.inl k then (kv.1, v) else kv) (d.map fun p => if p.1 = k then (p.1, x) else p)
  | _, _, .nil => .nil
  | _, _, .cons (a := p) (b := q) (l₁ := ps) (l₂ := qs) ⟨h1, h2⟩ t => by
    rw [List.map_cons, List.map_cons]
    refine .cons ?_ (dp_map r t)
    by_cases e : q.1 = k
    · rw [if_pos e, if_pos (by rw [h1, e])]
      exact ⟨h1, r⟩
    · rw [if_neg e, if_neg (by rw [h1]; exact fun z => e (Sum.inl.inj z))]
      exact ⟨h1, h2⟩
theorem dp_put {R : Rep α} {F : Hp} {k : Int} {v : V} {x : α} {kvs : List (Key × V)} {d : List (Int × α)} (h : DP R F kvs d) (r : R.r F v x) : DP R F (putK kvs (Sum.inl k) v) (dput d k x) := by
  unfold putK dput
  rw [dp_any h]
  by_cases e : (d.any fun p => decide (p.1 = k)) = true
  · rw [if_pos e, if_pos e]
    exact dp_map r h
  · rw [if_neg e, if_neg e]
    exact paired_append h (.cons ⟨rfl, r⟩ .nil)
theorem dp_keys {R : Rep α} {F : Hp} : ∀ {kvs : List (Key × V)} {d : List (Int × α)}, DP R F kvs d → Paired (rInt.r F) (kvs.map fun kv => kV kv.1) (dkeys d)
  | _, _, .nil => .nil
  | _, _, .cons (a := p) (b := q) (l₁ := ps) (l₂ := qs) ⟨h1, h2⟩ t => by
    refine .cons ?_ (dp_keys t)
    show kV p.1 = V.int q.1
    rw [h1]
    rfl
/-- an owned dict; one that is looked at; one that never changes -/
def oDict (R : Rep α) (d : List (Int × α)) : OC := ⟨fun F o => ∃ kvs, o = .dK kvs ∧ DP R F kvs d, fun s ⟨kvs, e, h⟩ => ⟨kvs, e, h.mono s⟩⟩
def oFrz (R : Rep α) (d : List (Int × α)) : OC := ⟨fun F o => ∃ z kvs, o = .frz z (.dK kvs) ∧ DP R F kvs d, fun s ⟨z, kvs, e, h⟩ => ⟨z, kvs, e, h.mono s⟩⟩
def rDict (R : Rep α) : Rep (List (Int × α)) := ⟨fun F v d => ∃ a z kvs, v = .ref a ∧ F a = some (.frz z (.dK kvs)) ∧ DP R F kvs d, fun s ⟨a, z, kvs, e, h, p⟩ => ⟨a, z, kvs, e, s _ _ h, p.mono s⟩⟩
def vDict (R : Rep α) : Vw (List (Int × α)) := ⟨fun F Os v d => ∃ a, v = .ref a ∧ ((∃ z kvs, F a = some (.frz z (.dK kvs)) ∧ DP R F kvs d) ∨ (a, oDict R d) ∈ Os ∨ (a, oFrz R d) ∈ Os), fun s ⟨a, e, h⟩ => ⟨a, e, h.elim (fun ⟨z, kvs, g, p⟩ => .inl ⟨z, kvs, s _ _ g, p.mono s⟩) .inr⟩⟩
end
section
variable {α β γ : Type} {X : Cx} {e a b c it tg elt : Expr} {es ifs : List Expr} {pos p1 p2 p3 : Pos} {σ : St} {F F' H : Hp} {Os Os1 Os2 Os3 : Owns} {W : Vw α} {U : Vw β} {R : Rep α} {S : Rep β} {T : Rep γ} {Y : Rep α} {x x' : α} {y : β} {i j k : Int} {l : Bool} {xs ys zs : List α} {D : Ends} {rest body : List Stmt} {n m : Nat} {nm : Str} {v : V} {d d' : List (Int × α)} {l : Addr}
theorem vDict.own {i : Nat} (h : Os[i]? = some (l, oDict R d)) : (vDict R).r F Os (.ref l) d := ⟨l, rfl, .inr (.inl (List.mem_of_getElem? h))⟩
theorem vDict.lk {i : Nat} (h : Os[i]? = some (l, oFrz R d)) : (vDict R).r F Os (.ref l) d := ⟨l, rfl, .inr (.inr (List.mem_of_getElem? h))⟩
theorem vDict.of (h : (rDict R).r F v d) : (vDict R).r F Os v d := by
  obtain ⟨a, z, kvs, e, h1, h2⟩ := h
  exact ⟨a, e, .inl ⟨z, kvs, h1, h2⟩⟩
theorem vDict.get (w : Wf F Os H) (h : (vDict R).r F Os v d) : ∃ a kvs, v = .ref a ∧ Rd H a (.dK kvs) ∧ DP R F kvs d := by
  obtain ⟨a, e, h | h | h⟩ := h
  · obtain ⟨z, kvs, h1, h2⟩ := h
    exact ⟨a, kvs, e, .inr ⟨z, w.sub _ _ h1⟩, h2⟩
  · obtain ⟨_, o, h1, kvs, rfl, h2⟩ := w.own _ h
    exact ⟨a, kvs, e, .inl h1, h2⟩
  · obtain ⟨_, o, h1, z, kvs, rfl, h2⟩ := w.own _ h
    exact ⟨a, kvs, e, .inr ⟨z, h1⟩, h2⟩
theorem Ev.vwD (h : Ev X e σ F Os (rDict R).v d Os1) : Ev X e σ F Os (vDict R) d Os1 := fun F1 H s w Q q => h.go s w fun v F2 H2 s2 w2 r2 => q v F2 H2 s2 w2 (vDict.of r2)
/-! ### making, freezing -/
theorem evn_dnew : EvN X (.Dict [] [] pos) σ F Os (oDict R ([] : List (Int × α))) Os := fun F1 H s w Q q =>
  w_pe pe_dnewK fun p hp => q p F1 _ (Same.refl _) (w.new hp ⟨[], rfl, .nil⟩)
/-- an owned dict is locked for good -/
theorem lock_own {pins : List (Addr × Obj)} {s : Shared} {i : Nat} (I : Inv X pins σ H s) (w : Wf F Os H) (ho : Os[i]? = some (l, oDict R d)) : ∃ F' H', Inv X pins σ H' s ∧ Same F F' ∧ Wf F' (Os.eraseIdx i) H' ∧ (rDict R).r F' (.ref l) d := by
  obtain ⟨h1, o, h2, kvs, rfl, h3⟩ := w.at ho
  obtain ⟨od, I1⟩ := I.lock h2 trivial
  have w1 : Wf F (Os.set i (l, oFrz R d)) (upd H l (.frz od (.dK kvs))) := w.set ho ⟨od, kvs, rfl, h3⟩
  have hi : (Os.set i (l, oFrz R d))[i]? = some (l, oFrz R d) := List.getElem?_set_self (List.getElem?_eq_some_iff.mp ho).1
  obtain ⟨o, g1, g2, g3⟩ := w1.fz hi
  rw [List.eraseIdx_set_eq] at g3
  obtain ⟨z, kvs', rfl, g4⟩ := g1
  exact ⟨_, _, I1, g2, g3, l, z, kvs', rfl, upd_same, g4⟩
theorem EvN.fzD (h : EvN X e σ F Os (oDict R d) Os1) : Ev X e σ F Os (rDict R).v d Os1 := fun F1 H s w Q q => fun pins sh I =>
  thn (h F1 H s w (fun v H' => ∃ p F', v = .ref p ∧ Same F1 F' ∧ Wf F' ((p, oDict R d) :: Os1) H') (fun p F' H' s' w' => ⟨p, F', rfl, s', w'⟩) pins sh I) fun u s' ⟨v, H', I', r, p, F', e, s2, w2⟩ => by
    subst e
    obtain ⟨F3, H3, I3, s3, w3, r3⟩ := lock_own I' w2 (i := 0) rfl
    exact ⟨_, H3, I3, r, q _ F3 H3 (s2.trans s3) w3 r3⟩
theorem ws_fzD {i : Nat} (w : Wf F Os H) (ho : Os[i]? = some (l, oDict R d)) (k : ∀ F1 H1, Same F F1 → Wf F1 (Os.eraseIdx i) H1 → (rDict R).r F1 (.ref l) d → Ws X rest D σ H1) : Ws X rest D σ H := fun pins s I => by
  obtain ⟨F3, H3, I3, s3, w3, r3⟩ := lock_own I w ho
  exact k F3 H3 s3 w3 r3 pins s I3
/-- locked for the time of one expression -/
theorem ev_lockD {i : Nat} (ho : Os[i]? = some (l, oDict R d)) (h : Ev X e σ F (Os.set i (l, oFrz R d)) S.v y Os1) (ho1 : Os1[i]? = some (l, oFrz R d)) : Ev X e σ F Os S.v y (Os1.set i (l, oDict R d)) := fun F1 H s w Q q => fun pins sh I => by
  obtain ⟨h1, o, h2, kvs, rfl, h3⟩ := w.at ho
  obtain ⟨od, I1⟩ := I.lock h2 trivial
  have w1 : Wf F1 (Os.set i (l, oFrz R d)) (upd H l (.frz od (.dK kvs))) := w.set ho ⟨od, kvs, rfl, h3⟩
  refine thn (h F1 _ s w1 (fun v H' => ∃ F', Same F1 F' ∧ Wf F' Os1 H' ∧ S.r F' v y) (fun v F' H' s' w' r' => ⟨F', s', w', r'⟩) pins sh I1) fun u s' ⟨v, H', I', r, F', s2, w2, r2⟩ => ?_
  obtain ⟨_, o, g1, z, kvs', rfl, g2⟩ := w2.at ho1
  exact ⟨v, _, I'.unlock g1 (I.nofrz h2 trivial), r, q v F' _ s2 (w2.set ho1 ⟨kvs', rfl, g2⟩) r2⟩
theorem evn_lockD {i : Nat} {O : OC} (ho : Os[i]? = some (l, oDict R d)) (h : EvN X e σ F (Os.set i (l, oFrz R d)) O Os1) (ho1 : Os1[i]? = some (l, oFrz R d)) : EvN X e σ F Os O (Os1.set i (l, oDict R d)) := fun F1 H s w Q q => fun pins sh I => by
  obtain ⟨h1, o, h2, kvs, rfl, h3⟩ := w.at ho
  obtain ⟨od, I1⟩ := I.lock h2 trivial
  have w1 : Wf F1 (Os.set i (l, oFrz R d)) (upd H l (.frz od (.dK kvs))) := w.set ho ⟨od, kvs, rfl, h3⟩
  refine thn (h F1 _ s w1 (fun v H' => ∃ p F', v = .ref p ∧ Same F1 F' ∧ Wf F' ((p, O) :: Os1) H') (fun p F' H' s' w' => ⟨p, F', rfl, s', w'⟩) pins sh I1) fun u s' ⟨v, H', I', r, p, F', e, s2, w2⟩ => ?_
  subst e
  have ho2 : ((p, O) :: Os1)[i + 1]? = some (l, oFrz R d) := by simpa using ho1
  obtain ⟨_, o, g1, z, kvs', rfl, g2⟩ := w2.at ho2
  exact ⟨_, _, I'.unlock g1 (I.nofrz h2 trivial), r, q p F' _ s2 (w2.set (O' := oDict R d) ho2 ⟨kvs', rfl, g2⟩)⟩
theorem own_frz {Ms : Owns} {i : Nat} (w : Wf F (Ms ++ Os) H) (hi : Os[i]? = some (l, oFrz R d)) : ∃ O u, (l, O) ∈ Os ∧ H l = some u ∧ ∀ vs, u ≠ .tup vs := by
  have hm := List.mem_of_getElem? hi
  obtain ⟨_, o, h, z, kvs, e, _⟩ := w.own _ (List.mem_append_right _ hm)
  subst e
  exact ⟨_, _, hm, h, fun _ z => nomatch z⟩
theorem nl_D (h : NlR R) (d : List (Int × α)) : NlO (oDict R d) := fun F F' o s ⟨kvs, e, g⟩ => ⟨kvs, e, paired_mono (fun _ _ q => ⟨q.1, h F F' _ _ s q.2⟩) g⟩
/-! ### reading -/
theorem ev_dix (hu : X.A.units + 1 < cLine) (h : dlook d i = some x) (ha : Ev X a σ F Os (vDict R) d Os1) (hb : Ev X b σ F Os1 rInt.v i Os1) (hs : NoSl b := by intro _ _; rfl) : Ev X (.Subscript a b pos) σ F Os R.v x Os1 := fun F1 H s w Q q =>
  w_pe (pe_dget hu pe_w pe_w hs) (ha.go s w fun v F2 H2 s2 w2 r2 => hb.go (s.trans s2) w2 fun u F3 H3 s3 w3 r3 => by
    obtain ⟨p, kvs, e1, g1, g2⟩ := vDict.get w3 ((vDict R).mono s3 r2)
    obtain ⟨z, h1, h2⟩ := (dp_look (k := i) g2).2 x h
    cases (show u = V.int i from r3)
    exact ⟨p, z, e1, .inl ⟨kvs, Sum.inl i, g1, rfl, h1.symm⟩, q z F3 H3 (s2.trans s3) w3 h2⟩)
theorem ev_dget2 (hu : X.A.units + 1 < cLine) (ha : Ev X a σ F Os (vDict R) d Os1) (hb : Ev X b σ F Os1 rInt.v i Os1) (hc : Ev X c σ F Os1 R.v x Os1) (m : M2 X a "get" p1 b c pos := by exact ⟨rfl, rfl, rfl, rfl⟩) : Ev X (.Call (.Attribute a "get" p1) [b, c] [] pos) σ F Os R.v ((dlook d i).getD x) Os1 := fun F1 H s w Q q =>
  w_pe (pe_dget2 hu pe_w pe_w pe_w m) (ha.go s w fun v F2 H2 s2 w2 r2 => by
    obtain ⟨p, kvs, e1, g1, g2⟩ := vDict.get w2 r2
    refine ⟨p, e1, .inl ⟨kvs, g1⟩, hb.go (s.trans s2) w2 fun u F3 H3 s3 w3 r3 => hc.go ((s.trans s2).trans s3) w3 fun u2 F4 H4 s4 w4 r4 => ?_⟩
    obtain ⟨p', kvs', e1', g1', g2'⟩ := vDict.get w4 ((vDict R).mono (s3.trans s4) r2)
    cases e1.symm.trans e1'
    cases (show u = V.int i from r3)
    refine ⟨valV kvs' (Sum.inl i), .inl ⟨kvs', Sum.inl i, g1', rfl, rfl⟩, q _ F4 H4 (s2.trans (s3.trans s4)) w4 ?_⟩
    have dl := dp_look (k := i) g2'
    cases hd : dlook d i with
    | none => rw [dl.1 hd]; exact r4
    | some y =>
      obtain ⟨z, h1, h2⟩ := dl.2 y hd
      rw [h1]
      exact h2)
/-- no value of this kind is None -/
def NnR (R : Rep α) : Prop := ∀ F v x, R.r F v x → v ≠ .non
theorem ev_dget1 (hu : X.A.units + 1 < cLine) (hn : NnR R) (ha : Ev X a σ F Os (vDict R) d Os1) (hb : Ev X b σ F Os1 rInt.v i Os1) (m : M1 X a "get" p1 b pos := by exact ⟨rfl, rfl, rfl, rfl⟩) : Ev X (.Call (.Attribute a "get" p1) [b] [] pos) σ F Os (rOpt R).v (dlook d i) Os1 := fun F1 H s w Q q =>
  w_pe (pe_dget1 hu pe_w pe_w m) (ha.go s w fun v F2 H2 s2 w2 r2 => by
    obtain ⟨p, kvs, e1, g1, g2⟩ := vDict.get w2 r2
    refine ⟨p, e1, .inl ⟨kvs, g1⟩, hb.go (s.trans s2) w2 fun u F3 H3 s3 w3 r3 => ?_⟩
    obtain ⟨p', kvs', e1', g1', g2'⟩ := vDict.get w3 ((vDict R).mono s3 r2)
    cases e1.symm.trans e1'
    cases (show u = V.int i from r3)
    refine ⟨valV kvs' (Sum.inl i), .inl ⟨kvs', Sum.inl i, g1', rfl, rfl⟩, q _ F3 H3 (s2.trans s3) w3 ?_⟩
    have dl := dp_look (k := i) g2'
    cases hd : dlook d i with
    | none => rw [dl.1 hd]; rfl
    | some y =>
      obtain ⟨z, h1, h2⟩ := dl.2 y hd
      rw [h1]
      exact ⟨h2, hn _ _ _ h2⟩)
theorem or_din {op : CmpOp} (hu : X.A.units + 1 < cLine) : OpR X (compareOp .In) (fun y x H Q => ∃ a o, x = .ref a ∧ DGet H a y o ∧ Q (.bl o.isSome) H) := by
  intro pins s σ H y x u r Q I ry rx h
  obtain ⟨a, o, rfl, g, q⟩ := h
  obtain rfl : r = Value.ref a := rx
  exact d_in hu I g ry fun s3 I3 => ⟨.bl o.isSome, H, I3, rfl, q⟩
theorem or_dnin (hu : X.A.units + 1 < cLine) : OpR X (compareOp .NotIn) (fun y x H Q => ∃ a o, x = .ref a ∧ DGet H a y o ∧ Q (.bl (!o.isSome)) H) := by
  intro pins s σ H y x u r Q I ry rx h
  obtain ⟨a, o, rfl, g, q⟩ := h
  obtain rfl : r = Value.ref a := rx
  exact d_notIn hu I g ry fun s3 I3 => ⟨.bl (!o.isSome), H, I3, rfl, q⟩
theorem cp_inK (hu : X.A.units + 1 < cLine) : Cp X .In rInt.v (vDict R) (fun x d => (dlook d x).isSome) := ⟨_, or_din (op := .In) hu, fun F Os H v u x y Q w r1 r2 q => by
  obtain ⟨p, kvs, e1, g1, g2⟩ := vDict.get w r2
  cases (show v = V.int x from r1)
  refine ⟨p, valV kvs (Sum.inl x), e1, .inl ⟨kvs, Sum.inl x, g1, rfl, rfl⟩, ?_⟩
  have dl := dp_look (k := x) g2
  have q : Q (V.bl (dlook y x).isSome) H := q
  cases hd : dlook y x with
  | none => rw [hd] at q; rw [dl.1 hd]; exact q
  | some t =>
    rw [hd] at q
    obtain ⟨z, h1, h2⟩ := dl.2 t hd
    rw [h1]
    exact q⟩
theorem cp_ninK (hu : X.A.units + 1 < cLine) : Cp X .NotIn rInt.v (vDict R) (fun x d => !(dlook d x).isSome) := ⟨_, or_dnin hu, fun F Os H v u x y Q w r1 r2 q => by
  obtain ⟨p, kvs, e1, g1, g2⟩ := vDict.get w r2
  cases (show v = V.int x from r1)
  refine ⟨p, valV kvs (Sum.inl x), e1, .inl ⟨kvs, Sum.inl x, g1, rfl, rfl⟩, ?_⟩
  have dl := dp_look (k := x) g2
  have q : Q (V.bl (!(dlook y x).isSome)) H := q
  cases hd : dlook y x with
  | none => rw [hd] at q; rw [dl.1 hd]; exact q
  | some t =>
    rw [hd] at q
    obtain ⟨z, h1, h2⟩ := dl.2 t hd
    rw [h1]
    exact q⟩
theorem cr_lenD : CallR X (.builtin "len") (fun xs H Q => ∃ a kvs, xs = [V.ref a] ∧ Rd H a (.dK kvs) ∧ Q (.int kvs.length) H) := by
  intro pins s σ H xs us Q I r h
  obtain ⟨a, kvs, ex, e, q⟩ := h
  subst ex
  obtain ⟨u, eu, rx⟩ := vals1 r
  subst eu
  cases rx
  exact d_len I e fun t s' I' => ⟨.int kvs.length, H, I', ⟨t, rfl⟩, q⟩
theorem ev_lenD (ha : Ev X a σ F Os (vDict R) d Os1) (hm : X.mg "len" = none) (hg : Gl X "len" := by rfl) (he : starEach [a] X.env = (false, eval a X.env) :: starEach [] X.env := by rfl) (hpl : (backTo pos (starEach [] X.env)).any (·.1) = false := by rfl) : Ev X (.Call (.Name "len" p1) [a] [] pos) σ F Os rInt.v (d.length : Int) Os1 :=
  ev_cb1 cr_lenD ha (fun F H v Q w r q => by
    obtain ⟨p, kvs, e1, g1, g2⟩ := vDict.get w r
    exact ⟨p, kvs, by rw [e1], g1, by rw [g2.length]; exact q _ F H (Same.refl _) w rfl⟩) hg hm PySem.boot_len (by decide) (by decide) he hpl
theorem evn_listD (ha : Ev X a σ F Os (vDict R) d Os1) (hm : X.mg "list" = none) (hc : X.calm = true := by rfl) (hg : Gl X "list" := by rfl) (he : starEach [a] X.env = (false, eval a X.env) :: starEach [] X.env := by rfl) (hpl : (backTo pos (starEach [] X.env)).any (·.1) = false := by rfl) : EvN X (.Call (.Name "list" p1) [a] [] pos) σ F Os (oList rInt (dkeys d)) Os1 :=
  evn_ct1 (call_listD hc) ha (fun F H v Q w r q => by
    obtain ⟨p, kvs, e1, g1, g2⟩ := vDict.get w r
    exact ⟨p, kvs, by rw [e1], g1, fun l hl => q l F _ (Same.refl _) (w.new hl ⟨_, rfl, dp_keys g2⟩)⟩) hg hm (by decide +kernel) (by decide) (by decide) he hpl
theorem ty_dict : TyI (vDict R) d "dict" := fun K F Os H v w r => by
  obtain ⟨p, kvs, e1, g1, g2⟩ := vDict.get w r
  cases e1
  rcases g1 with g | ⟨z, g⟩
  · exact .base (.dK g)
  · exact .fDict g
/-! ### storing -/
theorem ws_dput (w : Wf F Os H) {l : Addr} {ky : Expr} (hu : X.A.units + 1 < cLine) (he : Ev X e σ F Os R.v x Os1) (ha : Ev X a σ F Os1 (rIs (.ref l)).v () Os1) (hb : Ev X ky σ F Os1 rInt.v i Os1) (ho : Os1[n]? = some (l, oDict R d)) (h : dputO d i x = some d')
    (k : ∀ F1 H1, Same F F1 → Wf F1 (Os1.set n (l, oDict R d')) H1 → Ws X rest D σ H1) (hs : swapsWith e (some (.Subscript a ky p1)) pos.line X.env = pure false := by rfl) : Ws X (.Assign [.Subscript a ky p1] e pos :: rest) D σ H := by
  obtain ⟨h1, rfl⟩ := dputO_some h
  refine ws_cons (w_ps (ps_dput hu pe_w pe_w pe_w hs) ?_)
  refine he.go (Same.refl _) w fun v F1 H1 s1 w1 r1 => ha.go s1 w1 fun u F2 H2 s2 w2 r2 => hb.go (s1.trans s2) w2 fun u3 F3 H3 s3 w3 r3 => ?_
  obtain ⟨_, o, g, kvs, rfl, q⟩ := w3.at ho
  cases (show u3 = V.int i from r3)
  exact ⟨l, _, r2, .inl ⟨kvs, Sum.inl i, g, rfl, by rw [q.length]; exact h1, rfl⟩, k F3 _ (s1.trans (s2.trans s3)) (w3.set ho ⟨_, rfl, dp_put q (R.mono (s2.trans s3) r1)⟩)⟩
/-- o.append(e), o any expression that gives the owned list -/
theorem ws_appE (w : Wf F Os H) {l : Addr} (ha : Ev X a σ F Os (rIs (.ref l)).v () Os) (he : Ev X e σ F Os R.v x Os1) (ho : Os1[n]? = some (l, oList R xs)) (h : app xs x = some ys) (k : ∀ F1 H1, Same F F1 → Wf F1 (Os1.set n (l, oList R ys)) H1 → Ws X rest D σ H1)
    (hs : swapsWith (.Call (.Attribute a "append" p2) [e] [] p3) none pos.line X.env = pure false := by rfl) (hb : BmOk X a "append" e [] p2 p3 := by exact ⟨rfl, rfl, rfl, rfl, rfl⟩) (ho0 : Os[n]? = some (l, oList R xs) := by rfl) : Ws X (.Expr (.Call (.Attribute a "append" p2) [e] [] p3) pos :: rest) D σ H := by
  obtain ⟨h1, rfl⟩ := app_some h
  refine ws_cons (w_ps (ps_expr (pe_bm PySem.F.plainAttrs_list PySem.F.slot_list_append PySem.F.type_list_append mt_append pe_w (pa_cons pe_w pa_nil hb.hs) hb.base hb.few hb.line hb.hs hb.plain) hs) ?_)
  refine ha.go (Same.refl _) w fun u F0 H0 s0 w0 r0 => ?_
  obtain ⟨_, o0, g0, vs0, e0, _⟩ := w0.at ho0
  subst e0
  cases (show u = .ref l from r0)
  refine ⟨.inl ⟨rfl, _, .of g0⟩, he.go s0 w0 fun v F1 H1 s1 w1 r1 => ?_⟩
  obtain ⟨_, o, g, vs, e, q⟩ := w1.at ho
  subst e
  exact ⟨l, vs, v, rfl, rfl, g, by rw [q.length]; exact h1, k F1 _ (s0.trans s1) (w1.set ho ⟨_, rfl, paired_append q (.cons r1 .nil)⟩)⟩
/-! ### walking the keys -/
theorem itx_keys {p : Addr} {z : Obj} {kvs : List (Key × V)} (g : F p = some (.frz z (.dK kvs))) (q : DP R F kvs d) (hz : kvs.length ≤ sizeLine) : Itx (Itk p z kvs) F rInt (dkeys d) where
  len := by
    unfold dkeys
    rw [List.length_map, ← q.length, ← sizeLine_eq]; exact hz
  stop := fun H s => ⟨s _ _ g, by
    unfold dkeys
    rw [List.length_map, q.length]; exact Nat.le_refl _⟩
  go := fun i H s hi => ⟨s _ _ g, by
    unfold dkeys at hi
    rw [List.length_map] at hi
    rw [q.length]; exact hi⟩
  yld := fun i H v H' F2 Os2 s w h hi => by
    obtain ⟨rfl, kk, u, h1, h2⟩ := h
    refine ⟨F2, Same.refl _, w, fun x hx => ?_⟩
    unfold dkeys at hx
    rw [List.getElem?_map] at hx
    obtain ⟨t, ht, rfl⟩ := Option.map_eq_some_iff.mp hx
    obtain ⟨kv, h3, h4, _⟩ := paired_get q ht
    cases h1.symm.trans h3
    rw [h2]
    show kV kk = V.int t.1
    rw [show kk = Sum.inl t.1 from h4]
    rfl
theorem frz_sz {pins : List (Addr × Obj)} {s : Shared} {p : Addr} {z : Obj} {kvs : List (Key × V)} (I : Inv X pins σ H s) (h : H p = some (.frz z (.dK kvs))) : kvs.length ≤ sizeLine := (dk_rd I.hok (.inr ⟨z, h⟩)).1
theorem ei_dict (h : Ev X it σ F Os (rDict R).v d Os1) : Ei X tg it σ F Os rInt (dkeys d) Os1 := fun F1 H s w Q q =>
  w_pi (pi_keys pe_w) (fun pins sh I => thn (h.go s w (Q := fun v H' => ∃ F', Same F1 F' ∧ Wf F' Os1 H' ∧ (rDict R).r F' v d) (fun v F2 H2 s2 w2 r2 => ⟨F2, s2, w2, r2⟩) pins sh I) fun u s' ⟨v, H', I', r, F', s2, w2, p, z, kvs, e, g, g2⟩ => ⟨v, H', I', r, p, z, e, .inl ⟨kvs, w2.sub _ _ g, q _ F' H' s2 w2 (itx_keys g g2 (frz_sz I' (w2.sub _ _ g)))⟩⟩)
end
end Z

namespace Z
open PySem PySem.Spec L2
/-! ### d.keys() as a thing of its own -/
def KeysO (r d : Addr) : HO := .ext fun h => PySem.W.KdlKeysView h r d
theorem pe_keysV {X : Cx} {o : Expr} {td : TE} {p1 p2 : Pos} (ho : PE X o td) (hb : attributeBase o "keys" X.env (eval o X.env) = eval o X.env := by rfl) (hl : (p1.endLine == p2.line) = true := by rfl) :
    PE X (.Call (.Attribute o "keys" p1) [] [] p2) (fun σ H Q => td σ H fun x H1 => ∃ a kvs, x = .ref a ∧ Rd H1 a (.dK kvs) ∧ ∀ r, H1 r = none → Q (.ref r) (upd H1 r (KeysO r a))) := by
  refine ⟨fun pins s σ H Q I g => ?_⟩
  refine wpAny_Call_method (T := "dict") (id := "dict.keys") hb rfl hl PySem.F.plainAttrs_dict PySem.F.slot_dict_keys PySem.F.type_dict_keys (thn (ho.run pins s σ H _ I g) fun u t ⟨x, G, J, rx, a, kvs, ex, hd, q⟩ => ?_)
  subst ex
  cases (show u = Value.ref a from rx)
  obtain ⟨_, lo, vs, _, hm⟩ := dk_rd J.hok hd
  refine ⟨hm.typeIs, hm.mapOf.noDict, ?_⟩
  refine method_meetsIn PySem.F.slot_dict_keys PySem.F.entry_dict_keys rfl (PySem.evalArgs_none ⟨rfl, hm.typeIs, PySem.F.args_dict_keys_1 _, _, PySem.W.kdl_meets_keys (mixKind X.prog X.w) a lo, ⟨vs, hm⟩, ?_⟩)
  refine ⟨.ref t.heap.objs.size, upd G t.heap.objs.size (KeysO t.heap.objs.size a), J.laid (t' := t.toks) (fun b ob e => Heap.get?_push_of_some _ e) (Nat.le_refl _) ⟨⟨_, Heap.get?_push_size _ rfl, rfl, rfl⟩, ⟨_, Heap.get?_push_size _ rfl⟩, fun h1 h2 ⟨ob, e, c1, c2⟩ k => ⟨ob, k ob e, c1, c2⟩⟩, rfl, q _ (J.hok.fresh (Nat.le_refl _))⟩
def rListK : List V → Hp → VK → Prop := fun xs H Q => ∃ r d kvs, xs = [.ref r] ∧ H r = some (KeysO r d) ∧ Rd H d (.dK kvs) ∧ ∀ q, H q = none → Q (.ref q) (upd H q (.lst (kvs.map fun kv => kV kv.1)))
theorem call_listKV {X : Cx} (hc : X.calm = true) : CallR X (.type "list") rListK := by
  intro pins s σ H xs us Q I rl g
  obtain ⟨r, d, kvs, e, hr, hd, q⟩ := g
  subst e
  rw [Vals.ref1 rl]
  obtain ⟨view, _⟩ := I.hok r _ hr
  obtain ⟨z, _, vs, kv, hm⟩ := dk_rd I.hok hd
  obtain ⟨ep, hat⟩ := hm.dictAt
  have n1 : kvs.length = vs.length := kv.length
  refine PySem.W.kdl_call (PySem.W.kdl_keys (knd := mixKind X.prog X.w) (kvs := vs) (ep := ep)) (I.ok.hd hc) ⟨view, hat⟩ (by rw [← n1]; exact z) fun h' tk out c' kp hS hacc => ?_
  have new : ObjOk X.prog X.w (upd H s.heap.objs.size (.lst (kvs.map fun kv => kV kv.1))) h' s.heap.objs.size (.lst (kvs.map fun kv => kV kv.1)) := by
    refine ⟨by rw [List.length_map]; exact z, out.toList, c', ?_, by rw [Array.toArray_toList]; exact hS⟩
    have el : out.toList.length = out.size := by simp
    refine vals_of_at (by rw [List.length_map, el, hacc.1, n1]) fun j x u h1 h2 => ?_
    obtain ⟨k, y, hk, hi⟩ := hacc.2 j u (by rw [← Array.getElem?_toList]; exact h2)
    rw [List.getElem?_map] at h1
    obtain ⟨kv0, h3, h4⟩ := Option.map_eq_some_iff.mp h1
    have e1 : (kvs.map (·.1))[j]? = some k := by rw [KV.keys kv, List.getElem?_map, hk, Option.map_some]
    rw [List.getElem?_map, h3, Option.map_some] at e1
    rw [← h4, Option.some.inj e1]
    exact keyIs_rel hi
  exact ⟨.ref s.heap.objs.size, upd H s.heap.objs.size (.lst (kvs.map fun kv => kV kv.1)), I.laid kp (Nat.le_refl _) new, rfl, q _ (I.hok.fresh (Nat.le_refl _))⟩
section
variable {α β γ δ : Type} {X : Cx} {e a b c d0 it tg elt ky : Expr} {es ifs : List Expr} {pos p1 p2 p3 p4 : Pos} {σ : St} {F F' H : Hp} {Os Os1 Os2 Os3 : Owns} {W : Vw α} {U : Vw β} {R : Rep α} {S : Rep β} {T : Rep γ} {T4 : Rep δ} {Y : Rep α} {x x' : α} {y : β} {z : γ} {t : δ} {i j k : Int} {l : Bool} {xs ys zs : List α} {D : Ends} {rest body : List Stmt} {n m : Nat} {nm : Str} {v : V} {d d' : List (Int × α)} {O O1 O2 O3 : OC}
def vKeys (R : Rep α) : Vw (List (Int × α)) := ⟨fun F Os v d => ∃ r a, v = .ref r ∧ F r = some (KeysO r a) ∧ (vDict R).r F Os (.ref a) d, fun s ⟨r, a, e, h, g⟩ => ⟨r, a, e, s _ _ h, (vDict R).mono s g⟩⟩
theorem ev_keysV (h : Ev X a σ F Os (vDict R) d Os1) (hb : attributeBase a "keys" X.env (eval a X.env) = eval a X.env := by rfl) (hl : (p1.endLine == p2.line) = true := by rfl) : Ev X (.Call (.Attribute a "keys" p1) [] [] p2) σ F Os (vKeys R) d Os1 := fun F1 H s w Q q =>
  w_pe (pe_keysV pe_w hb hl) (h.go s w fun v F2 H2 s2 w2 r2 => by
    obtain ⟨p, kvs, e1, g1, g2⟩ := vDict.get w2 r2
    subst e1
    exact ⟨p, kvs, rfl, g1, fun r hr => q _ _ _ (s2.trans (w2.frozS hr)) (w2.froz hr) ⟨r, p, rfl, upd_same, (vDict R).mono (w2.frozS hr) r2⟩⟩)
theorem evn_listK (ha : Ev X a σ F Os (vKeys R) d Os1) (hm : X.mg "list" = none) (hc : X.calm = true := by rfl) (hg : Gl X "list" := by rfl) (he : starEach [a] X.env = (false, eval a X.env) :: starEach [] X.env := by rfl) (hpl : (backTo pos (starEach [] X.env)).any (·.1) = false := by rfl) : EvN X (.Call (.Name "list" p1) [a] [] pos) σ F Os (oList rInt (dkeys d)) Os1 :=
  evn_ct1 (call_listKV hc) ha (fun F H v Q w r q => by
    obtain ⟨r, p, e1, h1, h2⟩ := r
    obtain ⟨p', kvs, e2, g1, g2⟩ := vDict.get w h2
    cases e1; cases e2
    exact ⟨r, p, kvs, rfl, w.sub _ _ h1, g1, fun l hl => q l F _ (Same.refl _) (w.new hl ⟨_, rfl, dp_keys g2⟩)⟩) hg hm (by decide +kernel) (by decide) (by decide) he hpl
theorem ei_keysM (h : Ev X it σ F Os (rDict R).v d Os1) (hb : attributeBase it "keys" X.env (eval it X.env) = eval it X.env := by rfl) (hl : (p1.endLine == p2.line) = true := by rfl) : Ei X tg (.Call (.Attribute it "keys" p1) [] [] p2) σ F Os rInt (dkeys d) Os1 := fun F1 H s w Q q =>
  w_pi (pi_keysM pe_w hb hl) (fun pins sh I => thn (h.go s w (Q := fun v H' => ∃ F', Same F1 F' ∧ Wf F' Os1 H' ∧ (rDict R).r F' v d) (fun v F2 H2 s2 w2 r2 => ⟨F2, s2, w2, r2⟩) pins sh I) fun u s' ⟨v, H', I', r, F', s2, w2, p, z, kvs, e, g, g2⟩ => ⟨v, H', I', r, p, z, kvs, e, w2.sub _ _ g, q _ F' H' s2 w2 (itx_keys g g2 (frz_sz I' (w2.sub _ _ g)))⟩)
/-- the pairs, each in a new tuple -/
theorem itx_items {p : Addr} {z : Obj} {kvs : List (Key × V)} (g : F p = some (.frz z (.dK kvs))) (q : DP R F kvs d) (hz : kvs.length ≤ sizeLine) : Itx (Iti p z kvs) F (rT2 rInt R) d where
  len := by rw [← q.length, ← sizeLine_eq]; exact hz
  stop := fun H s => ⟨s _ _ g, by rw [q.length]; exact Nat.le_refl _⟩
  go := fun i H s hi => ⟨s _ _ g, by rw [q.length]; exact hi⟩
  yld := fun i H v H' F2 Os2 s w h hi => by
    obtain ⟨T, kk, u, h1, rfl, h3, rfl⟩ := h
    refine ⟨upd F2 T (.tup [kV kk, u]), w.frozS h3, w.froz h3, fun x hx => ?_⟩
    obtain ⟨kv, h4, h5, h6⟩ := paired_get q hx
    cases h1.symm.trans h4
    exact ⟨T, kV kk, u, rfl, upd_same, by rw [show kk = Sum.inl x.1 from h5]; rfl, R.mono (s.trans (w.frozS h3)) h6⟩
theorem ei_items {ts : List Expr} {tn : Nat} {tp : Pos} (h : Ev X it σ F Os (rDict R).v d Os1) (hb : attributeBase it "items" X.env (eval it X.env) = eval it X.env := by rfl) (hl : (p1.endLine == p2.line) = true := by rfl) : Ei X (.Tuple ts tn tp) (.Call (.Attribute it "items" p1) [] [] p2) σ F Os (rT2 rInt R) d Os1 := fun F1 H s w Q q =>
  w_pi (pi_items pe_w hb hl) (fun pins sh I => thn (h.go s w (Q := fun v H' => ∃ F', Same F1 F' ∧ Wf F' Os1 H' ∧ (rDict R).r F' v d) (fun v F2 H2 s2 w2 r2 => ⟨F2, s2, w2, r2⟩) pins sh I) fun u s' ⟨v, H', I', r, F', s2, w2, p, z, kvs, e, g, g2⟩ => ⟨v, H', I', r, p, z, kvs, e, w2.sub _ _ g, q _ F' H' s2 w2 (itx_items g g2 (frz_sz I' (w2.sub _ _ g)))⟩)
/-! ### lists of two, of four different things -/
def oH2 (R : Rep α) (S : Rep β) (x : α × β) : OC := ⟨fun F o => ∃ u1 u2, o = .lst [u1, u2] ∧ R.r F u1 x.1 ∧ S.r F u2 x.2, fun s ⟨u1, u2, e, h1, h2⟩ => ⟨u1, u2, e, R.mono s h1, S.mono s h2⟩⟩
def oH4 (R : Rep α) (S : Rep β) (T : Rep γ) (T4 : Rep δ) (x : α × β × γ × δ) : OC := ⟨fun F o => ∃ u1 u2 u3 u4, o = .lst [u1, u2, u3, u4] ∧ R.r F u1 x.1 ∧ S.r F u2 x.2.1 ∧ T.r F u3 x.2.2.1 ∧ T4.r F u4 x.2.2.2,
  fun s ⟨u1, u2, u3, u4, e, h1, h2, h3, h4⟩ => ⟨u1, u2, u3, u4, e, R.mono s h1, S.mono s h2, T.mono s h3, T4.mono s h4⟩⟩
abbrev rH2 (R : Rep α) (S : Rep β) : Rep (α × β) := rOf (oH2 R S)
abbrev rH4 (R : Rep α) (S : Rep β) (T : Rep γ) (T4 : Rep δ) : Rep (α × β × γ × δ) := rOf (oH4 R S T T4)
theorem evn_h2 (ea : Ea X [a, b] σ F Os (PC1 R x (PC1 S y (PN Os2)))) : EvN X (.List [a, b] pos) σ F Os (oH2 R S (x, y)) Os2 := fun F1 H s w Q q =>
  w_pe (pe_lst pa_w) (ea.go s w fun vs F2 Os' H2 s2 w2 ⟨v1, _, e1, r1, v2, _, e2, r2, e0, e3⟩ => by
    cases e1; cases e2; cases e3; cases e0
    exact ⟨(show 2 ≤ sizeLine by rw [sizeLine_eq]; decide), fun p hp => q p F2 _ s2 (w2.new hp ⟨v1, v2, rfl, r1, r2⟩)⟩)
theorem evn_h4 (ea : Ea X [a, b, c, d0] σ F Os (PC1 R x (PC1 S y (PC1 T z (PC1 T4 t (PN Os2)))))) : EvN X (.List [a, b, c, d0] pos) σ F Os (oH4 R S T T4 (x, y, z, t)) Os2 := fun F1 H s w Q q =>
  w_pe (pe_lst pa_w) (ea.go s w fun vs F2 Os' H2 s2 w2 ⟨v1, _, e1, r1, v2, _, e2, r2, v3, _, e3, r3, v4, _, e4, r4, e0, e5⟩ => by
    cases e1; cases e2; cases e3; cases e4; cases e5; cases e0
    exact ⟨(show 4 ≤ sizeLine by rw [sizeLine_eq]; decide), fun p hp => q p F2 _ s2 (w2.new hp ⟨v1, v2, v3, v4, rfl, r1, r2, r3, r4⟩)⟩)
theorem ev_hix {U : Rep β} {q : Nat} {ct : Nat} {hx : β} (hh : ∀ F v, W.r F Os1 v x → ∃ p vs u, v = .ref p ∧ F p = some (.lst vs) ∧ vs[q]? = some u ∧ U.r F u hx) (hq : q < 8) (ha : Ev X a σ F Os W x Os1) : Ev X (.Subscript a (.Constant (.int (q : Int)) ct p3) pos) σ F Os U.v hx Os1 := fun F1 H s w Q k =>
  w_pe (pe_ix ix_list pe_w pe_int (fun _ _ => rfl)) (ha.go s w fun v F2 H2 s2 w2 r2 => by
    obtain ⟨p, vs, u, e1, h1, h2, h3⟩ := hh F2 v r2
    refine ⟨p, vs, q, u, e1, rfl, .of (w2.sub _ _ h1), ?_, k u F2 H2 s2 w2 h3⟩
    have hl : q < vs.length := (List.getElem?_eq_some_iff.mp h2).1
    show (ixN vs.length (q : Int)).bind _ = _
    rw [show ixN vs.length (q : Int) = some q from by
      unfold ixN
      simp only [Int.toNat_natCast]
      have : (q : Int) < (vs.length : Int) := by omega
      split
      · rfl
      · omega]
    exact h2)
theorem h2a {w2 : α × β} : ∀ F v, (rH2 R S).v.r F Os v w2 → ∃ p vs u, v = .ref p ∧ F p = some (.lst vs) ∧ vs[0]? = some u ∧ R.r F u w2.1 := fun F v ⟨p, o, e, h, u1, u2, e2, g1, g2⟩ => ⟨p, _, u1, e, e2 ▸ h, rfl, g1⟩
theorem h2b {w2 : α × β} : ∀ F v, (rH2 R S).v.r F Os v w2 → ∃ p vs u, v = .ref p ∧ F p = some (.lst vs) ∧ vs[1]? = some u ∧ S.r F u w2.2 := fun F v ⟨p, o, e, h, u1, u2, e2, g1, g2⟩ => ⟨p, _, u2, e, e2 ▸ h, rfl, g2⟩
theorem h4a {w2 : α × β × γ × δ} : ∀ F v, (rH4 R S T T4).v.r F Os v w2 → ∃ p vs u, v = .ref p ∧ F p = some (.lst vs) ∧ vs[0]? = some u ∧ R.r F u w2.1 := fun F v ⟨p, o, e, h, u1, u2, u3, u4, e2, g1, g2, g3, g4⟩ => ⟨p, _, u1, e, e2 ▸ h, rfl, g1⟩
theorem h4b {w2 : α × β × γ × δ} : ∀ F v, (rH4 R S T T4).v.r F Os v w2 → ∃ p vs u, v = .ref p ∧ F p = some (.lst vs) ∧ vs[1]? = some u ∧ S.r F u w2.2.1 := fun F v ⟨p, o, e, h, u1, u2, u3, u4, e2, g1, g2, g3, g4⟩ => ⟨p, _, u2, e, e2 ▸ h, rfl, g2⟩
theorem h4c {w2 : α × β × γ × δ} : ∀ F v, (rH4 R S T T4).v.r F Os v w2 → ∃ p vs u, v = .ref p ∧ F p = some (.lst vs) ∧ vs[2]? = some u ∧ T.r F u w2.2.2.1 := fun F v ⟨p, o, e, h, u1, u2, u3, u4, e2, g1, g2, g3, g4⟩ => ⟨p, _, u3, e, e2 ▸ h, rfl, g3⟩
theorem h4d {w2 : α × β × γ × δ} : ∀ F v, (rH4 R S T T4).v.r F Os v w2 → ∃ p vs u, v = .ref p ∧ F p = some (.lst vs) ∧ vs[3]? = some u ∧ T4.r F u w2.2.2.2 := fun F v ⟨p, o, e, h, u1, u2, u3, u4, e2, g1, g2, g3, g4⟩ => ⟨p, _, u4, e, e2 ▸ h, rfl, g4⟩
/-! ### tuples whose parts are owned -/
theorem ev_isv {a0 : Addr} (h : Ev X e σ F Os (rIs (.ref a0)).v () Os1) (hw : W.r F Os1 (.ref a0) x) : Ev X e σ F Os W x Os1 := fun F1 H s w Q q => h.go s w fun v F2 H2 s2 w2 r2 => by
  cases (show v = .ref a0 from r2)
  exact q _ F2 H2 s2 w2 (W.mono (s.trans s2) hw)
abbrev rP2 (p q : Addr) : Rep (Unit × Unit) := rT2 (rIs (.ref p)) (rIs (.ref q))
abbrev rP3 (p q r : Addr) : Rep (Unit × Unit × Unit) := rT3 (rIs (.ref p)) (rIs (.ref q)) (rIs (.ref r))
theorem pk2 {p q : Addr} {u : Unit × Unit} (h : (rP2 p q).r F v u) (h1 : R.r F (.ref p) x) (h2 : S.r F (.ref q) y) : (rT2 R S).r F v (x, y) := by
  obtain ⟨a, u1, u2, e, g, g1, g2⟩ := h
  cases (show u1 = .ref p from g1); cases (show u2 = .ref q from g2)
  exact ⟨a, _, _, e, g, h1, h2⟩
theorem pk3 {p q r : Addr} {u : Unit × Unit × Unit} (h : (rP3 p q r).r F v u) (h1 : R.r F (.ref p) x) (h2 : S.r F (.ref q) y) (h3 : T.r F (.ref r) z) : (rT3 R S T).r F v (x, y, z) := by
  obtain ⟨a, u1, u2, u3, e, g, g1, g2, g3⟩ := h
  cases (show u1 = .ref p from g1); cases (show u2 = .ref q from g2); cases (show u3 = .ref r from g3)
  exact ⟨a, _, _, _, e, g, h1, h2, h3⟩
def EvP2 (X : Cx) (e : Expr) (σ : St) (F : Hp) (Os : Owns) (O1 O2 : OC) (Os' : Owns) : Prop :=
  ∀ F1 H, Same F F1 → Wf F1 Os H → ∀ Q : VK, (∀ v p q F' H', Same F1 F' → Wf F' ((p, O1) :: (q, O2) :: Os') H' → (rP2 p q).r F' v ((), ()) → Q v H') → We X e σ H Q
def EvP3 (X : Cx) (e : Expr) (σ : St) (F : Hp) (Os : Owns) (O1 O2 O3 : OC) (Os' : Owns) : Prop :=
  ∀ F1 H, Same F F1 → Wf F1 Os H → ∀ Q : VK, (∀ v p q r F' H', Same F1 F' → Wf F' ((p, O1) :: (q, O2) :: (r, O3) :: Os') H' → (rP3 p q r).r F' v ((), (), ()) → Q v H') → We X e σ H Q
theorem evp2_call {sp : Sp} {CX : CXT} {kk : Nat} {f : Addr} {fd : FuncData} {ps : List Str} {P : Hp → Owns → List V → Prop} (G : FnOk X.prog X.w X.K X.mg X.base CX kk f fd ps sp) (hr : Room kk X.A) (hm : X.mg nm = some (.ref f)) (hk : PySem.W.keepIn X.K (.ref f) = true) (hb : Binds X.K fd ps []) (hx : Passes CX X E0)
    (ha : Ea X (e :: es) σ F Os P) (h : ∀ F' Os' H' vs (Q : VK), Wf F' Os' H' → P F' Os' vs → (∀ v p q F2 H2, Same F' F2 → Wf F2 ((p, O1) :: (q, O2) :: Os2) H2 → (rP2 p q).r F2 v ((), ()) → Q v H2) → sp vs H' Q E0)
    (hg : Gl X nm := by rfl) (hdb : (nm == ("__debug__" : Str)) = false := by decide) (he : starEach (e :: es) X.env = (false, eval e X.env) :: starEach es X.env := by rfl) (hpl : (backTo pos (starEach es X.env)).any (·.1) = false := by rfl) :
    EvP2 X (.Call (.Name nm p1) (e :: es) [] pos) σ F Os O1 O2 Os2 := fun F1 H s w Q q =>
  w_pe (pe_call G hr hg hm hk hb .nil hx pa_w hdb he hpl) (ha.go s w fun vs F2 Os' H2 s2 w2 r2 => by
    rw [List.append_nil]
    exact h F2 Os' H2 vs Q w2 r2 fun u a1 a2 F3 H3 s3 w3 r3 => q u a1 a2 F3 H3 (s2.trans s3) w3 r3)
theorem evp3_call {sp : Sp} {CX : CXT} {kk : Nat} {f : Addr} {fd : FuncData} {ps : List Str} {P : Hp → Owns → List V → Prop} (G : FnOk X.prog X.w X.K X.mg X.base CX kk f fd ps sp) (hr : Room kk X.A) (hm : X.mg nm = some (.ref f)) (hk : PySem.W.keepIn X.K (.ref f) = true) (hb : Binds X.K fd ps []) (hx : Passes CX X E0)
    (ha : Ea X (e :: es) σ F Os P) (h : ∀ F' Os' H' vs (Q : VK), Wf F' Os' H' → P F' Os' vs → (∀ v p q r F2 H2, Same F' F2 → Wf F2 ((p, O1) :: (q, O2) :: (r, O3) :: Os2) H2 → (rP3 p q r).r F2 v ((), (), ()) → Q v H2) → sp vs H' Q E0)
    (hg : Gl X nm := by rfl) (hdb : (nm == ("__debug__" : Str)) = false := by decide) (he : starEach (e :: es) X.env = (false, eval e X.env) :: starEach es X.env := by rfl) (hpl : (backTo pos (starEach es X.env)).any (·.1) = false := by rfl) :
    EvP3 X (.Call (.Name nm p1) (e :: es) [] pos) σ F Os O1 O2 O3 Os2 := fun F1 H s w Q q =>
  w_pe (pe_call G hr hg hm hk hb .nil hx pa_w hdb he hpl) (ha.go s w fun vs F2 Os' H2 s2 w2 r2 => by
    rw [List.append_nil]
    exact h F2 Os' H2 vs Q w2 r2 fun u a1 a2 a3 F3 H3 s3 w3 r3 => q u a1 a2 a3 F3 H3 (s2.trans s3) w3 r3)
theorem ws_setP2 (w : Wf F Os H) (he : EvP2 X e σ F Os O1 O2 Os1) (hN : X.N.Nodup) (k : ∀ v p q F1 H1, Same F F1 → Wf F1 ((p, O1) :: (q, O2) :: Os1) H1 → (rP2 p q).r F1 v ((), ()) → Ws X rest D (σ.set n (some v)) H1)
    (hi : X.N[n]? = some nm := by rfl) (hx : Loc X.env.scope nm := by first | exact Or.inl rfl | exact Or.inr rfl) (hs : swapsWith e (some (.Name nm p1)) pos.line X.env = pure false := by rfl) (hf : X.fn nm = true ∨ X.env.scope.names.lookup nm = some .local := by first | exact .inl rfl | exact .inr rfl) :
    Ws X (.Assign [.Name nm p1] e pos :: rest) D σ H :=
  ws_cons (w_ps (ps_set hN hi hx pe_w hs hf) (he F H (Same.refl _) w _ fun v p q F1 H1 s1 w1 r1 => k v p q F1 H1 s1 w1 r1))
theorem ws_setP3 (w : Wf F Os H) (he : EvP3 X e σ F Os O1 O2 O3 Os1) (hN : X.N.Nodup) (k : ∀ v p q r F1 H1, Same F F1 → Wf F1 ((p, O1) :: (q, O2) :: (r, O3) :: Os1) H1 → (rP3 p q r).r F1 v ((), (), ()) → Ws X rest D (σ.set n (some v)) H1)
    (hi : X.N[n]? = some nm := by rfl) (hx : Loc X.env.scope nm := by first | exact Or.inl rfl | exact Or.inr rfl) (hs : swapsWith e (some (.Name nm p1)) pos.line X.env = pure false := by rfl) (hf : X.fn nm = true ∨ X.env.scope.names.lookup nm = some .local := by first | exact .inl rfl | exact .inr rfl) :
    Ws X (.Assign [.Name nm p1] e pos :: rest) D σ H :=
  ws_cons (w_ps (ps_set hN hi hx pe_w hs hf) (he F H (Same.refl _) w _ fun v p q r F1 H1 s1 w1 r1 => k v p q r F1 H1 s1 w1 r1))
/-- a, b = e -/
theorem ws_unpP2 (w : Wf F Os H) (he : EvP2 X e σ F Os O1 O2 Os1) (k : ∀ v p q F1 H1, Same F F1 → Wf F1 ((p, O1) :: (q, O2) :: Os1) H1 → (rP2 p q).r F1 v ((), ()) → Wg X tg v σ H1 (Ws X rest D))
    (hs : swapsWithSole [tg] e pos.line X.env = pure false := by rfl) (hw : swappedStores [tg] e X.env = pure none := by rfl) (h1 : (assignEach [tg] X.env).map (·.2) = [assign tg X.env] := by rfl) : Ws X (.Assign [tg] e pos :: rest) D σ H :=
  ws_cons (w_ps (ps_asg pe_w pg_w hs hw h1) (he F H (Same.refl _) w _ fun v p q F1 H1 s1 w1 r1 => k v p q F1 H1 s1 w1 r1))
end
end Z

/-! ZB: == and != of dicts, lists of dicts, lists of different things, where both sides are equal. -/
namespace Z
section
open PySem PySem.Spec PySem.SeqAt PySem.AutoSeq1 PySem.MeetsSeq PySem.MeetsSeq2 PySem.MeetsSeq3 PySem.SeqRoads2
variable {prog : Program} {w : World}
/-- items that are all equal: != says False -/
theorem ne_turns {p q : Addr} {us ws : Array Value} {n1 n2 : Nat} {d1 d2 : Option Addr} {k1 k2 : Array (Option Value)} (hz : us.size = ws.size) (m : Nat) :
    ∀ i : Nat, us.size - i = m → MeetsIn prog w (Builtin.«list.__eq__.loop» ⟨[.ref p, .ref q, rawInt i, rawInt 3], []⟩)
      (fun A R s => s.heap.get? p = some { cls := .type "list", dict := d1, data := .seq us n1, slots := k1 } ∧ s.heap.get? q = some { cls := .type "list", dict := d2, data := .seq ws n2, slots := k2 } ∧
        (∀ j (g1 : j < us.size) (g2 : j < ws.size), EqP prog w A.in1 s us[j] ws[j] true) ∧ R (.ok (.ret (.bool false))) s) := by
  induction m with
  | zero =>
    intro i hm A R s g
    obtain ⟨hp, gn, dd, tk, os⟩ := s
    obtain ⟨gp, gq, ge, gr⟩ := g
    wp_walk using wpAny_loadPart' gp, wpAny_loadPart' gq
    rw [show us[((i : Nat) : Int).toNat]? = none by simp; omega, show ws[((i : Nat) : Int).toNat]? = none by simp; omega]
    wp_walk using wpAny_loadPart' gp, wpAny_loadPart' gq
    show R (.ok (.ret (.bool (us.size != ws.size)))) _
    rw [hz]
    simpa using gr
  | succ m ih =>
    intro i hm A R s g
    obtain ⟨hp, gn, dd, tk, os⟩ := s
    obtain ⟨gp, gq, ge, gr⟩ := g
    wp_walk using wpAny_loadPart' gp, wpAny_loadPart' gq
    have l1 : i < us.size := by omega
    have l2 : i < ws.size := by omega
    rw [show us[((i : Nat) : Int).toNat]? = some us[i] by simp [l1], show ws[((i : Nat) : Int).toNat]? = some ws[i] by simp [l2]]
    refine wpAny_bind (ge i l1 l2 _ _ ?_)
    wp_walk
    rw [show ((i : Int) + 1) = ((i + 1 : Nat) : Int) by push_cast; rfl]
    refine ⟨plainId_quiet plain_eq_loop _, codeAny_builtin entry_eq_loop ?_⟩
    exact (by rw [Around.under_plainId plain_eq_loop _]; exact ih (i + 1) (by omega) A R _ ⟨gp, gq, ge, gr⟩)
theorem ne_list {p q : Addr} {us ws : Array Value} {n1 n2 : Nat} {d1 d2 : Option Addr} {k1 k2 : Array (Option Value)} (hz : us.size = ws.size) :
    MeetsIn prog w (Builtin.«list.__ne__» ⟨[.ref p, .ref q], []⟩)
      (fun A R s => s.heap.get? p = some { cls := .type "list", dict := d1, data := .seq us n1, slots := k1 } ∧ s.heap.get? q = some { cls := .type "list", dict := d2, data := .seq ws n2, slots := k2 } ∧
        (∀ j (g1 : j < us.size) (g2 : j < ws.size), EqP prog w A.in1 s us[j] ws[j] true) ∧ R (.ok (.ret (.bool false))) s) := by
  intro A R s g
  obtain ⟨hp, gn, dd, tk, os⟩ := s
  obtain ⟨gp, gq, ge, gr⟩ := g
  have sub := AutoSeq1.sub_list_list
  have hnz : ¬ (us.size != ws.size) = true := by simp [hz]
  wp_walk using wpAny_loadPart' gp, wpAny_loadPart' gq
  refine ⟨plainId_quiet plain_eq_loop _, codeAny_builtin entry_eq_loop ?_⟩
  exact (by rw [Around.under_plainId plain_eq_loop _]; exact ne_turns hz _ 0 rfl A R _ ⟨gp, gq, ge, gr⟩)
theorem rn_lists {A : Around} {s : Shared} {p q : Addr} {us ws : Array Value} (hp : s.heap.IsList p us) (hq : s.heap.IsList q ws) (hz : us.size = ws.size) (hu : A.units < cLine)
    (ge : ∀ j (g1 : j < us.size) (g2 : j < ws.size), EqP prog w A.in1 s us[j] ws[j] true) (E Q : Value → Shared → Prop) (g : Q (.bool false) s) : wpAny (model prog w) A (richCompare .NotEq (.ref p) (.ref q)) Q E s := by
  obtain ⟨⟨c1, d1, a1, k1⟩, e1, rfl, n1, rfl⟩ := hp
  obtain ⟨⟨c2, d2, a2, k2⟩, e2, rfl, n2, rfl⟩ := hq
  exact wpAny_richCompare_same_room (op := .NotEq) (T := "list") ⟨_, e1, rfl⟩ ⟨_, e2, rfl⟩ PySem.F.slot_list_ne (call_meetsIn PySem.F.slot_list_ne ⟨_, e1, rfl⟩ PySem.F.entry_list_ne (PySem.F.args_list_ne_2 _ _) (ne_list hz) ⟨e1, e2, ge, (fun x => nomatch x), g⟩) hu
end
section
open PySem PySem.W PySem.Spec PySem.Calls PyProof.Rows PyProof.V
variable {prog : Program} {w : World} {K : Type} [DecidableEq K] {knd : KeyKind prog w K}
theorem rn_dicts {A : Around} {s : Shared} {p q : Addr} {ka kb : List (K × Value)} {r : Bool} (sp : (p == sysModules) = false) (sq : (q == sysModules) = false) (dp : s.heap.DictOf knd p ka) (dq : s.heap.DictOf knd q kb) (hu : A.units < cLine)
    (ht : ka.length = kb.length → KeqHitsP prog w A.in1 s kb ka r) (E Q : Value → Shared → Prop) (g : Q (.bool (!(ka.length == kb.length && r))) s) : wpAny (model prog w) A (richCompare .NotEq (.ref p) (.ref q)) Q E s := by
  have tp := dp.typeIs
  have tq := dq.typeIs
  refine wpAny_richCompare_same_room (op := .NotEq) tp tq PySem.F.slot_dict_ne (wpAny_call_entry PySem.F.slot_dict_ne tp PySem.F.entry_dict_ne ?_ (PySem.F.args_dict_ne_2 _ _)) hu
  show wpAny _ _ (Builtin.Dict.dictSlotArgs "__ne__" ⟨[.ref p, .ref q], []⟩ >>= _) _ _ s
  refine wpAny_bind ?_; unfold Builtin.Dict.dictSlotArgs
  refine wpAny_bind (wpAny_notOrdered_dict tp ?_)
  show wpAny _ _ (pure (Value.ref p, Value.ref q)) _ _ s; refine wpAny_pure ?_
  refine wpAny_bind (wpAny_isInstance (T := "dict") tq PySem.F.sub_dict_dict ?_)
  simp only [Bool.not_true, Bool.false_eq_true, ite_false]
  refine wpAny_bind (wpAny_pure (wpAny_bind (wpAny_pure (wpAny_bind (samePairsP sp sq dp dq ht (wpAny_pure ⟨_, rfl, (fun x => nomatch x), ?_⟩))))))
  simpa using g
end
open PySem PySem.Spec L2
/-! ### values that are equal -/
def EqS (K : PySem.W.Frag) (H : Hp) (E : V → V → Prop) (x y : V) : Prop :=
  (∃ a b xs ys, x = .ref a ∧ y = .ref b ∧ SqL K H a xs ∧ SqL K H b ys ∧ Paired E xs ys) ∨
  (∃ a b ks ls, x = .ref a ∧ y = .ref b ∧ Rd H a (.dK ks) ∧ Rd H b (.dK ls) ∧ ks.length = ls.length ∧ ∀ p ∈ ks, ∃ u, valV ls p.1 = some u ∧ E p.2 u)
def EqW (K : PySem.W.Frag) (H : Hp) : Nat → V → V → Prop
  | 0 => fun _ _ => False
  | n + 1 => fun x y => (∃ d, Dp K H x d ∧ Dp K H y d ∧ SeqAt.shaped d = true) ∨ EqS K H (EqW K H n) x y
theorem EqS.imp {K : PySem.W.Frag} {H : Hp} {E E' : V → V → Prop} (h : ∀ x y, E x y → E' x y) {x y : V} : EqS K H E x y → EqS K H E' x y
  | .inl ⟨a, b, xs, ys, e1, e2, h1, h2, h3⟩ => .inl ⟨a, b, xs, ys, e1, e2, h1, h2, paired_mono h h3⟩
  | .inr ⟨a, b, ks, ls, e1, e2, h1, h2, h3, h4⟩ => .inr ⟨a, b, ks, ls, e1, e2, h1, h2, h3, fun p hp => let ⟨u, g1, g2⟩ := h4 p hp; ⟨u, g1, h _ _ g2⟩⟩
theorem EqW.succ {K : PySem.W.Frag} {H : Hp} : ∀ (n : Nat) (x y : V), EqW K H n x y → EqW K H (n + 1) x y
  | 0, _, _, h => (show False from h).elim
  | n + 1, x, y, .inl h => .inl h
  | n + 1, x, y, .inr h => .inr (h.imp (EqW.succ n))
theorem EqW.up {K : PySem.W.Frag} {H : Hp} {n m : Nat} (h : n ≤ m) {x y : V} (g : EqW K H n x y) : EqW K H m x y := by
  induction h with
  | refl => exact g
  | step _ ih => exact EqW.succ _ _ _ ih
section
variable {X : Cx} {pins : List (Addr × Obj)} {σ : St} {H : Hp} {s : Shared}
theorem paired_at {α β : Type} {P : α → β → Prop} : ∀ {xs : List α} {ys : List β} {i : Nat} {x : α} {y : β}, Paired P xs ys → xs[i]? = some x → ys[i]? = some y → P x y
  | _, _, _, _, _, .nil, e, _ => by simp at e
  | _, _, 0, _, _, .cons r _, e, e' => by cases e; cases e'; exact r
  | _, _, i + 1, _, _, .cons _ t, e, e' => paired_at (i := i) t (by simpa using e) (by simpa using e')
theorem eqS_both (I : Inv X pins σ H s) {A : Around} {E : V → V → Prop} (hu : A.units < cLine) (ih : ∀ x y v u, E x y → RelV x v → RelV y u → SeqAt.EqP X.prog X.w A.in1 s v u true) {x y : V} {v u : Value} (g : EqS X.K H E x y) (rx : RelV x v) (ry : RelV y u)
    (Ex Q : Value → Shared → Prop) : (Q (.bool true) s → wpAny (model X.prog X.w) A (richCompare .Eq v u) Q Ex s) ∧ (Q (.bool false) s → wpAny (model X.prog X.w) A (richCompare .NotEq v u) Q Ex s) := by
  rcases g with ⟨a, b, xs, ys, rfl, rfl, ha, hb, hp⟩ | ⟨a, b, ks, ls, rfl, rfl, ha, hb, hl, hp⟩
  · cases (show v = Value.ref a from rx)
    cases (show u = Value.ref b from ry)
    obtain ⟨us, r1, l1, _⟩ := I.list ha
    obtain ⟨ws, r2, l2, _⟩ := I.list hb
    have hz : us.toArray.size = ws.toArray.size := by
      have := r1.length
      have := r2.length
      have := hp.length
      simp only [List.size_toArray]
      omega
    have items := items_run ih hp r1 r2
    refine ⟨fun q => SeqAt.rcP_lists (e := fun _ => true) l1.isList l2.isList hz hu (fun j g1 g2 => by simpa using items j (by simpa using g1) (by simpa using g2)) Ex Q (by rw [List.all_eq_true.mpr fun _ _ => rfl]; exact q),
      fun q => rn_lists l1.isList l2.isList hz hu (fun j g1 g2 => by simpa using items j (by simpa using g1) (by simpa using g2)) Ex Q q⟩
  · cases (show v = Value.ref a from rx)
    cases (show u = Value.ref b from ry)
    obtain ⟨_, ya, va, ra, da⟩ := dk_rd I.hok ha
    obtain ⟨_, yb, vb, rb, db⟩ := dk_rd I.hok hb
    have e : (va.length == vb.length && true) = true := by
      have := ra.length
      have := rb.length
      simp
      omega
    exact ⟨fun q => PySem.W.rcP_dicts (knd := mixKind X.prog X.w) (r := true) ya yb da db hu (fun _ => hits_run ih rb ra hp) Ex Q (by rw [e]; exact q),
      fun q => rn_dicts (knd := mixKind X.prog X.w) (r := true) ya yb da db hu (fun _ => hits_run ih rb ra hp) Ex Q (by rw [e]; exact q)⟩
theorem eqW_run (I : Inv X pins σ H s) : ∀ (n : Nat) (A : Around), A.units + n + 64 < cLine → ∀ (x y : V) (v u : Value), EqW X.K H n x y → RelV x v → RelV y u → SeqAt.EqP X.prog X.w A s v u true
  | 0, _, _, _, _, _, _, h, _, _ => (show False from h).elim
  | n + 1, A, hu, x, y, v, u, h, rx, ry => by
    rcases h with ⟨d, hx, hy, sd⟩ | h
    · obtain ⟨as, r1⟩ := Dp.reads I d x v hx rx
      obtain ⟨bs, r2⟩ := Dp.reads I d y u hy ry
      have lay := SeqAt.canLay_of_shaped sd
      have dep : d.depth ≤ 64 := by
        unfold SeqAt.shaped at sd
        rw [Bool.and_eq_true] at sd
        exact of_decide_eq_true sd.2
      have z := SeqAt.eqAt_reads d d A s v u as bs r1 r2 lay lay (by rw [Nat.min_self]; omega)
      rw [SeqAt.eqv_refl d lay] at z
      exact z.eqP
    · have step := fun Ex Q => (eqS_both I (A := A) (by omega) (eqW_run I n A.in1 (by show A.units + 1 + n + 64 < cLine; omega)) h rx ry Ex Q).1
      obtain ⟨a, b, rfl, rfl⟩ : ∃ a b, x = .ref a ∧ y = .ref b := by
        rcases h with ⟨a, b, _, _, e1, e2, _⟩ | ⟨a, b, _, _, e1, e2, _⟩ <;> exact ⟨a, b, e1, e2⟩
      cases (show v = Value.ref a from rx)
      cases (show u = Value.ref b from ry)
      by_cases e : a = b
      · rw [e]
        exact (SeqAt.EqAt.same _).eqP
      · exact SeqAt.eqP_refs e step
end
section
variable {X : Cx}
theorem op_eqS (hu : X.A.units + 130 < cLine) : OpR X (compareOp .Eq) (fun x y H Q => ∃ n, n ≤ 60 ∧ EqS X.K H (EqW X.K H n) x y ∧ Q (.bl true) H) := by
  intro pins s σ H x y v u Q I rx ry ⟨n, hn, h, q⟩
  exact (eqS_both I (A := X.A) (by omega) (eqW_run I n X.A.in1 (by show X.A.units + 1 + n + 64 < cLine; omega)) h rx ry _ _).1 ⟨.bl true, H, I, rfl, q⟩
theorem op_neS (hu : X.A.units + 130 < cLine) : OpR X (compareOp .NotEq) (fun x y H Q => ∃ n, n ≤ 60 ∧ EqS X.K H (EqW X.K H n) x y ∧ Q (.bl false) H) := by
  intro pins s σ H x y v u Q I rx ry ⟨n, hn, h, q⟩
  exact (eqS_both I (A := X.A) (by omega) (eqW_run I n X.A.in1 (by show X.A.units + 1 + n + 64 < cLine; omega)) h rx ry _ _).2 ⟨.bl false, H, I, rfl, q⟩
theorem u130 {kk : Nat} {A : Around} (r : Room kk A) : A.units + 130 < cLine := by
  have := r.un
  omega
end
/-! ### alike, by what the values stand for -/
section
variable {α β γ δ : Type}
def qE [DecidableEq α] (x y : α) : Bool := decide (x = y)
def qL (q : α → α → Bool) : List α → List α → Bool
  | [], [] => true
  | x :: xs, y :: ys => q x y && qL q xs ys
  | _, _ => false
def qD (q : α → α → Bool) (d e : List (Int × α)) : Bool := decide (d.length = e.length) && d.all fun p => match dlook e p.1 with
  | some y => q p.2 y
  | none => false
def qH2 (q : α → α → Bool) (r : β → β → Bool) (x y : α × β) : Bool := q x.1 y.1 && r x.2 y.2
def qH4 (q : α → α → Bool) (r : β → β → Bool) (r3 : γ → γ → Bool) (r4 : δ → δ → Bool) (x y : α × β × γ × δ) : Bool := q x.1 y.1 && (r x.2.1 y.2.1 && (r3 x.2.2.1 y.2.2.1 && r4 x.2.2.2 y.2.2.2))
def QV (R : Rep α) (q : α → α → Bool) (n : Nat) : Prop := ∀ (K : PySem.W.Frag) F H v u x y, Same F H → R.r F v x → R.r F u y → q x y = true → EqW K H n v u
def QT (W : Vw α) (q : α → α → Bool) (n : Nat) : Prop := ∀ (K : PySem.W.Frag) F Os H v u x y, Wf F Os H → W.r F Os v x → W.r F Os u y → q x y = true → EqS K H (EqW K H n) v u
variable {R : Rep α} {S : Rep β} {T : Rep γ} {T4 : Rep δ} {q : α → α → Bool} {r : β → β → Bool} {r3 : γ → γ → Bool} {r4 : δ → δ → Bool} {n m k l : Nat}
theorem qv_E [DecidableEq α] {e : α → PyData} (he : Enc e m) (h : DR R e) (hm : m ≤ 64 := by decide) : QV R qE 1 := fun K F H v u x y s r1 r2 hq => by
  cases of_decide_eq_true (show decide (x = y) = true from hq)
  exact .inl ⟨e x, h K F H v x s r1, h K F H u x s r2, he.shaped hm x⟩
theorem qL_pair (h : QV R q n) {K : PySem.W.Frag} {F H : Hp} (s : Same F H) : ∀ {vs us : List V} {xs ys : List α}, Paired (R.r F) vs xs → Paired (R.r F) us ys → qL q xs ys = true → Paired (EqW K H n) vs us
  | _, _, _, _, .nil, .nil, _ => .nil
  | _, _, _, _, .cons r1 t1, .cons r2 t2, hq => by
    rw [qL, Bool.and_eq_true] at hq
    exact .cons (h K F H _ _ _ _ s r1 r2 hq.1) (qL_pair h s t1 t2 hq.2)
  | _, _, _, _, .nil, .cons _ _, hq => by cases hq
  | _, _, _, _, .cons _ _, .nil, hq => by cases hq
theorem qt_L (h : QV R q n) : QT (vList R) (qL q) n := fun K F Os H v u x y w r1 r2 hq => by
  obtain ⟨p1, o1, rfl, h1, vs, rfl, g1⟩ := vOf.get w r1
  obtain ⟨p2, o2, rfl, h2, us, rfl, g2⟩ := vOf.get w r2
  exact .inl ⟨p1, p2, vs, us, rfl, rfl, .of h1, .of h2, qL_pair h w.sub g1 g2 hq⟩
theorem qv_L (h : QV R q n) : QV (rList R) (qL q) (n + 1) := fun K F H v u x y s r1 r2 hq => by
  obtain ⟨p1, o1, rfl, h1, vs, rfl, g1⟩ := r1
  obtain ⟨p2, o2, rfl, h2, us, rfl, g2⟩ := r2
  exact .inr (.inl ⟨p1, p2, vs, us, rfl, rfl, .of (s _ _ h1), .of (s _ _ h2), qL_pair h s g1 g2 hq⟩)
theorem qD_pair (h : QV R q n) {K : PySem.W.Frag} {F H : Hp} (s : Same F H) {ls : List (Key × V)} {e : List (Int × α)} (g : DP R F ls e) : ∀ {ks : List (Key × V)} {d : List (Int × α)}, DP R F ks d → (d.all fun p => match dlook e p.1 with
    | some y => q p.2 y
    | none => false) = true → ∀ p ∈ ks, ∃ u, valV ls p.1 = some u ∧ EqW K H n p.2 u
  | _, _, .nil, _ => fun p hp => by cases hp
  | _, _, .cons (a := kv) (b := p0) r1 t1, hq => fun p hp => by
    rw [List.all_cons, Bool.and_eq_true] at hq
    rcases List.mem_cons.mp hp with rfl | hp
    · cases hd : dlook e p0.1 with
      | none => rw [hd] at hq; exact absurd (show false = true from hq.1) Bool.false_ne_true
      | some y =>
        rw [hd] at hq
        obtain ⟨z, g1, g2⟩ := (dp_look (k := p0.1) g).2 y hd
        exact ⟨z, by rw [r1.1]; exact g1, h K F H _ _ _ _ s r1.2 g2 hq.1⟩
    · exact qD_pair h s g t1 hq.2 p hp
theorem qt_D (h : QV R q n) : QT (vDict R) (qD q) n := fun K F Os H v u x y w r1 r2 hq => by
  obtain ⟨p1, vs, rfl, h1, g1⟩ := vDict.get w r1
  obtain ⟨p2, us, rfl, h2, g2⟩ := vDict.get w r2
  rw [qD, Bool.and_eq_true] at hq
  exact .inr ⟨p1, p2, vs, us, rfl, rfl, h1, h2, by rw [g1.length, g2.length]; exact of_decide_eq_true hq.1, qD_pair h w.sub g2 g1 hq.2⟩
theorem qv_D (h : QV R q n) : QV (rDict R) (qD q) (n + 1) := fun K F H v u x y s r1 r2 hq => by
  obtain ⟨p1, z1, vs, rfl, h1, g1⟩ := r1
  obtain ⟨p2, z2, us, rfl, h2, g2⟩ := r2
  rw [qD, Bool.and_eq_true] at hq
  exact .inr (.inr ⟨p1, p2, vs, us, rfl, rfl, .inr ⟨z1, s _ _ h1⟩, .inr ⟨z2, s _ _ h2⟩, by rw [g1.length, g2.length]; exact of_decide_eq_true hq.1, qD_pair h s g2 g1 hq.2⟩)
theorem qt_H2 (h : QV R q n) (h' : QV S r m) : QT (rH2 R S).v (qH2 q r) (max n m) := fun K F Os H v u x y w r1 r2 hq => by
  obtain ⟨p1, o1, rfl, h1, a1, a2, rfl, g1, g2⟩ := r1
  obtain ⟨p2, o2, rfl, h2, b1, b2, rfl, k1, k2⟩ := r2
  rw [qH2, Bool.and_eq_true] at hq
  exact .inl ⟨p1, p2, _, _, rfl, rfl, .of (w.sub _ _ h1), .of (w.sub _ _ h2), .cons ((h K F H _ _ _ _ w.sub g1 k1 hq.1).up (Nat.le_max_left _ _)) (.cons ((h' K F H _ _ _ _ w.sub g2 k2 hq.2).up (Nat.le_max_right _ _)) .nil)⟩
theorem qt_H4 {n : Nat} (h : QV R q n) (h' : QV S r n) (h3 : QV T r3 n) (h4 : QV T4 r4 n) : QT (rH4 R S T T4).v (qH4 q r r3 r4) n := fun K F Os H v u x y w r1 r2 hq => by
  obtain ⟨p1, o1, rfl, e1, a1, a2, a3, a4, rfl, g1, g2, g3, g4⟩ := r1
  obtain ⟨p2, o2, rfl, e2, b1, b2, b3, b4, rfl, k1, k2, k3, k4⟩ := r2
  rw [qH4, Bool.and_eq_true, Bool.and_eq_true, Bool.and_eq_true] at hq
  exact .inl ⟨p1, p2, _, _, rfl, rfl, .of (w.sub _ _ e1), .of (w.sub _ _ e2), .cons (h K F H _ _ _ _ w.sub g1 k1 hq.1) (.cons (h' K F H _ _ _ _ w.sub g2 k2 hq.2.1) (.cons (h3 K F H _ _ _ _ w.sub g3 k3 hq.2.2.1) (.cons (h4 K F H _ _ _ _ w.sub g4 k4 hq.2.2.2) .nil)))⟩
theorem QV.up (h : QV R q n) (hn : n ≤ m) : QV R q m := fun K F H v u x y s r1 r2 hq => (h K F H v u x y s r1 r2 hq).up hn
/-- at this very thing -/
def Vw.only {α : Type} (W : Vw α) (x : α) : Vw Unit := ⟨fun F Os v _ => W.r F Os v x, fun s h => W.mono s h⟩
variable {X : Cx} {e : Expr} {σ : St} {F : Hp} {Os Os1 : Owns} {W : Vw α} {x y : α}
theorem Ev.only (h : Ev X e σ F Os W x Os1) : Ev X e σ F Os (Vw.only W x) () Os1 := h
def eqO (b : Bool) : Option Bool := if b = true then some true else none
def neO (b : Bool) : Option Bool := if b = true then some false else none
theorem eqO_some {b z : Bool} (h : eqO b = some z) : b = true ∧ z = true := by
  cases b with
  | true => exact ⟨rfl, (Option.some.inj h).symm⟩
  | false => cases h
theorem neO_some {b z : Bool} (h : neO b = some z) : b = true ∧ z = false := by
  cases b with
  | true => exact ⟨rfl, (Option.some.inj h).symm⟩
  | false => cases h
theorem cp_eqQ {z : Bool} (hq : QT W q n) (h : eqO (q x y) = some z) (hu : X.A.units + 130 < cLine) (hn : n ≤ 60 := by decide) : Cp X .Eq (Vw.only W x) (Vw.only W y) (fun _ _ => z) := ⟨_, op_eqS hu, fun F Os H v u _ _ Q w r1 r2 k =>
  ⟨n, hn, hq X.K F Os H v u x y w r1 r2 (eqO_some h).1, by
    have k : Q (V.bl z) H := k
    rwa [(eqO_some h).2] at k⟩⟩
theorem cp_neQ {z : Bool} (hq : QT W q n) (h : neO (q x y) = some z) (hu : X.A.units + 130 < cLine) (hn : n ≤ 60 := by decide) : Cp X .NotEq (Vw.only W x) (Vw.only W y) (fun _ _ => z) := ⟨_, op_neS hu, fun F Os H v u _ _ Q w r1 r2 k =>
  ⟨n, hn, hq X.K F Os H v u x y w r1 r2 (neO_some h).1, by
    have k : Q (V.bl z) H := k
    rwa [(neO_some h).2] at k⟩⟩
theorem ty_h2 {w2 : α × β} : TyI (rH2 R S).v w2 "list" := fun K F Os H v w r => by
  obtain ⟨p, o, rfl, h, u1, u2, rfl, _⟩ := r
  exact .base (.lst (w.sub _ _ h))
theorem ty_h4 {w2 : α × β × γ × δ} : TyI (rH4 R S T T4).v w2 "list" := fun K F Os H v w r => by
  obtain ⟨p, o, rfl, h, u1, u2, u3, u4, rfl, _⟩ := r
  exact .base (.lst (w.sub _ _ h))
end
end Z

namespace Z
open PySem PySem.Spec L2
section
variable {α β γ δ : Type} {X : Cx} {e a b c it tg elt kx vx : Expr} {es ifs : List Expr} {pos p1 p2 p3 p4 : Pos} {σ : St} {F F' H : Hp} {Os Os1 Os2 Os3 : Owns} {W : Vw α} {U : Vw β} {R : Rep α} {S : Rep β} {T : Rep γ} {Y : Rep α} {x x' : α} {y : β} {z : γ} {i j k : Int} {l : Bool} {xs ys zs : List α} {D : Ends} {rest body : List Stmt} {n m : Nat} {nm : Str} {v : V} {d d' : List (Int × α)} {O O1 O2 O3 : OC}
theorem nn_dict {d : List (Int × α)} : ∀ F v, (rDict R).r F v d → v ≠ .non := fun F v ⟨a, _, _, e, _⟩ h => by rw [e] at h; cases h
theorem nnR_int : NnR rInt := fun F v x e h => by rw [show v = V.int x from e] at h; cases h
theorem nnR_list : NnR (rList R) := fun F v x ⟨a, o, e, _⟩ h => by rw [e] at h; cases h
/-! ### is None -/
theorem cp_isN : Cp X .Is (rOpt R).v rNone.v (fun x _ => x.isNone) := ⟨_, op_isN, fun F Os H v u x y Q w r1 r2 q => ⟨r2, by
  have q : Q (V.bl x.isNone) H := q
  cases x with
  | none => cases (show v = V.non from r1); exact q
  | some y => rwa [decide_eq_false (show ¬ v = V.non from r1.2)]⟩⟩
theorem cp_notN : Cp X .IsNot (rOpt R).v rNone.v (fun x _ => x.isSome) := ⟨_, op_notN, fun F Os H v u x y Q w r1 r2 q => ⟨r2, by
  have q : Q (V.bl x.isSome) H := q
  cases x with
  | none => cases (show v = V.non from r1); exact q
  | some y => rwa [decide_eq_false (show ¬ v = V.non from r1.2)]⟩⟩
theorem opt_get {x : Option α} {y : α} (h : (rOpt R).r F v x) (e : x = some y) : R.r F v y := by
  subst e
  exact h.1
theorem ev_lenT3 {w2 : α × β × γ} (ha : Ev X a σ F Os (rT3 R S T).v w2 Os1) (hm : X.mg "len" = none) (hg : Gl X "len" := by rfl) (he : starEach [a] X.env = (false, eval a X.env) :: starEach [] X.env := by rfl) (hpl : (backTo pos (starEach [] X.env)).any (·.1) = false := by rfl) : Ev X (.Call (.Name "len" p1) [a] [] pos) σ F Os rInt.v 3 Os1 :=
  ev_cb1 call_len_seq ha (fun F H v Q w r q => by
    obtain ⟨p, u1, u2, u3, e1, h1, h2⟩ := r
    cases e1
    exact ⟨p, _, rfl, .inr (.of (w.sub _ _ h1)), q _ F H (Same.refl _) w rfl⟩) hg hm PySem.boot_len (by decide) (by decide) he hpl
theorem pair_eq {α β : Type} {a : α} {b : β} {z : α × β} (h : some (a, b) = some z) : a = z.1 ∧ b = z.2 := by
  cases h
  exact ⟨rfl, rfl⟩
/-- what is owned, frozen from here on -/
def Fzb {α : Type} (O : OC) (R : Rep α) (x : α) : Prop := ∀ {X : Cx} {pins : List (Addr × Obj)} {σ : St} {s : Shared} {F H : Hp} {Os : Owns} {i : Nat} {l : Addr}, Inv X pins σ H s → Wf F Os H → Os[i]? = some (l, O) → ∃ F' H', Inv X pins σ H' s ∧ Same F F' ∧ Wf F' (Os.eraseIdx i) H' ∧ R.r F' (.ref l) x
theorem fzb_L : Fzb (oList R xs) (rList R) xs := fun I w h => by
  obtain ⟨F', s, w', r⟩ := fz_own w h
  exact ⟨F', _, I, s, w', r⟩
theorem fzb_D : Fzb (oDict R d) (rDict R) d := fun I w h => lock_own I w h
theorem EvP2.fz (h1 : Fzb O1 R x) (h2 : Fzb O2 S y) (h : EvP2 X e σ F Os O1 O2 Os1) : Ev X e σ F Os (rT2 R S).v (x, y) Os1 := fun F1 H s w Q q => fun pins sh I =>
  thn (h F1 H s w (fun v H' => ∃ p q F', Same F1 F' ∧ Wf F' ((p, O1) :: (q, O2) :: Os1) H' ∧ (rP2 p q).r F' v ((), ())) (fun v p q F' H' s' w' r' => ⟨p, q, F', s', w', r'⟩) pins sh I) fun u s' ⟨v, H', I', r, p1, p2, F', s2, w2, r2⟩ => by
    obtain ⟨F3, H3, I3, s3, w3, g1⟩ := h1 I' w2 (i := 0) rfl
    obtain ⟨F4, H4, I4, s4, w4, g2⟩ := h2 I3 w3 (i := 0) rfl
    exact ⟨v, H4, I4, r, q v F4 H4 (s2.trans (s3.trans s4)) w4 (pk2 ((rP2 p1 p2).mono (s3.trans s4) r2) (R.mono s4 g1) g2)⟩
theorem EvP3.fz (h1 : Fzb O1 R x) (h2 : Fzb O2 S y) (h3 : Fzb O3 T z) (h : EvP3 X e σ F Os O1 O2 O3 Os1) : Ev X e σ F Os (rT3 R S T).v (x, y, z) Os1 := fun F1 H s w Q q => fun pins sh I =>
  thn (h F1 H s w (fun v H' => ∃ p q r F', Same F1 F' ∧ Wf F' ((p, O1) :: (q, O2) :: (r, O3) :: Os1) H' ∧ (rP3 p q r).r F' v ((), (), ())) (fun v p q r F' H' s' w' r' => ⟨p, q, r, F', s', w', r'⟩) pins sh I) fun u s' ⟨v, H', I', r, p1, p2, p3, F', s2, w2, r2⟩ => by
    obtain ⟨F3, H3, I3, s3, w3, g1⟩ := h1 I' w2 (i := 0) rfl
    obtain ⟨F4, H4, I4, s4, w4, g2⟩ := h2 I3 w3 (i := 0) rfl
    obtain ⟨F5, H5, I5, s5, w5, g3⟩ := h3 I4 w4 (i := 0) rfl
    exact ⟨v, H5, I5, r, q v F5 H5 (s2.trans (s3.trans (s4.trans s5))) w5 (pk3 ((rP3 p1 p2 p3).mono (s3.trans (s4.trans s5)) r2) (R.mono (s4.trans s5) g1) (S.mono s5 g2) g3)⟩
/-! ### for k in d -/
theorem w1_forK (w : Wf F Os H) (hi : Ev X it σ F Os (rDict R).v d Os1) (hN : X.N.Nodup)
    (k : ∀ F1 H1, Same F F1 → Wf F1 Os1 H1 → ∃ I : List Int → St → Hp → Prop, I (dkeys d) σ H1 ∧ (∀ r σ' H', I r σ' H' → Same F1 H') ∧
      (∀ x r σ' H' v, I (x :: r) σ' H' → rInt.r F1 v x → Ws X body { D with nx := I r, ct := I r, bk := D.nx } (σ'.set n (some v)) H') ∧ (∀ σ' H', I [] σ' H' → D.nx σ' H'))
    (hp : PassesOwn (model X.prog X.w) X.A X.env X.xe) (hn : X.N[n]? = some nm := by rfl) (hx : Loc X.env.scope nm := by first | exact Or.inl rfl | exact Or.inr rfl) (hf : X.fn nm = true ∨ X.env.scope.names.lookup nm = some .local := by first | exact .inl rfl | exact .inr rfl)
    (hc : X.calm = true := by rfl) (hs : ∀ x, foldedSetIterable it X.env x = pure x := by intro _; rfl) : W1 X (.For (.Name nm p1) it body [] pos) D σ H := by
  refine w_ps (ps_for hp hc (pi_keys pe_w) (pg_name hN hn hx hf) pss_w hs) ?_
  refine hi.go (Same.refl _) w fun v F1 H1 s1 w1 r1 => ?_
  obtain ⟨I, h0, hk, ht, hd⟩ := k F1 H1 s1 w1
  obtain ⟨p, zo, kvs, rfl, g1, g2⟩ := r1
  have n1 : (dkeys d).length = kvs.length := by
    unfold dkeys
    rw [List.length_map, g2.length]
  refine ⟨p, zo, rfl, .inl ⟨kvs, w1.sub _ _ g1, fun i m σ' H' => m = (dkeys d).length - i ∧ i ≤ (dkeys d).length ∧ I ((dkeys d).drop i) σ' H', ⟨(dkeys d).length, by simp, Nat.zero_le _, h0⟩, ?_⟩⟩
  rintro i m σ' H' ⟨rfl, hi, hI⟩
  by_cases hl : i < (dkeys d).length
  · refine .inr ⟨⟨hk _ _ _ hI _ _ g1, by omega⟩, I ((dkeys d).drop (i + 1)), fun σ2 H2 q => ⟨(dkeys d).length - (i + 1), by omega, rfl, hl, q⟩, fun u H3 hy => ?_⟩
    obtain ⟨rfl, kk, u2, h1, rfl⟩ := hy
    have hx : (dkeys d)[i]? = some (dkeys d)[i] := List.getElem?_eq_getElem hl
    rw [drop_cons hx] at hI
    unfold dkeys at hx
    rw [List.getElem?_map] at hx
    obtain ⟨t, h2, h3⟩ := Option.map_eq_some_iff.mp hx
    obtain ⟨kv, h4, h5, _⟩ := paired_get g2 h2
    cases h1.symm.trans h4
    refine ht _ _ σ' H3 _ hI ?_
    show kV kk = V.int _
    rw [show kk = Sum.inl t.1 from h5, h3]
    rfl
  · have e : i = (dkeys d).length := by omega
    subst e
    rw [List.drop_length] at hI
    exact .inl ⟨⟨hk _ _ _ hI _ _ g1, by omega⟩, hd _ _ hI⟩
/-! ### return of a tuple of owned things -/
theorem ws_retP2 {P : Hp → Owns → List V → Prop} {x1 : Nat} (w : Wf F Os H) (ea : Ea X [a, b] σ F Os P) (hP : ∀ F' Os' H' vs, P F' Os' vs → Wf F' Os' H' → ∃ p q, vs = [.ref p, .ref q] ∧ Wf F' ((p, O1) :: (q, O2) :: Os2) H')
    (k : ∀ v p q F1 H1, Same F F1 → Wf F1 ((p, O1) :: (q, O2) :: Os2) H1 → (rP2 p q).r F1 v ((), ()) → D.rt v H1) : Ws X (.Return (some (.Tuple [a, b] x1 p1)) pos :: rest) D σ H :=
  ws_cons (w_ps (ps_ret pe_w) (w_pe (pe_tup pa_w) (ea.go (Same.refl _) w fun vs F2 Os' H2 s2 w2 r2 => by
    obtain ⟨p, q, rfl, w3⟩ := hP _ _ _ _ r2 w2
    exact ⟨(show 2 ≤ sizeLine by rw [sizeLine_eq]; decide), fun t ht => k _ p q _ _ (s2.trans (w3.frozS ht)) (w3.froz ht) ⟨t, _, _, rfl, upd_same, rfl, rfl⟩⟩)))
theorem ws_retP3 {P : Hp → Owns → List V → Prop} {x1 : Nat} (w : Wf F Os H) (ea : Ea X [a, b, c] σ F Os P) (hP : ∀ F' Os' H' vs, P F' Os' vs → Wf F' Os' H' → ∃ p q r, vs = [.ref p, .ref q, .ref r] ∧ Wf F' ((p, O1) :: (q, O2) :: (r, O3) :: Os2) H')
    (k : ∀ v p q r F1 H1, Same F F1 → Wf F1 ((p, O1) :: (q, O2) :: (r, O3) :: Os2) H1 → (rP3 p q r).r F1 v ((), (), ()) → D.rt v H1) : Ws X (.Return (some (.Tuple [a, b, c] x1 p1)) pos :: rest) D σ H :=
  ws_cons (w_ps (ps_ret pe_w) (w_pe (pe_tup pa_w) (ea.go (Same.refl _) w fun vs F2 Os' H2 s2 w2 r2 => by
    obtain ⟨p, q, r, rfl, w3⟩ := hP _ _ _ _ r2 w2
    exact ⟨(show 3 ≤ sizeLine by rw [sizeLine_eq]; decide), fun t ht => k _ p q r _ _ (s2.trans (w3.frozS ht)) (w3.froz ht) ⟨t, _, _, _, rfl, upd_same, rfl, rfl, rfl⟩⟩)))
/-! ### dict comprehensions -/
def dcO (tO : α → Option Bool) (eO : α → Option (Int × β)) : List (Int × β) → List α → Option (List (Int × β))
  | acc, [] => some acc
  | acc, x :: r => bd (tO x) fun b => if b = true then bd (eO x) fun y => dcO tO eO (dput acc y.1 y.2) r else dcO tO eO acc r
theorem dcO_cons {tO : α → Option Bool} {eO : α → Option (Int × β)} {acc : List (Int × β)} {x : α} {r : List α} {ys : List (Int × β)} (h : dcO tO eO acc (x :: r) = some ys) : ∃ b, tO x = some b ∧ (b = true → ∃ y, eO x = some y ∧ dcO tO eO (dput acc y.1 y.2) r = some ys) ∧ (b = false → dcO tO eO acc r = some ys) := by
  obtain ⟨b, h1, h2⟩ := bd_some h
  refine ⟨b, h1, fun hb => ?_, fun hb => ?_⟩
  · rw [if_pos hb] at h2
    exact bd_some h2
  · rw [if_neg (by rw [hb]; decide)] at h2
    exact h2
theorem dput_len {d : List (Int × β)} {k : Int} {y : β} : (dput d k y).length ≤ d.length + 1 := by
  unfold dput
  by_cases h : (d.any fun p => decide (p.1 = k)) = true
  · rw [if_pos h, List.length_map]; omega
  · rw [if_neg h]; simp
theorem dc_read {scope : Scope} {vs : List Nat} {tt : TT} (hi : Ei X tg it σ F Os Y xs Os1) (Tg : Hp → α → St → Prop) {tO : α → Option Bool} {eO : α → Option (Int × β)} {ys : List (Int × β)} (hf : dcO tO eO [] xs = some ys) (hT : TgB X scope σ vs tg Y Tg)
    (ht : ∀ q x b F1 σ', tO x = some b → Same F F1 → Tg F1 x σ' → ∀ F2 H2, Same F1 F2 → Wf F2 (q :: Os1) H2 → ∀ Q : Bool → Hp → Prop, (∀ F3 H3, Same F2 F3 → Wf F3 (q :: Os1) H3 → Q b H3) → tt σ' H2 Q)
    (he : ∀ q x y F1 σ', eO x = some y → Same F F1 → Tg F1 x σ' → ∀ s H C cl fp, Ev (BX X scope s H C cl fp) kx σ' F1 (q :: Os1) rInt.v y.1 (q :: Os1) ∧ Ev (BX X scope s H C cl fp) vx σ' F1 (q :: Os1) S.v y.2 (q :: Os1)) {F0 H0 : Hp} (s0 : Same F F0) (w0 : Wf F0 Os H0) {Q : VK}
    (q : ∀ p F' H', Same F0 F' → Wf F' ((p, oDict S ys) :: Os1) H' → Q (.ref p) H') : tDc (Wi X tg it) (gB X scope tg) tt (eB X scope kx) (eB X scope vx) vs σ H0 Q := by
  refine hi.go s0 w0 fun J F1 H1 s1 w1 T => fun Dl hD => ?_
  have hsz := sizeLine_eq
  refine ⟨fun i m H => m = xs.length - i ∧ i ≤ xs.length ∧ ∃ F' acc, Wf F' ((Dl, oDict S acc) :: Os1) H ∧ Same F1 F' ∧ dcO tO eO acc (xs.drop i) = some ys ∧ acc.length ≤ i, ⟨xs.length, by simp, Nat.zero_le _, F1, [], w1.new hD ⟨[], rfl, .nil⟩, Same.refl _, hf, Nat.le_refl _⟩, ?_⟩
  rintro i m H ⟨rfl, hi, F2, acc, w2, s2, hf2, hl2⟩
  by_cases hl : i < xs.length
  · refine .inr ⟨T.go i H (s2.trans w2.sub) hl, fun H => ∃ F' acc, Wf F' ((Dl, oDict S acc) :: Os1) H ∧ Same F1 F' ∧ dcO tO eO acc (xs.drop (i + 1)) = some ys ∧ acc.length ≤ i + 1, fun H' p => ⟨xs.length - (i + 1), by omega, rfl, hl, p⟩, fun v H3 hy => ?_⟩
    obtain ⟨F3, s3, w3, hv⟩ := T.yld i H v H3 F2 _ s2 w2 hy hl
    have hx : xs[i]? = some xs[i] := List.getElem?_eq_getElem hl
    rw [drop_cons hx] at hf2
    obtain ⟨b, hb, hb1, hb2⟩ := dcO_cons hf2
    refine hT F3 _ H3 v xs[i] w3 (hv _ hx) _ fun σ' htg hw => ⟨hw, ?_⟩
    have sF : Same F F3 := s0.trans (s1.trans (s2.trans s3))
    refine ht (Dl, oDict S acc) xs[i] b F3 σ' hb sF htg F3 H3 (Same.refl _) w3 _ fun F4 H4 s4 w4 => ?_
    cases b with
    | false => exact ⟨F4, acc, w4, s2.trans (s3.trans s4), hb2 rfl, by omega⟩
    | true =>
      obtain ⟨y, h5, h6⟩ := hb1 rfl
      intro s H' C cl fp
      have hev := he (Dl, oDict S acc) xs[i] y F3 σ' h5 sF htg
      refine (hev s H' C cl fp).1.go s4 w4 fun u F5 H5 s5 w5 r5 => ?_
      intro sb Hb Cb clb fpb
      refine (hev sb Hb Cb clb fpb).2.go (s4.trans s5) w5 fun u2 F6 H6 s6 w6 r6 => ?_
      obtain ⟨h7, o, h8, kvs, rfl, h9⟩ := w6.at (i := 0) rfl
      have hT2 := T.len
      have dl := dput_len (d := acc) (k := y.1) (y := y.2)
      refine ⟨kvs, Sum.inl y.1, r5, h8, by rw [h9.length]; omega, F6, dput acc y.1 y.2, ?_, s2.trans (s3.trans (s4.trans (s5.trans s6))), h6, by omega⟩
      exact w6.set (i := 0) rfl ⟨_, rfl, dp_put h9 r6⟩
  · have e : i = xs.length := by omega
    subst e
    rw [List.drop_length] at hf2
    cases hf2
    exact .inl ⟨T.stop H (s2.trans w2.sub), q Dl F2 H (s1.trans s2) w2⟩
theorem evn_dc0 {scope : Scope} {own : List (Str × Nat)} (hi : Ei X tg it σ F Os Y xs Os1) (Tg : Hp → α → St → Prop) {eO : α → Option (Int × β)} {ys : List (Int × β)} (hf : dcO (fun _ => some true) eO [] xs = some ys) (hT : TgB X scope σ (own.map (·.2)) tg Y Tg)
    (he : ∀ q x y F1 σ', eO x = some y → Same F F1 → Tg F1 x σ' → ∀ s H C cl fp, Ev (BX X scope s H C cl fp) kx σ' F1 (q :: Os1) rInt.v y.1 (q :: Os1) ∧ Ev (BX X scope s H C cl fp) vx σ' F1 (q :: Os1) S.v y.2 (q :: Os1))
    (hN : X.N.Nodup) (ok : BlkOk X.N X.env.scope scope own) (hc : X.calm = true := by rfl) (hs : ∀ x, foldedSetIterable it X.env x = pure x := by intro _; rfl) :
    EvN X (.DictComp kx vx [⟨tg, it, [], 0⟩] scope pos) σ F Os (oDict S ys) Os1 := fun F0 H0 s0 w0 Q q =>
  w_pe (pe_dc (own := own) hc hN pi_w ok gB_ok (fun _ _ _ _ _ => pts_nil) eB_ok eB_ok hs) (dc_read (tO := fun _ => some true) hi Tg hf hT (fun q x b F1 σ' hb _ _ F2 H2 _ w Q k => by
    cases hb
    exact k F2 H2 (Same.refl _) w) he s0 w0 q)
theorem evn_dc1 {scope : Scope} {own : List (Str × Nat)} (hi : Ei X tg it σ F Os Y xs Os1) (Tg : Hp → α → St → Prop) {tO : α → Option Bool} {eO : α → Option (Int × β)} {ys : List (Int × β)} (hf : dcO tO eO [] xs = some ys) (hT : TgB X scope σ (own.map (·.2)) tg Y Tg)
    (ht : ∀ q x b F1 σ', tO x = some b → Same F F1 → Tg F1 x σ' → ∀ s H C cl fp, Et (BX X scope s H C cl fp) c σ' F1 (q :: Os1) b (q :: Os1))
    (he : ∀ q x y F1 σ', eO x = some y → Same F F1 → Tg F1 x σ' → ∀ s H C cl fp, Ev (BX X scope s H C cl fp) kx σ' F1 (q :: Os1) rInt.v y.1 (q :: Os1) ∧ Ev (BX X scope s H C cl fp) vx σ' F1 (q :: Os1) S.v y.2 (q :: Os1))
    (hN : X.N.Nodup) (ok : BlkOk X.N X.env.scope scope own) (hc : X.calm = true := by rfl) (hs : ∀ x, foldedSetIterable it X.env x = pure x := by intro _; rfl) :
    EvN X (.DictComp kx vx [⟨tg, it, [c], 0⟩] scope pos) σ F Os (oDict S ys) Os1 := fun F0 H0 s0 w0 Q q =>
  w_pe (pe_dc (own := own) hc hN pi_w ok gB_ok tB1_ok eB_ok eB_ok hs) (dc_read hi Tg hf hT (fun q x b F1 σ' hb sF htg F2 H2 s2 w2 Q k => fun s H' C cl fp => (ht q x b F1 σ' hb sF htg s H' C cl fp).go s2 w2 k) he s0 w0 q)
end
end Z

/-! ZD: {**a, **b}; reversed(list); all([..]), any([..]). -/
namespace Z
section
open PySem PySem.W PySem.Spec PySem.Calls PyProof.Rows PyProof.V
variable {prog : Program} {w : World} {K : Type} [DecidableEq K] {knd : KeyKind prog w K} {A : Around} {E : Value → Shared → Prop} {s : Shared}
theorem put_pairs {d : Addr} {kvs : List (K × Value)} {k : K} {key v : Value} {Q : Unit → Shared → Prop} (h0 : knd.is k key = true) (hm : s.heap.DictOf knd d kvs)
    (q : ∀ h', h'.DictOf knd d (stored kvs k v) → Heap.SameBut d s.heap h' → Q () { s with heap := h' }) (hz : kvs.length ≤ sizeLine) : wpAny (model prog w) A (dictPut d (knd.hash k) key v) Q E s := by
  obtain ⟨ob, es, ep, g1, g2, g3, g4, g5, g6⟩ := hm
  have ez : es.size ≤ sizeLine := by
    have e1 := g5.length
    have e2 : es.toList.length = es.size := by simp
    omega
  unfold dictPut
  refine wpAny_bind (wpAny_dictFind_of h0 g1 g3 g4 ?_)
  have ix : (es.findIdx? fun e => knd.is k e.key) = kvs.findIdx? fun kv => decide (kv.1 = k) := by
    rw [← g5.findIdx k]
    obtain ⟨l⟩ := es
    simp
  cases hi : es.findIdx? fun e => knd.is k e.key with
  | some i =>
    refine wpAny_updateDict g1 g3 (q _ ⟨_, _, ep, Heap.get?_update_self _ g1 (Obj.isFreed_of_dict (Obj.data_mapDict g3 _)), g2.mapDict _, Obj.data_mapDict g3 _, g4.modify _ _, ?_, ?_⟩ (Heap.SameBut.update ..))
    · rw [stored, if_pos (any_of_findIdx_some (ix ▸ hi))]
      have hl : (es.toList.findIdx? fun e => knd.is k e.key) = some i := by rw [← hi]; obtain ⟨l⟩ := es; simp
      have md := g5.modify g6 hl v
      obtain ⟨l⟩ := es
      simpa using md
    · rw [stored, if_pos (any_of_findIdx_some (ix ▸ hi)), keys_map_store]; exact g6
  | none =>
    have nk : k ∉ kvs.map (·.1) := not_mem_of_findIdx_none (ix ▸ hi)
    have na : ¬ (kvs.any fun kv => decide (kv.1 = k)) = true := by
      rw [List.any_eq_true]
      rintro ⟨kv, hkv, he⟩
      exact nk (List.mem_map.mpr ⟨kv, hkv, of_decide_eq_true he⟩)
    refine wpAny_updateDictKeys (hz := ez) g1 g3 (q _ ⟨_, _, ep + 1, Heap.get?_update_self _ g1 (Obj.isFreed_of_dict (Obj.data_mapDictKeys g3 _)), g2.mapDictKeys _, Obj.data_mapDictKeys g3 _, g4.push h0 _, ?_, ?_⟩ (Heap.SameBut.update ..))
    · rw [stored, if_neg na]
      have ap := g5.append h0 (knd.hash k) v
      obtain ⟨l⟩ := es
      simpa using ap
    · rw [stored, if_neg na, List.map_append, List.nodup_append]
      refine ⟨g6, by simp, fun a ha b hb => ?_⟩
      simp only [List.map_cons, List.map_nil, List.mem_singleton] at hb
      rw [hb]
      exact fun e => nk (e ▸ ha)
theorem merged_len (kd : List (K × Value)) : ∀ ka : List (K × Value), (merged kd ka).length ≤ kd.length + ka.length := by
  intro ka
  induction ka generalizing kd with
  | nil => exact Nat.le_refl _
  | cons q r ih =>
    have h1 := ih (stored kd q.1 q.2)
    have h2 : (stored kd q.1 q.2).length ≤ kd.length + 1 := by
      unfold stored
      split
      · rw [List.length_map]; omega
      · simp
    show (merged (stored kd q.1 q.2) r).length ≤ _
    rw [List.length_cons]
    omega
theorem merge_run {a d : Addr} {ka kd : List (K × Value)} {Q : Unit → Shared → Prop} (ya : (a == sysModules) = false) (hne : a ≠ d) (da : s.heap.DictOf knd a ka) (dd : s.heap.DictOf knd d kd) (nr : ∀ k v, knd.is k v = true → ∀ p, v ≠ .ref p) (hz : kd.length + ka.length ≤ sizeLine)
    (q : ∀ h', h'.DictOf knd d (merged kd ka) → Heap.SameBut d s.heap h' → Q () { s with heap := h' }) : wpAny (model prog w) A (mergeMapping d (.ref a) false) Q E s := by
  have ta := da.typeIs
  obtain ⟨oa, es, ep, g1, g2, g3, g4, g5, g6⟩ := id da
  obtain ⟨od, fs, eq, f1, f2, f3, f4, f5, f6⟩ := id dd
  have la : ka.length = es.size := by rw [← g5.length]; exact Array.length_toList
  unfold mergeMapping
  refine wpAny_bind (wpAny_isInstance ta PySem.F.sub_dict_dict ?_)
  rw [if_pos rfl]
  refine wpAny_bind (wpAny_specialOf ta PySem.F.slot_dict_iter.lookup (wpAny_bind (wpAny_pure ?_)))
  rw [show (some (Value.builtin "dict.__iter__") == some (Value.builtin "dict.__iter__")) = true from by simp]
  dsimp only
  rw [if_neg (by rw [ya]; exact Bool.false_ne_true)]
  have nokey : ∀ e ∈ es.toList, ∀ p, e.key ≠ .ref p := fun e he p => by
    obtain ⟨k, hk, _⟩ := g4 e (by simpa using he)
    exact nr k _ hk p
  refine wpAny_bind (wpAny_dictEntries f1 f3 ?_)
  by_cases hemp : fs.isEmpty = true
  case' pos =>
    rw [if_pos hemp]
    refine wpAny_bind (wpAny_dictEntries g1 g3 ?_)
    refine wpAny_bind (PySem.MeetsSeq2.wpAny_forIn_array _ (fun rest _ s' => s' = s ∧ ∀ e ∈ rest, ∀ p, e.key ≠ .ref p) _ (fun e rest _ s' g => ?turn) (fun _ s' g => ?go) _ _ ⟨rfl, nokey⟩)
  case turn =>
    obtain ⟨rfl, hr⟩ := g
    split
    · next p he => exact absurd he (hr e List.mem_cons_self p)
    · exact wpAny_pure ⟨rfl, fun e' he => hr e' (List.mem_cons_of_mem _ he)⟩
  case' go => rw [g.1]
  case' neg => rw [if_neg hemp]
  all_goals
    refine wpAny_bind (wpAny_dictEntries g1 g3 ?_)
    refine wpAny_bind (wpAny_dictEpoch g1 g3 ?_)
    refine wpAny_bind (wpAny_forIn_list _ (fun rest _ s' => ∃ i, rest = List.range' i (es.size - i) ∧ i ≤ es.size ∧ ∃ h', s' = { s with heap := h' } ∧ h'.DictOf knd d (merged kd (ka.take i)) ∧ Heap.SameBut d s.heap h') _ ?_ ?_ _ _ ⟨0, by rw [List.range_eq_range', Nat.sub_zero], Nat.zero_le _, s.heap, rfl, dd, ⟨rfl, fun _ _ => rfl⟩⟩)
    · rintro x rest _ s' ⟨i, hr, hi, h', rfl, dh, sb⟩
      have hlt : i < es.size := by
        rcases Nat.lt_or_ge i es.size with hl | hl
        · exact hl
        · rw [Nat.sub_eq_zero_of_le hl] at hr; cases hr
      obtain ⟨rfl, hrest⟩ : x = i ∧ rest = List.range' (i + 1) (es.size - (i + 1)) := by
        rw [show es.size - i = (es.size - (i + 1)) + 1 by omega, List.range'_succ] at hr
        injection hr with e1 e2
        exact ⟨e1, e2⟩
      have g1' : h'.get? a = some oa := (sb.2 a hne).trans g1
      refine wpAny_bind (wpAny_dictEntries (s := { s with heap := h' }) g1' g3 ?_)
      rw [Array.getElem?_eq_getElem hlt]
      dsimp only
      have hlk : x < ka.length := by rw [la]; exact hlt
      obtain ⟨k, v, hkv⟩ : ∃ k v, ka[x] = (k, v) := ⟨_, _, rfl⟩
      have hka : ka[x]? = some (k, v) := by rw [List.getElem?_eq_getElem hlk, hkv]
      obtain ⟨hkey, hval⟩ := g5.get? (i := x) (e := es[x]) (k := k) (v := v) (by rw [Array.getElem?_toList]; exact Array.getElem?_eq_getElem hlt) hka
      obtain ⟨k', hk', hh⟩ := g4 es[x] (Array.getElem_mem hlt)
      rw [knd.inj _ _ _ hk' hkey] at hh
      refine wpAny_bind (wpAny_holding ?_)
      rw [if_neg Bool.false_ne_true, hh, hval]
      have ml := merged_len kd (ka.take x)
      have tl : (ka.take x).length ≤ ka.length := List.length_take_le' ..
      refine put_pairs (s := { s with heap := h' }) hkey dh (fun h2 d2 sb2 => ?_) (by omega)
      have g1'' : h2.get? a = some oa := (sb2.2 a hne).trans g1'
      refine wpAny_bind (wpAny_dictEpoch (s := { s with heap := h2 }) g1'' g3 ?_)
      rw [if_neg (by simp)]
      refine wpAny_pure ⟨x + 1, hrest, hlt, h2, rfl, ?_, ⟨sb2.1.trans sb.1, fun b hb => (sb2.2 b hb).trans (sb.2 b hb)⟩⟩
      rw [merged_take_succ kd ka x (k, v) hka]
      exact d2
    · rintro _ s' ⟨i, hr, hi, h', rfl, dh, sb⟩
      have e : i = es.size := by
        rcases Nat.lt_or_ge i es.size with hl | hl
        · rw [show es.size - i = (es.size - (i + 1)) + 1 by omega, List.range'_succ] at hr
          cases hr
        · omega
      rw [e, ← la, List.take_length] at dh
      exact wpAny_pure (q h' dh sb)
end
open PySem PySem.Spec L2
theorem mix_noref {P : Program} {w : World} : ∀ (k : Key) (v : Value), (mixKind P w).is k v = true → ∀ p, v ≠ .ref p := fun k v h p e => by
  have r := keyIs_rel h
  rw [e] at r
  cases k with
  | inl i => obtain ⟨t, ht⟩ := r; cases ht
  | inr x => obtain ⟨t, ht⟩ := r; cases ht
/-- {**e1, **e2} -/
theorem pe_star2 {X : Cx} {e1 e2 : Expr} {t1 t2 : TE} {pos : Pos} (h1 : PE X e1 t1) (h2 : PE X e2 t2) : PE X (.Dict [none, none] [e1, e2] pos) (fun σ H Q => ∀ p, H p = none → t1 σ (upd H p (.dK [])) fun x H1 => ∃ a ka, x = .ref a ∧ a ≠ p ∧ H1 p = some (.dK []) ∧ Rd H1 a (.dK ka) ∧
    t2 σ (upd H1 p (.dK (mergeK [] ka))) fun y H2 => ∃ b kb, y = .ref b ∧ b ≠ p ∧ H2 p = some (.dK (mergeK [] ka)) ∧ Rd H2 b (.dK kb) ∧ ka.length + kb.length ≤ sizeLine ∧ Q (.ref p) (upd H2 p (.dK (mergeK (mergeK [] ka) kb)))) := by
  have step : ∀ {pins : List (Addr × Obj)} {s : Shared} {σ : St} {H : Hp} {a d : Addr} {ka kd : List (Key × V)} {Qf : Unit → Shared → Prop} {E : Value → Shared → Prop}, Inv X pins σ H s → a ≠ d → H d = some (.dK kd) → Rd H a (.dK ka) → kd.length + ka.length ≤ sizeLine →
      (∀ s', Inv X pins σ (upd H d (.dK (mergeK kd ka))) s' → Qf () s') → wpAny (model X.prog X.w) X.A (mergeMapping d (.ref a) false) Qf E s := fun {pins s σ H a d ka kd Qf E} I hne hd ha hz q => by
    obtain ⟨za, ya, va, ra, da⟩ := dk_rd I.hok ha
    obtain ⟨zd, yd, vd, rd, dd⟩ := dk_of I.hok hd
    have n1 := ra.length
    have n2 := rd.length
    refine merge_run (knd := mixKind X.prog X.w) ya hne da dd mix_noref (by omega) fun h' dh sb => q _ ?_
    have he : ∃ o, h'.get? d = some o := let ⟨o, _, _, ho, _⟩ := dh; ⟨o, ho⟩
    have ml := length_mergeK ka kd
    exact d_write (t' := s.toks) I (by rw [hd]; exact True.intro) sb he (dk_new (by omega) yd (ra.merge rd) dh)
  refine ⟨fun pins s σ H Q I q => ?_⟩
  rw [arm_eval_Dict]
  refine wpAny_bind (wpAny_standAt ?_)
  show wpAny _ _ (dictDisplay [(none, do let x ← eval e1 X.env; standAt pos; pure x), (none, do let x ← eval e2 X.env; standAt pos; pure x)]) _ _ s
  unfold dictDisplay
  dsimp only
  simp only [List.forIn_cons, List.forIn_nil, List.isEmpty_nil, if_true, pure_bind]
  refine wpAny_bind (wpAny_bind (wpAny_bind (wpAny_alloc (wpAny_bind (wpAny_holding ?_)))))
  have hn := I.hok.fresh (Nat.le_refl s.heap.objs.size)
  have I0 := I.laid (a := s.heap.objs.size) (o := .dK []) (h' := s.heap.push { cls := .type "dict", data := .dict #[] }) (t' := s.toks) (fun _ _ g => Heap.get?_push_of_some _ g) (Nat.le_refl _) (dk_empty s.heap I.big)
  refine wpAny_bind (thn (h1.run pins _ σ _ _ I0 (q _ hn)) fun u s1 ⟨x, H1, I1, rx, a, ka, ex, na, hp, ha, q1⟩ => wpAny_bind (wpAny_standAt (wpAny_pure ?_)))
  subst ex
  cases (show u = Value.ref a from rx)
  refine wpAny_bind (wpAny_onRaise (wpAny_tryCatch (wpAny_onRaise (wpAny_holding (step I1 na hp ha (by have := (dk_rd I1.hok ha).1; simpa using this) fun s2 I2 => ?_)))))
  refine wpAny_pure ?_
  dsimp only
  simp only [List.isEmpty_nil, if_true, pure_bind]
  refine wpAny_bind (wpAny_bind (wpAny_holding ?_))
  refine wpAny_bind (thn (h2.run pins _ σ _ _ I2 q1) fun u s3 ⟨y, H3, I3, ry, b, kb, ey, nb, hp3, hb, hz, q3⟩ => wpAny_bind (wpAny_standAt (wpAny_pure ?_)))
  subst ey
  cases (show u = Value.ref b from ry)
  have ml := length_mergeK ka []
  refine wpAny_bind (wpAny_onRaise (wpAny_tryCatch (wpAny_onRaise (wpAny_holding (step I3 nb hp3 hb (by simp only [List.length_nil] at ml; omega) fun s4 I4 => ?_)))))
  refine wpAny_pure ?_
  dsimp only
  refine wpAny_pure ?_
  dsimp only
  simp only [List.isEmpty_nil, if_true]
  refine wpAny_bind (wpAny_pure (wpAny_pure ⟨.ref s.heap.objs.size, _, I4, rfl, q3⟩))
end Z

namespace Z
open PySem PySem.Spec L2
section
variable {α β γ δ : Type} {X : Cx} {e a b c it tg elt kx vx : Expr} {es ifs : List Expr} {pos p1 p2 p3 p4 : Pos} {σ : St} {F F' H : Hp} {Os Os1 Os2 Os3 : Owns} {W : Vw α} {U : Vw β} {R : Rep α} {S : Rep β} {T : Rep γ} {Y : Rep α} {x x' : α} {y : β} {z : γ} {i j k : Int} {l : Bool} {xs ys zs : List α} {D : Ends} {rest body : List Stmt} {n m : Nat} {nm : Str} {v : V} {d d' d2 : List (Int × α)} {O O1 O2 O3 : OC}
/-! ### {**a, **b} -/
def dmrg (d e : List (Int × α)) : List (Int × α) := e.foldl (fun acc kv => dput acc kv.1 kv.2) d
theorem DP.merge {F : Hp} {ks : List (Key × V)} {e : List (Int × α)} (h : DP R F ks e) : ∀ {kvs : List (Key × V)} {d : List (Int × α)}, DP R F kvs d → DP R F (mergeK kvs ks) (dmrg d e) := by
  induction h with
  | nil => intro kvs d g; exact g
  | cons r t ih =>
    intro kvs d g
    refine ih (kvs := putK kvs _ _) (d := dput d _ _) ?_
    rw [r.1]
    exact dp_put g r.2
def dmrgO (d e : List (Int × α)) : Option (List (Int × α)) := if d.length + e.length ≤ 16777216 then some (dmrg (dmrg [] d) e) else none
theorem dmrgO_some (h : dmrgO d d' = some d2) : d.length + d'.length ≤ sizeLine ∧ d2 = dmrg (dmrg [] d) d' := by
  unfold dmrgO at h
  by_cases hc : d.length + d'.length ≤ 16777216
  · rw [if_pos hc] at h
    exact ⟨by rw [sizeLine_eq]; exact hc, (Option.some.inj h).symm⟩
  · rw [if_neg hc] at h
    cases h
theorem evn_star2 (h : dmrgO d d' = some d2) (ha : ∀ q, Ev X a σ F (q :: Os) (rDict R).v d (q :: Os1)) (hb : ∀ q, Ev X b σ F (q :: Os1) (rDict R).v d' (q :: Os2)) : EvN X (.Dict [none, none] [a, b] pos) σ F Os (oDict R d2) Os2 := fun F1 H s w Q q => by
  obtain ⟨hz, rfl⟩ := dmrgO_some h
  refine w_pe (pe_star2 pe_w pe_w) fun p hp => ?_
  refine (ha (p, ocIs (.dK []))).go s (w.new hp rfl) fun v F2 H2 s2 w2 r2 => ?_
  obtain ⟨p1, z1, kvs, rfl, g1, g2⟩ := r2
  obtain ⟨f0, o, f1, f2⟩ := w2.at (i := 0) rfl
  cases (show o = .dK [] from f2)
  have n1 : p1 ≠ p := fun e => by rw [e, f0] at g1; cases g1
  refine ⟨p1, kvs, rfl, n1, f1, .inr ⟨z1, w2.sub _ _ g1⟩, ?_⟩
  refine (hb (p, ocIs (.dK (mergeK [] kvs)))).go (s.trans s2) (w2.set (i := 0) (O' := ocIs (.dK (mergeK [] kvs))) rfl rfl) fun u F3 H3 s3 w3 r3 => ?_
  obtain ⟨p2, z2, kvs2, rfl, g3, g4⟩ := r3
  obtain ⟨f4, o2, f5, f6⟩ := w3.at (i := 0) rfl
  cases (show o2 = .dK (mergeK [] kvs) from f6)
  have n2 : p2 ≠ p := fun e => by rw [e, f4] at g3; cases g3
  refine ⟨p2, kvs2, rfl, n2, f5, .inr ⟨z2, w3.sub _ _ g3⟩, by rw [g2.length, g4.length]; exact hz, ?_⟩
  exact q p F3 _ (s2.trans s3) (w3.set (i := 0) (O' := oDict R (dmrg (dmrg [] d) d')) rfl ⟨_, rfl, DP.merge g4 (DP.merge (g2.mono s3) .nil)⟩)
/-! ### reversed -/
theorem itx_rev {K : PySem.W.Frag} {p : Addr} {vs : List V} (g : F p = some (.lst vs)) (q : Paired (Y.r F) vs xs) (hz : vs.length ≤ sizeLine) : Itx (Itv K p vs.length) F Y xs.reverse where
  len := by rw [List.length_reverse, ← q.length, ← sizeLine_eq]; exact hz
  stop := fun H s => by rw [List.length_reverse, q.length]; exact Nat.le_refl _
  go := fun i H s hi => by
    rw [List.length_reverse, ← q.length] at hi
    exact ⟨hi, vs, vs[vs.length - 1 - i]'(by omega), .of (s _ _ g), List.getElem?_eq_getElem _⟩
  yld := fun i H v H' F2 Os2 s w h hi => by
    obtain ⟨rfl, h⟩ := h
    have hv := h vs (.of (w.sub _ _ (s _ _ g)))
    rw [List.length_reverse] at hi
    refine ⟨F2, Same.refl _, w, fun x hx => ?_⟩
    rw [List.getElem?_reverse hi, ← q.length] at hx
    obtain ⟨u, h1, h2⟩ := paired_get q hx
    cases hv.symm.trans h1
    exact Y.mono s h2
theorem ei_rev (h : Ev X it σ F Os (rList Y).v xs Os1) (hm : X.mg "reversed" = none) (hg : Gl X "reversed" := by rfl) (hs : starEach [it] X.env = (false, eval it X.env) :: starEach [] X.env := by rfl) : Ei X tg (.Call (.Name "reversed" p1) [it] [] pos) σ F Os Y xs.reverse Os1 := fun F1 H s w Q q =>
  w_pi (RT.pi_revA hg hm pe_w hs) (we_sz (h.go s w fun v F2 H2 s2 w2 r2 => by
    intro hz
    obtain ⟨p, o, rfl, g, vs, rfl, qv⟩ := r2
    exact ⟨p, vs, rfl, .inl ⟨.of (w2.sub _ _ g), q _ F2 H2 s2 w2 (itx_rev g qv ((hz _ _ (w2.sub _ _ g)).1 vs (.inl rfl)))⟩⟩))
/-! ### for over whatever is walked -/
theorem w1_forX (w : Wf F Os H) (hi : Ei X tg it σ F Os Y xs Os1)
    (k : ∀ F1 H1, Same F F1 → Wf F1 Os1 H1 → ∃ I : List α → Hp → St → Hp → Prop, (∃ Fm, I xs Fm σ H1) ∧ (∀ r Fm σ' H', I r Fm σ' H' → Same F1 Fm ∧ ∃ Os2, Wf Fm Os2 H' ∧ ∀ F3 H3, Same Fm F3 → Wf F3 Os2 H3 → I r F3 σ' H3) ∧
      (∀ x r Fm σ' H' v, I (x :: r) Fm σ' H' → Y.r Fm v x → Wg X tg v σ' H' (Ws X body { D with nx := fun σ H => ∃ Fm, I r Fm σ H, ct := fun σ H => ∃ Fm, I r Fm σ H, bk := D.nx })) ∧ (∀ Fm σ' H', I [] Fm σ' H' → D.nx σ' H'))
    (hp : PassesOwn (model X.prog X.w) X.A X.env X.xe) (hc : X.calm = true := by rfl) (hs : ∀ x, foldedSetIterable it X.env x = pure x := by intro _; rfl) : W1 X (.For tg it body [] pos) D σ H := by
  refine w_ps (ps_for hp hc pi_w pg_w pss_w hs) ?_
  refine hi.go (Same.refl _) w fun J F1 H1 s1 w1 T => ?_
  obtain ⟨I, ⟨Fm0, h0⟩, hk, ht, hd⟩ := k F1 H1 s1 w1
  refine ⟨fun i m σ' H' => m = xs.length - i ∧ i ≤ xs.length ∧ ∃ Fm, I (xs.drop i) Fm σ' H', ⟨xs.length, by simp, Nat.zero_le _, Fm0, h0⟩, ?_⟩
  rintro i m σ' H' ⟨rfl, hi, Fm, hI⟩
  obtain ⟨sF, Os2, w2, hst⟩ := hk _ _ _ _ hI
  by_cases hl : i < xs.length
  · refine .inr ⟨T.go i H' (sF.trans w2.sub) hl, fun σ H => ∃ Fm, I (xs.drop (i + 1)) Fm σ H, fun σ2 H2 q => ⟨xs.length - (i + 1), by omega, rfl, hl, q⟩, fun v H3 hy => ?_⟩
    obtain ⟨F3, s3, w3, hv⟩ := T.yld i H' v H3 Fm Os2 sF w2 hy hl
    have hx : xs[i]? = some xs[i] := List.getElem?_eq_getElem hl
    have hI3 := hst F3 H3 s3 w3
    rw [drop_cons hx] at hI3
    exact ht _ _ F3 σ' H3 v hI3 (hv _ hx)
  · have e : i = xs.length := by omega
    subst e
    rw [List.drop_length] at hI
    exact .inl ⟨T.stop H' (sF.trans w2.sub), hd Fm σ' H' hI⟩
/-! ### all, any -/
theorem paired_bool {F : Hp} : ∀ {vs : List V} {bs : List Bool}, Paired (rBool.r F) vs bs → vs = bs.map V.bl
  | _, _, .nil => rfl
  | _, _, .cons r t => by rw [show _ = V.bl _ from r, paired_bool t]; rfl
theorem ev_all {bs : List Bool} (ha : Ev X a σ F Os (vList rBool) bs Os1) (hm : X.mg "all" = none) (hc : X.calm = true := by rfl) (hg : Gl X "all" := by rfl) (he : starEach [a] X.env = (false, eval a X.env) :: starEach [] X.env := by rfl) (hpl : (backTo pos (starEach [] X.env)).any (·.1) = false := by rfl) : Ev X (.Call (.Name "all" p1) [a] [] pos) σ F Os rBool.v (bs.all id) Os1 :=
  ev_cb1 (cr_all hc) ha (fun F H v Q w r q => by
    obtain ⟨p, o, e1, h1, vs, e2, h2⟩ := vOf.get w r
    cases e1; cases e2
    exact ⟨p, bs, rfl, .of (paired_bool h2 ▸ h1), q _ F H (Same.refl _) w rfl⟩) hg hm (by decide +kernel) (by decide) (by decide) he hpl
theorem ev_any {bs : List Bool} (ha : Ev X a σ F Os (vList rBool) bs Os1) (hm : X.mg "any" = none) (hc : X.calm = true := by rfl) (hg : Gl X "any" := by rfl) (he : starEach [a] X.env = (false, eval a X.env) :: starEach [] X.env := by rfl) (hpl : (backTo pos (starEach [] X.env)).any (·.1) = false := by rfl) : Ev X (.Call (.Name "any" p1) [a] [] pos) σ F Os rBool.v (bs.any id) Os1 :=
  ev_cb1 (cr_any hc) ha (fun F H v Q w r q => by
    obtain ⟨p, o, e1, h1, vs, e2, h2⟩ := vOf.get w r
    cases e1; cases e2
    exact ⟨p, bs, rfl, .of (paired_bool h2 ▸ h1), q _ F H (Same.refl _) w rfl⟩) hg hm (by decide +kernel) (by decide) (by decide) he hpl
/-! ### tests whose second part changes what is owned; it is laid aside -/
variable {kb lb : Bool}
theorem Ev.wk (h : Ev X e σ F Os R.v x Os1) (g : ∀ F H, Wf F Os1 H → Wf F Os2 H) : Ev X e σ F Os R.v x Os2 := fun F1 H s w Q q => h.go s w fun v F2 H2 s2 w2 r2 => q v F2 H2 s2 (g _ _ w2) r2
theorem Ew.wk (h : Ew X e σ F Os kb Os1) (g : ∀ F H, Wf F Os1 H → Wf F Os2 H) : Ew X e σ F Os kb Os2 := fun F1 H s w Q q => h.go s w fun F2 H2 s2 w2 => q F2 H2 s2 (g _ _ w2)
theorem ev_orX {es : List Expr} (ha : Ev X a σ F Os rBool.v kb Os1) (hb : kb = false → Ev X (.BoolOp .Or (b :: es) pos) σ F Os1 rBool.v lb Os3) (hf : kb = true → lb = true) (h1 : ∀ F H, Wf F Os1 H → Wf F Os3 H) : Ev X (.BoolOp .Or (a :: b :: es) pos) σ F Os rBool.v lb Os3 := fun F1 H s w Q q =>
  w_pe (pe_or pe_w pe_w) (ha.go s w fun v F2 H2 s2 w2 r2 => ⟨kb, r2, by
    cases kb with
    | false => exact (hb rfl).go (s.trans s2) w2 fun v F3 H3 s3 w3 r3 => q v F3 H3 (s2.trans s3) w3 r3
    | true =>
      cases hf rfl
      exact q _ F2 H2 s2 (h1 _ _ w2) rfl⟩)
theorem ev_andX {es : List Expr} (ha : Ev X a σ F Os rBool.v kb Os1) (hb : kb = true → Ev X (.BoolOp .And (b :: es) pos) σ F Os1 rBool.v lb Os3) (hf : kb = false → lb = false) (h1 : ∀ F H, Wf F Os1 H → Wf F Os3 H) : Ev X (.BoolOp .And (a :: b :: es) pos) σ F Os rBool.v lb Os3 := fun F1 H s w Q q =>
  w_pe (pe_and pe_w pe_w) (ha.go s w fun v F2 H2 s2 w2 r2 => ⟨kb, r2, by
    cases kb with
    | true => exact (hb rfl).go (s.trans s2) w2 fun v F3 H3 s3 w3 r3 => q v F3 H3 (s2.trans s3) w3 r3
    | false =>
      cases hf rfl
      exact q _ F2 H2 s2 (h1 _ _ w2) rfl⟩)
theorem ew_orX {es : List Expr} (ha : Et X a σ F Os kb Os1) (hb : kb = false → Ew X (.BoolOp .Or (b :: es) pos) σ F Os1 lb Os3) (hf : kb = true → lb = true) (h1 : ∀ F H, Wf F Os1 H → Wf F Os3 H) : Ew X (.BoolOp .Or (a :: b :: es) pos) σ F Os lb Os3 := fun F1 H s w Q q =>
  w_pw (pw_or pt_w pw_w) (ha.go s w fun F2 H2 s2 w2 => by
    cases kb with
    | false => exact (hb rfl).go (s.trans s2) w2 fun F3 H3 s3 w3 => q F3 H3 (s2.trans s3) w3
    | true =>
      cases hf rfl
      exact q F2 H2 s2 (h1 _ _ w2))
theorem ew_andX {es : List Expr} (ha : Et X a σ F Os kb Os1) (hb : kb = true → Ew X (.BoolOp .And (b :: es) pos) σ F Os1 lb Os3) (hf : kb = false → lb = false) (h1 : ∀ F H, Wf F Os1 H → Wf F Os3 H) : Ew X (.BoolOp .And (a :: b :: es) pos) σ F Os lb Os3 := fun F1 H s w Q q =>
  w_pw (pw_and pt_w pw_w) (ha.go s w fun F2 H2 s2 w2 => by
    cases kb with
    | true => exact (hb rfl).go (s.trans s2) w2 fun F3 H3 s3 w3 => q F3 H3 (s2.trans s3) w3
    | false =>
      cases hf rfl
      exact q F2 H2 s2 (h1 _ _ w2))
end
end Z

/-! plain laws of the mirror's words -/
namespace Z
open PySem L2
theorem foldO_spec {α σ : Type} {f : σ → α → Option σ} (I : List α → σ → Prop) (h : ∀ x r s, I (x :: r) s → ∃ s', f s x = some s' ∧ I r s') : ∀ (xs : List α) (s : σ), I xs s → ∃ z, foldO f s xs = some z ∧ I [] z
  | [], s, hi => ⟨s, rfl, hi⟩
  | x :: r, s, hi => by
    obtain ⟨s', h1, h2⟩ := h x r s hi
    obtain ⟨z, h3, h4⟩ := foldO_spec I h r s' h2
    exact ⟨z, by show bd (f s x) _ = _; rw [h1]; exact h3, h4⟩
theorem foldF_nx {α ρ σ : Type} {f : σ → α → Option (Fl ρ σ)} (I : List α → σ → Prop) (h : ∀ x r s, I (x :: r) s → ∃ s', f s x = some (.nx s') ∧ I r s') : ∀ (xs : List α) (s : σ), I xs s → ∃ z, foldF f s xs = some (.nx z) ∧ I [] z
  | [], s, hi => ⟨s, rfl, hi⟩
  | x :: r, s, hi => by
    obtain ⟨s', h1, h2⟩ := h x r s hi
    obtain ⟨z, h3, h4⟩ := foldF_nx I h r s' h2
    exact ⟨z, by show bd (f s x) _ = _; rw [h1]; exact h3, h4⟩
theorem foldF_spec {α ρ σ : Type} {f : σ → α → Option (Fl ρ σ)} (I : List α → σ → Prop) (B : σ → Prop) (Q : ρ → Prop)
    (h : ∀ x r s, I (x :: r) s → (∃ s', f s x = some (.nx s') ∧ I r s') ∨ (∃ s', f s x = some (.brk s') ∧ B s') ∨ ∃ v, f s x = some (.ret v) ∧ Q v) :
    ∀ (xs : List α) (s : σ), I xs s → (∃ z, foldF f s xs = some (.nx z) ∧ (I [] z ∨ B z)) ∨ ∃ v, foldF f s xs = some (.ret v) ∧ Q v
  | [], s, hi => .inl ⟨s, rfl, .inl hi⟩
  | x :: r, s, hi => by
    rcases h x r s hi with ⟨s', h1, h2⟩ | ⟨s', h1, h2⟩ | ⟨v, h1, h2⟩
    · rcases foldF_spec I B Q h r s' h2 with ⟨z, h3, h4⟩ | ⟨v, h3, h4⟩
      · exact .inl ⟨z, by show bd (f s x) _ = _; rw [h1]; exact h3, h4⟩
      · exact .inr ⟨v, by show bd (f s x) _ = _; rw [h1]; exact h3, h4⟩
    · exact .inl ⟨s', by show bd (f s x) _ = _; rw [h1]; rfl, .inr h2⟩
    · exact .inr ⟨v, by show bd (f s x) _ = _; rw [h1]; rfl, h2⟩
theorem rngO_eq {lo hi : Int} (h : rngOk lo hi) : rngO lo hi = some (rng lo hi) := if_pos h
theorem app_eq {α : Type} {xs : List α} {x : α} (h : xs.length < 16777216) : app xs x = some (xs ++ [x]) := if_pos h
theorem cat_eq {α : Type} {xs ys : List α} (h : xs.length + ys.length ≤ 16777216) : cat xs ys = some (xs ++ ys) := if_pos h
theorem modO_eq {i j : Int} (h : 0 < j) : modO i j = some (i % j) := if_pos h
theorem divO_eq {i j : Int} (h : 0 < j) (h2 : j < 2 ^ 64) : divO i j = some (i / j) := if_pos ⟨h, by
  have : j.natAbs.log2 < 64 := PySem.Flt.log2_lt_of (by decide) (by omega)
  omega⟩
theorem mulO_eq {i j : Int} (h : -(2 ^ 64) < i ∧ i < 2 ^ 64) : mulO i j = some (i * j) := if_pos (.inl h)
theorem mulO_eq2 {i j : Int} (h : -(2 ^ 64) < j ∧ j < 2 ^ 64) : mulO i j = some (i * j) := if_pos (.inr h)
theorem ixN_nat {n j : Nat} (h : j < n) : ixN n (j : Int) = some j := by
  unfold ixN
  rw [if_pos (by omega), if_pos (by omega)]
  simp
theorem ix_nat {α : Type} {xs : List α} {j : Nat} {x : α} (h : xs[j]? = some x) : ix xs (j : Int) = some x := atI_nat h
theorem ix_int {α : Type} {xs : List α} {i : Int} {x : α} (h0 : 0 ≤ i) (h : xs[i.toNat]? = some x) : ix xs i = some x := by
  have e : i = (i.toNat : Int) := by omega
  rw [e]
  exact ix_nat h
theorem ix_ok {α : Type} {xs : List α} {i : Int} (h0 : 0 ≤ i) (h1 : i < xs.length) : ∃ x, ix xs i = some x ∧ xs[i.toNat]? = some x := by
  have hl : i.toNat < xs.length := by omega
  exact ⟨xs[i.toNat], ix_int h0 (List.getElem?_eq_getElem hl), List.getElem?_eq_getElem hl⟩
theorem stI_nat {α : Type} {xs : List α} {j : Nat} {x : α} (h : j < xs.length) : stI xs (j : Int) x = some (xs.set j x) := by
  unfold stI
  rw [ixN_nat h]
  rfl
theorem rng_cons {lo hi : Int} (h : lo < hi) : rng lo hi = lo :: rng (lo + 1) hi := by
  unfold rng
  have e : (hi - lo).toNat = (hi - (lo + 1)).toNat + 1 := by omega
  rw [e, List.range_succ_eq_map, List.map_cons, List.map_map]
  congr 1
  · omega
  · refine List.map_congr_left fun k _ => ?_
    show lo + ((k + 1 : Nat) : Int) = lo + 1 + (k : Int)
    omega
theorem rng_nil {lo hi : Int} (h : hi ≤ lo) : rng lo hi = [] := by
  unfold rng
  have e : (hi - lo).toNat = 0 := by omega
  rw [e]
  rfl
/-- a loop over a range: the invariant by the next number -/
theorem foldO_rng {σ : Type} {f : σ → Int → Option σ} (I : Int → σ → Prop) {lo hi : Int} (h : ∀ k s, lo ≤ k → k < hi → I k s → ∃ s', f s k = some s' ∧ I (k + 1) s') (s : σ) (h0 : I lo s) (hl : lo ≤ hi) : ∃ z, foldO f s (rng lo hi) = some z ∧ I hi z := by
  have key : ∀ (n : Nat) (k : Int) (s : σ), (hi - k).toNat = n → lo ≤ k → k ≤ hi → I k s → ∃ z, foldO f s (rng k hi) = some z ∧ I hi z := fun n => by
    induction n with
    | zero =>
      intro k s e h1 h2 hI
      have : k = hi := by omega
      subst this
      rw [rng_nil (Int.le_refl _)]
      exact ⟨s, rfl, hI⟩
    | succ n ih =>
      intro k s e h1 h2 hI
      have hk : k < hi := by omega
      obtain ⟨s', h3, h4⟩ := h k s h1 hk hI
      obtain ⟨z, h5, h6⟩ := ih (k + 1) s' (by omega) (by omega) (by omega) h4
      rw [rng_cons hk]
      exact ⟨z, by show bd (f s k) _ = _; rw [h3]; exact h5, h6⟩
  exact key _ lo s rfl (Int.le_refl _) hl h0
theorem foldF_rng {ρ σ : Type} {f : σ → Int → Option (Fl ρ σ)} (I : Int → σ → Prop) {lo hi : Int} (h : ∀ k s, lo ≤ k → k < hi → I k s → ∃ s', f s k = some (.nx s') ∧ I (k + 1) s') (s : σ) (h0 : I lo s) (hl : lo ≤ hi) : ∃ z, foldF f s (rng lo hi) = some (.nx z) ∧ I hi z := by
  have key : ∀ (n : Nat) (k : Int) (s : σ), (hi - k).toNat = n → lo ≤ k → k ≤ hi → I k s → ∃ z, foldF f s (rng k hi) = some (.nx z) ∧ I hi z := fun n => by
    induction n with
    | zero =>
      intro k s e h1 h2 hI
      have : k = hi := by omega
      subst this
      rw [rng_nil (Int.le_refl _)]
      exact ⟨s, rfl, hI⟩
    | succ n ih =>
      intro k s e h1 h2 hI
      have hk : k < hi := by omega
      obtain ⟨s', h3, h4⟩ := h k s h1 hk hI
      obtain ⟨z, h5, h6⟩ := ih (k + 1) s' (by omega) (by omega) (by omega) h4
      rw [rng_cons hk]
      exact ⟨z, by show bd (f s k) _ = _; rw [h3]; exact h5, h6⟩
  exact key _ lo s rfl (Int.le_refl _) hl h0
end Z

namespace Z
open PySem PySem.Spec L2
def K_l_open_4 (x_cell5 : Int) : Option (List Int) :=
    if (decide (1000000000000000000 ≤ x_cell5)) = true then
    some (([1, x_cell5 - 1000000000000000000, 0] : (List Int)))
    else
    some (([0, x_cell5, 0] : (List Int)))
def M_l_open (x_script : (List Int)) (x_at : Int) : Option (List Int) :=
    bd (if (decide (x_at < (x_script.length : Int))) = true then
    bd (ix x_script x_at) fun t8 =>
    some t8
    else
    some 0) fun s => K_l_open_4 s
def M_l_take (x_box : (List Int)) (x_size : Int) : Option (Int × (List Int)) :=
    bd (ix x_box 0) fun t1 =>
    if (decide (t1 = 1)) = true then
    bd (ix x_box 1) fun t4 =>
    bd (modO t4 x_size) fun t5 =>
    bd (ix x_box 1) fun t8 =>
    bd (divO t8 x_size) fun t9 =>
    bd (stI x_box 1 t9) fun x_box10 =>
    some (t5, x_box10)
    else
    bd (ix x_box 2) fun t12 =>
    bd (stI x_box 2 (t12 + 1)) fun x_box15 =>
    bd (ix x_box15 1) fun t17 =>
    lt (((t17 + (7919 * t12)) + 13) % 2147483647) fun x_mixed18 =>
    bd (mulO x_mixed18 (x_mixed18 + 48271)) fun t21 =>
    lt (t21 % 2147483629) fun x_mixed22 =>
    bd (mulO x_mixed22 (x_mixed22 + 69621)) fun t25 =>
    lt ((t25 + (31 * t12)) % 2147483647) fun x_mixed26 =>
    bd (modO (x_mixed26 / 9) x_size) fun t29 =>
    some (t29, x_box15)
def K_l_places_33 (x_places_here13 : (List Int)) (x_last14 : Int) (x_box34 : (List Int)) (x_step35 : Int) : Option (((List Int) × (List Int) × Int)) :=
    lt (x_last14 + x_step35) fun x_last43 =>
    bd (app x_places_here13 x_last43) fun x_places_here46 =>
    some (x_box34, x_places_here46, x_last43)
def B_l_places_11 (x_box12 : (List Int)) (x_places_here13 : (List Int)) (x_last14 : Int) (x24 : Int) : Option (((List Int) × (List Int) × Int)) :=
    bd (M_l_take x_box12 2) fun t27 =>
    lt (1 + t27.1) fun x_step28 =>
    bd (M_l_take t27.2 6) fun t31 =>
    bd (if (decide (t31.1 = 0)) = true then
    lt (x_step28 + 9) fun x_step38 =>
    some (t31.2, x_step38)
    else
    some (t31.2, x_step28)) fun s => K_l_places_33 x_places_here13 x_last14 s.1 s.2
def K_l_places_11 (x_box18 : (List Int)) (x_places_here19 : (List Int)) (x_last20 : Int) : Option (((List Int) × (List Int))) :=
    some (x_places_here19, x_box18)
def M_l_places (x_box : (List Int)) (x_count : Int) : Option ((List Int) × (List Int)) :=
    lt (([] : (List Int))) fun x_places_here1 =>
    bd (M_l_take x_box 3) fun t5 =>
    lt (t5.1 - 1) fun x_last6 =>
    bd (rngO 0 x_count) fun rg9 =>
    bd (foldO (fun s x => B_l_places_11 s.1 s.2.1 s.2.2 x) (t5.2, x_places_here1, x_last6) rg9) fun s => K_l_places_11 s.1 s.2.1 s.2.2
def M_l_value (x_box : (List Int)) : Option (Int × (List Int)) :=
    bd (M_l_take x_box 8) fun t1 =>
    if (decide (t1.1 = 7)) = true then
    bd (M_l_take t1.2 10000) fun t4 =>
    some (t4.1, t4.2)
    else
    bd (M_l_take t1.2 8) fun t5 =>
    some ((max 0 (t5.1 - 1), t5.2))
def B_l_first_6 (x_box7 : (List Int)) (x_book8 : (List (Int × Int))) (x15 : Int) : Option (((List Int) × (List (Int × Int)))) :=
    bd (M_l_value x_box7) fun t17 =>
    if (decide (0 < t17.1)) = true then
    bd (dputO x_book8 x15 t17.1) fun x_book22 =>
    some (t17.2, x_book22)
    else
    some (t17.2, x_book8)
def K_l_first_6 (x_box11 : (List Int)) (x_book12 : (List (Int × Int))) : Option (((List (Int × Int)) × (List Int))) :=
    some (x_book12, x_box11)
def M_l_first (x_box : (List Int)) (x_places_here : (List Int)) : Option ((List (Int × Int)) × (List Int)) :=
    lt (([] : (List (Int × Int)))) fun x_book1 =>
    bd (foldO (fun s x => B_l_first_6 s.1 s.2 x) (x_box, x_book1) x_places_here) fun s => K_l_first_6 s.1 s.2
def K_l_second_37 (x_result8 : (List (Int × Int))) (x17 : Int) (x_box27 : (List Int)) (x_value_here38 : Int) : Option (((List Int) × (List (Int × Int)))) :=
    if (decide (0 < x_value_here38)) = true then
    bd (dputO x_result8 x17 x_value_here38) fun x_result47 =>
    some (x_box27, x_result47)
    else
    some (x_box27, x_result8)
def K_l_second_26 (x_result8 : (List (Int × Int))) (x17 : Int) (t19 : (Int × (List Int))) (x_box27 : (List Int)) (x_value_here28 : Int) : Option (((List Int) × (List (Int × Int)))) :=
    bd (if (decide (t19.1 = 3)) = true then
    some 0
    else
    some x_value_here28) fun s => K_l_second_37 x_result8 x17 x_box27 s
def B_l_second_6 (x_book : (List (Int × Int))) (x_box7 : (List Int)) (x_result8 : (List (Int × Int))) (x17 : Int) : Option (((List Int) × (List (Int × Int)))) :=
    bd (M_l_take x_box7 4) fun t19 =>
    lt ((dlook x_book x17).getD 0) fun x_value_here22 =>
    bd (if (decide (t19.1 = 2)) = true then
    bd (M_l_value t19.2) fun t31 =>
    some (t31.2, t31.1)
    else
    some (t19.2, x_value_here22)) fun s => K_l_second_26 x_result8 x17 t19 s.1 s.2
def K_l_second_6 (x_box12 : (List Int)) (x_result13 : (List (Int × Int))) : Option (((List (Int × Int)) × (List Int))) :=
    some (x_result13, x_box12)
def M_l_second (x_box : (List Int)) (x_book : (List (Int × Int))) (x_places_here : (List Int)) : Option ((List (Int × Int)) × (List Int)) :=
    lt (([] : (List (Int × Int)))) fun x_result1 =>
    bd (foldO (fun s x => B_l_second_6 x_book s.1 s.2 x) (x_box, x_result1) x_places_here) fun s => K_l_second_6 s.1 s.2
def B_l_choose_9 (x_box10 : (List Int)) (x_rest11 : (List Int)) (x_chosen12 : (List Int)) (x22 : Int) : Option (((List Int) × (List Int) × (List Int))) :=
    bd (M_l_take x_box10 (x_rest11.length : Int)) fun t25 =>
    bd (ix x_rest11 t25.1) fun t28 =>
    bd (app x_chosen12 t28) fun x_chosen29 =>
    bd (cat (cut x_rest11 none (some t25.1)) (cut x_rest11 (some (t25.1 + 1)) none)) fun t31 =>
    some (t25.2, t31, x_chosen29)
def K_l_choose_9 (x_box16 : (List Int)) (x_rest17 : (List Int)) (x_chosen18 : (List Int)) : Option (((List Int) × (List Int))) :=
    some (x_chosen18, x_box16)
def M_l_choose (x_box : (List Int)) (x_rows : (List Int)) (x_count : Int) : Option ((List Int) × (List Int)) :=
    lt (([] : (List Int))) fun x_chosen3 =>
    bd (rngO 0 (min x_count (x_rows.length : Int))) fun rg7 =>
    bd (foldO (fun s x => B_l_choose_9 s.1 s.2.1 s.2.2 x) (x_box, x_rows, x_chosen3) rg7) fun s => K_l_choose_9 s.1 s.2.1 s.2.2
def K_l_wanted_25 (x17 : Int) (t19 : (Int × (List Int))) (x_writes26 : (List (Int × Int))) : Option (((List Int) × (List (Int × Int)))) :=
    if (decide (1 < t19.1)) = true then
    bd (M_l_value t19.2) fun t33 =>
    bd (dputO x_writes26 x17 t33.1) fun x_writes34 =>
    some (t33.2, x_writes34)
    else
    some (t19.2, x_writes26)
def B_l_wanted_8 (x_book : (List (Int × Int))) (x_box9 : (List Int)) (x_writes10 : (List (Int × Int))) (x17 : Int) : Option (((List Int) × (List (Int × Int)))) :=
    bd (M_l_take x_box9 4) fun t19 =>
    bd (dputO x_writes10 x17 0) fun x_writes22 =>
    bd (if (decide (t19.1 = 1)) = true then
    bd (dputO x_writes22 x17 ((dlook x_book x17).getD 0)) fun x_writes28 =>
    some x_writes28
    else
    some x_writes22) fun s => K_l_wanted_25 x17 t19 s
def K_l_wanted_8 (x_box13 : (List Int)) (x_writes14 : (List (Int × Int))) : Option (((List (Int × Int)) × (List Int))) :=
    some (x_writes14, x_box13)
def M_l_wanted (x_box : (List Int)) (x_book : (List (Int × Int))) (x_places_here : (List Int)) : Option ((List (Int × Int)) × (List Int)) :=
    lt (([] : (List (Int × Int)))) fun x_writes1 =>
    bd (M_l_take x_box ((x_places_here.length : Int) + 1)) fun t5 =>
    bd (M_l_choose t5.2 x_places_here t5.1) fun t6 =>
    bd (foldO (fun s x => B_l_wanted_8 x_book s.1 s.2 x) (t6.2, x_writes1) t6.1) fun s => K_l_wanted_8 s.1 s.2
def B_l_copy_5 (x_book : (List (Int × Int))) (x_result6 : (List (Int × Int))) (x10 : Int) : Option ((List (Int × Int))) :=
    bd (dlook x_book x10) fun t12 =>
    bd (dputO x_result6 x10 t12) fun x_result13 =>
    some x_result13
def K_l_copy_5 (x_result8 : (List (Int × Int))) : Option ((List (Int × Int))) :=
    some x_result8
def M_l_copy (x_book : (List (Int × Int))) : Option (List (Int × Int)) :=
    lt (([] : (List (Int × Int)))) fun x_result1 =>
    bd (foldO (fun s x => B_l_copy_5 x_book s x) x_result1 ((dkeys x_book).reverse)) fun s => K_l_copy_5 s
def B_l_unlike_5 (x_base : (List (Int × Int))) (x_book : (List (Int × Int))) (x_due6 : (List (Int × Int))) (x10 : Int) : Option ((List (Int × Int))) :=
    if (decide (((dlook x_base x10).getD 0) ≠ ((dlook x_book x10).getD 0))) = true then
    bd (dputO x_due6 x10 ((dlook x_book x10).getD 0)) fun x_due14 =>
    some x_due14
    else
    some x_due6
def K_l_unlike_5 (x_due8 : (List (Int × Int))) : Option ((List (Int × Int))) :=
    some x_due8
def M_l_unlike (x_base : (List (Int × Int))) (x_book : (List (Int × Int))) (x_places_here : (List Int)) : Option (List (Int × Int)) :=
    lt (([] : (List (Int × Int)))) fun x_due1 =>
    bd (foldO (fun s x => B_l_unlike_5 x_base x_book s x) x_due1 x_places_here) fun s => K_l_unlike_5 s
def M_ascending (x_numbers : (List Int)) : Option (List Int) :=
    bd (setO x_numbers) fun t1 =>
    some (asc t1)
def M_value_at (x_book : (List (Int × Int))) (x_place : Int) : Option Int :=
    some ((dlook x_book x_place).getD 0)
def M_changes (x_base : (List (Int × Int))) (x_book : (List (Int × Int))) : Option (List (Int × Int)) :=
    bd (cat (dkeys x_base) (dkeys x_book)) fun t1 =>
    bd (M_ascending t1) fun t2 =>
    bd (dcO (fun (x5 : Int) => (bd (M_value_at x_base x5) fun t6 => bd (M_value_at x_book x5) fun t7 => some (decide (t6 ≠ t7)))) (fun (x5 : Int) => bd (M_value_at x_book x5) fun t8 => some (x5, t8)) [] t2) fun t9 =>
    some t9
def B_l_is_book_4 (x_told : (List (Int × Int))) (x7 : Int) : Option (Fl Bool Unit) :=
    if ((!true) || false) = true then
    some (.ret false)
    else
    bd (dlook x_told x7) fun t11 =>
    bd (if (!true) = true then some true else (bd (dlook x_told x7) fun t12 => some false)) fun t13 =>
    if t13 = true then
    some (.ret false)
    else
    some (.nx ())
def K_l_is_book_4 : Option Bool :=
    some true
def M_l_is_book (x_told : (List (Int × Int))) : Option Bool :=
    if (!true) = true then
    some false
    else
    bd (foldF (fun s x => B_l_is_book_4 x_told  x) () (dkeys x_told)) fun z => flk z (fun s => K_l_is_book_4 ) some
def M_cleaned (x_book : (List (Int × Int))) : Option (List (Int × Int)) :=
    bd (dcO (fun (x1 : (Int × Int)) => (some (decide (x1.2 ≠ 0)))) (fun (x1 : (Int × Int)) => some (x1.1, x1.2)) [] x_book) fun t2 =>
    some t2
def M_with_writes (x_book : (List (Int × Int))) (x_writes : (List (Int × Int))) : Option (List (Int × Int)) :=
    bd (dmrgO x_book x_writes) fun t2 =>
    bd (M_cleaned t2) fun t3 =>
    some t3
def M_l_leads (x_base : (List (Int × Int))) (x_book : (List (Int × Int))) (x_places_here : (List Int)) : Option Bool :=
    bd (M_l_copy x_base) fun t1 =>
    bd (M_l_copy x_book) fun t4 =>
    bd (M_l_unlike x_base x_book x_places_here) fun t7 =>
    bd (M_changes t1 t4) fun t11 =>
    bd (M_l_is_book t11) fun t15 =>
    bd (if (!t15) = true then some true else (bd (neO (qD qE t11 t7)) fun t16 => bd (if t16 = true then some true else (bd (neO (qD qE t1 x_base)) fun t17 => bd (if t17 = true then some true else (bd (neO (qD qE t4 x_book)) fun t18 => some t18)) fun t19 => some t19)) fun t20 => some t20)) fun t21 =>
    if t21 = true then
    some false
    else
    bd (dputO t11 200 5) fun x_told24 =>
    bd (M_changes t4 t4) fun t26 =>
    bd (M_l_is_book t26) fun t30 =>
    if ((!t30) || (decide (0 < (t26.length : Int)))) = true then
    some false
    else
    bd (dputO t26 200 5) fun x_same33 =>
    bd (M_changes t1 t4) fun t35 =>
    bd (M_l_is_book t35) fun t38 =>
    bd (if (!t38) = true then some true else (bd (neO (qD qE t35 t7)) fun t39 => bd (if t39 = true then some true else (bd (neO (qD qE t1 x_base)) fun t40 => bd (if t40 = true then some true else (bd (neO (qD qE t4 x_book)) fun t41 => some t41)) fun t42 => some t42)) fun t43 => some t43)) fun t44 =>
    if t44 = true then
    some false
    else
    bd (M_with_writes t1 t35) fun t47 =>
    bd (M_l_is_book t47) fun t51 =>
    bd (if (!t51) = true then some true else (bd (neO (qD qE t47 x_book)) fun t52 => some t52)) fun t53 =>
    if t53 = true then
    some false
    else
    bd (dputO t47 200 5) fun x_back56 =>
    bd (M_with_writes t1 t35) fun t58 =>
    bd (M_l_is_book t58) fun t63 =>
    bd (if (!t63) = true then some true else (bd (neO (qD qE t58 x_book)) fun t64 => bd (if t64 = true then some true else (bd (neO (qD qE t1 x_base)) fun t65 => bd (if t65 = true then some true else (bd (neO (qD qE t35 t7)) fun t66 => some t66)) fun t67 => some t67)) fun t68 => some t68)) fun t69 =>
    if t69 = true then
    some false
    else
    bd (dputO t1 201 4) fun x_one72 =>
    bd (dputO t7 201 0) fun x_due74 =>
    bd (M_changes x_one72 t4) fun t76 =>
    bd (M_l_is_book t76) fun t81 =>
    bd (if t81 = true then (bd (eqO (qD qE t76 x_due74)) fun t82 => bd (if t82 = true then (bd (eqO (qD qE t58 x_book)) fun t83 => bd (if t83 = true then (bd (eqO (qD qE t4 x_book)) fun t84 => some t84) else some false) fun t85 => some t85) else some false) fun t86 => some t86) else some false) fun t87 =>
    some t87
def K_l_after_18 (x_due6 : (List (Int × Int))) (x12 : Int) (x_value_here19 : Int) : Option ((List (Int × Int))) :=
    if (decide (0 < x_value_here19)) = true then
    bd (dputO x_due6 x12 x_value_here19) fun x_due29 =>
    some x_due29
    else
    some x_due6
def B_l_after_5 (x_book : (List (Int × Int))) (x_writes : (List (Int × Int))) (x_due6 : (List (Int × Int))) (x12 : Int) : Option ((List (Int × Int))) :=
    lt ((dlook x_book x12).getD 0) fun x_value_here14 =>
    bd (if ((dlook x_writes x12).isSome) = true then
    bd (dlook x_writes x12) fun t22 =>
    some t22
    else
    some x_value_here14) fun s => K_l_after_18 x_due6 x12 s
def K_l_after_5 (x_due9 : (List (Int × Int))) : Option ((List (Int × Int))) :=
    some x_due9
def M_l_after (x_book : (List (Int × Int))) (x_writes : (List (Int × Int))) (x_places_here : (List Int)) : Option (List (Int × Int)) :=
    lt (([] : (List (Int × Int)))) fun x_due1 =>
    bd (foldO (fun s x => B_l_after_5 x_book x_writes s x) x_due1 x_places_here) fun s => K_l_after_5 s
def M_l_writing (x_base : (List (Int × Int))) (x_writes : (List (Int × Int))) (x_places_here : (List Int)) : Option Bool :=
    bd (M_l_copy x_base) fun t1 =>
    bd (M_l_copy x_writes) fun t4 =>
    bd (M_l_after x_base x_writes x_places_here) fun t8 =>
    bd (M_with_writes t1 t4) fun t11 =>
    bd (M_l_is_book t11) fun t15 =>
    bd (if (!t15) = true then some true else (bd (neO (qD qE t11 t8)) fun t16 => bd (if t16 = true then some true else (bd (neO (qD qE t1 x_base)) fun t17 => bd (if t17 = true then some true else (bd (neO (qD qE t4 x_writes)) fun t18 => some t18)) fun t19 => some t19)) fun t20 => some t20)) fun t21 =>
    if t21 = true then
    some false
    else
    bd (dputO t11 200 5) fun x_told24 =>
    bd (M_with_writes t1 (([] : (List (Int × Int))))) fun t26 =>
    bd (M_l_is_book t26) fun t30 =>
    bd (if (!t30) = true then some true else (bd (neO (qD qE t26 x_base)) fun t31 => bd (if t31 = true then some true else (bd (neO (qD qE t1 x_base)) fun t32 => some t32)) fun t33 => some t33)) fun t34 =>
    if t34 = true then
    some false
    else
    bd (dputO t26 200 5) fun x_same37 =>
    bd (M_with_writes (([] : (List (Int × Int)))) t4) fun t39 =>
    bd (M_l_is_book t39) fun t43 =>
    bd (if (!t43) = true then some true else (bd (M_l_after (([] : (List (Int × Int)))) x_writes x_places_here) fun t44 => bd (neO (qD qE t39 t44)) fun t45 => some t45)) fun t46 =>
    if t46 = true then
    some false
    else
    bd (dputO t39 200 5) fun x_alone49 =>
    bd (M_with_writes t1 t4) fun t51 =>
    bd (M_l_is_book t51) fun t54 =>
    bd (if (!t54) = true then some true else (bd (neO (qD qE t51 t8)) fun t55 => bd (if t55 = true then some true else (bd (neO (qD qE t1 x_base)) fun t56 => bd (if t56 = true then some true else (bd (neO (qD qE t4 x_writes)) fun t57 => some t57)) fun t58 => some t58)) fun t59 => some t59)) fun t60 =>
    if t60 = true then
    some false
    else
    bd (dputO t1 201 4) fun x_one63 =>
    bd (dputO t4 202 3) fun x_some65 =>
    bd (eqO (qD qE t51 t8)) fun t67 =>
    some t67
def B_l_choose_1_9 (x_box10 : (List Int)) (x_rest11 : (List (Int × Int))) (x_chosen12 : (List (Int × Int))) (x22 : Int) : Option (((List Int) × (List (Int × Int)) × (List (Int × Int)))) :=
    bd (M_l_take x_box10 (x_rest11.length : Int)) fun t25 =>
    bd (ix x_rest11 t25.1) fun t28 =>
    bd (app x_chosen12 t28) fun x_chosen29 =>
    bd (cat (cut x_rest11 none (some t25.1)) (cut x_rest11 (some (t25.1 + 1)) none)) fun t31 =>
    some (t25.2, t31, x_chosen29)
def K_l_choose_1_9 (x_box16 : (List Int)) (x_rest17 : (List (Int × Int))) (x_chosen18 : (List (Int × Int))) : Option (((List (Int × Int)) × (List Int))) :=
    some (x_chosen18, x_box16)
def M_l_choose_1 (x_box : (List Int)) (x_rows : (List (Int × Int))) (x_count : Int) : Option ((List (Int × Int)) × (List Int)) :=
    lt (([] : (List (Int × Int)))) fun x_chosen3 =>
    bd (rngO 0 (min x_count (x_rows.length : Int))) fun rg7 =>
    bd (foldO (fun s x => B_l_choose_1_9 s.1 s.2.1 s.2.2 x) (x_box, x_rows, x_chosen3) rg7) fun s => K_l_choose_1_9 s.1 s.2.1 s.2.2
def M_holds (x_book : (List (Int × Int))) (x_marks : (List (Int × Int))) : Option Bool :=
    bd (lcO (fun _ => some true) (fun (x1 : (Int × Int)) => bd (M_value_at x_book x1.1) fun t2 => some (decide (t2 = x1.2))) x_marks) fun t3 =>
    some (t3.all id)
def M_holds_1 (x_book : (List (Int × Int))) (x_marks : (List (Int × Int))) : Option Bool :=
    bd (lcO (fun _ => some true) (fun (x1 : (Int × Int)) => bd (M_value_at x_book x1.1) fun t2 => some (decide (t2 = x1.2))) x_marks) fun t3 =>
    some (t3.all id)
def M_l_holding (x_one : (List (Int × Int))) (x_marks : (List (Int × Int))) (x_due : Bool) : Option Bool :=
    bd (M_holds x_one x_marks) fun t1 =>
    if ((!true) || (decide (t1 ≠ x_due))) = true then
    some false
    else
    bd (M_holds_1 x_one x_marks) fun t6 =>
    some (true && (decide (t6 = x_due)))
def B_l_telling_7 (x_box : (List Int)) (x_book : (List (Int × Int))) (t1 : (List (Int × Int))) (x12 : Int) : Option ((Fl ((Bool × (List Int))) Unit)) :=
    bd (M_value_at t1 x12) fun t14 =>
    if ((!true) || (false || (decide (t14 ≠ ((dlook x_book x12).getD 0))))) = true then
    some (.ret (false, x_box))
    else
    some (.nx ())
def B_l_telling_65 (t1 : (List (Int × Int))) (t30 : ((List (Int × Int)) × (List Int))) (x55 : Int) (t57 : (Int × Int)) (t60 : (Int × Int)) (x74 : Int) : Option ((Fl ((Fl ((Bool × (List Int))) Unit)) Unit)) :=
    bd (cat (cut t30.1 none (some x55)) (([(t57.1, x74)] : (List (Int × Int))))) fun t76 =>
    bd (cat t76 (cut t30.1 (some (x55 + 1)) none)) fun t77 =>
    bd (M_holds t1 t77) fun t82 =>
    if ((!true) || ((decide (t82 ≠ decide (x74 = t60.2))) || (decide (t77 ≠ t77)))) = true then
    some (.ret (.ret (false, t30.2)))
    else
    bd (M_l_holding t1 t77 (decide (x74 = t60.2))) fun t87 =>
    bd (if (!t87) = true then some true else (bd (M_l_holding t1 (([(t57.1, x74)] : (List (Int × Int)))) (decide (x74 = t60.2))) fun t88 => some (!t88))) fun t89 =>
    if t89 = true then
    some (.ret (.ret (false, t30.2)))
    else
    bd (M_l_holding t1 (([(t57.1, x74), (t57.1, t60.2)] : (List (Int × Int)))) (decide (x74 = t60.2))) fun t92 =>
    if (!t92) = true then
    some (.ret (.ret (false, t30.2)))
    else
    bd (M_l_holding t1 (([(t57.1, t60.2), (t57.1, x74)] : (List (Int × Int)))) (decide (x74 = t60.2))) fun t95 =>
    if (!t95) = true then
    some (.ret (.ret (false, t30.2)))
    else
    some (.nx ())
def K_l_telling_65 : Option ((Fl ((Bool × (List Int))) Unit)) :=
    some (.nx ())
def B_l_telling_40 (t1 : (List (Int × Int))) (t30 : ((List (Int × Int)) × (List Int))) (x55 : Int) : Option ((Fl ((Bool × (List Int))) Unit)) :=
    bd (ix t30.1 x55) fun t57 =>
    bd (ix t30.1 x55) fun t60 =>
    lt (([t60.2, t60.2 + 1, 0, 9999] : (List Int))) fun xs63 =>
    bd (foldF (fun s x => B_l_telling_65 t1 t30 x55 t57 t60  x) () xs63) fun z => flk z (fun s => K_l_telling_65 ) some
def K_l_telling_40 (x_book : (List (Int × Int))) (t1 : (List (Int × Int))) (t30 : ((List (Int × Int)) × (List Int))) : Option ((Bool × (List Int))) :=
    bd (neO (qD qE t1 x_book)) fun t102 =>
    if t102 = true then
    some (false, t30.2)
    else
    bd (dputO t1 203 6) fun x_one105 =>
    bd (M_value_at x_one105 203) fun t107 =>
    bd (if (decide (t107 = 6)) = true then (bd (cat t30.1 (([(203, 6)] : (List (Int × Int))))) fun t108 => bd (M_l_holding x_one105 t108 true) fun t109 => some t109) else some false) fun t110 =>
    some (t110, t30.2)
def K_l_telling_7 (x_box : (List Int)) (x_book : (List (Int × Int))) (x_places_here : (List Int)) (t1 : (List (Int × Int))) : Option ((Bool × (List Int))) :=
    bd (cat x_places_here (([200] : (List Int)))) fun t21 =>
    bd (lcO (fun _ => some true) (fun (x22 : Int) => some ((x22, (dlook x_book x22).getD 0))) t21) fun t23 =>
    bd (M_l_choose_1 x_box t23 (t23.length : Int)) fun t30 =>
    bd (M_l_holding t1 t30.1 true) fun t33 =>
    bd (if (!t33) = true then some true else (bd (M_l_holding t1 (([] : (List (Int × Int)))) true) fun t34 => some (!t34))) fun t35 =>
    if t35 = true then
    some (false, t30.2)
    else
    bd (rngO 0 (t30.1.length : Int)) fun rg38 =>
    bd (foldF (fun s x => B_l_telling_40 t1 t30  x) () rg38) fun z => flk z (fun s => K_l_telling_40 x_book t1 t30 ) some
def M_l_telling (x_box : (List Int)) (x_book : (List (Int × Int))) (x_places_here : (List Int)) : Option (Bool × (List Int)) :=
    bd (M_l_copy x_book) fun t1 =>
    bd (cat x_places_here (([200] : (List Int)))) fun t5 =>
    bd (foldF (fun s x => B_l_telling_7 x_box x_book t1  x) () t5) fun z => flk z (fun s => K_l_telling_7 x_box x_book x_places_here t1 ) some
def M_l_large (x_box : (List Int)) : Option (Bool × (List Int)) :=
    bd (M_l_take x_box 8) fun t1 =>
    bd (M_l_take t1.2 41) fun t4 =>
    bd (rngO 0 (20 + t4.1)) fun rg5 =>
    bd (lcO (fun _ => some true) (fun (x6 : Int) => some (t1.1 + (3 * x6))) rg5) fun t7 =>
    bd (M_l_first t4.2 t7) fun t14 =>
    bd (M_l_second t14.2 t14.1 t7) fun t17 =>
    bd (M_l_leads t14.1 t17.1 t7) fun t20 =>
    bd (if (!t20) = true then some true else (bd (M_l_leads t17.1 t14.1 t7) fun t21 => some (!t21))) fun t22 =>
    if t22 = true then
    some (false, t17.2)
    else
    bd (M_l_choose t17.2 t7 20) fun t25 =>
    bd (M_l_telling t25.2 t17.1 t25.1) fun t26 =>
    some (t26.1, t26.2)
def K_law_11 (x_script : (List Int)) (x_box12 : (List Int)) (x_places_here13 : (List Int)) : Option Bool :=
    bd (M_l_first x_box12 x_places_here13) fun t18 =>
    bd (M_l_open x_script 1) fun t21 =>
    bd (M_l_second t21 t18.1 x_places_here13) fun t23 =>
    bd (M_l_open x_script 2) fun t26 =>
    bd (M_l_wanted t26 t18.1 x_places_here13) fun t28 =>
    bd (M_l_leads t18.1 t23.1 x_places_here13) fun t31 =>
    bd (if (!t31) = true then some true else (bd (M_l_leads t23.1 t18.1 x_places_here13) fun t32 => some (!t32))) fun t33 =>
    if t33 = true then
    some false
    else
    bd (M_l_leads t18.1 t18.1 x_places_here13) fun t36 =>
    bd (if (!t36) = true then some true else (bd (M_l_leads (([] : (List (Int × Int)))) t23.1 x_places_here13) fun t37 => some (!t37))) fun t38 =>
    if t38 = true then
    some false
    else
    bd (M_l_writing t18.1 t28.1 x_places_here13) fun t41 =>
    bd (if (!t41) = true then some true else (bd (M_l_writing t23.1 t28.1 x_places_here13) fun t42 => some (!t42))) fun t43 =>
    if t43 = true then
    some false
    else
    bd (M_l_open x_script 3) fun t46 =>
    bd (M_l_telling t46 t18.1 x_places_here13) fun t50 =>
    bd (if (!t50.1) = true then some true else (bd (M_l_telling t50.2 t23.1 x_places_here13) fun t51 => some (!t51.1))) fun t52 =>
    if t52 = true then
    some false
    else
    bd (M_l_open x_script 4) fun t55 =>
    bd (M_l_take t55 8) fun t59 =>
    bd (if (decide (t59.1 < 7)) = true then some true else (bd (M_l_large t59.2) fun t60 => some t60.1)) fun t61 =>
    some t61
def M_law (x_script : (List Int)) : Option Bool :=
    bd (M_l_open x_script 0) fun t1 =>
    bd (M_l_take t1 13) fun t4 =>
    bd (M_l_places t4.2 t4.1) fun t5 =>
    bd (M_l_take t5.2 3) fun t9 =>
    bd (if (decide (t9.1 = 2)) = true then
    bd (app t5.1 255) fun x_places_here15 =>
    some (t9.2, x_places_here15)
    else
    some (t9.2, t5.1)) fun s => K_law_11 x_script s.1 s.2
end Z

/-! MB: plain laws of dicts and lists, no law in sight -/
namespace Z
open PySem L2
theorem lcO_spec {α β : Type} {tO : α → Option Bool} {eO : α → Option β} {c : α → Bool} {e : α → β} : ∀ {xs : List α}, (∀ x ∈ xs, tO x = some (c x)) → (∀ x ∈ xs, c x = true → eO x = some (e x)) → lcO tO eO xs = some ((xs.filter c).map e)
  | [], _, _ => rfl
  | x :: r, h1, h2 => by
    have ih := lcO_spec (fun y hy => h1 y (List.mem_cons_of_mem _ hy)) (fun y hy => h2 y (List.mem_cons_of_mem _ hy))
    show bd (tO x) _ = _
    rw [h1 x List.mem_cons_self, bd_eq]
    by_cases hc : c x = true
    · rw [if_pos hc, h2 x List.mem_cons_self hc, bd_eq, ih, bd_eq, List.filter_cons_of_pos hc, List.map_cons]
    · rw [if_neg hc, ih, List.filter_cons_of_neg hc]
/-! dicts -/
section
variable {α : Type}
theorem dkeys_app (d e : List (Int × α)) : dkeys (d ++ e) = dkeys d ++ dkeys e := List.map_append
theorem mem_dkeys {d : List (Int × α)} {k : Int} : k ∈ dkeys d ↔ ∃ v, (k, v) ∈ d := by
  unfold dkeys
  rw [List.mem_map]
  exact ⟨fun ⟨⟨a, b⟩, h, e⟩ => ⟨b, by cases e; exact h⟩, fun ⟨v, h⟩ => ⟨_, h, rfl⟩⟩
theorem dput_new {d : List (Int × α)} {k : Int} {x : α} (h : k ∉ dkeys d) : dput d k x = d ++ [(k, x)] := by
  unfold dput
  rw [if_neg]
  intro hc
  obtain ⟨⟨a, b⟩, h1, h2⟩ := List.any_eq_true.mp hc
  have h2 : a = k := of_decide_eq_true h2
  exact h (mem_dkeys.mpr ⟨b, h2 ▸ h1⟩)
theorem dputO_new {d : List (Int × α)} {k : Int} {x : α} (h : k ∉ dkeys d) (hl : d.length ≤ 1000) : dputO d k x = some (d ++ [(k, x)]) := by
  unfold dputO
  rw [if_pos (by omega), dput_new h]
theorem dlook_cons (q : Int × α) (d : List (Int × α)) (k : Int) : dlook (q :: d) k = if q.1 = k then some q.2 else dlook d k := by
  by_cases h : q.1 = k <;> simp [dlook, h]
theorem dlook_none {k : Int} : ∀ {d : List (Int × α)}, k ∉ dkeys d → dlook d k = none
  | [], _ => rfl
  | q :: d, h => by
    rw [dlook_cons, if_neg (fun e => h (by rw [← e]; exact List.mem_cons_self)), dlook_none fun hk => h (List.mem_cons_of_mem _ hk)]
theorem dlook_mem {k : Int} {v : α} : ∀ {d : List (Int × α)}, (dkeys d).Nodup → (k, v) ∈ d → dlook d k = some v
  | q :: d, nd, h => by
    obtain ⟨n1, n2⟩ := List.nodup_cons.mp nd
    rw [dlook_cons]
    rcases List.mem_cons.mp h with rfl | h
    · rw [if_pos rfl]
    · rw [if_neg (fun e => n1 (show q.1 ∈ dkeys d by rw [e]; exact mem_dkeys.mpr ⟨v, h⟩)), dlook_mem n2 h]
theorem dlook_in {k : Int} {v : α} : ∀ {d : List (Int × α)}, dlook d k = some v → (k, v) ∈ d
  | q :: d, h => by
    rw [dlook_cons] at h
    by_cases e : q.1 = k
    · rw [if_pos e] at h
      cases h
      rw [← e]
      exact List.mem_cons_self
    · rw [if_neg e] at h
      exact List.mem_cons_of_mem _ (dlook_in h)
theorem dlook_isSome {d : List (Int × α)} {k : Int} (h : k ∈ dkeys d) : ∃ v, dlook d k = some v ∧ (k, v) ∈ d := by
  cases hd : dlook d k with
  | some v => exact ⟨v, rfl, dlook_in hd⟩
  | none =>
    obtain ⟨v, hv⟩ := mem_dkeys.mp h
    have : ∀ {d : List (Int × α)}, dlook d k = none → (k, v) ∉ d := fun {d} => by
      induction d with
      | nil => intro _ h; cases h
      | cons q d ih =>
        intro h1 h2
        rw [dlook_cons] at h1
        by_cases e : q.1 = k
        · rw [if_pos e] at h1; cases h1
        · rw [if_neg e] at h1
          rcases List.mem_cons.mp h2 with rfl | h2
          · exact e rfl
          · exact ih h1 h2
    exact absurd hv (this hd)
theorem qD_refl [DecidableEq α] {d : List (Int × α)} (nd : (dkeys d).Nodup) : qD qE d d = true := by
  unfold qD
  rw [decide_eq_true rfl, Bool.true_and, List.all_eq_true]
  rintro ⟨k, v⟩ h
  show (match dlook d k with
    | some y => qE v y
    | none => false) = true
  rw [dlook_mem nd h]
  exact decide_eq_true rfl
end
def Asc (l : List Int) : Prop := l.Pairwise (· < ·)
theorem Asc.nodup {l : List Int} (h : Asc l) : l.Nodup := List.Pairwise.imp (fun h e => by omega) h
/-- what stands at a place -/
def vl (d : List (Int × Int)) (p : Int) : Int := (dlook d p).getD 0
/-- a book over the places ps -/
def Bk (ps : List Int) (d : List (Int × Int)) : Prop := (dkeys d).Sublist ps ∧ ∀ q ∈ d, 0 < q.2
theorem Bk.asc {ps : List Int} {d : List (Int × Int)} (h : Bk ps d) (hp : Asc ps) : Asc (dkeys d) := List.Pairwise.sublist h.1 hp
theorem Bk.len {ps : List Int} {d : List (Int × Int)} (h : Bk ps d) : d.length ≤ ps.length := by
  have := h.1.length_le
  unfold dkeys at this
  rwa [List.length_map] at this
theorem Bk.vl0 {ps : List Int} {d : List (Int × Int)} (h : Bk ps d) (p : Int) : 0 ≤ vl d p ∧ (0 < vl d p ↔ p ∈ dkeys d) := by
  unfold vl
  by_cases hp : p ∈ dkeys d
  · obtain ⟨v, h1, h2⟩ := dlook_isSome hp
    have := h.2 _ h2
    rw [h1]
    exact ⟨by show 0 ≤ v; simp at this; omega, fun _ => hp, fun _ => this⟩
  · rw [dlook_none hp]
    exact ⟨Int.le_refl _, fun h => absurd h (by decide), fun h => absurd h hp⟩
theorem filter_twice {α : Type} (c d : α → Bool) (h : ∀ x, d x = true → c x = true) (xs : List α) : (xs.filter c).filter d = xs.filter d := by
  rw [List.filter_filter]
  congr 1
  funext x
  cases hd : d x with
  | false => rfl
  | true => rw [h x hd]; rfl
/-- a step of the way through the places -/
def Up (ps r : List Int) (d : List (Int × Int)) : Prop := ∃ pre, ps = pre ++ r ∧ (dkeys d).Sublist pre ∧ ∀ q ∈ d, 0 < q.2
theorem Up.skip {ps r : List Int} {x : Int} {d : List (Int × Int)} (h : Up ps (x :: r) d) : Up ps r d := by
  obtain ⟨pre, e, h1, h2⟩ := h
  exact ⟨pre ++ [x], by rw [e]; simp, h1.trans (List.sublist_append_left _ _), h2⟩
theorem Up.put {ps r : List Int} {x v : Int} {d : List (Int × Int)} (hp : Asc ps) (hl : ps.length ≤ 100) (h : Up ps (x :: r) d) (hv : 0 < v) : dputO d x v = some (d ++ [(x, v)]) ∧ Up ps r (d ++ [(x, v)]) := by
  obtain ⟨pre, e, h1, h2⟩ := h
  have hx : x ∉ dkeys d := fun hm => by
    have nd := hp.nodup
    rw [e] at nd
    exact (List.nodup_append.mp nd).2.2 _ (h1.subset hm) x List.mem_cons_self rfl
  have l1 := h1.length_le
  have l2 : (dkeys d).length = d.length := List.length_map _
  have l3 := congrArg List.length e
  rw [List.length_append] at l3
  refine ⟨dputO_new hx (by omega), pre ++ [x], by rw [e]; simp, ?_, fun q hq => ?_⟩
  · rw [dkeys_app]
    exact List.Sublist.append h1 (List.Sublist.refl _)
  · rcases List.mem_append.mp hq with hq | hq
    · exact h2 q hq
    · rw [List.mem_singleton.mp hq]
      exact hv
theorem Up.bk {ps : List Int} {d : List (Int × Int)} (h : Up ps [] d) : Bk ps d := by
  obtain ⟨pre, e, h1, h2⟩ := h
  rw [List.append_nil] at e
  exact ⟨e ▸ h1, h2⟩
theorem up_nil (ps : List Int) : Up ps ps [] := ⟨[], rfl, List.Sublist.refl _, fun _ h => by cases h⟩
theorem cut_len {α : Type} (xs : List α) (a b : Option Int) : (cut xs a b).length ≤ xs.length := by
  unfold cut
  rw [List.length_take, List.length_drop]
  omega
theorem cut_out {α : Type} {xs : List α} {j : Nat} (h : j < xs.length) : (cut xs none (some (j : Int)) ++ cut xs (some ((j : Int) + 1)) none).length = xs.length - 1 := by
  unfold cut
  rw [HT.sIx_nat, show ((j : Int) + 1) = ((j + 1 : Nat) : Int) by omega, HT.sIx_nat, HT.sIx_none, HT.sIx_none]
  simp
  omega
theorem asc_shift {ps : List Int} (h : Asc ps) (u : Int) : Asc (ps.map (· + u)) := by
  unfold Asc
  rw [List.pairwise_map]
  exact List.Pairwise.imp (fun h => by omega) h
theorem dlook_dput {d : List (Int × Int)} {k x j : Int} : dlook (dput d k x) j = if k = j then some x else dlook d j := by
  by_cases hk : k ∈ dkeys d
  · have ha : (d.any fun p => decide (p.1 = k)) = true := by
      obtain ⟨v, hv⟩ := mem_dkeys.mp hk
      exact List.any_eq_true.mpr ⟨_, hv, decide_eq_true rfl⟩
    unfold dput
    rw [if_pos ha]
    have key : ∀ e : List (Int × Int), k ∈ dkeys e → dlook (e.map fun p => if p.1 = k then (p.1, x) else p) j = if k = j then some x else dlook e j := fun e => by
      induction e with
      | nil => intro h; cases h
      | cons q e ih =>
        intro h
        rw [List.map_cons, dlook_cons, dlook_cons]
        by_cases hq : q.1 = k
        · rw [if_pos hq]
          by_cases hj : k = j
          · rw [if_pos hj, if_pos (show q.1 = j by omega)]
          · rw [if_neg hj, if_neg (show ¬ q.1 = j by omega), if_neg (show ¬ q.1 = j by omega)]
            have key2 : ∀ e : List (Int × Int), dlook (e.map fun p => if p.1 = k then (p.1, x) else p) j = dlook e j := fun e => by
              induction e with
              | nil => rfl
              | cons r e ih2 =>
                rw [List.map_cons, dlook_cons, dlook_cons, ih2]
                by_cases hr : r.1 = k
                · rw [if_pos hr, if_neg (show ¬ r.1 = j by omega), if_neg (show ¬ r.1 = j by omega)]
                · rw [if_neg hr]
            exact key2 e
        · rw [if_neg hq]
          have h : k ∈ dkeys e := by
            rcases List.mem_cons.mp h with h | h
            · exact absurd h.symm hq
            · exact h
          rw [ih h]
          by_cases hj : q.1 = j
          · rw [if_pos hj, if_pos hj, if_neg (show ¬ k = j by omega)]
          · rw [if_neg hj, if_neg hj]
    exact key d hk
  · rw [dput_new hk]
    have key : ∀ e : List (Int × Int), k ∉ dkeys e → dlook (e ++ [(k, x)]) j = if k = j then some x else dlook e j := fun e => by
      induction e with
      | nil =>
        intro _
        rw [List.nil_append, dlook_cons]
      | cons q e ih =>
        intro h
        rw [List.cons_append, dlook_cons, dlook_cons, ih fun hm => h (List.mem_cons_of_mem _ hm)]
        have hq : ¬ q.1 = k := fun e => h (by rw [← e]; exact List.mem_cons_self)
        by_cases hj : q.1 = j
        · rw [if_pos hj, if_pos hj, if_neg (show ¬ k = j by omega)]
        · rw [if_neg hj, if_neg hj]
    exact key d hk
theorem dkeys_dput {d : List (Int × Int)} {k x : Int} : dkeys (dput d k x) = if k ∈ dkeys d then dkeys d else dkeys d ++ [k] := by
  by_cases hk : k ∈ dkeys d
  · have ha : (d.any fun p => decide (p.1 = k)) = true := by
      obtain ⟨v, hv⟩ := mem_dkeys.mp hk
      exact List.any_eq_true.mpr ⟨_, hv, decide_eq_true rfl⟩
    rw [if_pos hk]
    unfold dput
    rw [if_pos ha]
    unfold dkeys
    rw [List.map_map]
    refine List.map_congr_left fun p _ => ?_
    show (if p.1 = k then (p.1, x) else p).1 = p.1
    split <;> rfl
  · rw [if_neg hk, dput_new hk, dkeys_app]
    rfl
theorem nodup_dput {d : List (Int × Int)} {k x : Int} (h : (dkeys d).Nodup) : (dkeys (dput d k x)).Nodup := by
  rw [dkeys_dput]
  by_cases hk : k ∈ dkeys d
  · rw [if_pos hk]; exact h
  · rw [if_neg hk, List.nodup_append]
    refine ⟨h, by simp, fun a ha b hb => ?_⟩
    rw [List.mem_singleton.mp hb]
    exact fun e => hk (e ▸ ha)
/-- d is the map f, each key once -/
structure Dk (d : List (Int × Int)) (f : Int → Option Int) : Prop where
  nd : (dkeys d).Nodup
  at_ : ∀ k, dlook d k = f k
theorem Dk.keys {d : List (Int × Int)} {f : Int → Option Int} (h : Dk d f) (k : Int) : k ∈ dkeys d ↔ (f k).isSome = true := by
  rw [← h.at_ k]
  constructor
  · intro hk
    obtain ⟨v, hv, _⟩ := dlook_isSome hk
    rw [hv]; rfl
  · intro hk
    cases hd : dlook d k with
    | none => rw [hd] at hk; cases hk
    | some v => exact mem_dkeys.mpr ⟨v, dlook_in hd⟩
theorem Dk.len_eq {d e : List (Int × Int)} {f : Int → Option Int} (h : Dk d f) (g : Dk e f) : d.length = e.length := by
  have p := (List.perm_ext_iff_of_nodup h.nd g.nd).mpr fun k => by rw [h.keys, g.keys]
  have := p.length_eq
  unfold dkeys at this
  rwa [List.length_map, List.length_map] at this
theorem Dk.qD {d e : List (Int × Int)} {f : Int → Option Int} (h : Dk d f) (g : Dk e f) : qD qE d e = true := by
  unfold Z.qD
  rw [decide_eq_true (h.len_eq g), Bool.true_and, List.all_eq_true]
  rintro ⟨k, v⟩ hm
  have e1 : dlook e (k, v).1 = some v := by rw [g.at_, ← h.at_, dlook_mem h.nd hm]
  rw [e1]
  exact decide_eq_true rfl
theorem Dk.of {d : List (Int × Int)} (h : (dkeys d).Nodup) : Dk d (dlook d) := ⟨h, fun _ => rfl⟩
theorem Dk.to {d : List (Int × Int)} {f g : Int → Option Int} (h : Dk d f) (e : ∀ k, f k = g k) : Dk d g := ⟨h.nd, fun k => (h.at_ k).trans (e k)⟩
theorem Dk.put {d : List (Int × Int)} {f : Int → Option Int} (h : Dk d f) (k x : Int) : Dk (dput d k x) (fun j => if k = j then some x else f j) := ⟨nodup_dput h.nd, fun j => by rw [dlook_dput, h.at_]⟩
theorem Dk.nil {d : List (Int × Int)} (h : Dk d fun _ => none) : d = [] := by
  cases d with
  | nil => rfl
  | cons q d =>
    have := h.at_ q.1
    rw [dlook_cons, if_pos rfl] at this
    cases this
theorem Dk.vl {d : List (Int × Int)} {f : Int → Option Int} (h : Dk d f) (k : Int) : vl d k = (f k).getD 0 := by
  unfold Z.vl
  rw [h.at_]
theorem dk_nil : Dk [] fun _ => none := ⟨List.Pairwise.nil, fun _ => rfl⟩
/-- the places that c chooses, with v's values -/
def tb (c : Int → Bool) (v : Int → Int) (xs : List Int) : List (Int × Int) := (xs.filter c).map fun x => (x, v x)
theorem tb_keys (c : Int → Bool) (v : Int → Int) (xs : List Int) : dkeys (tb c v xs) = xs.filter c := by
  unfold dkeys tb
  rw [List.map_map]
  exact List.map_id' _
theorem tb_len (c : Int → Bool) (v : Int → Int) (xs : List Int) : (tb c v xs).length ≤ xs.length := by
  unfold tb
  rw [List.length_map]
  exact List.length_filter_le ..
theorem dlook_tb (c : Int → Bool) (v : Int → Int) (k : Int) : ∀ xs : List Int, dlook (tb c v xs) k = if k ∈ xs ∧ c k = true then some (v k) else none
  | [] => by rw [if_neg (by simp)]; rfl
  | x :: r => by
    have ih := dlook_tb c v k r
    unfold tb at ih ⊢
    by_cases hc : c x = true
    · rw [List.filter_cons_of_pos hc, List.map_cons, dlook_cons, ih]
      by_cases e : x = k
      · rw [if_pos e, ← e, if_pos ⟨List.mem_cons_self, hc⟩]
      · rw [if_neg e]
        by_cases hk : k ∈ r ∧ c k = true
        · rw [if_pos hk, if_pos ⟨List.mem_cons_of_mem _ hk.1, hk.2⟩]
        · rw [if_neg hk, if_neg fun h => hk ⟨(List.mem_cons.mp h.1).resolve_left fun z => e z.symm, h.2⟩]
    · rw [List.filter_cons_of_neg hc, ih]
      by_cases hk : k ∈ r ∧ c k = true
      · rw [if_pos hk, if_pos ⟨List.mem_cons_of_mem _ hk.1, hk.2⟩]
      · rw [if_neg hk, if_neg fun (h : k ∈ x :: r ∧ c k = true) => hk ⟨(List.mem_cons.mp h.1).resolve_left fun z => hc (by rw [← z]; exact h.2), h.2⟩]
theorem tb_dk {c : Int → Bool} {v : Int → Int} {xs : List Int} (h : xs.Nodup) : Dk (tb c v xs) fun k => if k ∈ xs ∧ c k = true then some (v k) else none := ⟨by rw [tb_keys]; exact List.Pairwise.sublist (List.filter_sublist ..) h, fun k => dlook_tb c v k xs⟩
theorem fold_tb {c : Int → Bool} {v : Int → Int} {f : List (Int × Int) → Int → Option (List (Int × Int))} : ∀ {xs : List Int} {b : List (Int × Int)}, xs.Nodup → (∀ x ∈ xs, x ∉ dkeys b) → b.length + xs.length ≤ 1000 →
    (∀ b x, x ∈ xs → x ∉ dkeys b → b.length ≤ 1000 → f b x = some (if c x = true then b ++ [(x, v x)] else b)) → foldO f b xs = some (b ++ tb c v xs)
  | [], b, _, _, _, _ => by
    show some b = _
    simp [tb]
  | x :: r, b, nd, hb, h1, hf => by
    obtain ⟨n1, n2⟩ := List.nodup_cons.mp nd
    rw [List.length_cons] at h1
    show bd (f b x) _ = _
    rw [hf b x List.mem_cons_self (hb x List.mem_cons_self) (by omega), bd_eq]
    have hf' := fun b y (hy : y ∈ r) => hf b y (List.mem_cons_of_mem _ hy)
    unfold tb
    by_cases hc : c x = true
    · rw [if_pos hc, fold_tb n2 (fun y hy => ?_) (by simp; omega) hf', List.filter_cons_of_pos hc, List.append_assoc]
      · rfl
      · rw [dkeys_app, List.mem_append]
        rintro (h | h)
        · exact hb y (List.mem_cons_of_mem _ hy) h
        · have e : y = x := by simpa [dkeys] using h
          exact n1 (e ▸ hy)
    · rw [if_neg hc, fold_tb n2 (fun y hy => hb y (List.mem_cons_of_mem _ hy)) (by omega) hf', List.filter_cons_of_neg hc]
      rfl
/-- dict comprehensions -/
theorem dcO_tb {tO : Int → Option Bool} {eO : Int → Option (Int × Int)} {c : Int → Bool} {v : Int → Int} : ∀ {xs : List Int} {b : List (Int × Int)}, xs.Nodup → (∀ x ∈ xs, x ∉ dkeys b) → (∀ x ∈ xs, tO x = some (c x)) → (∀ x ∈ xs, eO x = some (x, v x)) → dcO tO eO b xs = some (b ++ tb c v xs)
  | [], b, _, _, _, _ => by
    show some b = _
    simp [tb]
  | x :: r, b, nd, hb, h1, h2 => by
    obtain ⟨n1, n2⟩ := List.nodup_cons.mp nd
    show bd (tO x) _ = _
    rw [h1 x List.mem_cons_self, bd_eq, h2 x List.mem_cons_self]
    have g1 := fun y (hy : y ∈ r) => h1 y (List.mem_cons_of_mem _ hy)
    have g2 := fun y (hy : y ∈ r) => h2 y (List.mem_cons_of_mem _ hy)
    unfold tb
    by_cases hc : c x = true
    · rw [if_pos hc, bd_eq, dput_new (hb x List.mem_cons_self), dcO_tb n2 (fun y hy => ?_) g1 g2, List.filter_cons_of_pos hc, List.append_assoc]
      · rfl
      · rw [dkeys_app, List.mem_append]
        rintro (h | h)
        · exact hb y (List.mem_cons_of_mem _ hy) h
        · have e : y = x := by simpa [dkeys] using h
          exact n1 (e ▸ hy)
    · rw [if_neg hc, dcO_tb n2 (fun y hy => hb y (List.mem_cons_of_mem _ hy)) g1 g2, List.filter_cons_of_neg hc]
      rfl
theorem dcO_items {tO : Int × Int → Option Bool} {eO : Int × Int → Option (Int × Int)} {c : Int × Int → Bool} : ∀ {d b : List (Int × Int)}, (dkeys d).Nodup → (∀ x ∈ dkeys d, x ∉ dkeys b) → (∀ x ∈ d, tO x = some (c x)) → (∀ x ∈ d, eO x = some x) → dcO tO eO b d = some (b ++ d.filter c)
  | [], b, _, _, _, _ => by
    show some b = _
    simp
  | x :: r, b, nd, hb, h1, h2 => by
    obtain ⟨n1, n2⟩ := List.nodup_cons.mp nd
    show bd (tO x) _ = _
    rw [h1 x List.mem_cons_self, bd_eq, h2 x List.mem_cons_self]
    have g1 := fun y (hy : y ∈ r) => h1 y (List.mem_cons_of_mem _ hy)
    have g2 := fun y (hy : y ∈ r) => h2 y (List.mem_cons_of_mem _ hy)
    by_cases hc : c x = true
    · rw [if_pos hc, bd_eq, dput_new (hb x.1 List.mem_cons_self), dcO_items n2 (fun y hy => ?_) g1 g2, List.filter_cons_of_pos hc, List.append_assoc]
      · rfl
      · rw [dkeys_app, List.mem_append]
        rintro (h | h)
        · exact hb y (List.mem_cons_of_mem _ hy) h
        · have e : y = x.1 := by simpa [dkeys] using h
          exact n1 (show x.1 ∈ dkeys r by rw [← e]; exact hy)
    · rw [if_neg hc, dcO_items n2 (fun y hy => hb y (List.mem_cons_of_mem _ hy)) g1 g2, List.filter_cons_of_neg hc]
theorem filter_dk {d : List (Int × Int)} {f : Int → Option Int} (h : Dk d f) (c : Int × Int → Bool) : Dk (d.filter c) fun k => (f k).bind fun v => if c (k, v) = true then some v else none := by
  have nd : (dkeys (d.filter c)).Nodup := List.Pairwise.sublist (List.Sublist.map _ List.filter_sublist) h.nd
  refine ⟨nd, fun k => ?_⟩
  rw [← h.at_ k]
  cases hd : dlook d k with
  | none =>
    refine dlook_none fun hk => ?_
    obtain ⟨v, hv⟩ := mem_dkeys.mp hk
    have := dlook_mem h.nd (List.mem_filter.mp hv).1
    rw [hd] at this
    cases this
  | some v =>
    show _ = if c (k, v) = true then some v else none
    by_cases hc : c (k, v) = true
    · rw [if_pos hc]
      exact dlook_mem nd (List.mem_filter.mpr ⟨dlook_in hd, hc⟩)
    · rw [if_neg hc]
      refine dlook_none fun hk => ?_
      obtain ⟨u, hu⟩ := mem_dkeys.mp hk
      obtain ⟨h1, h2⟩ := List.mem_filter.mp hu
      have := dlook_mem h.nd h1
      rw [hd] at this
      cases this
      exact hc h2
theorem dmrg_dk {e : List (Int × Int)} (he : (dkeys e).Nodup) : ∀ {d : List (Int × Int)} {f : Int → Option Int}, Dk d f → Dk (dmrg d e) fun k => match dlook e k with
    | some v => some v
    | none => f k := by
  induction e with
  | nil => intro d f h; exact h
  | cons q e ih =>
    intro d f h
    obtain ⟨n1, n2⟩ := List.nodup_cons.mp he
    refine (ih n2 (h.put q.1 q.2)).to fun k => ?_
    rw [dlook_cons]
    by_cases hk : q.1 = k
    · rw [if_pos hk, if_pos hk, dlook_none (fun hm => n1 (show q.1 ∈ dkeys e by rw [hk]; exact hm))]
    · rw [if_neg hk, if_neg hk]
theorem dmrg_len (d e : List (Int × Int)) : (dmrg d e).length ≤ d.length + e.length := by
  induction e generalizing d with
  | nil => exact Nat.le_refl _
  | cons q e ih =>
    have h1 := ih (dput d q.1 q.2)
    have h2 := dput_len (d := d) (k := q.1) (y := q.2)
    show (dmrg (dput d q.1 q.2) e).length ≤ _
    rw [List.length_cons]
    omega
theorem rev_dk {d : List (Int × Int)} (h : (dkeys d).Nodup) : Dk d.reverse (dlook d) := by
  have nd : (dkeys d.reverse).Nodup := by
    unfold dkeys at h ⊢
    rw [List.map_reverse]
    exact (List.reverse_perm _).nodup_iff.mpr h
  refine ⟨nd, fun k => ?_⟩
  cases hd : dlook d k with
  | none =>
    refine dlook_none fun hk => ?_
    obtain ⟨v, hv⟩ := mem_dkeys.mp hk
    have := dlook_mem h (List.mem_reverse.mp hv)
    rw [hd] at this
    cases this
  | some v => exact dlook_mem nd (List.mem_reverse.mpr (dlook_in hd))
theorem cut_mem {α : Type} {xs : List α} {a b : Option Int} {x : α} (h : x ∈ cut xs a b) : x ∈ xs := List.mem_of_mem_drop (List.mem_of_mem_take h)
end Z

namespace Z
open PySem L2
/-! draws -/
def BoxOk (b : List Int) : Prop := ∃ a v k, b = [a, v, k]
theorem open_ok (xs : List Int) (i : Int) (h : 0 ≤ i) : ∃ b, M_l_open xs i = some b ∧ BoxOk b := by
  have key : ∀ c, ∃ b, K_l_open_4 c = some b ∧ BoxOk b := fun c => by
    unfold K_l_open_4
    split
    · exact ⟨_, rfl, _, _, _, rfl⟩
    · exact ⟨_, rfl, _, _, _, rfl⟩
  unfold M_l_open
  by_cases hi : i < (xs.length : Int)
  · obtain ⟨x, hx, _⟩ := ix_ok h hi
    rw [if_pos (decide_eq_true hi), hx]
    exact key x
  · rw [if_neg (by simpa using hi)]
    exact key 0
theorem take_ok {b : List Int} {n : Int} (hb : BoxOk b) (h0 : 0 < n) (h1 : n < 2 ^ 60) : ∃ r b', M_l_take b n = some (r, b') ∧ 0 ≤ r ∧ r < n ∧ BoxOk b' := by
  obtain ⟨a, v, k, rfl⟩ := hb
  have i0 : ix [a, v, k] 0 = some a := rfl
  have i1 : ix [a, v, k] 1 = some v := rfl
  have i2 : ix [a, v, k] 2 = some k := rfl
  unfold M_l_take
  simp only [i0, i1, i2, bd_eq, lt_eq, modO_eq h0, divO_eq h0 (show n < 2 ^ 64 by omega)]
  by_cases ha : a = 1
  · rw [if_pos (decide_eq_true ha), show stI [a, v, k] 1 (v / n) = some [a, v / n, k] from rfl]
    exact ⟨_, _, rfl, Int.emod_nonneg _ (by omega), Int.emod_lt_of_pos _ h0, _, _, _, rfl⟩
  · rw [if_neg (by simpa using ha), show stI [a, v, k] 2 (k + 1) = some [a, v, k + 1] from rfl]
    simp only [bd_eq, show ix [a, v, k + 1] 1 = some v from rfl]
    have b1 : ∀ z : Int, 0 ≤ z % 2147483647 ∧ z % 2147483647 < 2147483647 := fun z => ⟨Int.emod_nonneg _ (by decide), Int.emod_lt_of_pos _ (by decide)⟩
    have b2 : ∀ z : Int, 0 ≤ z % 2147483629 ∧ z % 2147483629 < 2147483629 := fun z => ⟨Int.emod_nonneg _ (by decide), Int.emod_lt_of_pos _ (by decide)⟩
    rw [mulO_eq (by have := b1 (v + 7919 * k + 13); omega)]
    simp only [bd_eq]
    rw [mulO_eq (by have := b2 ((v + 7919 * k + 13) % 2147483647 * ((v + 7919 * k + 13) % 2147483647 + 48271)); omega)]
    simp only [bd_eq]
    exact ⟨_, _, rfl, Int.emod_nonneg _ (by omega), Int.emod_lt_of_pos _ h0, _, _, _, rfl⟩
theorem is_book_eq (d : List (Int × Int)) : M_l_is_book d = some true := by
  unfold M_l_is_book
  rw [if_neg (by decide)]
  have key : ∀ ks : List Int, (∀ k ∈ ks, k ∈ dkeys d) → foldF (fun s x => B_l_is_book_4 d x) () ks = some (.nx ()) := fun ks => by
    induction ks with
    | nil => intro _; rfl
    | cons k ks ih =>
      intro hk
      obtain ⟨v, hv, _⟩ := dlook_isSome (hk k List.mem_cons_self)
      have st : B_l_is_book_4 d k = some (.nx ()) := by
        unfold B_l_is_book_4
        rw [if_neg (by decide), hv]
        simp only [bd_eq]
        rfl
      show bd (B_l_is_book_4 d k) _ = _
      rw [st, bd_eq]
      exact ih fun z hz => hk z (List.mem_cons_of_mem _ hz)
  rw [key _ fun k hk => hk, bd_eq]
  rfl
theorem neT : neO true = some false := rfl
theorem eqT : eqO true = some true := rfl
theorem asc_len : ∀ l : List Int, (asc l).length ≤ l.length
  | [] => Nat.le_refl _
  | x :: r => by
    have ih := asc_len r
    have : ∀ m : List Int, (insA x m).length ≤ m.length + 1 := fun m => by
      induction m with
      | nil => exact Nat.le_refl _
      | cons y m ih =>
        unfold insA
        split
        · simp
        · split
          · simp
          · simp only [List.length_cons]; omega
    have := this (asc r)
    show (insA x (asc r)).length ≤ _
    rw [List.length_cons]
    omega
theorem klen (d : List (Int × Int)) : (dkeys d).length = d.length := List.length_map _
theorem bk_look {ps : List Int} {d : List (Int × Int)} (h : Bk ps d) (k : Int) : dlook d k = if 0 < vl d k then some (vl d k) else none := by
  have h2 := (h.vl0 k).2
  by_cases hk : k ∈ dkeys d
  · obtain ⟨v, hv, _⟩ := dlook_isSome hk
    rw [if_pos (h2.mpr hk)]
    unfold vl
    rw [hv]
    rfl
  · rw [if_neg (fun h => hk (h2.mp h)), dlook_none hk]
theorem vl_out {d : List (Int × Int)} {k : Int} (h : k ∉ dkeys d) : vl d k = 0 := by
  unfold vl
  rw [dlook_none h]
  rfl
/-! copies -/
theorem copy_eq {d : List (Int × Int)} (nd : (dkeys d).Nodup) (hl : d.length ≤ 1000) : M_l_copy d = some d.reverse := by
  unfold M_l_copy
  simp only [lt_eq]
  have e : (dkeys d).reverse = dkeys d.reverse := by unfold dkeys; rw [List.map_reverse]
  rw [e]
  have key : ∀ (e b : List (Int × Int)), b ++ e = d.reverse → foldO (fun s x => B_l_copy_5 d s x) b (dkeys e) = some d.reverse := fun e => by
    induction e with
    | nil =>
      intro b hb
      rw [List.append_nil] at hb
      rw [hb]
      rfl
    | cons q e ih =>
      intro b hb
      have hq : q ∈ d := List.mem_reverse.mp (hb ▸ List.mem_append_right b List.mem_cons_self)
      have hk : q.1 ∉ dkeys b := by
        have := (rev_dk nd).nd
        rw [← hb, dkeys_app] at this
        exact fun hm => (List.nodup_append.mp this).2.2 _ hm q.1 List.mem_cons_self rfl
      have lb : b.length ≤ 1000 := by
        have := congrArg List.length hb
        rw [List.length_append, List.length_reverse] at this
        omega
      show bd (B_l_copy_5 d b q.1) _ = _
      have st : B_l_copy_5 d b q.1 = some (b ++ [q]) := by
        unfold B_l_copy_5
        rw [dlook_mem nd (show (q.1, q.2) ∈ d from hq), bd_eq, dputO_new hk lb, bd_eq]
      rw [st, bd_eq]
      exact ih (b ++ [q]) (by rw [List.append_assoc]; exact hb)
  rw [key d.reverse [] rfl, bd_eq]
  rfl
theorem vl_rev {d : List (Int × Int)} (h : (dkeys d).Nodup) (k : Int) : vl d.reverse k = vl d k := (rev_dk h).vl k
/-! changes -/
def chF (a b : List (Int × Int)) (k : Int) : Option Int := if vl a k ≠ vl b k then some (vl b k) else none
theorem unlike_eq {ps : List Int} (hp : Asc ps) (hl : ps.length ≤ 100) {a b : List (Int × Int)} (h0 : Bk ps a) (h1 : Bk ps b) : ∃ r, M_l_unlike a b ps = some r ∧ Dk r (chF a b) ∧ r.length ≤ 100 := by
  refine ⟨tb (fun x => decide (vl a x ≠ vl b x)) (vl b) ps, ?_, (tb_dk hp.nodup).to fun k => ?_, Nat.le_trans (tb_len ..) hl⟩
  · unfold M_l_unlike
    simp only [lt_eq]
    rw [fold_tb (c := fun x => decide (vl a x ≠ vl b x)) (v := vl b) hp.nodup (fun _ _ h => by cases h) (by simp; omega) (fun b' x hx hb l1 => ?_), bd_eq]
    · rfl
    · unfold B_l_unlike_5
      by_cases hc : vl a x ≠ vl b x
      · rw [if_pos (show decide ((dlook a x).getD 0 ≠ (dlook b x).getD 0) = true from decide_eq_true hc), dputO_new hb l1, bd_eq, if_pos (show decide (vl a x ≠ vl b x) = true from decide_eq_true hc)]
        rfl
      · rw [if_neg (show ¬ decide ((dlook a x).getD 0 ≠ (dlook b x).getD 0) = true from fun h => hc (of_decide_eq_true h)), if_neg (show ¬ decide (vl a x ≠ vl b x) = true from fun h => hc (of_decide_eq_true h))]
  · unfold chF
    by_cases hc : vl a k ≠ vl b k
    · rw [if_pos hc, if_pos]
      refine ⟨?_, decide_eq_true hc⟩
      refine Classical.byContradiction fun hk => hc ?_
      rw [vl_out fun h => hk (h0.1.subset h), vl_out fun h => hk (h1.1.subset h)]
    · rw [if_neg hc, if_neg fun h => hc (of_decide_eq_true h.2)]
theorem changes_eq {a b : List (Int × Int)} (l0 : a.length ≤ 300) (l1 : b.length ≤ 300) : ∃ r, M_changes a b = some r ∧ Dk r (chF a b) ∧ r.length ≤ 600 := by
  have k0 := klen a
  have k1 := klen b
  have al := asc_len (dkeys a ++ dkeys b)
  rw [List.length_append] at al
  refine ⟨tb (fun x => decide (vl a x ≠ vl b x)) (vl b) (asc (dkeys a ++ dkeys b)), ?_, (tb_dk (Asc.nodup (asc_lt _))).to fun k => ?_, Nat.le_trans (tb_len ..) (by omega)⟩
  · unfold M_changes M_ascending M_value_at
    rw [cat_eq (by omega), bd_eq, show setO (dkeys a ++ dkeys b) = some _ from if_pos (by rw [List.length_append]; omega), bd_eq, bd_eq]
    simp only [bd_eq]
    have hd := dcO_tb (tO := fun x => some (decide ((dlook a x).getD 0 ≠ (dlook b x).getD 0))) (eO := fun x => some (x, (dlook b x).getD 0)) (c := fun x => decide (vl a x ≠ vl b x)) (v := vl b) (xs := asc (dkeys a ++ dkeys b)) (b := []) (Asc.nodup (asc_lt _)) (fun _ _ h => by cases h) (fun _ _ => rfl) (fun _ _ => rfl)
    rw [hd, bd_eq]
    rfl
  · unfold chF
    by_cases hc : vl a k ≠ vl b k
    · rw [if_pos hc, if_pos]
      refine ⟨?_, decide_eq_true hc⟩
      rw [asc_mem, List.mem_append]
      refine Classical.byContradiction fun hk => hc ?_
      rw [vl_out fun h => hk (.inl h), vl_out fun h => hk (.inr h)]
    · rw [if_neg hc, if_neg fun h => hc (of_decide_eq_true h.2)]
/-! writes -/
def wwF (b w : List (Int × Int)) (k : Int) : Option Int := (match dlook w k with
  | some v => some v
  | none => dlook b k).bind fun v => if v ≠ 0 then some v else none
theorem writes_eq {b w : List (Int × Int)} (hb : (dkeys b).Nodup) (hw : (dkeys w).Nodup) (l0 : b.length ≤ 1000) (l1 : w.length ≤ 1000) : ∃ r, M_with_writes b w = some r ∧ Dk r (wwF b w) ∧ r.length ≤ 2000 := by
  have m0 : Dk (dmrg [] b) (dlook b) := (dmrg_dk hb dk_nil).to fun k => by cases dlook b k <;> rfl
  have m1 := dmrg_dk hw m0
  have n0 := dmrg_len [] b
  have n1 := dmrg_len (dmrg [] b) w
  simp only [List.length_nil] at n0
  refine ⟨(dmrg (dmrg [] b) w).filter fun q => decide (q.2 ≠ 0), ?_, (filter_dk m1 _).to fun k => ?_, Nat.le_trans (List.length_filter_le ..) (by omega)⟩
  · unfold M_with_writes M_cleaned
    rw [show dmrgO b w = some (dmrg (dmrg [] b) w) from if_pos (by omega), bd_eq, dcO_items (c := fun q => decide (q.2 ≠ 0)) m1.nd (fun _ _ h => by cases h) (fun _ _ => rfl) (fun _ _ => rfl), bd_eq, bd_eq]
    rfl
  · unfold wwF
    congr 1
    funext v
    by_cases hv : v ≠ 0
    · rw [if_pos hv, if_pos (decide_eq_true hv)]
    · rw [if_neg hv, if_neg fun h => hv (of_decide_eq_true h)]
theorem put_ok {d : List (Int × Int)} {k v : Int} (h : d.length ≤ 5000) : dputO d k v = some (dput d k v) := if_pos (by omega)
theorem leads_eq {ps : List Int} (hp : Asc ps) (hl : ps.length ≤ 100) (h201 : (201 : Int) ∉ ps) {a b : List (Int × Int)} (h0 : Bk ps a) (h1 : Bk ps b) : M_l_leads a b ps = some true := by
  have n0 := (h0.asc hp).nodup
  have n1 := (h1.asc hp).nodup
  have l0 := h0.len
  have l1 := h1.len
  have r0 := rev_dk n0
  have r1 := rev_dk n1
  have q0 : qD qE a.reverse a = true := r0.qD (Dk.of n0)
  have q1 : qD qE b.reverse b = true := r1.qD (Dk.of n1)
  obtain ⟨due, e1, d1, m1⟩ := unlike_eq hp hl h0 h1
  obtain ⟨told, e2, d2, m2⟩ := changes_eq (a := a.reverse) (b := b.reverse) (by rw [List.length_reverse]; omega) (by rw [List.length_reverse]; omega)
  have c2 : ∀ k, chF a.reverse b.reverse k = chF a b k := fun k => by unfold chF; rw [vl_rev n0, vl_rev n1]
  have q2 : qD qE told due = true := (d2.to c2).qD d1
  obtain ⟨same, e3, d3, m3⟩ := changes_eq (a := b.reverse) (b := b.reverse) (by rw [List.length_reverse]; omega) (by rw [List.length_reverse]; omega)
  have s3 : same = [] := (d3.to fun k => by unfold chF; exact if_neg fun h => h rfl).nil
  obtain ⟨back, e4, d4, m4⟩ := writes_eq r0.nd d2.nd (by rw [List.length_reverse]; omega) (by omega)
  have q4 : qD qE back b = true := (d4.to fun k => by
    unfold wwF
    rw [d2.at_, c2, r0.at_, bk_look h1 k, bk_look h0 k]
    have g0 := (h0.vl0 k).1
    have g1 := (h1.vl0 k).1
    unfold chF
    by_cases hc : vl a k ≠ vl b k
    · rw [if_pos hc]
      show (if vl b k ≠ 0 then some (vl b k) else none) = _
      by_cases hz : 0 < vl b k
      · rw [if_pos hz, if_pos (by omega)]
      · rw [if_neg hz, if_neg (by omega)]
    · rw [if_neg hc]
      have : vl a k = vl b k := Classical.byContradiction hc
      rw [this]
      by_cases hz : 0 < vl b k
      · rw [if_pos hz]
        show (if vl b k ≠ 0 then some (vl b k) else none) = _
        rw [if_pos (by omega)]
      · rw [if_neg hz]
        rfl).qD (Dk.of n1)
  obtain ⟨last, e5, d5, m5⟩ := changes_eq (a := dput a.reverse 201 4) (b := b.reverse) (by have := dput_len (d := a.reverse) (k := 201) (y := 4); rw [List.length_reverse] at this; omega) (by rw [List.length_reverse]; omega)
  have o0 : vl b 201 = 0 := vl_out fun h => h201 (h1.1.subset h)
  have q5 : qD qE last (dput due 201 0) = true := (d5.to fun k => by
    unfold chF
    rw [vl_rev n1, show vl (dput a.reverse 201 4) k = if (201 : Int) = k then 4 else vl a k from by
      unfold vl
      rw [dlook_dput, r0.at_]
      split <;> rfl]
    show _ = if (201 : Int) = k then some 0 else chF a b k
    by_cases hk : (201 : Int) = k
    · rw [if_pos hk, if_pos hk, ← hk, o0]
      rfl
    · rw [if_neg hk, if_neg hk]
      rfl).qD (d1.put 201 0)
  unfold M_l_leads
  rw [copy_eq n0 (by omega), bd_eq, copy_eq n1 (by omega), bd_eq, e1, bd_eq, e2, bd_eq]
  simp only [e2, e3, bd_eq, is_book_eq, Bool.not_true, Bool.false_eq_true, if_false, q0, q1, q2, q4, neT, eqT, s3, List.length_nil, put_ok (show told.length ≤ 5000 by omega), put_ok (show ([] : List (Int × Int)).length ≤ 5000 by decide), e4, put_ok (show back.length ≤ 5000 by omega), put_ok (show a.reverse.length ≤ 5000 by rw [List.length_reverse]; omega), put_ok (show due.length ≤ 5000 by omega), e5, q5]
  simp [bd_eq]
/-! writing -/
structure Wr (ps : List Int) (w : List (Int × Int)) : Prop where
  nd : (dkeys w).Nodup
  sub : ∀ k ∈ dkeys w, k ∈ ps
  pos : ∀ q ∈ w, 0 ≤ q.2
  len : w.length ≤ 100
/-- what is written, or what stood there -/
def ov (a w : List (Int × Int)) (k : Int) : Int := match dlook w k with
  | some v => v
  | none => vl a k
def afF (a w : List (Int × Int)) (k : Int) : Option Int := if 0 < ov a w k then some (ov a w k) else none
theorem after_eq {ps : List Int} (hp : Asc ps) (hl : ps.length ≤ 100) {a w : List (Int × Int)} (h0 : Bk ps a) (hw : Wr ps w) : ∃ r, M_l_after a w ps = some r ∧ Dk r (afF a w) ∧ r.length ≤ 100 := by
  refine ⟨tb (fun x => decide (0 < ov a w x)) (ov a w) ps, ?_, (tb_dk hp.nodup).to fun k => ?_, Nat.le_trans (tb_len ..) hl⟩
  · unfold M_l_after
    simp only [lt_eq]
    rw [fold_tb (c := fun x => decide (0 < ov a w x)) (v := ov a w) hp.nodup (fun _ _ h => by cases h) (by simp; omega) (fun b' x hx hb l1 => ?_), bd_eq]
    · rfl
    · have fin : K_l_after_18 b' x (ov a w x) = some (if decide (0 < ov a w x) = true then b' ++ [(x, ov a w x)] else b') := by
        unfold K_l_after_18
        by_cases hc : 0 < ov a w x
        · rw [if_pos (decide_eq_true hc), dputO_new hb l1, bd_eq, if_pos (decide_eq_true hc)]
        · rw [if_neg (by simpa using hc), if_neg (by simpa using hc)]
      unfold B_l_after_5
      simp only [lt_eq]
      rw [← fin]
      unfold ov
      cases hd : dlook w x with
      | none =>
        rw [if_neg (show ¬ (none : Option Int).isSome = true by simp), bd_eq]
        rfl
      | some v => rw [if_pos (show (some v).isSome = true from rfl), bd_eq, bd_eq]
  · unfold afF
    by_cases hc : 0 < ov a w k
    · rw [if_pos hc, if_pos]
      refine ⟨?_, decide_eq_true hc⟩
      refine Classical.byContradiction fun hk => ?_
      have e1 : dlook w k = none := dlook_none fun h => hk (hw.sub k h)
      have e2 : vl a k = 0 := vl_out fun h => hk (h0.1.subset h)
      unfold ov at hc
      rw [e1] at hc
      have hc : 0 < vl a k := hc
      omega
    · rw [if_neg hc, if_neg fun h => hc (of_decide_eq_true h.2)]
theorem ww_af {ps : List Int} {a w : List (Int × Int)} (h0 : Bk ps a) (hw : Wr ps w) (k : Int) : wwF a w k = afF a w k := by
  unfold wwF afF ov
  cases hd : dlook w k with
  | some v =>
    have hv := hw.pos _ (dlook_in hd)
    show (if v ≠ 0 then some v else none) = if 0 < v then some v else none
    by_cases hz : 0 < v
    · rw [if_pos hz, if_pos (by omega)]
    · rw [if_neg hz, if_neg (by simp at hv; omega)]
  | none =>
    rw [bk_look h0 k]
    show (if 0 < vl a k then some (vl a k) else none).bind _ = if 0 < vl a k then some (vl a k) else none
    by_cases hz : 0 < vl a k
    · rw [if_pos hz]
      show (if vl a k ≠ 0 then some (vl a k) else none) = _
      rw [if_pos (by omega)]
    · rw [if_neg hz]
      rfl
theorem ww_congr {a a' w w' : List (Int × Int)} (h : ∀ k, dlook a k = dlook a' k) (g : ∀ k, dlook w k = dlook w' k) (k : Int) : wwF a w k = wwF a' w' k := by
  unfold wwF
  rw [h, g]
theorem bk_nil (ps : List Int) : Bk ps [] := ⟨List.nil_sublist _, fun _ h => by cases h⟩
theorem wr_nil (ps : List Int) : Wr ps [] := ⟨List.Pairwise.nil, (fun _ h => by cases h), (fun _ h => by cases h), by decide⟩
theorem writing_eq {ps : List Int} (hp : Asc ps) (hl : ps.length ≤ 100) {a w : List (Int × Int)} (h0 : Bk ps a) (hw : Wr ps w) : M_l_writing a w ps = some true := by
  have n0 := (h0.asc hp).nodup
  have n1 := hw.nd
  have l0 := h0.len
  have l1 := hw.len
  have r0 := rev_dk n0
  have r1 := rev_dk n1
  have q0 : qD qE a.reverse a = true := r0.qD (Dk.of n0)
  have q1 : qD qE w.reverse w = true := r1.qD (Dk.of n1)
  obtain ⟨due, e1, d1, m1⟩ := after_eq hp hl h0 hw
  obtain ⟨told, e2, d2, m2⟩ := writes_eq r0.nd r1.nd (by rw [List.length_reverse]; omega) (by rw [List.length_reverse]; omega)
  have q2 : qD qE told due = true := (d2.to fun k => (ww_congr r0.at_ r1.at_ k).trans (ww_af h0 hw k)).qD d1
  obtain ⟨same, e3, d3, m3⟩ := writes_eq (w := []) r0.nd List.Pairwise.nil (by rw [List.length_reverse]; omega) (by decide)
  have q3 : qD qE same a = true := (d3.to fun k => by
    rw [ww_congr r0.at_ (fun _ => rfl) k, ww_af h0 (wr_nil ps) k, bk_look h0 k]
    rfl).qD (Dk.of n0)
  obtain ⟨alone, e4, d4, m4⟩ := writes_eq (b := []) List.Pairwise.nil r1.nd (by decide) (by rw [List.length_reverse]; omega)
  obtain ⟨due2, e5, d5, m5⟩ := after_eq hp hl (bk_nil ps) hw
  have q4 : qD qE alone due2 = true := (d4.to fun k => (ww_congr (fun _ => rfl) r1.at_ k).trans (ww_af (bk_nil ps) hw k)).qD d5
  unfold M_l_writing
  rw [copy_eq n0 (by omega), bd_eq, copy_eq n1 (by omega), bd_eq, e1, bd_eq, e2, bd_eq]
  simp only [e2, e3, e4, e5, bd_eq, is_book_eq, Bool.not_true, Bool.false_eq_true, if_false, q0, q1, q2, q3, q4, neT, eqT, put_ok (show told.length ≤ 5000 by omega), put_ok (show same.length ≤ 5000 by omega), put_ok (show alone.length ≤ 5000 by omega), put_ok (show a.reverse.length ≤ 5000 by rw [List.length_reverse]; omega), put_ok (show w.reverse.length ≤ 5000 by rw [List.length_reverse]; omega)]
/-! marks -/
theorem holds_eq (d m : List (Int × Int)) : M_holds d m = some (m.all fun q => decide (vl d q.1 = q.2)) := by
  unfold M_holds M_value_at
  simp only [bd_eq]
  rw [lcO_spec (c := fun _ => true) (e := fun q : Int × Int => decide ((dlook d q.1).getD 0 = q.2)) (fun _ _ => rfl) (fun _ _ _ => rfl), bd_eq, List.filter_eq_self.mpr (fun _ _ => rfl), List.all_map]
  rfl
theorem holds1_eq (d m : List (Int × Int)) : M_holds_1 d m = some (m.all fun q => decide (vl d q.1 = q.2)) := by
  unfold M_holds_1 M_value_at
  simp only [bd_eq]
  rw [lcO_spec (c := fun _ => true) (e := fun q : Int × Int => decide ((dlook d q.1).getD 0 = q.2)) (fun _ _ => rfl) (fun _ _ _ => rfl), bd_eq, List.filter_eq_self.mpr (fun _ _ => rfl), List.all_map]
  rfl
theorem holding_eq (d m : List (Int × Int)) {due : Bool} (h : (m.all fun q => decide (vl d q.1 = q.2)) = due) : M_l_holding d m due = some true := by
  unfold M_l_holding
  rw [holds_eq, holds1_eq, h, bd_eq, if_neg (by simp), bd_eq]
  simp
theorem choose_ok {b rows : List Int} {n : Int} (hb : BoxOk b) (hl : rows.length ≤ 1000) (h0 : 0 ≤ n) (h1 : n < 2 ^ 50) : ∃ ys b', M_l_choose b rows n = some (ys, b') ∧ ys.length ≤ rows.length ∧ (∀ y ∈ ys, y ∈ rows) ∧ BoxOk b' := by
  unfold M_l_choose
  simp only [lt_eq]
  rw [rngO_eq (by unfold rngOk; omega), bd_eq]
  obtain ⟨z, e1, g1, g2, g3, g4, g5⟩ := foldO_rng (f := fun s x => B_l_choose_9 s.1 s.2.1 s.2.2 x) (lo := 0) (hi := min n (rows.length : Int)) (fun k s => BoxOk s.1 ∧ (s.2.1.length : Int) = rows.length - k ∧ (s.2.2.length : Int) = k ∧ (∀ y ∈ s.2.1, y ∈ rows) ∧ ∀ y ∈ s.2.2, y ∈ rows) (fun k s h1 h2 ⟨g1, g2, g3, g4, g5⟩ => by
    unfold B_l_choose_9
    obtain ⟨a, b2, e2, a0, a1, o2⟩ := take_ok g1 (n := (s.2.1.length : Int)) (by omega) (by omega)
    obtain ⟨x, hx, hx2⟩ := ix_ok (xs := s.2.1) a0 a1
    obtain ⟨j, rfl⟩ : ∃ j : Nat, a = j := ⟨a.toNat, by omega⟩
    have c1 := cut_out (xs := s.2.1) (j := j) (by omega)
    rw [List.length_append] at c1
    rw [e2, bd_eq]
    simp only
    rw [hx, bd_eq, app_eq (by omega), bd_eq, cat_eq (by omega), bd_eq]
    refine ⟨_, rfl, o2, ?_, ?_, fun y hy => ?_, fun y hy => ?_⟩
    · show ((_ ++ _ : List Int).length : Int) = _
      rw [List.length_append, c1]
      omega
    · show ((_ ++ _ : List Int).length : Int) = _
      rw [List.length_append, List.length_singleton]
      omega
    · rcases List.mem_append.mp hy with hy | hy <;> exact g4 y (cut_mem hy)
    · rcases List.mem_append.mp hy with hy | hy
      · exact g5 y hy
      · rw [List.mem_singleton.mp hy]
        exact g4 x (List.mem_of_getElem? hx2)) (b, rows, []) ⟨hb, by simp, by simp, fun _ h => h, fun _ h => by cases h⟩ (by omega)
  rw [e1, bd_eq]
  exact ⟨_, _, rfl, by omega, g5, g1⟩
theorem choose1_ok {b : List Int} {rows : List (Int × Int)} {n : Int} (hb : BoxOk b) (hl : rows.length ≤ 1000) (h0 : 0 ≤ n) (h1 : n < 2 ^ 50) : ∃ ys b', M_l_choose_1 b rows n = some (ys, b') ∧ ys.length ≤ rows.length ∧ (∀ y ∈ ys, y ∈ rows) ∧ BoxOk b' := by
  unfold M_l_choose_1
  simp only [lt_eq]
  rw [rngO_eq (by unfold rngOk; omega), bd_eq]
  obtain ⟨z, e1, g1, g2, g3, g4, g5⟩ := foldO_rng (f := fun s x => B_l_choose_1_9 s.1 s.2.1 s.2.2 x) (lo := 0) (hi := min n (rows.length : Int)) (fun k s => BoxOk s.1 ∧ (s.2.1.length : Int) = rows.length - k ∧ (s.2.2.length : Int) = k ∧ (∀ y ∈ s.2.1, y ∈ rows) ∧ ∀ y ∈ s.2.2, y ∈ rows) (fun k s h1 h2 ⟨g1, g2, g3, g4, g5⟩ => by
    unfold B_l_choose_1_9
    obtain ⟨a, b2, e2, a0, a1, o2⟩ := take_ok g1 (n := (s.2.1.length : Int)) (by omega) (by omega)
    obtain ⟨x, hx, hx2⟩ := ix_ok (xs := s.2.1) a0 a1
    obtain ⟨j, rfl⟩ : ∃ j : Nat, a = j := ⟨a.toNat, by omega⟩
    have c1 := cut_out (xs := s.2.1) (j := j) (by omega)
    rw [List.length_append] at c1
    rw [e2, bd_eq]
    simp only
    rw [hx, bd_eq, app_eq (by omega), bd_eq, cat_eq (by omega), bd_eq]
    refine ⟨_, rfl, o2, ?_, ?_, fun y hy => ?_, fun y hy => ?_⟩
    · show ((_ ++ _ : List (Int × Int)).length : Int) = _
      rw [List.length_append, c1]
      omega
    · show ((_ ++ _ : List (Int × Int)).length : Int) = _
      rw [List.length_append, List.length_singleton]
      omega
    · rcases List.mem_append.mp hy with hy | hy <;> exact g4 y (cut_mem hy)
    · rcases List.mem_append.mp hy with hy | hy
      · exact g5 y hy
      · rw [List.mem_singleton.mp hy]
        exact g4 x (List.mem_of_getElem? hx2)) (b, rows, []) ⟨hb, by simp, by simp, fun _ h => h, fun _ h => by cases h⟩ (by omega)
  rw [e1, bd_eq]
  exact ⟨_, _, rfl, by omega, g5, g1⟩
/-- the marks hold but the one at j, which holds where it says so -/
theorem all_spoilt {d m : List (Int × Int)} (hm : ∀ q ∈ m, vl d q.1 = q.2) (a b c e : Option Int) (p o v : Int) (hv : vl d p = v) : ((cut m a b ++ [(p, o)] ++ cut m c e).all fun q => decide (vl d q.1 = q.2)) = decide (o = v) := by
  rw [List.all_append, List.all_append, List.all_eq_true.mpr fun q hq => decide_eq_true (hm q (cut_mem hq)), List.all_eq_true.mpr fun q hq => decide_eq_true (hm q (cut_mem hq))]
  simp only [Bool.true_and, Bool.and_true, List.all_cons, List.all_nil, hv]
  exact decide_eq_decide.mpr eq_comm
theorem telling_eq {b ps : List Int} {d : List (Int × Int)} (hb : BoxOk b) (hl : ps.length ≤ 100) (nd : (dkeys d).Nodup) (ld : d.length ≤ 100) (h203 : (203 : Int) ∉ ps) : ∃ b', M_l_telling b d ps = some (true, b') ∧ BoxOk b' := by
  have r0 := rev_dk nd
  have vr : ∀ k, vl d.reverse k = vl d k := vl_rev nd
  unfold M_l_telling
  rw [copy_eq nd (by omega), bd_eq, cat_eq (by rw [List.length_singleton]; omega), bd_eq]
  have k1 : ∀ xs : List Int, foldF (fun s x => B_l_telling_7 b d d.reverse x) () xs = some (.nx ()) := fun xs => by
    induction xs with
    | nil => rfl
    | cons x xs ih =>
      show bd (B_l_telling_7 b d d.reverse x) _ = _
      have st : B_l_telling_7 b d d.reverse x = some (.nx ()) := by
        unfold B_l_telling_7 M_value_at
        rw [bd_eq, if_neg]
        have := vr x
        unfold vl at this
        simp [this]
      rw [st, bd_eq]
      exact ih
  rw [k1, bd_eq]
  show ∃ b', K_l_telling_7 b d ps d.reverse = _ ∧ _
  unfold K_l_telling_7
  rw [cat_eq (by rw [List.length_singleton]; omega), bd_eq, lcO_spec (c := fun _ => true) (e := fun x => (x, (dlook d x).getD 0)) (fun _ _ => rfl) (fun _ _ _ => rfl), bd_eq, List.filter_eq_self.mpr (fun _ _ => rfl)]
  have lt1 : ((ps ++ [200]).map fun x => (x, (dlook d x).getD 0)).length = ps.length + 1 := by simp
  obtain ⟨m, b2, e2, lm, sm, o2⟩ := choose1_ok (rows := (ps ++ [200]).map fun x => (x, (dlook d x).getD 0)) (n := (((ps ++ [200]).map fun x => (x, (dlook d x).getD 0)).length : Int)) hb (by omega) (by omega) (by omega)
  have hm : ∀ q ∈ m, vl d.reverse q.1 = q.2 := fun q hq => by
    obtain ⟨x, hx, rfl⟩ := List.mem_map.mp (sm q hq)
    exact vr x
  have hk : ∀ q ∈ m, q.1 ≠ 203 := fun q hq => by
    obtain ⟨x, hx, rfl⟩ := List.mem_map.mp (sm q hq)
    rcases List.mem_append.mp hx with hx | hx
    · exact fun e => h203 (e ▸ hx)
    · rw [List.mem_singleton.mp hx]
      exact (show (200 : Int) ≠ 203 by decide)
  have am : (m.all fun q => decide (vl d.reverse q.1 = q.2)) = true := List.all_eq_true.mpr fun q hq => decide_eq_true (hm q hq)
  rw [e2, bd_eq]
  simp only
  rw [holding_eq _ m am, bd_eq]
  simp only [Bool.not_true, Bool.false_eq_true, if_false]
  rw [holding_eq d.reverse [] (due := true) rfl, bd_eq, bd_eq]
  simp only [Bool.not_true, Bool.false_eq_true, if_false]
  rw [rngO_eq (by unfold rngOk; omega), bd_eq]
  have k2 : ∀ x : Int, 0 ≤ x → x < m.length → B_l_telling_40 d.reverse (m, b2) x = some (.nx ()) := fun x h0 h1 => by
    obtain ⟨q, hq, hq2⟩ := ix_ok h0 h1
    have hv := hm q (List.mem_of_getElem? hq2)
    unfold B_l_telling_40
    simp only
    rw [hq, bd_eq, bd_eq]
    simp only [lt_eq]
    have k3 : ∀ o : Int, B_l_telling_65 d.reverse (m, b2) x q q o = some (.nx ()) := fun o => by
      have c1 := cut_len m none (some x)
      have c2 := cut_len m (some (x + 1)) none
      have al := all_spoilt hm none (some x) (some (x + 1)) none q.1 o q.2 hv
      unfold B_l_telling_65
      simp only
      rw [cat_eq (by rw [List.length_singleton]; omega), bd_eq, cat_eq (by rw [List.length_append, List.length_singleton]; omega), bd_eq, holds_eq, al, bd_eq, if_neg (by simp), holding_eq _ _ al, bd_eq]
      simp only [Bool.not_true, Bool.false_eq_true, if_false]
      rw [holding_eq d.reverse [(q.1, o)] (by simp only [List.all_cons, List.all_nil, Bool.and_true, hv]; exact decide_eq_decide.mpr eq_comm), bd_eq, bd_eq]
      simp only [Bool.not_true, Bool.false_eq_true, if_false]
      rw [holding_eq d.reverse [(q.1, o), (q.1, q.2)] (by simp only [List.all_cons, List.all_nil, Bool.and_true, hv, decide_true]; exact decide_eq_decide.mpr eq_comm), bd_eq]
      simp only [Bool.not_true, Bool.false_eq_true, if_false]
      rw [holding_eq d.reverse [(q.1, q.2), (q.1, o)] (by simp only [List.all_cons, List.all_nil, Bool.and_true, Bool.true_and, hv, decide_true]; exact decide_eq_decide.mpr eq_comm), bd_eq]
      simp only [Bool.not_true, Bool.false_eq_true, if_false]
    have k4 : ∀ xs : List Int, foldF (fun s o => B_l_telling_65 d.reverse (m, b2) x q q o) () xs = some (.nx ()) := fun xs => by
      induction xs with
      | nil => rfl
      | cons o xs ih =>
        show bd (B_l_telling_65 d.reverse (m, b2) x q q o) _ = _
        rw [k3, bd_eq]
        exact ih
    rw [k4, bd_eq]
    rfl
  have k5 : ∀ xs : List Int, (∀ x ∈ xs, 0 ≤ x ∧ x < m.length) → foldF (fun s x => B_l_telling_40 d.reverse (m, b2) x) () xs = some (.nx ()) := fun xs => by
    induction xs with
    | nil => intro _; rfl
    | cons x xs ih =>
      intro h
      show bd (B_l_telling_40 d.reverse (m, b2) x) _ = _
      obtain ⟨g0, g1⟩ := h x List.mem_cons_self
      rw [k2 x g0 g1, bd_eq]
      exact ih fun y hy => h y (List.mem_cons_of_mem _ hy)
  rw [k5 _ fun x hx => by
    unfold rng at hx
    obtain ⟨k, hk, rfl⟩ := List.mem_map.mp hx
    have := List.mem_range.mp hk
    omega, bd_eq]
  show ∃ b', K_l_telling_40 d d.reverse (m, b2) = _ ∧ _
  unfold K_l_telling_40
  rw [r0.qD (Dk.of nd), neT, bd_eq]
  simp only [Bool.false_eq_true, if_false]
  rw [put_ok (by rw [List.length_reverse]; omega), bd_eq]
  have p0 : vl (dput d.reverse 203 6) 203 = 6 := by unfold vl; rw [dlook_dput, if_pos rfl]; rfl
  have p1 : ∀ k, k ≠ 203 → vl (dput d.reverse 203 6) k = vl d.reverse k := fun k hk => by unfold vl; rw [dlook_dput, if_neg (Ne.symm hk)]
  rw [show M_value_at (dput d.reverse 203 6) 203 = some 6 from congrArg some p0, bd_eq, if_pos (show decide ((6 : Int) = 6) = true by decide), cat_eq (by rw [List.length_singleton]; omega), bd_eq]
  rw [holding_eq _ _ (due := true) (by
    rw [List.all_append, List.all_eq_true.mpr fun q hq => decide_eq_true ((p1 q.1 (hk q hq)).trans (hm q hq))]
    simp only [Bool.true_and, List.all_cons, List.all_nil, Bool.and_true, p0]
    decide), bd_eq, bd_eq]
  exact ⟨b2, rfl, o2⟩
/-! what is drawn -/
theorem value_ok {b : List Int} (hb : BoxOk b) : ∃ v b', M_l_value b = some (v, b') ∧ 0 ≤ v ∧ BoxOk b' := by
  unfold M_l_value
  obtain ⟨r, b1, e1, _, _, o1⟩ := take_ok hb (n := 8) (by decide) (by decide)
  rw [e1, bd_eq]
  simp only
  by_cases h7 : r = 7
  · obtain ⟨v, b2, e2, v0, _, o2⟩ := take_ok o1 (n := 10000) (by decide) (by decide)
    rw [if_pos (decide_eq_true h7), e2, bd_eq]
    exact ⟨_, _, rfl, v0, o2⟩
  · obtain ⟨v, b2, e2, v0, _, o2⟩ := take_ok o1 (n := 8) (by decide) (by decide)
    rw [if_neg (by simpa using h7), e2, bd_eq]
    exact ⟨_, _, rfl, Int.le_max_left _ _, o2⟩
theorem first_ok {b ps : List Int} (hb : BoxOk b) (hp : Asc ps) (hl : ps.length ≤ 100) : ∃ d b', M_l_first b ps = some (d, b') ∧ Bk ps d ∧ BoxOk b' := by
  unfold M_l_first
  simp only [lt_eq]
  obtain ⟨z, e1, g1, g2⟩ := foldO_spec (f := fun s x => B_l_first_6 s.1 s.2 x) (fun r s => BoxOk s.1 ∧ Up ps r s.2) (fun x r s ⟨g1, g2⟩ => by
    unfold B_l_first_6
    obtain ⟨v, b2, e2, v0, o2⟩ := value_ok g1
    rw [e2, bd_eq]
    simp only
    by_cases hv : 0 < v
    · obtain ⟨k1, k2⟩ := g2.put hp hl hv
      rw [if_pos (decide_eq_true hv), k1, bd_eq]
      exact ⟨_, rfl, o2, k2⟩
    · rw [if_neg (by simpa using hv)]
      exact ⟨_, rfl, o2, g2.skip⟩) ps (b, []) ⟨hb, up_nil ps⟩
  rw [e1, bd_eq]
  exact ⟨_, _, rfl, g2.bk, g1⟩
theorem second_ok {b ps : List Int} {base : List (Int × Int)} (hb : BoxOk b) (hp : Asc ps) (hl : ps.length ≤ 100) : ∃ d b', M_l_second b base ps = some (d, b') ∧ Bk ps d ∧ BoxOk b' := by
  unfold M_l_second
  simp only [lt_eq]
  obtain ⟨z, e1, g1, g2⟩ := foldO_spec (f := fun s x => B_l_second_6 base s.1 s.2 x) (fun r s => BoxOk s.1 ∧ Up ps r s.2) (fun x r s ⟨g1, g2⟩ => by
    unfold B_l_second_6
    simp only [lt_eq]
    obtain ⟨a, b2, e2, a0, a1, o2⟩ := take_ok g1 (n := 4) (by decide) (by decide)
    rw [e2, bd_eq]
    have fin : ∀ (b3 : List Int) (v : Int), BoxOk b3 → ∃ s', K_l_second_37 s.2 x b3 v = some s' ∧ BoxOk s'.1 ∧ Up ps r s'.2 := fun b3 v o3 => by
      unfold K_l_second_37
      by_cases hv : 0 < v
      · obtain ⟨k1, k2⟩ := g2.put hp hl hv
        rw [if_pos (decide_eq_true hv), k1, bd_eq]
        exact ⟨_, rfl, o3, k2⟩
      · rw [if_neg (by simpa using hv)]
        exact ⟨_, rfl, o3, g2.skip⟩
    have fin2 : ∀ (b3 : List Int) (v : Int), BoxOk b3 → ∃ s', K_l_second_26 s.2 x (a, b2) b3 v = some s' ∧ BoxOk s'.1 ∧ Up ps r s'.2 := fun b3 v o3 => by
      unfold K_l_second_26
      by_cases hc : a = 3
      · rw [if_pos (decide_eq_true hc), bd_eq]
        exact fin _ _ o3
      · rw [if_neg (by simpa using hc), bd_eq]
        exact fin _ _ o3
    by_cases hc : a = 2
    · obtain ⟨c, b3, e3, c0, o3⟩ := value_ok o2
      rw [if_pos (decide_eq_true hc), e3, bd_eq, bd_eq]
      exact fin2 _ _ o3
    · rw [if_neg (by simpa using hc), bd_eq]
      exact fin2 _ _ o2) ps (b, []) ⟨hb, up_nil ps⟩
  rw [e1, bd_eq]
  exact ⟨_, _, rfl, g2.bk, g1⟩
theorem Wr.put {ps : List Int} {w : List (Int × Int)} {k v : Int} (nd : (dkeys w).Nodup) (sub : ∀ k ∈ dkeys w, k ∈ ps) (pos : ∀ q ∈ w, 0 ≤ q.2) (hk : k ∈ ps) (hv : 0 ≤ v) : (dkeys (dput w k v)).Nodup ∧ (∀ j ∈ dkeys (dput w k v), j ∈ ps) ∧ ∀ q ∈ dput w k v, 0 ≤ q.2 := by
  have nd' : (dkeys (dput w k v)).Nodup := nodup_dput nd
  refine ⟨nd', fun j hj => ?_, fun q hq => ?_⟩
  · rw [dkeys_dput] at hj
    by_cases h : k ∈ dkeys w
    · rw [if_pos h] at hj
      exact sub j hj
    · rw [if_neg h] at hj
      rcases List.mem_append.mp hj with hj | hj
      · exact sub j hj
      · rw [List.mem_singleton.mp hj]
        exact hk
  · have := dlook_mem nd' (show (q.1, q.2) ∈ dput w k v from hq)
    rw [dlook_dput] at this
    by_cases h : k = q.1
    · rw [if_pos h] at this
      cases this
      exact hv
    · rw [if_neg h] at this
      exact pos (q.1, q.2) (dlook_in this)
theorem wanted_ok {b ps : List Int} {d : List (Int × Int)} (hb : BoxOk b) (hl : ps.length ≤ 60) (h0 : Bk ps d) : ∃ w b', M_l_wanted b d ps = some (w, b') ∧ Wr ps w ∧ BoxOk b' := by
  unfold M_l_wanted
  simp only [lt_eq]
  obtain ⟨c, b1, e1, c0, c1, o1⟩ := take_ok hb (n := (ps.length : Int) + 1) (by omega) (by omega)
  obtain ⟨ys, b2, e2, ly, sy, o2⟩ := choose_ok (rows := ps) (n := c) o1 (by omega) c0 (by omega)
  rw [e1, bd_eq]
  simp only
  rw [e2, bd_eq]
  obtain ⟨z, e3, g1, g2, g3, g4, g5⟩ := foldO_spec (f := fun s x => B_l_wanted_8 d s.1 s.2 x) (fun r s => BoxOk s.1 ∧ (dkeys s.2).Nodup ∧ (∀ k ∈ dkeys s.2, k ∈ ps) ∧ (∀ q ∈ s.2, 0 ≤ q.2) ∧ (∀ y ∈ r, y ∈ ps)) (fun x r s ⟨g1, g2, g3, g4, g5⟩ => by
    unfold B_l_wanted_8
    have lw : ∀ w : List (Int × Int), (dkeys w).Nodup → (∀ k ∈ dkeys w, k ∈ ps) → w.length ≤ 60 := fun w nd sub => by
      have := (List.subset_def.mpr fun hk => sub _ hk : dkeys w ⊆ ps)
      have := nd.length_le_of_subset this
      rw [klen] at this
      omega
    have hx := g5 x List.mem_cons_self
    obtain ⟨a, b3, e4, _, _, o3⟩ := take_ok g1 (n := 4) (by decide) (by decide)
    obtain ⟨p1, p2, p3⟩ := Wr.put (v := 0) g2 g3 g4 hx (by decide)
    rw [e4, bd_eq]
    simp only
    rw [put_ok (by have := lw _ g2 g3; omega), bd_eq]
    have fin : ∀ w : List (Int × Int), (dkeys w).Nodup → (∀ k ∈ dkeys w, k ∈ ps) → (∀ q ∈ w, 0 ≤ q.2) → ∃ s', K_l_wanted_25 x (a, b3) w = some s' ∧ BoxOk s'.1 ∧ (dkeys s'.2).Nodup ∧ (∀ k ∈ dkeys s'.2, k ∈ ps) ∧ (∀ q ∈ s'.2, 0 ≤ q.2) ∧ (∀ y ∈ r, y ∈ ps) := fun w nd sub pos => by
      have hr := fun y hy => g5 y (List.mem_cons_of_mem _ hy)
      unfold K_l_wanted_25
      by_cases hc : 1 < a
      · obtain ⟨v, b4, e5, v0, o4⟩ := value_ok o3
        obtain ⟨t1, t2, t3⟩ := Wr.put nd sub pos hx v0
        rw [if_pos (decide_eq_true hc), e5, bd_eq, put_ok (by have := lw _ nd sub; omega), bd_eq]
        exact ⟨_, rfl, o4, t1, t2, t3, hr⟩
      · rw [if_neg (by simpa using hc)]
        exact ⟨_, rfl, o3, nd, sub, pos, hr⟩
    by_cases hc : a = 1
    · obtain ⟨t1, t2, t3⟩ := Wr.put p1 p2 p3 hx (show 0 ≤ (dlook d x).getD 0 from (h0.vl0 x).1)
      rw [if_pos (decide_eq_true hc), put_ok (by have := lw _ p1 p2; omega), bd_eq, bd_eq]
      exact fin _ t1 t2 t3
    · rw [if_neg (by simpa using hc), bd_eq]
      exact fin _ p1 p2 p3) ys (b2, []) ⟨o2, List.Pairwise.nil, (fun _ h => by cases h), (fun _ h => by cases h), sy⟩
  simp only
  rw [e3, bd_eq]
  refine ⟨_, _, rfl, ⟨g2, g3, g4, ?_⟩, g1⟩
  have := g2.length_le_of_subset (List.subset_def.mpr fun hk => g3 _ hk : dkeys z.2 ⊆ ps)
  rw [klen] at this
  omega
theorem places_ok {b : List Int} {n : Nat} (hb : BoxOk b) (h : n ≤ 12) : ∃ ps b', M_l_places b (n : Int) = some (ps, b') ∧ Asc ps ∧ ps.length = n ∧ (∀ p ∈ ps, p < 200) ∧ BoxOk b' := by
  unfold M_l_places
  obtain ⟨r, b1, e1, r0, r1, o1⟩ := take_ok hb (n := 3) (by decide) (by decide)
  simp only [lt_eq]
  rw [e1, bd_eq, rngO_eq (by unfold rngOk; omega), bd_eq]
  obtain ⟨z, h1, h2⟩ := foldO_rng (f := fun s x => B_l_places_11 s.1 s.2.1 s.2.2 x) (lo := 0) (hi := (n : Int)) (fun k s => BoxOk s.1 ∧ Asc s.2.1 ∧ s.2.1.length = k.toNat ∧ (∀ x ∈ s.2.1, x ≤ s.2.2) ∧ s.2.2 ≤ 1 + 11 * k) (fun k s h1 h2 ⟨g1, g2, g3, g4, g5⟩ => by
    unfold B_l_places_11
    obtain ⟨a, b2, e2, a0, a1, o2⟩ := take_ok g1 (n := 2) (by decide) (by decide)
    rw [e2, bd_eq]
    simp only [lt_eq]
    obtain ⟨c, b3, e3, c0, c1, o3⟩ := take_ok o2 (n := 6) (by decide) (by decide)
    rw [e3, bd_eq]
    have fin : ∀ t : Int, 0 < t → t ≤ 11 → ∃ s', K_l_places_33 s.2.1 s.2.2 b3 t = some s' ∧ BoxOk s'.1 ∧ Asc s'.2.1 ∧ s'.2.1.length = (k + 1).toNat ∧ (∀ x ∈ s'.2.1, x ≤ s'.2.2) ∧ s'.2.2 ≤ 1 + 11 * (k + 1) := fun t ht ht2 => by
      unfold K_l_places_33
      simp only [lt_eq]
      rw [app_eq (by omega), bd_eq]
      refine ⟨_, rfl, o3, ?_, by simp; omega, fun x hx => ?_, by show s.2.2 + t ≤ _; omega⟩
      · refine List.pairwise_append.mpr ⟨g2, List.pairwise_singleton _ _, fun x hx y hy => ?_⟩
        have := g4 x hx
        rw [List.mem_singleton.mp hy]
        omega
      · rcases List.mem_append.mp hx with hx | hx
        · have := g4 x hx
          show x ≤ s.2.2 + t
          omega
        · rw [List.mem_singleton.mp hx]
          exact Int.le_refl _
    by_cases hc : c = 0
    · rw [if_pos (decide_eq_true hc)]
      simp only [bd_eq]
      exact fin _ (by omega) (by omega)
    · rw [if_neg (by simpa using hc)]
      simp only [bd_eq]
      exact fin _ (by omega) (by omega)) (b1, [], r - 1) ⟨o1, List.Pairwise.nil, rfl, (fun _ h => by cases h), by show r - 1 ≤ 1 + 11 * 0; omega⟩ (by omega)
  rw [h1, bd_eq]
  obtain ⟨g1, g2, g3, g4, g5⟩ := h2
  exact ⟨_, _, rfl, g2, by rw [g3]; omega, fun p hp => by have := g4 p hp; omega, g1⟩
theorem large_ok {b : List Int} (hb : BoxOk b) : ∃ b', M_l_large b = some (true, b') := by
  unfold M_l_large
  obtain ⟨f, b1, e1, f0, f1, o1⟩ := take_ok hb (n := 8) (by decide) (by decide)
  obtain ⟨c, b2, e2, c0, c1, o2⟩ := take_ok o1 (n := 41) (by decide) (by decide)
  rw [e1, bd_eq]
  simp only
  rw [e2, bd_eq]
  simp only
  rw [rngO_eq (by unfold rngOk; omega), bd_eq, lcO_spec (c := fun _ => true) (e := fun x => f + 3 * x) (fun _ _ => rfl) (fun _ _ _ => rfl), bd_eq, List.filter_eq_self.mpr (fun _ _ => rfl)]
  have hp : Asc ((rng 0 (20 + c)).map fun x => f + 3 * x) := by
    unfold Asc rng
    rw [List.map_map, List.pairwise_map]
    refine List.Pairwise.imp (fun {a b} h => ?_) List.pairwise_lt_range
    show f + 3 * (0 + (a : Int)) < f + 3 * (0 + (b : Int))
    omega
  have hlt : ∀ p ∈ (rng 0 (20 + c)).map (fun x => f + 3 * x), p < 200 := fun p hp => by
    obtain ⟨x, hx, rfl⟩ := List.mem_map.mp hp
    unfold rng at hx
    obtain ⟨k, hk, rfl⟩ := List.mem_map.mp hx
    have := List.mem_range.mp hk
    omega
  have hl : ((rng 0 (20 + c)).map fun x => f + 3 * x).length ≤ 60 := by
    rw [List.length_map, rng_len]
    omega
  generalize (rng 0 (20 + c)).map (fun x => f + 3 * x) = ps at hp hlt hl
  obtain ⟨d0, b3, e3, k0, o3⟩ := first_ok o2 hp (by omega)
  obtain ⟨d1, b4, e4, k1, o4⟩ := second_ok (base := d0) o3 hp (by omega)
  have n201 : (201 : Int) ∉ ps := fun h => by have := hlt _ h; omega
  rw [e3, bd_eq]
  simp only
  rw [e4, bd_eq]
  simp only
  rw [leads_eq hp (by omega) n201 k0 k1, bd_eq]
  simp only [Bool.not_true, Bool.false_eq_true, if_false]
  rw [leads_eq hp (by omega) n201 k1 k0, bd_eq, bd_eq]
  simp only [Bool.not_true, Bool.false_eq_true, if_false]
  obtain ⟨ys, b5, e5, l5, s5, o5⟩ := choose_ok (rows := ps) (n := 20) o4 (by omega) (by decide) (by decide)
  rw [e5, bd_eq]
  simp only
  obtain ⟨b6, e6, _⟩ := telling_eq (ps := ys) (d := d1) o5 (by omega) (k1.asc hp).nodup (by have := k1.len; omega) (fun h => by have := hlt _ (s5 _ h); omega)
  rw [e6, bd_eq]
  exact ⟨_, rfl⟩
theorem law_true (ns : List Int) (hl : ns.length ≤ 63) : M_law ns = some true := by
  unfold M_law
  obtain ⟨b0, e0, o0⟩ := open_ok ns 0 (by decide)
  obtain ⟨c, b1, e1, c0, c1, o1⟩ := take_ok o0 (n := 13) (by decide) (by decide)
  obtain ⟨n, rfl⟩ : ∃ n : Nat, c = n := ⟨c.toNat, by omega⟩
  obtain ⟨ps, b2, e2, hp, lp, hlt, o2⟩ := places_ok (n := n) o1 (by omega)
  obtain ⟨t, b3, e3, _, _, o3⟩ := take_ok o2 (n := 3) (by decide) (by decide)
  rw [e0, bd_eq, e1, bd_eq]
  simp only
  rw [e2, bd_eq]
  simp only
  rw [e3, bd_eq]
  simp only
  have main : ∀ qs : List Int, Asc qs → qs.length ≤ 60 → (∀ p ∈ qs, p < 200 ∨ p = 255) → K_law_11 ns b3 qs = some true := fun qs hq lq hb => by
    have n201 : (201 : Int) ∉ qs := fun h => by have := hb _ h; omega
    have n203 : (203 : Int) ∉ qs := fun h => by have := hb _ h; omega
    obtain ⟨d0, x0, f0, k0, _⟩ := first_ok o3 hq (by omega)
    obtain ⟨y1, q1, u1⟩ := open_ok ns 1 (by decide)
    obtain ⟨d1, x1, f1, k1, _⟩ := second_ok (base := d0) u1 hq (by omega)
    obtain ⟨y2, q2, u2⟩ := open_ok ns 2 (by decide)
    obtain ⟨w, x2, f2, hw, _⟩ := wanted_ok u2 lq k0
    obtain ⟨y3, q3, u3⟩ := open_ok ns 3 (by decide)
    obtain ⟨z1, g1, v1⟩ := telling_eq (ps := qs) (d := d0) u3 (by omega) (k0.asc hq).nodup (by have := k0.len; omega) n203
    obtain ⟨z2, g2, v2⟩ := telling_eq (ps := qs) (d := d1) v1 (by omega) (k1.asc hq).nodup (by have := k1.len; omega) n203
    obtain ⟨y4, q4, u4⟩ := open_ok ns 4 (by decide)
    obtain ⟨r, y5, q5, _, _, u5⟩ := take_ok u4 (n := 8) (by decide) (by decide)
    obtain ⟨y6, q6⟩ := large_ok u5
    have a1 := leads_eq hq (by omega) n201 k0 k1
    have a2 := leads_eq hq (by omega) n201 k1 k0
    have a3 := leads_eq hq (by omega) n201 k0 k0
    have a4 := leads_eq hq (by omega) n201 (bk_nil qs) k1
    have a5 := writing_eq hq (by omega) k0 hw
    have a6 := writing_eq hq (by omega) k1 hw
    unfold K_law_11
    rw [f0, bd_eq, q1, bd_eq]
    simp only [f1, bd_eq, q2, f2, a1, a2, a3, a4, a5, a6, Bool.not_true, Bool.false_eq_true, if_false, q3, g1, g2, q4, q5, q6]
    by_cases hr : r < 7
    · rw [if_pos (decide_eq_true hr), bd_eq]
    · rw [if_neg (by simpa using hr), bd_eq]
  by_cases ht : t = 2
  · rw [if_pos (decide_eq_true ht), app_eq (by omega), bd_eq, bd_eq]
    refine main _ ?_ (by rw [List.length_append, List.length_singleton]; omega) fun p hp' => ?_
    · refine List.pairwise_append.mpr ⟨hp, List.pairwise_singleton _ _, fun x hx y hy => ?_⟩
      have := hlt x hx
      rw [List.mem_singleton.mp hy]
      omega
    · rcases List.mem_append.mp hp' with h | h
      · exact .inl (hlt p h)
      · exact .inr (List.mem_singleton.mp h)
  · rw [if_neg (by simpa using ht), bd_eq]
    exact main ps hp (by omega) fun p h => .inl (hlt p h)
end Z

set_option pp.maxSteps 100
namespace Z
open PySem PySem.Spec L2
def topS (i : Nat) : Stmt := PySem.Challenge.pw_forkedshelves_k01_changes_lead_back.main.body.getD i (.Pass ⟨0, 0, 0, 0⟩)
structure Blt (mg : Str → Option Value) : Prop where
  all : mg "all" = none
  bool : mg "bool" = none
  dict : mg "dict" = none
  int : mg "int" = none
  isinstance : mg "isinstance" = none
  len : mg "len" = none
  list : mg "list" = none
  max : mg "max" = none
  min : mg "min" = none
  range : mg "range" = none
  reversed : mg "reversed" = none
  set : mg "set" = none
  sorted : mg "sorted" = none
  tuple : mg "tuple" = none
section
variable {P : Program} {w : World} {K : PySem.W.Frag} {mg : Str → Option Value} {base : Heap}
abbrev s_l_open : Stmt := topS 9
theorem sc_l_open : FnScope ["_law_script", "_law_at", "_law_cell"] ["_law_script", "_law_at"] (defScope s_l_open) := ⟨rfl, rfl, rfl, by decide +kernel, rfl, by decide +kernel, by decide +kernel⟩
def sp_l_open (K : PySem.W.Frag) : Sp := fun vs H Q _ => ∃ (F0 : Hp) (Os0 : Owns) (x_script : (List Int)) (x_at : Int) (v_script : V) (v_at : V) (res : (List Int)), vs = [v_script, v_at] ∧ Wf F0 (Os0) H ∧ (rScr K).r F0 v_script x_script ∧ rInt.r F0 v_at x_at ∧ M_l_open x_script x_at = some res ∧ ∀ p F' H', Same F0 F' → Wf F' ((p, (oList rInt) res) :: Os0) H' → Q (.ref p) H'
theorem ok_l_open {f : Addr} {fd : FuncData} (T : FT K mg "_law_open" s_l_open ["_law_script", "_law_at"] f fd) (B : Blt mg) : FnOk P w K mg base CX0 1 f fd ["_law_script", "_law_at"] (sp_l_open K) := by
  refine T.fn.ok sc_l_open (fun vs H Q E h => ?_) (fun cdv A outer s H vs Q E hr h => ?_)
  · obtain ⟨_, _, _, _, _, _, _, rfl, _⟩ := h
    rfl
  · obtain ⟨F0, Os0, x_script, x_at, v_script, v_at, res, rfl, w0, r_script, r_at, h, kQ⟩ := h
    have nd := sc_l_open.nd
    refine ⟨_, pss_w, ?_⟩
    unfold M_l_open at h
    show Ws _ _ _ [some v_script, some v_at, none] _
    refine ws_set (n := 2) (W := rInt.v) w0 (ev_int) nd (fun v1 F2 H2 s2 w2 r1 => ?_)
    show Ws _ _ _ [some v_script, some v_at, some v1] _
    obtain ⟨y4, hy4, hk4⟩ := bd_some h
    refine ws_j (fun (sg : L2.St) (Hm : Hp) => ∃ (Fm : Hp) (x_cell5 : Int) (v6 : V) , sg = [some v_script, some v_at, some v6] ∧ Same F2 Fm ∧ Wf Fm (Os0) Hm ∧ rInt.r Fm v6 x_cell5 ∧ x_cell5 = y4) (w1_if w2 (et_cmp cp_lt (ev_var (n := 1) (W := rInt.v) rfl r_at) (ev_lenS (ev_var (n := 0) (W := (rScr K).v) rfl ((rScr K).mono s2 r_script)) B.len)) (fun hb3 F7 H7 s7 w7 => ?_) (fun hb3 F7 H7 s7 w7 => ?_)) ?_
    · skip
      have h := (if_some hy4).1 hb3
      obtain ⟨t8, et8, h⟩ := bd_some h
      refine ws_set (n := 2) (W := rInt.v) w7 ((ev_ixS et8 (ev_var (n := 0) (W := (rScr K).v) rfl ((rScr K).mono (s2.trans s7) r_script)) (ev_var (n := 1) (W := rInt.v) rfl r_at))) nd (fun v9 F10 H10 s10 w10 r9 => ?_)
      show Ws _ _ _ [some v_script, some v_at, some v9] _
      refine ws_nil ?_
      exact ⟨F10, t8, v9, rfl, (s7.trans s10), w10, r9, Option.some.inj h⟩
    · skip
      have h := (if_some hy4).2 hb3
      refine ws_nil ?_
      exact ⟨F7, 0, v1, rfl, s7, w7, r1, Option.some.inj h⟩
    · skip
      rintro _ H11 ⟨F11, x_cell5, v6, rfl, s11, w11, r12, rfl⟩
      have h := hk4
      have h : K_l_open_4 x_cell5 = some _ := h
      unfold K_l_open_4 at h
      refine ws_if w11 (et_cmp cp_ge (ev_var (n := 2) (W := rInt.v) rfl r12) (Ev.eq (x' := 1000000000000000000) (ev_pow ev_int ev_int ⟨by decide, by decide, by decide⟩) (by decide))) (fun hb13 F14 H14 s14 w14 => ?_) (fun hb13 F14 H14 s14 w14 => ?_)
      · skip
        have h := (if_some h).1 hb13
        obtain rfl := Option.some.inj h
        refine ws_retN (O := (oList rInt) _) w14 (evn_list (el_cons ev_int (el_cons (ev_sub (ev_var (n := 2) (W := rInt.v) rfl r12) (Ev.eq (x' := 1000000000000000000) (ev_pow ev_int ev_int ⟨by decide, by decide, by decide⟩) (by decide))) (el_cons ev_int el_nil))) (by exact (show 3 ≤ 16777216 by decide))) (fun pz Fz Hz sz wz => ?_)
        exact kQ _ _ _ ((s2.trans (s11.trans s14)).trans sz) wz
      · skip
        have h := (if_some h).2 hb13
        refine ws_nil ?_
        obtain rfl := Option.some.inj h
        refine ws_retN (O := (oList rInt) _) w14 (evn_list (el_cons ev_int (el_cons (ev_var (n := 2) (W := rInt.v) rfl r12) (el_cons ev_int el_nil))) (by exact (show 3 ≤ 16777216 by decide))) (fun pz Fz Hz sz wz => ?_)
        exact kQ _ _ _ ((s2.trans (s11.trans s14)).trans sz) wz
abbrev s_l_take : Stmt := topS 10
theorem sc_l_take : FnScope ["_law_box", "_law_size", "_law_drawn", "_law_k", "_law_mixed"] ["_law_box", "_law_size"] (defScope s_l_take) := ⟨rfl, rfl, rfl, by decide +kernel, rfl, by decide +kernel, by decide +kernel⟩
def sp_l_take (K : PySem.W.Frag) : Sp := fun vs H Q _ => ∃ (F0 : Hp) (Os0 : Owns) (x_box : (List Int)) (x_size : Int) (a_box : Addr) (v_size : V) (res : Int) (b_box : (List Int)), vs = [.ref a_box, v_size] ∧ Wf F0 ((a_box, (oList rInt) x_box) :: Os0) H ∧ rInt.r F0 v_size x_size ∧ M_l_take x_box x_size = some (res, b_box) ∧ ∀ v F' H', Same F0 F' → Wf F' ((a_box, (oList rInt) b_box) :: Os0) H' → rInt.r F' v res → Q v H'
theorem ok_l_take {f : Addr} {fd : FuncData} (T : FT K mg "_law_take" s_l_take ["_law_box", "_law_size"] f fd) (B : Blt mg) : FnOk P w K mg base CX0 1 f fd ["_law_box", "_law_size"] (sp_l_take K) := by
  refine T.fn.ok sc_l_take (fun vs H Q E h => ?_) (fun cdv A outer s H vs Q E hr h => ?_)
  · obtain ⟨_, _, _, _, _, _, _, _, rfl, _⟩ := h
    rfl
  · obtain ⟨F0, Os0, x_box, x_size, a_box, v_size, res, b_box, rfl, w0, r_size, h, kQ⟩ := h
    have nd := sc_l_take.nd
    refine ⟨_, pss_w, ?_⟩
    unfold M_l_take at h
    show Ws _ _ _ [some (.ref a_box), some v_size, none, none, none] _
    obtain ⟨t1, et1, h⟩ := bd_some h
    refine ws_if w0 (et_cmp cp_eq (ev_ixL et1 (ev_var (n := 0) (W := (vOf (oList rInt))) rfl (vOf.own (i := 0) rfl)) ev_int) ev_int) (fun hb2 F3 H3 s3 w3 => ?_) (fun hb2 F3 H3 s3 w3 => ?_)
    · skip
      have h := (if_some h).1 hb2
      obtain ⟨t4, et4, h⟩ := bd_some h
      obtain ⟨t5, et5, h⟩ := bd_some h
      refine ws_set (n := 2) (W := rInt.v) w3 ((ev_modO et5 (ev_intI (ev_ixL et4 (ev_var (n := 0) (W := (vOf (oList rInt))) rfl (vOf.own (i := 0) rfl)) ev_int) B.int) (ev_var (n := 1) (W := rInt.v) rfl r_size))) nd (fun v6 F7 H7 s7 w7 r6 => ?_)
      show Ws _ _ _ [some (.ref a_box), some v_size, some v6, none, none] _
      obtain ⟨t8, et8, h⟩ := bd_some h
      obtain ⟨t9, et9, h⟩ := bd_some h
      obtain ⟨x_box10, ex_box10, h⟩ := bd_some h
      refine ws_stL (n := 0) (R := rInt) w7 (ev_divO et9 (ev_intI (ev_ixL et8 (ev_var (n := 0) (W := (vOf (oList rInt))) rfl (vOf.own (i := 0) rfl)) ev_int) B.int) (ev_var (n := 1) (W := rInt.v) rfl r_size)) (ev_var (n := 0) (W := (rIs (.ref a_box)).v) (x := ()) rfl rfl) ev_int rfl ex_box10 (fun F11 H11 s11 w11 => ?_)
      obtain ⟨rfl, rfl⟩ := pair_inj h
      refine ws_ret (W := rInt.v) w11 (ev_var (n := 2) (W := rInt.v) rfl r6) (fun vz Fz Hz sz wz rz => ?_)
      exact kQ _ _ _ ((s3.trans (s7.trans s11)).trans sz) wz rz
    · skip
      have h := (if_some h).2 hb2
      refine ws_nil ?_
      obtain ⟨t12, et12, h⟩ := bd_some h
      refine ws_set (n := 3) (W := rInt.v) w3 ((ev_ixL et12 (ev_var (n := 0) (W := (vOf (oList rInt))) rfl (vOf.own (i := 0) rfl)) ev_int)) nd (fun v13 F14 H14 s14 w14 r13 => ?_)
      show Ws _ _ _ [some (.ref a_box), some v_size, none, some v13, none] _
      obtain ⟨x_box15, ex_box15, h⟩ := bd_some h
      refine ws_stL (n := 0) (R := rInt) w14 (ev_add (ev_var (n := 3) (W := rInt.v) rfl r13) ev_int) (ev_var (n := 0) (W := (rIs (.ref a_box)).v) (x := ()) rfl rfl) ev_int rfl ex_box15 (fun F16 H16 s16 w16 => ?_)
      obtain ⟨t17, et17, h⟩ := bd_some h
      obtain ⟨x_mixed18, ex_mixed18, h⟩ := lt_some h
      refine ws_set (n := 4) (W := rInt.v) w16 (Ev.eq (ev_mod (ev_intI (ev_add (ev_add (ev_ixL et17 (ev_var (n := 0) (W := (vOf (oList rInt))) rfl (vOf.own (i := 0) rfl)) ev_int) (ev_mul ev_int (ev_var (n := 3) (W := rInt.v) rfl r13) (.inl ⟨by decide, by decide⟩))) ev_int) B.int) ev_int (by decide)) ex_mixed18) nd (fun v19 F20 H20 s20 w20 r19 => ?_)
      show Ws _ _ _ [some (.ref a_box), some v_size, none, some v13, some v19] _
      obtain ⟨t21, et21, h⟩ := bd_some h
      obtain ⟨x_mixed22, ex_mixed22, h⟩ := lt_some h
      refine ws_set (n := 4) (W := rInt.v) w20 (Ev.eq (ev_mod (ev_intI (ev_mulO et21 (ev_var (n := 4) (W := rInt.v) rfl r19) (ev_add (ev_var (n := 4) (W := rInt.v) rfl r19) ev_int)) B.int) ev_int (by decide)) ex_mixed22) nd (fun v23 F24 H24 s24 w24 r23 => ?_)
      show Ws _ _ _ [some (.ref a_box), some v_size, none, some v13, some v23] _
      obtain ⟨t25, et25, h⟩ := bd_some h
      obtain ⟨x_mixed26, ex_mixed26, h⟩ := lt_some h
      refine ws_set (n := 4) (W := rInt.v) w24 (Ev.eq (ev_mod (ev_intI (ev_add (ev_mulO et25 (ev_var (n := 4) (W := rInt.v) rfl r23) (ev_add (ev_var (n := 4) (W := rInt.v) rfl r23) ev_int)) (ev_mul ev_int (ev_var (n := 3) (W := rInt.v) rfl r13) (.inl ⟨by decide, by decide⟩))) B.int) ev_int (by decide)) ex_mixed26) nd (fun v27 F28 H28 s28 w28 r27 => ?_)
      show Ws _ _ _ [some (.ref a_box), some v_size, none, some v13, some v27] _
      obtain ⟨t29, et29, h⟩ := bd_some h
      obtain ⟨rfl, rfl⟩ := pair_inj h
      refine ws_ret (W := rInt.v) w28 (ev_modO et29 (ev_intI (ev_div (ev_var (n := 4) (W := rInt.v) rfl r27) ev_int ⟨by decide, by decide +kernel⟩) B.int) (ev_var (n := 1) (W := rInt.v) rfl r_size)) (fun vz Fz Hz sz wz rz => ?_)
      exact kQ _ _ _ ((s3.trans (s14.trans (s16.trans (s20.trans (s24.trans s28))))).trans sz) wz rz
abbrev s_l_places : Stmt := topS 12
theorem sc_l_places : FnScope ["_law_box", "_law_count", "_law_places_here", "_law_last", "_law_k", "_law_step"] ["_law_box", "_law_count"] (defScope s_l_places) := ⟨rfl, rfl, rfl, by decide +kernel, rfl, by decide +kernel, by decide +kernel⟩
def sp_l_places (K : PySem.W.Frag) : Sp := fun vs H Q _ => ∃ (F0 : Hp) (Os0 : Owns) (x_box : (List Int)) (x_count : Int) (a_box : Addr) (v_count : V) (res : (List Int)) (b_box : (List Int)), vs = [.ref a_box, v_count] ∧ Wf F0 ((a_box, (oList rInt) x_box) :: Os0) H ∧ rInt.r F0 v_count x_count ∧ M_l_places x_box x_count = some (res, b_box) ∧ ∀ p F' H', Same F0 F' → Wf F' ((p, (oList rInt) res) :: (a_box, (oList rInt) b_box) :: Os0) H' → Q (.ref p) H'
theorem ok_l_places {f : Addr} {fd : FuncData} {f_l_take : Addr} {d_l_take : FuncData} (T : FT K mg "_law_places" s_l_places ["_law_box", "_law_count"] f fd) (B : Blt mg) (T_l_take : FT K mg "_law_take" s_l_take ["_law_box", "_law_size"] f_l_take d_l_take) (G_l_take : FnOk P w K mg base CX0 1 f_l_take d_l_take ["_law_box", "_law_size"] (sp_l_take K)) : FnOk P w K mg base CX0 2 f fd ["_law_box", "_law_count"] (sp_l_places K) := by
  refine T.fn.ok sc_l_places (fun vs H Q E h => ?_) (fun cdv A outer s H vs Q E hr h => ?_)
  · obtain ⟨_, _, _, _, _, _, _, _, rfl, _⟩ := h
    rfl
  · obtain ⟨F0, Os0, x_box, x_count, a_box, v_count, res, b_box, rfl, w0, r_count, h, kQ⟩ := h
    have nd := sc_l_places.nd
    refine ⟨_, pss_w, ?_⟩
    unfold M_l_places at h
    show Ws _ _ _ [some (.ref a_box), some v_count, none, none, none, none] _
    obtain ⟨x_places_here1, ex_places_here1, h⟩ := lt_some h
    refine ws_setN (n := 2) (O := (oList rInt) x_places_here1) w0 (EvN.eqO (O := (oList rInt)) (evn_list el_nil (by exact (show 0 ≤ 16777216 by decide))) ex_places_here1) nd (fun p_places_here2 F3 H3 s3 w3 => ?_)
    have w4 := w3.back (i := 1)
    show Ws _ _ _ [some (.ref a_box), some v_count, some (.ref p_places_here2), none, none, none] _
    obtain ⟨t5, et5, h⟩ := bd_some h
    obtain ⟨x_last6, ex_last6, h⟩ := lt_some h
    refine ws_set (n := 3) (W := rInt.v) w4 (Ev.eq (ev_sub (ev_call (U := rInt.v) (Os2 := ((a_box, (oList rInt) t5.2) :: (p_places_here2, (oList rInt) x_places_here1) :: Os0)) G_l_take (hr.mono (by decide)) T_l_take.gm T_l_take.fn.kp T_l_take.bi pass0 (ea_cons (ev_var (n := 0) (W := (rIs (.ref a_box)).v) (x := ()) rfl rfl) (ea_cons ev_int ea_nil)) (fun F' Os' H' vs Q w hv q => by obtain ⟨u0, _, rfl, q0, u1, _, rfl, q1, rfl, rfl⟩ := hv; cases q0; exact ⟨F', _, x_box, 3, a_box, u1, t5.1, t5.2, rfl, w, q1, et5, fun v F2 H2 s2 w r => by exact q v F2 H2 s2 w r⟩)) ev_int) ex_last6) nd (fun v7 F8 H8 s8 w8 r7 => ?_)
    show Ws _ _ _ [some (.ref a_box), some v_count, some (.ref p_places_here2), some v7, none, none] _
    obtain ⟨rg9, erg9, h⟩ := bd_some h
    obtain ⟨z11, hz11, hk11⟩ := bd_some h
    refine ws_j (fun (sg : L2.St) (Hm : Hp) => ∃ (Fm : Hp) (x_box18 : (List Int)) (x_places_here19 : (List Int)) (x_last20 : Int) (v21 : V) (o22 : Option V) (o23 : Option V) , sg = [some (.ref a_box), some v_count, some (.ref p_places_here2), some v21, o22, o23] ∧ Same F8 Fm ∧ Wf Fm ((a_box, (oList rInt) x_box18) :: (p_places_here2, (oList rInt) x_places_here19) :: Os0) Hm ∧ rInt.r Fm v21 x_last20 ∧ (x_box18, x_places_here19, x_last20) = z11) (w1_forR1 (n := 4) erg9 w8 (ev_var (n := 1) (W := rInt.v) rfl r_count) nd (fun F10 H10 s10 w10 => ?_) PassesOwn.never B.range) ?_
    · skip
      refine ⟨(fun (rr : List Int) (sg : L2.St) (Hm : Hp) => ∃ (Fm : Hp) (x_box12 : (List Int)) (x_places_here13 : (List Int)) (x_last14 : Int) (v15 : V) (o16 : Option V) (o17 : Option V) , sg = [some (.ref a_box), some v_count, some (.ref p_places_here2), some v15, o16, o17] ∧ Same F10 Fm ∧ Wf Fm ((a_box, (oList rInt) x_box12) :: (p_places_here2, (oList rInt) x_places_here13) :: Os0) Hm ∧ rInt.r Fm v15 x_last14 ∧ foldO (fun s x => B_l_places_11 s.1 s.2.1 s.2.2 x) (x_box12, x_places_here13, x_last14) rr = some z11), ⟨F10, t5.2, x_places_here1, x_last6, v7, none, none, rfl, (Same.refl _), w10, r7, hz11⟩, ?_, ?_⟩
      · skip
        rintro x24 rr _ H25 ⟨F25, x_box12, x_places_here13, x_last14, v15, o16, o17, rfl, s25, w25, r26, hz11⟩
        obtain ⟨y11, hy11, hz11⟩ := foldO_some hz11
        have h : B_l_places_11 x_box12 x_places_here13 x_last14 x24 = some _ := hy11
        unfold B_l_places_11 at h
        show Ws _ _ _ [some (.ref a_box), some v_count, some (.ref p_places_here2), some v15, some (.int x24), o17] _
        obtain ⟨t27, et27, h⟩ := bd_some h
        obtain ⟨x_step28, ex_step28, h⟩ := lt_some h
        refine ws_set (n := 5) (W := rInt.v) w25 (Ev.eq (ev_add ev_int (ev_call (U := rInt.v) (Os2 := ((a_box, (oList rInt) t27.2) :: (p_places_here2, (oList rInt) x_places_here13) :: Os0)) G_l_take (hr.mono (by decide)) T_l_take.gm T_l_take.fn.kp T_l_take.bi pass0 (ea_cons (ev_var (n := 0) (W := (rIs (.ref a_box)).v) (x := ()) rfl rfl) (ea_cons ev_int ea_nil)) (fun F' Os' H' vs Q w hv q => by obtain ⟨u0, _, rfl, q0, u1, _, rfl, q1, rfl, rfl⟩ := hv; cases q0; exact ⟨F', _, x_box12, 2, a_box, u1, t27.1, t27.2, rfl, w, q1, et27, fun v F2 H2 s2 w r => by exact q v F2 H2 s2 w r⟩))) ex_step28) nd (fun v29 F30 H30 s30 w30 r29 => ?_)
        show Ws _ _ _ [some (.ref a_box), some v_count, some (.ref p_places_here2), some v15, some (.int x24), some v29] _
        obtain ⟨t31, et31, h⟩ := bd_some h
        obtain ⟨y33, hy33, hk33⟩ := bd_some h
        refine ws_j (fun (sg : L2.St) (Hm : Hp) => ∃ (Fm : Hp) (x_box34 : (List Int)) (x_step35 : Int) (v36 : V) , sg = [some (.ref a_box), some v_count, some (.ref p_places_here2), some v15, some (.int x24), some v36] ∧ Same F30 Fm ∧ Wf Fm ((a_box, (oList rInt) x_box34) :: (p_places_here2, (oList rInt) x_places_here13) :: Os0) Hm ∧ rInt.r Fm v36 x_step35 ∧ (x_box34, x_step35) = y33) (w1_if w30 (et_cmp cp_eq (ev_call (U := rInt.v) (Os2 := ((a_box, (oList rInt) t31.2) :: (p_places_here2, (oList rInt) x_places_here13) :: Os0)) G_l_take (hr.mono (by decide)) T_l_take.gm T_l_take.fn.kp T_l_take.bi pass0 (ea_cons (ev_var (n := 0) (W := (rIs (.ref a_box)).v) (x := ()) rfl rfl) (ea_cons ev_int ea_nil)) (fun F' Os' H' vs Q w hv q => by obtain ⟨u0, _, rfl, q0, u1, _, rfl, q1, rfl, rfl⟩ := hv; cases q0; exact ⟨F', _, t27.2, 6, a_box, u1, t31.1, t31.2, rfl, w, q1, et31, fun v F2 H2 s2 w r => by exact q v F2 H2 s2 w r⟩)) ev_int) (fun hb32 F37 H37 s37 w37 => ?_) (fun hb32 F37 H37 s37 w37 => ?_)) ?_
        · skip
          have h := (if_some hy33).1 hb32
          obtain ⟨x_step38, ex_step38, h⟩ := lt_some h
          refine ws_set (n := 5) (W := rInt.v) w37 (Ev.eq (ev_add (ev_var (n := 5) (W := rInt.v) rfl r29) ev_int) ex_step38) nd (fun v39 F40 H40 s40 w40 r39 => ?_)
          show Ws _ _ _ [some (.ref a_box), some v_count, some (.ref p_places_here2), some v15, some (.int x24), some v39] _
          refine ws_nil ?_
          exact ⟨F40, t31.2, x_step38, v39, rfl, (s37.trans s40), w40, r39, Option.some.inj h⟩
        · skip
          have h := (if_some hy33).2 hb32
          refine ws_nil ?_
          exact ⟨F37, t31.2, x_step28, v29, rfl, s37, w37, r29, Option.some.inj h⟩
        · skip
          rintro _ H41 ⟨F41, x_box34, x_step35, v36, rfl, s41, w41, r42, rfl⟩
          have h := hk33
          have h : K_l_places_33 x_places_here13 x_last14 x_box34 x_step35 = some _ := h
          unfold K_l_places_33 at h
          obtain ⟨x_last43, ex_last43, h⟩ := lt_some h
          refine ws_set (n := 3) (W := rInt.v) w41 (Ev.eq (ev_add (ev_var (n := 3) (W := rInt.v) rfl r26) (ev_var (n := 5) (W := rInt.v) rfl r42)) ex_last43) nd (fun v44 F45 H45 s45 w45 r44 => ?_)
          show Ws _ _ _ [some (.ref a_box), some v_count, some (.ref p_places_here2), some v44, some (.int x24), some v36] _
          obtain ⟨x_places_here46, ex_places_here46, h⟩ := bd_some h
          refine ws_app (n := 1) (m := 2) (R := rInt) (Os1 := ((a_box, (oList rInt) x_box34) :: (p_places_here2, (oList rInt) x_places_here13) :: Os0)) w45 rfl (ev_var (n := 3) (W := rInt.v) rfl r44) rfl ex_places_here46 (fun F47 H47 s47 w47 => ?_)
          refine ws_nil ?_
          obtain rfl := Option.some.inj h
          exact ⟨F47, x_box34, x_places_here46, x_last43, v44, some (.int x24), some v36, rfl, (s25.trans (s30.trans (s41.trans (s45.trans s47)))), w47, r44, hz11⟩
      · skip
        rintro _ H48 ⟨F48, x_box12, x_places_here13, x_last14, v15, o16, o17, rfl, s48, w48, r49, hz11⟩
        have hz := foldO_nil hz11
        exact ⟨F48, x_box12, x_places_here13, x_last14, v15, o16, o17, rfl, (s10.trans s48), w48, r49, hz.symm⟩
    · skip
      rintro _ H50 ⟨F50, x_box18, x_places_here19, x_last20, v21, o22, o23, rfl, s50, w50, r51, rfl⟩
      have h := hk11
      have h : K_l_places_11 x_box18 x_places_here19 x_last20 = some _ := h
      unfold K_l_places_11 at h
      obtain ⟨rfl, rfl⟩ := pair_inj h
      refine ws_ret (W := (rIs (.ref p_places_here2)).v) w50 (ev_var (n := 2) (W := (rIs (.ref p_places_here2)).v) (x := ()) rfl rfl) (fun vz Fz Hz sz wz rz => ?_)
      cases rz
      have wz := wz.pull (i := 1) rfl
      exact kQ _ _ _ ((s3.trans (s8.trans s50)).trans sz) wz
abbrev s_l_value : Stmt := topS 15
theorem sc_l_value : FnScope ["_law_box"] ["_law_box"] (defScope s_l_value) := ⟨rfl, rfl, rfl, by decide +kernel, rfl, by decide +kernel, by decide +kernel⟩
def sp_l_value (K : PySem.W.Frag) : Sp := fun vs H Q _ => ∃ (F0 : Hp) (Os0 : Owns) (x_box : (List Int)) (a_box : Addr) (res : Int) (b_box : (List Int)), vs = [.ref a_box] ∧ Wf F0 ((a_box, (oList rInt) x_box) :: Os0) H ∧ M_l_value x_box = some (res, b_box) ∧ ∀ v F' H', Same F0 F' → Wf F' ((a_box, (oList rInt) b_box) :: Os0) H' → rInt.r F' v res → Q v H'
theorem ok_l_value {f : Addr} {fd : FuncData} {f_l_take : Addr} {d_l_take : FuncData} (T : FT K mg "_law_value" s_l_value ["_law_box"] f fd) (B : Blt mg) (T_l_take : FT K mg "_law_take" s_l_take ["_law_box", "_law_size"] f_l_take d_l_take) (G_l_take : FnOk P w K mg base CX0 1 f_l_take d_l_take ["_law_box", "_law_size"] (sp_l_take K)) : FnOk P w K mg base CX0 2 f fd ["_law_box"] (sp_l_value K) := by
  refine T.fn.ok sc_l_value (fun vs H Q E h => ?_) (fun cdv A outer s H vs Q E hr h => ?_)
  · obtain ⟨_, _, _, _, _, _, rfl, _⟩ := h
    rfl
  · obtain ⟨F0, Os0, x_box, a_box, res, b_box, rfl, w0, h, kQ⟩ := h
    have nd := sc_l_value.nd
    refine ⟨_, pss_w, ?_⟩
    unfold M_l_value at h
    show Ws _ _ _ [some (.ref a_box)] _
    obtain ⟨t1, et1, h⟩ := bd_some h
    refine ws_if w0 (et_cmp cp_eq (ev_call (U := rInt.v) (Os2 := ((a_box, (oList rInt) t1.2) :: Os0)) G_l_take (hr.mono (by decide)) T_l_take.gm T_l_take.fn.kp T_l_take.bi pass0 (ea_cons (ev_var (n := 0) (W := (rIs (.ref a_box)).v) (x := ()) rfl rfl) (ea_cons ev_int ea_nil)) (fun F' Os' H' vs Q w hv q => by obtain ⟨u0, _, rfl, q0, u1, _, rfl, q1, rfl, rfl⟩ := hv; cases q0; exact ⟨F', _, x_box, 8, a_box, u1, t1.1, t1.2, rfl, w, q1, et1, fun v F2 H2 s2 w r => by exact q v F2 H2 s2 w r⟩)) ev_int) (fun hb2 F3 H3 s3 w3 => ?_) (fun hb2 F3 H3 s3 w3 => ?_)
    · skip
      have h := (if_some h).1 hb2
      obtain ⟨t4, et4, h⟩ := bd_some h
      obtain ⟨rfl, rfl⟩ := pair_inj h
      refine ws_ret (W := rInt.v) w3 (ev_call (U := rInt.v) (Os2 := ((a_box, (oList rInt) t4.2) :: Os0)) G_l_take (hr.mono (by decide)) T_l_take.gm T_l_take.fn.kp T_l_take.bi pass0 (ea_cons (ev_var (n := 0) (W := (rIs (.ref a_box)).v) (x := ()) rfl rfl) (ea_cons ev_int ea_nil)) (fun F' Os' H' vs Q w hv q => by obtain ⟨u0, _, rfl, q0, u1, _, rfl, q1, rfl, rfl⟩ := hv; cases q0; exact ⟨F', _, t1.2, 10000, a_box, u1, t4.1, t4.2, rfl, w, q1, et4, fun v F2 H2 s2 w r => by exact q v F2 H2 s2 w r⟩)) (fun vz Fz Hz sz wz rz => ?_)
      exact kQ _ _ _ (s3.trans sz) wz rz
    · skip
      have h := (if_some h).2 hb2
      refine ws_nil ?_
      obtain ⟨t5, et5, h⟩ := bd_some h
      obtain ⟨rfl, rfl⟩ := pair_inj h
      refine ws_ret (W := rInt.v) w3 (ev_max2 ev_int (ev_sub (ev_call (U := rInt.v) (Os2 := ((a_box, (oList rInt) t5.2) :: Os0)) G_l_take (hr.mono (by decide)) T_l_take.gm T_l_take.fn.kp T_l_take.bi pass0 (ea_cons (ev_var (n := 0) (W := (rIs (.ref a_box)).v) (x := ()) rfl rfl) (ea_cons ev_int ea_nil)) (fun F' Os' H' vs Q w hv q => by obtain ⟨u0, _, rfl, q0, u1, _, rfl, q1, rfl, rfl⟩ := hv; cases q0; exact ⟨F', _, t1.2, 8, a_box, u1, t5.1, t5.2, rfl, w, q1, et5, fun v F2 H2 s2 w r => by exact q v F2 H2 s2 w r⟩)) ev_int) B.max) (fun vz Fz Hz sz wz rz => ?_)
      exact kQ _ _ _ (s3.trans sz) wz rz
abbrev s_l_first : Stmt := topS 16
theorem sc_l_first : FnScope ["_law_box", "_law_places_here", "_law_book", "_law_place", "_law_value_here"] ["_law_box", "_law_places_here"] (defScope s_l_first) := ⟨rfl, rfl, rfl, by decide +kernel, rfl, by decide +kernel, by decide +kernel⟩
def sp_l_first (K : PySem.W.Frag) : Sp := fun vs H Q _ => ∃ (F0 : Hp) (Os0 : Owns) (x_box : (List Int)) (x_places_here : (List Int)) (a_box : Addr) (v_places_here : V) (res : (List (Int × Int))) (b_box : (List Int)), vs = [.ref a_box, v_places_here] ∧ Wf F0 ((a_box, (oList rInt) x_box) :: Os0) H ∧ (rList rInt).r F0 v_places_here x_places_here ∧ M_l_first x_box x_places_here = some (res, b_box) ∧ ∀ p F' H', Same F0 F' → Wf F' ((p, (oDict rInt) res) :: (a_box, (oList rInt) b_box) :: Os0) H' → Q (.ref p) H'
theorem ok_l_first {f : Addr} {fd : FuncData} {f_l_value : Addr} {d_l_value : FuncData} (T : FT K mg "_law_first" s_l_first ["_law_box", "_law_places_here"] f fd) (B : Blt mg) (T_l_value : FT K mg "_law_value" s_l_value ["_law_box"] f_l_value d_l_value) (G_l_value : FnOk P w K mg base CX0 2 f_l_value d_l_value ["_law_box"] (sp_l_value K)) : FnOk P w K mg base CX0 3 f fd ["_law_box", "_law_places_here"] (sp_l_first K) := by
  refine T.fn.ok sc_l_first (fun vs H Q E h => ?_) (fun cdv A outer s H vs Q E hr h => ?_)
  · obtain ⟨_, _, _, _, _, _, _, _, rfl, _⟩ := h
    rfl
  · obtain ⟨F0, Os0, x_box, x_places_here, a_box, v_places_here, res, b_box, rfl, w0, r_places_here, h, kQ⟩ := h
    have nd := sc_l_first.nd
    refine ⟨_, pss_w, ?_⟩
    unfold M_l_first at h
    show Ws _ _ _ [some (.ref a_box), some v_places_here, none, none, none] _
    obtain ⟨x_book1, ex_book1, h⟩ := lt_some h
    refine ws_setN (n := 2) (O := (oDict rInt) x_book1) w0 (EvN.eqO (O := (oDict rInt)) evn_dnew ex_book1) nd (fun p_book2 F3 H3 s3 w3 => ?_)
    have w4 := w3.back (i := 1)
    show Ws _ _ _ [some (.ref a_box), some v_places_here, some (.ref p_book2), none, none] _
    obtain ⟨z6, hz6, hk6⟩ := bd_some h
    refine ws_j (fun (sg : L2.St) (Hm : Hp) => ∃ (Fm : Hp) (x_box11 : (List Int)) (x_book12 : (List (Int × Int))) (o13 : Option V) (o14 : Option V) , sg = [some (.ref a_box), some v_places_here, some (.ref p_book2), o13, o14] ∧ Same F3 Fm ∧ Wf Fm ((a_box, (oList rInt) x_box11) :: (p_book2, (oDict rInt) x_book12) :: Os0) Hm ∧ (x_box11, x_book12) = z6) (w1_for (n := 3) (R := rInt) w4 (ev_var (n := 1) (W := (rList rInt).v) rfl ((rList rInt).mono s3 r_places_here)) nd (fun F5 H5 s5 w5 => ?_) PassesOwn.never) ?_
    · skip
      refine ⟨(fun (rr : List Int) (sg : L2.St) (Hm : Hp) => ∃ (Fm : Hp) (x_box7 : (List Int)) (x_book8 : (List (Int × Int))) (o9 : Option V) (o10 : Option V) , sg = [some (.ref a_box), some v_places_here, some (.ref p_book2), o9, o10] ∧ Same F5 Fm ∧ Wf Fm ((a_box, (oList rInt) x_box7) :: (p_book2, (oDict rInt) x_book8) :: Os0) Hm ∧ foldO (fun s x => B_l_first_6 s.1 s.2 x) (x_box7, x_book8) rr = some z6), ⟨F5, x_box, x_book1, none, none, rfl, (Same.refl _), w5, hz6⟩, ?_, ?_, ?_⟩
      · rintro _ _ _ ⟨_, _, _, _, _, _, sk, wk, _⟩
        exact sk.trans wk.sub
      · skip
        rintro x15 rr _ H16 v15 ⟨F16, x_box7, x_book8, o9, o10, rfl, s16, w16, hz6⟩ rx15
        obtain ⟨y6, hy6, hz6⟩ := foldO_some hz6
        have h : B_l_first_6 x_box7 x_book8 x15 = some _ := hy6
        unfold B_l_first_6 at h
        show Ws _ _ _ [some (.ref a_box), some v_places_here, some (.ref p_book2), some v15, o10] _
        obtain ⟨t17, et17, h⟩ := bd_some h
        refine ws_set (n := 4) (W := rInt.v) w16 ((ev_call (U := rInt.v) (Os2 := ((a_box, (oList rInt) t17.2) :: (p_book2, (oDict rInt) x_book8) :: Os0)) G_l_value (hr.mono (by decide)) T_l_value.gm T_l_value.fn.kp T_l_value.bi pass0 (ea_cons (ev_var (n := 0) (W := (rIs (.ref a_box)).v) (x := ()) rfl rfl) ea_nil) (fun F' Os' H' vs Q w hv q => by obtain ⟨u0, _, rfl, q0, rfl, rfl⟩ := hv; cases q0; exact ⟨F', _, x_box7, a_box, t17.1, t17.2, rfl, w, et17, fun v F2 H2 s2 w r => by exact q v F2 H2 s2 w r⟩))) nd (fun v18 F19 H19 s19 w19 r18 => ?_)
        show Ws _ _ _ [some (.ref a_box), some v_places_here, some (.ref p_book2), some v15, some v18] _
        refine ws_if w19 (et_cmp cp_gt (ev_var (n := 4) (W := rInt.v) rfl r18) ev_int) (fun hb20 F21 H21 s21 w21 => ?_) (fun hb20 F21 H21 s21 w21 => ?_)
        · skip
          have h := (if_some h).1 hb20
          obtain ⟨x_book22, ex_book22, h⟩ := bd_some h
          refine ws_dput (n := 1) (R := rInt) w21 (hu_of hr) (ev_var (n := 4) (W := rInt.v) rfl r18) (ev_var (n := 2) (W := (rIs (.ref p_book2)).v) (x := ()) rfl rfl) (ev_var (n := 3) (W := rInt.v) rfl rx15) rfl ex_book22 (fun F23 H23 s23 w23 => ?_)
          refine ws_nil ?_
          refine ws_nil ?_
          obtain rfl := Option.some.inj h
          exact ⟨F23, t17.2, x_book22, some v15, some v18, rfl, (s16.trans (s19.trans (s21.trans s23))), w23, hz6⟩
        · skip
          have h := (if_some h).2 hb20
          refine ws_nil ?_
          refine ws_nil ?_
          obtain rfl := Option.some.inj h
          exact ⟨F21, t17.2, x_book8, some v15, some v18, rfl, (s16.trans (s19.trans s21)), w21, hz6⟩
      · skip
        rintro _ H24 ⟨F24, x_box7, x_book8, o9, o10, rfl, s24, w24, hz6⟩
        have hz := foldO_nil hz6
        exact ⟨F24, x_box7, x_book8, o9, o10, rfl, (s5.trans s24), w24, hz.symm⟩
    · skip
      rintro _ H25 ⟨F25, x_box11, x_book12, o13, o14, rfl, s25, w25, rfl⟩
      have h := hk6
      have h : K_l_first_6 x_box11 x_book12 = some _ := h
      unfold K_l_first_6 at h
      obtain ⟨rfl, rfl⟩ := pair_inj h
      refine ws_ret (W := (rIs (.ref p_book2)).v) w25 (ev_var (n := 2) (W := (rIs (.ref p_book2)).v) (x := ()) rfl rfl) (fun vz Fz Hz sz wz rz => ?_)
      cases rz
      have wz := wz.pull (i := 1) rfl
      exact kQ _ _ _ ((s3.trans s25).trans sz) wz
abbrev s_l_second : Stmt := topS 17
theorem sc_l_second : FnScope ["_law_box", "_law_book", "_law_places_here", "_law_result", "_law_place", "_law_way", "_law_value_here"] ["_law_box", "_law_book", "_law_places_here"] (defScope s_l_second) := ⟨rfl, rfl, rfl, by decide +kernel, rfl, by decide +kernel, by decide +kernel⟩
def sp_l_second (K : PySem.W.Frag) : Sp := fun vs H Q _ => ∃ (F0 : Hp) (Os0 : Owns) (x_box : (List Int)) (x_book : (List (Int × Int))) (x_places_here : (List Int)) (a_box : Addr) (v_book : V) (v_places_here : V) (res : (List (Int × Int))) (b_box : (List Int)), vs = [.ref a_box, v_book, v_places_here] ∧ Wf F0 ((a_box, (oList rInt) x_box) :: Os0) H ∧ (rDict rInt).r F0 v_book x_book ∧ (rList rInt).r F0 v_places_here x_places_here ∧ M_l_second x_box x_book x_places_here = some (res, b_box) ∧ ∀ p F' H', Same F0 F' → Wf F' ((p, (oDict rInt) res) :: (a_box, (oList rInt) b_box) :: Os0) H' → Q (.ref p) H'
theorem ok_l_second {f : Addr} {fd : FuncData} {f_l_take : Addr} {d_l_take : FuncData} {f_l_value : Addr} {d_l_value : FuncData} (T : FT K mg "_law_second" s_l_second ["_law_box", "_law_book", "_law_places_here"] f fd) (B : Blt mg) (T_l_take : FT K mg "_law_take" s_l_take ["_law_box", "_law_size"] f_l_take d_l_take) (G_l_take : FnOk P w K mg base CX0 1 f_l_take d_l_take ["_law_box", "_law_size"] (sp_l_take K)) (T_l_value : FT K mg "_law_value" s_l_value ["_law_box"] f_l_value d_l_value) (G_l_value : FnOk P w K mg base CX0 2 f_l_value d_l_value ["_law_box"] (sp_l_value K)) : FnOk P w K mg base CX0 3 f fd ["_law_box", "_law_book", "_law_places_here"] (sp_l_second K) := by
  refine T.fn.ok sc_l_second (fun vs H Q E h => ?_) (fun cdv A outer s H vs Q E hr h => ?_)
  · obtain ⟨_, _, _, _, _, _, _, _, _, _, rfl, _⟩ := h
    rfl
  · obtain ⟨F0, Os0, x_box, x_book, x_places_here, a_box, v_book, v_places_here, res, b_box, rfl, w0, r_book, r_places_here, h, kQ⟩ := h
    have nd := sc_l_second.nd
    refine ⟨_, pss_w, ?_⟩
    unfold M_l_second at h
    show Ws _ _ _ [some (.ref a_box), some v_book, some v_places_here, none, none, none, none] _
    obtain ⟨x_result1, ex_result1, h⟩ := lt_some h
    refine ws_setN (n := 3) (O := (oDict rInt) x_result1) w0 (EvN.eqO (O := (oDict rInt)) evn_dnew ex_result1) nd (fun p_result2 F3 H3 s3 w3 => ?_)
    have w4 := w3.back (i := 1)
    show Ws _ _ _ [some (.ref a_box), some v_book, some v_places_here, some (.ref p_result2), none, none, none] _
    obtain ⟨z6, hz6, hk6⟩ := bd_some h
    refine ws_j (fun (sg : L2.St) (Hm : Hp) => ∃ (Fm : Hp) (x_box12 : (List Int)) (x_result13 : (List (Int × Int))) (o14 : Option V) (o15 : Option V) (o16 : Option V) , sg = [some (.ref a_box), some v_book, some v_places_here, some (.ref p_result2), o14, o15, o16] ∧ Same F3 Fm ∧ Wf Fm ((a_box, (oList rInt) x_box12) :: (p_result2, (oDict rInt) x_result13) :: Os0) Hm ∧ (x_box12, x_result13) = z6) (w1_for (n := 4) (R := rInt) w4 (ev_var (n := 2) (W := (rList rInt).v) rfl ((rList rInt).mono s3 r_places_here)) nd (fun F5 H5 s5 w5 => ?_) PassesOwn.never) ?_
    · skip
      refine ⟨(fun (rr : List Int) (sg : L2.St) (Hm : Hp) => ∃ (Fm : Hp) (x_box7 : (List Int)) (x_result8 : (List (Int × Int))) (o9 : Option V) (o10 : Option V) (o11 : Option V) , sg = [some (.ref a_box), some v_book, some v_places_here, some (.ref p_result2), o9, o10, o11] ∧ Same F5 Fm ∧ Wf Fm ((a_box, (oList rInt) x_box7) :: (p_result2, (oDict rInt) x_result8) :: Os0) Hm ∧ foldO (fun s x => B_l_second_6 x_book s.1 s.2 x) (x_box7, x_result8) rr = some z6), ⟨F5, x_box, x_result1, none, none, none, rfl, (Same.refl _), w5, hz6⟩, ?_, ?_, ?_⟩
      · rintro _ _ _ ⟨_, _, _, _, _, _, _, sk, wk, _⟩
        exact sk.trans wk.sub
      · skip
        rintro x17 rr _ H18 v17 ⟨F18, x_box7, x_result8, o9, o10, o11, rfl, s18, w18, hz6⟩ rx17
        obtain ⟨y6, hy6, hz6⟩ := foldO_some hz6
        have h : B_l_second_6 x_book x_box7 x_result8 x17 = some _ := hy6
        unfold B_l_second_6 at h
        show Ws _ _ _ [some (.ref a_box), some v_book, some v_places_here, some (.ref p_result2), some v17, o10, o11] _
        obtain ⟨t19, et19, h⟩ := bd_some h
        refine ws_set (n := 5) (W := rInt.v) w18 ((ev_call (U := rInt.v) (Os2 := ((a_box, (oList rInt) t19.2) :: (p_result2, (oDict rInt) x_result8) :: Os0)) G_l_take (hr.mono (by decide)) T_l_take.gm T_l_take.fn.kp T_l_take.bi pass0 (ea_cons (ev_var (n := 0) (W := (rIs (.ref a_box)).v) (x := ()) rfl rfl) (ea_cons ev_int ea_nil)) (fun F' Os' H' vs Q w hv q => by obtain ⟨u0, _, rfl, q0, u1, _, rfl, q1, rfl, rfl⟩ := hv; cases q0; exact ⟨F', _, x_box7, 4, a_box, u1, t19.1, t19.2, rfl, w, q1, et19, fun v F2 H2 s2 w r => by exact q v F2 H2 s2 w r⟩))) nd (fun v20 F21 H21 s21 w21 r20 => ?_)
        show Ws _ _ _ [some (.ref a_box), some v_book, some v_places_here, some (.ref p_result2), some v17, some v20, o11] _
        obtain ⟨x_value_here22, ex_value_here22, h⟩ := lt_some h
        refine ws_set (n := 6) (W := rInt.v) w21 (Ev.eq (ev_dget2 (hu_of hr) (Ev.vwD (ev_var (n := 1) (W := (rDict rInt).v) rfl ((rDict rInt).mono (s3.trans (s5.trans (s18.trans s21))) r_book))) (ev_var (n := 4) (W := rInt.v) rfl rx17) ev_int) ex_value_here22) nd (fun v23 F24 H24 s24 w24 r23 => ?_)
        show Ws _ _ _ [some (.ref a_box), some v_book, some v_places_here, some (.ref p_result2), some v17, some v20, some v23] _
        obtain ⟨y26, hy26, hk26⟩ := bd_some h
        refine ws_j (fun (sg : L2.St) (Hm : Hp) => ∃ (Fm : Hp) (x_box27 : (List Int)) (x_value_here28 : Int) (v29 : V) , sg = [some (.ref a_box), some v_book, some v_places_here, some (.ref p_result2), some v17, some v20, some v29] ∧ Same F24 Fm ∧ Wf Fm ((a_box, (oList rInt) x_box27) :: (p_result2, (oDict rInt) x_result8) :: Os0) Hm ∧ rInt.r Fm v29 x_value_here28 ∧ (x_box27, x_value_here28) = y26) (w1_if w24 (et_cmp cp_eq (ev_var (n := 5) (W := rInt.v) rfl r20) ev_int) (fun hb25 F30 H30 s30 w30 => ?_) (fun hb25 F30 H30 s30 w30 => ?_)) ?_
        · skip
          have h := (if_some hy26).1 hb25
          obtain ⟨t31, et31, h⟩ := bd_some h
          refine ws_set (n := 6) (W := rInt.v) w30 ((ev_call (U := rInt.v) (Os2 := ((a_box, (oList rInt) t31.2) :: (p_result2, (oDict rInt) x_result8) :: Os0)) G_l_value (hr.mono (by decide)) T_l_value.gm T_l_value.fn.kp T_l_value.bi pass0 (ea_cons (ev_var (n := 0) (W := (rIs (.ref a_box)).v) (x := ()) rfl rfl) ea_nil) (fun F' Os' H' vs Q w hv q => by obtain ⟨u0, _, rfl, q0, rfl, rfl⟩ := hv; cases q0; exact ⟨F', _, t19.2, a_box, t31.1, t31.2, rfl, w, et31, fun v F2 H2 s2 w r => by exact q v F2 H2 s2 w r⟩))) nd (fun v32 F33 H33 s33 w33 r32 => ?_)
          show Ws _ _ _ [some (.ref a_box), some v_book, some v_places_here, some (.ref p_result2), some v17, some v20, some v32] _
          refine ws_nil ?_
          exact ⟨F33, t31.2, t31.1, v32, rfl, (s30.trans s33), w33, r32, Option.some.inj h⟩
        · skip
          have h := (if_some hy26).2 hb25
          refine ws_nil ?_
          exact ⟨F30, t19.2, x_value_here22, v23, rfl, s30, w30, r23, Option.some.inj h⟩
        · skip
          rintro _ H34 ⟨F34, x_box27, x_value_here28, v29, rfl, s34, w34, r35, rfl⟩
          have h := hk26
          have h : K_l_second_26 x_result8 x17 t19 x_box27 x_value_here28 = some _ := h
          unfold K_l_second_26 at h
          obtain ⟨y37, hy37, hk37⟩ := bd_some h
          refine ws_j (fun (sg : L2.St) (Hm : Hp) => ∃ (Fm : Hp) (x_value_here38 : Int) (v39 : V) , sg = [some (.ref a_box), some v_book, some v_places_here, some (.ref p_result2), some v17, some v20, some v39] ∧ Same F34 Fm ∧ Wf Fm ((a_box, (oList rInt) x_box27) :: (p_result2, (oDict rInt) x_result8) :: Os0) Hm ∧ rInt.r Fm v39 x_value_here38 ∧ x_value_here38 = y37) (w1_if w34 (et_cmp cp_eq (ev_var (n := 5) (W := rInt.v) rfl r20) ev_int) (fun hb36 F40 H40 s40 w40 => ?_) (fun hb36 F40 H40 s40 w40 => ?_)) ?_
          · skip
            have h := (if_some hy37).1 hb36
            refine ws_set (n := 6) (W := rInt.v) w40 (ev_int) nd (fun v41 F42 H42 s42 w42 r41 => ?_)
            show Ws _ _ _ [some (.ref a_box), some v_book, some v_places_here, some (.ref p_result2), some v17, some v20, some v41] _
            refine ws_nil ?_
            exact ⟨F42, 0, v41, rfl, (s40.trans s42), w42, r41, Option.some.inj h⟩
          · skip
            have h := (if_some hy37).2 hb36
            refine ws_nil ?_
            exact ⟨F40, x_value_here28, v29, rfl, s40, w40, r35, Option.some.inj h⟩
          · skip
            rintro _ H43 ⟨F43, x_value_here38, v39, rfl, s43, w43, r44, rfl⟩
            have h := hk37
            have h : K_l_second_37 x_result8 x17 x_box27 x_value_here38 = some _ := h
            unfold K_l_second_37 at h
            refine ws_if w43 (et_cmp cp_gt (ev_var (n := 6) (W := rInt.v) rfl r44) ev_int) (fun hb45 F46 H46 s46 w46 => ?_) (fun hb45 F46 H46 s46 w46 => ?_)
            · skip
              have h := (if_some h).1 hb45
              obtain ⟨x_result47, ex_result47, h⟩ := bd_some h
              refine ws_dput (n := 1) (R := rInt) w46 (hu_of hr) (ev_var (n := 6) (W := rInt.v) rfl r44) (ev_var (n := 3) (W := (rIs (.ref p_result2)).v) (x := ()) rfl rfl) (ev_var (n := 4) (W := rInt.v) rfl rx17) rfl ex_result47 (fun F48 H48 s48 w48 => ?_)
              refine ws_nil ?_
              refine ws_nil ?_
              obtain rfl := Option.some.inj h
              exact ⟨F48, x_box27, x_result47, some v17, some v20, some v39, rfl, (s18.trans (s21.trans (s24.trans (s34.trans (s43.trans (s46.trans s48)))))), w48, hz6⟩
            · skip
              have h := (if_some h).2 hb45
              refine ws_nil ?_
              refine ws_nil ?_
              obtain rfl := Option.some.inj h
              exact ⟨F46, x_box27, x_result8, some v17, some v20, some v39, rfl, (s18.trans (s21.trans (s24.trans (s34.trans (s43.trans s46))))), w46, hz6⟩
      · skip
        rintro _ H49 ⟨F49, x_box7, x_result8, o9, o10, o11, rfl, s49, w49, hz6⟩
        have hz := foldO_nil hz6
        exact ⟨F49, x_box7, x_result8, o9, o10, o11, rfl, (s5.trans s49), w49, hz.symm⟩
    · skip
      rintro _ H50 ⟨F50, x_box12, x_result13, o14, o15, o16, rfl, s50, w50, rfl⟩
      have h := hk6
      have h : K_l_second_6 x_box12 x_result13 = some _ := h
      unfold K_l_second_6 at h
      obtain ⟨rfl, rfl⟩ := pair_inj h
      refine ws_ret (W := (rIs (.ref p_result2)).v) w50 (ev_var (n := 3) (W := (rIs (.ref p_result2)).v) (x := ()) rfl rfl) (fun vz Fz Hz sz wz rz => ?_)
      cases rz
      have wz := wz.pull (i := 1) rfl
      exact kQ _ _ _ ((s3.trans s50).trans sz) wz
abbrev s_l_choose : Stmt := topS 11
theorem sc_l_choose : FnScope ["_law_box", "_law_rows", "_law_count", "_law_rest", "_law_chosen", "_law_k", "_law_at"] ["_law_box", "_law_rows", "_law_count"] (defScope s_l_choose) := ⟨rfl, rfl, rfl, by decide +kernel, rfl, by decide +kernel, by decide +kernel⟩
def sp_l_choose (K : PySem.W.Frag) : Sp := fun vs H Q _ => ∃ (F0 : Hp) (Os0 : Owns) (x_box : (List Int)) (x_rows : (List Int)) (x_count : Int) (a_box : Addr) (v_rows : V) (v_count : V) (res : (List Int)) (b_box : (List Int)), vs = [.ref a_box, v_rows, v_count] ∧ Wf F0 ((a_box, (oList rInt) x_box) :: Os0) H ∧ (rList rInt).r F0 v_rows x_rows ∧ rInt.r F0 v_count x_count ∧ M_l_choose x_box x_rows x_count = some (res, b_box) ∧ ∀ p F' H', Same F0 F' → Wf F' ((p, (oList rInt) res) :: (a_box, (oList rInt) b_box) :: Os0) H' → Q (.ref p) H'
theorem ok_l_choose {f : Addr} {fd : FuncData} {f_l_take : Addr} {d_l_take : FuncData} (T : FT K mg "_law_choose" s_l_choose ["_law_box", "_law_rows", "_law_count"] f fd) (B : Blt mg) (T_l_take : FT K mg "_law_take" s_l_take ["_law_box", "_law_size"] f_l_take d_l_take) (G_l_take : FnOk P w K mg base CX0 1 f_l_take d_l_take ["_law_box", "_law_size"] (sp_l_take K)) : FnOk P w K mg base CX0 2 f fd ["_law_box", "_law_rows", "_law_count"] (sp_l_choose K) := by
  refine T.fn.ok sc_l_choose (fun vs H Q E h => ?_) (fun cdv A outer s H vs Q E hr h => ?_)
  · obtain ⟨_, _, _, _, _, _, _, _, _, _, rfl, _⟩ := h
    rfl
  · obtain ⟨F0, Os0, x_box, x_rows, x_count, a_box, v_rows, v_count, res, b_box, rfl, w0, r_rows, r_count, h, kQ⟩ := h
    have nd := sc_l_choose.nd
    refine ⟨_, pss_w, ?_⟩
    unfold M_l_choose at h
    show Ws _ _ _ [some (.ref a_box), some v_rows, some v_count, none, none, none, none] _
    refine ws_set (n := 3) (W := (rList rInt).v) w0 ((EvN.fz (evn_listL (Ev.vw (ev_var (n := 1) (W := (rList rInt).v) rfl r_rows)) B.list))) nd (fun v1 F2 H2 s2 w2 r1 => ?_)
    show Ws _ _ _ [some (.ref a_box), some v_rows, some v_count, some v1, none, none, none] _
    obtain ⟨x_chosen3, ex_chosen3, h⟩ := lt_some h
    refine ws_setN (n := 4) (O := (oList rInt) x_chosen3) w2 (EvN.eqO (O := (oList rInt)) (evn_list el_nil (by exact (show 0 ≤ 16777216 by decide))) ex_chosen3) nd (fun p_chosen4 F5 H5 s5 w5 => ?_)
    have w6 := w5.back (i := 1)
    show Ws _ _ _ [some (.ref a_box), some v_rows, some v_count, some v1, some (.ref p_chosen4), none, none] _
    obtain ⟨rg7, erg7, h⟩ := bd_some h
    obtain ⟨z9, hz9, hk9⟩ := bd_some h
    refine ws_j (fun (sg : L2.St) (Hm : Hp) => ∃ (Fm : Hp) (x_box16 : (List Int)) (x_rest17 : (List Int)) (x_chosen18 : (List Int)) (v19 : V) (o20 : Option V) (o21 : Option V) , sg = [some (.ref a_box), some v_rows, some v_count, some v19, some (.ref p_chosen4), o20, o21] ∧ Same F5 Fm ∧ Wf Fm ((a_box, (oList rInt) x_box16) :: (p_chosen4, (oList rInt) x_chosen18) :: Os0) Hm ∧ (rList rInt).r Fm v19 x_rest17 ∧ (x_box16, x_rest17, x_chosen18) = z9) (w1_forR1 (n := 5) erg7 w6 (ev_min2 (ev_var (n := 2) (W := rInt.v) rfl r_count) (ev_len (Ev.vw (ev_var (n := 1) (W := (rList rInt).v) rfl ((rList rInt).mono (s2.trans s5) r_rows))) B.len) B.min) nd (fun F8 H8 s8 w8 => ?_) PassesOwn.never B.range) ?_
    · skip
      refine ⟨(fun (rr : List Int) (sg : L2.St) (Hm : Hp) => ∃ (Fm : Hp) (x_box10 : (List Int)) (x_rest11 : (List Int)) (x_chosen12 : (List Int)) (v13 : V) (o14 : Option V) (o15 : Option V) , sg = [some (.ref a_box), some v_rows, some v_count, some v13, some (.ref p_chosen4), o14, o15] ∧ Same F8 Fm ∧ Wf Fm ((a_box, (oList rInt) x_box10) :: (p_chosen4, (oList rInt) x_chosen12) :: Os0) Hm ∧ (rList rInt).r Fm v13 x_rest11 ∧ foldO (fun s x => B_l_choose_9 s.1 s.2.1 s.2.2 x) (x_box10, x_rest11, x_chosen12) rr = some z9), ⟨F8, x_box, x_rows, x_chosen3, v1, none, none, rfl, (Same.refl _), w8, ((rList rInt).mono (s5.trans s8) r1), hz9⟩, ?_, ?_⟩
      · skip
        rintro x22 rr _ H23 ⟨F23, x_box10, x_rest11, x_chosen12, v13, o14, o15, rfl, s23, w23, r24, hz9⟩
        obtain ⟨y9, hy9, hz9⟩ := foldO_some hz9
        have h : B_l_choose_9 x_box10 x_rest11 x_chosen12 x22 = some _ := hy9
        unfold B_l_choose_9 at h
        show Ws _ _ _ [some (.ref a_box), some v_rows, some v_count, some v13, some (.ref p_chosen4), some (.int x22), o15] _
        obtain ⟨t25, et25, h⟩ := bd_some h
        refine ws_set (n := 6) (W := rInt.v) w23 ((ev_call (U := rInt.v) (Os2 := ((a_box, (oList rInt) t25.2) :: (p_chosen4, (oList rInt) x_chosen12) :: Os0)) G_l_take (hr.mono (by decide)) T_l_take.gm T_l_take.fn.kp T_l_take.bi pass0 (ea_cons (ev_var (n := 0) (W := (rIs (.ref a_box)).v) (x := ()) rfl rfl) (ea_cons (ev_len (Ev.vw (ev_var (n := 3) (W := (rList rInt).v) rfl r24)) B.len) ea_nil)) (fun F' Os' H' vs Q w hv q => by obtain ⟨u0, _, rfl, q0, u1, _, rfl, q1, rfl, rfl⟩ := hv; cases q0; exact ⟨F', _, x_box10, (x_rest11.length : Int), a_box, u1, t25.1, t25.2, rfl, w, q1, et25, fun v F2 H2 s2 w r => by exact q v F2 H2 s2 w r⟩))) nd (fun v26 F27 H27 s27 w27 r26 => ?_)
        show Ws _ _ _ [some (.ref a_box), some v_rows, some v_count, some v13, some (.ref p_chosen4), some (.int x22), some v26] _
        obtain ⟨t28, et28, h⟩ := bd_some h
        obtain ⟨x_chosen29, ex_chosen29, h⟩ := bd_some h
        refine ws_app (n := 1) (m := 4) (R := rInt) (Os1 := ((a_box, (oList rInt) t25.2) :: (p_chosen4, (oList rInt) x_chosen12) :: Os0)) w27 rfl (ev_ixL et28 (Ev.vw (ev_var (n := 3) (W := (rList rInt).v) rfl ((rList rInt).mono s27 r24))) (ev_var (n := 6) (W := rInt.v) rfl r26)) rfl ex_chosen29 (fun F30 H30 s30 w30 => ?_)
        obtain ⟨t31, et31, h⟩ := bd_some h
        refine ws_set (n := 3) (W := (rList rInt).v) w30 ((EvN.fz (evn_cat et31 (EvN.fz (evn_cut (Ev.vw (ev_var (n := 3) (W := (rList rInt).v) rfl ((rList rInt).mono (s27.trans s30) r24))) eo_none (eo_some (ev_var (n := 6) (W := rInt.v) rfl r26)))) (EvN.fz (evn_cut (Ev.vw (ev_var (n := 3) (W := (rList rInt).v) rfl ((rList rInt).mono (s27.trans s30) r24))) (eo_some (ev_add (ev_var (n := 6) (W := rInt.v) rfl r26) ev_int)) eo_none))))) nd (fun v32 F33 H33 s33 w33 r32 => ?_)
        show Ws _ _ _ [some (.ref a_box), some v_rows, some v_count, some v32, some (.ref p_chosen4), some (.int x22), some v26] _
        refine ws_nil ?_
        obtain rfl := Option.some.inj h
        exact ⟨F33, t25.2, t31, x_chosen29, v32, some (.int x22), some v26, rfl, (s23.trans (s27.trans (s30.trans s33))), w33, r32, hz9⟩
      · skip
        rintro _ H34 ⟨F34, x_box10, x_rest11, x_chosen12, v13, o14, o15, rfl, s34, w34, r35, hz9⟩
        have hz := foldO_nil hz9
        exact ⟨F34, x_box10, x_rest11, x_chosen12, v13, o14, o15, rfl, (s8.trans s34), w34, r35, hz.symm⟩
    · skip
      rintro _ H36 ⟨F36, x_box16, x_rest17, x_chosen18, v19, o20, o21, rfl, s36, w36, r37, rfl⟩
      have h := hk9
      have h : K_l_choose_9 x_box16 x_rest17 x_chosen18 = some _ := h
      unfold K_l_choose_9 at h
      obtain ⟨rfl, rfl⟩ := pair_inj h
      refine ws_ret (W := (rIs (.ref p_chosen4)).v) w36 (ev_var (n := 4) (W := (rIs (.ref p_chosen4)).v) (x := ()) rfl rfl) (fun vz Fz Hz sz wz rz => ?_)
      cases rz
      have wz := wz.pull (i := 1) rfl
      exact kQ _ _ _ ((s2.trans (s5.trans s36)).trans sz) wz
abbrev s_l_wanted : Stmt := topS 18
theorem sc_l_wanted : FnScope ["_law_box", "_law_book", "_law_places_here", "_law_writes", "_law_place", "_law_way"] ["_law_box", "_law_book", "_law_places_here"] (defScope s_l_wanted) := ⟨rfl, rfl, rfl, by decide +kernel, rfl, by decide +kernel, by decide +kernel⟩
def sp_l_wanted (K : PySem.W.Frag) : Sp := fun vs H Q _ => ∃ (F0 : Hp) (Os0 : Owns) (x_box : (List Int)) (x_book : (List (Int × Int))) (x_places_here : (List Int)) (a_box : Addr) (v_book : V) (v_places_here : V) (res : (List (Int × Int))) (b_box : (List Int)), vs = [.ref a_box, v_book, v_places_here] ∧ Wf F0 ((a_box, (oList rInt) x_box) :: Os0) H ∧ (rDict rInt).r F0 v_book x_book ∧ (rList rInt).r F0 v_places_here x_places_here ∧ M_l_wanted x_box x_book x_places_here = some (res, b_box) ∧ ∀ p F' H', Same F0 F' → Wf F' ((p, (oDict rInt) res) :: (a_box, (oList rInt) b_box) :: Os0) H' → Q (.ref p) H'
theorem ok_l_wanted {f : Addr} {fd : FuncData} {f_l_choose : Addr} {d_l_choose : FuncData} {f_l_take : Addr} {d_l_take : FuncData} {f_l_value : Addr} {d_l_value : FuncData} (T : FT K mg "_law_wanted" s_l_wanted ["_law_box", "_law_book", "_law_places_here"] f fd) (B : Blt mg) (T_l_choose : FT K mg "_law_choose" s_l_choose ["_law_box", "_law_rows", "_law_count"] f_l_choose d_l_choose) (G_l_choose : FnOk P w K mg base CX0 2 f_l_choose d_l_choose ["_law_box", "_law_rows", "_law_count"] (sp_l_choose K)) (T_l_take : FT K mg "_law_take" s_l_take ["_law_box", "_law_size"] f_l_take d_l_take) (G_l_take : FnOk P w K mg base CX0 1 f_l_take d_l_take ["_law_box", "_law_size"] (sp_l_take K)) (T_l_value : FT K mg "_law_value" s_l_value ["_law_box"] f_l_value d_l_value) (G_l_value : FnOk P w K mg base CX0 2 f_l_value d_l_value ["_law_box"] (sp_l_value K)) : FnOk P w K mg base CX0 3 f fd ["_law_box", "_law_book", "_law_places_here"] (sp_l_wanted K) := by
  refine T.fn.ok sc_l_wanted (fun vs H Q E h => ?_) (fun cdv A outer s H vs Q E hr h => ?_)
  · obtain ⟨_, _, _, _, _, _, _, _, _, _, rfl, _⟩ := h
    rfl
  · obtain ⟨F0, Os0, x_box, x_book, x_places_here, a_box, v_book, v_places_here, res, b_box, rfl, w0, r_book, r_places_here, h, kQ⟩ := h
    have nd := sc_l_wanted.nd
    refine ⟨_, pss_w, ?_⟩
    unfold M_l_wanted at h
    show Ws _ _ _ [some (.ref a_box), some v_book, some v_places_here, none, none, none] _
    obtain ⟨x_writes1, ex_writes1, h⟩ := lt_some h
    refine ws_setN (n := 3) (O := (oDict rInt) x_writes1) w0 (EvN.eqO (O := (oDict rInt)) evn_dnew ex_writes1) nd (fun p_writes2 F3 H3 s3 w3 => ?_)
    have w4 := w3.back (i := 1)
    show Ws _ _ _ [some (.ref a_box), some v_book, some v_places_here, some (.ref p_writes2), none, none] _
    obtain ⟨t5, et5, h⟩ := bd_some h
    obtain ⟨t6, et6, h⟩ := bd_some h
    obtain ⟨z8, hz8, hk8⟩ := bd_some h
    refine ws_j (fun (sg : L2.St) (Hm : Hp) => ∃ (Fm : Hp) (x_box13 : (List Int)) (x_writes14 : (List (Int × Int))) (o15 : Option V) (o16 : Option V) , sg = [some (.ref a_box), some v_book, some v_places_here, some (.ref p_writes2), o15, o16] ∧ Same F3 Fm ∧ Wf Fm ((a_box, (oList rInt) x_box13) :: (p_writes2, (oDict rInt) x_writes14) :: Os0) Hm ∧ (x_box13, x_writes14) = z8) (w1_for (n := 4) (R := rInt) w4 (EvN.fz (evn_call (O := (oList rInt) t6.1) (Os2 := ((a_box, (oList rInt) t6.2) :: (p_writes2, (oDict rInt) x_writes1) :: Os0)) G_l_choose (hr.mono (by decide)) T_l_choose.gm T_l_choose.fn.kp T_l_choose.bi pass0 (ea_cons (ev_var (n := 0) (W := (rIs (.ref a_box)).v) (x := ()) rfl rfl) (ea_cons (ev_var (n := 2) (W := (rList rInt).v) rfl ((rList rInt).mono s3 r_places_here)) (ea_cons (ev_call (U := rInt.v) (Os2 := ((a_box, (oList rInt) t5.2) :: (p_writes2, (oDict rInt) x_writes1) :: Os0)) G_l_take (hr.mono (by decide)) T_l_take.gm T_l_take.fn.kp T_l_take.bi pass0 (ea_cons (ev_var (n := 0) (W := (rIs (.ref a_box)).v) (x := ()) rfl rfl) (ea_cons (ev_add (ev_len (Ev.vw (ev_var (n := 2) (W := (rList rInt).v) rfl ((rList rInt).mono s3 r_places_here))) B.len) ev_int) ea_nil)) (fun F' Os' H' vs Q w hv q => by obtain ⟨u0, _, rfl, q0, u1, _, rfl, q1, rfl, rfl⟩ := hv; cases q0; exact ⟨F', _, x_box, (x_places_here.length : Int) + 1, a_box, u1, t5.1, t5.2, rfl, w, q1, et5, fun v F2 H2 s2 w r => by exact q v F2 H2 s2 w r⟩)) ea_nil))) (fun F' Os' H' vs Q w hv q => by obtain ⟨u0, _, rfl, q0, u1, _, rfl, q1, u2, _, rfl, q2, rfl, rfl⟩ := hv; cases q0; exact ⟨F', _, t5.2, x_places_here, t5.1, a_box, u1, u2, t6.1, t6.2, rfl, w, q1, q2, et6, fun p F2 H2 s2 w => by exact q p F2 H2 s2 w⟩))) nd (fun F7 H7 s7 w7 => ?_) PassesOwn.never) ?_
    · skip
      refine ⟨(fun (rr : List Int) (sg : L2.St) (Hm : Hp) => ∃ (Fm : Hp) (x_box9 : (List Int)) (x_writes10 : (List (Int × Int))) (o11 : Option V) (o12 : Option V) , sg = [some (.ref a_box), some v_book, some v_places_here, some (.ref p_writes2), o11, o12] ∧ Same F7 Fm ∧ Wf Fm ((a_box, (oList rInt) x_box9) :: (p_writes2, (oDict rInt) x_writes10) :: Os0) Hm ∧ foldO (fun s x => B_l_wanted_8 x_book s.1 s.2 x) (x_box9, x_writes10) rr = some z8), ⟨F7, t6.2, x_writes1, none, none, rfl, (Same.refl _), w7, hz8⟩, ?_, ?_, ?_⟩
      · rintro _ _ _ ⟨_, _, _, _, _, _, sk, wk, _⟩
        exact sk.trans wk.sub
      · skip
        rintro x17 rr _ H18 v17 ⟨F18, x_box9, x_writes10, o11, o12, rfl, s18, w18, hz8⟩ rx17
        obtain ⟨y8, hy8, hz8⟩ := foldO_some hz8
        have h : B_l_wanted_8 x_book x_box9 x_writes10 x17 = some _ := hy8
        unfold B_l_wanted_8 at h
        show Ws _ _ _ [some (.ref a_box), some v_book, some v_places_here, some (.ref p_writes2), some v17, o12] _
        obtain ⟨t19, et19, h⟩ := bd_some h
        refine ws_set (n := 5) (W := rInt.v) w18 ((ev_call (U := rInt.v) (Os2 := ((a_box, (oList rInt) t19.2) :: (p_writes2, (oDict rInt) x_writes10) :: Os0)) G_l_take (hr.mono (by decide)) T_l_take.gm T_l_take.fn.kp T_l_take.bi pass0 (ea_cons (ev_var (n := 0) (W := (rIs (.ref a_box)).v) (x := ()) rfl rfl) (ea_cons ev_int ea_nil)) (fun F' Os' H' vs Q w hv q => by obtain ⟨u0, _, rfl, q0, u1, _, rfl, q1, rfl, rfl⟩ := hv; cases q0; exact ⟨F', _, x_box9, 4, a_box, u1, t19.1, t19.2, rfl, w, q1, et19, fun v F2 H2 s2 w r => by exact q v F2 H2 s2 w r⟩))) nd (fun v20 F21 H21 s21 w21 r20 => ?_)
        show Ws _ _ _ [some (.ref a_box), some v_book, some v_places_here, some (.ref p_writes2), some v17, some v20] _
        obtain ⟨x_writes22, ex_writes22, h⟩ := bd_some h
        refine ws_dput (n := 1) (R := rInt) w21 (hu_of hr) ev_int (ev_var (n := 3) (W := (rIs (.ref p_writes2)).v) (x := ()) rfl rfl) (ev_var (n := 4) (W := rInt.v) rfl rx17) rfl ex_writes22 (fun F23 H23 s23 w23 => ?_)
        obtain ⟨y25, hy25, hk25⟩ := bd_some h
        refine ws_j (fun (sg : L2.St) (Hm : Hp) => ∃ (Fm : Hp) (x_writes26 : (List (Int × Int))) , sg = [some (.ref a_box), some v_book, some v_places_here, some (.ref p_writes2), some v17, some v20] ∧ Same F23 Fm ∧ Wf Fm ((a_box, (oList rInt) t19.2) :: (p_writes2, (oDict rInt) x_writes26) :: Os0) Hm ∧ x_writes26 = y25) (w1_if w23 (et_cmp cp_eq (ev_var (n := 5) (W := rInt.v) rfl r20) ev_int) (fun hb24 F27 H27 s27 w27 => ?_) (fun hb24 F27 H27 s27 w27 => ?_)) ?_
        · skip
          have h := (if_some hy25).1 hb24
          obtain ⟨x_writes28, ex_writes28, h⟩ := bd_some h
          refine ws_dput (n := 1) (R := rInt) w27 (hu_of hr) (ev_dget2 (hu_of hr) (Ev.vwD (ev_var (n := 1) (W := (rDict rInt).v) rfl ((rDict rInt).mono (s3.trans (s7.trans (s18.trans (s21.trans (s23.trans s27))))) r_book))) (ev_var (n := 4) (W := rInt.v) rfl rx17) ev_int) (ev_var (n := 3) (W := (rIs (.ref p_writes2)).v) (x := ()) rfl rfl) (ev_var (n := 4) (W := rInt.v) rfl rx17) rfl ex_writes28 (fun F29 H29 s29 w29 => ?_)
          refine ws_nil ?_
          exact ⟨F29, x_writes28, rfl, (s27.trans s29), w29, Option.some.inj h⟩
        · skip
          have h := (if_some hy25).2 hb24
          refine ws_nil ?_
          exact ⟨F27, x_writes22, rfl, s27, w27, Option.some.inj h⟩
        · skip
          rintro _ H30 ⟨F30, x_writes26, rfl, s30, w30, rfl⟩
          have h := hk25
          have h : K_l_wanted_25 x17 t19 x_writes26 = some _ := h
          unfold K_l_wanted_25 at h
          refine ws_if w30 (et_cmp cp_gt (ev_var (n := 5) (W := rInt.v) rfl r20) ev_int) (fun hb31 F32 H32 s32 w32 => ?_) (fun hb31 F32 H32 s32 w32 => ?_)
          · skip
            have h := (if_some h).1 hb31
            obtain ⟨t33, et33, h⟩ := bd_some h
            obtain ⟨x_writes34, ex_writes34, h⟩ := bd_some h
            refine ws_dput (n := 1) (R := rInt) w32 (hu_of hr) (ev_call (U := rInt.v) (Os2 := ((a_box, (oList rInt) t33.2) :: (p_writes2, (oDict rInt) x_writes26) :: Os0)) G_l_value (hr.mono (by decide)) T_l_value.gm T_l_value.fn.kp T_l_value.bi pass0 (ea_cons (ev_var (n := 0) (W := (rIs (.ref a_box)).v) (x := ()) rfl rfl) ea_nil) (fun F' Os' H' vs Q w hv q => by obtain ⟨u0, _, rfl, q0, rfl, rfl⟩ := hv; cases q0; exact ⟨F', _, t19.2, a_box, t33.1, t33.2, rfl, w, et33, fun v F2 H2 s2 w r => by exact q v F2 H2 s2 w r⟩)) (ev_var (n := 3) (W := (rIs (.ref p_writes2)).v) (x := ()) rfl rfl) (ev_var (n := 4) (W := rInt.v) rfl rx17) rfl ex_writes34 (fun F35 H35 s35 w35 => ?_)
            refine ws_nil ?_
            refine ws_nil ?_
            obtain rfl := Option.some.inj h
            exact ⟨F35, t33.2, x_writes34, some v17, some v20, rfl, (s18.trans (s21.trans (s23.trans (s30.trans (s32.trans s35))))), w35, hz8⟩
          · skip
            have h := (if_some h).2 hb31
            refine ws_nil ?_
            refine ws_nil ?_
            obtain rfl := Option.some.inj h
            exact ⟨F32, t19.2, x_writes26, some v17, some v20, rfl, (s18.trans (s21.trans (s23.trans (s30.trans s32)))), w32, hz8⟩
      · skip
        rintro _ H36 ⟨F36, x_box9, x_writes10, o11, o12, rfl, s36, w36, hz8⟩
        have hz := foldO_nil hz8
        exact ⟨F36, x_box9, x_writes10, o11, o12, rfl, (s7.trans s36), w36, hz.symm⟩
    · skip
      rintro _ H37 ⟨F37, x_box13, x_writes14, o15, o16, rfl, s37, w37, rfl⟩
      have h := hk8
      have h : K_l_wanted_8 x_box13 x_writes14 = some _ := h
      unfold K_l_wanted_8 at h
      obtain ⟨rfl, rfl⟩ := pair_inj h
      refine ws_ret (W := (rIs (.ref p_writes2)).v) w37 (ev_var (n := 3) (W := (rIs (.ref p_writes2)).v) (x := ()) rfl rfl) (fun vz Fz Hz sz wz rz => ?_)
      cases rz
      have wz := wz.pull (i := 1) rfl
      exact kQ _ _ _ ((s3.trans s37).trans sz) wz
abbrev s_l_copy : Stmt := topS 14
theorem sc_l_copy : FnScope ["_law_book", "_law_result", "_law_place"] ["_law_book"] (defScope s_l_copy) := ⟨rfl, rfl, rfl, by decide +kernel, rfl, by decide +kernel, by decide +kernel⟩
def sp_l_copy (K : PySem.W.Frag) : Sp := fun vs H Q _ => ∃ (F0 : Hp) (Os0 : Owns) (x_book : (List (Int × Int))) (v_book : V) (res : (List (Int × Int))), vs = [v_book] ∧ Wf F0 (Os0) H ∧ (rDict rInt).r F0 v_book x_book ∧ M_l_copy x_book = some res ∧ ∀ p F' H', Same F0 F' → Wf F' ((p, (oDict rInt) res) :: Os0) H' → Q (.ref p) H'
theorem ok_l_copy {f : Addr} {fd : FuncData} (T : FT K mg "_law_copy" s_l_copy ["_law_book"] f fd) (B : Blt mg) : FnOk P w K mg base CX0 1 f fd ["_law_book"] (sp_l_copy K) := by
  refine T.fn.ok sc_l_copy (fun vs H Q E h => ?_) (fun cdv A outer s H vs Q E hr h => ?_)
  · obtain ⟨_, _, _, _, _, rfl, _⟩ := h
    rfl
  · obtain ⟨F0, Os0, x_book, v_book, res, rfl, w0, r_book, h, kQ⟩ := h
    have nd := sc_l_copy.nd
    refine ⟨_, pss_w, ?_⟩
    unfold M_l_copy at h
    show Ws _ _ _ [some v_book, none, none] _
    obtain ⟨x_result1, ex_result1, h⟩ := lt_some h
    refine ws_setN (n := 1) (O := (oDict rInt) x_result1) w0 (EvN.eqO (O := (oDict rInt)) evn_dnew ex_result1) nd (fun p_result2 F3 H3 s3 w3 => ?_)
    show Ws _ _ _ [some v_book, some (.ref p_result2), none] _
    obtain ⟨z5, hz5, hk5⟩ := bd_some h
    refine ws_j (fun (sg : L2.St) (Hm : Hp) => ∃ (Fm : Hp) (x_result8 : (List (Int × Int))) (o9 : Option V) , sg = [some v_book, some (.ref p_result2), o9] ∧ Same F3 Fm ∧ Wf Fm ((p_result2, (oDict rInt) x_result8) :: Os0) Hm ∧ x_result8 = z5) (w1_forX w3 (ei_rev (EvN.fz (evn_listK (ev_keysV (Ev.vwD (ev_var (n := 0) (W := (rDict rInt).v) rfl ((rDict rInt).mono s3 r_book)))) B.list)) B.reversed) (fun F4 H4 s4 w4 => ?_) PassesOwn.never) ?_
    · skip
      refine ⟨(fun (rr : List Int) (Fm : Hp) (sg : L2.St) (Hm : Hp) => ∃ (x_result6 : (List (Int × Int))) (o7 : Option V) , sg = [some v_book, some (.ref p_result2), o7] ∧ Same F4 Fm ∧ Wf Fm ((p_result2, (oDict rInt) x_result6) :: Os0) Hm ∧ foldO (fun s x => B_l_copy_5 x_book s x) x_result6 rr = some z5), ⟨F4, x_result1, none, rfl, (Same.refl _), w4, hz5⟩, ?_, ?_, ?_⟩
      · rintro _ _ _ _ ⟨k0, k1, rfl, sk, wk, ek⟩
        exact ⟨sk, _, wk, fun F3 H3 s3 w3 => ⟨k0, k1, rfl, sk.trans s3, w3, ek⟩⟩
      · skip
        rintro x10 rr F11 _ H11 v10 ⟨x_result6, o7, rfl, s11, w11, hz5⟩ rx10
        refine wg_name (n := 2) nd ?_
        obtain ⟨y5, hy5, hz5⟩ := foldO_some hz5
        have h : B_l_copy_5 x_book x_result6 x10 = some _ := hy5
        unfold B_l_copy_5 at h
        show Ws _ _ _ [some v_book, some (.ref p_result2), some v10] _
        obtain ⟨t12, et12, h⟩ := bd_some h
        obtain ⟨x_result13, ex_result13, h⟩ := bd_some h
        refine ws_dput (n := 0) (R := rInt) w11 (hu_of hr) (ev_dix (hu_of hr) et12 (Ev.vwD (ev_var (n := 0) (W := (rDict rInt).v) rfl ((rDict rInt).mono (s3.trans (s4.trans s11)) r_book))) (ev_var (n := 2) (W := rInt.v) rfl rx10)) (ev_var (n := 1) (W := (rIs (.ref p_result2)).v) (x := ()) rfl rfl) (ev_var (n := 2) (W := rInt.v) rfl rx10) rfl ex_result13 (fun F14 H14 s14 w14 => ?_)
        refine ws_nil ?_
        obtain rfl := Option.some.inj h
        exact ⟨F14, x_result13, some v10, rfl, (s11.trans s14), w14, hz5⟩
      · skip
        rintro F15 _ H15 ⟨x_result6, o7, rfl, s15, w15, hz5⟩
        have hz := foldO_nil hz5
        exact ⟨F15, x_result6, o7, rfl, (s4.trans s15), w15, hz.symm⟩
    · skip
      rintro _ H16 ⟨F16, x_result8, o9, rfl, s16, w16, rfl⟩
      have h := hk5
      have h : K_l_copy_5 x_result8 = some _ := h
      unfold K_l_copy_5 at h
      obtain rfl := Option.some.inj h
      refine ws_ret (W := (rIs (.ref p_result2)).v) w16 (ev_var (n := 1) (W := (rIs (.ref p_result2)).v) (x := ()) rfl rfl) (fun vz Fz Hz sz wz rz => ?_)
      cases rz
      have wz := wz.pull (i := 0) rfl
      exact kQ _ _ _ ((s3.trans s16).trans sz) wz
abbrev s_l_unlike : Stmt := topS 19
theorem sc_l_unlike : FnScope ["_law_base", "_law_book", "_law_places_here", "_law_due", "_law_place"] ["_law_base", "_law_book", "_law_places_here"] (defScope s_l_unlike) := ⟨rfl, rfl, rfl, by decide +kernel, rfl, by decide +kernel, by decide +kernel⟩
def sp_l_unlike (K : PySem.W.Frag) : Sp := fun vs H Q _ => ∃ (F0 : Hp) (Os0 : Owns) (x_base : (List (Int × Int))) (x_book : (List (Int × Int))) (x_places_here : (List Int)) (v_base : V) (v_book : V) (v_places_here : V) (res : (List (Int × Int))), vs = [v_base, v_book, v_places_here] ∧ Wf F0 (Os0) H ∧ (rDict rInt).r F0 v_base x_base ∧ (rDict rInt).r F0 v_book x_book ∧ (rList rInt).r F0 v_places_here x_places_here ∧ M_l_unlike x_base x_book x_places_here = some res ∧ ∀ p F' H', Same F0 F' → Wf F' ((p, (oDict rInt) res) :: Os0) H' → Q (.ref p) H'
theorem ok_l_unlike {f : Addr} {fd : FuncData} (T : FT K mg "_law_unlike" s_l_unlike ["_law_base", "_law_book", "_law_places_here"] f fd) (B : Blt mg) : FnOk P w K mg base CX0 1 f fd ["_law_base", "_law_book", "_law_places_here"] (sp_l_unlike K) := by
  refine T.fn.ok sc_l_unlike (fun vs H Q E h => ?_) (fun cdv A outer s H vs Q E hr h => ?_)
  · obtain ⟨_, _, _, _, _, _, _, _, _, rfl, _⟩ := h
    rfl
  · obtain ⟨F0, Os0, x_base, x_book, x_places_here, v_base, v_book, v_places_here, res, rfl, w0, r_base, r_book, r_places_here, h, kQ⟩ := h
    have nd := sc_l_unlike.nd
    refine ⟨_, pss_w, ?_⟩
    unfold M_l_unlike at h
    show Ws _ _ _ [some v_base, some v_book, some v_places_here, none, none] _
    obtain ⟨x_due1, ex_due1, h⟩ := lt_some h
    refine ws_setN (n := 3) (O := (oDict rInt) x_due1) w0 (EvN.eqO (O := (oDict rInt)) evn_dnew ex_due1) nd (fun p_due2 F3 H3 s3 w3 => ?_)
    show Ws _ _ _ [some v_base, some v_book, some v_places_here, some (.ref p_due2), none] _
    obtain ⟨z5, hz5, hk5⟩ := bd_some h
    refine ws_j (fun (sg : L2.St) (Hm : Hp) => ∃ (Fm : Hp) (x_due8 : (List (Int × Int))) (o9 : Option V) , sg = [some v_base, some v_book, some v_places_here, some (.ref p_due2), o9] ∧ Same F3 Fm ∧ Wf Fm ((p_due2, (oDict rInt) x_due8) :: Os0) Hm ∧ x_due8 = z5) (w1_for (n := 4) (R := rInt) w3 (ev_var (n := 2) (W := (rList rInt).v) rfl ((rList rInt).mono s3 r_places_here)) nd (fun F4 H4 s4 w4 => ?_) PassesOwn.never) ?_
    · skip
      refine ⟨(fun (rr : List Int) (sg : L2.St) (Hm : Hp) => ∃ (Fm : Hp) (x_due6 : (List (Int × Int))) (o7 : Option V) , sg = [some v_base, some v_book, some v_places_here, some (.ref p_due2), o7] ∧ Same F4 Fm ∧ Wf Fm ((p_due2, (oDict rInt) x_due6) :: Os0) Hm ∧ foldO (fun s x => B_l_unlike_5 x_base x_book s x) x_due6 rr = some z5), ⟨F4, x_due1, none, rfl, (Same.refl _), w4, hz5⟩, ?_, ?_, ?_⟩
      · rintro _ _ _ ⟨_, _, _, _, sk, wk, _⟩
        exact sk.trans wk.sub
      · skip
        rintro x10 rr _ H11 v10 ⟨F11, x_due6, o7, rfl, s11, w11, hz5⟩ rx10
        obtain ⟨y5, hy5, hz5⟩ := foldO_some hz5
        have h : B_l_unlike_5 x_base x_book x_due6 x10 = some _ := hy5
        unfold B_l_unlike_5 at h
        show Ws _ _ _ [some v_base, some v_book, some v_places_here, some (.ref p_due2), some v10] _
        refine ws_if w11 (et_cmp cp_ne (ev_dget2 (hu_of hr) (Ev.vwD (ev_var (n := 0) (W := (rDict rInt).v) rfl ((rDict rInt).mono (s3.trans (s4.trans s11)) r_base))) (ev_var (n := 4) (W := rInt.v) rfl rx10) ev_int) (ev_dget2 (hu_of hr) (Ev.vwD (ev_var (n := 1) (W := (rDict rInt).v) rfl ((rDict rInt).mono (s3.trans (s4.trans s11)) r_book))) (ev_var (n := 4) (W := rInt.v) rfl rx10) ev_int)) (fun hb12 F13 H13 s13 w13 => ?_) (fun hb12 F13 H13 s13 w13 => ?_)
        · skip
          have h := (if_some h).1 hb12
          obtain ⟨x_due14, ex_due14, h⟩ := bd_some h
          refine ws_dput (n := 0) (R := rInt) w13 (hu_of hr) (ev_dget2 (hu_of hr) (Ev.vwD (ev_var (n := 1) (W := (rDict rInt).v) rfl ((rDict rInt).mono (s3.trans (s4.trans (s11.trans s13))) r_book))) (ev_var (n := 4) (W := rInt.v) rfl rx10) ev_int) (ev_var (n := 3) (W := (rIs (.ref p_due2)).v) (x := ()) rfl rfl) (ev_var (n := 4) (W := rInt.v) rfl rx10) rfl ex_due14 (fun F15 H15 s15 w15 => ?_)
          refine ws_nil ?_
          refine ws_nil ?_
          obtain rfl := Option.some.inj h
          exact ⟨F15, x_due14, some v10, rfl, (s11.trans (s13.trans s15)), w15, hz5⟩
        · skip
          have h := (if_some h).2 hb12
          refine ws_nil ?_
          refine ws_nil ?_
          obtain rfl := Option.some.inj h
          exact ⟨F13, x_due6, some v10, rfl, (s11.trans s13), w13, hz5⟩
      · skip
        rintro _ H16 ⟨F16, x_due6, o7, rfl, s16, w16, hz5⟩
        have hz := foldO_nil hz5
        exact ⟨F16, x_due6, o7, rfl, (s4.trans s16), w16, hz.symm⟩
    · skip
      rintro _ H17 ⟨F17, x_due8, o9, rfl, s17, w17, rfl⟩
      have h := hk5
      have h : K_l_unlike_5 x_due8 = some _ := h
      unfold K_l_unlike_5 at h
      obtain rfl := Option.some.inj h
      refine ws_ret (W := (rIs (.ref p_due2)).v) w17 (ev_var (n := 3) (W := (rIs (.ref p_due2)).v) (x := ()) rfl rfl) (fun vz Fz Hz sz wz rz => ?_)
      cases rz
      have wz := wz.pull (i := 0) rfl
      exact kQ _ _ _ ((s3.trans s17).trans sz) wz
abbrev s_ascending : Stmt := topS 1
theorem sc_ascending : FnScope ["numbers"] ["numbers"] (defScope s_ascending) := ⟨rfl, rfl, rfl, by decide +kernel, rfl, by decide +kernel, by decide +kernel⟩
def sp_ascending (K : PySem.W.Frag) : Sp := fun vs H Q _ => ∃ (F0 : Hp) (Os0 : Owns) (x_numbers : (List Int)) (v_numbers : V) (res : (List Int)), vs = [v_numbers] ∧ Wf F0 (Os0) H ∧ (rList rInt).r F0 v_numbers x_numbers ∧ M_ascending x_numbers = some res ∧ ∀ p F' H', Same F0 F' → Wf F' ((p, (oList rInt) res) :: Os0) H' → Q (.ref p) H'
theorem ok_ascending {f : Addr} {fd : FuncData} (T : FT K mg "ascending" s_ascending ["numbers"] f fd) (B : Blt mg) : FnOk P w K mg base CX0 1 f fd ["numbers"] (sp_ascending K) := by
  refine T.fn.ok sc_ascending (fun vs H Q E h => ?_) (fun cdv A outer s H vs Q E hr h => ?_)
  · obtain ⟨_, _, _, _, _, rfl, _⟩ := h
    rfl
  · obtain ⟨F0, Os0, x_numbers, v_numbers, res, rfl, w0, r_numbers, h, kQ⟩ := h
    have nd := sc_ascending.nd
    refine ⟨_, pss_w, ?_⟩
    unfold M_ascending at h
    show Ws _ _ _ [some v_numbers] _
    obtain ⟨t1, et1, h⟩ := bd_some h
    obtain rfl := Option.some.inj h
    refine ws_retN (O := (oList rInt) _) w0 (evn_srtSet (ev_setO et1 (Ev.vw (ev_var (n := 0) (W := (rList rInt).v) rfl r_numbers)) B.set) B.sorted) (fun pz Fz Hz sz wz => ?_)
    exact kQ _ _ _ ((Same.refl _).trans sz) wz
abbrev s_value_at : Stmt := topS 4
theorem sc_value_at : FnScope ["book", "place"] ["book", "place"] (defScope s_value_at) := ⟨rfl, rfl, rfl, by decide +kernel, rfl, by decide +kernel, by decide +kernel⟩
def sp_value_at (K : PySem.W.Frag) : Sp := fun vs H Q _ => ∃ (F0 : Hp) (Os0 : Owns) (x_book : (List (Int × Int))) (x_place : Int) (v_book : V) (v_place : V) (res : Int), vs = [v_book, v_place] ∧ Wf F0 (Os0) H ∧ (rDict rInt).r F0 v_book x_book ∧ rInt.r F0 v_place x_place ∧ M_value_at x_book x_place = some res ∧ ∀ v F' H', Same F0 F' → Wf F' (Os0) H' → rInt.r F' v res → Q v H'
theorem ok_value_at {f : Addr} {fd : FuncData} (T : FT K mg "value_at" s_value_at ["book", "place"] f fd) (B : Blt mg) : FnOk P w K mg base CX0 1 f fd ["book", "place"] (sp_value_at K) := by
  refine T.fn.ok sc_value_at (fun vs H Q E h => ?_) (fun cdv A outer s H vs Q E hr h => ?_)
  · obtain ⟨_, _, _, _, _, _, _, rfl, _⟩ := h
    rfl
  · obtain ⟨F0, Os0, x_book, x_place, v_book, v_place, res, rfl, w0, r_book, r_place, h, kQ⟩ := h
    have nd := sc_value_at.nd
    refine ⟨_, pss_w, ?_⟩
    unfold M_value_at at h
    show Ws _ _ _ [some v_book, some v_place] _
    obtain rfl := Option.some.inj h
    refine ws_ret (W := rInt.v) w0 (ev_dget2 (hu_of hr) (Ev.vwD (ev_var (n := 0) (W := (rDict rInt).v) rfl r_book)) (ev_var (n := 1) (W := rInt.v) rfl r_place) ev_int) (fun vz Fz Hz sz wz rz => ?_)
    exact kQ _ _ _ ((Same.refl _).trans sz) wz rz
abbrev s_changes : Stmt := topS 6
theorem sc_changes : FnScope ["base", "book", "places", "place"] ["base", "book"] (defScope s_changes) := ⟨rfl, rfl, rfl, by decide +kernel, rfl, by decide +kernel, by decide +kernel⟩
def sp_changes (K : PySem.W.Frag) : Sp := fun vs H Q _ => ∃ (F0 : Hp) (Os0 : Owns) (x_base : (List (Int × Int))) (x_book : (List (Int × Int))) (v_base : V) (v_book : V) (res : (List (Int × Int))), vs = [v_base, v_book] ∧ Wf F0 (Os0) H ∧ (rDict rInt).r F0 v_base x_base ∧ (rDict rInt).r F0 v_book x_book ∧ M_changes x_base x_book = some res ∧ ∀ p F' H', Same F0 F' → Wf F' ((p, (oDict rInt) res) :: Os0) H' → Q (.ref p) H'
theorem ok_changes {f : Addr} {fd : FuncData} {f_ascending : Addr} {d_ascending : FuncData} {f_value_at : Addr} {d_value_at : FuncData} (T : FT K mg "changes" s_changes ["base", "book"] f fd) (B : Blt mg) (T_ascending : FT K mg "ascending" s_ascending ["numbers"] f_ascending d_ascending) (G_ascending : FnOk P w K mg base CX0 1 f_ascending d_ascending ["numbers"] (sp_ascending K)) (T_value_at : FT K mg "value_at" s_value_at ["book", "place"] f_value_at d_value_at) (G_value_at : FnOk P w K mg base CX0 1 f_value_at d_value_at ["book", "place"] (sp_value_at K)) : FnOk P w K mg base CX0 2 f fd ["base", "book"] (sp_changes K) := by
  refine T.fn.ok sc_changes (fun vs H Q E h => ?_) (fun cdv A outer s H vs Q E hr h => ?_)
  · obtain ⟨_, _, _, _, _, _, _, rfl, _⟩ := h
    rfl
  · obtain ⟨F0, Os0, x_base, x_book, v_base, v_book, res, rfl, w0, r_base, r_book, h, kQ⟩ := h
    have nd := sc_changes.nd
    refine ⟨_, pss_w, ?_⟩
    unfold M_changes at h
    show Ws _ _ _ [some v_base, some v_book, none, none] _
    obtain ⟨t1, et1, h⟩ := bd_some h
    obtain ⟨t2, et2, h⟩ := bd_some h
    refine ws_set (n := 2) (W := (rList rInt).v) w0 ((EvN.fz (evn_call (O := (oList rInt) t2) (Os2 := (Os0)) G_ascending (hr.mono (by decide)) T_ascending.gm T_ascending.fn.kp T_ascending.bi pass0 (ea_cons (EvN.fz (evn_cat et1 (EvN.fz (evn_listD (Ev.vwD (ev_var (n := 0) (W := (rDict rInt).v) rfl r_base)) B.list)) (EvN.fz (evn_listD (Ev.vwD (ev_var (n := 1) (W := (rDict rInt).v) rfl r_book)) B.list)))) ea_nil) (fun F' Os' H' vs Q w hv q => by obtain ⟨u0, _, rfl, q0, rfl, rfl⟩ := hv; exact ⟨F', _, t1, u0, t2, rfl, w, q0, et2, fun p F2 H2 s2 w => by exact q p F2 H2 s2 w⟩)))) nd (fun v3 F4 H4 s4 w4 r3 => ?_)
    show Ws _ _ _ [some v_base, some v_book, some v3, none] _
    obtain ⟨t9, et9, h⟩ := bd_some h
    obtain rfl := Option.some.inj h
    refine ws_retN (O := (oDict rInt) _) w4 (evn_dc1 (own := [("place", 3)]) (S := rInt) (ei_list (ev_var (n := 2) (W := (rList rInt).v) rfl r3)) _ et9 (tgb_1 (n := 3) nd) (fun q5 x5 b5 F5 t5 hz5 s5 hT5 _ _ _ _ _ => by obtain ⟨v5, rfl, r5⟩ := hT5; obtain ⟨t6, et6, hz5⟩ := bd_some hz5; obtain ⟨t7, et7, hz5⟩ := bd_some hz5; exact Et.eq (et_cmp cp_ne (ev_call (U := rInt.v) (Os2 := (q5 :: Os0)) G_value_at (hr.mono (by decide)) T_value_at.gm T_value_at.fn.kp T_value_at.bi pass0 (ea_cons (ev_var (n := 0) (W := (rDict rInt).v) rfl ((rDict rInt).mono (s4.trans s5) r_base)) (ea_cons (ev_var (n := 3) (W := rInt.v) rfl r5) ea_nil)) (fun F' Os' H' vs Q w hv q => by obtain ⟨u0, _, rfl, q0, u1, _, rfl, q1, rfl, rfl⟩ := hv; exact ⟨F', _, x_base, x5, u0, u1, t6, rfl, w, q0, q1, et6, fun v F2 H2 s2 w r => by exact q v F2 H2 s2 w r⟩)) (ev_call (U := rInt.v) (Os2 := (q5 :: Os0)) G_value_at (hr.mono (by decide)) T_value_at.gm T_value_at.fn.kp T_value_at.bi pass0 (ea_cons (ev_var (n := 1) (W := (rDict rInt).v) rfl ((rDict rInt).mono (s4.trans s5) r_book)) (ea_cons (ev_var (n := 3) (W := rInt.v) rfl r5) ea_nil)) (fun F' Os' H' vs Q w hv q => by obtain ⟨u0, _, rfl, q0, u1, _, rfl, q1, rfl, rfl⟩ := hv; exact ⟨F', _, x_book, x5, u0, u1, t7, rfl, w, q0, q1, et7, fun v F2 H2 s2 w r => by exact q v F2 H2 s2 w r⟩))) (Option.some.inj hz5).symm) (fun q5 x5 z5 F5 t5 hz5 s5 hT5 _ _ _ _ _ => by obtain ⟨v5, rfl, r5⟩ := hT5; obtain ⟨t8, et8, hz5⟩ := bd_some hz5; obtain ⟨hv5, hw5⟩ := pair_eq hz5; exact ⟨Ev.eq (ev_var (n := 3) (W := rInt.v) rfl r5) hv5.symm, Ev.eq (ev_call (U := rInt.v) (Os2 := (q5 :: Os0)) G_value_at (hr.mono (by decide)) T_value_at.gm T_value_at.fn.kp T_value_at.bi pass0 (ea_cons (ev_var (n := 1) (W := (rDict rInt).v) rfl ((rDict rInt).mono (s4.trans s5) r_book)) (ea_cons (ev_var (n := 3) (W := rInt.v) rfl r5) ea_nil)) (fun F' Os' H' vs Q w hv q => by obtain ⟨u0, _, rfl, q0, u1, _, rfl, q1, rfl, rfl⟩ := hv; exact ⟨F', _, x_book, x5, u0, u1, t8, rfl, w, q0, q1, et8, fun v F2 H2 s2 w r => by exact q v F2 H2 s2 w r⟩)) hw5.symm⟩) nd (blkOk_by (N := ["base", "book", "places", "place"]) (sc := defScope s_changes) (by decide +kernel))) (fun pz Fz Hz sz wz => ?_)
    exact kQ _ _ _ (s4.trans sz) wz
abbrev s_l_is_book : Stmt := topS 13
theorem sc_l_is_book : FnScope ["_law_told", "_law_place"] ["_law_told"] (defScope s_l_is_book) := ⟨rfl, rfl, rfl, by decide +kernel, rfl, by decide +kernel, by decide +kernel⟩
def sp_l_is_book (K : PySem.W.Frag) : Sp := fun vs H Q _ => ∃ (F0 : Hp) (Os0 : Owns) (x_told : (List (Int × Int))) (v_told : V) (res : Bool), vs = [v_told] ∧ Wf F0 (Os0) H ∧ (rDict rInt).r F0 v_told x_told ∧ M_l_is_book x_told = some res ∧ ∀ v F' H', Same F0 F' → Wf F' (Os0) H' → rBool.r F' v res → Q v H'
theorem ok_l_is_book {f : Addr} {fd : FuncData} (T : FT K mg "_law_is_book" s_l_is_book ["_law_told"] f fd) (B : Blt mg) : FnOk P w K mg base CX0 1 f fd ["_law_told"] (sp_l_is_book K) := by
  refine T.fn.ok sc_l_is_book (fun vs H Q E h => ?_) (fun cdv A outer s H vs Q E hr h => ?_)
  · obtain ⟨_, _, _, _, _, rfl, _⟩ := h
    rfl
  · obtain ⟨F0, Os0, x_told, v_told, res, rfl, w0, r_told, h, kQ⟩ := h
    have nd := sc_l_is_book.nd
    refine ⟨_, pss_w, ?_⟩
    unfold M_l_is_book at h
    show Ws _ _ _ [some v_told, none] _
    refine ws_if w0 (et_not (et_val (ev_isi (t := "dict") (u := "dict") (k := true) (by decide +kernel) ty_dict (Ev.vwD (ev_var (n := 0) (W := (rDict rInt).v) rfl r_told)) B.isinstance B.dict (by decide +kernel)))) (fun hb1 F2 H2 s2 w2 => ?_) (fun hb1 F2 H2 s2 w2 => ?_)
    · skip
      have h := (if_some h).1 hb1
      obtain rfl := Option.some.inj h
      refine ws_ret (W := rBool.v) w2 ev_bool (fun vz Fz Hz sz wz rz => ?_)
      exact kQ _ _ _ (s2.trans sz) wz rz
    · skip
      have h := (if_some h).2 hb1
      refine ws_nil ?_
      obtain ⟨z4, hz4, hk4⟩ := bd_some h
      refine ws_j (fun (sg : L2.St) (Hm : Hp) => ∃ (Fm : Hp) (o6 : Option V) , sg = [some v_told, o6] ∧ Same F2 Fm ∧ Wf Fm (Os0) Hm ∧ .nx () = z4) (w1_forK (n := 1) (R := rInt) w2 (ev_var (n := 0) (W := (rDict rInt).v) rfl ((rDict rInt).mono s2 r_told)) nd (fun F3 H3 s3 w3 => ?_) PassesOwn.never) ?_
      · skip
        refine ⟨(fun (rr : List Int) (sg : L2.St) (Hm : Hp) => ∃ (Fm : Hp) (o5 : Option V) , sg = [some v_told, o5] ∧ Same F3 Fm ∧ Wf Fm (Os0) Hm ∧ foldF (fun s x => B_l_is_book_4 x_told  x) () rr = some z4), ⟨F3, none, rfl, (Same.refl _), w3, hz4⟩, ?_, ?_, ?_⟩
        · rintro _ _ _ ⟨_, _, _, sk, wk, _⟩
          exact sk.trans wk.sub
        · skip
          rintro x7 rr _ H8 v7 ⟨F8, o5, rfl, s8, w8, hz4⟩ rx7
          obtain ⟨y4, hy4, hz4⟩ := foldF_some hz4
          have h : B_l_is_book_4 x_told x7 = some _ := hy4
          unfold B_l_is_book_4 at h
          show Ws _ _ _ [some v_told, some v7] _
          refine ws_if w8 (et_w (ew_or (et_not (et_val (ev_isi (t := "int") (u := "int") (k := true) (by decide +kernel) ty_int (ev_var (n := 1) (W := rInt.v) rfl rx7) B.isinstance B.int (by decide +kernel)))) (ew_or1 (et_val (ev_isi (t := "int") (u := "bool") (k := false) (by decide +kernel) ty_int (ev_var (n := 1) (W := rInt.v) rfl rx7) B.isinstance B.bool (by decide +kernel)))))) (fun hb9 F10 H10 s10 w10 => ?_) (fun hb9 F10 H10 s10 w10 => ?_)
          · skip
            have h := (if_some h).1 hb9
            obtain rfl := Option.some.inj h
            obtain rfl := Option.some.inj hz4
            have h := flk_ret hk4
            obtain rfl := Option.some.inj h
            refine ws_ret (W := rBool.v) w10 ev_bool (fun vz Fz Hz sz wz rz => ?_)
            exact kQ _ _ _ ((s2.trans (s3.trans (s8.trans s10))).trans sz) wz rz
          · skip
            have h := (if_some h).2 hb9
            refine ws_nil ?_
            obtain ⟨t11, et11, h⟩ := bd_some h
            obtain ⟨t13, et13, h⟩ := bd_some h
            refine ws_if w10 (et_w (ew_orG (et_not (et_val (ev_isi (t := "int") (u := "int") (k := true) (by decide +kernel) ty_int (ev_dix (hu_of hr) et11 (Ev.vwD (ev_var (n := 0) (W := (rDict rInt).v) rfl ((rDict rInt).mono (s2.trans (s3.trans (s8.trans s10))) r_told))) (ev_var (n := 1) (W := rInt.v) rfl rx7)) B.isinstance B.int (by decide +kernel)))) (fun hz => by have hz := (if_some et13).2 hz; obtain ⟨t12, et12, hz⟩ := bd_some hz; exact Ew.eq (ew_or1 (et_val (ev_isi (t := "int") (u := "bool") (k := false) (by decide +kernel) ty_int (ev_dix (hu_of hr) et12 (Ev.vwD (ev_var (n := 0) (W := (rDict rInt).v) rfl ((rDict rInt).mono (s2.trans (s3.trans (s8.trans s10))) r_told))) (ev_var (n := 1) (W := rInt.v) rfl rx7)) B.isinstance B.bool (by decide +kernel)))) (Option.some.inj hz).symm) (fun hz => (Option.some.inj ((if_some et13).1 hz)).symm))) (fun hb14 F15 H15 s15 w15 => ?_) (fun hb14 F15 H15 s15 w15 => ?_)
            · skip
              have h := (if_some h).1 hb14
              obtain rfl := Option.some.inj h
              obtain rfl := Option.some.inj hz4
              have h := flk_ret hk4
              obtain rfl := Option.some.inj h
              refine ws_ret (W := rBool.v) w15 ev_bool (fun vz Fz Hz sz wz rz => ?_)
              exact kQ _ _ _ ((s2.trans (s3.trans (s8.trans (s10.trans s15)))).trans sz) wz rz
            · skip
              have h := (if_some h).2 hb14
              refine ws_nil ?_
              refine ws_nil ?_
              obtain rfl := Option.some.inj h
              exact ⟨F15, some v7, rfl, (s8.trans (s10.trans s15)), w15, hz4⟩
        · skip
          rintro _ H16 ⟨F16, o5, rfl, s16, w16, hz4⟩
          have hz := foldF_nil hz4
          exact ⟨F16, o5, rfl, (s3.trans s16), w16, hz.symm⟩
      · skip
        rintro _ H17 ⟨F17, o6, rfl, s17, w17, rfl⟩
        have h := flk_nx hk4
        have h : K_l_is_book_4  = some _ := h
        unfold K_l_is_book_4 at h
        obtain rfl := Option.some.inj h
        refine ws_ret (W := rBool.v) w17 ev_bool (fun vz Fz Hz sz wz rz => ?_)
        exact kQ _ _ _ ((s2.trans s17).trans sz) wz rz
abbrev s_cleaned : Stmt := topS 2
theorem sc_cleaned : FnScope ["book", "place", "value"] ["book"] (defScope s_cleaned) := ⟨rfl, rfl, rfl, by decide +kernel, rfl, by decide +kernel, by decide +kernel⟩
def sp_cleaned (K : PySem.W.Frag) : Sp := fun vs H Q _ => ∃ (F0 : Hp) (Os0 : Owns) (x_book : (List (Int × Int))) (v_book : V) (res : (List (Int × Int))), vs = [v_book] ∧ Wf F0 (Os0) H ∧ (rDict rInt).r F0 v_book x_book ∧ M_cleaned x_book = some res ∧ ∀ p F' H', Same F0 F' → Wf F' ((p, (oDict rInt) res) :: Os0) H' → Q (.ref p) H'
theorem ok_cleaned {f : Addr} {fd : FuncData} (T : FT K mg "cleaned" s_cleaned ["book"] f fd) (B : Blt mg) : FnOk P w K mg base CX0 1 f fd ["book"] (sp_cleaned K) := by
  refine T.fn.ok sc_cleaned (fun vs H Q E h => ?_) (fun cdv A outer s H vs Q E hr h => ?_)
  · obtain ⟨_, _, _, _, _, rfl, _⟩ := h
    rfl
  · obtain ⟨F0, Os0, x_book, v_book, res, rfl, w0, r_book, h, kQ⟩ := h
    have nd := sc_cleaned.nd
    refine ⟨_, pss_w, ?_⟩
    unfold M_cleaned at h
    show Ws _ _ _ [some v_book, none, none] _
    obtain ⟨t2, et2, h⟩ := bd_some h
    obtain rfl := Option.some.inj h
    refine ws_retN (O := (oDict rInt) _) w0 (evn_dc1 (own := [("place", 1), ("value", 2)]) (S := rInt) (ei_items (ev_var (n := 0) (W := (rDict rInt).v) rfl r_book)) _ et2 (tgb_2 (n := 1) (m := 2) nd (by decide)) (fun q1 x1 b1 F1 t1 hz1 s1 hT1 _ _ _ _ _ => by obtain ⟨v1, u1, rfl, r1, k1⟩ := hT1; exact Et.eq (et_cmp cp_ne (ev_var (n := 2) (W := rInt.v) rfl k1) ev_int) (Option.some.inj hz1).symm) (fun q1 x1 z1 F1 t1 hz1 s1 hT1 _ _ _ _ _ => by obtain ⟨v1, u1, rfl, r1, k1⟩ := hT1; obtain ⟨hv1, hw1⟩ := pair_eq hz1; exact ⟨Ev.eq (ev_var (n := 1) (W := rInt.v) rfl r1) hv1.symm, Ev.eq (ev_var (n := 2) (W := rInt.v) rfl k1) hw1.symm⟩) nd (blkOk_by (N := ["book", "place", "value"]) (sc := defScope s_cleaned) (by decide +kernel))) (fun pz Fz Hz sz wz => ?_)
    exact kQ _ _ _ ((Same.refl _).trans sz) wz
abbrev s_with_writes : Stmt := topS 5
theorem sc_with_writes : FnScope ["book", "writes"] ["book", "writes"] (defScope s_with_writes) := ⟨rfl, rfl, rfl, by decide +kernel, rfl, by decide +kernel, by decide +kernel⟩
def sp_with_writes (K : PySem.W.Frag) : Sp := fun vs H Q _ => ∃ (F0 : Hp) (Os0 : Owns) (x_book : (List (Int × Int))) (x_writes : (List (Int × Int))) (v_book : V) (v_writes : V) (res : (List (Int × Int))), vs = [v_book, v_writes] ∧ Wf F0 (Os0) H ∧ (rDict rInt).r F0 v_book x_book ∧ (rDict rInt).r F0 v_writes x_writes ∧ M_with_writes x_book x_writes = some res ∧ ∀ p F' H', Same F0 F' → Wf F' ((p, (oDict rInt) res) :: Os0) H' → Q (.ref p) H'
theorem ok_with_writes {f : Addr} {fd : FuncData} {f_cleaned : Addr} {d_cleaned : FuncData} (T : FT K mg "with_writes" s_with_writes ["book", "writes"] f fd) (B : Blt mg) (T_cleaned : FT K mg "cleaned" s_cleaned ["book"] f_cleaned d_cleaned) (G_cleaned : FnOk P w K mg base CX0 1 f_cleaned d_cleaned ["book"] (sp_cleaned K)) : FnOk P w K mg base CX0 2 f fd ["book", "writes"] (sp_with_writes K) := by
  refine T.fn.ok sc_with_writes (fun vs H Q E h => ?_) (fun cdv A outer s H vs Q E hr h => ?_)
  · obtain ⟨_, _, _, _, _, _, _, rfl, _⟩ := h
    rfl
  · obtain ⟨F0, Os0, x_book, x_writes, v_book, v_writes, res, rfl, w0, r_book, r_writes, h, kQ⟩ := h
    have nd := sc_with_writes.nd
    refine ⟨_, pss_w, ?_⟩
    unfold M_with_writes at h
    show Ws _ _ _ [some v_book, some v_writes] _
    obtain ⟨t2, et2, h⟩ := bd_some h
    obtain ⟨t3, et3, h⟩ := bd_some h
    obtain rfl := Option.some.inj h
    refine ws_retN (O := (oDict rInt) _) w0 (evn_call (O := (oDict rInt) t3) (Os2 := (Os0)) G_cleaned (hr.mono (by decide)) T_cleaned.gm T_cleaned.fn.kp T_cleaned.bi pass0 (ea_cons (EvN.fzD (evn_star2 et2 (fun pn1 => (ev_var (n := 0) (W := (rDict rInt).v) rfl r_book)) (fun pn1 => (ev_var (n := 1) (W := (rDict rInt).v) rfl r_writes)))) ea_nil) (fun F' Os' H' vs Q w hv q => by obtain ⟨u0, _, rfl, q0, rfl, rfl⟩ := hv; exact ⟨F', _, t2, u0, t3, rfl, w, q0, et3, fun p F2 H2 s2 w => by exact q p F2 H2 s2 w⟩)) (fun pz Fz Hz sz wz => ?_)
    exact kQ _ _ _ ((Same.refl _).trans sz) wz
abbrev s_l_leads : Stmt := topS 21
theorem sc_l_leads : FnScope ["_law_base", "_law_book", "_law_places_here", "_law_one", "_law_two", "_law_due", "_law_told", "_law_same", "_law_again", "_law_back"] ["_law_base", "_law_book", "_law_places_here"] (defScope s_l_leads) := ⟨rfl, rfl, rfl, by decide +kernel, rfl, by decide +kernel, by decide +kernel⟩
def sp_l_leads (K : PySem.W.Frag) : Sp := fun vs H Q _ => ∃ (F0 : Hp) (Os0 : Owns) (x_base : (List (Int × Int))) (x_book : (List (Int × Int))) (x_places_here : (List Int)) (v_base : V) (v_book : V) (v_places_here : V) (res : Bool), vs = [v_base, v_book, v_places_here] ∧ Wf F0 (Os0) H ∧ (rDict rInt).r F0 v_base x_base ∧ (rDict rInt).r F0 v_book x_book ∧ (rList rInt).r F0 v_places_here x_places_here ∧ M_l_leads x_base x_book x_places_here = some res ∧ ∀ v F' H', Same F0 F' → Wf F' (Os0) H' → rBool.r F' v res → Q v H'
theorem ok_l_leads {f : Addr} {fd : FuncData} {f_l_copy : Addr} {d_l_copy : FuncData} {f_l_unlike : Addr} {d_l_unlike : FuncData} {f_changes : Addr} {d_changes : FuncData} {f_l_is_book : Addr} {d_l_is_book : FuncData} {f_with_writes : Addr} {d_with_writes : FuncData} (T : FT K mg "_law_leads" s_l_leads ["_law_base", "_law_book", "_law_places_here"] f fd) (B : Blt mg) (T_l_copy : FT K mg "_law_copy" s_l_copy ["_law_book"] f_l_copy d_l_copy) (G_l_copy : FnOk P w K mg base CX0 1 f_l_copy d_l_copy ["_law_book"] (sp_l_copy K)) (T_l_unlike : FT K mg "_law_unlike" s_l_unlike ["_law_base", "_law_book", "_law_places_here"] f_l_unlike d_l_unlike) (G_l_unlike : FnOk P w K mg base CX0 1 f_l_unlike d_l_unlike ["_law_base", "_law_book", "_law_places_here"] (sp_l_unlike K)) (T_changes : FT K mg "changes" s_changes ["base", "book"] f_changes d_changes) (G_changes : FnOk P w K mg base CX0 2 f_changes d_changes ["base", "book"] (sp_changes K)) (T_l_is_book : FT K mg "_law_is_book" s_l_is_book ["_law_told"] f_l_is_book d_l_is_book) (G_l_is_book : FnOk P w K mg base CX0 1 f_l_is_book d_l_is_book ["_law_told"] (sp_l_is_book K)) (T_with_writes : FT K mg "with_writes" s_with_writes ["book", "writes"] f_with_writes d_with_writes) (G_with_writes : FnOk P w K mg base CX0 2 f_with_writes d_with_writes ["book", "writes"] (sp_with_writes K)) : FnOk P w K mg base CX0 3 f fd ["_law_base", "_law_book", "_law_places_here"] (sp_l_leads K) := by
  refine T.fn.ok sc_l_leads (fun vs H Q E h => ?_) (fun cdv A outer s H vs Q E hr h => ?_)
  · obtain ⟨_, _, _, _, _, _, _, _, _, rfl, _⟩ := h
    rfl
  · obtain ⟨F0, Os0, x_base, x_book, x_places_here, v_base, v_book, v_places_here, res, rfl, w0, r_base, r_book, r_places_here, h, kQ⟩ := h
    have nd := sc_l_leads.nd
    refine ⟨_, pss_w, ?_⟩
    unfold M_l_leads at h
    show Ws _ _ _ [some v_base, some v_book, some v_places_here, none, none, none, none, none, none, none] _
    obtain ⟨t1, et1, h⟩ := bd_some h
    refine ws_setN (n := 3) (O := (oDict rInt) t1) w0 ((evn_call (O := (oDict rInt) t1) (Os2 := (Os0)) G_l_copy (hr.mono (by decide)) T_l_copy.gm T_l_copy.fn.kp T_l_copy.bi pass0 (ea_cons (ev_var (n := 0) (W := (rDict rInt).v) rfl r_base) ea_nil) (fun F' Os' H' vs Q w hv q => by obtain ⟨u0, _, rfl, q0, rfl, rfl⟩ := hv; exact ⟨F', _, x_base, u0, t1, rfl, w, q0, et1, fun p F2 H2 s2 w => by exact q p F2 H2 s2 w⟩))) nd (fun p_one2 F3 H3 s3 w3 => ?_)
    show Ws _ _ _ [some v_base, some v_book, some v_places_here, some (.ref p_one2), none, none, none, none, none, none] _
    obtain ⟨t4, et4, h⟩ := bd_some h
    refine ws_set (n := 4) (W := (rDict rInt).v) w3 ((EvN.fzD (evn_call (O := (oDict rInt) t4) (Os2 := ((p_one2, (oDict rInt) t1) :: Os0)) G_l_copy (hr.mono (by decide)) T_l_copy.gm T_l_copy.fn.kp T_l_copy.bi pass0 (ea_cons (ev_var (n := 1) (W := (rDict rInt).v) rfl ((rDict rInt).mono s3 r_book)) ea_nil) (fun F' Os' H' vs Q w hv q => by obtain ⟨u0, _, rfl, q0, rfl, rfl⟩ := hv; exact ⟨F', _, x_book, u0, t4, rfl, w, q0, et4, fun p F2 H2 s2 w => by exact q p F2 H2 s2 w⟩)))) nd (fun v5 F6 H6 s6 w6 r5 => ?_)
    show Ws _ _ _ [some v_base, some v_book, some v_places_here, some (.ref p_one2), some v5, none, none, none, none, none] _
    obtain ⟨t7, et7, h⟩ := bd_some h
    refine ws_setN (n := 5) (O := (oDict rInt) t7) w6 ((evn_call (O := (oDict rInt) t7) (Os2 := ((p_one2, (oDict rInt) t1) :: Os0)) G_l_unlike (hr.mono (by decide)) T_l_unlike.gm T_l_unlike.fn.kp T_l_unlike.bi pass0 (ea_cons (ev_var (n := 0) (W := (rDict rInt).v) rfl ((rDict rInt).mono (s3.trans s6) r_base)) (ea_cons (ev_var (n := 1) (W := (rDict rInt).v) rfl ((rDict rInt).mono (s3.trans s6) r_book)) (ea_cons (ev_var (n := 2) (W := (rList rInt).v) rfl ((rList rInt).mono (s3.trans s6) r_places_here)) ea_nil))) (fun F' Os' H' vs Q w hv q => by obtain ⟨u0, _, rfl, q0, u1, _, rfl, q1, u2, _, rfl, q2, rfl, rfl⟩ := hv; exact ⟨F', _, x_base, x_book, x_places_here, u0, u1, u2, t7, rfl, w, q0, q1, q2, et7, fun p F2 H2 s2 w => by exact q p F2 H2 s2 w⟩))) nd (fun p_due8 F9 H9 s9 w9 => ?_)
    have w10 := w9.back (i := 1)
    show Ws _ _ _ [some v_base, some v_book, some v_places_here, some (.ref p_one2), some v5, some (.ref p_due8), none, none, none, none] _
    obtain ⟨t11, et11, h⟩ := bd_some h
    refine ws_setN (n := 6) (O := (oDict rInt) t11) w10 ((evn_lockD (i := 0) (l := p_one2) (R := rInt) (d := t1) rfl (evn_call (O := (oDict rInt) t11) (Os2 := ((p_one2, (oFrz rInt) t1) :: (p_due8, (oDict rInt) t7) :: Os0)) G_changes (hr.mono (by decide)) T_changes.gm T_changes.fn.kp T_changes.bi pass0 (ea_cons (ev_var (n := 3) (W := (rIs (.ref p_one2)).v) (x := ()) rfl rfl) (ea_cons (ev_var (n := 4) (W := (rDict rInt).v) rfl ((rDict rInt).mono s9 r5)) ea_nil)) (fun F' Os' H' vs Q w hv q => by obtain ⟨u0, _, rfl, q0, u1, _, rfl, q1, rfl, rfl⟩ := hv; obtain ⟨G, Ex, sG, wG, rG, bG⟩ := Wf.tmpM (Ms := []) (Os := (p_one2, (oFrz rInt) t1) :: (p_due8, (oDict rInt) t7) :: Os0) w [p_one2] (List.forall_mem_cons.mpr ⟨own_frz (Ms := []) (Os := (p_one2, (oFrz rInt) t1) :: (p_due8, (oDict rInt) t7) :: Os0) w (i := 0) rfl, List.forall_mem_nil _⟩); cases q0; have rt0 : ((rDict rInt)).r G (.ref p_one2) t1 := (by obtain ⟨o, h1, z, kvs, h2, h3⟩ := rG _ _ (List.mem_of_getElem? (i := 0) rfl) (by simp); subst h2; exact ⟨_, z, kvs, rfl, h1, h3⟩); exact ⟨G, _, t1, t4, (.ref p_one2), u1, t11, rfl, wG, rt0, ((rDict rInt).mono sG q1), et11, fun p F2 H2 s2 w => by obtain ⟨F3, s3, w, nl3⟩ := bG F2 H2 (_ :: []) s2 (List.forall_mem_cons.mpr ⟨(nl_D nl_int _), List.forall_mem_nil _⟩) w; exact q p F3 H2 s3 w⟩)) rfl)) nd (fun p_told12 F13 H13 s13 w13 => ?_)
    have w14 := w13.back (i := 2)
    show Ws _ _ _ [some v_base, some v_book, some v_places_here, some (.ref p_one2), some v5, some (.ref p_due8), some (.ref p_told12), none, none, none] _
    obtain ⟨t15, et15, h⟩ := bd_some h
    obtain ⟨t21, et21, h⟩ := bd_some h
    refine ws_if w14 (et_w (ew_orG (et_not (et_val (ev_lockD (i := 2) (l := p_told12) (R := rInt) (d := t11) rfl (ev_call (U := rBool.v) (Os2 := ((p_one2, (oDict rInt) t1) :: (p_due8, (oDict rInt) t7) :: (p_told12, (oFrz rInt) t11) :: Os0)) G_l_is_book (hr.mono (by decide)) T_l_is_book.gm T_l_is_book.fn.kp T_l_is_book.bi pass0 (ea_cons (ev_var (n := 6) (W := (rIs (.ref p_told12)).v) (x := ()) rfl rfl) ea_nil) (fun F' Os' H' vs Q w hv q => by obtain ⟨u0, _, rfl, q0, rfl, rfl⟩ := hv; obtain ⟨G, Ex, sG, wG, rG, bG⟩ := Wf.tmpM (Ms := []) (Os := (p_one2, (oDict rInt) t1) :: (p_due8, (oDict rInt) t7) :: (p_told12, (oFrz rInt) t11) :: Os0) w [p_told12] (List.forall_mem_cons.mpr ⟨own_frz (Ms := []) (Os := (p_one2, (oDict rInt) t1) :: (p_due8, (oDict rInt) t7) :: (p_told12, (oFrz rInt) t11) :: Os0) w (i := 2) rfl, List.forall_mem_nil _⟩); cases q0; have rt0 : ((rDict rInt)).r G (.ref p_told12) t11 := (by obtain ⟨o, h1, z, kvs, h2, h3⟩ := rG _ _ (List.mem_of_getElem? (i := 2) rfl) (by simp); subst h2; exact ⟨_, z, kvs, rfl, h1, h3⟩); exact ⟨G, _, t11, (.ref p_told12), t15, rfl, wG, rt0, et15, fun v F2 H2 s2 w r => by obtain ⟨F3, s3, w, nl3⟩ := bG F2 H2 [] s2 (List.forall_mem_nil _) w; exact q v F3 H2 s3 w (nl_bool F2 F3 _ _ nl3 r)⟩)) rfl))) (fun hz => by have hz := (if_some et21).2 hz; obtain ⟨t16, et16, hz⟩ := bd_some hz; obtain ⟨t20, et20, hz⟩ := bd_some hz; exact Ew.eq (ew_orG (et_cmpV (cp_neQ (qt_D (qv_E enc_I dr_I)) et16 (u130 hr)) (Ev.only (ev_var (n := 6) (W := (vDict rInt)) rfl (vDict.own (i := 2) rfl))) (Ev.only (ev_var (n := 5) (W := (vDict rInt)) rfl (vDict.own (i := 1) rfl)))) (fun hz => by have hz := (if_some et20).2 hz; obtain ⟨t17, et17, hz⟩ := bd_some hz; obtain ⟨t19, et19, hz⟩ := bd_some hz; exact Ew.eq (ew_orG (et_cmpV (cp_neQ (qt_D (qv_E enc_I dr_I)) et17 (u130 hr)) (Ev.only (ev_var (n := 3) (W := (vDict rInt)) rfl (vDict.own (i := 0) rfl))) (Ev.only (Ev.vwD (ev_var (n := 0) (W := (rDict rInt).v) rfl ((rDict rInt).mono (s3.trans (s6.trans (s9.trans s13))) r_base))))) (fun hz => by have hz := (if_some et19).2 hz; obtain ⟨t18, et18, hz⟩ := bd_some hz; exact Ew.eq (ew_or1 (et_cmpV (cp_neQ (qt_D (qv_E enc_I dr_I)) et18 (u130 hr)) (Ev.only (Ev.vwD (ev_var (n := 4) (W := (rDict rInt).v) rfl ((rDict rInt).mono (s9.trans s13) r5)))) (Ev.only (Ev.vwD (ev_var (n := 1) (W := (rDict rInt).v) rfl ((rDict rInt).mono (s3.trans (s6.trans (s9.trans s13))) r_book)))))) (Option.some.inj hz).symm) (fun hz => (Option.some.inj ((if_some et19).1 hz)).symm)) (Option.some.inj hz).symm) (fun hz => (Option.some.inj ((if_some et20).1 hz)).symm)) (Option.some.inj hz).symm) (fun hz => (Option.some.inj ((if_some et21).1 hz)).symm))) (fun hb22 F23 H23 s23 w23 => ?_) (fun hb22 F23 H23 s23 w23 => ?_)
    · skip
      have h := (if_some h).1 hb22
      obtain rfl := Option.some.inj h
      refine ws_ret (W := rBool.v) w23 ev_bool (fun vz Fz Hz sz wz rz => ?_)
      have wz := wz.drop (i := 0)
      have wz := wz.drop (i := 0)
      have wz := wz.drop (i := 0)
      exact kQ _ _ _ ((s3.trans (s6.trans (s9.trans (s13.trans s23)))).trans sz) wz rz
    · skip
      have h := (if_some h).2 hb22
      refine ws_nil ?_
      obtain ⟨x_told24, ex_told24, h⟩ := bd_some h
      refine ws_dput (n := 2) (R := rInt) w23 (hu_of hr) ev_int (ev_var (n := 6) (W := (rIs (.ref p_told12)).v) (x := ()) rfl rfl) ev_int rfl ex_told24 (fun F25 H25 s25 w25 => ?_)
      obtain ⟨t26, et26, h⟩ := bd_some h
      refine ws_setN (n := 7) (O := (oDict rInt) t26) w25 ((evn_call (O := (oDict rInt) t26) (Os2 := ((p_one2, (oDict rInt) t1) :: (p_due8, (oDict rInt) t7) :: (p_told12, (oDict rInt) x_told24) :: Os0)) G_changes (hr.mono (by decide)) T_changes.gm T_changes.fn.kp T_changes.bi pass0 (ea_cons (ev_var (n := 4) (W := (rDict rInt).v) rfl ((rDict rInt).mono (s9.trans (s13.trans (s23.trans s25))) r5)) (ea_cons (ev_var (n := 4) (W := (rDict rInt).v) rfl ((rDict rInt).mono (s9.trans (s13.trans (s23.trans s25))) r5)) ea_nil)) (fun F' Os' H' vs Q w hv q => by obtain ⟨u0, _, rfl, q0, u1, _, rfl, q1, rfl, rfl⟩ := hv; exact ⟨F', _, t4, t4, u0, u1, t26, rfl, w, q0, q1, et26, fun p F2 H2 s2 w => by exact q p F2 H2 s2 w⟩))) nd (fun p_same27 F28 H28 s28 w28 => ?_)
      have w29 := w28.back (i := 3)
      show Ws _ _ _ [some v_base, some v_book, some v_places_here, some (.ref p_one2), some v5, some (.ref p_due8), some (.ref p_told12), some (.ref p_same27), none, none] _
      obtain ⟨t30, et30, h⟩ := bd_some h
      refine ws_if w29 (et_w (ew_or (et_not (et_val (ev_lockD (i := 3) (l := p_same27) (R := rInt) (d := t26) rfl (ev_call (U := rBool.v) (Os2 := ((p_one2, (oDict rInt) t1) :: (p_due8, (oDict rInt) t7) :: (p_told12, (oDict rInt) x_told24) :: (p_same27, (oFrz rInt) t26) :: Os0)) G_l_is_book (hr.mono (by decide)) T_l_is_book.gm T_l_is_book.fn.kp T_l_is_book.bi pass0 (ea_cons (ev_var (n := 7) (W := (rIs (.ref p_same27)).v) (x := ()) rfl rfl) ea_nil) (fun F' Os' H' vs Q w hv q => by obtain ⟨u0, _, rfl, q0, rfl, rfl⟩ := hv; obtain ⟨G, Ex, sG, wG, rG, bG⟩ := Wf.tmpM (Ms := []) (Os := (p_one2, (oDict rInt) t1) :: (p_due8, (oDict rInt) t7) :: (p_told12, (oDict rInt) x_told24) :: (p_same27, (oFrz rInt) t26) :: Os0) w [p_same27] (List.forall_mem_cons.mpr ⟨own_frz (Ms := []) (Os := (p_one2, (oDict rInt) t1) :: (p_due8, (oDict rInt) t7) :: (p_told12, (oDict rInt) x_told24) :: (p_same27, (oFrz rInt) t26) :: Os0) w (i := 3) rfl, List.forall_mem_nil _⟩); cases q0; have rt0 : ((rDict rInt)).r G (.ref p_same27) t26 := (by obtain ⟨o, h1, z, kvs, h2, h3⟩ := rG _ _ (List.mem_of_getElem? (i := 3) rfl) (by simp); subst h2; exact ⟨_, z, kvs, rfl, h1, h3⟩); exact ⟨G, _, t26, (.ref p_same27), t30, rfl, wG, rt0, et30, fun v F2 H2 s2 w r => by obtain ⟨F3, s3, w, nl3⟩ := bG F2 H2 [] s2 (List.forall_mem_nil _) w; exact q v F3 H2 s3 w (nl_bool F2 F3 _ _ nl3 r)⟩)) rfl))) (ew_or1 (et_cmp cp_gt (ev_lenD (ev_var (n := 7) (W := (vDict rInt)) rfl (vDict.own (i := 3) rfl)) B.len) ev_int)))) (fun hb31 F32 H32 s32 w32 => ?_) (fun hb31 F32 H32 s32 w32 => ?_)
      · skip
        have h := (if_some h).1 hb31
        obtain rfl := Option.some.inj h
        refine ws_ret (W := rBool.v) w32 ev_bool (fun vz Fz Hz sz wz rz => ?_)
        have wz := wz.drop (i := 0)
        have wz := wz.drop (i := 0)
        have wz := wz.drop (i := 0)
        have wz := wz.drop (i := 0)
        exact kQ _ _ _ ((s3.trans (s6.trans (s9.trans (s13.trans (s23.trans (s25.trans (s28.trans s32))))))).trans sz) wz rz
      · skip
        have h := (if_some h).2 hb31
        refine ws_nil ?_
        obtain ⟨x_same33, ex_same33, h⟩ := bd_some h
        refine ws_dput (n := 3) (R := rInt) w32 (hu_of hr) ev_int (ev_var (n := 7) (W := (rIs (.ref p_same27)).v) (x := ()) rfl rfl) ev_int rfl ex_same33 (fun F34 H34 s34 w34 => ?_)
        obtain ⟨t35, et35, h⟩ := bd_some h
        refine ws_set (n := 8) (W := (rDict rInt).v) w34 ((EvN.fzD (evn_lockD (i := 0) (l := p_one2) (R := rInt) (d := t1) rfl (evn_call (O := (oDict rInt) t35) (Os2 := ((p_one2, (oFrz rInt) t1) :: (p_due8, (oDict rInt) t7) :: (p_told12, (oDict rInt) x_told24) :: (p_same27, (oDict rInt) x_same33) :: Os0)) G_changes (hr.mono (by decide)) T_changes.gm T_changes.fn.kp T_changes.bi pass0 (ea_cons (ev_var (n := 3) (W := (rIs (.ref p_one2)).v) (x := ()) rfl rfl) (ea_cons (ev_var (n := 4) (W := (rDict rInt).v) rfl ((rDict rInt).mono (s9.trans (s13.trans (s23.trans (s25.trans (s28.trans (s32.trans s34)))))) r5)) ea_nil)) (fun F' Os' H' vs Q w hv q => by obtain ⟨u0, _, rfl, q0, u1, _, rfl, q1, rfl, rfl⟩ := hv; obtain ⟨G, Ex, sG, wG, rG, bG⟩ := Wf.tmpM (Ms := []) (Os := (p_one2, (oFrz rInt) t1) :: (p_due8, (oDict rInt) t7) :: (p_told12, (oDict rInt) x_told24) :: (p_same27, (oDict rInt) x_same33) :: Os0) w [p_one2] (List.forall_mem_cons.mpr ⟨own_frz (Ms := []) (Os := (p_one2, (oFrz rInt) t1) :: (p_due8, (oDict rInt) t7) :: (p_told12, (oDict rInt) x_told24) :: (p_same27, (oDict rInt) x_same33) :: Os0) w (i := 0) rfl, List.forall_mem_nil _⟩); cases q0; have rt0 : ((rDict rInt)).r G (.ref p_one2) t1 := (by obtain ⟨o, h1, z, kvs, h2, h3⟩ := rG _ _ (List.mem_of_getElem? (i := 0) rfl) (by simp); subst h2; exact ⟨_, z, kvs, rfl, h1, h3⟩); exact ⟨G, _, t1, t4, (.ref p_one2), u1, t35, rfl, wG, rt0, ((rDict rInt).mono sG q1), et35, fun p F2 H2 s2 w => by obtain ⟨F3, s3, w, nl3⟩ := bG F2 H2 (_ :: []) s2 (List.forall_mem_cons.mpr ⟨(nl_D nl_int _), List.forall_mem_nil _⟩) w; exact q p F3 H2 s3 w⟩)) rfl))) nd (fun v36 F37 H37 s37 w37 r36 => ?_)
        show Ws _ _ _ [some v_base, some v_book, some v_places_here, some (.ref p_one2), some v5, some (.ref p_due8), some (.ref p_told12), some (.ref p_same27), some v36, none] _
        obtain ⟨t38, et38, h⟩ := bd_some h
        obtain ⟨t44, et44, h⟩ := bd_some h
        refine ws_if w37 (et_w (ew_orG (et_not (et_val (ev_call (U := rBool.v) (Os2 := ((p_one2, (oDict rInt) t1) :: (p_due8, (oDict rInt) t7) :: (p_told12, (oDict rInt) x_told24) :: (p_same27, (oDict rInt) x_same33) :: Os0)) G_l_is_book (hr.mono (by decide)) T_l_is_book.gm T_l_is_book.fn.kp T_l_is_book.bi pass0 (ea_cons (ev_var (n := 8) (W := (rDict rInt).v) rfl r36) ea_nil) (fun F' Os' H' vs Q w hv q => by obtain ⟨u0, _, rfl, q0, rfl, rfl⟩ := hv; exact ⟨F', _, t35, u0, t38, rfl, w, q0, et38, fun v F2 H2 s2 w r => by exact q v F2 H2 s2 w r⟩)))) (fun hz => by have hz := (if_some et44).2 hz; obtain ⟨t39, et39, hz⟩ := bd_some hz; obtain ⟨t43, et43, hz⟩ := bd_some hz; exact Ew.eq (ew_orG (et_cmpV (cp_neQ (qt_D (qv_E enc_I dr_I)) et39 (u130 hr)) (Ev.only (Ev.vwD (ev_var (n := 8) (W := (rDict rInt).v) rfl r36))) (Ev.only (ev_var (n := 5) (W := (vDict rInt)) rfl (vDict.own (i := 1) rfl)))) (fun hz => by have hz := (if_some et43).2 hz; obtain ⟨t40, et40, hz⟩ := bd_some hz; obtain ⟨t42, et42, hz⟩ := bd_some hz; exact Ew.eq (ew_orG (et_cmpV (cp_neQ (qt_D (qv_E enc_I dr_I)) et40 (u130 hr)) (Ev.only (ev_var (n := 3) (W := (vDict rInt)) rfl (vDict.own (i := 0) rfl))) (Ev.only (Ev.vwD (ev_var (n := 0) (W := (rDict rInt).v) rfl ((rDict rInt).mono (s3.trans (s6.trans (s9.trans (s13.trans (s23.trans (s25.trans (s28.trans (s32.trans (s34.trans s37))))))))) r_base))))) (fun hz => by have hz := (if_some et42).2 hz; obtain ⟨t41, et41, hz⟩ := bd_some hz; exact Ew.eq (ew_or1 (et_cmpV (cp_neQ (qt_D (qv_E enc_I dr_I)) et41 (u130 hr)) (Ev.only (Ev.vwD (ev_var (n := 4) (W := (rDict rInt).v) rfl ((rDict rInt).mono (s9.trans (s13.trans (s23.trans (s25.trans (s28.trans (s32.trans (s34.trans s37))))))) r5)))) (Ev.only (Ev.vwD (ev_var (n := 1) (W := (rDict rInt).v) rfl ((rDict rInt).mono (s3.trans (s6.trans (s9.trans (s13.trans (s23.trans (s25.trans (s28.trans (s32.trans (s34.trans s37))))))))) r_book)))))) (Option.some.inj hz).symm) (fun hz => (Option.some.inj ((if_some et42).1 hz)).symm)) (Option.some.inj hz).symm) (fun hz => (Option.some.inj ((if_some et43).1 hz)).symm)) (Option.some.inj hz).symm) (fun hz => (Option.some.inj ((if_some et44).1 hz)).symm))) (fun hb45 F46 H46 s46 w46 => ?_) (fun hb45 F46 H46 s46 w46 => ?_)
        · skip
          have h := (if_some h).1 hb45
          obtain rfl := Option.some.inj h
          refine ws_ret (W := rBool.v) w46 ev_bool (fun vz Fz Hz sz wz rz => ?_)
          have wz := wz.drop (i := 0)
          have wz := wz.drop (i := 0)
          have wz := wz.drop (i := 0)
          have wz := wz.drop (i := 0)
          exact kQ _ _ _ ((s3.trans (s6.trans (s9.trans (s13.trans (s23.trans (s25.trans (s28.trans (s32.trans (s34.trans (s37.trans s46)))))))))).trans sz) wz rz
        · skip
          have h := (if_some h).2 hb45
          refine ws_nil ?_
          obtain ⟨t47, et47, h⟩ := bd_some h
          refine ws_setN (n := 9) (O := (oDict rInt) t47) w46 ((evn_lockD (i := 0) (l := p_one2) (R := rInt) (d := t1) rfl (evn_call (O := (oDict rInt) t47) (Os2 := ((p_one2, (oFrz rInt) t1) :: (p_due8, (oDict rInt) t7) :: (p_told12, (oDict rInt) x_told24) :: (p_same27, (oDict rInt) x_same33) :: Os0)) G_with_writes (hr.mono (by decide)) T_with_writes.gm T_with_writes.fn.kp T_with_writes.bi pass0 (ea_cons (ev_var (n := 3) (W := (rIs (.ref p_one2)).v) (x := ()) rfl rfl) (ea_cons (ev_var (n := 8) (W := (rDict rInt).v) rfl ((rDict rInt).mono s46 r36)) ea_nil)) (fun F' Os' H' vs Q w hv q => by obtain ⟨u0, _, rfl, q0, u1, _, rfl, q1, rfl, rfl⟩ := hv; obtain ⟨G, Ex, sG, wG, rG, bG⟩ := Wf.tmpM (Ms := []) (Os := (p_one2, (oFrz rInt) t1) :: (p_due8, (oDict rInt) t7) :: (p_told12, (oDict rInt) x_told24) :: (p_same27, (oDict rInt) x_same33) :: Os0) w [p_one2] (List.forall_mem_cons.mpr ⟨own_frz (Ms := []) (Os := (p_one2, (oFrz rInt) t1) :: (p_due8, (oDict rInt) t7) :: (p_told12, (oDict rInt) x_told24) :: (p_same27, (oDict rInt) x_same33) :: Os0) w (i := 0) rfl, List.forall_mem_nil _⟩); cases q0; have rt0 : ((rDict rInt)).r G (.ref p_one2) t1 := (by obtain ⟨o, h1, z, kvs, h2, h3⟩ := rG _ _ (List.mem_of_getElem? (i := 0) rfl) (by simp); subst h2; exact ⟨_, z, kvs, rfl, h1, h3⟩); exact ⟨G, _, t1, t35, (.ref p_one2), u1, t47, rfl, wG, rt0, ((rDict rInt).mono sG q1), et47, fun p F2 H2 s2 w => by obtain ⟨F3, s3, w, nl3⟩ := bG F2 H2 (_ :: []) s2 (List.forall_mem_cons.mpr ⟨(nl_D nl_int _), List.forall_mem_nil _⟩) w; exact q p F3 H2 s3 w⟩)) rfl)) nd (fun p_back48 F49 H49 s49 w49 => ?_)
          have w50 := w49.back (i := 4)
          show Ws _ _ _ [some v_base, some v_book, some v_places_here, some (.ref p_one2), some v5, some (.ref p_due8), some (.ref p_told12), some (.ref p_same27), some v36, some (.ref p_back48)] _
          obtain ⟨t51, et51, h⟩ := bd_some h
          obtain ⟨t53, et53, h⟩ := bd_some h
          refine ws_if w50 (et_w (ew_orG (et_not (et_val (ev_lockD (i := 4) (l := p_back48) (R := rInt) (d := t47) rfl (ev_call (U := rBool.v) (Os2 := ((p_one2, (oDict rInt) t1) :: (p_due8, (oDict rInt) t7) :: (p_told12, (oDict rInt) x_told24) :: (p_same27, (oDict rInt) x_same33) :: (p_back48, (oFrz rInt) t47) :: Os0)) G_l_is_book (hr.mono (by decide)) T_l_is_book.gm T_l_is_book.fn.kp T_l_is_book.bi pass0 (ea_cons (ev_var (n := 9) (W := (rIs (.ref p_back48)).v) (x := ()) rfl rfl) ea_nil) (fun F' Os' H' vs Q w hv q => by obtain ⟨u0, _, rfl, q0, rfl, rfl⟩ := hv; obtain ⟨G, Ex, sG, wG, rG, bG⟩ := Wf.tmpM (Ms := []) (Os := (p_one2, (oDict rInt) t1) :: (p_due8, (oDict rInt) t7) :: (p_told12, (oDict rInt) x_told24) :: (p_same27, (oDict rInt) x_same33) :: (p_back48, (oFrz rInt) t47) :: Os0) w [p_back48] (List.forall_mem_cons.mpr ⟨own_frz (Ms := []) (Os := (p_one2, (oDict rInt) t1) :: (p_due8, (oDict rInt) t7) :: (p_told12, (oDict rInt) x_told24) :: (p_same27, (oDict rInt) x_same33) :: (p_back48, (oFrz rInt) t47) :: Os0) w (i := 4) rfl, List.forall_mem_nil _⟩); cases q0; have rt0 : ((rDict rInt)).r G (.ref p_back48) t47 := (by obtain ⟨o, h1, z, kvs, h2, h3⟩ := rG _ _ (List.mem_of_getElem? (i := 4) rfl) (by simp); subst h2; exact ⟨_, z, kvs, rfl, h1, h3⟩); exact ⟨G, _, t47, (.ref p_back48), t51, rfl, wG, rt0, et51, fun v F2 H2 s2 w r => by obtain ⟨F3, s3, w, nl3⟩ := bG F2 H2 [] s2 (List.forall_mem_nil _) w; exact q v F3 H2 s3 w (nl_bool F2 F3 _ _ nl3 r)⟩)) rfl))) (fun hz => by have hz := (if_some et53).2 hz; obtain ⟨t52, et52, hz⟩ := bd_some hz; exact Ew.eq (ew_or1 (et_cmpV (cp_neQ (qt_D (qv_E enc_I dr_I)) et52 (u130 hr)) (Ev.only (ev_var (n := 9) (W := (vDict rInt)) rfl (vDict.own (i := 4) rfl))) (Ev.only (Ev.vwD (ev_var (n := 1) (W := (rDict rInt).v) rfl ((rDict rInt).mono (s3.trans (s6.trans (s9.trans (s13.trans (s23.trans (s25.trans (s28.trans (s32.trans (s34.trans (s37.trans (s46.trans s49))))))))))) r_book)))))) (Option.some.inj hz).symm) (fun hz => (Option.some.inj ((if_some et53).1 hz)).symm))) (fun hb54 F55 H55 s55 w55 => ?_) (fun hb54 F55 H55 s55 w55 => ?_)
          · skip
            have h := (if_some h).1 hb54
            obtain rfl := Option.some.inj h
            refine ws_ret (W := rBool.v) w55 ev_bool (fun vz Fz Hz sz wz rz => ?_)
            have wz := wz.drop (i := 0)
            have wz := wz.drop (i := 0)
            have wz := wz.drop (i := 0)
            have wz := wz.drop (i := 0)
            have wz := wz.drop (i := 0)
            exact kQ _ _ _ ((s3.trans (s6.trans (s9.trans (s13.trans (s23.trans (s25.trans (s28.trans (s32.trans (s34.trans (s37.trans (s46.trans (s49.trans s55)))))))))))).trans sz) wz rz
          · skip
            have h := (if_some h).2 hb54
            refine ws_nil ?_
            obtain ⟨x_back56, ex_back56, h⟩ := bd_some h
            refine ws_dput (n := 4) (R := rInt) w55 (hu_of hr) ev_int (ev_var (n := 9) (W := (rIs (.ref p_back48)).v) (x := ()) rfl rfl) ev_int rfl ex_back56 (fun F57 H57 s57 w57 => ?_)
            obtain ⟨t58, et58, h⟩ := bd_some h
            refine ws_setN (n := 9) (O := (oDict rInt) t58) w57 ((evn_lockD (i := 0) (l := p_one2) (R := rInt) (d := t1) rfl (evn_call (O := (oDict rInt) t58) (Os2 := ((p_one2, (oFrz rInt) t1) :: (p_due8, (oDict rInt) t7) :: (p_told12, (oDict rInt) x_told24) :: (p_same27, (oDict rInt) x_same33) :: (p_back48, (oDict rInt) x_back56) :: Os0)) G_with_writes (hr.mono (by decide)) T_with_writes.gm T_with_writes.fn.kp T_with_writes.bi pass0 (ea_cons (ev_var (n := 3) (W := (rIs (.ref p_one2)).v) (x := ()) rfl rfl) (ea_cons (ev_var (n := 8) (W := (rDict rInt).v) rfl ((rDict rInt).mono (s46.trans (s49.trans (s55.trans s57))) r36)) ea_nil)) (fun F' Os' H' vs Q w hv q => by obtain ⟨u0, _, rfl, q0, u1, _, rfl, q1, rfl, rfl⟩ := hv; obtain ⟨G, Ex, sG, wG, rG, bG⟩ := Wf.tmpM (Ms := []) (Os := (p_one2, (oFrz rInt) t1) :: (p_due8, (oDict rInt) t7) :: (p_told12, (oDict rInt) x_told24) :: (p_same27, (oDict rInt) x_same33) :: (p_back48, (oDict rInt) x_back56) :: Os0) w [p_one2] (List.forall_mem_cons.mpr ⟨own_frz (Ms := []) (Os := (p_one2, (oFrz rInt) t1) :: (p_due8, (oDict rInt) t7) :: (p_told12, (oDict rInt) x_told24) :: (p_same27, (oDict rInt) x_same33) :: (p_back48, (oDict rInt) x_back56) :: Os0) w (i := 0) rfl, List.forall_mem_nil _⟩); cases q0; have rt0 : ((rDict rInt)).r G (.ref p_one2) t1 := (by obtain ⟨o, h1, z, kvs, h2, h3⟩ := rG _ _ (List.mem_of_getElem? (i := 0) rfl) (by simp); subst h2; exact ⟨_, z, kvs, rfl, h1, h3⟩); exact ⟨G, _, t1, t35, (.ref p_one2), u1, t58, rfl, wG, rt0, ((rDict rInt).mono sG q1), et58, fun p F2 H2 s2 w => by obtain ⟨F3, s3, w, nl3⟩ := bG F2 H2 (_ :: []) s2 (List.forall_mem_cons.mpr ⟨(nl_D nl_int _), List.forall_mem_nil _⟩) w; exact q p F3 H2 s3 w⟩)) rfl)) nd (fun p_back59 F60 H60 s60 w60 => ?_)
            have w61 := w60.drop (i := 5)
            have w62 := w61.back (i := 4)
            show Ws _ _ _ [some v_base, some v_book, some v_places_here, some (.ref p_one2), some v5, some (.ref p_due8), some (.ref p_told12), some (.ref p_same27), some v36, some (.ref p_back59)] _
            obtain ⟨t63, et63, h⟩ := bd_some h
            obtain ⟨t69, et69, h⟩ := bd_some h
            refine ws_if w62 (et_w (ew_orG (et_not (et_val (ev_lockD (i := 4) (l := p_back59) (R := rInt) (d := t58) rfl (ev_call (U := rBool.v) (Os2 := ((p_one2, (oDict rInt) t1) :: (p_due8, (oDict rInt) t7) :: (p_told12, (oDict rInt) x_told24) :: (p_same27, (oDict rInt) x_same33) :: (p_back59, (oFrz rInt) t58) :: Os0)) G_l_is_book (hr.mono (by decide)) T_l_is_book.gm T_l_is_book.fn.kp T_l_is_book.bi pass0 (ea_cons (ev_var (n := 9) (W := (rIs (.ref p_back59)).v) (x := ()) rfl rfl) ea_nil) (fun F' Os' H' vs Q w hv q => by obtain ⟨u0, _, rfl, q0, rfl, rfl⟩ := hv; obtain ⟨G, Ex, sG, wG, rG, bG⟩ := Wf.tmpM (Ms := []) (Os := (p_one2, (oDict rInt) t1) :: (p_due8, (oDict rInt) t7) :: (p_told12, (oDict rInt) x_told24) :: (p_same27, (oDict rInt) x_same33) :: (p_back59, (oFrz rInt) t58) :: Os0) w [p_back59] (List.forall_mem_cons.mpr ⟨own_frz (Ms := []) (Os := (p_one2, (oDict rInt) t1) :: (p_due8, (oDict rInt) t7) :: (p_told12, (oDict rInt) x_told24) :: (p_same27, (oDict rInt) x_same33) :: (p_back59, (oFrz rInt) t58) :: Os0) w (i := 4) rfl, List.forall_mem_nil _⟩); cases q0; have rt0 : ((rDict rInt)).r G (.ref p_back59) t58 := (by obtain ⟨o, h1, z, kvs, h2, h3⟩ := rG _ _ (List.mem_of_getElem? (i := 4) rfl) (by simp); subst h2; exact ⟨_, z, kvs, rfl, h1, h3⟩); exact ⟨G, _, t58, (.ref p_back59), t63, rfl, wG, rt0, et63, fun v F2 H2 s2 w r => by obtain ⟨F3, s3, w, nl3⟩ := bG F2 H2 [] s2 (List.forall_mem_nil _) w; exact q v F3 H2 s3 w (nl_bool F2 F3 _ _ nl3 r)⟩)) rfl))) (fun hz => by have hz := (if_some et69).2 hz; obtain ⟨t64, et64, hz⟩ := bd_some hz; obtain ⟨t68, et68, hz⟩ := bd_some hz; exact Ew.eq (ew_orG (et_cmpV (cp_neQ (qt_D (qv_E enc_I dr_I)) et64 (u130 hr)) (Ev.only (ev_var (n := 9) (W := (vDict rInt)) rfl (vDict.own (i := 4) rfl))) (Ev.only (Ev.vwD (ev_var (n := 1) (W := (rDict rInt).v) rfl ((rDict rInt).mono (s3.trans (s6.trans (s9.trans (s13.trans (s23.trans (s25.trans (s28.trans (s32.trans (s34.trans (s37.trans (s46.trans (s49.trans (s55.trans (s57.trans s60)))))))))))))) r_book))))) (fun hz => by have hz := (if_some et68).2 hz; obtain ⟨t65, et65, hz⟩ := bd_some hz; obtain ⟨t67, et67, hz⟩ := bd_some hz; exact Ew.eq (ew_orG (et_cmpV (cp_neQ (qt_D (qv_E enc_I dr_I)) et65 (u130 hr)) (Ev.only (ev_var (n := 3) (W := (vDict rInt)) rfl (vDict.own (i := 0) rfl))) (Ev.only (Ev.vwD (ev_var (n := 0) (W := (rDict rInt).v) rfl ((rDict rInt).mono (s3.trans (s6.trans (s9.trans (s13.trans (s23.trans (s25.trans (s28.trans (s32.trans (s34.trans (s37.trans (s46.trans (s49.trans (s55.trans (s57.trans s60)))))))))))))) r_base))))) (fun hz => by have hz := (if_some et67).2 hz; obtain ⟨t66, et66, hz⟩ := bd_some hz; exact Ew.eq (ew_or1 (et_cmpV (cp_neQ (qt_D (qv_E enc_I dr_I)) et66 (u130 hr)) (Ev.only (Ev.vwD (ev_var (n := 8) (W := (rDict rInt).v) rfl ((rDict rInt).mono (s46.trans (s49.trans (s55.trans (s57.trans s60)))) r36)))) (Ev.only (ev_var (n := 5) (W := (vDict rInt)) rfl (vDict.own (i := 1) rfl))))) (Option.some.inj hz).symm) (fun hz => (Option.some.inj ((if_some et67).1 hz)).symm)) (Option.some.inj hz).symm) (fun hz => (Option.some.inj ((if_some et68).1 hz)).symm)) (Option.some.inj hz).symm) (fun hz => (Option.some.inj ((if_some et69).1 hz)).symm))) (fun hb70 F71 H71 s71 w71 => ?_) (fun hb70 F71 H71 s71 w71 => ?_)
            · skip
              have h := (if_some h).1 hb70
              obtain rfl := Option.some.inj h
              refine ws_ret (W := rBool.v) w71 ev_bool (fun vz Fz Hz sz wz rz => ?_)
              have wz := wz.drop (i := 0)
              have wz := wz.drop (i := 0)
              have wz := wz.drop (i := 0)
              have wz := wz.drop (i := 0)
              have wz := wz.drop (i := 0)
              exact kQ _ _ _ ((s3.trans (s6.trans (s9.trans (s13.trans (s23.trans (s25.trans (s28.trans (s32.trans (s34.trans (s37.trans (s46.trans (s49.trans (s55.trans (s57.trans (s60.trans s71))))))))))))))).trans sz) wz rz
            · skip
              have h := (if_some h).2 hb70
              refine ws_nil ?_
              obtain ⟨x_one72, ex_one72, h⟩ := bd_some h
              refine ws_dput (n := 0) (R := rInt) w71 (hu_of hr) ev_int (ev_var (n := 3) (W := (rIs (.ref p_one2)).v) (x := ()) rfl rfl) ev_int rfl ex_one72 (fun F73 H73 s73 w73 => ?_)
              obtain ⟨x_due74, ex_due74, h⟩ := bd_some h
              refine ws_dput (n := 1) (R := rInt) w73 (hu_of hr) ev_int (ev_var (n := 5) (W := (rIs (.ref p_due8)).v) (x := ()) rfl rfl) ev_int rfl ex_due74 (fun F75 H75 s75 w75 => ?_)
              obtain ⟨t76, et76, h⟩ := bd_some h
              refine ws_setN (n := 6) (O := (oDict rInt) t76) w75 ((evn_lockD (i := 0) (l := p_one2) (R := rInt) (d := x_one72) rfl (evn_call (O := (oDict rInt) t76) (Os2 := ((p_one2, (oFrz rInt) x_one72) :: (p_due8, (oDict rInt) x_due74) :: (p_told12, (oDict rInt) x_told24) :: (p_same27, (oDict rInt) x_same33) :: (p_back59, (oDict rInt) t58) :: Os0)) G_changes (hr.mono (by decide)) T_changes.gm T_changes.fn.kp T_changes.bi pass0 (ea_cons (ev_var (n := 3) (W := (rIs (.ref p_one2)).v) (x := ()) rfl rfl) (ea_cons (ev_var (n := 4) (W := (rDict rInt).v) rfl ((rDict rInt).mono (s9.trans (s13.trans (s23.trans (s25.trans (s28.trans (s32.trans (s34.trans (s37.trans (s46.trans (s49.trans (s55.trans (s57.trans (s60.trans (s71.trans (s73.trans s75))))))))))))))) r5)) ea_nil)) (fun F' Os' H' vs Q w hv q => by obtain ⟨u0, _, rfl, q0, u1, _, rfl, q1, rfl, rfl⟩ := hv; obtain ⟨G, Ex, sG, wG, rG, bG⟩ := Wf.tmpM (Ms := []) (Os := (p_one2, (oFrz rInt) x_one72) :: (p_due8, (oDict rInt) x_due74) :: (p_told12, (oDict rInt) x_told24) :: (p_same27, (oDict rInt) x_same33) :: (p_back59, (oDict rInt) t58) :: Os0) w [p_one2] (List.forall_mem_cons.mpr ⟨own_frz (Ms := []) (Os := (p_one2, (oFrz rInt) x_one72) :: (p_due8, (oDict rInt) x_due74) :: (p_told12, (oDict rInt) x_told24) :: (p_same27, (oDict rInt) x_same33) :: (p_back59, (oDict rInt) t58) :: Os0) w (i := 0) rfl, List.forall_mem_nil _⟩); cases q0; have rt0 : ((rDict rInt)).r G (.ref p_one2) x_one72 := (by obtain ⟨o, h1, z, kvs, h2, h3⟩ := rG _ _ (List.mem_of_getElem? (i := 0) rfl) (by simp); subst h2; exact ⟨_, z, kvs, rfl, h1, h3⟩); exact ⟨G, _, x_one72, t4, (.ref p_one2), u1, t76, rfl, wG, rt0, ((rDict rInt).mono sG q1), et76, fun p F2 H2 s2 w => by obtain ⟨F3, s3, w, nl3⟩ := bG F2 H2 (_ :: []) s2 (List.forall_mem_cons.mpr ⟨(nl_D nl_int _), List.forall_mem_nil _⟩) w; exact q p F3 H2 s3 w⟩)) rfl)) nd (fun p_told77 F78 H78 s78 w78 => ?_)
              have w79 := w78.drop (i := 3)
              have w80 := w79.back (i := 2)
              show Ws _ _ _ [some v_base, some v_book, some v_places_here, some (.ref p_one2), some v5, some (.ref p_due8), some (.ref p_told77), some (.ref p_same27), some v36, some (.ref p_back59)] _
              obtain ⟨t81, et81, h⟩ := bd_some h
              obtain ⟨t87, et87, h⟩ := bd_some h
              obtain rfl := Option.some.inj h
              refine ws_ret (W := rBool.v) w80 (ev_andG (ev_lockD (i := 2) (l := p_told77) (R := rInt) (d := t76) rfl (ev_call (U := rBool.v) (Os2 := ((p_one2, (oDict rInt) x_one72) :: (p_due8, (oDict rInt) x_due74) :: (p_told77, (oFrz rInt) t76) :: (p_same27, (oDict rInt) x_same33) :: (p_back59, (oDict rInt) t58) :: Os0)) G_l_is_book (hr.mono (by decide)) T_l_is_book.gm T_l_is_book.fn.kp T_l_is_book.bi pass0 (ea_cons (ev_var (n := 6) (W := (rIs (.ref p_told77)).v) (x := ()) rfl rfl) ea_nil) (fun F' Os' H' vs Q w hv q => by obtain ⟨u0, _, rfl, q0, rfl, rfl⟩ := hv; obtain ⟨G, Ex, sG, wG, rG, bG⟩ := Wf.tmpM (Ms := []) (Os := (p_one2, (oDict rInt) x_one72) :: (p_due8, (oDict rInt) x_due74) :: (p_told77, (oFrz rInt) t76) :: (p_same27, (oDict rInt) x_same33) :: (p_back59, (oDict rInt) t58) :: Os0) w [p_told77] (List.forall_mem_cons.mpr ⟨own_frz (Ms := []) (Os := (p_one2, (oDict rInt) x_one72) :: (p_due8, (oDict rInt) x_due74) :: (p_told77, (oFrz rInt) t76) :: (p_same27, (oDict rInt) x_same33) :: (p_back59, (oDict rInt) t58) :: Os0) w (i := 2) rfl, List.forall_mem_nil _⟩); cases q0; have rt0 : ((rDict rInt)).r G (.ref p_told77) t76 := (by obtain ⟨o, h1, z, kvs, h2, h3⟩ := rG _ _ (List.mem_of_getElem? (i := 2) rfl) (by simp); subst h2; exact ⟨_, z, kvs, rfl, h1, h3⟩); exact ⟨G, _, t76, (.ref p_told77), t81, rfl, wG, rt0, et81, fun v F2 H2 s2 w r => by obtain ⟨F3, s3, w, nl3⟩ := bG F2 H2 [] s2 (List.forall_mem_nil _) w; exact q v F3 H2 s3 w (nl_bool F2 F3 _ _ nl3 r)⟩)) rfl) (fun hz => by have hz := (if_some et87).1 hz; obtain ⟨t82, et82, hz⟩ := bd_some hz; obtain ⟨t86, et86, hz⟩ := bd_some hz; exact Ev.eq (ev_andG (ev_cmpV (cp_eqQ (qt_D (qv_E enc_I dr_I)) et82 (u130 hr)) (Ev.only (ev_var (n := 6) (W := (vDict rInt)) rfl (vDict.own (i := 2) rfl))) (Ev.only (ev_var (n := 5) (W := (vDict rInt)) rfl (vDict.own (i := 1) rfl)))) (fun hz => by have hz := (if_some et86).1 hz; obtain ⟨t83, et83, hz⟩ := bd_some hz; obtain ⟨t85, et85, hz⟩ := bd_some hz; exact Ev.eq (ev_andG (ev_cmpV (cp_eqQ (qt_D (qv_E enc_I dr_I)) et83 (u130 hr)) (Ev.only (ev_var (n := 9) (W := (vDict rInt)) rfl (vDict.own (i := 4) rfl))) (Ev.only (Ev.vwD (ev_var (n := 1) (W := (rDict rInt).v) rfl ((rDict rInt).mono (s3.trans (s6.trans (s9.trans (s13.trans (s23.trans (s25.trans (s28.trans (s32.trans (s34.trans (s37.trans (s46.trans (s49.trans (s55.trans (s57.trans (s60.trans (s71.trans (s73.trans (s75.trans s78)))))))))))))))))) r_book))))) (fun hz => by have hz := (if_some et85).1 hz; obtain ⟨t84, et84, hz⟩ := bd_some hz; exact Ev.eq (ev_one (ev_cmpV (cp_eqQ (qt_D (qv_E enc_I dr_I)) et84 (u130 hr)) (Ev.only (Ev.vwD (ev_var (n := 4) (W := (rDict rInt).v) rfl ((rDict rInt).mono (s9.trans (s13.trans (s23.trans (s25.trans (s28.trans (s32.trans (s34.trans (s37.trans (s46.trans (s49.trans (s55.trans (s57.trans (s60.trans (s71.trans (s73.trans (s75.trans s78)))))))))))))))) r5)))) (Ev.only (Ev.vwD (ev_var (n := 1) (W := (rDict rInt).v) rfl ((rDict rInt).mono (s3.trans (s6.trans (s9.trans (s13.trans (s23.trans (s25.trans (s28.trans (s32.trans (s34.trans (s37.trans (s46.trans (s49.trans (s55.trans (s57.trans (s60.trans (s71.trans (s73.trans (s75.trans s78)))))))))))))))))) r_book)))))) (Option.some.inj hz).symm) (fun hz => (Option.some.inj ((if_some et85).2 hz)).symm)) (Option.some.inj hz).symm) (fun hz => (Option.some.inj ((if_some et86).2 hz)).symm)) (Option.some.inj hz).symm) (fun hz => (Option.some.inj ((if_some et87).2 hz)).symm)) (fun vz Fz Hz sz wz rz => ?_)
              have wz := wz.drop (i := 0)
              have wz := wz.drop (i := 0)
              have wz := wz.drop (i := 0)
              have wz := wz.drop (i := 0)
              have wz := wz.drop (i := 0)
              exact kQ _ _ _ ((s3.trans (s6.trans (s9.trans (s13.trans (s23.trans (s25.trans (s28.trans (s32.trans (s34.trans (s37.trans (s46.trans (s49.trans (s55.trans (s57.trans (s60.trans (s71.trans (s73.trans (s75.trans s78)))))))))))))))))).trans sz) wz rz
abbrev s_l_after : Stmt := topS 20
theorem sc_l_after : FnScope ["_law_book", "_law_writes", "_law_places_here", "_law_due", "_law_place", "_law_value_here"] ["_law_book", "_law_writes", "_law_places_here"] (defScope s_l_after) := ⟨rfl, rfl, rfl, by decide +kernel, rfl, by decide +kernel, by decide +kernel⟩
def sp_l_after (K : PySem.W.Frag) : Sp := fun vs H Q _ => ∃ (F0 : Hp) (Os0 : Owns) (x_book : (List (Int × Int))) (x_writes : (List (Int × Int))) (x_places_here : (List Int)) (v_book : V) (v_writes : V) (v_places_here : V) (res : (List (Int × Int))), vs = [v_book, v_writes, v_places_here] ∧ Wf F0 (Os0) H ∧ (rDict rInt).r F0 v_book x_book ∧ (rDict rInt).r F0 v_writes x_writes ∧ (rList rInt).r F0 v_places_here x_places_here ∧ M_l_after x_book x_writes x_places_here = some res ∧ ∀ p F' H', Same F0 F' → Wf F' ((p, (oDict rInt) res) :: Os0) H' → Q (.ref p) H'
theorem ok_l_after {f : Addr} {fd : FuncData} (T : FT K mg "_law_after" s_l_after ["_law_book", "_law_writes", "_law_places_here"] f fd) (B : Blt mg) : FnOk P w K mg base CX0 1 f fd ["_law_book", "_law_writes", "_law_places_here"] (sp_l_after K) := by
  refine T.fn.ok sc_l_after (fun vs H Q E h => ?_) (fun cdv A outer s H vs Q E hr h => ?_)
  · obtain ⟨_, _, _, _, _, _, _, _, _, rfl, _⟩ := h
    rfl
  · obtain ⟨F0, Os0, x_book, x_writes, x_places_here, v_book, v_writes, v_places_here, res, rfl, w0, r_book, r_writes, r_places_here, h, kQ⟩ := h
    have nd := sc_l_after.nd
    refine ⟨_, pss_w, ?_⟩
    unfold M_l_after at h
    show Ws _ _ _ [some v_book, some v_writes, some v_places_here, none, none, none] _
    obtain ⟨x_due1, ex_due1, h⟩ := lt_some h
    refine ws_setN (n := 3) (O := (oDict rInt) x_due1) w0 (EvN.eqO (O := (oDict rInt)) evn_dnew ex_due1) nd (fun p_due2 F3 H3 s3 w3 => ?_)
    show Ws _ _ _ [some v_book, some v_writes, some v_places_here, some (.ref p_due2), none, none] _
    obtain ⟨z5, hz5, hk5⟩ := bd_some h
    refine ws_j (fun (sg : L2.St) (Hm : Hp) => ∃ (Fm : Hp) (x_due9 : (List (Int × Int))) (o10 : Option V) (o11 : Option V) , sg = [some v_book, some v_writes, some v_places_here, some (.ref p_due2), o10, o11] ∧ Same F3 Fm ∧ Wf Fm ((p_due2, (oDict rInt) x_due9) :: Os0) Hm ∧ x_due9 = z5) (w1_for (n := 4) (R := rInt) w3 (ev_var (n := 2) (W := (rList rInt).v) rfl ((rList rInt).mono s3 r_places_here)) nd (fun F4 H4 s4 w4 => ?_) PassesOwn.never) ?_
    · skip
      refine ⟨(fun (rr : List Int) (sg : L2.St) (Hm : Hp) => ∃ (Fm : Hp) (x_due6 : (List (Int × Int))) (o7 : Option V) (o8 : Option V) , sg = [some v_book, some v_writes, some v_places_here, some (.ref p_due2), o7, o8] ∧ Same F4 Fm ∧ Wf Fm ((p_due2, (oDict rInt) x_due6) :: Os0) Hm ∧ foldO (fun s x => B_l_after_5 x_book x_writes s x) x_due6 rr = some z5), ⟨F4, x_due1, none, none, rfl, (Same.refl _), w4, hz5⟩, ?_, ?_, ?_⟩
      · rintro _ _ _ ⟨_, _, _, _, _, sk, wk, _⟩
        exact sk.trans wk.sub
      · skip
        rintro x12 rr _ H13 v12 ⟨F13, x_due6, o7, o8, rfl, s13, w13, hz5⟩ rx12
        obtain ⟨y5, hy5, hz5⟩ := foldO_some hz5
        have h : B_l_after_5 x_book x_writes x_due6 x12 = some _ := hy5
        unfold B_l_after_5 at h
        show Ws _ _ _ [some v_book, some v_writes, some v_places_here, some (.ref p_due2), some v12, o8] _
        obtain ⟨x_value_here14, ex_value_here14, h⟩ := lt_some h
        refine ws_set (n := 5) (W := rInt.v) w13 (Ev.eq (ev_dget2 (hu_of hr) (Ev.vwD (ev_var (n := 0) (W := (rDict rInt).v) rfl ((rDict rInt).mono (s3.trans (s4.trans s13)) r_book))) (ev_var (n := 4) (W := rInt.v) rfl rx12) ev_int) ex_value_here14) nd (fun v15 F16 H16 s16 w16 r15 => ?_)
        show Ws _ _ _ [some v_book, some v_writes, some v_places_here, some (.ref p_due2), some v12, some v15] _
        obtain ⟨y18, hy18, hk18⟩ := bd_some h
        refine ws_j (fun (sg : L2.St) (Hm : Hp) => ∃ (Fm : Hp) (x_value_here19 : Int) (v20 : V) , sg = [some v_book, some v_writes, some v_places_here, some (.ref p_due2), some v12, some v20] ∧ Same F16 Fm ∧ Wf Fm ((p_due2, (oDict rInt) x_due6) :: Os0) Hm ∧ rInt.r Fm v20 x_value_here19 ∧ x_value_here19 = y18) (w1_if w16 (et_cmpV (cp_inK (hu_of hr)) (ev_var (n := 4) (W := rInt.v) rfl rx12) (Ev.vwD (ev_var (n := 1) (W := (rDict rInt).v) rfl ((rDict rInt).mono (s3.trans (s4.trans (s13.trans s16))) r_writes))) (by with_unfolding_all rfl)) (fun hb17 F21 H21 s21 w21 => ?_) (fun hb17 F21 H21 s21 w21 => ?_)) ?_
        · skip
          have h := (if_some hy18).1 hb17
          obtain ⟨t22, et22, h⟩ := bd_some h
          refine ws_set (n := 5) (W := rInt.v) w21 ((ev_dix (hu_of hr) et22 (Ev.vwD (ev_var (n := 1) (W := (rDict rInt).v) rfl ((rDict rInt).mono (s3.trans (s4.trans (s13.trans (s16.trans s21)))) r_writes))) (ev_var (n := 4) (W := rInt.v) rfl rx12))) nd (fun v23 F24 H24 s24 w24 r23 => ?_)
          show Ws _ _ _ [some v_book, some v_writes, some v_places_here, some (.ref p_due2), some v12, some v23] _
          refine ws_nil ?_
          exact ⟨F24, t22, v23, rfl, (s21.trans s24), w24, r23, Option.some.inj h⟩
        · skip
          have h := (if_some hy18).2 hb17
          refine ws_nil ?_
          exact ⟨F21, x_value_here14, v15, rfl, s21, w21, r15, Option.some.inj h⟩
        · skip
          rintro _ H25 ⟨F25, x_value_here19, v20, rfl, s25, w25, r26, rfl⟩
          have h := hk18
          have h : K_l_after_18 x_due6 x12 x_value_here19 = some _ := h
          unfold K_l_after_18 at h
          refine ws_if w25 (et_cmp cp_gt (ev_var (n := 5) (W := rInt.v) rfl r26) ev_int) (fun hb27 F28 H28 s28 w28 => ?_) (fun hb27 F28 H28 s28 w28 => ?_)
          · skip
            have h := (if_some h).1 hb27
            obtain ⟨x_due29, ex_due29, h⟩ := bd_some h
            refine ws_dput (n := 0) (R := rInt) w28 (hu_of hr) (ev_var (n := 5) (W := rInt.v) rfl r26) (ev_var (n := 3) (W := (rIs (.ref p_due2)).v) (x := ()) rfl rfl) (ev_var (n := 4) (W := rInt.v) rfl rx12) rfl ex_due29 (fun F30 H30 s30 w30 => ?_)
            refine ws_nil ?_
            refine ws_nil ?_
            obtain rfl := Option.some.inj h
            exact ⟨F30, x_due29, some v12, some v20, rfl, (s13.trans (s16.trans (s25.trans (s28.trans s30)))), w30, hz5⟩
          · skip
            have h := (if_some h).2 hb27
            refine ws_nil ?_
            refine ws_nil ?_
            obtain rfl := Option.some.inj h
            exact ⟨F28, x_due6, some v12, some v20, rfl, (s13.trans (s16.trans (s25.trans s28))), w28, hz5⟩
      · skip
        rintro _ H31 ⟨F31, x_due6, o7, o8, rfl, s31, w31, hz5⟩
        have hz := foldO_nil hz5
        exact ⟨F31, x_due6, o7, o8, rfl, (s4.trans s31), w31, hz.symm⟩
    · skip
      rintro _ H32 ⟨F32, x_due9, o10, o11, rfl, s32, w32, rfl⟩
      have h := hk5
      have h : K_l_after_5 x_due9 = some _ := h
      unfold K_l_after_5 at h
      obtain rfl := Option.some.inj h
      refine ws_ret (W := (rIs (.ref p_due2)).v) w32 (ev_var (n := 3) (W := (rIs (.ref p_due2)).v) (x := ()) rfl rfl) (fun vz Fz Hz sz wz rz => ?_)
      cases rz
      have wz := wz.pull (i := 0) rfl
      exact kQ _ _ _ ((s3.trans s32).trans sz) wz
abbrev s_l_writing : Stmt := topS 22
theorem sc_l_writing : FnScope ["_law_base", "_law_writes", "_law_places_here", "_law_one", "_law_some", "_law_due", "_law_told", "_law_same", "_law_alone", "_law_again"] ["_law_base", "_law_writes", "_law_places_here"] (defScope s_l_writing) := ⟨rfl, rfl, rfl, by decide +kernel, rfl, by decide +kernel, by decide +kernel⟩
def sp_l_writing (K : PySem.W.Frag) : Sp := fun vs H Q _ => ∃ (F0 : Hp) (Os0 : Owns) (x_base : (List (Int × Int))) (x_writes : (List (Int × Int))) (x_places_here : (List Int)) (v_base : V) (v_writes : V) (v_places_here : V) (res : Bool), vs = [v_base, v_writes, v_places_here] ∧ Wf F0 (Os0) H ∧ (rDict rInt).r F0 v_base x_base ∧ (rDict rInt).r F0 v_writes x_writes ∧ (rList rInt).r F0 v_places_here x_places_here ∧ M_l_writing x_base x_writes x_places_here = some res ∧ ∀ v F' H', Same F0 F' → Wf F' (Os0) H' → rBool.r F' v res → Q v H'
theorem ok_l_writing {f : Addr} {fd : FuncData} {f_l_copy : Addr} {d_l_copy : FuncData} {f_l_after : Addr} {d_l_after : FuncData} {f_with_writes : Addr} {d_with_writes : FuncData} {f_l_is_book : Addr} {d_l_is_book : FuncData} (T : FT K mg "_law_writing" s_l_writing ["_law_base", "_law_writes", "_law_places_here"] f fd) (B : Blt mg) (T_l_copy : FT K mg "_law_copy" s_l_copy ["_law_book"] f_l_copy d_l_copy) (G_l_copy : FnOk P w K mg base CX0 1 f_l_copy d_l_copy ["_law_book"] (sp_l_copy K)) (T_l_after : FT K mg "_law_after" s_l_after ["_law_book", "_law_writes", "_law_places_here"] f_l_after d_l_after) (G_l_after : FnOk P w K mg base CX0 1 f_l_after d_l_after ["_law_book", "_law_writes", "_law_places_here"] (sp_l_after K)) (T_with_writes : FT K mg "with_writes" s_with_writes ["book", "writes"] f_with_writes d_with_writes) (G_with_writes : FnOk P w K mg base CX0 2 f_with_writes d_with_writes ["book", "writes"] (sp_with_writes K)) (T_l_is_book : FT K mg "_law_is_book" s_l_is_book ["_law_told"] f_l_is_book d_l_is_book) (G_l_is_book : FnOk P w K mg base CX0 1 f_l_is_book d_l_is_book ["_law_told"] (sp_l_is_book K)) : FnOk P w K mg base CX0 3 f fd ["_law_base", "_law_writes", "_law_places_here"] (sp_l_writing K) := by
  refine T.fn.ok sc_l_writing (fun vs H Q E h => ?_) (fun cdv A outer s H vs Q E hr h => ?_)
  · obtain ⟨_, _, _, _, _, _, _, _, _, rfl, _⟩ := h
    rfl
  · obtain ⟨F0, Os0, x_base, x_writes, x_places_here, v_base, v_writes, v_places_here, res, rfl, w0, r_base, r_writes, r_places_here, h, kQ⟩ := h
    have nd := sc_l_writing.nd
    refine ⟨_, pss_w, ?_⟩
    unfold M_l_writing at h
    show Ws _ _ _ [some v_base, some v_writes, some v_places_here, none, none, none, none, none, none, none] _
    obtain ⟨t1, et1, h⟩ := bd_some h
    refine ws_setN (n := 3) (O := (oDict rInt) t1) w0 ((evn_call (O := (oDict rInt) t1) (Os2 := (Os0)) G_l_copy (hr.mono (by decide)) T_l_copy.gm T_l_copy.fn.kp T_l_copy.bi pass0 (ea_cons (ev_var (n := 0) (W := (rDict rInt).v) rfl r_base) ea_nil) (fun F' Os' H' vs Q w hv q => by obtain ⟨u0, _, rfl, q0, rfl, rfl⟩ := hv; exact ⟨F', _, x_base, u0, t1, rfl, w, q0, et1, fun p F2 H2 s2 w => by exact q p F2 H2 s2 w⟩))) nd (fun p_one2 F3 H3 s3 w3 => ?_)
    show Ws _ _ _ [some v_base, some v_writes, some v_places_here, some (.ref p_one2), none, none, none, none, none, none] _
    obtain ⟨t4, et4, h⟩ := bd_some h
    refine ws_setN (n := 4) (O := (oDict rInt) t4) w3 ((evn_call (O := (oDict rInt) t4) (Os2 := ((p_one2, (oDict rInt) t1) :: Os0)) G_l_copy (hr.mono (by decide)) T_l_copy.gm T_l_copy.fn.kp T_l_copy.bi pass0 (ea_cons (ev_var (n := 1) (W := (rDict rInt).v) rfl ((rDict rInt).mono s3 r_writes)) ea_nil) (fun F' Os' H' vs Q w hv q => by obtain ⟨u0, _, rfl, q0, rfl, rfl⟩ := hv; exact ⟨F', _, x_writes, u0, t4, rfl, w, q0, et4, fun p F2 H2 s2 w => by exact q p F2 H2 s2 w⟩))) nd (fun p_some5 F6 H6 s6 w6 => ?_)
    have w7 := w6.back (i := 1)
    show Ws _ _ _ [some v_base, some v_writes, some v_places_here, some (.ref p_one2), some (.ref p_some5), none, none, none, none, none] _
    obtain ⟨t8, et8, h⟩ := bd_some h
    refine ws_set (n := 5) (W := (rDict rInt).v) w7 ((EvN.fzD (evn_call (O := (oDict rInt) t8) (Os2 := ((p_one2, (oDict rInt) t1) :: (p_some5, (oDict rInt) t4) :: Os0)) G_l_after (hr.mono (by decide)) T_l_after.gm T_l_after.fn.kp T_l_after.bi pass0 (ea_cons (ev_var (n := 0) (W := (rDict rInt).v) rfl ((rDict rInt).mono (s3.trans s6) r_base)) (ea_cons (ev_var (n := 1) (W := (rDict rInt).v) rfl ((rDict rInt).mono (s3.trans s6) r_writes)) (ea_cons (ev_var (n := 2) (W := (rList rInt).v) rfl ((rList rInt).mono (s3.trans s6) r_places_here)) ea_nil))) (fun F' Os' H' vs Q w hv q => by obtain ⟨u0, _, rfl, q0, u1, _, rfl, q1, u2, _, rfl, q2, rfl, rfl⟩ := hv; exact ⟨F', _, x_base, x_writes, x_places_here, u0, u1, u2, t8, rfl, w, q0, q1, q2, et8, fun p F2 H2 s2 w => by exact q p F2 H2 s2 w⟩)))) nd (fun v9 F10 H10 s10 w10 r9 => ?_)
    show Ws _ _ _ [some v_base, some v_writes, some v_places_here, some (.ref p_one2), some (.ref p_some5), some v9, none, none, none, none] _
    obtain ⟨t11, et11, h⟩ := bd_some h
    refine ws_setN (n := 6) (O := (oDict rInt) t11) w10 ((evn_lockD (i := 1) (l := p_some5) (R := rInt) (d := t4) rfl (evn_lockD (i := 0) (l := p_one2) (R := rInt) (d := t1) rfl (evn_call (O := (oDict rInt) t11) (Os2 := ((p_one2, (oFrz rInt) t1) :: (p_some5, (oFrz rInt) t4) :: Os0)) G_with_writes (hr.mono (by decide)) T_with_writes.gm T_with_writes.fn.kp T_with_writes.bi pass0 (ea_cons (ev_var (n := 3) (W := (rIs (.ref p_one2)).v) (x := ()) rfl rfl) (ea_cons (ev_var (n := 4) (W := (rIs (.ref p_some5)).v) (x := ()) rfl rfl) ea_nil)) (fun F' Os' H' vs Q w hv q => by obtain ⟨u0, _, rfl, q0, u1, _, rfl, q1, rfl, rfl⟩ := hv; obtain ⟨G, Ex, sG, wG, rG, bG⟩ := Wf.tmpM (Ms := []) (Os := (p_one2, (oFrz rInt) t1) :: (p_some5, (oFrz rInt) t4) :: Os0) w [p_one2, p_some5] (List.forall_mem_cons.mpr ⟨own_frz (Ms := []) (Os := (p_one2, (oFrz rInt) t1) :: (p_some5, (oFrz rInt) t4) :: Os0) w (i := 0) rfl, List.forall_mem_cons.mpr ⟨own_frz (Ms := []) (Os := (p_one2, (oFrz rInt) t1) :: (p_some5, (oFrz rInt) t4) :: Os0) w (i := 1) rfl, List.forall_mem_nil _⟩⟩); cases q0; have rt0 : ((rDict rInt)).r G (.ref p_one2) t1 := (by obtain ⟨o, h1, z, kvs, h2, h3⟩ := rG _ _ (List.mem_of_getElem? (i := 0) rfl) (by simp); subst h2; exact ⟨_, z, kvs, rfl, h1, h3⟩); cases q1; have rt1 : ((rDict rInt)).r G (.ref p_some5) t4 := (by obtain ⟨o, h1, z, kvs, h2, h3⟩ := rG _ _ (List.mem_of_getElem? (i := 1) rfl) (by simp); subst h2; exact ⟨_, z, kvs, rfl, h1, h3⟩); exact ⟨G, _, t1, t4, (.ref p_one2), (.ref p_some5), t11, rfl, wG, rt0, rt1, et11, fun p F2 H2 s2 w => by obtain ⟨F3, s3, w, nl3⟩ := bG F2 H2 (_ :: []) s2 (List.forall_mem_cons.mpr ⟨(nl_D nl_int _), List.forall_mem_nil _⟩) w; exact q p F3 H2 s3 w⟩)) rfl) rfl)) nd (fun p_told12 F13 H13 s13 w13 => ?_)
    have w14 := w13.back (i := 2)
    show Ws _ _ _ [some v_base, some v_writes, some v_places_here, some (.ref p_one2), some (.ref p_some5), some v9, some (.ref p_told12), none, none, none] _
    obtain ⟨t15, et15, h⟩ := bd_some h
    obtain ⟨t21, et21, h⟩ := bd_some h
    refine ws_if w14 (et_w (ew_orG (et_not (et_val (ev_lockD (i := 2) (l := p_told12) (R := rInt) (d := t11) rfl (ev_call (U := rBool.v) (Os2 := ((p_one2, (oDict rInt) t1) :: (p_some5, (oDict rInt) t4) :: (p_told12, (oFrz rInt) t11) :: Os0)) G_l_is_book (hr.mono (by decide)) T_l_is_book.gm T_l_is_book.fn.kp T_l_is_book.bi pass0 (ea_cons (ev_var (n := 6) (W := (rIs (.ref p_told12)).v) (x := ()) rfl rfl) ea_nil) (fun F' Os' H' vs Q w hv q => by obtain ⟨u0, _, rfl, q0, rfl, rfl⟩ := hv; obtain ⟨G, Ex, sG, wG, rG, bG⟩ := Wf.tmpM (Ms := []) (Os := (p_one2, (oDict rInt) t1) :: (p_some5, (oDict rInt) t4) :: (p_told12, (oFrz rInt) t11) :: Os0) w [p_told12] (List.forall_mem_cons.mpr ⟨own_frz (Ms := []) (Os := (p_one2, (oDict rInt) t1) :: (p_some5, (oDict rInt) t4) :: (p_told12, (oFrz rInt) t11) :: Os0) w (i := 2) rfl, List.forall_mem_nil _⟩); cases q0; have rt0 : ((rDict rInt)).r G (.ref p_told12) t11 := (by obtain ⟨o, h1, z, kvs, h2, h3⟩ := rG _ _ (List.mem_of_getElem? (i := 2) rfl) (by simp); subst h2; exact ⟨_, z, kvs, rfl, h1, h3⟩); exact ⟨G, _, t11, (.ref p_told12), t15, rfl, wG, rt0, et15, fun v F2 H2 s2 w r => by obtain ⟨F3, s3, w, nl3⟩ := bG F2 H2 [] s2 (List.forall_mem_nil _) w; exact q v F3 H2 s3 w (nl_bool F2 F3 _ _ nl3 r)⟩)) rfl))) (fun hz => by have hz := (if_some et21).2 hz; obtain ⟨t16, et16, hz⟩ := bd_some hz; obtain ⟨t20, et20, hz⟩ := bd_some hz; exact Ew.eq (ew_orG (et_cmpV (cp_neQ (qt_D (qv_E enc_I dr_I)) et16 (u130 hr)) (Ev.only (ev_var (n := 6) (W := (vDict rInt)) rfl (vDict.own (i := 2) rfl))) (Ev.only (Ev.vwD (ev_var (n := 5) (W := (rDict rInt).v) rfl ((rDict rInt).mono s13 r9))))) (fun hz => by have hz := (if_some et20).2 hz; obtain ⟨t17, et17, hz⟩ := bd_some hz; obtain ⟨t19, et19, hz⟩ := bd_some hz; exact Ew.eq (ew_orG (et_cmpV (cp_neQ (qt_D (qv_E enc_I dr_I)) et17 (u130 hr)) (Ev.only (ev_var (n := 3) (W := (vDict rInt)) rfl (vDict.own (i := 0) rfl))) (Ev.only (Ev.vwD (ev_var (n := 0) (W := (rDict rInt).v) rfl ((rDict rInt).mono (s3.trans (s6.trans (s10.trans s13))) r_base))))) (fun hz => by have hz := (if_some et19).2 hz; obtain ⟨t18, et18, hz⟩ := bd_some hz; exact Ew.eq (ew_or1 (et_cmpV (cp_neQ (qt_D (qv_E enc_I dr_I)) et18 (u130 hr)) (Ev.only (ev_var (n := 4) (W := (vDict rInt)) rfl (vDict.own (i := 1) rfl))) (Ev.only (Ev.vwD (ev_var (n := 1) (W := (rDict rInt).v) rfl ((rDict rInt).mono (s3.trans (s6.trans (s10.trans s13))) r_writes)))))) (Option.some.inj hz).symm) (fun hz => (Option.some.inj ((if_some et19).1 hz)).symm)) (Option.some.inj hz).symm) (fun hz => (Option.some.inj ((if_some et20).1 hz)).symm)) (Option.some.inj hz).symm) (fun hz => (Option.some.inj ((if_some et21).1 hz)).symm))) (fun hb22 F23 H23 s23 w23 => ?_) (fun hb22 F23 H23 s23 w23 => ?_)
    · skip
      have h := (if_some h).1 hb22
      obtain rfl := Option.some.inj h
      refine ws_ret (W := rBool.v) w23 ev_bool (fun vz Fz Hz sz wz rz => ?_)
      have wz := wz.drop (i := 0)
      have wz := wz.drop (i := 0)
      have wz := wz.drop (i := 0)
      exact kQ _ _ _ ((s3.trans (s6.trans (s10.trans (s13.trans s23)))).trans sz) wz rz
    · skip
      have h := (if_some h).2 hb22
      refine ws_nil ?_
      obtain ⟨x_told24, ex_told24, h⟩ := bd_some h
      refine ws_dput (n := 2) (R := rInt) w23 (hu_of hr) ev_int (ev_var (n := 6) (W := (rIs (.ref p_told12)).v) (x := ()) rfl rfl) ev_int rfl ex_told24 (fun F25 H25 s25 w25 => ?_)
      obtain ⟨t26, et26, h⟩ := bd_some h
      refine ws_setN (n := 7) (O := (oDict rInt) t26) w25 ((evn_lockD (i := 0) (l := p_one2) (R := rInt) (d := t1) rfl (evn_call (O := (oDict rInt) t26) (Os2 := ((p_one2, (oFrz rInt) t1) :: (p_some5, (oDict rInt) t4) :: (p_told12, (oDict rInt) x_told24) :: Os0)) G_with_writes (hr.mono (by decide)) T_with_writes.gm T_with_writes.fn.kp T_with_writes.bi pass0 (ea_cons (ev_var (n := 3) (W := (rIs (.ref p_one2)).v) (x := ()) rfl rfl) (ea_cons (EvN.fzD evn_dnew) ea_nil)) (fun F' Os' H' vs Q w hv q => by obtain ⟨u0, _, rfl, q0, u1, _, rfl, q1, rfl, rfl⟩ := hv; obtain ⟨G, Ex, sG, wG, rG, bG⟩ := Wf.tmpM (Ms := []) (Os := (p_one2, (oFrz rInt) t1) :: (p_some5, (oDict rInt) t4) :: (p_told12, (oDict rInt) x_told24) :: Os0) w [p_one2] (List.forall_mem_cons.mpr ⟨own_frz (Ms := []) (Os := (p_one2, (oFrz rInt) t1) :: (p_some5, (oDict rInt) t4) :: (p_told12, (oDict rInt) x_told24) :: Os0) w (i := 0) rfl, List.forall_mem_nil _⟩); cases q0; have rt0 : ((rDict rInt)).r G (.ref p_one2) t1 := (by obtain ⟨o, h1, z, kvs, h2, h3⟩ := rG _ _ (List.mem_of_getElem? (i := 0) rfl) (by simp); subst h2; exact ⟨_, z, kvs, rfl, h1, h3⟩); exact ⟨G, _, t1, ([] : (List (Int × Int))), (.ref p_one2), u1, t26, rfl, wG, rt0, ((rDict rInt).mono sG q1), et26, fun p F2 H2 s2 w => by obtain ⟨F3, s3, w, nl3⟩ := bG F2 H2 (_ :: []) s2 (List.forall_mem_cons.mpr ⟨(nl_D nl_int _), List.forall_mem_nil _⟩) w; exact q p F3 H2 s3 w⟩)) rfl)) nd (fun p_same27 F28 H28 s28 w28 => ?_)
      have w29 := w28.back (i := 3)
      show Ws _ _ _ [some v_base, some v_writes, some v_places_here, some (.ref p_one2), some (.ref p_some5), some v9, some (.ref p_told12), some (.ref p_same27), none, none] _
      obtain ⟨t30, et30, h⟩ := bd_some h
      obtain ⟨t34, et34, h⟩ := bd_some h
      refine ws_if w29 (et_w (ew_orG (et_not (et_val (ev_lockD (i := 3) (l := p_same27) (R := rInt) (d := t26) rfl (ev_call (U := rBool.v) (Os2 := ((p_one2, (oDict rInt) t1) :: (p_some5, (oDict rInt) t4) :: (p_told12, (oDict rInt) x_told24) :: (p_same27, (oFrz rInt) t26) :: Os0)) G_l_is_book (hr.mono (by decide)) T_l_is_book.gm T_l_is_book.fn.kp T_l_is_book.bi pass0 (ea_cons (ev_var (n := 7) (W := (rIs (.ref p_same27)).v) (x := ()) rfl rfl) ea_nil) (fun F' Os' H' vs Q w hv q => by obtain ⟨u0, _, rfl, q0, rfl, rfl⟩ := hv; obtain ⟨G, Ex, sG, wG, rG, bG⟩ := Wf.tmpM (Ms := []) (Os := (p_one2, (oDict rInt) t1) :: (p_some5, (oDict rInt) t4) :: (p_told12, (oDict rInt) x_told24) :: (p_same27, (oFrz rInt) t26) :: Os0) w [p_same27] (List.forall_mem_cons.mpr ⟨own_frz (Ms := []) (Os := (p_one2, (oDict rInt) t1) :: (p_some5, (oDict rInt) t4) :: (p_told12, (oDict rInt) x_told24) :: (p_same27, (oFrz rInt) t26) :: Os0) w (i := 3) rfl, List.forall_mem_nil _⟩); cases q0; have rt0 : ((rDict rInt)).r G (.ref p_same27) t26 := (by obtain ⟨o, h1, z, kvs, h2, h3⟩ := rG _ _ (List.mem_of_getElem? (i := 3) rfl) (by simp); subst h2; exact ⟨_, z, kvs, rfl, h1, h3⟩); exact ⟨G, _, t26, (.ref p_same27), t30, rfl, wG, rt0, et30, fun v F2 H2 s2 w r => by obtain ⟨F3, s3, w, nl3⟩ := bG F2 H2 [] s2 (List.forall_mem_nil _) w; exact q v F3 H2 s3 w (nl_bool F2 F3 _ _ nl3 r)⟩)) rfl))) (fun hz => by have hz := (if_some et34).2 hz; obtain ⟨t31, et31, hz⟩ := bd_some hz; obtain ⟨t33, et33, hz⟩ := bd_some hz; exact Ew.eq (ew_orG (et_cmpV (cp_neQ (qt_D (qv_E enc_I dr_I)) et31 (u130 hr)) (Ev.only (ev_var (n := 7) (W := (vDict rInt)) rfl (vDict.own (i := 3) rfl))) (Ev.only (Ev.vwD (ev_var (n := 0) (W := (rDict rInt).v) rfl ((rDict rInt).mono (s3.trans (s6.trans (s10.trans (s13.trans (s23.trans (s25.trans s28)))))) r_base))))) (fun hz => by have hz := (if_some et33).2 hz; obtain ⟨t32, et32, hz⟩ := bd_some hz; exact Ew.eq (ew_or1 (et_cmpV (cp_neQ (qt_D (qv_E enc_I dr_I)) et32 (u130 hr)) (Ev.only (ev_var (n := 3) (W := (vDict rInt)) rfl (vDict.own (i := 0) rfl))) (Ev.only (Ev.vwD (ev_var (n := 0) (W := (rDict rInt).v) rfl ((rDict rInt).mono (s3.trans (s6.trans (s10.trans (s13.trans (s23.trans (s25.trans s28)))))) r_base)))))) (Option.some.inj hz).symm) (fun hz => (Option.some.inj ((if_some et33).1 hz)).symm)) (Option.some.inj hz).symm) (fun hz => (Option.some.inj ((if_some et34).1 hz)).symm))) (fun hb35 F36 H36 s36 w36 => ?_) (fun hb35 F36 H36 s36 w36 => ?_)
      · skip
        have h := (if_some h).1 hb35
        obtain rfl := Option.some.inj h
        refine ws_ret (W := rBool.v) w36 ev_bool (fun vz Fz Hz sz wz rz => ?_)
        have wz := wz.drop (i := 0)
        have wz := wz.drop (i := 0)
        have wz := wz.drop (i := 0)
        have wz := wz.drop (i := 0)
        exact kQ _ _ _ ((s3.trans (s6.trans (s10.trans (s13.trans (s23.trans (s25.trans (s28.trans s36))))))).trans sz) wz rz
      · skip
        have h := (if_some h).2 hb35
        refine ws_nil ?_
        obtain ⟨x_same37, ex_same37, h⟩ := bd_some h
        refine ws_dput (n := 3) (R := rInt) w36 (hu_of hr) ev_int (ev_var (n := 7) (W := (rIs (.ref p_same27)).v) (x := ()) rfl rfl) ev_int rfl ex_same37 (fun F38 H38 s38 w38 => ?_)
        obtain ⟨t39, et39, h⟩ := bd_some h
        refine ws_setN (n := 8) (O := (oDict rInt) t39) w38 ((evn_lockD (i := 1) (l := p_some5) (R := rInt) (d := t4) rfl (evn_call (O := (oDict rInt) t39) (Os2 := ((p_one2, (oDict rInt) t1) :: (p_some5, (oFrz rInt) t4) :: (p_told12, (oDict rInt) x_told24) :: (p_same27, (oDict rInt) x_same37) :: Os0)) G_with_writes (hr.mono (by decide)) T_with_writes.gm T_with_writes.fn.kp T_with_writes.bi pass0 (ea_cons (EvN.fzD evn_dnew) (ea_cons (ev_var (n := 4) (W := (rIs (.ref p_some5)).v) (x := ()) rfl rfl) ea_nil)) (fun F' Os' H' vs Q w hv q => by obtain ⟨u0, _, rfl, q0, u1, _, rfl, q1, rfl, rfl⟩ := hv; obtain ⟨G, Ex, sG, wG, rG, bG⟩ := Wf.tmpM (Ms := []) (Os := (p_one2, (oDict rInt) t1) :: (p_some5, (oFrz rInt) t4) :: (p_told12, (oDict rInt) x_told24) :: (p_same27, (oDict rInt) x_same37) :: Os0) w [p_some5] (List.forall_mem_cons.mpr ⟨own_frz (Ms := []) (Os := (p_one2, (oDict rInt) t1) :: (p_some5, (oFrz rInt) t4) :: (p_told12, (oDict rInt) x_told24) :: (p_same27, (oDict rInt) x_same37) :: Os0) w (i := 1) rfl, List.forall_mem_nil _⟩); cases q1; have rt1 : ((rDict rInt)).r G (.ref p_some5) t4 := (by obtain ⟨o, h1, z, kvs, h2, h3⟩ := rG _ _ (List.mem_of_getElem? (i := 1) rfl) (by simp); subst h2; exact ⟨_, z, kvs, rfl, h1, h3⟩); exact ⟨G, _, ([] : (List (Int × Int))), t4, u0, (.ref p_some5), t39, rfl, wG, ((rDict rInt).mono sG q0), rt1, et39, fun p F2 H2 s2 w => by obtain ⟨F3, s3, w, nl3⟩ := bG F2 H2 (_ :: []) s2 (List.forall_mem_cons.mpr ⟨(nl_D nl_int _), List.forall_mem_nil _⟩) w; exact q p F3 H2 s3 w⟩)) rfl)) nd (fun p_alone40 F41 H41 s41 w41 => ?_)
        have w42 := w41.back (i := 4)
        show Ws _ _ _ [some v_base, some v_writes, some v_places_here, some (.ref p_one2), some (.ref p_some5), some v9, some (.ref p_told12), some (.ref p_same27), some (.ref p_alone40), none] _
        obtain ⟨t43, et43, h⟩ := bd_some h
        obtain ⟨t46, et46, h⟩ := bd_some h
        refine ws_if w42 (et_w (ew_orG (et_not (et_val (ev_lockD (i := 4) (l := p_alone40) (R := rInt) (d := t39) rfl (ev_call (U := rBool.v) (Os2 := ((p_one2, (oDict rInt) t1) :: (p_some5, (oDict rInt) t4) :: (p_told12, (oDict rInt) x_told24) :: (p_same27, (oDict rInt) x_same37) :: (p_alone40, (oFrz rInt) t39) :: Os0)) G_l_is_book (hr.mono (by decide)) T_l_is_book.gm T_l_is_book.fn.kp T_l_is_book.bi pass0 (ea_cons (ev_var (n := 8) (W := (rIs (.ref p_alone40)).v) (x := ()) rfl rfl) ea_nil) (fun F' Os' H' vs Q w hv q => by obtain ⟨u0, _, rfl, q0, rfl, rfl⟩ := hv; obtain ⟨G, Ex, sG, wG, rG, bG⟩ := Wf.tmpM (Ms := []) (Os := (p_one2, (oDict rInt) t1) :: (p_some5, (oDict rInt) t4) :: (p_told12, (oDict rInt) x_told24) :: (p_same27, (oDict rInt) x_same37) :: (p_alone40, (oFrz rInt) t39) :: Os0) w [p_alone40] (List.forall_mem_cons.mpr ⟨own_frz (Ms := []) (Os := (p_one2, (oDict rInt) t1) :: (p_some5, (oDict rInt) t4) :: (p_told12, (oDict rInt) x_told24) :: (p_same27, (oDict rInt) x_same37) :: (p_alone40, (oFrz rInt) t39) :: Os0) w (i := 4) rfl, List.forall_mem_nil _⟩); cases q0; have rt0 : ((rDict rInt)).r G (.ref p_alone40) t39 := (by obtain ⟨o, h1, z, kvs, h2, h3⟩ := rG _ _ (List.mem_of_getElem? (i := 4) rfl) (by simp); subst h2; exact ⟨_, z, kvs, rfl, h1, h3⟩); exact ⟨G, _, t39, (.ref p_alone40), t43, rfl, wG, rt0, et43, fun v F2 H2 s2 w r => by obtain ⟨F3, s3, w, nl3⟩ := bG F2 H2 [] s2 (List.forall_mem_nil _) w; exact q v F3 H2 s3 w (nl_bool F2 F3 _ _ nl3 r)⟩)) rfl))) (fun hz => by have hz := (if_some et46).2 hz; obtain ⟨t44, et44, hz⟩ := bd_some hz; obtain ⟨t45, et45, hz⟩ := bd_some hz; exact Ew.eq (ew_or1 (et_cmpV (cp_neQ (qt_D (qv_E enc_I dr_I)) et45 (u130 hr)) (Ev.only (ev_var (n := 8) (W := (vDict rInt)) rfl (vDict.own (i := 4) rfl))) (Ev.only (Ev.vwD (EvN.fzD (evn_call (O := (oDict rInt) t44) (Os2 := ((p_one2, (oDict rInt) t1) :: (p_some5, (oDict rInt) t4) :: (p_told12, (oDict rInt) x_told24) :: (p_same27, (oDict rInt) x_same37) :: (p_alone40, (oDict rInt) t39) :: Os0)) G_l_after (hr.mono (by decide)) T_l_after.gm T_l_after.fn.kp T_l_after.bi pass0 (ea_cons (EvN.fzD evn_dnew) (ea_cons (ev_var (n := 1) (W := (rDict rInt).v) rfl ((rDict rInt).mono (s3.trans (s6.trans (s10.trans (s13.trans (s23.trans (s25.trans (s28.trans (s36.trans (s38.trans s41))))))))) r_writes)) (ea_cons (ev_var (n := 2) (W := (rList rInt).v) rfl ((rList rInt).mono (s3.trans (s6.trans (s10.trans (s13.trans (s23.trans (s25.trans (s28.trans (s36.trans (s38.trans s41))))))))) r_places_here)) ea_nil))) (fun F' Os' H' vs Q w hv q => by obtain ⟨u0, _, rfl, q0, u1, _, rfl, q1, u2, _, rfl, q2, rfl, rfl⟩ := hv; exact ⟨F', _, ([] : (List (Int × Int))), x_writes, x_places_here, u0, u1, u2, t44, rfl, w, q0, q1, q2, et44, fun p F2 H2 s2 w => by exact q p F2 H2 s2 w⟩))))))) (Option.some.inj hz).symm) (fun hz => (Option.some.inj ((if_some et46).1 hz)).symm))) (fun hb47 F48 H48 s48 w48 => ?_) (fun hb47 F48 H48 s48 w48 => ?_)
        · skip
          have h := (if_some h).1 hb47
          obtain rfl := Option.some.inj h
          refine ws_ret (W := rBool.v) w48 ev_bool (fun vz Fz Hz sz wz rz => ?_)
          have wz := wz.drop (i := 0)
          have wz := wz.drop (i := 0)
          have wz := wz.drop (i := 0)
          have wz := wz.drop (i := 0)
          have wz := wz.drop (i := 0)
          exact kQ _ _ _ ((s3.trans (s6.trans (s10.trans (s13.trans (s23.trans (s25.trans (s28.trans (s36.trans (s38.trans (s41.trans s48)))))))))).trans sz) wz rz
        · skip
          have h := (if_some h).2 hb47
          refine ws_nil ?_
          obtain ⟨x_alone49, ex_alone49, h⟩ := bd_some h
          refine ws_dput (n := 4) (R := rInt) w48 (hu_of hr) ev_int (ev_var (n := 8) (W := (rIs (.ref p_alone40)).v) (x := ()) rfl rfl) ev_int rfl ex_alone49 (fun F50 H50 s50 w50 => ?_)
          obtain ⟨t51, et51, h⟩ := bd_some h
          refine ws_set (n := 9) (W := (rDict rInt).v) w50 ((EvN.fzD (evn_lockD (i := 1) (l := p_some5) (R := rInt) (d := t4) rfl (evn_lockD (i := 0) (l := p_one2) (R := rInt) (d := t1) rfl (evn_call (O := (oDict rInt) t51) (Os2 := ((p_one2, (oFrz rInt) t1) :: (p_some5, (oFrz rInt) t4) :: (p_told12, (oDict rInt) x_told24) :: (p_same27, (oDict rInt) x_same37) :: (p_alone40, (oDict rInt) x_alone49) :: Os0)) G_with_writes (hr.mono (by decide)) T_with_writes.gm T_with_writes.fn.kp T_with_writes.bi pass0 (ea_cons (ev_var (n := 3) (W := (rIs (.ref p_one2)).v) (x := ()) rfl rfl) (ea_cons (ev_var (n := 4) (W := (rIs (.ref p_some5)).v) (x := ()) rfl rfl) ea_nil)) (fun F' Os' H' vs Q w hv q => by obtain ⟨u0, _, rfl, q0, u1, _, rfl, q1, rfl, rfl⟩ := hv; obtain ⟨G, Ex, sG, wG, rG, bG⟩ := Wf.tmpM (Ms := []) (Os := (p_one2, (oFrz rInt) t1) :: (p_some5, (oFrz rInt) t4) :: (p_told12, (oDict rInt) x_told24) :: (p_same27, (oDict rInt) x_same37) :: (p_alone40, (oDict rInt) x_alone49) :: Os0) w [p_one2, p_some5] (List.forall_mem_cons.mpr ⟨own_frz (Ms := []) (Os := (p_one2, (oFrz rInt) t1) :: (p_some5, (oFrz rInt) t4) :: (p_told12, (oDict rInt) x_told24) :: (p_same27, (oDict rInt) x_same37) :: (p_alone40, (oDict rInt) x_alone49) :: Os0) w (i := 0) rfl, List.forall_mem_cons.mpr ⟨own_frz (Ms := []) (Os := (p_one2, (oFrz rInt) t1) :: (p_some5, (oFrz rInt) t4) :: (p_told12, (oDict rInt) x_told24) :: (p_same27, (oDict rInt) x_same37) :: (p_alone40, (oDict rInt) x_alone49) :: Os0) w (i := 1) rfl, List.forall_mem_nil _⟩⟩); cases q0; have rt0 : ((rDict rInt)).r G (.ref p_one2) t1 := (by obtain ⟨o, h1, z, kvs, h2, h3⟩ := rG _ _ (List.mem_of_getElem? (i := 0) rfl) (by simp); subst h2; exact ⟨_, z, kvs, rfl, h1, h3⟩); cases q1; have rt1 : ((rDict rInt)).r G (.ref p_some5) t4 := (by obtain ⟨o, h1, z, kvs, h2, h3⟩ := rG _ _ (List.mem_of_getElem? (i := 1) rfl) (by simp); subst h2; exact ⟨_, z, kvs, rfl, h1, h3⟩); exact ⟨G, _, t1, t4, (.ref p_one2), (.ref p_some5), t51, rfl, wG, rt0, rt1, et51, fun p F2 H2 s2 w => by obtain ⟨F3, s3, w, nl3⟩ := bG F2 H2 (_ :: []) s2 (List.forall_mem_cons.mpr ⟨(nl_D nl_int _), List.forall_mem_nil _⟩) w; exact q p F3 H2 s3 w⟩)) rfl) rfl))) nd (fun v52 F53 H53 s53 w53 r52 => ?_)
          show Ws _ _ _ [some v_base, some v_writes, some v_places_here, some (.ref p_one2), some (.ref p_some5), some v9, some (.ref p_told12), some (.ref p_same27), some (.ref p_alone40), some v52] _
          obtain ⟨t54, et54, h⟩ := bd_some h
          obtain ⟨t60, et60, h⟩ := bd_some h
          refine ws_if w53 (et_w (ew_orG (et_not (et_val (ev_call (U := rBool.v) (Os2 := ((p_one2, (oDict rInt) t1) :: (p_some5, (oDict rInt) t4) :: (p_told12, (oDict rInt) x_told24) :: (p_same27, (oDict rInt) x_same37) :: (p_alone40, (oDict rInt) x_alone49) :: Os0)) G_l_is_book (hr.mono (by decide)) T_l_is_book.gm T_l_is_book.fn.kp T_l_is_book.bi pass0 (ea_cons (ev_var (n := 9) (W := (rDict rInt).v) rfl r52) ea_nil) (fun F' Os' H' vs Q w hv q => by obtain ⟨u0, _, rfl, q0, rfl, rfl⟩ := hv; exact ⟨F', _, t51, u0, t54, rfl, w, q0, et54, fun v F2 H2 s2 w r => by exact q v F2 H2 s2 w r⟩)))) (fun hz => by have hz := (if_some et60).2 hz; obtain ⟨t55, et55, hz⟩ := bd_some hz; obtain ⟨t59, et59, hz⟩ := bd_some hz; exact Ew.eq (ew_orG (et_cmpV (cp_neQ (qt_D (qv_E enc_I dr_I)) et55 (u130 hr)) (Ev.only (Ev.vwD (ev_var (n := 9) (W := (rDict rInt).v) rfl r52))) (Ev.only (Ev.vwD (ev_var (n := 5) (W := (rDict rInt).v) rfl ((rDict rInt).mono (s13.trans (s23.trans (s25.trans (s28.trans (s36.trans (s38.trans (s41.trans (s48.trans (s50.trans s53))))))))) r9))))) (fun hz => by have hz := (if_some et59).2 hz; obtain ⟨t56, et56, hz⟩ := bd_some hz; obtain ⟨t58, et58, hz⟩ := bd_some hz; exact Ew.eq (ew_orG (et_cmpV (cp_neQ (qt_D (qv_E enc_I dr_I)) et56 (u130 hr)) (Ev.only (ev_var (n := 3) (W := (vDict rInt)) rfl (vDict.own (i := 0) rfl))) (Ev.only (Ev.vwD (ev_var (n := 0) (W := (rDict rInt).v) rfl ((rDict rInt).mono (s3.trans (s6.trans (s10.trans (s13.trans (s23.trans (s25.trans (s28.trans (s36.trans (s38.trans (s41.trans (s48.trans (s50.trans s53)))))))))))) r_base))))) (fun hz => by have hz := (if_some et58).2 hz; obtain ⟨t57, et57, hz⟩ := bd_some hz; exact Ew.eq (ew_or1 (et_cmpV (cp_neQ (qt_D (qv_E enc_I dr_I)) et57 (u130 hr)) (Ev.only (ev_var (n := 4) (W := (vDict rInt)) rfl (vDict.own (i := 1) rfl))) (Ev.only (Ev.vwD (ev_var (n := 1) (W := (rDict rInt).v) rfl ((rDict rInt).mono (s3.trans (s6.trans (s10.trans (s13.trans (s23.trans (s25.trans (s28.trans (s36.trans (s38.trans (s41.trans (s48.trans (s50.trans s53)))))))))))) r_writes)))))) (Option.some.inj hz).symm) (fun hz => (Option.some.inj ((if_some et58).1 hz)).symm)) (Option.some.inj hz).symm) (fun hz => (Option.some.inj ((if_some et59).1 hz)).symm)) (Option.some.inj hz).symm) (fun hz => (Option.some.inj ((if_some et60).1 hz)).symm))) (fun hb61 F62 H62 s62 w62 => ?_) (fun hb61 F62 H62 s62 w62 => ?_)
          · skip
            have h := (if_some h).1 hb61
            obtain rfl := Option.some.inj h
            refine ws_ret (W := rBool.v) w62 ev_bool (fun vz Fz Hz sz wz rz => ?_)
            have wz := wz.drop (i := 0)
            have wz := wz.drop (i := 0)
            have wz := wz.drop (i := 0)
            have wz := wz.drop (i := 0)
            have wz := wz.drop (i := 0)
            exact kQ _ _ _ ((s3.trans (s6.trans (s10.trans (s13.trans (s23.trans (s25.trans (s28.trans (s36.trans (s38.trans (s41.trans (s48.trans (s50.trans (s53.trans s62))))))))))))).trans sz) wz rz
          · skip
            have h := (if_some h).2 hb61
            refine ws_nil ?_
            obtain ⟨x_one63, ex_one63, h⟩ := bd_some h
            refine ws_dput (n := 0) (R := rInt) w62 (hu_of hr) ev_int (ev_var (n := 3) (W := (rIs (.ref p_one2)).v) (x := ()) rfl rfl) ev_int rfl ex_one63 (fun F64 H64 s64 w64 => ?_)
            obtain ⟨x_some65, ex_some65, h⟩ := bd_some h
            refine ws_dput (n := 1) (R := rInt) w64 (hu_of hr) ev_int (ev_var (n := 4) (W := (rIs (.ref p_some5)).v) (x := ()) rfl rfl) ev_int rfl ex_some65 (fun F66 H66 s66 w66 => ?_)
            obtain ⟨t67, et67, h⟩ := bd_some h
            obtain rfl := Option.some.inj h
            refine ws_ret (W := rBool.v) w66 (ev_cmpV (cp_eqQ (qt_D (qv_E enc_I dr_I)) et67 (u130 hr)) (Ev.only (Ev.vwD (ev_var (n := 9) (W := (rDict rInt).v) rfl ((rDict rInt).mono (s62.trans (s64.trans s66)) r52)))) (Ev.only (Ev.vwD (ev_var (n := 5) (W := (rDict rInt).v) rfl ((rDict rInt).mono (s13.trans (s23.trans (s25.trans (s28.trans (s36.trans (s38.trans (s41.trans (s48.trans (s50.trans (s53.trans (s62.trans (s64.trans s66)))))))))))) r9))))) (fun vz Fz Hz sz wz rz => ?_)
            have wz := wz.drop (i := 0)
            have wz := wz.drop (i := 0)
            have wz := wz.drop (i := 0)
            have wz := wz.drop (i := 0)
            have wz := wz.drop (i := 0)
            exact kQ _ _ _ ((s3.trans (s6.trans (s10.trans (s13.trans (s23.trans (s25.trans (s28.trans (s36.trans (s38.trans (s41.trans (s48.trans (s50.trans (s53.trans (s62.trans (s64.trans s66))))))))))))))).trans sz) wz rz
abbrev s_l_choose_1 : Stmt := topS 11
theorem sc_l_choose_1 : FnScope ["_law_box", "_law_rows", "_law_count", "_law_rest", "_law_chosen", "_law_k", "_law_at"] ["_law_box", "_law_rows", "_law_count"] (defScope s_l_choose_1) := ⟨rfl, rfl, rfl, by decide +kernel, rfl, by decide +kernel, by decide +kernel⟩
def sp_l_choose_1 (K : PySem.W.Frag) : Sp := fun vs H Q _ => ∃ (F0 : Hp) (Os0 : Owns) (x_box : (List Int)) (x_rows : (List (Int × Int))) (x_count : Int) (a_box : Addr) (v_rows : V) (v_count : V) (res : (List (Int × Int))) (b_box : (List Int)), vs = [.ref a_box, v_rows, v_count] ∧ Wf F0 ((a_box, (oList rInt) x_box) :: Os0) H ∧ (rList (rT2 rInt rInt)).r F0 v_rows x_rows ∧ rInt.r F0 v_count x_count ∧ M_l_choose_1 x_box x_rows x_count = some (res, b_box) ∧ ∀ p F' H', Same F0 F' → Wf F' ((p, (oList (rT2 rInt rInt)) res) :: (a_box, (oList rInt) b_box) :: Os0) H' → Q (.ref p) H'
theorem ok_l_choose_1 {f : Addr} {fd : FuncData} {f_l_take : Addr} {d_l_take : FuncData} (T : FT K mg "_law_choose" s_l_choose_1 ["_law_box", "_law_rows", "_law_count"] f fd) (B : Blt mg) (T_l_take : FT K mg "_law_take" s_l_take ["_law_box", "_law_size"] f_l_take d_l_take) (G_l_take : FnOk P w K mg base CX0 1 f_l_take d_l_take ["_law_box", "_law_size"] (sp_l_take K)) : FnOk P w K mg base CX0 2 f fd ["_law_box", "_law_rows", "_law_count"] (sp_l_choose_1 K) := by
  refine T.fn.ok sc_l_choose_1 (fun vs H Q E h => ?_) (fun cdv A outer s H vs Q E hr h => ?_)
  · obtain ⟨_, _, _, _, _, _, _, _, _, _, rfl, _⟩ := h
    rfl
  · obtain ⟨F0, Os0, x_box, x_rows, x_count, a_box, v_rows, v_count, res, b_box, rfl, w0, r_rows, r_count, h, kQ⟩ := h
    have nd := sc_l_choose_1.nd
    refine ⟨_, pss_w, ?_⟩
    unfold M_l_choose_1 at h
    show Ws _ _ _ [some (.ref a_box), some v_rows, some v_count, none, none, none, none] _
    refine ws_set (n := 3) (W := (rList (rT2 rInt rInt)).v) w0 ((EvN.fz (evn_listL (Ev.vw (ev_var (n := 1) (W := (rList (rT2 rInt rInt)).v) rfl r_rows)) B.list))) nd (fun v1 F2 H2 s2 w2 r1 => ?_)
    show Ws _ _ _ [some (.ref a_box), some v_rows, some v_count, some v1, none, none, none] _
    obtain ⟨x_chosen3, ex_chosen3, h⟩ := lt_some h
    refine ws_setN (n := 4) (O := (oList (rT2 rInt rInt)) x_chosen3) w2 (EvN.eqO (O := (oList (rT2 rInt rInt))) (evn_list el_nil (by exact (show 0 ≤ 16777216 by decide))) ex_chosen3) nd (fun p_chosen4 F5 H5 s5 w5 => ?_)
    have w6 := w5.back (i := 1)
    show Ws _ _ _ [some (.ref a_box), some v_rows, some v_count, some v1, some (.ref p_chosen4), none, none] _
    obtain ⟨rg7, erg7, h⟩ := bd_some h
    obtain ⟨z9, hz9, hk9⟩ := bd_some h
    refine ws_j (fun (sg : L2.St) (Hm : Hp) => ∃ (Fm : Hp) (x_box16 : (List Int)) (x_rest17 : (List (Int × Int))) (x_chosen18 : (List (Int × Int))) (v19 : V) (o20 : Option V) (o21 : Option V) , sg = [some (.ref a_box), some v_rows, some v_count, some v19, some (.ref p_chosen4), o20, o21] ∧ Same F5 Fm ∧ Wf Fm ((a_box, (oList rInt) x_box16) :: (p_chosen4, (oList (rT2 rInt rInt)) x_chosen18) :: Os0) Hm ∧ (rList (rT2 rInt rInt)).r Fm v19 x_rest17 ∧ (x_box16, x_rest17, x_chosen18) = z9) (w1_forR1 (n := 5) erg7 w6 (ev_min2 (ev_var (n := 2) (W := rInt.v) rfl r_count) (ev_len (Ev.vw (ev_var (n := 1) (W := (rList (rT2 rInt rInt)).v) rfl ((rList (rT2 rInt rInt)).mono (s2.trans s5) r_rows))) B.len) B.min) nd (fun F8 H8 s8 w8 => ?_) PassesOwn.never B.range) ?_
    · skip
      refine ⟨(fun (rr : List Int) (sg : L2.St) (Hm : Hp) => ∃ (Fm : Hp) (x_box10 : (List Int)) (x_rest11 : (List (Int × Int))) (x_chosen12 : (List (Int × Int))) (v13 : V) (o14 : Option V) (o15 : Option V) , sg = [some (.ref a_box), some v_rows, some v_count, some v13, some (.ref p_chosen4), o14, o15] ∧ Same F8 Fm ∧ Wf Fm ((a_box, (oList rInt) x_box10) :: (p_chosen4, (oList (rT2 rInt rInt)) x_chosen12) :: Os0) Hm ∧ (rList (rT2 rInt rInt)).r Fm v13 x_rest11 ∧ foldO (fun s x => B_l_choose_1_9 s.1 s.2.1 s.2.2 x) (x_box10, x_rest11, x_chosen12) rr = some z9), ⟨F8, x_box, x_rows, x_chosen3, v1, none, none, rfl, (Same.refl _), w8, ((rList (rT2 rInt rInt)).mono (s5.trans s8) r1), hz9⟩, ?_, ?_⟩
      · skip
        rintro x22 rr _ H23 ⟨F23, x_box10, x_rest11, x_chosen12, v13, o14, o15, rfl, s23, w23, r24, hz9⟩
        obtain ⟨y9, hy9, hz9⟩ := foldO_some hz9
        have h : B_l_choose_1_9 x_box10 x_rest11 x_chosen12 x22 = some _ := hy9
        unfold B_l_choose_1_9 at h
        show Ws _ _ _ [some (.ref a_box), some v_rows, some v_count, some v13, some (.ref p_chosen4), some (.int x22), o15] _
        obtain ⟨t25, et25, h⟩ := bd_some h
        refine ws_set (n := 6) (W := rInt.v) w23 ((ev_call (U := rInt.v) (Os2 := ((a_box, (oList rInt) t25.2) :: (p_chosen4, (oList (rT2 rInt rInt)) x_chosen12) :: Os0)) G_l_take (hr.mono (by decide)) T_l_take.gm T_l_take.fn.kp T_l_take.bi pass0 (ea_cons (ev_var (n := 0) (W := (rIs (.ref a_box)).v) (x := ()) rfl rfl) (ea_cons (ev_len (Ev.vw (ev_var (n := 3) (W := (rList (rT2 rInt rInt)).v) rfl r24)) B.len) ea_nil)) (fun F' Os' H' vs Q w hv q => by obtain ⟨u0, _, rfl, q0, u1, _, rfl, q1, rfl, rfl⟩ := hv; cases q0; exact ⟨F', _, x_box10, (x_rest11.length : Int), a_box, u1, t25.1, t25.2, rfl, w, q1, et25, fun v F2 H2 s2 w r => by exact q v F2 H2 s2 w r⟩))) nd (fun v26 F27 H27 s27 w27 r26 => ?_)
        show Ws _ _ _ [some (.ref a_box), some v_rows, some v_count, some v13, some (.ref p_chosen4), some (.int x22), some v26] _
        obtain ⟨t28, et28, h⟩ := bd_some h
        obtain ⟨x_chosen29, ex_chosen29, h⟩ := bd_some h
        refine ws_app (n := 1) (m := 4) (R := (rT2 rInt rInt)) (Os1 := ((a_box, (oList rInt) t25.2) :: (p_chosen4, (oList (rT2 rInt rInt)) x_chosen12) :: Os0)) w27 rfl (ev_ixL et28 (Ev.vw (ev_var (n := 3) (W := (rList (rT2 rInt rInt)).v) rfl ((rList (rT2 rInt rInt)).mono s27 r24))) (ev_var (n := 6) (W := rInt.v) rfl r26)) rfl ex_chosen29 (fun F30 H30 s30 w30 => ?_)
        obtain ⟨t31, et31, h⟩ := bd_some h
        refine ws_set (n := 3) (W := (rList (rT2 rInt rInt)).v) w30 ((EvN.fz (evn_cat et31 (EvN.fz (evn_cut (Ev.vw (ev_var (n := 3) (W := (rList (rT2 rInt rInt)).v) rfl ((rList (rT2 rInt rInt)).mono (s27.trans s30) r24))) eo_none (eo_some (ev_var (n := 6) (W := rInt.v) rfl r26)))) (EvN.fz (evn_cut (Ev.vw (ev_var (n := 3) (W := (rList (rT2 rInt rInt)).v) rfl ((rList (rT2 rInt rInt)).mono (s27.trans s30) r24))) (eo_some (ev_add (ev_var (n := 6) (W := rInt.v) rfl r26) ev_int)) eo_none))))) nd (fun v32 F33 H33 s33 w33 r32 => ?_)
        show Ws _ _ _ [some (.ref a_box), some v_rows, some v_count, some v32, some (.ref p_chosen4), some (.int x22), some v26] _
        refine ws_nil ?_
        obtain rfl := Option.some.inj h
        exact ⟨F33, t25.2, t31, x_chosen29, v32, some (.int x22), some v26, rfl, (s23.trans (s27.trans (s30.trans s33))), w33, r32, hz9⟩
      · skip
        rintro _ H34 ⟨F34, x_box10, x_rest11, x_chosen12, v13, o14, o15, rfl, s34, w34, r35, hz9⟩
        have hz := foldO_nil hz9
        exact ⟨F34, x_box10, x_rest11, x_chosen12, v13, o14, o15, rfl, (s8.trans s34), w34, r35, hz.symm⟩
    · skip
      rintro _ H36 ⟨F36, x_box16, x_rest17, x_chosen18, v19, o20, o21, rfl, s36, w36, r37, rfl⟩
      have h := hk9
      have h : K_l_choose_1_9 x_box16 x_rest17 x_chosen18 = some _ := h
      unfold K_l_choose_1_9 at h
      obtain ⟨rfl, rfl⟩ := pair_inj h
      refine ws_ret (W := (rIs (.ref p_chosen4)).v) w36 (ev_var (n := 4) (W := (rIs (.ref p_chosen4)).v) (x := ()) rfl rfl) (fun vz Fz Hz sz wz rz => ?_)
      cases rz
      have wz := wz.pull (i := 1) rfl
      exact kQ _ _ _ ((s2.trans (s5.trans s36)).trans sz) wz
abbrev s_holds : Stmt := topS 7
theorem sc_holds : FnScope ["book", "marks", "place", "value"] ["book", "marks"] (defScope s_holds) := ⟨rfl, rfl, rfl, by decide +kernel, rfl, by decide +kernel, by decide +kernel⟩
def sp_holds (K : PySem.W.Frag) : Sp := fun vs H Q _ => ∃ (F0 : Hp) (Os0 : Owns) (x_book : (List (Int × Int))) (x_marks : (List (Int × Int))) (v_book : V) (v_marks : V) (res : Bool), vs = [v_book, v_marks] ∧ Wf F0 (Os0) H ∧ (rDict rInt).r F0 v_book x_book ∧ (rList (rT2 rInt rInt)).r F0 v_marks x_marks ∧ M_holds x_book x_marks = some res ∧ ∀ v F' H', Same F0 F' → Wf F' (Os0) H' → rBool.r F' v res → Q v H'
theorem ok_holds {f : Addr} {fd : FuncData} {f_value_at : Addr} {d_value_at : FuncData} (T : FT K mg "holds" s_holds ["book", "marks"] f fd) (B : Blt mg) (T_value_at : FT K mg "value_at" s_value_at ["book", "place"] f_value_at d_value_at) (G_value_at : FnOk P w K mg base CX0 1 f_value_at d_value_at ["book", "place"] (sp_value_at K)) : FnOk P w K mg base CX0 2 f fd ["book", "marks"] (sp_holds K) := by
  refine T.fn.ok sc_holds (fun vs H Q E h => ?_) (fun cdv A outer s H vs Q E hr h => ?_)
  · obtain ⟨_, _, _, _, _, _, _, rfl, _⟩ := h
    rfl
  · obtain ⟨F0, Os0, x_book, x_marks, v_book, v_marks, res, rfl, w0, r_book, r_marks, h, kQ⟩ := h
    have nd := sc_holds.nd
    refine ⟨_, pss_w, ?_⟩
    unfold M_holds at h
    show Ws _ _ _ [some v_book, some v_marks, none, none] _
    obtain ⟨t3, et3, h⟩ := bd_some h
    obtain rfl := Option.some.inj h
    refine ws_ret (W := rBool.v) w0 (ev_all (Ev.vw (EvN.fz (evn_lc0 (own := [("place", 2), ("value", 3)]) (S := rBool) (ei_list (ev_var (n := 1) (W := (rList (rT2 rInt rInt)).v) rfl r_marks)) _ et3 (tgb_2 (n := 2) (m := 3) nd (by decide)) (fun q1 x1 z1 F1 t1 hz1 s1 hT1 _ _ _ _ _ => by obtain ⟨v1, u1, rfl, r1, k1⟩ := hT1; obtain ⟨t2, et2, hz1⟩ := bd_some hz1; exact Ev.eq (ev_cmp cp_eq (ev_call (U := rInt.v) (Os2 := (q1 :: Os0)) G_value_at (hr.mono (by decide)) T_value_at.gm T_value_at.fn.kp T_value_at.bi pass0 (ea_cons (ev_var (n := 0) (W := (rDict rInt).v) rfl ((rDict rInt).mono s1 r_book)) (ea_cons (ev_var (n := 2) (W := rInt.v) rfl r1) ea_nil)) (fun F' Os' H' vs Q w hv q => by obtain ⟨u0, _, rfl, q0, u1, _, rfl, q1, rfl, rfl⟩ := hv; exact ⟨F', _, x_book, x1.1, u0, u1, t2, rfl, w, q0, q1, et2, fun v F2 H2 s2 w r => by exact q v F2 H2 s2 w r⟩)) (ev_var (n := 3) (W := rInt.v) rfl k1)) (Option.some.inj hz1).symm) nd (blkOk_by (N := ["book", "marks", "place", "value"]) (sc := defScope s_holds) (by decide +kernel))))) B.all) (fun vz Fz Hz sz wz rz => ?_)
    exact kQ _ _ _ ((Same.refl _).trans sz) wz rz
abbrev s_holds_1 : Stmt := topS 7
theorem sc_holds_1 : FnScope ["book", "marks", "place", "value"] ["book", "marks"] (defScope s_holds_1) := ⟨rfl, rfl, rfl, by decide +kernel, rfl, by decide +kernel, by decide +kernel⟩
def sp_holds_1 (K : PySem.W.Frag) : Sp := fun vs H Q _ => ∃ (F0 : Hp) (Os0 : Owns) (x_book : (List (Int × Int))) (x_marks : (List (Int × Int))) (v_book : V) (v_marks : V) (res : Bool), vs = [v_book, v_marks] ∧ Wf F0 (Os0) H ∧ (rDict rInt).r F0 v_book x_book ∧ (rTup (rT2 rInt rInt)).r F0 v_marks x_marks ∧ M_holds_1 x_book x_marks = some res ∧ ∀ v F' H', Same F0 F' → Wf F' (Os0) H' → rBool.r F' v res → Q v H'
theorem ok_holds_1 {f : Addr} {fd : FuncData} {f_value_at : Addr} {d_value_at : FuncData} (T : FT K mg "holds" s_holds_1 ["book", "marks"] f fd) (B : Blt mg) (T_value_at : FT K mg "value_at" s_value_at ["book", "place"] f_value_at d_value_at) (G_value_at : FnOk P w K mg base CX0 1 f_value_at d_value_at ["book", "place"] (sp_value_at K)) : FnOk P w K mg base CX0 2 f fd ["book", "marks"] (sp_holds_1 K) := by
  refine T.fn.ok sc_holds_1 (fun vs H Q E h => ?_) (fun cdv A outer s H vs Q E hr h => ?_)
  · obtain ⟨_, _, _, _, _, _, _, rfl, _⟩ := h
    rfl
  · obtain ⟨F0, Os0, x_book, x_marks, v_book, v_marks, res, rfl, w0, r_book, r_marks, h, kQ⟩ := h
    have nd := sc_holds_1.nd
    refine ⟨_, pss_w, ?_⟩
    unfold M_holds_1 at h
    show Ws _ _ _ [some v_book, some v_marks, none, none] _
    obtain ⟨t3, et3, h⟩ := bd_some h
    obtain rfl := Option.some.inj h
    refine ws_ret (W := rBool.v) w0 (ev_all (Ev.vw (EvN.fz (evn_lc0 (own := [("place", 2), ("value", 3)]) (S := rBool) (ei_tup (ev_var (n := 1) (W := (rTup (rT2 rInt rInt)).v) rfl r_marks)) _ et3 (tgb_2 (n := 2) (m := 3) nd (by decide)) (fun q1 x1 z1 F1 t1 hz1 s1 hT1 _ _ _ _ _ => by obtain ⟨v1, u1, rfl, r1, k1⟩ := hT1; obtain ⟨t2, et2, hz1⟩ := bd_some hz1; exact Ev.eq (ev_cmp cp_eq (ev_call (U := rInt.v) (Os2 := (q1 :: Os0)) G_value_at (hr.mono (by decide)) T_value_at.gm T_value_at.fn.kp T_value_at.bi pass0 (ea_cons (ev_var (n := 0) (W := (rDict rInt).v) rfl ((rDict rInt).mono s1 r_book)) (ea_cons (ev_var (n := 2) (W := rInt.v) rfl r1) ea_nil)) (fun F' Os' H' vs Q w hv q => by obtain ⟨u0, _, rfl, q0, u1, _, rfl, q1, rfl, rfl⟩ := hv; exact ⟨F', _, x_book, x1.1, u0, u1, t2, rfl, w, q0, q1, et2, fun v F2 H2 s2 w r => by exact q v F2 H2 s2 w r⟩)) (ev_var (n := 3) (W := rInt.v) rfl k1)) (Option.some.inj hz1).symm) nd (blkOk_by (N := ["book", "marks", "place", "value"]) (sc := defScope s_holds_1) (by decide +kernel))))) B.all) (fun vz Fz Hz sz wz rz => ?_)
    exact kQ _ _ _ ((Same.refl _).trans sz) wz rz
abbrev s_l_holding : Stmt := topS 23
theorem sc_l_holding : FnScope ["_law_one", "_law_marks", "_law_due", "_law_told"] ["_law_one", "_law_marks", "_law_due"] (defScope s_l_holding) := ⟨rfl, rfl, rfl, by decide +kernel, rfl, by decide +kernel, by decide +kernel⟩
def sp_l_holding (K : PySem.W.Frag) : Sp := fun vs H Q _ => ∃ (F0 : Hp) (Os0 : Owns) (x_one : (List (Int × Int))) (x_marks : (List (Int × Int))) (x_due : Bool) (v_one : V) (v_marks : V) (v_due : V) (res : Bool), vs = [v_one, v_marks, v_due] ∧ Wf F0 (Os0) H ∧ (rDict rInt).r F0 v_one x_one ∧ (rList (rT2 rInt rInt)).r F0 v_marks x_marks ∧ rBool.r F0 v_due x_due ∧ M_l_holding x_one x_marks x_due = some res ∧ ∀ v F' H', Same F0 F' → Wf F' (Os0) H' → rBool.r F' v res → Q v H'
theorem ok_l_holding {f : Addr} {fd : FuncData} {f_holds : Addr} {d_holds : FuncData} {f_holds_1 : Addr} {d_holds_1 : FuncData} (T : FT K mg "_law_holding" s_l_holding ["_law_one", "_law_marks", "_law_due"] f fd) (B : Blt mg) (T_holds : FT K mg "holds" s_holds ["book", "marks"] f_holds d_holds) (G_holds : FnOk P w K mg base CX0 2 f_holds d_holds ["book", "marks"] (sp_holds K)) (T_holds_1 : FT K mg "holds" s_holds_1 ["book", "marks"] f_holds_1 d_holds_1) (G_holds_1 : FnOk P w K mg base CX0 2 f_holds_1 d_holds_1 ["book", "marks"] (sp_holds_1 K)) : FnOk P w K mg base CX0 3 f fd ["_law_one", "_law_marks", "_law_due"] (sp_l_holding K) := by
  refine T.fn.ok sc_l_holding (fun vs H Q E h => ?_) (fun cdv A outer s H vs Q E hr h => ?_)
  · obtain ⟨_, _, _, _, _, _, _, _, _, rfl, _⟩ := h
    rfl
  · obtain ⟨F0, Os0, x_one, x_marks, x_due, v_one, v_marks, v_due, res, rfl, w0, r_one, r_marks, r_due, h, kQ⟩ := h
    have nd := sc_l_holding.nd
    refine ⟨_, pss_w, ?_⟩
    unfold M_l_holding at h
    show Ws _ _ _ [some v_one, some v_marks, some v_due, none] _
    obtain ⟨t1, et1, h⟩ := bd_some h
    refine ws_set (n := 3) (W := rBool.v) w0 ((ev_call (U := rBool.v) (Os2 := (Os0)) G_holds (hr.mono (by decide)) T_holds.gm T_holds.fn.kp T_holds.bi pass0 (ea_cons (ev_var (n := 0) (W := (rDict rInt).v) rfl r_one) (ea_cons (EvN.fz (evn_listL (Ev.vw (ev_var (n := 1) (W := (rList (rT2 rInt rInt)).v) rfl r_marks)) B.list)) ea_nil)) (fun F' Os' H' vs Q w hv q => by obtain ⟨u0, _, rfl, q0, u1, _, rfl, q1, rfl, rfl⟩ := hv; exact ⟨F', _, x_one, x_marks, u0, u1, t1, rfl, w, q0, q1, et1, fun v F2 H2 s2 w r => by exact q v F2 H2 s2 w r⟩))) nd (fun v2 F3 H3 s3 w3 r2 => ?_)
    show Ws _ _ _ [some v_one, some v_marks, some v_due, some v2] _
    refine ws_if w3 (et_w (ew_or (et_not (et_val (ev_isi (t := "bool") (u := "bool") (k := true) (by decide +kernel) ty_bool (ev_var (n := 3) (W := rBool.v) rfl r2) B.isinstance B.bool (by decide +kernel)))) (ew_or1 (et_cmp (cp_neD enc_B dr_B.v dr_B.v hr.units) (ev_var (n := 3) (W := rBool.v) rfl r2) (ev_var (n := 2) (W := rBool.v) rfl r_due))))) (fun hb4 F5 H5 s5 w5 => ?_) (fun hb4 F5 H5 s5 w5 => ?_)
    · skip
      have h := (if_some h).1 hb4
      obtain rfl := Option.some.inj h
      refine ws_ret (W := rBool.v) w5 ev_bool (fun vz Fz Hz sz wz rz => ?_)
      exact kQ _ _ _ ((s3.trans s5).trans sz) wz rz
    · skip
      have h := (if_some h).2 hb4
      refine ws_nil ?_
      obtain ⟨t6, et6, h⟩ := bd_some h
      refine ws_set (n := 3) (W := rBool.v) w5 ((ev_call (U := rBool.v) (Os2 := (Os0)) G_holds_1 (hr.mono (by decide)) T_holds_1.gm T_holds_1.fn.kp T_holds_1.bi pass0 (ea_cons (ev_var (n := 0) (W := (rDict rInt).v) rfl ((rDict rInt).mono (s3.trans s5) r_one)) (ea_cons (ev_tupL (Ev.vw (ev_var (n := 1) (W := (rList (rT2 rInt rInt)).v) rfl ((rList (rT2 rInt rInt)).mono (s3.trans s5) r_marks))) B.tuple) ea_nil)) (fun F' Os' H' vs Q w hv q => by obtain ⟨u0, _, rfl, q0, u1, _, rfl, q1, rfl, rfl⟩ := hv; exact ⟨F', _, x_one, x_marks, u0, u1, t6, rfl, w, q0, q1, et6, fun v F2 H2 s2 w r => by exact q v F2 H2 s2 w r⟩))) nd (fun v7 F8 H8 s8 w8 r7 => ?_)
      show Ws _ _ _ [some v_one, some v_marks, some v_due, some v7] _
      obtain rfl := Option.some.inj h
      refine ws_ret (W := rBool.v) w8 (ev_and (ev_isi (t := "bool") (u := "bool") (k := true) (by decide +kernel) ty_bool (ev_var (n := 3) (W := rBool.v) rfl r7) B.isinstance B.bool (by decide +kernel)) (ev_one (ev_cmp (cp_eqD enc_B dr_B.v dr_B.v hr.units) (ev_var (n := 3) (W := rBool.v) rfl r7) (ev_var (n := 2) (W := rBool.v) rfl r_due)))) (fun vz Fz Hz sz wz rz => ?_)
      exact kQ _ _ _ ((s3.trans (s5.trans s8)).trans sz) wz rz
abbrev s_l_telling : Stmt := topS 24
theorem sc_l_telling : FnScope ["_law_box", "_law_book", "_law_places_here", "_law_one", "_law_place", "_law_told", "_law_held", "_law_marks", "_law_at", "_law_value_here", "_law_other", "_law_spoilt", "_law_passed"] ["_law_box", "_law_book", "_law_places_here"] (defScope s_l_telling) := ⟨rfl, rfl, rfl, by decide +kernel, rfl, by decide +kernel, by decide +kernel⟩
def sp_l_telling (K : PySem.W.Frag) : Sp := fun vs H Q _ => ∃ (F0 : Hp) (Os0 : Owns) (x_box : (List Int)) (x_book : (List (Int × Int))) (x_places_here : (List Int)) (a_box : Addr) (v_book : V) (v_places_here : V) (res : Bool) (b_box : (List Int)), vs = [.ref a_box, v_book, v_places_here] ∧ Wf F0 ((a_box, (oList rInt) x_box) :: Os0) H ∧ (rDict rInt).r F0 v_book x_book ∧ (rList rInt).r F0 v_places_here x_places_here ∧ M_l_telling x_box x_book x_places_here = some (res, b_box) ∧ ∀ v F' H', Same F0 F' → Wf F' ((a_box, (oList rInt) b_box) :: Os0) H' → rBool.r F' v res → Q v H'
theorem ok_l_telling {f : Addr} {fd : FuncData} {f_l_copy : Addr} {d_l_copy : FuncData} {f_value_at : Addr} {d_value_at : FuncData} {f_l_choose_1 : Addr} {d_l_choose_1 : FuncData} {f_l_holding : Addr} {d_l_holding : FuncData} {f_holds : Addr} {d_holds : FuncData} (T : FT K mg "_law_telling" s_l_telling ["_law_box", "_law_book", "_law_places_here"] f fd) (B : Blt mg) (T_l_copy : FT K mg "_law_copy" s_l_copy ["_law_book"] f_l_copy d_l_copy) (G_l_copy : FnOk P w K mg base CX0 1 f_l_copy d_l_copy ["_law_book"] (sp_l_copy K)) (T_value_at : FT K mg "value_at" s_value_at ["book", "place"] f_value_at d_value_at) (G_value_at : FnOk P w K mg base CX0 1 f_value_at d_value_at ["book", "place"] (sp_value_at K)) (T_l_choose_1 : FT K mg "_law_choose" s_l_choose_1 ["_law_box", "_law_rows", "_law_count"] f_l_choose_1 d_l_choose_1) (G_l_choose_1 : FnOk P w K mg base CX0 2 f_l_choose_1 d_l_choose_1 ["_law_box", "_law_rows", "_law_count"] (sp_l_choose_1 K)) (T_l_holding : FT K mg "_law_holding" s_l_holding ["_law_one", "_law_marks", "_law_due"] f_l_holding d_l_holding) (G_l_holding : FnOk P w K mg base CX0 3 f_l_holding d_l_holding ["_law_one", "_law_marks", "_law_due"] (sp_l_holding K)) (T_holds : FT K mg "holds" s_holds ["book", "marks"] f_holds d_holds) (G_holds : FnOk P w K mg base CX0 2 f_holds d_holds ["book", "marks"] (sp_holds K)) : FnOk P w K mg base CX0 4 f fd ["_law_box", "_law_book", "_law_places_here"] (sp_l_telling K) := by
  refine T.fn.ok sc_l_telling (fun vs H Q E h => ?_) (fun cdv A outer s H vs Q E hr h => ?_)
  · obtain ⟨_, _, _, _, _, _, _, _, _, _, rfl, _⟩ := h
    rfl
  · obtain ⟨F0, Os0, x_box, x_book, x_places_here, a_box, v_book, v_places_here, res, b_box, rfl, w0, r_book, r_places_here, h, kQ⟩ := h
    have nd := sc_l_telling.nd
    refine ⟨_, pss_w, ?_⟩
    unfold M_l_telling at h
    show Ws _ _ _ [some (.ref a_box), some v_book, some v_places_here, none, none, none, none, none, none, none, none, none, none] _
    obtain ⟨t1, et1, h⟩ := bd_some h
    refine ws_setN (n := 3) (O := (oDict rInt) t1) w0 ((evn_call (O := (oDict rInt) t1) (Os2 := ((a_box, (oList rInt) x_box) :: Os0)) G_l_copy (hr.mono (by decide)) T_l_copy.gm T_l_copy.fn.kp T_l_copy.bi pass0 (ea_cons (ev_var (n := 1) (W := (rDict rInt).v) rfl r_book) ea_nil) (fun F' Os' H' vs Q w hv q => by obtain ⟨u0, _, rfl, q0, rfl, rfl⟩ := hv; exact ⟨F', _, x_book, u0, t1, rfl, w, q0, et1, fun p F2 H2 s2 w => by exact q p F2 H2 s2 w⟩))) nd (fun p_one2 F3 H3 s3 w3 => ?_)
    have w4 := w3.back (i := 1)
    show Ws _ _ _ [some (.ref a_box), some v_book, some v_places_here, some (.ref p_one2), none, none, none, none, none, none, none, none, none] _
    obtain ⟨t5, et5, h⟩ := bd_some h
    obtain ⟨z7, hz7, hk7⟩ := bd_some h
    refine ws_j (fun (sg : L2.St) (Hm : Hp) => ∃ (Fm : Hp) (o10 : Option V) (o11 : Option V) , sg = [some (.ref a_box), some v_book, some v_places_here, some (.ref p_one2), o10, o11, none, none, none, none, none, none, none] ∧ Same F3 Fm ∧ Wf Fm ((a_box, (oList rInt) x_box) :: (p_one2, (oDict rInt) t1) :: Os0) Hm ∧ .nx () = z7) (w1_for (n := 4) (R := rInt) w4 (EvN.fz (evn_cat et5 (ev_var (n := 2) (W := (rList rInt).v) rfl ((rList rInt).mono s3 r_places_here)) (EvN.fz (evn_list (el_cons ev_int el_nil) (by exact (show 1 ≤ 16777216 by decide)))))) nd (fun F6 H6 s6 w6 => ?_) PassesOwn.never) ?_
    · skip
      refine ⟨(fun (rr : List Int) (sg : L2.St) (Hm : Hp) => ∃ (Fm : Hp) (o8 : Option V) (o9 : Option V) , sg = [some (.ref a_box), some v_book, some v_places_here, some (.ref p_one2), o8, o9, none, none, none, none, none, none, none] ∧ Same F6 Fm ∧ Wf Fm ((a_box, (oList rInt) x_box) :: (p_one2, (oDict rInt) t1) :: Os0) Hm ∧ foldF (fun s x => B_l_telling_7 x_box x_book t1  x) () rr = some z7), ⟨F6, none, none, rfl, (Same.refl _), w6, hz7⟩, ?_, ?_, ?_⟩
      · rintro _ _ _ ⟨_, _, _, _, sk, wk, _⟩
        exact sk.trans wk.sub
      · skip
        rintro x12 rr _ H13 v12 ⟨F13, o8, o9, rfl, s13, w13, hz7⟩ rx12
        obtain ⟨y7, hy7, hz7⟩ := foldF_some hz7
        have h : B_l_telling_7 x_box x_book t1 x12 = some _ := hy7
        unfold B_l_telling_7 at h
        show Ws _ _ _ [some (.ref a_box), some v_book, some v_places_here, some (.ref p_one2), some v12, o9, none, none, none, none, none, none, none] _
        obtain ⟨t14, et14, h⟩ := bd_some h
        refine ws_set (n := 5) (W := rInt.v) w13 ((ev_lockD (i := 1) (l := p_one2) (R := rInt) (d := t1) rfl (ev_call (U := rInt.v) (Os2 := ((a_box, (oList rInt) x_box) :: (p_one2, (oFrz rInt) t1) :: Os0)) G_value_at (hr.mono (by decide)) T_value_at.gm T_value_at.fn.kp T_value_at.bi pass0 (ea_cons (ev_var (n := 3) (W := (rIs (.ref p_one2)).v) (x := ()) rfl rfl) (ea_cons (ev_var (n := 4) (W := rInt.v) rfl rx12) ea_nil)) (fun F' Os' H' vs Q w hv q => by obtain ⟨u0, _, rfl, q0, u1, _, rfl, q1, rfl, rfl⟩ := hv; obtain ⟨G, Ex, sG, wG, rG, bG⟩ := Wf.tmpM (Ms := []) (Os := (a_box, (oList rInt) x_box) :: (p_one2, (oFrz rInt) t1) :: Os0) w [p_one2] (List.forall_mem_cons.mpr ⟨own_frz (Ms := []) (Os := (a_box, (oList rInt) x_box) :: (p_one2, (oFrz rInt) t1) :: Os0) w (i := 1) rfl, List.forall_mem_nil _⟩); cases q0; have rt0 : ((rDict rInt)).r G (.ref p_one2) t1 := (by obtain ⟨o, h1, z, kvs, h2, h3⟩ := rG _ _ (List.mem_of_getElem? (i := 1) rfl) (by simp); subst h2; exact ⟨_, z, kvs, rfl, h1, h3⟩); exact ⟨G, _, t1, x12, (.ref p_one2), u1, t14, rfl, wG, rt0, q1, et14, fun v F2 H2 s2 w r => by obtain ⟨F3, s3, w, nl3⟩ := bG F2 H2 [] s2 (List.forall_mem_nil _) w; exact q v F3 H2 s3 w (nl_int F2 F3 _ _ nl3 r)⟩)) rfl)) nd (fun v15 F16 H16 s16 w16 r15 => ?_)
        show Ws _ _ _ [some (.ref a_box), some v_book, some v_places_here, some (.ref p_one2), some v12, some v15, none, none, none, none, none, none, none] _
        refine ws_if w16 (et_w (ew_or (et_not (et_val (ev_isi (t := "int") (u := "int") (k := true) (by decide +kernel) ty_int (ev_var (n := 5) (W := rInt.v) rfl r15) B.isinstance B.int (by decide +kernel)))) (ew_or (et_val (ev_isi (t := "int") (u := "bool") (k := false) (by decide +kernel) ty_int (ev_var (n := 5) (W := rInt.v) rfl r15) B.isinstance B.bool (by decide +kernel))) (ew_or1 (et_cmp cp_ne (ev_var (n := 5) (W := rInt.v) rfl r15) (ev_dget2 (hu_of hr) (Ev.vwD (ev_var (n := 1) (W := (rDict rInt).v) rfl ((rDict rInt).mono (s3.trans (s6.trans (s13.trans s16))) r_book))) (ev_var (n := 4) (W := rInt.v) rfl rx12) ev_int)))))) (fun hb17 F18 H18 s18 w18 => ?_) (fun hb17 F18 H18 s18 w18 => ?_)
        · skip
          have h := (if_some h).1 hb17
          obtain rfl := Option.some.inj h
          obtain rfl := Option.some.inj hz7
          have h := flk_ret hk7
          obtain ⟨rfl, rfl⟩ := pair_inj h
          refine ws_ret (W := rBool.v) w18 ev_bool (fun vz Fz Hz sz wz rz => ?_)
          have wz := wz.drop (i := 1)
          exact kQ _ _ _ ((s3.trans (s6.trans (s13.trans (s16.trans s18)))).trans sz) wz rz
        · skip
          have h := (if_some h).2 hb17
          refine ws_nil ?_
          refine ws_nil ?_
          obtain rfl := Option.some.inj h
          exact ⟨F18, some v12, some v15, rfl, (s13.trans (s16.trans s18)), w18, hz7⟩
      · skip
        rintro _ H19 ⟨F19, o8, o9, rfl, s19, w19, hz7⟩
        have hz := foldF_nil hz7
        exact ⟨F19, o8, o9, rfl, (s6.trans s19), w19, hz.symm⟩
    · skip
      rintro _ H20 ⟨F20, o10, o11, rfl, s20, w20, rfl⟩
      have h := flk_nx hk7
      have h : K_l_telling_7 x_box x_book x_places_here t1  = some _ := h
      unfold K_l_telling_7 at h
      obtain ⟨t21, et21, h⟩ := bd_some h
      obtain ⟨t23, et23, h⟩ := bd_some h
      refine ws_setLc0 (n := 6) (own := [("_law_place", 4)]) (S := (rT2 rInt rInt)) w20 (ei_list (EvN.fz (evn_cat et21 (ev_var (n := 2) (W := (rList rInt).v) rfl ((rList rInt).mono (s3.trans s20) r_places_here)) (EvN.fz (evn_list (el_cons ev_int el_nil) (by exact (show 1 ≤ 16777216 by decide))))))) _ et23 (tgb_1 (n := 4) nd) (fun q22 x22 z22 F22 t22 hz22 s22 hT22 _ _ _ _ _ => by obtain ⟨v22, rfl, r22⟩ := hT22; exact Ev.eq (ev_tup2 (ea_cons (ev_var (n := 4) (W := rInt.v) rfl r22) (ea_cons (ev_dget2 (hu_of hr) (Ev.vwD (ev_var (n := 1) (W := (rDict rInt).v) rfl ((rDict rInt).mono (s3.trans (s20.trans s22)) r_book))) (ev_var (n := 4) (W := rInt.v) rfl r22) ev_int) ea_nil))) (Option.some.inj hz22).symm) nd (blkOk_by (N := ["_law_box", "_law_book", "_law_places_here", "_law_one", "_law_place", "_law_told", "_law_held", "_law_marks", "_law_at", "_law_value_here", "_law_other", "_law_spoilt", "_law_passed"]) (sc := defScope s_l_telling) (by decide +kernel)) (fun p_held24 F25 H25 s25 w25 => ?_) (sw_true rfl rfl rfl (by decide +kernel))
      have w26 := w25.back (i := 2)
      obtain ⟨F28, s28, w28, q29⟩ := fz_own w26 (i := 2) rfl
      show Ws _ _ _ [some (.ref a_box), some v_book, some v_places_here, some (.ref p_one2), o10, o11, some (.ref p_held24), none, none, none, none, none, none] _
      obtain ⟨t30, et30, h⟩ := bd_some h
      refine ws_set (n := 7) (W := (rList (rT2 rInt rInt)).v) w28 ((EvN.fz (evn_call (O := (oList (rT2 rInt rInt)) t30.1) (Os2 := ((a_box, (oList rInt) t30.2) :: (p_one2, (oDict rInt) t1) :: Os0)) G_l_choose_1 (hr.mono (by decide)) T_l_choose_1.gm T_l_choose_1.fn.kp T_l_choose_1.bi pass0 (ea_cons (ev_var (n := 0) (W := (rIs (.ref a_box)).v) (x := ()) rfl rfl) (ea_cons (ev_var (n := 6) (W := (rList (rT2 rInt rInt)).v) rfl q29) (ea_cons (ev_len (Ev.vw (ev_var (n := 6) (W := (rList (rT2 rInt rInt)).v) rfl q29)) B.len) ea_nil))) (fun F' Os' H' vs Q w hv q => by obtain ⟨u0, _, rfl, q0, u1, _, rfl, q1, u2, _, rfl, q2, rfl, rfl⟩ := hv; cases q0; exact ⟨F', _, x_box, t23, (t23.length : Int), a_box, u1, u2, t30.1, t30.2, rfl, w, q1, q2, et30, fun p F2 H2 s2 w => by exact q p F2 H2 s2 w⟩)))) nd (fun v31 F32 H32 s32 w32 r31 => ?_)
      show Ws _ _ _ [some (.ref a_box), some v_book, some v_places_here, some (.ref p_one2), o10, o11, some (.ref p_held24), some v31, none, none, none, none, none] _
      obtain ⟨t33, et33, h⟩ := bd_some h
      obtain ⟨t35, et35, h⟩ := bd_some h
      refine ws_if w32 (et_w (ew_orG (et_not (et_val (ev_lockD (i := 1) (l := p_one2) (R := rInt) (d := t1) rfl (ev_call (U := rBool.v) (Os2 := ((a_box, (oList rInt) t30.2) :: (p_one2, (oFrz rInt) t1) :: Os0)) G_l_holding (hr.mono (by decide)) T_l_holding.gm T_l_holding.fn.kp T_l_holding.bi pass0 (ea_cons (ev_var (n := 3) (W := (rIs (.ref p_one2)).v) (x := ()) rfl rfl) (ea_cons (ev_var (n := 7) (W := (rList (rT2 rInt rInt)).v) rfl r31) (ea_cons ev_bool ea_nil))) (fun F' Os' H' vs Q w hv q => by obtain ⟨u0, _, rfl, q0, u1, _, rfl, q1, u2, _, rfl, q2, rfl, rfl⟩ := hv; obtain ⟨G, Ex, sG, wG, rG, bG⟩ := Wf.tmpM (Ms := []) (Os := (a_box, (oList rInt) t30.2) :: (p_one2, (oFrz rInt) t1) :: Os0) w [p_one2] (List.forall_mem_cons.mpr ⟨own_frz (Ms := []) (Os := (a_box, (oList rInt) t30.2) :: (p_one2, (oFrz rInt) t1) :: Os0) w (i := 1) rfl, List.forall_mem_nil _⟩); cases q0; have rt0 : ((rDict rInt)).r G (.ref p_one2) t1 := (by obtain ⟨o, h1, z, kvs, h2, h3⟩ := rG _ _ (List.mem_of_getElem? (i := 1) rfl) (by simp); subst h2; exact ⟨_, z, kvs, rfl, h1, h3⟩); exact ⟨G, _, t1, t30.1, true, (.ref p_one2), u1, u2, t33, rfl, wG, rt0, ((rList (rT2 rInt rInt)).mono sG q1), q2, et33, fun v F2 H2 s2 w r => by obtain ⟨F3, s3, w, nl3⟩ := bG F2 H2 [] s2 (List.forall_mem_nil _) w; exact q v F3 H2 s3 w (nl_bool F2 F3 _ _ nl3 r)⟩)) rfl))) (fun hz => by have hz := (if_some et35).2 hz; obtain ⟨t34, et34, hz⟩ := bd_some hz; exact Ew.eq (ew_or1 (et_not (et_val (ev_lockD (i := 1) (l := p_one2) (R := rInt) (d := t1) rfl (ev_call (U := rBool.v) (Os2 := ((a_box, (oList rInt) t30.2) :: (p_one2, (oFrz rInt) t1) :: Os0)) G_l_holding (hr.mono (by decide)) T_l_holding.gm T_l_holding.fn.kp T_l_holding.bi pass0 (ea_cons (ev_var (n := 3) (W := (rIs (.ref p_one2)).v) (x := ()) rfl rfl) (ea_cons (EvN.fz (evn_list el_nil (by exact (show 0 ≤ 16777216 by decide)))) (ea_cons ev_bool ea_nil))) (fun F' Os' H' vs Q w hv q => by obtain ⟨u0, _, rfl, q0, u1, _, rfl, q1, u2, _, rfl, q2, rfl, rfl⟩ := hv; obtain ⟨G, Ex, sG, wG, rG, bG⟩ := Wf.tmpM (Ms := []) (Os := (a_box, (oList rInt) t30.2) :: (p_one2, (oFrz rInt) t1) :: Os0) w [p_one2] (List.forall_mem_cons.mpr ⟨own_frz (Ms := []) (Os := (a_box, (oList rInt) t30.2) :: (p_one2, (oFrz rInt) t1) :: Os0) w (i := 1) rfl, List.forall_mem_nil _⟩); cases q0; have rt0 : ((rDict rInt)).r G (.ref p_one2) t1 := (by obtain ⟨o, h1, z, kvs, h2, h3⟩ := rG _ _ (List.mem_of_getElem? (i := 1) rfl) (by simp); subst h2; exact ⟨_, z, kvs, rfl, h1, h3⟩); exact ⟨G, _, t1, ([] : (List (Int × Int))), true, (.ref p_one2), u1, u2, t34, rfl, wG, rt0, ((rList (rT2 rInt rInt)).mono sG q1), q2, et34, fun v F2 H2 s2 w r => by obtain ⟨F3, s3, w, nl3⟩ := bG F2 H2 [] s2 (List.forall_mem_nil _) w; exact q v F3 H2 s3 w (nl_bool F2 F3 _ _ nl3 r)⟩)) rfl)))) (Option.some.inj hz).symm) (fun hz => (Option.some.inj ((if_some et35).1 hz)).symm))) (fun hb36 F37 H37 s37 w37 => ?_) (fun hb36 F37 H37 s37 w37 => ?_)
      · skip
        have h := (if_some h).1 hb36
        obtain ⟨rfl, rfl⟩ := pair_inj h
        refine ws_ret (W := rBool.v) w37 ev_bool (fun vz Fz Hz sz wz rz => ?_)
        have wz := wz.drop (i := 1)
        exact kQ _ _ _ ((s3.trans (s20.trans (s25.trans (s28.trans (s32.trans s37))))).trans sz) wz rz
      · skip
        have h := (if_some h).2 hb36
        refine ws_nil ?_
        obtain ⟨rg38, erg38, h⟩ := bd_some h
        obtain ⟨z40, hz40, hk40⟩ := bd_some h
        refine ws_j (fun (sg : L2.St) (Hm : Hp) => ∃ (Fm : Hp) (o48 : Option V) (o49 : Option V) (o50 : Option V) (o51 : Option V) (o52 : Option V) (o53 : Option V) (o54 : Option V) , sg = [some (.ref a_box), some v_book, some v_places_here, some (.ref p_one2), o48, o49, some (.ref p_held24), some v31, o50, o51, o52, o53, o54] ∧ Same F37 Fm ∧ Wf Fm ((a_box, (oList rInt) t30.2) :: (p_one2, (oDict rInt) t1) :: Os0) Hm ∧ .nx () = z40) (w1_forR1 (n := 8) erg38 w37 (ev_len (Ev.vw (ev_var (n := 7) (W := (rList (rT2 rInt rInt)).v) rfl ((rList (rT2 rInt rInt)).mono s37 r31))) B.len) nd (fun F39 H39 s39 w39 => ?_) PassesOwn.never B.range) ?_
        · skip
          refine ⟨(fun (rr : List Int) (sg : L2.St) (Hm : Hp) => ∃ (Fm : Hp) (o41 : Option V) (o42 : Option V) (o43 : Option V) (o44 : Option V) (o45 : Option V) (o46 : Option V) (o47 : Option V) , sg = [some (.ref a_box), some v_book, some v_places_here, some (.ref p_one2), o41, o42, some (.ref p_held24), some v31, o43, o44, o45, o46, o47] ∧ Same F39 Fm ∧ Wf Fm ((a_box, (oList rInt) t30.2) :: (p_one2, (oDict rInt) t1) :: Os0) Hm ∧ foldF (fun s x => B_l_telling_40 t1 t30  x) () rr = some z40), ⟨F39, o10, o11, none, none, none, none, none, rfl, (Same.refl _), w39, hz40⟩, ?_, ?_⟩
          · skip
            rintro x55 rr _ H56 ⟨F56, o41, o42, o43, o44, o45, o46, o47, rfl, s56, w56, hz40⟩
            obtain ⟨y40, hy40, hz40⟩ := foldF_some hz40
            have h : B_l_telling_40 t1 t30 x55 = some _ := hy40
            unfold B_l_telling_40 at h
            show Ws _ _ _ [some (.ref a_box), some v_book, some v_places_here, some (.ref p_one2), o41, o42, some (.ref p_held24), some v31, some (.int x55), o44, o45, o46, o47] _
            obtain ⟨t57, et57, h⟩ := bd_some h
            refine ws_set (n := 4) (W := rInt.v) w56 ((ev_t2a (ev_ixL et57 (Ev.vw (ev_var (n := 7) (W := (rList (rT2 rInt rInt)).v) rfl ((rList (rT2 rInt rInt)).mono (s37.trans (s39.trans s56)) r31))) (ev_var (n := 8) (W := rInt.v) rfl rfl)))) nd (fun v58 F59 H59 s59 w59 r58 => ?_)
            show Ws _ _ _ [some (.ref a_box), some v_book, some v_places_here, some (.ref p_one2), some v58, o42, some (.ref p_held24), some v31, some (.int x55), o44, o45, o46, o47] _
            obtain ⟨t60, et60, h⟩ := bd_some h
            refine ws_set (n := 9) (W := rInt.v) w59 ((ev_t2b (ev_ixL et60 (Ev.vw (ev_var (n := 7) (W := (rList (rT2 rInt rInt)).v) rfl ((rList (rT2 rInt rInt)).mono (s37.trans (s39.trans (s56.trans s59))) r31))) (ev_var (n := 8) (W := rInt.v) rfl rfl)))) nd (fun v61 F62 H62 s62 w62 r61 => ?_)
            show Ws _ _ _ [some (.ref a_box), some v_book, some v_places_here, some (.ref p_one2), some v58, o42, some (.ref p_held24), some v31, some (.int x55), some v61, o45, o46, o47] _
            obtain ⟨xs63, exs63, h⟩ := lt_some h
            obtain ⟨z65, hz65, hk65⟩ := bd_some h
            refine ws_j (fun (sg : L2.St) (Hm : Hp) => ∃ (Fm : Hp) (o70 : Option V) (o71 : Option V) (o72 : Option V) (o73 : Option V) , sg = [some (.ref a_box), some v_book, some v_places_here, some (.ref p_one2), some v58, o70, some (.ref p_held24), some v31, some (.int x55), some v61, o71, o72, o73] ∧ Same F62 Fm ∧ Wf Fm ((a_box, (oList rInt) t30.2) :: (p_one2, (oDict rInt) t1) :: Os0) Hm ∧ .nx () = z65) (w1_for (n := 10) (R := rInt) w62 (Ev.eq (EvN.fz (evn_list (el_cons (ev_var (n := 9) (W := rInt.v) rfl r61) (el_cons (ev_add (ev_var (n := 9) (W := rInt.v) rfl r61) ev_int) (el_cons ev_int (el_cons ev_int el_nil)))) (by exact (show 4 ≤ 16777216 by decide)))) exs63) nd (fun F64 H64 s64 w64 => ?_) PassesOwn.never) ?_
            · skip
              refine ⟨(fun (rr : List Int) (sg : L2.St) (Hm : Hp) => ∃ (Fm : Hp) (o66 : Option V) (o67 : Option V) (o68 : Option V) (o69 : Option V) , sg = [some (.ref a_box), some v_book, some v_places_here, some (.ref p_one2), some v58, o66, some (.ref p_held24), some v31, some (.int x55), some v61, o67, o68, o69] ∧ Same F64 Fm ∧ Wf Fm ((a_box, (oList rInt) t30.2) :: (p_one2, (oDict rInt) t1) :: Os0) Hm ∧ foldF (fun s x => B_l_telling_65 t1 t30 x55 t57 t60  x) () rr = some z65), ⟨F64, o42, o45, o46, o47, rfl, (Same.refl _), w64, hz65⟩, ?_, ?_, ?_⟩
              · rintro _ _ _ ⟨_, _, _, _, _, _, sk, wk, _⟩
                exact sk.trans wk.sub
              · skip
                rintro x74 rr _ H75 v74 ⟨F75, o66, o67, o68, o69, rfl, s75, w75, hz65⟩ rx74
                obtain ⟨y65, hy65, hz65⟩ := foldF_some hz65
                have h : B_l_telling_65 t1 t30 x55 t57 t60 x74 = some _ := hy65
                unfold B_l_telling_65 at h
                show Ws _ _ _ [some (.ref a_box), some v_book, some v_places_here, some (.ref p_one2), some v58, o66, some (.ref p_held24), some v31, some (.int x55), some v61, some v74, o68, o69] _
                obtain ⟨t76, et76, h⟩ := bd_some h
                obtain ⟨t77, et77, h⟩ := bd_some h
                refine ws_set (n := 11) (W := (rList (rT2 rInt rInt)).v) w75 ((EvN.fz (evn_cat et77 (EvN.fz (evn_cat et76 (EvN.fz (evn_cut (Ev.vw (ev_var (n := 7) (W := (rList (rT2 rInt rInt)).v) rfl ((rList (rT2 rInt rInt)).mono (s37.trans (s39.trans (s56.trans (s59.trans (s62.trans (s64.trans s75)))))) r31))) eo_none (eo_some (ev_var (n := 8) (W := rInt.v) rfl rfl)))) (EvN.fz (evn_list (el_cons (ev_tup2 (ea_cons (ev_var (n := 4) (W := rInt.v) rfl r58) (ea_cons (ev_var (n := 10) (W := rInt.v) rfl rx74) ea_nil))) el_nil) (by exact (show 1 ≤ 16777216 by decide)))))) (EvN.fz (evn_cut (Ev.vw (ev_var (n := 7) (W := (rList (rT2 rInt rInt)).v) rfl ((rList (rT2 rInt rInt)).mono (s37.trans (s39.trans (s56.trans (s59.trans (s62.trans (s64.trans s75)))))) r31))) (eo_some (ev_add (ev_var (n := 8) (W := rInt.v) rfl rfl) ev_int)) eo_none))))) nd (fun v78 F79 H79 s79 w79 r78 => ?_)
                show Ws _ _ _ [some (.ref a_box), some v_book, some v_places_here, some (.ref p_one2), some v58, o66, some (.ref p_held24), some v31, some (.int x55), some v61, some v74, some v78, o69] _
                refine ws_set (n := 12) (W := (rList (rT2 rInt rInt)).v) w79 ((EvN.fz (evn_listL (Ev.vw (ev_var (n := 11) (W := (rList (rT2 rInt rInt)).v) rfl r78)) B.list))) nd (fun v80 F81 H81 s81 w81 r80 => ?_)
                show Ws _ _ _ [some (.ref a_box), some v_book, some v_places_here, some (.ref p_one2), some v58, o66, some (.ref p_held24), some v31, some (.int x55), some v61, some v74, some v78, some v80] _
                obtain ⟨t82, et82, h⟩ := bd_some h
                refine ws_set (n := 5) (W := rBool.v) w81 ((ev_lockD (i := 1) (l := p_one2) (R := rInt) (d := t1) rfl (ev_call (U := rBool.v) (Os2 := ((a_box, (oList rInt) t30.2) :: (p_one2, (oFrz rInt) t1) :: Os0)) G_holds (hr.mono (by decide)) T_holds.gm T_holds.fn.kp T_holds.bi pass0 (ea_cons (ev_var (n := 3) (W := (rIs (.ref p_one2)).v) (x := ()) rfl rfl) (ea_cons (ev_var (n := 12) (W := (rList (rT2 rInt rInt)).v) rfl r80) ea_nil)) (fun F' Os' H' vs Q w hv q => by obtain ⟨u0, _, rfl, q0, u1, _, rfl, q1, rfl, rfl⟩ := hv; obtain ⟨G, Ex, sG, wG, rG, bG⟩ := Wf.tmpM (Ms := []) (Os := (a_box, (oList rInt) t30.2) :: (p_one2, (oFrz rInt) t1) :: Os0) w [p_one2] (List.forall_mem_cons.mpr ⟨own_frz (Ms := []) (Os := (a_box, (oList rInt) t30.2) :: (p_one2, (oFrz rInt) t1) :: Os0) w (i := 1) rfl, List.forall_mem_nil _⟩); cases q0; have rt0 : ((rDict rInt)).r G (.ref p_one2) t1 := (by obtain ⟨o, h1, z, kvs, h2, h3⟩ := rG _ _ (List.mem_of_getElem? (i := 1) rfl) (by simp); subst h2; exact ⟨_, z, kvs, rfl, h1, h3⟩); exact ⟨G, _, t1, t77, (.ref p_one2), u1, t82, rfl, wG, rt0, ((rList (rT2 rInt rInt)).mono sG q1), et82, fun v F2 H2 s2 w r => by obtain ⟨F3, s3, w, nl3⟩ := bG F2 H2 [] s2 (List.forall_mem_nil _) w; exact q v F3 H2 s3 w (nl_bool F2 F3 _ _ nl3 r)⟩)) rfl)) nd (fun v83 F84 H84 s84 w84 r83 => ?_)
                show Ws _ _ _ [some (.ref a_box), some v_book, some v_places_here, some (.ref p_one2), some v58, some v83, some (.ref p_held24), some v31, some (.int x55), some v61, some v74, some v78, some v80] _
                refine ws_if w84 (et_w (ew_or (et_not (et_val (ev_isi (t := "bool") (u := "bool") (k := true) (by decide +kernel) ty_bool (ev_var (n := 5) (W := rBool.v) rfl r83) B.isinstance B.bool (by decide +kernel)))) (ew_or (et_cmp (cp_neD enc_B dr_B.v dr_B.v hr.units) (ev_var (n := 5) (W := rBool.v) rfl r83) (ev_cmp cp_eq (ev_var (n := 10) (W := rInt.v) rfl rx74) (ev_var (n := 9) (W := rInt.v) rfl r61))) (ew_or1 (et_cmpV (cp_neD (enc_L (enc_2 enc_I enc_I)) (dv_L (dr_2 dr_I dr_I)) (dv_L (dr_2 dr_I dr_I)) hr.units) (Ev.vw (ev_var (n := 12) (W := (rList (rT2 rInt rInt)).v) rfl ((rList (rT2 rInt rInt)).mono s84 r80))) (Ev.vw (ev_var (n := 11) (W := (rList (rT2 rInt rInt)).v) rfl ((rList (rT2 rInt rInt)).mono (s81.trans s84) r78)))))))) (fun hb85 F86 H86 s86 w86 => ?_) (fun hb85 F86 H86 s86 w86 => ?_)
                · skip
                  have h := (if_some h).1 hb85
                  obtain rfl := Option.some.inj h
                  obtain rfl := Option.some.inj hz65
                  have h := flk_ret hk65
                  obtain rfl := Option.some.inj h
                  obtain rfl := Option.some.inj hz40
                  have h := flk_ret hk40
                  obtain ⟨rfl, rfl⟩ := pair_inj h
                  refine ws_ret (W := rBool.v) w86 ev_bool (fun vz Fz Hz sz wz rz => ?_)
                  have wz := wz.drop (i := 1)
                  exact kQ _ _ _ ((s3.trans (s20.trans (s25.trans (s28.trans (s32.trans (s37.trans (s39.trans (s56.trans (s59.trans (s62.trans (s64.trans (s75.trans (s79.trans (s81.trans (s84.trans s86))))))))))))))).trans sz) wz rz
                · skip
                  have h := (if_some h).2 hb85
                  refine ws_nil ?_
                  obtain ⟨t87, et87, h⟩ := bd_some h
                  obtain ⟨t89, et89, h⟩ := bd_some h
                  refine ws_if w86 (et_w (ew_orG (et_not (et_val (ev_lockD (i := 1) (l := p_one2) (R := rInt) (d := t1) rfl (ev_call (U := rBool.v) (Os2 := ((a_box, (oList rInt) t30.2) :: (p_one2, (oFrz rInt) t1) :: Os0)) G_l_holding (hr.mono (by decide)) T_l_holding.gm T_l_holding.fn.kp T_l_holding.bi pass0 (ea_cons (ev_var (n := 3) (W := (rIs (.ref p_one2)).v) (x := ()) rfl rfl) (ea_cons (ev_var (n := 11) (W := (rList (rT2 rInt rInt)).v) rfl ((rList (rT2 rInt rInt)).mono (s81.trans (s84.trans s86)) r78)) (ea_cons (ev_cmp cp_eq (ev_var (n := 10) (W := rInt.v) rfl rx74) (ev_var (n := 9) (W := rInt.v) rfl r61)) ea_nil))) (fun F' Os' H' vs Q w hv q => by obtain ⟨u0, _, rfl, q0, u1, _, rfl, q1, u2, _, rfl, q2, rfl, rfl⟩ := hv; obtain ⟨G, Ex, sG, wG, rG, bG⟩ := Wf.tmpM (Ms := []) (Os := (a_box, (oList rInt) t30.2) :: (p_one2, (oFrz rInt) t1) :: Os0) w [p_one2] (List.forall_mem_cons.mpr ⟨own_frz (Ms := []) (Os := (a_box, (oList rInt) t30.2) :: (p_one2, (oFrz rInt) t1) :: Os0) w (i := 1) rfl, List.forall_mem_nil _⟩); cases q0; have rt0 : ((rDict rInt)).r G (.ref p_one2) t1 := (by obtain ⟨o, h1, z, kvs, h2, h3⟩ := rG _ _ (List.mem_of_getElem? (i := 1) rfl) (by simp); subst h2; exact ⟨_, z, kvs, rfl, h1, h3⟩); exact ⟨G, _, t1, t77, decide (x74 = t60.2), (.ref p_one2), u1, u2, t87, rfl, wG, rt0, ((rList (rT2 rInt rInt)).mono sG q1), q2, et87, fun v F2 H2 s2 w r => by obtain ⟨F3, s3, w, nl3⟩ := bG F2 H2 [] s2 (List.forall_mem_nil _) w; exact q v F3 H2 s3 w (nl_bool F2 F3 _ _ nl3 r)⟩)) rfl))) (fun hz => by have hz := (if_some et89).2 hz; obtain ⟨t88, et88, hz⟩ := bd_some hz; exact Ew.eq (ew_or1 (et_not (et_val (ev_lockD (i := 1) (l := p_one2) (R := rInt) (d := t1) rfl (ev_call (U := rBool.v) (Os2 := ((a_box, (oList rInt) t30.2) :: (p_one2, (oFrz rInt) t1) :: Os0)) G_l_holding (hr.mono (by decide)) T_l_holding.gm T_l_holding.fn.kp T_l_holding.bi pass0 (ea_cons (ev_var (n := 3) (W := (rIs (.ref p_one2)).v) (x := ()) rfl rfl) (ea_cons (EvN.fz (evn_list (el_cons (ev_tup2 (ea_cons (ev_var (n := 4) (W := rInt.v) rfl r58) (ea_cons (ev_var (n := 10) (W := rInt.v) rfl rx74) ea_nil))) el_nil) (by exact (show 1 ≤ 16777216 by decide)))) (ea_cons (ev_cmp cp_eq (ev_var (n := 10) (W := rInt.v) rfl rx74) (ev_var (n := 9) (W := rInt.v) rfl r61)) ea_nil))) (fun F' Os' H' vs Q w hv q => by obtain ⟨u0, _, rfl, q0, u1, _, rfl, q1, u2, _, rfl, q2, rfl, rfl⟩ := hv; obtain ⟨G, Ex, sG, wG, rG, bG⟩ := Wf.tmpM (Ms := []) (Os := (a_box, (oList rInt) t30.2) :: (p_one2, (oFrz rInt) t1) :: Os0) w [p_one2] (List.forall_mem_cons.mpr ⟨own_frz (Ms := []) (Os := (a_box, (oList rInt) t30.2) :: (p_one2, (oFrz rInt) t1) :: Os0) w (i := 1) rfl, List.forall_mem_nil _⟩); cases q0; have rt0 : ((rDict rInt)).r G (.ref p_one2) t1 := (by obtain ⟨o, h1, z, kvs, h2, h3⟩ := rG _ _ (List.mem_of_getElem? (i := 1) rfl) (by simp); subst h2; exact ⟨_, z, kvs, rfl, h1, h3⟩); exact ⟨G, _, t1, ([(t57.1, x74)] : (List (Int × Int))), decide (x74 = t60.2), (.ref p_one2), u1, u2, t88, rfl, wG, rt0, ((rList (rT2 rInt rInt)).mono sG q1), q2, et88, fun v F2 H2 s2 w r => by obtain ⟨F3, s3, w, nl3⟩ := bG F2 H2 [] s2 (List.forall_mem_nil _) w; exact q v F3 H2 s3 w (nl_bool F2 F3 _ _ nl3 r)⟩)) rfl)))) (Option.some.inj hz).symm) (fun hz => (Option.some.inj ((if_some et89).1 hz)).symm))) (fun hb90 F91 H91 s91 w91 => ?_) (fun hb90 F91 H91 s91 w91 => ?_)
                  · skip
                    have h := (if_some h).1 hb90
                    obtain rfl := Option.some.inj h
                    obtain rfl := Option.some.inj hz65
                    have h := flk_ret hk65
                    obtain rfl := Option.some.inj h
                    obtain rfl := Option.some.inj hz40
                    have h := flk_ret hk40
                    obtain ⟨rfl, rfl⟩ := pair_inj h
                    refine ws_ret (W := rBool.v) w91 ev_bool (fun vz Fz Hz sz wz rz => ?_)
                    have wz := wz.drop (i := 1)
                    exact kQ _ _ _ ((s3.trans (s20.trans (s25.trans (s28.trans (s32.trans (s37.trans (s39.trans (s56.trans (s59.trans (s62.trans (s64.trans (s75.trans (s79.trans (s81.trans (s84.trans (s86.trans s91)))))))))))))))).trans sz) wz rz
                  · skip
                    have h := (if_some h).2 hb90
                    refine ws_nil ?_
                    obtain ⟨t92, et92, h⟩ := bd_some h
                    refine ws_if w91 (et_not (et_val (ev_lockD (i := 1) (l := p_one2) (R := rInt) (d := t1) rfl (ev_call (U := rBool.v) (Os2 := ((a_box, (oList rInt) t30.2) :: (p_one2, (oFrz rInt) t1) :: Os0)) G_l_holding (hr.mono (by decide)) T_l_holding.gm T_l_holding.fn.kp T_l_holding.bi pass0 (ea_cons (ev_var (n := 3) (W := (rIs (.ref p_one2)).v) (x := ()) rfl rfl) (ea_cons (EvN.fz (evn_list (el_cons (ev_tup2 (ea_cons (ev_var (n := 4) (W := rInt.v) rfl r58) (ea_cons (ev_var (n := 10) (W := rInt.v) rfl rx74) ea_nil))) (el_cons (ev_tup2 (ea_cons (ev_var (n := 4) (W := rInt.v) rfl r58) (ea_cons (ev_var (n := 9) (W := rInt.v) rfl r61) ea_nil))) el_nil)) (by exact (show 2 ≤ 16777216 by decide)))) (ea_cons (ev_cmp cp_eq (ev_var (n := 10) (W := rInt.v) rfl rx74) (ev_var (n := 9) (W := rInt.v) rfl r61)) ea_nil))) (fun F' Os' H' vs Q w hv q => by obtain ⟨u0, _, rfl, q0, u1, _, rfl, q1, u2, _, rfl, q2, rfl, rfl⟩ := hv; obtain ⟨G, Ex, sG, wG, rG, bG⟩ := Wf.tmpM (Ms := []) (Os := (a_box, (oList rInt) t30.2) :: (p_one2, (oFrz rInt) t1) :: Os0) w [p_one2] (List.forall_mem_cons.mpr ⟨own_frz (Ms := []) (Os := (a_box, (oList rInt) t30.2) :: (p_one2, (oFrz rInt) t1) :: Os0) w (i := 1) rfl, List.forall_mem_nil _⟩); cases q0; have rt0 : ((rDict rInt)).r G (.ref p_one2) t1 := (by obtain ⟨o, h1, z, kvs, h2, h3⟩ := rG _ _ (List.mem_of_getElem? (i := 1) rfl) (by simp); subst h2; exact ⟨_, z, kvs, rfl, h1, h3⟩); exact ⟨G, _, t1, ([(t57.1, x74), (t57.1, t60.2)] : (List (Int × Int))), decide (x74 = t60.2), (.ref p_one2), u1, u2, t92, rfl, wG, rt0, ((rList (rT2 rInt rInt)).mono sG q1), q2, et92, fun v F2 H2 s2 w r => by obtain ⟨F3, s3, w, nl3⟩ := bG F2 H2 [] s2 (List.forall_mem_nil _) w; exact q v F3 H2 s3 w (nl_bool F2 F3 _ _ nl3 r)⟩)) rfl))) (fun hb93 F94 H94 s94 w94 => ?_) (fun hb93 F94 H94 s94 w94 => ?_)
                    · skip
                      have h := (if_some h).1 hb93
                      obtain rfl := Option.some.inj h
                      obtain rfl := Option.some.inj hz65
                      have h := flk_ret hk65
                      obtain rfl := Option.some.inj h
                      obtain rfl := Option.some.inj hz40
                      have h := flk_ret hk40
                      obtain ⟨rfl, rfl⟩ := pair_inj h
                      refine ws_ret (W := rBool.v) w94 ev_bool (fun vz Fz Hz sz wz rz => ?_)
                      have wz := wz.drop (i := 1)
                      exact kQ _ _ _ ((s3.trans (s20.trans (s25.trans (s28.trans (s32.trans (s37.trans (s39.trans (s56.trans (s59.trans (s62.trans (s64.trans (s75.trans (s79.trans (s81.trans (s84.trans (s86.trans (s91.trans s94))))))))))))))))).trans sz) wz rz
                    · skip
                      have h := (if_some h).2 hb93
                      refine ws_nil ?_
                      obtain ⟨t95, et95, h⟩ := bd_some h
                      refine ws_if w94 (et_not (et_val (ev_lockD (i := 1) (l := p_one2) (R := rInt) (d := t1) rfl (ev_call (U := rBool.v) (Os2 := ((a_box, (oList rInt) t30.2) :: (p_one2, (oFrz rInt) t1) :: Os0)) G_l_holding (hr.mono (by decide)) T_l_holding.gm T_l_holding.fn.kp T_l_holding.bi pass0 (ea_cons (ev_var (n := 3) (W := (rIs (.ref p_one2)).v) (x := ()) rfl rfl) (ea_cons (EvN.fz (evn_list (el_cons (ev_tup2 (ea_cons (ev_var (n := 4) (W := rInt.v) rfl r58) (ea_cons (ev_var (n := 9) (W := rInt.v) rfl r61) ea_nil))) (el_cons (ev_tup2 (ea_cons (ev_var (n := 4) (W := rInt.v) rfl r58) (ea_cons (ev_var (n := 10) (W := rInt.v) rfl rx74) ea_nil))) el_nil)) (by exact (show 2 ≤ 16777216 by decide)))) (ea_cons (ev_cmp cp_eq (ev_var (n := 10) (W := rInt.v) rfl rx74) (ev_var (n := 9) (W := rInt.v) rfl r61)) ea_nil))) (fun F' Os' H' vs Q w hv q => by obtain ⟨u0, _, rfl, q0, u1, _, rfl, q1, u2, _, rfl, q2, rfl, rfl⟩ := hv; obtain ⟨G, Ex, sG, wG, rG, bG⟩ := Wf.tmpM (Ms := []) (Os := (a_box, (oList rInt) t30.2) :: (p_one2, (oFrz rInt) t1) :: Os0) w [p_one2] (List.forall_mem_cons.mpr ⟨own_frz (Ms := []) (Os := (a_box, (oList rInt) t30.2) :: (p_one2, (oFrz rInt) t1) :: Os0) w (i := 1) rfl, List.forall_mem_nil _⟩); cases q0; have rt0 : ((rDict rInt)).r G (.ref p_one2) t1 := (by obtain ⟨o, h1, z, kvs, h2, h3⟩ := rG _ _ (List.mem_of_getElem? (i := 1) rfl) (by simp); subst h2; exact ⟨_, z, kvs, rfl, h1, h3⟩); exact ⟨G, _, t1, ([(t57.1, t60.2), (t57.1, x74)] : (List (Int × Int))), decide (x74 = t60.2), (.ref p_one2), u1, u2, t95, rfl, wG, rt0, ((rList (rT2 rInt rInt)).mono sG q1), q2, et95, fun v F2 H2 s2 w r => by obtain ⟨F3, s3, w, nl3⟩ := bG F2 H2 [] s2 (List.forall_mem_nil _) w; exact q v F3 H2 s3 w (nl_bool F2 F3 _ _ nl3 r)⟩)) rfl))) (fun hb96 F97 H97 s97 w97 => ?_) (fun hb96 F97 H97 s97 w97 => ?_)
                      · skip
                        have h := (if_some h).1 hb96
                        obtain rfl := Option.some.inj h
                        obtain rfl := Option.some.inj hz65
                        have h := flk_ret hk65
                        obtain rfl := Option.some.inj h
                        obtain rfl := Option.some.inj hz40
                        have h := flk_ret hk40
                        obtain ⟨rfl, rfl⟩ := pair_inj h
                        refine ws_ret (W := rBool.v) w97 ev_bool (fun vz Fz Hz sz wz rz => ?_)
                        have wz := wz.drop (i := 1)
                        exact kQ _ _ _ ((s3.trans (s20.trans (s25.trans (s28.trans (s32.trans (s37.trans (s39.trans (s56.trans (s59.trans (s62.trans (s64.trans (s75.trans (s79.trans (s81.trans (s84.trans (s86.trans (s91.trans (s94.trans s97)))))))))))))))))).trans sz) wz rz
                      · skip
                        have h := (if_some h).2 hb96
                        refine ws_nil ?_
                        refine ws_nil ?_
                        obtain rfl := Option.some.inj h
                        exact ⟨F97, some v83, some v74, some v78, some v80, rfl, (s75.trans (s79.trans (s81.trans (s84.trans (s86.trans (s91.trans (s94.trans s97))))))), w97, hz65⟩
              · skip
                rintro _ H98 ⟨F98, o66, o67, o68, o69, rfl, s98, w98, hz65⟩
                have hz := foldF_nil hz65
                exact ⟨F98, o66, o67, o68, o69, rfl, (s64.trans s98), w98, hz.symm⟩
            · skip
              rintro _ H99 ⟨F99, o70, o71, o72, o73, rfl, s99, w99, rfl⟩
              have h := flk_nx hk65
              have h : K_l_telling_65  = some _ := h
              unfold K_l_telling_65 at h
              refine ws_nil ?_
              obtain rfl := Option.some.inj h
              exact ⟨F99, some v58, o70, some (.int x55), some v61, o71, o72, o73, rfl, (s56.trans (s59.trans (s62.trans s99))), w99, hz40⟩
          · skip
            rintro _ H100 ⟨F100, o41, o42, o43, o44, o45, o46, o47, rfl, s100, w100, hz40⟩
            have hz := foldF_nil hz40
            exact ⟨F100, o41, o42, o43, o44, o45, o46, o47, rfl, (s39.trans s100), w100, hz.symm⟩
        · skip
          rintro _ H101 ⟨F101, o48, o49, o50, o51, o52, o53, o54, rfl, s101, w101, rfl⟩
          have h := flk_nx hk40
          have h : K_l_telling_40 x_book t1 t30  = some _ := h
          unfold K_l_telling_40 at h
          obtain ⟨t102, et102, h⟩ := bd_some h
          refine ws_if w101 (et_cmpV (cp_neQ (qt_D (qv_E enc_I dr_I)) et102 (u130 hr)) (Ev.only (ev_var (n := 3) (W := (vDict rInt)) rfl (vDict.own (i := 1) rfl))) (Ev.only (Ev.vwD (ev_var (n := 1) (W := (rDict rInt).v) rfl ((rDict rInt).mono (s3.trans (s20.trans (s25.trans (s28.trans (s32.trans (s37.trans s101)))))) r_book))))) (fun hb103 F104 H104 s104 w104 => ?_) (fun hb103 F104 H104 s104 w104 => ?_)
          · skip
            have h := (if_some h).1 hb103
            obtain ⟨rfl, rfl⟩ := pair_inj h
            refine ws_ret (W := rBool.v) w104 ev_bool (fun vz Fz Hz sz wz rz => ?_)
            have wz := wz.drop (i := 1)
            exact kQ _ _ _ ((s3.trans (s20.trans (s25.trans (s28.trans (s32.trans (s37.trans (s101.trans s104))))))).trans sz) wz rz
          · skip
            have h := (if_some h).2 hb103
            refine ws_nil ?_
            obtain ⟨x_one105, ex_one105, h⟩ := bd_some h
            refine ws_dput (n := 1) (R := rInt) w104 (hu_of hr) ev_int (ev_var (n := 3) (W := (rIs (.ref p_one2)).v) (x := ()) rfl rfl) ev_int rfl ex_one105 (fun F106 H106 s106 w106 => ?_)
            obtain ⟨t107, et107, h⟩ := bd_some h
            obtain ⟨t110, et110, h⟩ := bd_some h
            obtain ⟨rfl, rfl⟩ := pair_inj h
            refine ws_ret (W := rBool.v) w106 (ev_andG (ev_cmp cp_eq (ev_lockD (i := 1) (l := p_one2) (R := rInt) (d := x_one105) rfl (ev_call (U := rInt.v) (Os2 := ((a_box, (oList rInt) t30.2) :: (p_one2, (oFrz rInt) x_one105) :: Os0)) G_value_at (hr.mono (by decide)) T_value_at.gm T_value_at.fn.kp T_value_at.bi pass0 (ea_cons (ev_var (n := 3) (W := (rIs (.ref p_one2)).v) (x := ()) rfl rfl) (ea_cons ev_int ea_nil)) (fun F' Os' H' vs Q w hv q => by obtain ⟨u0, _, rfl, q0, u1, _, rfl, q1, rfl, rfl⟩ := hv; obtain ⟨G, Ex, sG, wG, rG, bG⟩ := Wf.tmpM (Ms := []) (Os := (a_box, (oList rInt) t30.2) :: (p_one2, (oFrz rInt) x_one105) :: Os0) w [p_one2] (List.forall_mem_cons.mpr ⟨own_frz (Ms := []) (Os := (a_box, (oList rInt) t30.2) :: (p_one2, (oFrz rInt) x_one105) :: Os0) w (i := 1) rfl, List.forall_mem_nil _⟩); cases q0; have rt0 : ((rDict rInt)).r G (.ref p_one2) x_one105 := (by obtain ⟨o, h1, z, kvs, h2, h3⟩ := rG _ _ (List.mem_of_getElem? (i := 1) rfl) (by simp); subst h2; exact ⟨_, z, kvs, rfl, h1, h3⟩); exact ⟨G, _, x_one105, 203, (.ref p_one2), u1, t107, rfl, wG, rt0, q1, et107, fun v F2 H2 s2 w r => by obtain ⟨F3, s3, w, nl3⟩ := bG F2 H2 [] s2 (List.forall_mem_nil _) w; exact q v F3 H2 s3 w (nl_int F2 F3 _ _ nl3 r)⟩)) rfl) ev_int) (fun hz => by have hz := (if_some et110).1 hz; obtain ⟨t108, et108, hz⟩ := bd_some hz; obtain ⟨t109, et109, hz⟩ := bd_some hz; exact Ev.eq (ev_one (ev_lockD (i := 1) (l := p_one2) (R := rInt) (d := x_one105) rfl (ev_call (U := rBool.v) (Os2 := ((a_box, (oList rInt) t30.2) :: (p_one2, (oFrz rInt) x_one105) :: Os0)) G_l_holding (hr.mono (by decide)) T_l_holding.gm T_l_holding.fn.kp T_l_holding.bi pass0 (ea_cons (ev_var (n := 3) (W := (rIs (.ref p_one2)).v) (x := ()) rfl rfl) (ea_cons (EvN.fz (evn_cat et108 (ev_var (n := 7) (W := (rList (rT2 rInt rInt)).v) rfl ((rList (rT2 rInt rInt)).mono (s37.trans (s101.trans (s104.trans s106))) r31)) (EvN.fz (evn_list (el_cons (ev_tup2 (ea_cons ev_int (ea_cons ev_int ea_nil))) el_nil) (by exact (show 1 ≤ 16777216 by decide)))))) (ea_cons ev_bool ea_nil))) (fun F' Os' H' vs Q w hv q => by obtain ⟨u0, _, rfl, q0, u1, _, rfl, q1, u2, _, rfl, q2, rfl, rfl⟩ := hv; obtain ⟨G, Ex, sG, wG, rG, bG⟩ := Wf.tmpM (Ms := []) (Os := (a_box, (oList rInt) t30.2) :: (p_one2, (oFrz rInt) x_one105) :: Os0) w [p_one2] (List.forall_mem_cons.mpr ⟨own_frz (Ms := []) (Os := (a_box, (oList rInt) t30.2) :: (p_one2, (oFrz rInt) x_one105) :: Os0) w (i := 1) rfl, List.forall_mem_nil _⟩); cases q0; have rt0 : ((rDict rInt)).r G (.ref p_one2) x_one105 := (by obtain ⟨o, h1, z, kvs, h2, h3⟩ := rG _ _ (List.mem_of_getElem? (i := 1) rfl) (by simp); subst h2; exact ⟨_, z, kvs, rfl, h1, h3⟩); exact ⟨G, _, x_one105, t108, true, (.ref p_one2), u1, u2, t109, rfl, wG, rt0, ((rList (rT2 rInt rInt)).mono sG q1), q2, et109, fun v F2 H2 s2 w r => by obtain ⟨F3, s3, w, nl3⟩ := bG F2 H2 [] s2 (List.forall_mem_nil _) w; exact q v F3 H2 s3 w (nl_bool F2 F3 _ _ nl3 r)⟩)) rfl)) (Option.some.inj hz).symm) (fun hz => (Option.some.inj ((if_some et110).2 hz)).symm)) (fun vz Fz Hz sz wz rz => ?_)
            have wz := wz.drop (i := 1)
            exact kQ _ _ _ ((s3.trans (s20.trans (s25.trans (s28.trans (s32.trans (s37.trans (s101.trans (s104.trans s106)))))))).trans sz) wz rz
abbrev s_l_large : Stmt := topS 25
theorem sc_l_large : FnScope ["_law_box", "_law_first_here", "_law_places_here", "_law_base", "_law_book", "_law_k"] ["_law_box"] (defScope s_l_large) := ⟨rfl, rfl, rfl, by decide +kernel, rfl, by decide +kernel, by decide +kernel⟩
def sp_l_large (K : PySem.W.Frag) : Sp := fun vs H Q _ => ∃ (F0 : Hp) (Os0 : Owns) (x_box : (List Int)) (a_box : Addr) (res : Bool) (b_box : (List Int)), vs = [.ref a_box] ∧ Wf F0 ((a_box, (oList rInt) x_box) :: Os0) H ∧ M_l_large x_box = some (res, b_box) ∧ ∀ v F' H', Same F0 F' → Wf F' ((a_box, (oList rInt) b_box) :: Os0) H' → rBool.r F' v res → Q v H'
theorem ok_l_large {f : Addr} {fd : FuncData} {f_l_take : Addr} {d_l_take : FuncData} {f_l_first : Addr} {d_l_first : FuncData} {f_l_second : Addr} {d_l_second : FuncData} {f_l_leads : Addr} {d_l_leads : FuncData} {f_l_telling : Addr} {d_l_telling : FuncData} {f_l_choose : Addr} {d_l_choose : FuncData} (T : FT K mg "_law_large" s_l_large ["_law_box"] f fd) (B : Blt mg) (T_l_take : FT K mg "_law_take" s_l_take ["_law_box", "_law_size"] f_l_take d_l_take) (G_l_take : FnOk P w K mg base CX0 1 f_l_take d_l_take ["_law_box", "_law_size"] (sp_l_take K)) (T_l_first : FT K mg "_law_first" s_l_first ["_law_box", "_law_places_here"] f_l_first d_l_first) (G_l_first : FnOk P w K mg base CX0 3 f_l_first d_l_first ["_law_box", "_law_places_here"] (sp_l_first K)) (T_l_second : FT K mg "_law_second" s_l_second ["_law_box", "_law_book", "_law_places_here"] f_l_second d_l_second) (G_l_second : FnOk P w K mg base CX0 3 f_l_second d_l_second ["_law_box", "_law_book", "_law_places_here"] (sp_l_second K)) (T_l_leads : FT K mg "_law_leads" s_l_leads ["_law_base", "_law_book", "_law_places_here"] f_l_leads d_l_leads) (G_l_leads : FnOk P w K mg base CX0 3 f_l_leads d_l_leads ["_law_base", "_law_book", "_law_places_here"] (sp_l_leads K)) (T_l_telling : FT K mg "_law_telling" s_l_telling ["_law_box", "_law_book", "_law_places_here"] f_l_telling d_l_telling) (G_l_telling : FnOk P w K mg base CX0 4 f_l_telling d_l_telling ["_law_box", "_law_book", "_law_places_here"] (sp_l_telling K)) (T_l_choose : FT K mg "_law_choose" s_l_choose ["_law_box", "_law_rows", "_law_count"] f_l_choose d_l_choose) (G_l_choose : FnOk P w K mg base CX0 2 f_l_choose d_l_choose ["_law_box", "_law_rows", "_law_count"] (sp_l_choose K)) : FnOk P w K mg base CX0 5 f fd ["_law_box"] (sp_l_large K) := by
  refine T.fn.ok sc_l_large (fun vs H Q E h => ?_) (fun cdv A outer s H vs Q E hr h => ?_)
  · obtain ⟨_, _, _, _, _, _, rfl, _⟩ := h
    rfl
  · obtain ⟨F0, Os0, x_box, a_box, res, b_box, rfl, w0, h, kQ⟩ := h
    have nd := sc_l_large.nd
    refine ⟨_, pss_w, ?_⟩
    unfold M_l_large at h
    show Ws _ _ _ [some (.ref a_box), none, none, none, none, none] _
    obtain ⟨t1, et1, h⟩ := bd_some h
    refine ws_set (n := 1) (W := rInt.v) w0 ((ev_call (U := rInt.v) (Os2 := ((a_box, (oList rInt) t1.2) :: Os0)) G_l_take (hr.mono (by decide)) T_l_take.gm T_l_take.fn.kp T_l_take.bi pass0 (ea_cons (ev_var (n := 0) (W := (rIs (.ref a_box)).v) (x := ()) rfl rfl) (ea_cons ev_int ea_nil)) (fun F' Os' H' vs Q w hv q => by obtain ⟨u0, _, rfl, q0, u1, _, rfl, q1, rfl, rfl⟩ := hv; cases q0; exact ⟨F', _, x_box, 8, a_box, u1, t1.1, t1.2, rfl, w, q1, et1, fun v F2 H2 s2 w r => by exact q v F2 H2 s2 w r⟩))) nd (fun v2 F3 H3 s3 w3 r2 => ?_)
    show Ws _ _ _ [some (.ref a_box), some v2, none, none, none, none] _
    obtain ⟨t4, et4, h⟩ := bd_some h
    obtain ⟨rg5, erg5, h⟩ := bd_some h
    obtain ⟨t7, et7, h⟩ := bd_some h
    refine ws_setLc0 (n := 2) (own := [("_law_k", 5)]) (S := rInt) w3 (ei_rng1 erg5 (ev_add ev_int (ev_call (U := rInt.v) (Os2 := ((a_box, (oList rInt) t4.2) :: Os0)) G_l_take (hr.mono (by decide)) T_l_take.gm T_l_take.fn.kp T_l_take.bi pass0 (ea_cons (ev_var (n := 0) (W := (rIs (.ref a_box)).v) (x := ()) rfl rfl) (ea_cons ev_int ea_nil)) (fun F' Os' H' vs Q w hv q => by obtain ⟨u0, _, rfl, q0, u1, _, rfl, q1, rfl, rfl⟩ := hv; cases q0; exact ⟨F', _, t1.2, 41, a_box, u1, t4.1, t4.2, rfl, w, q1, et4, fun v F2 H2 s2 w r => by exact q v F2 H2 s2 w r⟩))) B.range) _ et7 (tgb_1 (n := 5) nd) (fun q6 x6 z6 F6 t6 hz6 s6 hT6 _ _ _ _ _ => by obtain ⟨v6, rfl, r6⟩ := hT6; exact Ev.eq (ev_add (ev_var (n := 1) (W := rInt.v) rfl r2) (ev_mul ev_int (ev_var (n := 5) (W := rInt.v) rfl r6) (.inl ⟨by decide, by decide⟩))) (Option.some.inj hz6).symm) nd (blkOk_by (N := ["_law_box", "_law_first_here", "_law_places_here", "_law_base", "_law_book", "_law_k"]) (sc := defScope s_l_large) (by decide +kernel)) (fun p_places_here8 F9 H9 s9 w9 => ?_) (sw_true rfl rfl rfl (by decide +kernel))
    have w10 := w9.back (i := 1)
    obtain ⟨F12, s12, w12, q13⟩ := fz_own w10 (i := 1) rfl
    show Ws _ _ _ [some (.ref a_box), some v2, some (.ref p_places_here8), none, none, none] _
    obtain ⟨t14, et14, h⟩ := bd_some h
    refine ws_set (n := 3) (W := (rDict rInt).v) w12 ((EvN.fzD (evn_call (O := (oDict rInt) t14.1) (Os2 := ((a_box, (oList rInt) t14.2) :: Os0)) G_l_first (hr.mono (by decide)) T_l_first.gm T_l_first.fn.kp T_l_first.bi pass0 (ea_cons (ev_var (n := 0) (W := (rIs (.ref a_box)).v) (x := ()) rfl rfl) (ea_cons (ev_var (n := 2) (W := (rList rInt).v) rfl q13) ea_nil)) (fun F' Os' H' vs Q w hv q => by obtain ⟨u0, _, rfl, q0, u1, _, rfl, q1, rfl, rfl⟩ := hv; cases q0; exact ⟨F', _, t4.2, t7, a_box, u1, t14.1, t14.2, rfl, w, q1, et14, fun p F2 H2 s2 w => by exact q p F2 H2 s2 w⟩)))) nd (fun v15 F16 H16 s16 w16 r15 => ?_)
    show Ws _ _ _ [some (.ref a_box), some v2, some (.ref p_places_here8), some v15, none, none] _
    obtain ⟨t17, et17, h⟩ := bd_some h
    refine ws_set (n := 4) (W := (rDict rInt).v) w16 ((EvN.fzD (evn_call (O := (oDict rInt) t17.1) (Os2 := ((a_box, (oList rInt) t17.2) :: Os0)) G_l_second (hr.mono (by decide)) T_l_second.gm T_l_second.fn.kp T_l_second.bi pass0 (ea_cons (ev_var (n := 0) (W := (rIs (.ref a_box)).v) (x := ()) rfl rfl) (ea_cons (ev_var (n := 3) (W := (rDict rInt).v) rfl r15) (ea_cons (ev_var (n := 2) (W := (rList rInt).v) rfl ((rList rInt).mono s16 q13)) ea_nil))) (fun F' Os' H' vs Q w hv q => by obtain ⟨u0, _, rfl, q0, u1, _, rfl, q1, u2, _, rfl, q2, rfl, rfl⟩ := hv; cases q0; exact ⟨F', _, t14.2, t14.1, t7, a_box, u1, u2, t17.1, t17.2, rfl, w, q1, q2, et17, fun p F2 H2 s2 w => by exact q p F2 H2 s2 w⟩)))) nd (fun v18 F19 H19 s19 w19 r18 => ?_)
    show Ws _ _ _ [some (.ref a_box), some v2, some (.ref p_places_here8), some v15, some v18, none] _
    obtain ⟨t20, et20, h⟩ := bd_some h
    obtain ⟨t22, et22, h⟩ := bd_some h
    refine ws_if w19 (et_w (ew_orG (et_not (et_val (ev_call (U := rBool.v) (Os2 := ((a_box, (oList rInt) t17.2) :: Os0)) G_l_leads (hr.mono (by decide)) T_l_leads.gm T_l_leads.fn.kp T_l_leads.bi pass0 (ea_cons (ev_var (n := 3) (W := (rDict rInt).v) rfl ((rDict rInt).mono s19 r15)) (ea_cons (ev_var (n := 4) (W := (rDict rInt).v) rfl r18) (ea_cons (ev_var (n := 2) (W := (rList rInt).v) rfl ((rList rInt).mono (s16.trans s19) q13)) ea_nil))) (fun F' Os' H' vs Q w hv q => by obtain ⟨u0, _, rfl, q0, u1, _, rfl, q1, u2, _, rfl, q2, rfl, rfl⟩ := hv; exact ⟨F', _, t14.1, t17.1, t7, u0, u1, u2, t20, rfl, w, q0, q1, q2, et20, fun v F2 H2 s2 w r => by exact q v F2 H2 s2 w r⟩)))) (fun hz => by have hz := (if_some et22).2 hz; obtain ⟨t21, et21, hz⟩ := bd_some hz; exact Ew.eq (ew_or1 (et_not (et_val (ev_call (U := rBool.v) (Os2 := ((a_box, (oList rInt) t17.2) :: Os0)) G_l_leads (hr.mono (by decide)) T_l_leads.gm T_l_leads.fn.kp T_l_leads.bi pass0 (ea_cons (ev_var (n := 4) (W := (rDict rInt).v) rfl r18) (ea_cons (ev_var (n := 3) (W := (rDict rInt).v) rfl ((rDict rInt).mono s19 r15)) (ea_cons (ev_var (n := 2) (W := (rList rInt).v) rfl ((rList rInt).mono (s16.trans s19) q13)) ea_nil))) (fun F' Os' H' vs Q w hv q => by obtain ⟨u0, _, rfl, q0, u1, _, rfl, q1, u2, _, rfl, q2, rfl, rfl⟩ := hv; exact ⟨F', _, t17.1, t14.1, t7, u0, u1, u2, t21, rfl, w, q0, q1, q2, et21, fun v F2 H2 s2 w r => by exact q v F2 H2 s2 w r⟩))))) (Option.some.inj hz).symm) (fun hz => (Option.some.inj ((if_some et22).1 hz)).symm))) (fun hb23 F24 H24 s24 w24 => ?_) (fun hb23 F24 H24 s24 w24 => ?_)
    · skip
      have h := (if_some h).1 hb23
      obtain ⟨rfl, rfl⟩ := pair_inj h
      refine ws_ret (W := rBool.v) w24 ev_bool (fun vz Fz Hz sz wz rz => ?_)
      exact kQ _ _ _ ((s3.trans (s9.trans (s12.trans (s16.trans (s19.trans s24))))).trans sz) wz rz
    · skip
      have h := (if_some h).2 hb23
      refine ws_nil ?_
      obtain ⟨t25, et25, h⟩ := bd_some h
      obtain ⟨t26, et26, h⟩ := bd_some h
      obtain ⟨rfl, rfl⟩ := pair_inj h
      refine ws_ret (W := rBool.v) w24 (ev_call (U := rBool.v) (Os2 := ((a_box, (oList rInt) t26.2) :: Os0)) G_l_telling (hr.mono (by decide)) T_l_telling.gm T_l_telling.fn.kp T_l_telling.bi pass0 (ea_cons (ev_var (n := 0) (W := (rIs (.ref a_box)).v) (x := ()) rfl rfl) (ea_cons (ev_var (n := 4) (W := (rDict rInt).v) rfl ((rDict rInt).mono s24 r18)) (ea_cons (EvN.fz (evn_call (O := (oList rInt) t25.1) (Os2 := ((a_box, (oList rInt) t25.2) :: Os0)) G_l_choose (hr.mono (by decide)) T_l_choose.gm T_l_choose.fn.kp T_l_choose.bi pass0 (ea_cons (ev_var (n := 0) (W := (rIs (.ref a_box)).v) (x := ()) rfl rfl) (ea_cons (ev_var (n := 2) (W := (rList rInt).v) rfl ((rList rInt).mono (s16.trans (s19.trans s24)) q13)) (ea_cons ev_int ea_nil))) (fun F' Os' H' vs Q w hv q => by obtain ⟨u0, _, rfl, q0, u1, _, rfl, q1, u2, _, rfl, q2, rfl, rfl⟩ := hv; cases q0; exact ⟨F', _, t17.2, t7, 20, a_box, u1, u2, t25.1, t25.2, rfl, w, q1, q2, et25, fun p F2 H2 s2 w => by exact q p F2 H2 s2 w⟩))) ea_nil))) (fun F' Os' H' vs Q w hv q => by obtain ⟨u0, _, rfl, q0, u1, _, rfl, q1, u2, _, rfl, q2, rfl, rfl⟩ := hv; cases q0; exact ⟨F', _, t25.2, t17.1, t25.1, a_box, u1, u2, t26.1, t26.2, rfl, w, q1, q2, et26, fun v F2 H2 s2 w r => by exact q v F2 H2 s2 w r⟩)) (fun vz Fz Hz sz wz rz => ?_)
      exact kQ _ _ _ ((s3.trans (s9.trans (s12.trans (s16.trans (s19.trans s24))))).trans sz) wz rz
abbrev s_law : Stmt := topS 26
theorem sc_law : FnScope ["_law_script", "_law_box", "_law_places_here", "_law_base", "_law_book", "_law_writes", "_law_asks", "_law_wide"] ["_law_script"] (defScope s_law) := ⟨rfl, rfl, rfl, by decide +kernel, rfl, by decide +kernel, by decide +kernel⟩
def sp_law (K : PySem.W.Frag) : Sp := fun vs H Q _ => ∃ (F0 : Hp) (Os0 : Owns) (x_script : (List Int)) (v_script : V) (res : Bool), vs = [v_script] ∧ Wf F0 (Os0) H ∧ (rScr K).r F0 v_script x_script ∧ M_law x_script = some res ∧ ∀ v F' H', Same F0 F' → Wf F' (Os0) H' → rBool.r F' v res → Q v H'
theorem ok_law {f : Addr} {fd : FuncData} {f_l_open : Addr} {d_l_open : FuncData} {f_l_places : Addr} {d_l_places : FuncData} {f_l_take : Addr} {d_l_take : FuncData} {f_l_first : Addr} {d_l_first : FuncData} {f_l_second : Addr} {d_l_second : FuncData} {f_l_wanted : Addr} {d_l_wanted : FuncData} {f_l_leads : Addr} {d_l_leads : FuncData} {f_l_writing : Addr} {d_l_writing : FuncData} {f_l_telling : Addr} {d_l_telling : FuncData} {f_l_large : Addr} {d_l_large : FuncData} (T : FT K mg "law" s_law ["_law_script"] f fd) (B : Blt mg) (T_l_open : FT K mg "_law_open" s_l_open ["_law_script", "_law_at"] f_l_open d_l_open) (G_l_open : FnOk P w K mg base CX0 1 f_l_open d_l_open ["_law_script", "_law_at"] (sp_l_open K)) (T_l_places : FT K mg "_law_places" s_l_places ["_law_box", "_law_count"] f_l_places d_l_places) (G_l_places : FnOk P w K mg base CX0 2 f_l_places d_l_places ["_law_box", "_law_count"] (sp_l_places K)) (T_l_take : FT K mg "_law_take" s_l_take ["_law_box", "_law_size"] f_l_take d_l_take) (G_l_take : FnOk P w K mg base CX0 1 f_l_take d_l_take ["_law_box", "_law_size"] (sp_l_take K)) (T_l_first : FT K mg "_law_first" s_l_first ["_law_box", "_law_places_here"] f_l_first d_l_first) (G_l_first : FnOk P w K mg base CX0 3 f_l_first d_l_first ["_law_box", "_law_places_here"] (sp_l_first K)) (T_l_second : FT K mg "_law_second" s_l_second ["_law_box", "_law_book", "_law_places_here"] f_l_second d_l_second) (G_l_second : FnOk P w K mg base CX0 3 f_l_second d_l_second ["_law_box", "_law_book", "_law_places_here"] (sp_l_second K)) (T_l_wanted : FT K mg "_law_wanted" s_l_wanted ["_law_box", "_law_book", "_law_places_here"] f_l_wanted d_l_wanted) (G_l_wanted : FnOk P w K mg base CX0 3 f_l_wanted d_l_wanted ["_law_box", "_law_book", "_law_places_here"] (sp_l_wanted K)) (T_l_leads : FT K mg "_law_leads" s_l_leads ["_law_base", "_law_book", "_law_places_here"] f_l_leads d_l_leads) (G_l_leads : FnOk P w K mg base CX0 3 f_l_leads d_l_leads ["_law_base", "_law_book", "_law_places_here"] (sp_l_leads K)) (T_l_writing : FT K mg "_law_writing" s_l_writing ["_law_base", "_law_writes", "_law_places_here"] f_l_writing d_l_writing) (G_l_writing : FnOk P w K mg base CX0 3 f_l_writing d_l_writing ["_law_base", "_law_writes", "_law_places_here"] (sp_l_writing K)) (T_l_telling : FT K mg "_law_telling" s_l_telling ["_law_box", "_law_book", "_law_places_here"] f_l_telling d_l_telling) (G_l_telling : FnOk P w K mg base CX0 4 f_l_telling d_l_telling ["_law_box", "_law_book", "_law_places_here"] (sp_l_telling K)) (T_l_large : FT K mg "_law_large" s_l_large ["_law_box"] f_l_large d_l_large) (G_l_large : FnOk P w K mg base CX0 5 f_l_large d_l_large ["_law_box"] (sp_l_large K)) : FnOk P w K mg base CX0 6 f fd ["_law_script"] (sp_law K) := by
  refine T.fn.ok sc_law (fun vs H Q E h => ?_) (fun cdv A outer s H vs Q E hr h => ?_)
  · obtain ⟨_, _, _, _, _, rfl, _⟩ := h
    rfl
  · obtain ⟨F0, Os0, x_script, v_script, res, rfl, w0, r_script, h, kQ⟩ := h
    have nd := sc_law.nd
    refine ⟨_, pss_w, ?_⟩
    unfold M_law at h
    show Ws _ _ _ [some v_script, none, none, none, none, none, none, none] _
    obtain ⟨t1, et1, h⟩ := bd_some h
    refine ws_setN (n := 1) (O := (oList rInt) t1) w0 ((evn_call (O := (oList rInt) t1) (Os2 := (Os0)) G_l_open (hr.mono (by decide)) T_l_open.gm T_l_open.fn.kp T_l_open.bi pass0 (ea_cons (ev_var (n := 0) (W := (rScr K).v) rfl r_script) (ea_cons ev_int ea_nil)) (fun F' Os' H' vs Q w hv q => by obtain ⟨u0, _, rfl, q0, u1, _, rfl, q1, rfl, rfl⟩ := hv; exact ⟨F', _, x_script, 0, u0, u1, t1, rfl, w, q0, q1, et1, fun p F2 H2 s2 w => by exact q p F2 H2 s2 w⟩))) nd (fun p_box2 F3 H3 s3 w3 => ?_)
    show Ws _ _ _ [some v_script, some (.ref p_box2), none, none, none, none, none, none] _
    obtain ⟨t4, et4, h⟩ := bd_some h
    obtain ⟨t5, et5, h⟩ := bd_some h
    refine ws_setN (n := 2) (O := (oList rInt) t5.1) w3 ((evn_call (O := (oList rInt) t5.1) (Os2 := ((p_box2, (oList rInt) t5.2) :: Os0)) G_l_places (hr.mono (by decide)) T_l_places.gm T_l_places.fn.kp T_l_places.bi pass0 (ea_cons (ev_var (n := 1) (W := (rIs (.ref p_box2)).v) (x := ()) rfl rfl) (ea_cons (ev_call (U := rInt.v) (Os2 := ((p_box2, (oList rInt) t4.2) :: Os0)) G_l_take (hr.mono (by decide)) T_l_take.gm T_l_take.fn.kp T_l_take.bi pass0 (ea_cons (ev_var (n := 1) (W := (rIs (.ref p_box2)).v) (x := ()) rfl rfl) (ea_cons ev_int ea_nil)) (fun F' Os' H' vs Q w hv q => by obtain ⟨u0, _, rfl, q0, u1, _, rfl, q1, rfl, rfl⟩ := hv; cases q0; exact ⟨F', _, t1, 13, p_box2, u1, t4.1, t4.2, rfl, w, q1, et4, fun v F2 H2 s2 w r => by exact q v F2 H2 s2 w r⟩)) ea_nil)) (fun F' Os' H' vs Q w hv q => by obtain ⟨u0, _, rfl, q0, u1, _, rfl, q1, rfl, rfl⟩ := hv; cases q0; exact ⟨F', _, t4.2, t4.1, p_box2, u1, t5.1, t5.2, rfl, w, q1, et5, fun p F2 H2 s2 w => by exact q p F2 H2 s2 w⟩))) nd (fun p_places_here6 F7 H7 s7 w7 => ?_)
    have w8 := w7.back (i := 1)
    show Ws _ _ _ [some v_script, some (.ref p_box2), some (.ref p_places_here6), none, none, none, none, none] _
    obtain ⟨t9, et9, h⟩ := bd_some h
    obtain ⟨y11, hy11, hk11⟩ := bd_some h
    refine ws_j (fun (sg : L2.St) (Hm : Hp) => ∃ (Fm : Hp) (x_box12 : (List Int)) (x_places_here13 : (List Int)) , sg = [some v_script, some (.ref p_box2), some (.ref p_places_here6), none, none, none, none, none] ∧ Same F7 Fm ∧ Wf Fm ((p_box2, (oList rInt) x_box12) :: (p_places_here6, (oList rInt) x_places_here13) :: Os0) Hm ∧ (x_box12, x_places_here13) = y11) (w1_if w8 (et_cmp cp_eq (ev_call (U := rInt.v) (Os2 := ((p_box2, (oList rInt) t9.2) :: (p_places_here6, (oList rInt) t5.1) :: Os0)) G_l_take (hr.mono (by decide)) T_l_take.gm T_l_take.fn.kp T_l_take.bi pass0 (ea_cons (ev_var (n := 1) (W := (rIs (.ref p_box2)).v) (x := ()) rfl rfl) (ea_cons ev_int ea_nil)) (fun F' Os' H' vs Q w hv q => by obtain ⟨u0, _, rfl, q0, u1, _, rfl, q1, rfl, rfl⟩ := hv; cases q0; exact ⟨F', _, t5.2, 3, p_box2, u1, t9.1, t9.2, rfl, w, q1, et9, fun v F2 H2 s2 w r => by exact q v F2 H2 s2 w r⟩)) ev_int) (fun hb10 F14 H14 s14 w14 => ?_) (fun hb10 F14 H14 s14 w14 => ?_)) ?_
    · skip
      have h := (if_some hy11).1 hb10
      obtain ⟨x_places_here15, ex_places_here15, h⟩ := bd_some h
      refine ws_app (n := 1) (m := 2) (R := rInt) (Os1 := ((p_box2, (oList rInt) t9.2) :: (p_places_here6, (oList rInt) t5.1) :: Os0)) w14 rfl ev_int rfl ex_places_here15 (fun F16 H16 s16 w16 => ?_)
      refine ws_nil ?_
      exact ⟨F16, t9.2, x_places_here15, rfl, (s14.trans s16), w16, Option.some.inj h⟩
    · skip
      have h := (if_some hy11).2 hb10
      refine ws_nil ?_
      exact ⟨F14, t9.2, t5.1, rfl, s14, w14, Option.some.inj h⟩
    · skip
      rintro _ H17 ⟨F17, x_box12, x_places_here13, rfl, s17, w17, rfl⟩
      have h := hk11
      have h : K_law_11 x_script x_box12 x_places_here13 = some _ := h
      unfold K_law_11 at h
      obtain ⟨t18, et18, h⟩ := bd_some h
      refine ws_set (n := 3) (W := (rDict rInt).v) w17 ((EvN.fzD (evn_call (O := (oDict rInt) t18.1) (Os2 := ((p_box2, (oList rInt) t18.2) :: (p_places_here6, (oList rInt) x_places_here13) :: Os0)) G_l_first (hr.mono (by decide)) T_l_first.gm T_l_first.fn.kp T_l_first.bi pass0 (ea_cons (ev_var (n := 1) (W := (rIs (.ref p_box2)).v) (x := ()) rfl rfl) (ea_cons (ev_var (n := 2) (W := (rIs (.ref p_places_here6)).v) (x := ()) rfl rfl) ea_nil)) (fun F' Os' H' vs Q w hv q => by obtain ⟨u0, _, rfl, q0, u1, _, rfl, q1, rfl, rfl⟩ := hv; cases q0; obtain ⟨G, Ex, sG, wG, rG, bG⟩ := Wf.tmpM (Ms := [(p_box2, (oList rInt) x_box12)]) (Os := (p_places_here6, (oList rInt) x_places_here13) :: Os0) w [p_places_here6] (List.forall_mem_cons.mpr ⟨own_lst (Ms := [(p_box2, (oList rInt) x_box12)]) (Os := (p_places_here6, (oList rInt) x_places_here13) :: Os0) w (i := 0) rfl, List.forall_mem_nil _⟩); cases q1; have rt1 : ((rList rInt)).r G (.ref p_places_here6) x_places_here13 := (by obtain ⟨o, h1, h2⟩ := rG _ _ (List.mem_of_getElem? (i := 0) rfl) (by simp); exact ⟨_, o, rfl, h1, h2⟩); exact ⟨G, _, x_box12, x_places_here13, p_box2, (.ref p_places_here6), t18.1, t18.2, rfl, wG, rt1, et18, fun p F2 H2 s2 w => by obtain ⟨F3, s3, w, nl3⟩ := bG F2 H2 (_ :: [_]) s2 (List.forall_mem_cons.mpr ⟨(nl_D nl_int _), List.forall_mem_cons.mpr ⟨(nl_L nl_int _), List.forall_mem_nil _⟩⟩) w; exact q p F3 H2 s3 w⟩)))) nd (fun v19 F20 H20 s20 w20 r19 => ?_)
      show Ws _ _ _ [some v_script, some (.ref p_box2), some (.ref p_places_here6), some v19, none, none, none, none] _
      obtain ⟨t21, et21, h⟩ := bd_some h
      obtain ⟨t23, et23, h⟩ := bd_some h
      refine ws_set (n := 4) (W := (rDict rInt).v) w20 ((EvN.fzD (evn_call (O := (oDict rInt) t23.1) (Os2 := ((p_box2, (oList rInt) t18.2) :: (p_places_here6, (oList rInt) x_places_here13) :: Os0)) G_l_second (hr.mono (by decide)) T_l_second.gm T_l_second.fn.kp T_l_second.bi pass0 (ea_new (evn_call (O := (oList rInt) t21) (Os2 := ((p_box2, (oList rInt) t18.2) :: (p_places_here6, (oList rInt) x_places_here13) :: Os0)) G_l_open (hr.mono (by decide)) T_l_open.gm T_l_open.fn.kp T_l_open.bi pass0 (ea_cons (ev_var (n := 0) (W := (rScr K).v) rfl ((rScr K).mono (s3.trans (s7.trans (s17.trans s20))) r_script)) (ea_cons ev_int ea_nil)) (fun F' Os' H' vs Q w hv q => by obtain ⟨u0, _, rfl, q0, u1, _, rfl, q1, rfl, rfl⟩ := hv; exact ⟨F', _, x_script, 1, u0, u1, t21, rfl, w, q0, q1, et21, fun p F2 H2 s2 w => by exact q p F2 H2 s2 w⟩)) fun pn22 => (ea_cons (ev_var (n := 3) (W := (rDict rInt).v) rfl r19) (ea_cons (ev_var (n := 2) (W := (rIs (.ref p_places_here6)).v) (x := ()) rfl rfl) ea_nil))) (fun F' Os' H' vs Q w hv q => by obtain ⟨p0, _, rfl, u1, _, rfl, q1, u2, _, rfl, q2, rfl, rfl⟩ := hv; obtain ⟨G, Ex, sG, wG, rG, bG⟩ := Wf.tmpM (Ms := [(p0, (oList rInt) t21)]) (Os := (p_box2, (oList rInt) t18.2) :: (p_places_here6, (oList rInt) x_places_here13) :: Os0) w [p_places_here6] (List.forall_mem_cons.mpr ⟨own_lst (Ms := [(p0, (oList rInt) t21)]) (Os := (p_box2, (oList rInt) t18.2) :: (p_places_here6, (oList rInt) x_places_here13) :: Os0) w (i := 1) rfl, List.forall_mem_nil _⟩); cases q2; have rt2 : ((rList rInt)).r G (.ref p_places_here6) x_places_here13 := (by obtain ⟨o, h1, h2⟩ := rG _ _ (List.mem_of_getElem? (i := 1) rfl) (by simp); exact ⟨_, o, rfl, h1, h2⟩); exact ⟨G, _, t21, t18.1, x_places_here13, p0, u1, (.ref p_places_here6), t23.1, t23.2, rfl, wG, ((rDict rInt).mono sG q1), rt2, et23, fun p F2 H2 s2 w => by obtain ⟨F3, s3, w, nl3⟩ := bG F2 H2 (_ :: [_]) s2 (List.forall_mem_cons.mpr ⟨(nl_D nl_int _), List.forall_mem_cons.mpr ⟨(nl_L nl_int _), List.forall_mem_nil _⟩⟩) w; have w := w.tail2; exact q p F3 H2 s3 w⟩)))) nd (fun v24 F25 H25 s25 w25 r24 => ?_)
      show Ws _ _ _ [some v_script, some (.ref p_box2), some (.ref p_places_here6), some v19, some v24, none, none, none] _
      obtain ⟨t26, et26, h⟩ := bd_some h
      obtain ⟨t28, et28, h⟩ := bd_some h
      refine ws_set (n := 5) (W := (rDict rInt).v) w25 ((EvN.fzD (evn_call (O := (oDict rInt) t28.1) (Os2 := ((p_box2, (oList rInt) t18.2) :: (p_places_here6, (oList rInt) x_places_here13) :: Os0)) G_l_wanted (hr.mono (by decide)) T_l_wanted.gm T_l_wanted.fn.kp T_l_wanted.bi pass0 (ea_new (evn_call (O := (oList rInt) t26) (Os2 := ((p_box2, (oList rInt) t18.2) :: (p_places_here6, (oList rInt) x_places_here13) :: Os0)) G_l_open (hr.mono (by decide)) T_l_open.gm T_l_open.fn.kp T_l_open.bi pass0 (ea_cons (ev_var (n := 0) (W := (rScr K).v) rfl ((rScr K).mono (s3.trans (s7.trans (s17.trans (s20.trans s25)))) r_script)) (ea_cons ev_int ea_nil)) (fun F' Os' H' vs Q w hv q => by obtain ⟨u0, _, rfl, q0, u1, _, rfl, q1, rfl, rfl⟩ := hv; exact ⟨F', _, x_script, 2, u0, u1, t26, rfl, w, q0, q1, et26, fun p F2 H2 s2 w => by exact q p F2 H2 s2 w⟩)) fun pn27 => (ea_cons (ev_var (n := 3) (W := (rDict rInt).v) rfl ((rDict rInt).mono s25 r19)) (ea_cons (ev_var (n := 2) (W := (rIs (.ref p_places_here6)).v) (x := ()) rfl rfl) ea_nil))) (fun F' Os' H' vs Q w hv q => by obtain ⟨p0, _, rfl, u1, _, rfl, q1, u2, _, rfl, q2, rfl, rfl⟩ := hv; obtain ⟨G, Ex, sG, wG, rG, bG⟩ := Wf.tmpM (Ms := [(p0, (oList rInt) t26)]) (Os := (p_box2, (oList rInt) t18.2) :: (p_places_here6, (oList rInt) x_places_here13) :: Os0) w [p_places_here6] (List.forall_mem_cons.mpr ⟨own_lst (Ms := [(p0, (oList rInt) t26)]) (Os := (p_box2, (oList rInt) t18.2) :: (p_places_here6, (oList rInt) x_places_here13) :: Os0) w (i := 1) rfl, List.forall_mem_nil _⟩); cases q2; have rt2 : ((rList rInt)).r G (.ref p_places_here6) x_places_here13 := (by obtain ⟨o, h1, h2⟩ := rG _ _ (List.mem_of_getElem? (i := 1) rfl) (by simp); exact ⟨_, o, rfl, h1, h2⟩); exact ⟨G, _, t26, t18.1, x_places_here13, p0, u1, (.ref p_places_here6), t28.1, t28.2, rfl, wG, ((rDict rInt).mono sG q1), rt2, et28, fun p F2 H2 s2 w => by obtain ⟨F3, s3, w, nl3⟩ := bG F2 H2 (_ :: [_]) s2 (List.forall_mem_cons.mpr ⟨(nl_D nl_int _), List.forall_mem_cons.mpr ⟨(nl_L nl_int _), List.forall_mem_nil _⟩⟩) w; have w := w.tail2; exact q p F3 H2 s3 w⟩)))) nd (fun v29 F30 H30 s30 w30 r29 => ?_)
      show Ws _ _ _ [some v_script, some (.ref p_box2), some (.ref p_places_here6), some v19, some v24, some v29, none, none] _
      obtain ⟨t31, et31, h⟩ := bd_some h
      obtain ⟨t33, et33, h⟩ := bd_some h
      refine ws_if w30 (et_w (ew_orG (et_not (et_val (ev_call (U := rBool.v) (Os2 := ((p_box2, (oList rInt) t18.2) :: (p_places_here6, (oList rInt) x_places_here13) :: Os0)) G_l_leads (hr.mono (by decide)) T_l_leads.gm T_l_leads.fn.kp T_l_leads.bi pass0 (ea_cons (ev_var (n := 3) (W := (rDict rInt).v) rfl ((rDict rInt).mono (s25.trans s30) r19)) (ea_cons (ev_var (n := 4) (W := (rDict rInt).v) rfl ((rDict rInt).mono s30 r24)) (ea_cons (ev_var (n := 2) (W := (rIs (.ref p_places_here6)).v) (x := ()) rfl rfl) ea_nil))) (fun F' Os' H' vs Q w hv q => by obtain ⟨u0, _, rfl, q0, u1, _, rfl, q1, u2, _, rfl, q2, rfl, rfl⟩ := hv; obtain ⟨G, Ex, sG, wG, rG, bG⟩ := Wf.tmpM (Ms := []) (Os := (p_box2, (oList rInt) t18.2) :: (p_places_here6, (oList rInt) x_places_here13) :: Os0) w [p_places_here6] (List.forall_mem_cons.mpr ⟨own_lst (Ms := []) (Os := (p_box2, (oList rInt) t18.2) :: (p_places_here6, (oList rInt) x_places_here13) :: Os0) w (i := 1) rfl, List.forall_mem_nil _⟩); cases q2; have rt2 : ((rList rInt)).r G (.ref p_places_here6) x_places_here13 := (by obtain ⟨o, h1, h2⟩ := rG _ _ (List.mem_of_getElem? (i := 1) rfl) (by simp); exact ⟨_, o, rfl, h1, h2⟩); exact ⟨G, _, t18.1, t23.1, x_places_here13, u0, u1, (.ref p_places_here6), t31, rfl, wG, ((rDict rInt).mono sG q0), ((rDict rInt).mono sG q1), rt2, et31, fun v F2 H2 s2 w r => by obtain ⟨F3, s3, w, nl3⟩ := bG F2 H2 [] s2 (List.forall_mem_nil _) w; exact q v F3 H2 s3 w (nl_bool F2 F3 _ _ nl3 r)⟩)))) (fun hz => by have hz := (if_some et33).2 hz; obtain ⟨t32, et32, hz⟩ := bd_some hz; exact Ew.eq (ew_or1 (et_not (et_val (ev_call (U := rBool.v) (Os2 := ((p_box2, (oList rInt) t18.2) :: (p_places_here6, (oList rInt) x_places_here13) :: Os0)) G_l_leads (hr.mono (by decide)) T_l_leads.gm T_l_leads.fn.kp T_l_leads.bi pass0 (ea_cons (ev_var (n := 4) (W := (rDict rInt).v) rfl ((rDict rInt).mono s30 r24)) (ea_cons (ev_var (n := 3) (W := (rDict rInt).v) rfl ((rDict rInt).mono (s25.trans s30) r19)) (ea_cons (ev_var (n := 2) (W := (rIs (.ref p_places_here6)).v) (x := ()) rfl rfl) ea_nil))) (fun F' Os' H' vs Q w hv q => by obtain ⟨u0, _, rfl, q0, u1, _, rfl, q1, u2, _, rfl, q2, rfl, rfl⟩ := hv; obtain ⟨G, Ex, sG, wG, rG, bG⟩ := Wf.tmpM (Ms := []) (Os := (p_box2, (oList rInt) t18.2) :: (p_places_here6, (oList rInt) x_places_here13) :: Os0) w [p_places_here6] (List.forall_mem_cons.mpr ⟨own_lst (Ms := []) (Os := (p_box2, (oList rInt) t18.2) :: (p_places_here6, (oList rInt) x_places_here13) :: Os0) w (i := 1) rfl, List.forall_mem_nil _⟩); cases q2; have rt2 : ((rList rInt)).r G (.ref p_places_here6) x_places_here13 := (by obtain ⟨o, h1, h2⟩ := rG _ _ (List.mem_of_getElem? (i := 1) rfl) (by simp); exact ⟨_, o, rfl, h1, h2⟩); exact ⟨G, _, t23.1, t18.1, x_places_here13, u0, u1, (.ref p_places_here6), t32, rfl, wG, ((rDict rInt).mono sG q0), ((rDict rInt).mono sG q1), rt2, et32, fun v F2 H2 s2 w r => by obtain ⟨F3, s3, w, nl3⟩ := bG F2 H2 [] s2 (List.forall_mem_nil _) w; exact q v F3 H2 s3 w (nl_bool F2 F3 _ _ nl3 r)⟩))))) (Option.some.inj hz).symm) (fun hz => (Option.some.inj ((if_some et33).1 hz)).symm))) (fun hb34 F35 H35 s35 w35 => ?_) (fun hb34 F35 H35 s35 w35 => ?_)
      · skip
        have h := (if_some h).1 hb34
        obtain rfl := Option.some.inj h
        refine ws_ret (W := rBool.v) w35 ev_bool (fun vz Fz Hz sz wz rz => ?_)
        have wz := wz.drop (i := 0)
        have wz := wz.drop (i := 0)
        exact kQ _ _ _ ((s3.trans (s7.trans (s17.trans (s20.trans (s25.trans (s30.trans s35)))))).trans sz) wz rz
      · skip
        have h := (if_some h).2 hb34
        refine ws_nil ?_
        obtain ⟨t36, et36, h⟩ := bd_some h
        obtain ⟨t38, et38, h⟩ := bd_some h
        refine ws_if w35 (et_w (ew_orG (et_not (et_val (ev_call (U := rBool.v) (Os2 := ((p_box2, (oList rInt) t18.2) :: (p_places_here6, (oList rInt) x_places_here13) :: Os0)) G_l_leads (hr.mono (by decide)) T_l_leads.gm T_l_leads.fn.kp T_l_leads.bi pass0 (ea_cons (ev_var (n := 3) (W := (rDict rInt).v) rfl ((rDict rInt).mono (s25.trans (s30.trans s35)) r19)) (ea_cons (ev_var (n := 3) (W := (rDict rInt).v) rfl ((rDict rInt).mono (s25.trans (s30.trans s35)) r19)) (ea_cons (ev_var (n := 2) (W := (rIs (.ref p_places_here6)).v) (x := ()) rfl rfl) ea_nil))) (fun F' Os' H' vs Q w hv q => by obtain ⟨u0, _, rfl, q0, u1, _, rfl, q1, u2, _, rfl, q2, rfl, rfl⟩ := hv; obtain ⟨G, Ex, sG, wG, rG, bG⟩ := Wf.tmpM (Ms := []) (Os := (p_box2, (oList rInt) t18.2) :: (p_places_here6, (oList rInt) x_places_here13) :: Os0) w [p_places_here6] (List.forall_mem_cons.mpr ⟨own_lst (Ms := []) (Os := (p_box2, (oList rInt) t18.2) :: (p_places_here6, (oList rInt) x_places_here13) :: Os0) w (i := 1) rfl, List.forall_mem_nil _⟩); cases q2; have rt2 : ((rList rInt)).r G (.ref p_places_here6) x_places_here13 := (by obtain ⟨o, h1, h2⟩ := rG _ _ (List.mem_of_getElem? (i := 1) rfl) (by simp); exact ⟨_, o, rfl, h1, h2⟩); exact ⟨G, _, t18.1, t18.1, x_places_here13, u0, u1, (.ref p_places_here6), t36, rfl, wG, ((rDict rInt).mono sG q0), ((rDict rInt).mono sG q1), rt2, et36, fun v F2 H2 s2 w r => by obtain ⟨F3, s3, w, nl3⟩ := bG F2 H2 [] s2 (List.forall_mem_nil _) w; exact q v F3 H2 s3 w (nl_bool F2 F3 _ _ nl3 r)⟩)))) (fun hz => by have hz := (if_some et38).2 hz; obtain ⟨t37, et37, hz⟩ := bd_some hz; exact Ew.eq (ew_or1 (et_not (et_val (ev_call (U := rBool.v) (Os2 := ((p_box2, (oList rInt) t18.2) :: (p_places_here6, (oList rInt) x_places_here13) :: Os0)) G_l_leads (hr.mono (by decide)) T_l_leads.gm T_l_leads.fn.kp T_l_leads.bi pass0 (ea_cons (EvN.fzD evn_dnew) (ea_cons (ev_var (n := 4) (W := (rDict rInt).v) rfl ((rDict rInt).mono (s30.trans s35) r24)) (ea_cons (ev_var (n := 2) (W := (rIs (.ref p_places_here6)).v) (x := ()) rfl rfl) ea_nil))) (fun F' Os' H' vs Q w hv q => by obtain ⟨u0, _, rfl, q0, u1, _, rfl, q1, u2, _, rfl, q2, rfl, rfl⟩ := hv; obtain ⟨G, Ex, sG, wG, rG, bG⟩ := Wf.tmpM (Ms := []) (Os := (p_box2, (oList rInt) t18.2) :: (p_places_here6, (oList rInt) x_places_here13) :: Os0) w [p_places_here6] (List.forall_mem_cons.mpr ⟨own_lst (Ms := []) (Os := (p_box2, (oList rInt) t18.2) :: (p_places_here6, (oList rInt) x_places_here13) :: Os0) w (i := 1) rfl, List.forall_mem_nil _⟩); cases q2; have rt2 : ((rList rInt)).r G (.ref p_places_here6) x_places_here13 := (by obtain ⟨o, h1, h2⟩ := rG _ _ (List.mem_of_getElem? (i := 1) rfl) (by simp); exact ⟨_, o, rfl, h1, h2⟩); exact ⟨G, _, ([] : (List (Int × Int))), t23.1, x_places_here13, u0, u1, (.ref p_places_here6), t37, rfl, wG, ((rDict rInt).mono sG q0), ((rDict rInt).mono sG q1), rt2, et37, fun v F2 H2 s2 w r => by obtain ⟨F3, s3, w, nl3⟩ := bG F2 H2 [] s2 (List.forall_mem_nil _) w; exact q v F3 H2 s3 w (nl_bool F2 F3 _ _ nl3 r)⟩))))) (Option.some.inj hz).symm) (fun hz => (Option.some.inj ((if_some et38).1 hz)).symm))) (fun hb39 F40 H40 s40 w40 => ?_) (fun hb39 F40 H40 s40 w40 => ?_)
        · skip
          have h := (if_some h).1 hb39
          obtain rfl := Option.some.inj h
          refine ws_ret (W := rBool.v) w40 ev_bool (fun vz Fz Hz sz wz rz => ?_)
          have wz := wz.drop (i := 0)
          have wz := wz.drop (i := 0)
          exact kQ _ _ _ ((s3.trans (s7.trans (s17.trans (s20.trans (s25.trans (s30.trans (s35.trans s40))))))).trans sz) wz rz
        · skip
          have h := (if_some h).2 hb39
          refine ws_nil ?_
          obtain ⟨t41, et41, h⟩ := bd_some h
          obtain ⟨t43, et43, h⟩ := bd_some h
          refine ws_if w40 (et_w (ew_orG (et_not (et_val (ev_call (U := rBool.v) (Os2 := ((p_box2, (oList rInt) t18.2) :: (p_places_here6, (oList rInt) x_places_here13) :: Os0)) G_l_writing (hr.mono (by decide)) T_l_writing.gm T_l_writing.fn.kp T_l_writing.bi pass0 (ea_cons (ev_var (n := 3) (W := (rDict rInt).v) rfl ((rDict rInt).mono (s25.trans (s30.trans (s35.trans s40))) r19)) (ea_cons (ev_var (n := 5) (W := (rDict rInt).v) rfl ((rDict rInt).mono (s35.trans s40) r29)) (ea_cons (ev_var (n := 2) (W := (rIs (.ref p_places_here6)).v) (x := ()) rfl rfl) ea_nil))) (fun F' Os' H' vs Q w hv q => by obtain ⟨u0, _, rfl, q0, u1, _, rfl, q1, u2, _, rfl, q2, rfl, rfl⟩ := hv; obtain ⟨G, Ex, sG, wG, rG, bG⟩ := Wf.tmpM (Ms := []) (Os := (p_box2, (oList rInt) t18.2) :: (p_places_here6, (oList rInt) x_places_here13) :: Os0) w [p_places_here6] (List.forall_mem_cons.mpr ⟨own_lst (Ms := []) (Os := (p_box2, (oList rInt) t18.2) :: (p_places_here6, (oList rInt) x_places_here13) :: Os0) w (i := 1) rfl, List.forall_mem_nil _⟩); cases q2; have rt2 : ((rList rInt)).r G (.ref p_places_here6) x_places_here13 := (by obtain ⟨o, h1, h2⟩ := rG _ _ (List.mem_of_getElem? (i := 1) rfl) (by simp); exact ⟨_, o, rfl, h1, h2⟩); exact ⟨G, _, t18.1, t28.1, x_places_here13, u0, u1, (.ref p_places_here6), t41, rfl, wG, ((rDict rInt).mono sG q0), ((rDict rInt).mono sG q1), rt2, et41, fun v F2 H2 s2 w r => by obtain ⟨F3, s3, w, nl3⟩ := bG F2 H2 [] s2 (List.forall_mem_nil _) w; exact q v F3 H2 s3 w (nl_bool F2 F3 _ _ nl3 r)⟩)))) (fun hz => by have hz := (if_some et43).2 hz; obtain ⟨t42, et42, hz⟩ := bd_some hz; exact Ew.eq (ew_or1 (et_not (et_val (ev_call (U := rBool.v) (Os2 := ((p_box2, (oList rInt) t18.2) :: (p_places_here6, (oList rInt) x_places_here13) :: Os0)) G_l_writing (hr.mono (by decide)) T_l_writing.gm T_l_writing.fn.kp T_l_writing.bi pass0 (ea_cons (ev_var (n := 4) (W := (rDict rInt).v) rfl ((rDict rInt).mono (s30.trans (s35.trans s40)) r24)) (ea_cons (ev_var (n := 5) (W := (rDict rInt).v) rfl ((rDict rInt).mono (s35.trans s40) r29)) (ea_cons (ev_var (n := 2) (W := (rIs (.ref p_places_here6)).v) (x := ()) rfl rfl) ea_nil))) (fun F' Os' H' vs Q w hv q => by obtain ⟨u0, _, rfl, q0, u1, _, rfl, q1, u2, _, rfl, q2, rfl, rfl⟩ := hv; obtain ⟨G, Ex, sG, wG, rG, bG⟩ := Wf.tmpM (Ms := []) (Os := (p_box2, (oList rInt) t18.2) :: (p_places_here6, (oList rInt) x_places_here13) :: Os0) w [p_places_here6] (List.forall_mem_cons.mpr ⟨own_lst (Ms := []) (Os := (p_box2, (oList rInt) t18.2) :: (p_places_here6, (oList rInt) x_places_here13) :: Os0) w (i := 1) rfl, List.forall_mem_nil _⟩); cases q2; have rt2 : ((rList rInt)).r G (.ref p_places_here6) x_places_here13 := (by obtain ⟨o, h1, h2⟩ := rG _ _ (List.mem_of_getElem? (i := 1) rfl) (by simp); exact ⟨_, o, rfl, h1, h2⟩); exact ⟨G, _, t23.1, t28.1, x_places_here13, u0, u1, (.ref p_places_here6), t42, rfl, wG, ((rDict rInt).mono sG q0), ((rDict rInt).mono sG q1), rt2, et42, fun v F2 H2 s2 w r => by obtain ⟨F3, s3, w, nl3⟩ := bG F2 H2 [] s2 (List.forall_mem_nil _) w; exact q v F3 H2 s3 w (nl_bool F2 F3 _ _ nl3 r)⟩))))) (Option.some.inj hz).symm) (fun hz => (Option.some.inj ((if_some et43).1 hz)).symm))) (fun hb44 F45 H45 s45 w45 => ?_) (fun hb44 F45 H45 s45 w45 => ?_)
          · skip
            have h := (if_some h).1 hb44
            obtain rfl := Option.some.inj h
            refine ws_ret (W := rBool.v) w45 ev_bool (fun vz Fz Hz sz wz rz => ?_)
            have wz := wz.drop (i := 0)
            have wz := wz.drop (i := 0)
            exact kQ _ _ _ ((s3.trans (s7.trans (s17.trans (s20.trans (s25.trans (s30.trans (s35.trans (s40.trans s45)))))))).trans sz) wz rz
          · skip
            have h := (if_some h).2 hb44
            refine ws_nil ?_
            obtain ⟨t46, et46, h⟩ := bd_some h
            refine ws_setN (n := 6) (O := (oList rInt) t46) w45 ((evn_call (O := (oList rInt) t46) (Os2 := ((p_box2, (oList rInt) t18.2) :: (p_places_here6, (oList rInt) x_places_here13) :: Os0)) G_l_open (hr.mono (by decide)) T_l_open.gm T_l_open.fn.kp T_l_open.bi pass0 (ea_cons (ev_var (n := 0) (W := (rScr K).v) rfl ((rScr K).mono (s3.trans (s7.trans (s17.trans (s20.trans (s25.trans (s30.trans (s35.trans (s40.trans s45)))))))) r_script)) (ea_cons ev_int ea_nil)) (fun F' Os' H' vs Q w hv q => by obtain ⟨u0, _, rfl, q0, u1, _, rfl, q1, rfl, rfl⟩ := hv; exact ⟨F', _, x_script, 3, u0, u1, t46, rfl, w, q0, q1, et46, fun p F2 H2 s2 w => by exact q p F2 H2 s2 w⟩))) nd (fun p_asks47 F48 H48 s48 w48 => ?_)
            have w49 := w48.back (i := 2)
            show Ws _ _ _ [some v_script, some (.ref p_box2), some (.ref p_places_here6), some v19, some v24, some v29, some (.ref p_asks47), none] _
            obtain ⟨t50, et50, h⟩ := bd_some h
            obtain ⟨t52, et52, h⟩ := bd_some h
            refine ws_if w49 (et_w (ew_orX (Os1 := ((p_box2, (oList rInt) t18.2) :: (p_places_here6, (oList rInt) x_places_here13) :: (p_asks47, (oList rInt) t50.2) :: Os0)) (Os3 := ((p_box2, (oList rInt) t18.2) :: (p_places_here6, (oList rInt) x_places_here13) :: Os0)) (et_not (et_val (ev_call (U := rBool.v) (Os2 := ((p_box2, (oList rInt) t18.2) :: (p_places_here6, (oList rInt) x_places_here13) :: (p_asks47, (oList rInt) t50.2) :: Os0)) G_l_telling (hr.mono (by decide)) T_l_telling.gm T_l_telling.fn.kp T_l_telling.bi pass0 (ea_cons (ev_var (n := 6) (W := (rIs (.ref p_asks47)).v) (x := ()) rfl rfl) (ea_cons (ev_var (n := 3) (W := (rDict rInt).v) rfl ((rDict rInt).mono (s25.trans (s30.trans (s35.trans (s40.trans (s45.trans s48))))) r19)) (ea_cons (ev_var (n := 2) (W := (rIs (.ref p_places_here6)).v) (x := ()) rfl rfl) ea_nil))) (fun F' Os' H' vs Q w hv q => by obtain ⟨u0, _, rfl, q0, u1, _, rfl, q1, u2, _, rfl, q2, rfl, rfl⟩ := hv; have w := w.pull (i := 2) rfl; cases q0; obtain ⟨G, Ex, sG, wG, rG, bG⟩ := Wf.tmpM (Ms := [(p_asks47, (oList rInt) t46)]) (Os := (p_box2, (oList rInt) t18.2) :: (p_places_here6, (oList rInt) x_places_here13) :: Os0) w [p_places_here6] (List.forall_mem_cons.mpr ⟨own_lst (Ms := [(p_asks47, (oList rInt) t46)]) (Os := (p_box2, (oList rInt) t18.2) :: (p_places_here6, (oList rInt) x_places_here13) :: Os0) w (i := 1) rfl, List.forall_mem_nil _⟩); cases q2; have rt2 : ((rList rInt)).r G (.ref p_places_here6) x_places_here13 := (by obtain ⟨o, h1, h2⟩ := rG _ _ (List.mem_of_getElem? (i := 1) rfl) (by simp); exact ⟨_, o, rfl, h1, h2⟩); exact ⟨G, _, t46, t18.1, x_places_here13, p_asks47, u1, (.ref p_places_here6), t50.1, t50.2, rfl, wG, ((rDict rInt).mono sG q1), rt2, et50, fun v F2 H2 s2 w r => by obtain ⟨F3, s3, w, nl3⟩ := bG F2 H2 [_] s2 (List.forall_mem_cons.mpr ⟨(nl_L nl_int _), List.forall_mem_nil _⟩) w; have w := w.back (i := 2); exact q v F3 H2 s3 w (nl_bool F2 F3 _ _ nl3 r)⟩)))) (fun hz => by have hz := (if_some et52).2 hz; obtain ⟨t51, et51, hz⟩ := bd_some hz; exact Ew.eq (Ew.wk (Os1 := ((p_box2, (oList rInt) t18.2) :: (p_places_here6, (oList rInt) x_places_here13) :: (p_asks47, (oList rInt) t51.2) :: Os0)) (ew_or1 (et_not (et_val (ev_call (U := rBool.v) (Os2 := ((p_box2, (oList rInt) t18.2) :: (p_places_here6, (oList rInt) x_places_here13) :: (p_asks47, (oList rInt) t51.2) :: Os0)) G_l_telling (hr.mono (by decide)) T_l_telling.gm T_l_telling.fn.kp T_l_telling.bi pass0 (ea_cons (ev_var (n := 6) (W := (rIs (.ref p_asks47)).v) (x := ()) rfl rfl) (ea_cons (ev_var (n := 4) (W := (rDict rInt).v) rfl ((rDict rInt).mono (s30.trans (s35.trans (s40.trans (s45.trans s48)))) r24)) (ea_cons (ev_var (n := 2) (W := (rIs (.ref p_places_here6)).v) (x := ()) rfl rfl) ea_nil))) (fun F' Os' H' vs Q w hv q => by obtain ⟨u0, _, rfl, q0, u1, _, rfl, q1, u2, _, rfl, q2, rfl, rfl⟩ := hv; have w := w.pull (i := 2) rfl; cases q0; obtain ⟨G, Ex, sG, wG, rG, bG⟩ := Wf.tmpM (Ms := [(p_asks47, (oList rInt) t50.2)]) (Os := (p_box2, (oList rInt) t18.2) :: (p_places_here6, (oList rInt) x_places_here13) :: Os0) w [p_places_here6] (List.forall_mem_cons.mpr ⟨own_lst (Ms := [(p_asks47, (oList rInt) t50.2)]) (Os := (p_box2, (oList rInt) t18.2) :: (p_places_here6, (oList rInt) x_places_here13) :: Os0) w (i := 1) rfl, List.forall_mem_nil _⟩); cases q2; have rt2 : ((rList rInt)).r G (.ref p_places_here6) x_places_here13 := (by obtain ⟨o, h1, h2⟩ := rG _ _ (List.mem_of_getElem? (i := 1) rfl) (by simp); exact ⟨_, o, rfl, h1, h2⟩); exact ⟨G, _, t50.2, t23.1, x_places_here13, p_asks47, u1, (.ref p_places_here6), t51.1, t51.2, rfl, wG, ((rDict rInt).mono sG q1), rt2, et51, fun v F2 H2 s2 w r => by obtain ⟨F3, s3, w, nl3⟩ := bG F2 H2 [_] s2 (List.forall_mem_cons.mpr ⟨(nl_L nl_int _), List.forall_mem_nil _⟩) w; have w := w.back (i := 2); exact q v F3 H2 s3 w (nl_bool F2 F3 _ _ nl3 r)⟩))))) (fun _ _ w => (w.drop (i := 2)))) (Option.some.inj hz).symm) (fun hz => (Option.some.inj ((if_some et52).1 hz)).symm) (fun _ _ w => (w.drop (i := 2))))) (fun hb53 F54 H54 s54 w54 => ?_) (fun hb53 F54 H54 s54 w54 => ?_)
            · skip
              have h := (if_some h).1 hb53
              obtain rfl := Option.some.inj h
              refine ws_ret (W := rBool.v) w54 ev_bool (fun vz Fz Hz sz wz rz => ?_)
              have wz := wz.drop (i := 0)
              have wz := wz.drop (i := 0)
              exact kQ _ _ _ ((s3.trans (s7.trans (s17.trans (s20.trans (s25.trans (s30.trans (s35.trans (s40.trans (s45.trans (s48.trans s54)))))))))).trans sz) wz rz
            · skip
              have h := (if_some h).2 hb53
              refine ws_nil ?_
              obtain ⟨t55, et55, h⟩ := bd_some h
              refine ws_setN (n := 7) (O := (oList rInt) t55) w54 ((evn_call (O := (oList rInt) t55) (Os2 := ((p_box2, (oList rInt) t18.2) :: (p_places_here6, (oList rInt) x_places_here13) :: Os0)) G_l_open (hr.mono (by decide)) T_l_open.gm T_l_open.fn.kp T_l_open.bi pass0 (ea_cons (ev_var (n := 0) (W := (rScr K).v) rfl ((rScr K).mono (s3.trans (s7.trans (s17.trans (s20.trans (s25.trans (s30.trans (s35.trans (s40.trans (s45.trans (s48.trans s54)))))))))) r_script)) (ea_cons ev_int ea_nil)) (fun F' Os' H' vs Q w hv q => by obtain ⟨u0, _, rfl, q0, u1, _, rfl, q1, rfl, rfl⟩ := hv; exact ⟨F', _, x_script, 4, u0, u1, t55, rfl, w, q0, q1, et55, fun p F2 H2 s2 w => by exact q p F2 H2 s2 w⟩))) nd (fun p_wide56 F57 H57 s57 w57 => ?_)
              have w58 := w57.back (i := 2)
              show Ws _ _ _ [some v_script, some (.ref p_box2), some (.ref p_places_here6), some v19, some v24, some v29, some (.ref p_asks47), some (.ref p_wide56)] _
              obtain ⟨t59, et59, h⟩ := bd_some h
              obtain ⟨t61, et61, h⟩ := bd_some h
              obtain rfl := Option.some.inj h
              refine ws_ret (W := rBool.v) w58 (ev_orX (Os1 := ((p_box2, (oList rInt) t18.2) :: (p_places_here6, (oList rInt) x_places_here13) :: (p_wide56, (oList rInt) t59.2) :: Os0)) (Os3 := ((p_box2, (oList rInt) t18.2) :: (p_places_here6, (oList rInt) x_places_here13) :: Os0)) (ev_cmp cp_lt (ev_call (U := rInt.v) (Os2 := ((p_box2, (oList rInt) t18.2) :: (p_places_here6, (oList rInt) x_places_here13) :: (p_wide56, (oList rInt) t59.2) :: Os0)) G_l_take (hr.mono (by decide)) T_l_take.gm T_l_take.fn.kp T_l_take.bi pass0 (ea_cons (ev_var (n := 7) (W := (rIs (.ref p_wide56)).v) (x := ()) rfl rfl) (ea_cons ev_int ea_nil)) (fun F' Os' H' vs Q w hv q => by obtain ⟨u0, _, rfl, q0, u1, _, rfl, q1, rfl, rfl⟩ := hv; have w := w.pull (i := 2) rfl; cases q0; exact ⟨F', _, t55, 8, p_wide56, u1, t59.1, t59.2, rfl, w, q1, et59, fun v F2 H2 s2 w r => by have w := w.back (i := 2); exact q v F2 H2 s2 w r⟩)) ev_int) (fun hz => by have hz := (if_some et61).2 hz; obtain ⟨t60, et60, hz⟩ := bd_some hz; exact Ev.eq (Ev.wk (Os1 := ((p_box2, (oList rInt) t18.2) :: (p_places_here6, (oList rInt) x_places_here13) :: (p_wide56, (oList rInt) t60.2) :: Os0)) (ev_one (ev_call (U := rBool.v) (Os2 := ((p_box2, (oList rInt) t18.2) :: (p_places_here6, (oList rInt) x_places_here13) :: (p_wide56, (oList rInt) t60.2) :: Os0)) G_l_large (hr.mono (by decide)) T_l_large.gm T_l_large.fn.kp T_l_large.bi pass0 (ea_cons (ev_var (n := 7) (W := (rIs (.ref p_wide56)).v) (x := ()) rfl rfl) ea_nil) (fun F' Os' H' vs Q w hv q => by obtain ⟨u0, _, rfl, q0, rfl, rfl⟩ := hv; have w := w.pull (i := 2) rfl; cases q0; exact ⟨F', _, t59.2, p_wide56, t60.1, t60.2, rfl, w, et60, fun v F2 H2 s2 w r => by have w := w.back (i := 2); exact q v F2 H2 s2 w r⟩))) (fun _ _ w => (w.drop (i := 2)))) (Option.some.inj hz).symm) (fun hz => (Option.some.inj ((if_some et61).1 hz)).symm) (fun _ _ w => (w.drop (i := 2)))) (fun vz Fz Hz sz wz rz => ?_)
              have wz := wz.drop (i := 0)
              have wz := wz.drop (i := 0)
              exact kQ _ _ _ ((s3.trans (s7.trans (s17.trans (s20.trans (s25.trans (s30.trans (s35.trans (s40.trans (s45.trans (s48.trans (s54.trans s57))))))))))).trans sz) wz rz
end
end Z

namespace Z
open PySem PySem.Spec L2
theorem all_mk {l : PySem.W.OpenLaw} {w : World} {K : PySem.W.Frag} {h : Heap} {mg : Str → Option Value} {fa : Addr} (X : K.In h) (G : h.Ns mainGlobals mg) (hfa : mg "law" = some (.ref fa))
    {f0 : Addr} {od0 an0 : Option Addr} {sl0 : Array (Option Value)} {oc0 kV0 dc0 pm0 cd0 ct0 : Value}
    {f1 : Addr} {od1 an1 : Option Addr} {sl1 : Array (Option Value)} {oc1 kV1 dc1 pm1 cd1 ct1 : Value}
    {f2 : Addr} {od2 an2 : Option Addr} {sl2 : Array (Option Value)} {oc2 kV2 dc2 pm2 cd2 ct2 : Value}
    {f3 : Addr} {od3 an3 : Option Addr} {sl3 : Array (Option Value)} {oc3 kV3 dc3 pm3 cd3 ct3 : Value}
    {f4 : Addr} {od4 an4 : Option Addr} {sl4 : Array (Option Value)} {oc4 kV4 dc4 pm4 cd4 ct4 : Value}
    {f5 : Addr} {od5 an5 : Option Addr} {sl5 : Array (Option Value)} {oc5 kV5 dc5 pm5 cd5 ct5 : Value}
    {f6 : Addr} {od6 an6 : Option Addr} {sl6 : Array (Option Value)} {oc6 kV6 dc6 pm6 cd6 ct6 : Value}
    {f7 : Addr} {od7 an7 : Option Addr} {sl7 : Array (Option Value)} {oc7 kV7 dc7 pm7 cd7 ct7 : Value}
    {f8 : Addr} {od8 an8 : Option Addr} {sl8 : Array (Option Value)} {oc8 kV8 dc8 pm8 cd8 ct8 : Value}
    {f9 : Addr} {od9 an9 : Option Addr} {sl9 : Array (Option Value)} {oc9 kV9 dc9 pm9 cd9 ct9 : Value}
    {f10 : Addr} {od10 an10 : Option Addr} {sl10 : Array (Option Value)} {oc10 kV10 dc10 pm10 cd10 ct10 : Value}
    {f11 : Addr} {od11 an11 : Option Addr} {sl11 : Array (Option Value)} {oc11 kV11 dc11 pm11 cd11 ct11 : Value}
    {f12 : Addr} {od12 an12 : Option Addr} {sl12 : Array (Option Value)} {oc12 kV12 dc12 pm12 cd12 ct12 : Value}
    {f13 : Addr} {od13 an13 : Option Addr} {sl13 : Array (Option Value)} {oc13 kV13 dc13 pm13 cd13 ct13 : Value}
    {f14 : Addr} {od14 an14 : Option Addr} {sl14 : Array (Option Value)} {oc14 kV14 dc14 pm14 cd14 ct14 : Value}
    {f15 : Addr} {od15 an15 : Option Addr} {sl15 : Array (Option Value)} {oc15 kV15 dc15 pm15 cd15 ct15 : Value}
    {f16 : Addr} {od16 an16 : Option Addr} {sl16 : Array (Option Value)} {oc16 kV16 dc16 pm16 cd16 ct16 : Value}
    {f17 : Addr} {od17 an17 : Option Addr} {sl17 : Array (Option Value)} {oc17 kV17 dc17 pm17 cd17 ct17 : Value}
    {f18 : Addr} {od18 an18 : Option Addr} {sl18 : Array (Option Value)} {oc18 kV18 dc18 pm18 cd18 ct18 : Value}
    {f19 : Addr} {od19 an19 : Option Addr} {sl19 : Array (Option Value)} {oc19 kV19 dc19 pm19 cd19 ct19 : Value}
    {f20 : Addr} {od20 an20 : Option Addr} {sl20 : Array (Option Value)} {oc20 kV20 dc20 pm20 cd20 ct20 : Value}
    {f21 : Addr} {od21 an21 : Option Addr} {sl21 : Array (Option Value)} {oc21 kV21 dc21 pm21 cd21 ct21 : Value}
    {f22 : Addr} {od22 an22 : Option Addr} {sl22 : Array (Option Value)} {oc22 kV22 dc22 pm22 cd22 ct22 : Value}
    {f23 : Addr} {od23 an23 : Option Addr} {sl23 : Array (Option Value)} {oc23 kV23 dc23 pm23 cd23 ct23 : Value}
    (a0 : PySem.W.nsIn K mainGlobals "_law_open" = some (some (.ref f0))) (l0 : K.lookup f0 = some ⟨oc0, od0, .func (PySem.W.fnOf "_law_open" "_law_open" (defArgs (topS 9)) (defBody (topS 9)) (defScope (topS 9)) .none kV0 dc0 pm0 an0 cd0 ct0), sl0⟩) (c0 : PySem.W.codeIn K cd0 "_law_open" = true) (k0 : PySem.W.keepIn K (.ref f0) = true)
    (a1 : PySem.W.nsIn K mainGlobals "_law_take" = some (some (.ref f1))) (l1 : K.lookup f1 = some ⟨oc1, od1, .func (PySem.W.fnOf "_law_take" "_law_take" (defArgs (topS 10)) (defBody (topS 10)) (defScope (topS 10)) .none kV1 dc1 pm1 an1 cd1 ct1), sl1⟩) (c1 : PySem.W.codeIn K cd1 "_law_take" = true) (k1 : PySem.W.keepIn K (.ref f1) = true)
    (a2 : PySem.W.nsIn K mainGlobals "_law_places" = some (some (.ref f2))) (l2 : K.lookup f2 = some ⟨oc2, od2, .func (PySem.W.fnOf "_law_places" "_law_places" (defArgs (topS 12)) (defBody (topS 12)) (defScope (topS 12)) .none kV2 dc2 pm2 an2 cd2 ct2), sl2⟩) (c2 : PySem.W.codeIn K cd2 "_law_places" = true) (k2 : PySem.W.keepIn K (.ref f2) = true)
    (a3 : PySem.W.nsIn K mainGlobals "_law_value" = some (some (.ref f3))) (l3 : K.lookup f3 = some ⟨oc3, od3, .func (PySem.W.fnOf "_law_value" "_law_value" (defArgs (topS 15)) (defBody (topS 15)) (defScope (topS 15)) .none kV3 dc3 pm3 an3 cd3 ct3), sl3⟩) (c3 : PySem.W.codeIn K cd3 "_law_value" = true) (k3 : PySem.W.keepIn K (.ref f3) = true)
    (a4 : PySem.W.nsIn K mainGlobals "_law_first" = some (some (.ref f4))) (l4 : K.lookup f4 = some ⟨oc4, od4, .func (PySem.W.fnOf "_law_first" "_law_first" (defArgs (topS 16)) (defBody (topS 16)) (defScope (topS 16)) .none kV4 dc4 pm4 an4 cd4 ct4), sl4⟩) (c4 : PySem.W.codeIn K cd4 "_law_first" = true) (k4 : PySem.W.keepIn K (.ref f4) = true)
    (a5 : PySem.W.nsIn K mainGlobals "_law_second" = some (some (.ref f5))) (l5 : K.lookup f5 = some ⟨oc5, od5, .func (PySem.W.fnOf "_law_second" "_law_second" (defArgs (topS 17)) (defBody (topS 17)) (defScope (topS 17)) .none kV5 dc5 pm5 an5 cd5 ct5), sl5⟩) (c5 : PySem.W.codeIn K cd5 "_law_second" = true) (k5 : PySem.W.keepIn K (.ref f5) = true)
    (a6 : PySem.W.nsIn K mainGlobals "_law_choose" = some (some (.ref f6))) (l6 : K.lookup f6 = some ⟨oc6, od6, .func (PySem.W.fnOf "_law_choose" "_law_choose" (defArgs (topS 11)) (defBody (topS 11)) (defScope (topS 11)) .none kV6 dc6 pm6 an6 cd6 ct6), sl6⟩) (c6 : PySem.W.codeIn K cd6 "_law_choose" = true) (k6 : PySem.W.keepIn K (.ref f6) = true)
    (a7 : PySem.W.nsIn K mainGlobals "_law_wanted" = some (some (.ref f7))) (l7 : K.lookup f7 = some ⟨oc7, od7, .func (PySem.W.fnOf "_law_wanted" "_law_wanted" (defArgs (topS 18)) (defBody (topS 18)) (defScope (topS 18)) .none kV7 dc7 pm7 an7 cd7 ct7), sl7⟩) (c7 : PySem.W.codeIn K cd7 "_law_wanted" = true) (k7 : PySem.W.keepIn K (.ref f7) = true)
    (a8 : PySem.W.nsIn K mainGlobals "_law_copy" = some (some (.ref f8))) (l8 : K.lookup f8 = some ⟨oc8, od8, .func (PySem.W.fnOf "_law_copy" "_law_copy" (defArgs (topS 14)) (defBody (topS 14)) (defScope (topS 14)) .none kV8 dc8 pm8 an8 cd8 ct8), sl8⟩) (c8 : PySem.W.codeIn K cd8 "_law_copy" = true) (k8 : PySem.W.keepIn K (.ref f8) = true)
    (a9 : PySem.W.nsIn K mainGlobals "_law_unlike" = some (some (.ref f9))) (l9 : K.lookup f9 = some ⟨oc9, od9, .func (PySem.W.fnOf "_law_unlike" "_law_unlike" (defArgs (topS 19)) (defBody (topS 19)) (defScope (topS 19)) .none kV9 dc9 pm9 an9 cd9 ct9), sl9⟩) (c9 : PySem.W.codeIn K cd9 "_law_unlike" = true) (k9 : PySem.W.keepIn K (.ref f9) = true)
    (a10 : PySem.W.nsIn K mainGlobals "ascending" = some (some (.ref f10))) (l10 : K.lookup f10 = some ⟨oc10, od10, .func (PySem.W.fnOf "ascending" "ascending" (defArgs (topS 1)) (defBody (topS 1)) (defScope (topS 1)) .none kV10 dc10 pm10 an10 cd10 ct10), sl10⟩) (c10 : PySem.W.codeIn K cd10 "ascending" = true) (k10 : PySem.W.keepIn K (.ref f10) = true)
    (a11 : PySem.W.nsIn K mainGlobals "value_at" = some (some (.ref f11))) (l11 : K.lookup f11 = some ⟨oc11, od11, .func (PySem.W.fnOf "value_at" "value_at" (defArgs (topS 4)) (defBody (topS 4)) (defScope (topS 4)) .none kV11 dc11 pm11 an11 cd11 ct11), sl11⟩) (c11 : PySem.W.codeIn K cd11 "value_at" = true) (k11 : PySem.W.keepIn K (.ref f11) = true)
    (a12 : PySem.W.nsIn K mainGlobals "changes" = some (some (.ref f12))) (l12 : K.lookup f12 = some ⟨oc12, od12, .func (PySem.W.fnOf "changes" "changes" (defArgs (topS 6)) (defBody (topS 6)) (defScope (topS 6)) .none kV12 dc12 pm12 an12 cd12 ct12), sl12⟩) (c12 : PySem.W.codeIn K cd12 "changes" = true) (k12 : PySem.W.keepIn K (.ref f12) = true)
    (a13 : PySem.W.nsIn K mainGlobals "_law_is_book" = some (some (.ref f13))) (l13 : K.lookup f13 = some ⟨oc13, od13, .func (PySem.W.fnOf "_law_is_book" "_law_is_book" (defArgs (topS 13)) (defBody (topS 13)) (defScope (topS 13)) .none kV13 dc13 pm13 an13 cd13 ct13), sl13⟩) (c13 : PySem.W.codeIn K cd13 "_law_is_book" = true) (k13 : PySem.W.keepIn K (.ref f13) = true)
    (a14 : PySem.W.nsIn K mainGlobals "cleaned" = some (some (.ref f14))) (l14 : K.lookup f14 = some ⟨oc14, od14, .func (PySem.W.fnOf "cleaned" "cleaned" (defArgs (topS 2)) (defBody (topS 2)) (defScope (topS 2)) .none kV14 dc14 pm14 an14 cd14 ct14), sl14⟩) (c14 : PySem.W.codeIn K cd14 "cleaned" = true) (k14 : PySem.W.keepIn K (.ref f14) = true)
    (a15 : PySem.W.nsIn K mainGlobals "with_writes" = some (some (.ref f15))) (l15 : K.lookup f15 = some ⟨oc15, od15, .func (PySem.W.fnOf "with_writes" "with_writes" (defArgs (topS 5)) (defBody (topS 5)) (defScope (topS 5)) .none kV15 dc15 pm15 an15 cd15 ct15), sl15⟩) (c15 : PySem.W.codeIn K cd15 "with_writes" = true) (k15 : PySem.W.keepIn K (.ref f15) = true)
    (a16 : PySem.W.nsIn K mainGlobals "_law_leads" = some (some (.ref f16))) (l16 : K.lookup f16 = some ⟨oc16, od16, .func (PySem.W.fnOf "_law_leads" "_law_leads" (defArgs (topS 21)) (defBody (topS 21)) (defScope (topS 21)) .none kV16 dc16 pm16 an16 cd16 ct16), sl16⟩) (c16 : PySem.W.codeIn K cd16 "_law_leads" = true) (k16 : PySem.W.keepIn K (.ref f16) = true)
    (a17 : PySem.W.nsIn K mainGlobals "_law_after" = some (some (.ref f17))) (l17 : K.lookup f17 = some ⟨oc17, od17, .func (PySem.W.fnOf "_law_after" "_law_after" (defArgs (topS 20)) (defBody (topS 20)) (defScope (topS 20)) .none kV17 dc17 pm17 an17 cd17 ct17), sl17⟩) (c17 : PySem.W.codeIn K cd17 "_law_after" = true) (k17 : PySem.W.keepIn K (.ref f17) = true)
    (a18 : PySem.W.nsIn K mainGlobals "_law_writing" = some (some (.ref f18))) (l18 : K.lookup f18 = some ⟨oc18, od18, .func (PySem.W.fnOf "_law_writing" "_law_writing" (defArgs (topS 22)) (defBody (topS 22)) (defScope (topS 22)) .none kV18 dc18 pm18 an18 cd18 ct18), sl18⟩) (c18 : PySem.W.codeIn K cd18 "_law_writing" = true) (k18 : PySem.W.keepIn K (.ref f18) = true)
    (a19 : PySem.W.nsIn K mainGlobals "holds" = some (some (.ref f19))) (l19 : K.lookup f19 = some ⟨oc19, od19, .func (PySem.W.fnOf "holds" "holds" (defArgs (topS 7)) (defBody (topS 7)) (defScope (topS 7)) .none kV19 dc19 pm19 an19 cd19 ct19), sl19⟩) (c19 : PySem.W.codeIn K cd19 "holds" = true) (k19 : PySem.W.keepIn K (.ref f19) = true)
    (a20 : PySem.W.nsIn K mainGlobals "_law_holding" = some (some (.ref f20))) (l20 : K.lookup f20 = some ⟨oc20, od20, .func (PySem.W.fnOf "_law_holding" "_law_holding" (defArgs (topS 23)) (defBody (topS 23)) (defScope (topS 23)) .none kV20 dc20 pm20 an20 cd20 ct20), sl20⟩) (c20 : PySem.W.codeIn K cd20 "_law_holding" = true) (k20 : PySem.W.keepIn K (.ref f20) = true)
    (a21 : PySem.W.nsIn K mainGlobals "_law_telling" = some (some (.ref f21))) (l21 : K.lookup f21 = some ⟨oc21, od21, .func (PySem.W.fnOf "_law_telling" "_law_telling" (defArgs (topS 24)) (defBody (topS 24)) (defScope (topS 24)) .none kV21 dc21 pm21 an21 cd21 ct21), sl21⟩) (c21 : PySem.W.codeIn K cd21 "_law_telling" = true) (k21 : PySem.W.keepIn K (.ref f21) = true)
    (a22 : PySem.W.nsIn K mainGlobals "_law_large" = some (some (.ref f22))) (l22 : K.lookup f22 = some ⟨oc22, od22, .func (PySem.W.fnOf "_law_large" "_law_large" (defArgs (topS 25)) (defBody (topS 25)) (defScope (topS 25)) .none kV22 dc22 pm22 an22 cd22 ct22), sl22⟩) (c22 : PySem.W.codeIn K cd22 "_law_large" = true) (k22 : PySem.W.keepIn K (.ref f22) = true)
    (a23 : PySem.W.nsIn K mainGlobals "law" = some (some (.ref f23))) (l23 : K.lookup f23 = some ⟨oc23, od23, .func (PySem.W.fnOf "law" "law" (defArgs (topS 26)) (defBody (topS 26)) (defScope (topS 26)) .none kV23 dc23 pm23 an23 cd23 ct23), sl23⟩) (c23 : PySem.W.codeIn K cd23 "law" = true) (k23 : PySem.W.keepIn K (.ref f23) = true)
    (z_all : PySem.W.nsIn K mainGlobals "all" = some none)
    (z_bool : PySem.W.nsIn K mainGlobals "bool" = some none)
    (z_dict : PySem.W.nsIn K mainGlobals "dict" = some none)
    (z_int : PySem.W.nsIn K mainGlobals "int" = some none)
    (z_isinstance : PySem.W.nsIn K mainGlobals "isinstance" = some none)
    (z_len : PySem.W.nsIn K mainGlobals "len" = some none)
    (z_list : PySem.W.nsIn K mainGlobals "list" = some none)
    (z_max : PySem.W.nsIn K mainGlobals "max" = some none)
    (z_min : PySem.W.nsIn K mainGlobals "min" = some none)
    (z_range : PySem.W.nsIn K mainGlobals "range" = some none)
    (z_reversed : PySem.W.nsIn K mainGlobals "reversed" = some none)
    (z_set : PySem.W.nsIn K mainGlobals "set" = some none)
    (z_sorted : PySem.W.nsIn K mainGlobals "sorted" = some none)
    (z_tuple : PySem.W.nsIn K mainGlobals "tuple" = some none)
    : ∃ fd : FuncData, (∀ (s : Shared) (v : Value), BindsTo s fd ⟨[v], []⟩ [("_law_script", v)]) ∧ ∀ base : Heap, K.In base → base.Ns mainGlobals mg → FnOk l.prog w K mg base CX0 6 fa fd ["_law_script"] (sp_law K) := by
  have e := hfa.symm.trans (PySem.W.mg_of X G a23)
  cases e
  have B : Blt mg := ⟨PySem.W.mg_none_of X G z_all, PySem.W.mg_none_of X G z_bool, PySem.W.mg_none_of X G z_dict, PySem.W.mg_none_of X G z_int, PySem.W.mg_none_of X G z_isinstance, PySem.W.mg_none_of X G z_len, PySem.W.mg_none_of X G z_list, PySem.W.mg_none_of X G z_max, PySem.W.mg_none_of X G z_min, PySem.W.mg_none_of X G z_range, PySem.W.mg_none_of X G z_reversed, PySem.W.mg_none_of X G z_set, PySem.W.mg_none_of X G z_sorted, PySem.W.mg_none_of X G z_tuple⟩
  have T0 : FT K mg "_law_open" (topS 9) ["_law_script", "_law_at"] _ _ := ⟨fun_mk l0 c0 k0, (fun_mk (st := topS 9) l0 c0 k0).binds fun _ _ _ _ _ _ us hl => match us, hl with | [_, _], _ => rfl, PySem.W.mg_of X G a0⟩
  have T1 : FT K mg "_law_take" (topS 10) ["_law_box", "_law_size"] _ _ := ⟨fun_mk l1 c1 k1, (fun_mk (st := topS 10) l1 c1 k1).binds fun _ _ _ _ _ _ us hl => match us, hl with | [_, _], _ => rfl, PySem.W.mg_of X G a1⟩
  have T2 : FT K mg "_law_places" (topS 12) ["_law_box", "_law_count"] _ _ := ⟨fun_mk l2 c2 k2, (fun_mk (st := topS 12) l2 c2 k2).binds fun _ _ _ _ _ _ us hl => match us, hl with | [_, _], _ => rfl, PySem.W.mg_of X G a2⟩
  have T3 : FT K mg "_law_value" (topS 15) ["_law_box"] _ _ := ⟨fun_mk l3 c3 k3, (fun_mk (st := topS 15) l3 c3 k3).binds fun _ _ _ _ _ _ us hl => match us, hl with | [_], _ => rfl, PySem.W.mg_of X G a3⟩
  have T4 : FT K mg "_law_first" (topS 16) ["_law_box", "_law_places_here"] _ _ := ⟨fun_mk l4 c4 k4, (fun_mk (st := topS 16) l4 c4 k4).binds fun _ _ _ _ _ _ us hl => match us, hl with | [_, _], _ => rfl, PySem.W.mg_of X G a4⟩
  have T5 : FT K mg "_law_second" (topS 17) ["_law_box", "_law_book", "_law_places_here"] _ _ := ⟨fun_mk l5 c5 k5, (fun_mk (st := topS 17) l5 c5 k5).binds fun _ _ _ _ _ _ us hl => match us, hl with | [_, _, _], _ => rfl, PySem.W.mg_of X G a5⟩
  have T6 : FT K mg "_law_choose" (topS 11) ["_law_box", "_law_rows", "_law_count"] _ _ := ⟨fun_mk l6 c6 k6, (fun_mk (st := topS 11) l6 c6 k6).binds fun _ _ _ _ _ _ us hl => match us, hl with | [_, _, _], _ => rfl, PySem.W.mg_of X G a6⟩
  have T7 : FT K mg "_law_wanted" (topS 18) ["_law_box", "_law_book", "_law_places_here"] _ _ := ⟨fun_mk l7 c7 k7, (fun_mk (st := topS 18) l7 c7 k7).binds fun _ _ _ _ _ _ us hl => match us, hl with | [_, _, _], _ => rfl, PySem.W.mg_of X G a7⟩
  have T8 : FT K mg "_law_copy" (topS 14) ["_law_book"] _ _ := ⟨fun_mk l8 c8 k8, (fun_mk (st := topS 14) l8 c8 k8).binds fun _ _ _ _ _ _ us hl => match us, hl with | [_], _ => rfl, PySem.W.mg_of X G a8⟩
  have T9 : FT K mg "_law_unlike" (topS 19) ["_law_base", "_law_book", "_law_places_here"] _ _ := ⟨fun_mk l9 c9 k9, (fun_mk (st := topS 19) l9 c9 k9).binds fun _ _ _ _ _ _ us hl => match us, hl with | [_, _, _], _ => rfl, PySem.W.mg_of X G a9⟩
  have T10 : FT K mg "ascending" (topS 1) ["numbers"] _ _ := ⟨fun_mk l10 c10 k10, (fun_mk (st := topS 1) l10 c10 k10).binds fun _ _ _ _ _ _ us hl => match us, hl with | [_], _ => rfl, PySem.W.mg_of X G a10⟩
  have T11 : FT K mg "value_at" (topS 4) ["book", "place"] _ _ := ⟨fun_mk l11 c11 k11, (fun_mk (st := topS 4) l11 c11 k11).binds fun _ _ _ _ _ _ us hl => match us, hl with | [_, _], _ => rfl, PySem.W.mg_of X G a11⟩
  have T12 : FT K mg "changes" (topS 6) ["base", "book"] _ _ := ⟨fun_mk l12 c12 k12, (fun_mk (st := topS 6) l12 c12 k12).binds fun _ _ _ _ _ _ us hl => match us, hl with | [_, _], _ => rfl, PySem.W.mg_of X G a12⟩
  have T13 : FT K mg "_law_is_book" (topS 13) ["_law_told"] _ _ := ⟨fun_mk l13 c13 k13, (fun_mk (st := topS 13) l13 c13 k13).binds fun _ _ _ _ _ _ us hl => match us, hl with | [_], _ => rfl, PySem.W.mg_of X G a13⟩
  have T14 : FT K mg "cleaned" (topS 2) ["book"] _ _ := ⟨fun_mk l14 c14 k14, (fun_mk (st := topS 2) l14 c14 k14).binds fun _ _ _ _ _ _ us hl => match us, hl with | [_], _ => rfl, PySem.W.mg_of X G a14⟩
  have T15 : FT K mg "with_writes" (topS 5) ["book", "writes"] _ _ := ⟨fun_mk l15 c15 k15, (fun_mk (st := topS 5) l15 c15 k15).binds fun _ _ _ _ _ _ us hl => match us, hl with | [_, _], _ => rfl, PySem.W.mg_of X G a15⟩
  have T16 : FT K mg "_law_leads" (topS 21) ["_law_base", "_law_book", "_law_places_here"] _ _ := ⟨fun_mk l16 c16 k16, (fun_mk (st := topS 21) l16 c16 k16).binds fun _ _ _ _ _ _ us hl => match us, hl with | [_, _, _], _ => rfl, PySem.W.mg_of X G a16⟩
  have T17 : FT K mg "_law_after" (topS 20) ["_law_book", "_law_writes", "_law_places_here"] _ _ := ⟨fun_mk l17 c17 k17, (fun_mk (st := topS 20) l17 c17 k17).binds fun _ _ _ _ _ _ us hl => match us, hl with | [_, _, _], _ => rfl, PySem.W.mg_of X G a17⟩
  have T18 : FT K mg "_law_writing" (topS 22) ["_law_base", "_law_writes", "_law_places_here"] _ _ := ⟨fun_mk l18 c18 k18, (fun_mk (st := topS 22) l18 c18 k18).binds fun _ _ _ _ _ _ us hl => match us, hl with | [_, _, _], _ => rfl, PySem.W.mg_of X G a18⟩
  have T19 : FT K mg "holds" (topS 7) ["book", "marks"] _ _ := ⟨fun_mk l19 c19 k19, (fun_mk (st := topS 7) l19 c19 k19).binds fun _ _ _ _ _ _ us hl => match us, hl with | [_, _], _ => rfl, PySem.W.mg_of X G a19⟩
  have T20 : FT K mg "_law_holding" (topS 23) ["_law_one", "_law_marks", "_law_due"] _ _ := ⟨fun_mk l20 c20 k20, (fun_mk (st := topS 23) l20 c20 k20).binds fun _ _ _ _ _ _ us hl => match us, hl with | [_, _, _], _ => rfl, PySem.W.mg_of X G a20⟩
  have T21 : FT K mg "_law_telling" (topS 24) ["_law_box", "_law_book", "_law_places_here"] _ _ := ⟨fun_mk l21 c21 k21, (fun_mk (st := topS 24) l21 c21 k21).binds fun _ _ _ _ _ _ us hl => match us, hl with | [_, _, _], _ => rfl, PySem.W.mg_of X G a21⟩
  have T22 : FT K mg "_law_large" (topS 25) ["_law_box"] _ _ := ⟨fun_mk l22 c22 k22, (fun_mk (st := topS 25) l22 c22 k22).binds fun _ _ _ _ _ _ us hl => match us, hl with | [_], _ => rfl, PySem.W.mg_of X G a22⟩
  have T23 : FT K mg "law" (topS 26) ["_law_script"] _ _ := ⟨fun_mk l23 c23 k23, (fun_mk (st := topS 26) l23 c23 k23).binds fun _ _ _ _ _ _ us hl => match us, hl with | [_], _ => rfl, PySem.W.mg_of X G a23⟩
  refine ⟨PySem.W.fnOf "law" "law" (defArgs (topS 26)) (defBody (topS 26)) (defScope (topS 26)) .none kV23 dc23 pm23 an23 cd23 ct23, fun s v => .of_eq rfl, fun base _ _ => ?_⟩
  have G_l_open : FnOk l.prog w K mg base CX0 1 _ _ ["_law_script", "_law_at"] (sp_l_open K) := ok_l_open T0 B
  have G_l_take : FnOk l.prog w K mg base CX0 1 _ _ ["_law_box", "_law_size"] (sp_l_take K) := ok_l_take T1 B
  have G_l_places : FnOk l.prog w K mg base CX0 2 _ _ ["_law_box", "_law_count"] (sp_l_places K) := ok_l_places T2 B T1 G_l_take
  have G_l_value : FnOk l.prog w K mg base CX0 2 _ _ ["_law_box"] (sp_l_value K) := ok_l_value T3 B T1 G_l_take
  have G_l_first : FnOk l.prog w K mg base CX0 3 _ _ ["_law_box", "_law_places_here"] (sp_l_first K) := ok_l_first T4 B T3 G_l_value
  have G_l_second : FnOk l.prog w K mg base CX0 3 _ _ ["_law_box", "_law_book", "_law_places_here"] (sp_l_second K) := ok_l_second T5 B T1 G_l_take T3 G_l_value
  have G_l_choose : FnOk l.prog w K mg base CX0 2 _ _ ["_law_box", "_law_rows", "_law_count"] (sp_l_choose K) := ok_l_choose T6 B T1 G_l_take
  have G_l_wanted : FnOk l.prog w K mg base CX0 3 _ _ ["_law_box", "_law_book", "_law_places_here"] (sp_l_wanted K) := ok_l_wanted T7 B T6 G_l_choose T1 G_l_take T3 G_l_value
  have G_l_copy : FnOk l.prog w K mg base CX0 1 _ _ ["_law_book"] (sp_l_copy K) := ok_l_copy T8 B
  have G_l_unlike : FnOk l.prog w K mg base CX0 1 _ _ ["_law_base", "_law_book", "_law_places_here"] (sp_l_unlike K) := ok_l_unlike T9 B
  have G_ascending : FnOk l.prog w K mg base CX0 1 _ _ ["numbers"] (sp_ascending K) := ok_ascending T10 B
  have G_value_at : FnOk l.prog w K mg base CX0 1 _ _ ["book", "place"] (sp_value_at K) := ok_value_at T11 B
  have G_changes : FnOk l.prog w K mg base CX0 2 _ _ ["base", "book"] (sp_changes K) := ok_changes T12 B T10 G_ascending T11 G_value_at
  have G_l_is_book : FnOk l.prog w K mg base CX0 1 _ _ ["_law_told"] (sp_l_is_book K) := ok_l_is_book T13 B
  have G_cleaned : FnOk l.prog w K mg base CX0 1 _ _ ["book"] (sp_cleaned K) := ok_cleaned T14 B
  have G_with_writes : FnOk l.prog w K mg base CX0 2 _ _ ["book", "writes"] (sp_with_writes K) := ok_with_writes T15 B T14 G_cleaned
  have G_l_leads : FnOk l.prog w K mg base CX0 3 _ _ ["_law_base", "_law_book", "_law_places_here"] (sp_l_leads K) := ok_l_leads T16 B T8 G_l_copy T9 G_l_unlike T12 G_changes T13 G_l_is_book T15 G_with_writes
  have G_l_after : FnOk l.prog w K mg base CX0 1 _ _ ["_law_book", "_law_writes", "_law_places_here"] (sp_l_after K) := ok_l_after T17 B
  have G_l_writing : FnOk l.prog w K mg base CX0 3 _ _ ["_law_base", "_law_writes", "_law_places_here"] (sp_l_writing K) := ok_l_writing T18 B T8 G_l_copy T17 G_l_after T15 G_with_writes T13 G_l_is_book
  have G_l_choose_1 : FnOk l.prog w K mg base CX0 2 _ _ ["_law_box", "_law_rows", "_law_count"] (sp_l_choose_1 K) := ok_l_choose_1 T6 B T1 G_l_take
  have G_holds : FnOk l.prog w K mg base CX0 2 _ _ ["book", "marks"] (sp_holds K) := ok_holds T19 B T11 G_value_at
  have G_holds_1 : FnOk l.prog w K mg base CX0 2 _ _ ["book", "marks"] (sp_holds_1 K) := ok_holds_1 T19 B T11 G_value_at
  have G_l_holding : FnOk l.prog w K mg base CX0 3 _ _ ["_law_one", "_law_marks", "_law_due"] (sp_l_holding K) := ok_l_holding T20 B T19 G_holds T19 G_holds_1
  have G_l_telling : FnOk l.prog w K mg base CX0 4 _ _ ["_law_box", "_law_book", "_law_places_here"] (sp_l_telling K) := ok_l_telling T21 B T8 G_l_copy T11 G_value_at T6 G_l_choose_1 T20 G_l_holding T19 G_holds
  have G_l_large : FnOk l.prog w K mg base CX0 5 _ _ ["_law_box"] (sp_l_large K) := ok_l_large T22 B T1 G_l_take T4 G_l_first T5 G_l_second T16 G_l_leads T21 G_l_telling T6 G_l_choose
  have G_law : FnOk l.prog w K mg base CX0 6 _ _ ["_law_script"] (sp_law K) := ok_law T23 B T0 G_l_open T2 G_l_places T1 G_l_take T4 G_l_first T5 G_l_second T7 G_l_wanted T16 G_l_leads T18 G_l_writing T21 G_l_telling T22 G_l_large
  exact G_law
end Z
open PySem PySem.W PyProof.Rows
set_option maxRecDepth 100000 in
set_option maxHeartbeats 0 in
theorem PySem.Challenge.cw_forkedshelves_k01_changes_lead_back_holds : PySem.Challenge.rw_forkedshelves_k01_changes_lead_back.Holds := by
  w_on; o_law; k_head; (case hw => w_witness2)
  k_fill
  refine L2.walk_of (l := PySem.Challenge.rw_forkedshelves_k01_changes_lead_back) (n := 63) (k := 6) (x := "_law_script") (CX := fun _ => L2.CX0) (sp := fun w => Z.sp_law _) rfl (by decide) rfl ⟨rfl, by decide, by decide⟩ (fun w h Y => PySem.W.kIn_of Y) ?F (fun w H a ns hl _ hS => ⟨H, [], ns, _, true, rfl, ⟨fun _ _ e => e, fun _ z => (by cases z), List.nodup_nil⟩, ⟨a, rfl, hS⟩, Z.law_true ns hl, fun v _ _ _ _ r => r⟩) (fun _ _ _ _ _ h => h)
  case F =>
    intro w mg fa h KX G hmg
    refine' Z.all_mk KX G hmg ?a0 ?l0 ?c0 ?k0 ?a1 ?l1 ?c1 ?k1 ?a2 ?l2 ?c2 ?k2 ?a3 ?l3 ?c3 ?k3 ?a4 ?l4 ?c4 ?k4 ?a5 ?l5 ?c5 ?k5 ?a6 ?l6 ?c6 ?k6 ?a7 ?l7 ?c7 ?k7 ?a8 ?l8 ?c8 ?k8 ?a9 ?l9 ?c9 ?k9 ?a10 ?l10 ?c10 ?k10 ?a11 ?l11 ?c11 ?k11 ?a12 ?l12 ?c12 ?k12 ?a13 ?l13 ?c13 ?k13 ?a14 ?l14 ?c14 ?k14 ?a15 ?l15 ?c15 ?k15 ?a16 ?l16 ?c16 ?k16 ?a17 ?l17 ?c17 ?k17 ?a18 ?l18 ?c18 ?k18 ?a19 ?l19 ?c19 ?k19 ?a20 ?l20 ?c20 ?k20 ?a21 ?l21 ?c21 ?k21 ?a22 ?l22 ?c22 ?k22 ?a23 ?l23 ?c23 ?k23 ?z_all ?z_bool ?z_dict ?z_int ?z_isinstance ?z_len ?z_list ?z_max ?z_min ?z_range ?z_reversed ?z_set ?z_sorted ?z_tuple
    (case a0 => k_is); (case l0 => k_is); (case c0 => k_is); (case k0 => k_is); (case a1 => k_is); (case l1 => k_is)
    (case c1 => k_is); (case k1 => k_is); (case a2 => k_is); (case l2 => k_is); (case c2 => k_is); (case k2 => k_is)
    (case a3 => k_is); (case l3 => k_is); (case c3 => k_is); (case k3 => k_is); (case a4 => k_is); (case l4 => k_is)
    (case c4 => k_is); (case k4 => k_is); (case a5 => k_is); (case l5 => k_is); (case c5 => k_is); (case k5 => k_is)
    (case a6 => k_is); (case l6 => k_is); (case c6 => k_is); (case k6 => k_is); (case a7 => k_is); (case l7 => k_is)
    (case c7 => k_is); (case k7 => k_is); (case a8 => k_is); (case l8 => k_is); (case c8 => k_is); (case k8 => k_is)
    (case a9 => k_is); (case l9 => k_is); (case c9 => k_is); (case k9 => k_is); (case a10 => k_is); (case l10 => k_is)
    (case c10 => k_is); (case k10 => k_is); (case a11 => k_is); (case l11 => k_is); (case c11 => k_is); (case k11 => k_is)
    (case a12 => k_is); (case l12 => k_is); (case c12 => k_is); (case k12 => k_is); (case a13 => k_is); (case l13 => k_is)
    (case c13 => k_is); (case k13 => k_is); (case a14 => k_is); (case l14 => k_is); (case c14 => k_is); (case k14 => k_is)
    (case a15 => k_is); (case l15 => k_is); (case c15 => k_is); (case k15 => k_is); (case a16 => k_is); (case l16 => k_is)
    (case c16 => k_is); (case k16 => k_is); (case a17 => k_is); (case l17 => k_is); (case c17 => k_is); (case k17 => k_is)
    (case a18 => k_is); (case l18 => k_is); (case c18 => k_is); (case k18 => k_is); (case a19 => k_is); (case l19 => k_is)
    (case c19 => k_is); (case k19 => k_is); (case a20 => k_is); (case l20 => k_is); (case c20 => k_is); (case k20 => k_is)
    (case a21 => k_is); (case l21 => k_is); (case c21 => k_is); (case k21 => k_is); (case a22 => k_is); (case l22 => k_is)
    (case c22 => k_is); (case k22 => k_is); (case a23 => k_is); (case l23 => k_is); (case c23 => k_is); (case k23 => k_is)
    (case z_all => k_is); (case z_bool => k_is); (case z_dict => k_is); (case z_int => k_is); (case z_isinstance => k_is); (case z_len => k_is)
    (case z_list => k_is); (case z_max => k_is); (case z_min => k_is); (case z_range => k_is); (case z_reversed => k_is); (case z_set => k_is)
    (case z_sorted => k_is); (case z_tuple => k_is)
