import PyProof.Rows.All
import Wide.All
import OpenK.AllK
import Wide.FinOn
import HandS.ForMost
import HandS.IsInst
import HandS.Wide
import HandS.SetFor
import HandS.SortInts
import HandS.TryOnly
import HandS.Deep
import HandS.Strs
import PySem.Challenge.RW_forkedshelves_k10_least_cover_by_blocks
set_option Elab.async false
set_option linter.all false
set_option maxRecDepth 100000
set_option maxHeartbeats 4000000
/-! Z: typed triples over the hand layer: what is known and never changes (F), what is owned and may change (Os), what a value stands for. -/
namespace Z
open PySem PySem.Spec L2

/-! ### frozen and owned -/
/-- what an object is to hold, by what is frozen -/
structure OC where
  p : Hp → HO → Prop
  mono : ∀ {F F' : Hp} {o : HO}, Same F F' → p F o → p F' o
abbrev Owns := List (Addr × OC)
structure Wf (F : Hp) (Os : Owns) (H : Hp) : Prop where
  sub : Same F H
  own : ∀ p ∈ Os, F p.1 = none ∧ ∃ o, H p.1 = some o ∧ p.2.p F o
  nd : (Os.map (·.1)).Nodup

theorem same_upd {H : Hp} {p : Addr} {o : HO} (h : H p = none) : Same H (upd H p o) := fun b x e => by
  rw [upd_ne (ne_of_none e h)]
  exact e
theorem same_upd2 {F H : Hp} {p : Addr} {o : HO} (s : Same F H) (h : F p = none) : Same F (upd H p o) := fun b x e => by
  rw [upd_ne (ne_of_none e h)]
  exact s b x e
theorem same_updU {F H : Hp} {p : Addr} {o : HO} (s : Same F H) : Same (upd F p o) (upd H p o) := fun b x e => by
  by_cases hb : b = p
  · subst hb
    rw [upd_same] at e ⊢
    exact e
  · rw [upd_ne hb] at e ⊢
    exact s b x e
theorem same_updF {F H : Hp} {p : Addr} {o : HO} (s : Same F H) (h : H p = some o) : Same (upd F p o) H := fun b x e => by
  by_cases hb : b = p
  · subst hb
    rw [upd_same] at e
    rw [h]
    exact e
  · rw [upd_ne hb] at e
    exact s b x e
section
variable {F F' H : Hp} {Os : Owns} {p a : Addr} {o o' : HO} {O O' : OC} {i : Nat}
theorem Wf.notin (w : Wf F Os H) (hp : H p = none) : ∀ q ∈ Os, q.1 ≠ p := fun q hq e => by
  obtain ⟨_, o, h, _⟩ := w.own q hq
  rw [e, hp] at h
  cases h
/-- a new object that never changes -/
theorem Wf.froz (w : Wf F Os H) (hp : H p = none) : Wf (upd F p o) Os (upd H p o) where
  sub := same_updU w.sub
  own := fun q hq => by
    obtain ⟨h1, u, h2, h3⟩ := w.own q hq
    have n := w.notin hp q hq
    exact ⟨by rw [upd_ne n]; exact h1, u, by rw [upd_ne n]; exact h2, q.2.mono (same_upd (w.sub.free hp)) h3⟩
  nd := w.nd
theorem Wf.frozS (w : Wf F Os H) (hp : H p = none) : Same F (upd F p o) := same_upd (w.sub.free hp)
/-- a new object that is owned -/
theorem Wf.new (w : Wf F Os H) (hp : H p = none) (ho : O.p F o) : Wf F ((p, O) :: Os) (upd H p o) where
  sub := same_upd2 w.sub (w.sub.free hp)
  own := fun q hq => by
    rcases List.mem_cons.mp hq with rfl | hq
    · exact ⟨w.sub.free hp, o, upd_same, ho⟩
    · obtain ⟨h1, u, h2, h3⟩ := w.own q hq
      exact ⟨h1, u, by rw [upd_ne (w.notin hp q hq)]; exact h2, h3⟩
  nd := by
    rw [List.map_cons]
    refine List.nodup_cons.mpr ⟨fun m => ?_, w.nd⟩
    obtain ⟨q, hq, e⟩ := List.mem_map.mp m
    exact w.notin hp q hq e
theorem Wf.at (w : Wf F Os H) (hi : Os[i]? = some (a, O)) : F a = none ∧ ∃ o, H a = some o ∧ O.p F o := w.own (a, O) (List.mem_of_getElem? hi)
theorem nd_at {l : List Addr} (hN : l.Nodup) {i j : Nat} {x : Addr} (a : l[i]? = some x) (b : l[j]? = some x) : i = j := by
  obtain ⟨h1, e1⟩ := List.getElem?_eq_some_iff.mp a
  obtain ⟨h2, e2⟩ := List.getElem?_eq_some_iff.mp b
  exact (List.getElem_inj hN).mp (e1.trans e2.symm)
theorem Wf.ne (w : Wf F Os H) {i j : Nat} {q r : Addr × OC} (hi : Os[i]? = some q) (hj : Os[j]? = some r) (h : i ≠ j) : q.1 ≠ r.1 := fun e =>
  h (nd_at (x := r.1) w.nd (by rw [List.getElem?_map, hi, Option.map_some, e]) (by rw [List.getElem?_map, hj, Option.map_some]))
/-- an owned object changes -/
theorem Wf.set (w : Wf F Os H) (hi : Os[i]? = some (a, O)) (ho : O'.p F o') : Wf F (Os.set i (a, O')) (upd H a o') where
  sub := same_upd2 w.sub (w.at hi).1
  own := fun q hq => by
    obtain ⟨j, hj⟩ := List.mem_iff_getElem?.mp hq
    by_cases e : i = j
    · subst e
      rw [List.getElem?_set_self (List.getElem?_eq_some_iff.mp hi).1] at hj
      cases hj
      exact ⟨(w.at hi).1, o', upd_same, ho⟩
    · rw [List.getElem?_set_ne e] at hj
      obtain ⟨h1, u, h2, h3⟩ := w.own q (List.mem_of_getElem? hj)
      exact ⟨h1, u, by rw [upd_ne (w.ne hj hi (Ne.symm e))]; exact h2, h3⟩
  nd := by
    have e : (Os.set i (a, O')).map (·.1) = Os.map (·.1) := by
      rw [List.map_set]
      refine List.ext_getElem? fun j => ?_
      by_cases e : i = j
      · subst e
        have l := (List.getElem?_eq_some_iff.mp hi).1
        rw [List.getElem?_set_self (by rw [List.length_map]; exact l), List.getElem?_map, hi]
        rfl
      · rw [List.getElem?_set_ne e]
    rw [e]
    exact w.nd
theorem mem_eraseIdx_of {α : Type} {l : List α} {i : Nat} {x : α} (h : x ∈ l.eraseIdx i) : ∃ j, j ≠ i ∧ l[j]? = some x := by
  obtain ⟨j, hj⟩ := List.mem_iff_getElem?.mp h
  rw [List.getElem?_eraseIdx] at hj
  split at hj
  · exact ⟨j, by omega, hj⟩
  · exact ⟨j + 1, by omega, hj⟩
/-- an owned object is from now on never changed -/
theorem Wf.fz (w : Wf F Os H) (hi : Os[i]? = some (a, O)) : ∃ o, O.p (upd F a o) o ∧ Same F (upd F a o) ∧ Wf (upd F a o) (Os.eraseIdx i) H := by
  obtain ⟨h1, o, h2, h3⟩ := w.at hi
  have s : Same F (upd F a o) := same_upd h1
  refine ⟨o, O.mono s h3, s, same_updF w.sub h2, fun q hq => ?_, ?_⟩
  · obtain ⟨j, hj, e⟩ := mem_eraseIdx_of hq
    obtain ⟨k1, u, k2, k3⟩ := w.own q (List.mem_of_getElem? e)
    exact ⟨by rw [upd_ne (w.ne e hi hj)]; exact k1, u, k2, q.2.mono s k3⟩
  · refine List.Nodup.sublist ?_ w.nd
    exact List.Sublist.map _ (List.eraseIdx_sublist ..)
theorem Wf.ext (w : Wf F Os H) (h : ∀ q ∈ Os, q ∈ Os) : Wf F Os H := w
/-- an owned object is laid aside -/
theorem Wf.drop (w : Wf F Os H) : Wf F (Os.eraseIdx i) H := ⟨w.sub, fun q hq => by
  obtain ⟨j, _, e⟩ := mem_eraseIdx_of hq
  exact w.own q (List.mem_of_getElem? e), List.Nodup.sublist (List.Sublist.map _ (List.eraseIdx_sublist ..)) w.nd⟩
theorem Wf.tail {q : Addr × OC} (w : Wf F (q :: Os) H) : Wf F Os H := ⟨w.sub, fun r hr => w.own r (List.mem_cons_of_mem _ hr), (List.nodup_cons.mp w.nd).2⟩
theorem Wf.perm {Os' : Owns} (w : Wf F Os H) (h : Os.Perm Os') : Wf F Os' H := ⟨w.sub, fun q hq => w.own q (h.mem_iff.mpr hq), (h.map _).nodup_iff.mp w.nd⟩
end

theorem perm_pull {α : Type} : ∀ (l : List α) (i : Nat) (q : α), l[i]? = some q → l.Perm (q :: l.eraseIdx i)
  | [], _, _, h => by simp at h
  | a :: l, 0, q, h => by
    have e : a = q := Option.some.inj h
    subst e
    exact .refl _
  | a :: l, i + 1, q, h => (List.Perm.cons a (perm_pull l i q (by simpa using h))).trans (List.Perm.swap q a _)
theorem Wf.pull {F H : Hp} {Os : Owns} {i : Nat} {q : Addr × OC} (w : Wf F Os H) (hi : Os[i]? = some q) : Wf F (q :: Os.eraseIdx i) H := w.perm (perm_pull _ _ _ hi)
theorem perm_ins {α : Type} (q : α) : ∀ (i : Nat) (l : List α), i ≤ l.length → (q :: l).Perm (l.insertIdx i q)
  | 0, _, _ => .refl _
  | i + 1, [], h => absurd h (by simp)
  | i + 1, a :: l, h => (List.Perm.swap a q l).trans (List.Perm.cons a (perm_ins q i l (by simpa using h)))
theorem Wf.back {F H : Hp} {Os : Owns} {i : Nat} {q : Addr × OC} (w : Wf F (q :: Os) H) (h : i ≤ Os.length := by first | (simp; done) | exact Nat.zero_le _ | exact Nat.succ_le_succ (Nat.zero_le _) | exact Nat.succ_le_succ (Nat.succ_le_succ (Nat.zero_le _)) | exact Nat.succ_le_succ (Nat.succ_le_succ (Nat.succ_le_succ (Nat.zero_le _)))) : Wf F (Os.insertIdx i q) H := w.perm (perm_ins q i Os h)
theorem Wf.back2 {F H : Hp} {Os : Owns} {i : Nat} {q r : Addr × OC} (w : Wf F (r :: q :: Os) H) (h : i ≤ Os.length := by first | (simp; done) | exact Nat.zero_le _ | exact Nat.succ_le_succ (Nat.zero_le _) | exact Nat.succ_le_succ (Nat.succ_le_succ (Nat.zero_le _)) | exact Nat.succ_le_succ (Nat.succ_le_succ (Nat.succ_le_succ (Nat.zero_le _)))) : Wf F (r :: Os.insertIdx i q) H := w.perm (.cons r (perm_ins q i Os h))
theorem Wf.tail2 {F H : Hp} {Os : Owns} {q r : Addr × OC} (w : Wf F (r :: q :: Os) H) : Wf F (r :: Os) H := w.drop (i := 1)

/-- exactly this -/
def ocIs (o : HO) : OC := ⟨fun _ u => u = o, fun _ h => h⟩
/-- for a while the objects at S never change; nothing that is owned changes meanwhile -/
theorem Wf.tmpE {F H : Hp} {Os : Owns} (w : Wf F Os H) (S : List Addr) : ∃ G Ex, G = (fun b => if b ∈ S then H b else F b) ∧ Ex = ((Os.filter fun p => decide (p.1 ∉ S)).filterMap fun p => (H p.1).map fun o => (p.1, ocIs o)) ∧ Same F G ∧ Wf G Ex H ∧ (∀ a (O : OC), (a, O) ∈ Os → a ∈ S → ∃ o, G a = some o ∧ O.p G o) ∧ ∀ F2 H2, Same G F2 → Wf F2 Ex H2 → Wf F Os H2 := by
  have sG : Same F (fun b => if b ∈ S then H b else F b) := fun b o e => by
    show (if b ∈ S then H b else F b) = some o
    by_cases hb : b ∈ S
    · rw [if_pos hb]; exact w.sub b o e
    · rw [if_neg hb]; exact e
  refine ⟨fun b => if b ∈ S then H b else F b, (Os.filter fun p => decide (p.1 ∉ S)).filterMap fun p => (H p.1).map fun o => (p.1, ocIs o), rfl, rfl, sG, ⟨fun b o e => ?_, fun q hq => ?_, ?_⟩, fun a O hO hS => ?_, fun F2 H2 s2 w2 => ⟨fun b o e => ?_, fun q hq => ?_, w.nd⟩⟩
  · have e : (if b ∈ S then H b else F b) = some o := e
    by_cases hb : b ∈ S
    · rw [if_pos hb] at e; exact e
    · rw [if_neg hb] at e; exact w.sub b o e
  · obtain ⟨p, hp, e⟩ := List.mem_filterMap.mp hq
    obtain ⟨h1, h2⟩ := List.mem_filter.mp hp
    obtain ⟨h3, o, h4, h5⟩ := w.own p h1
    rw [h4] at e
    cases e
    have hn : p.1 ∉ S := of_decide_eq_true h2
    exact ⟨by show (if p.1 ∈ S then H p.1 else F p.1) = none; rw [if_neg hn]; exact h3, o, h4, rfl⟩
  · have : ∀ l : Owns, (∀ p ∈ l, ∃ o, H p.1 = some o) → (l.filterMap fun p => (H p.1).map fun o => ((p.1, ocIs o) : Addr × OC)).map (·.1) = l.map (·.1) := fun l => by
      induction l with
      | nil => intro _; rfl
      | cons p r ih =>
        intro hl
        obtain ⟨o, ho⟩ := hl p (List.mem_cons_self ..)
        rw [List.filterMap_cons, ho]
        show p.1 :: _ = p.1 :: _
        rw [ih fun q hq => hl q (List.mem_cons_of_mem _ hq)]
    rw [this _ fun p hp => by
      obtain ⟨_, o, h, _⟩ := w.own p (List.mem_filter.mp hp).1
      exact ⟨o, h⟩]
    exact List.Nodup.sublist (List.Sublist.map _ (List.filter_sublist ..)) w.nd
  · obtain ⟨h3, o, h4, h5⟩ := w.own _ hO
    exact ⟨o, by show (if a ∈ S then H a else F a) = some o; rw [if_pos hS]; exact h4, O.mono sG h5⟩
  · exact w2.sub _ _ (s2 _ _ (sG b o e))
  · obtain ⟨h3, o, h4, h5⟩ := w.own q hq
    refine ⟨h3, o, ?_, h5⟩
    by_cases hS : q.1 ∈ S
    · exact w2.sub _ _ (s2 _ _ (by show (if q.1 ∈ S then H q.1 else F q.1) = some o; rw [if_pos hS]; exact h4))
    · obtain ⟨_, u, h6, h7⟩ := w2.own (q.1, ocIs o) (List.mem_filterMap.mpr ⟨q, List.mem_filter.mpr ⟨hq, decide_eq_true hS⟩, by rw [h4]; rfl⟩)
      rw [show u = o from h7] at h6
      exact h6

theorem Wf.tmp {F H : Hp} {Os : Owns} (w : Wf F Os H) (S : List Addr) : ∃ G Ex, Same F G ∧ Wf G Ex H ∧ (∀ a (O : OC), (a, O) ∈ Os → a ∈ S → ∃ o, G a = some o ∧ O.p G o) ∧ ∀ F2 H2, Same G F2 → Wf F2 Ex H2 → Wf F Os H2 := by
  obtain ⟨G, Ex, _, _, h⟩ := w.tmpE S
  exact ⟨G, Ex, h⟩

/-! ### what a value stands for -/
structure Rep (α : Type) where
  r : Hp → V → α → Prop
  mono : ∀ {F F' : Hp} {v : V} {x : α}, Same F F' → r F v x → r F' v x
structure Vw (α : Type) where
  r : Hp → Owns → V → α → Prop
  mono : ∀ {F F' : Hp} {Os : Owns} {v : V} {x : α}, Same F F' → r F Os v x → r F' Os v x
def Rep.v {α : Type} (R : Rep α) : Vw α := ⟨fun F _ v x => R.r F v x, fun s h => R.mono s h⟩
def rInt : Rep Int := ⟨fun _ v x => v = .int x, fun _ h => h⟩
def rBool : Rep Bool := ⟨fun _ v x => v = .bl x, fun _ h => h⟩
def rStr : Rep Str := ⟨fun _ v x => v = .str x, fun _ h => h⟩
def rNone : Rep Unit := ⟨fun _ v _ => v = .non, fun _ h => h⟩
/-- the very value -/
def rIs (u : V) : Rep Unit := ⟨fun _ v _ => v = u, fun _ h => h⟩
def rOpt {α : Type} (R : Rep α) : Rep (Option α) := ⟨fun F v x => match x with
  | none => v = .non
  | some y => R.r F v y ∧ v ≠ .non, fun {F F' v x} s h => by
    cases x with
    | none => exact h
    | some y => exact ⟨R.mono s h.1, h.2⟩⟩
theorem paired_mono {α β : Type} {R R' : α → β → Prop} (h : ∀ a b, R a b → R' a b) : ∀ {xs : List α} {ys : List β}, Paired R xs ys → Paired R' xs ys
  | _, _, .nil => .nil
  | _, _, .cons a t => .cons (h _ _ a) (paired_mono h t)
/-- the script -/
def rScr (K : PySem.W.Frag) : Rep (List Int) := ⟨fun F v xs => ∃ a, v = .ref a ∧ SqL K F a (xs.map V.int), fun s ⟨a, e, h⟩ => ⟨a, e, Same.seq s h⟩⟩
/-- a list's content -/
def oList {α : Type} (R : Rep α) (xs : List α) : OC := ⟨fun F o => ∃ vs, o = .lst vs ∧ Paired (R.r F) vs xs, fun s ⟨vs, e, h⟩ => ⟨vs, e, paired_mono (fun _ _ q => R.mono s q) h⟩⟩
/-- an object that never changes -/
def rOf {α : Type} (O : α → OC) : Rep α := ⟨fun F v x => ∃ a o, v = .ref a ∧ F a = some o ∧ (O x).p F o, fun s ⟨a, o, e, h1, h2⟩ => ⟨a, o, e, s _ _ h1, (O _).mono s h2⟩⟩
/-- an object, frozen or owned -/
def vOf {α : Type} (O : α → OC) : Vw α := ⟨fun F Os v x => ∃ a, v = .ref a ∧ ((∃ o, F a = some o ∧ (O x).p F o) ∨ (a, O x) ∈ Os), fun s ⟨a, e, h⟩ => ⟨a, e, h.elim (fun ⟨o, h1, h2⟩ => .inl ⟨o, s _ _ h1, (O _).mono s h2⟩) .inr⟩⟩
abbrev rList {α : Type} (R : Rep α) : Rep (List α) := rOf (oList R)
abbrev vList {α : Type} (R : Rep α) : Vw (List α) := vOf (oList R)
theorem vOf.get {α : Type} {O : α → OC} {F H : Hp} {Os : Owns} {v : V} {x : α} (w : Wf F Os H) (h : (vOf O).r F Os v x) : ∃ a o, v = .ref a ∧ H a = some o ∧ (O x).p F o := by
  obtain ⟨a, e, h | h⟩ := h
  · obtain ⟨o, h1, h2⟩ := h
    exact ⟨a, o, e, w.sub _ _ h1, h2⟩
  · obtain ⟨_, o, h1, h2⟩ := w.own _ h
    exact ⟨a, o, e, h1, h2⟩
theorem vOf.of {α : Type} {O : α → OC} {F : Hp} {Os : Owns} {v : V} {x : α} (h : (rOf O).r F v x) : (vOf O).r F Os v x := by
  obtain ⟨a, o, e, h1, h2⟩ := h
  exact ⟨a, e, .inl ⟨o, h1, h2⟩⟩
theorem vOf.own {α : Type} {O : α → OC} {F : Hp} {Os : Owns} {a : Addr} {x : α} {i : Nat} (h : Os[i]? = some (a, O x)) : (vOf O).r F Os (.ref a) x := ⟨a, rfl, .inr (List.mem_of_getElem? h)⟩
/-- an owned object is from now on frozen -/
theorem fz_own {α : Type} {O : α → OC} {F H : Hp} {Os : Owns} {a : Addr} {x : α} {i : Nat} (w : Wf F Os H) (hi : Os[i]? = some (a, O x)) : ∃ F', Same F F' ∧ Wf F' (Os.eraseIdx i) H ∧ (rOf O).r F' (.ref a) x := by
  obtain ⟨o, h1, h2, h3⟩ := w.fz hi
  exact ⟨_, h2, h3, a, o, rfl, upd_same, h1⟩
/-- tuples -/
def rT2 {α β : Type} (R : Rep α) (S : Rep β) : Rep (α × β) := ⟨fun F v x => ∃ a u1 u2, v = .ref a ∧ F a = some (.tup [u1, u2]) ∧ R.r F u1 x.1 ∧ S.r F u2 x.2, fun s ⟨a, u1, u2, e, h, h1, h2⟩ => ⟨a, u1, u2, e, s _ _ h, R.mono s h1, S.mono s h2⟩⟩
def rT3 {α β γ : Type} (R : Rep α) (S : Rep β) (T : Rep γ) : Rep (α × β × γ) := ⟨fun F v x => ∃ a u1 u2 u3, v = .ref a ∧ F a = some (.tup [u1, u2, u3]) ∧ R.r F u1 x.1 ∧ S.r F u2 x.2.1 ∧ T.r F u3 x.2.2,
  fun s ⟨a, u1, u2, u3, e, h, h1, h2, h3⟩ => ⟨a, u1, u2, u3, e, s _ _ h, R.mono s h1, S.mono s h2, T.mono s h3⟩⟩
/-- a tuple of any length, its items alike -/
def rTup {α : Type} (R : Rep α) : Rep (List α) := ⟨fun F v xs => ∃ a vs, v = .ref a ∧ F a = some (.tup vs) ∧ Paired (R.r F) vs xs, fun s ⟨a, vs, e, h, h1⟩ => ⟨a, vs, e, s _ _ h, paired_mono (fun _ _ q => R.mono s q) h1⟩⟩
theorem paired_get {α β : Type} {R : α → β → Prop} : ∀ {xs : List α} {ys : List β} {i : Nat} {y : β}, Paired R xs ys → ys[i]? = some y → ∃ x, xs[i]? = some x ∧ R x y
  | _, _, _, _, .nil, e => by simp at e
  | _, _, 0, _, .cons r _, e => by simp at e; subst e; exact ⟨_, rfl, r⟩
  | _, _, i + 1, y, .cons _ t, e => by
    obtain ⟨u, h1, h2⟩ := paired_get (i := i) (y := y) t (by simpa using e)
    exact ⟨u, by simpa using h1, h2⟩
theorem paired_set {α β : Type} {R : α → β → Prop} {x : α} {y : β} (r : R x y) : ∀ {xs : List α} {ys : List β} (i : Nat), Paired R xs ys → Paired R (xs.set i x) (ys.set i y)
  | _, _, _, .nil => .nil
  | _, _, 0, .cons _ t => .cons r t
  | _, _, i + 1, .cons q t => .cons q (paired_set r i t)
theorem paired_append {α β : Type} {R : α → β → Prop} : ∀ {xs xs' : List α} {ys ys' : List β}, Paired R xs ys → Paired R xs' ys' → Paired R (xs ++ xs') (ys ++ ys')
  | _, _, _, _, .nil, s => s
  | _, _, _, _, .cons r t, s => .cons r (paired_append t s)

/-! ### the mirror's words -/
/-- a name is given a value -/
def lt {α β : Type} (x : α) (k : α → β) : β := k x
theorem lt_some {α β : Type} {x : α} {k : α → Option β} {r : β} (h : lt x k = some r) : ∃ y, y = x ∧ k y = some r := ⟨x, rfl, h⟩
def bd {α β : Type} (x : Option α) (k : α → Option β) : Option β := match x with
  | none => none
  | some y => k y
theorem bd_some {α β : Type} {x : Option α} {k : α → Option β} {r : β} (h : bd x k = some r) : ∃ y, x = some y ∧ k y = some r := by
  cases x with
  | none => cases h
  | some y => exact ⟨y, rfl, h⟩
theorem bd_eq {α β : Type} {y : α} {k : α → Option β} : bd (some y) k = k y := by
  generalize hx : some y = x
  cases x with
  | none => cases hx
  | some z =>
    cases hx
    rfl
theorem lt_eq {α β : Type} {x : α} {k : α → β} : lt x k = k x := by
  generalize hx : x = z
  cases hx
  rfl
/-- only where c holds -/
def gd {β : Type} (c : Prop) [Decidable c] (k : Option β) : Option β := if c then k else none
theorem gd_some {β : Type} {c : Prop} [Decidable c] {k : Option β} {r : β} (h : gd c k = some r) : c ∧ k = some r := by
  unfold gd at h
  by_cases hc : c
  · rw [if_pos hc] at h
    exact ⟨hc, h⟩
  · rw [if_neg hc] at h
    cases h
theorem if_some {β : Type} {b : Bool} {A B : Option β} {r : β} (h : (if b = true then A else B) = some r) : (b = true → A = some r) ∧ (b = false → B = some r) := by
  cases b with
  | true => exact ⟨fun _ => h, fun z => nomatch z⟩
  | false => exact ⟨(fun z => nomatch z), fun _ => h⟩
/-- the ways out of a block -/
inductive Fl (ρ σ : Type) where
  | nx (s : σ)
  | ret (r : ρ)
  | brk (s : σ)
def foldO {α σ : Type} (f : σ → α → Option σ) : σ → List α → Option σ
  | s, [] => some s
  | s, x :: r => bd (f s x) fun s' => foldO f s' r
def foldF {α ρ σ : Type} (f : σ → α → Option (Fl ρ σ)) : σ → List α → Option (Fl ρ σ)
  | s, [] => some (.nx s)
  | s, x :: r => bd (f s x) fun z => match z with
    | .nx s' => foldF f s' r
    | .ret v => some (.ret v)
    | .brk s' => some (.nx s')
theorem nn_of {α : Type} {O : α → OC} {x : α} : ∀ F v, (rOf O).r F v x → v ≠ .non := fun F v ⟨a, o, e, _⟩ h => by rw [e] at h; cases h
theorem nn_int {x : Int} : ∀ F v, rInt.r F v x → v ≠ .non := fun F v e h => by rw [show v = V.int x from e] at h; cases h
theorem nn_bool {x : Bool} : ∀ F v, rBool.r F v x → v ≠ .non := fun F v e h => by rw [show v = V.bl x from e] at h; cases h
theorem nn_str {x : Str} : ∀ F v, rStr.r F v x → v ≠ .non := fun F v e h => by rw [show v = V.str x from e] at h; cases h
theorem nn_t2 {α β : Type} {R : Rep α} {S : Rep β} {x : α × β} : ∀ F v, (rT2 R S).r F v x → v ≠ .non := fun F v ⟨a, _, _, e, _⟩ h => by rw [e] at h; cases h
theorem nn_t3 {α β γ : Type} {R : Rep α} {S : Rep β} {T : Rep γ} {x : α × β × γ} : ∀ F v, (rT3 R S T).r F v x → v ≠ .non := fun F v ⟨a, _, _, _, e, _⟩ h => by rw [e] at h; cases h
theorem nn_tup {α : Type} {R : Rep α} {x : List α} : ∀ F v, (rTup R).r F v x → v ≠ .non := fun F v ⟨a, _, e, _⟩ h => by rw [e] at h; cases h
/-- a turn's way out, then the turns that are left -/
def fstep {ρ σ : Type} (k : σ → Option (Fl ρ σ)) (z : Fl ρ σ) : Option (Fl ρ σ) := match z with
  | .nx s' => k s'
  | .ret v => some (.ret v)
  | .brk s' => some (.nx s')
def whF {ρ σ : Type} (f : σ → Option (Fl ρ σ)) : Nat → σ → Option (Fl ρ σ)
  | 0, _ => none
  | n + 1, s => bd (f s) (fstep (whF f n))
def flk {ρ σ β : Type} (z : Fl ρ σ) (kn : σ → β) (kr : ρ → β) : β := match z with
  | .nx s => kn s
  | .ret r => kr r
  | .brk s => kn s
theorem flk_ret {ρ σ β : Type} {r : ρ} {kn : σ → Option β} {kr : ρ → Option β} {y : β} (h : flk (.ret r) kn kr = some y) : kr r = some y := h
theorem flk_nx {ρ σ β : Type} {s : σ} {kn : σ → Option β} {kr : ρ → Option β} {y : β} (h : flk (.nx s) kn kr = some y) : kn s = some y := h
theorem foldO_some {α σ : Type} {f : σ → α → Option σ} {s z : σ} {x : α} {r : List α} (h : foldO f s (x :: r) = some z) : ∃ y, f s x = some y ∧ foldO f y r = some z := bd_some h
theorem foldO_nil {α σ : Type} {f : σ → α → Option σ} {s z : σ} (h : foldO f s [] = some z) : z = s := (Option.some.inj h).symm
theorem foldF_some {α ρ σ : Type} {f : σ → α → Option (Fl ρ σ)} {s : σ} {z : Fl ρ σ} {x : α} {r : List α} (h : foldF f s (x :: r) = some z) : ∃ y, f s x = some y ∧ fstep (fun s' => foldF f s' r) y = some z := by
  obtain ⟨y, h1, h2⟩ := bd_some h
  refine ⟨y, h1, ?_⟩
  cases y <;> exact h2
theorem foldF_nil {α ρ σ : Type} {f : σ → α → Option (Fl ρ σ)} {s : σ} {z : Fl ρ σ} (h : foldF f s [] = some z) : z = .nx s := (Option.some.inj h).symm
theorem whF_some {ρ σ : Type} {f : σ → Option (Fl ρ σ)} {n : Nat} {s : σ} {z : Fl ρ σ} (h : whF f n s = some z) : ∃ m y, n = m + 1 ∧ f s = some y ∧ fstep (whF f m) y = some z := by
  cases n with
  | zero => cases h
  | succ m =>
    obtain ⟨y, h1, h2⟩ := bd_some h
    exact ⟨m, y, rfl, h1, h2⟩
theorem pair_inj {α β : Type} {a c : α} {b d : β} (h : some (a, b) = some (c, d)) : a = c ∧ b = d := Prod.mk.inj (Option.some.inj h)
theorem pair_inj3 {α β γ : Type} {a c : α} {b d : β} {e f : γ} (h : some (a, b, e) = some (c, d, f)) : a = c ∧ b = d ∧ e = f := by
  cases h
  exact ⟨rfl, rfl, rfl⟩
/-- xs.append(x) -/
def app {α : Type} (xs : List α) (x : α) : Option (List α) := if xs.length < 16777216 then some (xs ++ [x]) else none
theorem app_some {α : Type} {xs ys : List α} {x : α} (h : app xs x = some ys) : xs.length < sizeLine ∧ ys = xs ++ [x] := by
  unfold app at h
  by_cases hc : xs.length < 16777216
  · rw [if_pos hc] at h
    exact ⟨by rw [sizeLine_eq]; exact hc, (Option.some.inj h).symm⟩
  · rw [if_neg hc] at h
    cases h
/-- xs + ys -/
def cat {α : Type} (xs ys : List α) : Option (List α) := if xs.length + ys.length ≤ 16777216 then some (xs ++ ys) else none
theorem cat_some {α : Type} {xs ys zs : List α} (h : cat xs ys = some zs) : xs.length + ys.length ≤ sizeLine ∧ zs = xs ++ ys := by
  unfold cat at h
  by_cases hc : xs.length + ys.length ≤ 16777216
  · rw [if_pos hc] at h
    exact ⟨by rw [sizeLine_eq]; exact hc, (Option.some.inj h).symm⟩
  · rw [if_neg hc] at h
    cases h
/-- xs[i] -/
def ix {α : Type} (xs : List α) (i : Int) : Option α := atI xs i
/-- xs[i] = x -/
def stI {α : Type} (xs : List α) (i : Int) (x : α) : Option (List α) := bd (ixN xs.length i) fun j => some (xs.set j x)
instance (i j : Int) : Decidable (CMul i j) := by unfold CMul; infer_instance
def mulO (i j : Int) : Option Int := if CMul i j then some (i * j) else none
theorem mulO_some {i j z : Int} (h : mulO i j = some z) : CMul i j ∧ z = i * j := by
  unfold mulO at h
  by_cases hc : CMul i j
  · rw [if_pos hc] at h
    exact ⟨hc, (Option.some.inj h).symm⟩
  · rw [if_neg hc] at h
    cases h
instance (i j : Int) : Decidable (CDivW i j) := by unfold CDivW; infer_instance
/-- i // j, 0 < j; i % j, 0 < j -/
def divO (i j : Int) : Option Int := if CDivW i j then some (i / j) else none
theorem divO_some {i j z : Int} (h : divO i j = some z) : CDivW i j ∧ z = i / j := by
  unfold divO at h
  by_cases hc : CDivW i j
  · rw [if_pos hc] at h
    exact ⟨hc, (Option.some.inj h).symm⟩
  · rw [if_neg hc] at h
    cases h
def modO (i j : Int) : Option Int := if 0 < j then some (i % j) else none
theorem modO_some {i j z : Int} (h : modO i j = some z) : 0 < j ∧ z = i % j := by
  unfold modO at h
  by_cases hc : 0 < j
  · rw [if_pos hc] at h
    exact ⟨hc, (Option.some.inj h).symm⟩
  · rw [if_neg hc] at h
    cases h
end Z

namespace Z
open PySem PySem.Spec L2
/-! ### what must hold so that code ends as wanted -/
section
variable {X : Cx} {e a b c : Expr} {pos : Pos} {σ : St} {H : Hp}
def We (X : Cx) (e : Expr) (σ : St) (H : Hp) (Q : VK) : Prop := ∀ pins s, Inv X pins σ H s → wpAny (model X.prog X.w) X.A (eval e X.env) (EP X pins σ Q) X.xe s
def Wt (X : Cx) (e : Expr) (σ : St) (H : Hp) (Q : Bool → Hp → Prop) : Prop := ∀ pins s, Inv X pins σ H s → wpAny (model X.prog X.w) X.A (isTrue e X.env (eval e X.env)) (TP X pins σ Q) X.xe s
def Wv (X : Cx) (e : Expr) (σ : St) (H : Hp) (Q : Bool → Hp → Prop) : Prop := ∀ whole pins s, Inv X pins σ H s → wpAny (model X.prog X.w) X.A (isTrue e X.env whole) (TP X pins σ Q) X.xe s
def Wa (X : Cx) (es : List Expr) (σ : St) (H : Hp) (Q : List V → Hp → Prop) : Prop := ∀ pos pins s, Inv X pins σ H s → wpAny (model X.prog X.w) X.A (spliced (backTo pos (starEach es X.env))) (AP X pins σ Q) X.xe s
def W1 (X : Cx) (st : Stmt) (D : Ends) (σ : St) (H : Hp) : Prop := ∀ pins s, Inv X pins σ H s → wpAny (model X.prog X.w) X.A (exec st X.env) (SP X pins D) X.xe s
def Ws (X : Cx) (sts : List Stmt) (D : Ends) (σ : St) (H : Hp) : Prop := ∀ pins s, Inv X pins σ H s → wpAny (model X.prog X.w) X.A (execs sts X.env) (SP X pins D) X.xe s
theorem pe_w : PE X e (We X e) := ⟨fun pins s _ _ _ I h => h pins s I⟩
theorem pt_w : PT X e (Wt X e) := ⟨fun pins s _ _ _ I h => h pins s I⟩
theorem pw_w : PW X e (Wv X e) := ⟨fun wh pins s _ _ _ I h => h wh pins s I⟩
theorem pa_w {es : List Expr} : PA X es (Wa X es) := ⟨fun pos pins s _ _ _ I h => h pos pins s I⟩
theorem ps_w {st : Stmt} : PS X st (W1 X st) := ⟨fun pins s _ _ _ I h => h pins s I⟩
theorem pss_w {sts : List Stmt} : PSs X sts (Ws X sts) := ⟨fun pins s _ _ _ I h => h pins s I⟩
theorem w_pe {t : TE} {Q : VK} (h : PE X e t) (q : t σ H Q) : We X e σ H Q := fun pins s I => h.run pins s σ H Q I q
theorem w_pt {t : TT} {Q : Bool → Hp → Prop} (h : PT X e t) (q : t σ H Q) : Wt X e σ H Q := fun pins s I => h.run pins s σ H Q I q
theorem w_pw {t : TT} {Q : Bool → Hp → Prop} (h : PW X e t) (q : t σ H Q) : Wv X e σ H Q := fun wh pins s I => h.run wh pins s σ H Q I q
theorem w_pa {es : List Expr} {t : TA} {Q : List V → Hp → Prop} (h : PA X es t) (q : t σ H Q) : Wa X es σ H Q := fun pos pins s I => h.run pos pins s σ H Q I q
theorem w_ps {st : Stmt} {t : TS} {D : Ends} (h : PS X st t) (q : t D σ H) : W1 X st D σ H := fun pins s I => h.run pins s σ H D I q
theorem w_pss {sts : List Stmt} {t : TS} {D : Ends} (h : PSs X sts t) (q : t D σ H) : Ws X sts D σ H := fun pins s I => h.run pins s σ H D I q
end

/-! ### triples: from a state that knows F and owns Os, e gives x -/
section
variable {α β γ : Type}
def Ev (X : Cx) (e : Expr) (σ : St) (F : Hp) (Os : Owns) (W : Vw α) (x : α) (Os' : Owns) : Prop :=
  ∀ F1 H, Same F F1 → Wf F1 Os H → ∀ Q : VK, (∀ v F' H', Same F1 F' → Wf F' Os' H' → W.r F' Os' v x → Q v H') → We X e σ H Q
/-- a new object, owned -/
def EvN (X : Cx) (e : Expr) (σ : St) (F : Hp) (Os : Owns) (O : OC) (Os' : Owns) : Prop :=
  ∀ F1 H, Same F F1 → Wf F1 Os H → ∀ Q : VK, (∀ p F' H', Same F1 F' → Wf F' ((p, O) :: Os') H' → Q (.ref p) H') → We X e σ H Q
def Et (X : Cx) (e : Expr) (σ : St) (F : Hp) (Os : Owns) (b : Bool) (Os' : Owns) : Prop :=
  ∀ F1 H, Same F F1 → Wf F1 Os H → ∀ Q : Bool → Hp → Prop, (∀ F' H', Same F1 F' → Wf F' Os' H' → Q b H') → Wt X e σ H Q
def Ew (X : Cx) (e : Expr) (σ : St) (F : Hp) (Os : Owns) (b : Bool) (Os' : Owns) : Prop :=
  ∀ F1 H, Same F F1 → Wf F1 Os H → ∀ Q : Bool → Hp → Prop, (∀ F' H', Same F1 F' → Wf F' Os' H' → Q b H') → Wv X e σ H Q
/-- arguments: what holds of their values -/
def Ea (X : Cx) (es : List Expr) (σ : St) (F : Hp) (Os : Owns) (P : Hp → Owns → List V → Prop) : Prop :=
  ∀ F1 H, Same F F1 → Wf F1 Os H → ∀ Q : List V → Hp → Prop, (∀ vs F' Os' H', Same F1 F' → Wf F' Os' H' → P F' Os' vs → Q vs H') → Wa X es σ H Q
/-- a comparison's answer by values -/
def Cp (X : Cx) (op : CmpOp) (W : Vw α) (U : Vw β) (f : α → β → Bool) : Prop :=
  ∃ r : R2, OpR X (compareOp op) r ∧ ∀ F Os H v u x y (Q : VK), Wf F Os H → W.r F Os v x → U.r F Os u y → Q (.bl (f x y)) H → r v u H Q
end
section
variable {α β γ : Type} {X : Cx} {e a b c : Expr} {pos : Pos} {σ : St} {F F' : Hp} {Os Os1 Os2 Os3 : Owns} {W : Vw α} {U : Vw β} {x x' : α} {y : β} {i j z : Int} {k k' l : Bool}
theorem Ev.go (h : Ev X e σ F Os W x Os1) {F1 H : Hp} (s : Same F F1) (w : Wf F1 Os H) {Q : VK} (k : ∀ v F' H', Same F1 F' → Wf F' Os1 H' → W.r F' Os1 v x → Q v H') : We X e σ H Q := h F1 H s w Q k
theorem EvN.go {O : OC} (h : EvN X e σ F Os O Os1) {F1 H : Hp} (s : Same F F1) (w : Wf F1 Os H) {Q : VK} (k : ∀ p F' H', Same F1 F' → Wf F' ((p, O) :: Os1) H' → Q (.ref p) H') : We X e σ H Q := h F1 H s w Q k
theorem Et.go (h : Et X e σ F Os k Os1) {F1 H : Hp} (s : Same F F1) (w : Wf F1 Os H) {Q : Bool → Hp → Prop} (q : ∀ F' H', Same F1 F' → Wf F' Os1 H' → Q k H') : Wt X e σ H Q := h F1 H s w Q q
theorem Ew.go (h : Ew X e σ F Os k Os1) {F1 H : Hp} (s : Same F F1) (w : Wf F1 Os H) {Q : Bool → Hp → Prop} (q : ∀ F' H', Same F1 F' → Wf F' Os1 H' → Q k H') : Wv X e σ H Q := h F1 H s w Q q
theorem Ea.go {es : List Expr} {P : Hp → Owns → List V → Prop} (h : Ea X es σ F Os P) {F1 H : Hp} (s : Same F F1) (w : Wf F1 Os H) {Q : List V → Hp → Prop} (k : ∀ vs F' Os' H', Same F1 F' → Wf F' Os' H' → P F' Os' vs → Q vs H') : Wa X es σ H Q := h F1 H s w Q k
theorem Ev.eq (h : Ev X e σ F Os W x Os1) (hx : x' = x) : Ev X e σ F Os W x' Os1 := hx ▸ h
theorem Ew.eq (h : Ew X e σ F Os k Os1) (hx : k' = k) : Ew X e σ F Os k' Os1 := hx ▸ h
theorem Et.eq (h : Et X e σ F Os k Os1) (hx : k' = k) : Et X e σ F Os k' Os1 := hx ▸ h
theorem Ev.up (h : Ev X e σ F Os W x Os1) (s : Same F F') : Ev X e σ F' Os W x Os1 := fun F1 H s1 => h F1 H (s.trans s1)
theorem Ev.vw {O : α → OC} (h : Ev X e σ F Os (rOf O).v x Os1) : Ev X e σ F Os (vOf O) x Os1 := fun F1 H s w Q q => h.go s w fun v F2 H2 s2 w2 r2 => q v F2 H2 s2 w2 (vOf.of r2)
theorem Ev.imp {U : Vw α} (h : Ev X e σ F Os W x Os1) (hi : ∀ F v, W.r F Os1 v x → U.r F Os1 v x) : Ev X e σ F Os U x Os1 := fun F1 H s w Q q => h.go s w fun v F2 H2 s2 w2 r2 => q v F2 H2 s2 w2 (hi _ _ r2)
/-- what is new may be frozen at once -/
theorem EvN.fz {O : α → OC} (h : EvN X e σ F Os (O x) Os1) : Ev X e σ F Os (rOf O).v x Os1 := fun F1 H s w Q q => h.go s w fun p F2 H2 s2 w2 => by
  obtain ⟨o, h1, h2, h3⟩ := w2.fz (i := 0) rfl
  exact q (.ref p) _ H2 (s2.trans h2) h3 ⟨p, o, rfl, upd_same, h1⟩
theorem EvN.eq {O O' : OC} (h : EvN X e σ F Os O Os1) (hx : O' = O) : EvN X e σ F Os O' Os1 := hx ▸ h
theorem EvN.eqO {O : α → OC} (h : EvN X e σ F Os (O x) Os1) (hx : x' = x) : EvN X e σ F Os (O x') Os1 := hx ▸ h
/-- a name in slot n -/
theorem ev_var {n : Nat} {nm : Str} {v : V} (hv : σ[n]? = some (some v)) (hr : W.r F Os v x) (hN : X.N[n]? = some nm := by rfl) (hV : Vis X.env.scope nm := by first | exact Or.inl rfl | exact Or.inr (Or.inl rfl) | exact Or.inr (Or.inr rfl)) (hd : (nm == ("__debug__" : Str)) = false := by decide)
    (hcd : (nm == ("__classdict__" : Str)) = false := by decide) : Ev X (.Name nm pos) σ F Os W x Os := fun F1 H s w Q q =>
  w_pe (pe_var hN hV hd hcd) ⟨v, hv, q v F1 H (Same.refl _) w (W.mono s hr)⟩
theorem ev_int {m : Nat} : Ev X (.Constant (.int i) m pos) σ F Os rInt.v i Os := fun F1 H s w Q q => w_pe pe_int (q _ F1 H (Same.refl _) w rfl)
theorem ev_bool {m : Nat} : Ev X (.Constant (.bool k) m pos) σ F Os rBool.v k Os := fun F1 H s w Q q => w_pe pe_bl (q _ F1 H (Same.refl _) w rfl)
theorem ev_str {m : Nat} {t : Str} : Ev X (.Constant (.str t) m pos) σ F Os rStr.v t Os := fun F1 H s w Q q => w_pe pe_str (q _ F1 H (Same.refl _) w rfl)
theorem ev_none {m : Nat} : Ev X (.Constant .none m pos) σ F Os rNone.v () Os := fun F1 H s w Q q => w_pe pe_non (q _ F1 H (Same.refl _) w rfl)
theorem ev_opt {R : Rep α} (h : Ev X e σ F Os R.v x Os1) (hn : ∀ F v, R.r F v x → v ≠ .non) : Ev X e σ F Os (rOpt R).v (some x) Os1 := fun F1 H s w Q q => h.go s w fun v F2 H2 s2 w2 r2 => q v F2 H2 s2 w2 ⟨r2, hn F2 v r2⟩
theorem ev_optN {R : Rep α} (h : Ev X e σ F Os rNone.v () Os1) : Ev X e σ F Os (rOpt R).v none Os1 := fun F1 H s w Q q => h.go s w fun v F2 H2 s2 w2 r2 => q v F2 H2 s2 w2 r2
/-! arithmetic -/
theorem ev_add (ha : Ev X a σ F Os rInt.v i Os1) (hb : Ev X b σ F Os1 rInt.v j Os2) : Ev X (.BinOp a .Add b pos) σ F Os rInt.v (i + j) Os2 := fun F1 H s w Q q =>
  w_pe (pe_op op_add pe_w pe_w) (ha.go s w fun v F2 H2 s2 w2 r2 => hb.go (s.trans s2) w2 fun u F3 H3 s3 w3 r3 => ⟨i, j, r2, r3, q _ F3 H3 (s2.trans s3) w3 rfl⟩)
theorem ev_sub (ha : Ev X a σ F Os rInt.v i Os1) (hb : Ev X b σ F Os1 rInt.v j Os2) : Ev X (.BinOp a .Sub b pos) σ F Os rInt.v (i - j) Os2 := fun F1 H s w Q q =>
  w_pe (pe_op op_sub pe_w pe_w) (ha.go s w fun v F2 H2 s2 w2 r2 => hb.go (s.trans s2) w2 fun u F3 H3 s3 w3 r3 => ⟨i, j, r2, r3, q _ F3 H3 (s2.trans s3) w3 rfl⟩)
theorem ev_mul (ha : Ev X a σ F Os rInt.v i Os1) (hb : Ev X b σ F Os1 rInt.v j Os2) (hc : CMul i j) : Ev X (.BinOp a .Mult b pos) σ F Os rInt.v (i * j) Os2 := fun F1 H s w Q q =>
  w_pe (pe_op op_mul pe_w pe_w) (ha.go s w fun v F2 H2 s2 w2 r2 => hb.go (s.trans s2) w2 fun u F3 H3 s3 w3 r3 => ⟨i, j, r2, r3, hc, q _ F3 H3 (s2.trans s3) w3 rfl⟩)
theorem ev_mulO (h : mulO i j = some z) (ha : Ev X a σ F Os rInt.v i Os1) (hb : Ev X b σ F Os1 rInt.v j Os2) : Ev X (.BinOp a .Mult b pos) σ F Os rInt.v z Os2 := (ev_mul ha hb (mulO_some h).1).eq (mulO_some h).2
theorem ev_div (ha : Ev X a σ F Os rInt.v i Os1) (hb : Ev X b σ F Os1 rInt.v j Os2) (hc : CDivW i j) : Ev X (.BinOp a .FloorDiv b pos) σ F Os rInt.v (i / j) Os2 := fun F1 H s w Q q =>
  w_pe (pe_op op_fdivW pe_w pe_w) (ha.go s w fun v F2 H2 s2 w2 r2 => hb.go (s.trans s2) w2 fun u F3 H3 s3 w3 r3 => ⟨i, j, r2, r3, hc, q _ F3 H3 (s2.trans s3) w3 rfl⟩)
theorem ev_divO (h : divO i j = some z) (ha : Ev X a σ F Os rInt.v i Os1) (hb : Ev X b σ F Os1 rInt.v j Os2) : Ev X (.BinOp a .FloorDiv b pos) σ F Os rInt.v z Os2 := (ev_div ha hb (divO_some h).1).eq (divO_some h).2
theorem ev_mod (ha : Ev X a σ F Os rInt.v i Os1) (hb : Ev X b σ F Os1 rInt.v j Os2) (hc : 0 < j) : Ev X (.BinOp a .Mod b pos) σ F Os rInt.v (i % j) Os2 := fun F1 H s w Q q =>
  w_pe (pe_op op_mod pe_w pe_w) (ha.go s w fun v F2 H2 s2 w2 r2 => hb.go (s.trans s2) w2 fun u F3 H3 s3 w3 r3 => ⟨i, j, r2, r3, hc, q _ F3 H3 (s2.trans s3) w3 rfl⟩)
theorem ev_modO (h : modO i j = some z) (ha : Ev X a σ F Os rInt.v i Os1) (hb : Ev X b σ F Os1 rInt.v j Os2) : Ev X (.BinOp a .Mod b pos) σ F Os rInt.v z Os2 := (ev_mod ha hb (modO_some h).1).eq (modO_some h).2
theorem ev_pow (ha : Ev X a σ F Os rInt.v i Os1) (hb : Ev X b σ F Os1 rInt.v j Os2) (hc : CPow i j) : Ev X (.BinOp a .Pow b pos) σ F Os rInt.v (i ^ j.toNat) Os2 := fun F1 H s w Q q =>
  w_pe (pe_op op_pow pe_w pe_w) (ha.go s w fun v F2 H2 s2 w2 r2 => hb.go (s.trans s2) w2 fun u F3 H3 s3 w3 r3 => ⟨i, j, r2, r3, hc, q _ F3 H3 (s2.trans s3) w3 rfl⟩)
theorem ev_neg (ha : Ev X a σ F Os rInt.v i Os1) : Ev X (.UnaryOp .USub a pos) σ F Os rInt.v (-i) Os1 := fun F1 H s w Q q =>
  w_pe (pe_un un_neg pe_w) (ha.go s w fun v F2 H2 s2 w2 r2 => ⟨i, r2, q _ F2 H2 s2 w2 rfl⟩)
/-! comparisons -/
theorem cp_lt : Cp X .Lt rInt.v rInt.v (fun i j => decide (i < j)) := ⟨_, op_lt, fun _ _ _ _ _ x y _ _ r1 r2 q => ⟨x, y, r1, r2, q⟩⟩
theorem cp_le : Cp X .LtE rInt.v rInt.v (fun i j => decide (i ≤ j)) := ⟨_, op_le, fun _ _ _ _ _ x y _ _ r1 r2 q => ⟨x, y, r1, r2, q⟩⟩
theorem cp_gt : Cp X .Gt rInt.v rInt.v (fun i j => decide (j < i)) := ⟨_, op_gt, fun _ _ _ _ _ x y _ _ r1 r2 q => ⟨x, y, r1, r2, q⟩⟩
theorem cp_ge : Cp X .GtE rInt.v rInt.v (fun i j => decide (j ≤ i)) := ⟨_, op_ge, fun _ _ _ _ _ x y _ _ r1 r2 q => ⟨x, y, r1, r2, q⟩⟩
theorem cp_eq : Cp X .Eq rInt.v rInt.v (fun i j => decide (i = j)) := ⟨_, op_eq, fun _ _ _ _ _ x y Q _ r1 r2 q => by
  cases (show _ = V.int x from r1); cases (show _ = V.int y from r2)
  refine ⟨rfl, ?_⟩
  rw [dec_int]
  have q : Q (V.bl (decide (x = y))) _ := q
  rwa [show decide (x = y) = (x == y) by rw [Bool.beq_eq_decide_eq]] at q⟩
theorem cp_ne : Cp X .NotEq rInt.v rInt.v (fun i j => decide (i ≠ j)) := ⟨_, op_ne, fun _ _ _ _ _ x y Q _ r1 r2 q => by
  cases (show _ = V.int x from r1); cases (show _ = V.int y from r2)
  refine ⟨rfl, ?_⟩
  rw [dec_int]
  have q : Q (V.bl (decide (x ≠ y))) _ := q
  rwa [show decide (x ≠ y) = !(x == y) by rw [Bool.beq_eq_decide_eq, decide_not]] at q⟩
/-- the left one of what never changes -/
theorem ev_cmp {op : CmpOp} {R : Rep α} {f : α → β → Bool} (hc : Cp X op R.v U f) (ha : Ev X a σ F Os R.v x Os1) (hb : Ev X b σ F Os1 U y Os2) (hm : behindInMarks op b = false := by exact nomark _) : Ev X (.Compare a [op] [b] pos) σ F Os rBool.v (f x y) Os2 := fun F1 H s w Q q => by
  obtain ⟨r, ho, hr⟩ := hc
  exact w_pe (pe_cmpR ho pe_w pe_w hm) (ha.go s w fun v F2 H2 s2 w2 r2 => hb.go (s.trans s2) w2 fun u F3 H3 s3 w3 r3 => hr F3 Os2 H3 v u x y Q w3 (R.mono s3 r2) r3 (q _ F3 H3 (s2.trans s3) w3 rfl))
theorem et_cmp {op : CmpOp} {R : Rep α} {f : α → β → Bool} (hc : Cp X op R.v U f) (ha : Ev X a σ F Os R.v x Os1) (hb : Ev X b σ F Os1 U y Os2) (hm : behindInMarks op b = false := by exact nomark _) : Et X (.Compare a [op] [b] pos) σ F Os (f x y) Os2 := fun F1 H s w Q q => by
  obtain ⟨r, ho, hr⟩ := hc
  exact w_pt (pt_cmpR ho pe_w pe_w hm) (ha.go s w fun v F2 H2 s2 w2 r2 => hb.go (s.trans s2) w2 fun u F3 H3 s3 w3 r3 => hr F3 Os2 H3 v u x y _ w3 (R.mono s3 r2) r3 ⟨_, rfl, q F3 H3 (s2.trans s3) w3⟩)
/-- the right one owns what it owned -/
theorem ev_cmpV {op : CmpOp} {f : α → β → Bool} (hc : Cp X op W U f) (ha : Ev X a σ F Os W x Os1) (hb : Ev X b σ F Os1 U y Os1) (hm : behindInMarks op b = false := by exact nomark _) : Ev X (.Compare a [op] [b] pos) σ F Os rBool.v (f x y) Os1 := fun F1 H s w Q q => by
  obtain ⟨r, ho, hr⟩ := hc
  exact w_pe (pe_cmpR ho pe_w pe_w hm) (ha.go s w fun v F2 H2 s2 w2 r2 => hb.go (s.trans s2) w2 fun u F3 H3 s3 w3 r3 => hr F3 Os1 H3 v u x y Q w3 (W.mono s3 r2) r3 (q _ F3 H3 (s2.trans s3) w3 rfl))
theorem et_cmpV {op : CmpOp} {f : α → β → Bool} (hc : Cp X op W U f) (ha : Ev X a σ F Os W x Os1) (hb : Ev X b σ F Os1 U y Os1) (hm : behindInMarks op b = false := by exact nomark _) : Et X (.Compare a [op] [b] pos) σ F Os (f x y) Os1 := fun F1 H s w Q q => by
  obtain ⟨r, ho, hr⟩ := hc
  exact w_pt (pt_cmpR ho pe_w pe_w hm) (ha.go s w fun v F2 H2 s2 w2 r2 => hb.go (s.trans s2) w2 fun u F3 H3 s3 w3 r3 => hr F3 Os1 H3 v u x y _ w3 (W.mono s3 r2) r3 ⟨_, rfl, q F3 H3 (s2.trans s3) w3⟩)
/-! tests -/
theorem et_val (h : Ev X e σ F Os rBool.v k Os1) (he : ∀ whole, isTrue e X.env whole = (do let v ← whole; standAt e.pos; holding [v] (truthy v)) := by intro _; rfl) : Et X e σ F Os k Os1 := fun F1 H s w Q q =>
  w_pt (pt_val pe_w he) (h.go s w fun v F2 H2 s2 w2 r2 => ⟨k, r2, q F2 H2 s2 w2⟩)
theorem et_not (h : Et X e σ F Os k Os1) : Et X (.UnaryOp .Not e pos) σ F Os (!k) Os1 := fun F1 H s w Q q =>
  w_pt (pt_not pt_w) (h.go s w fun F2 H2 s2 w2 => q F2 H2 s2 w2)
theorem ew_and1 (h : Et X a σ F Os k Os1) : Ew X (.BoolOp .And [a] pos) σ F Os k Os1 := fun F1 H s w Q q => w_pw (pw_and1 pt_w) (h F1 H s w _ q)
theorem ew_or1 (h : Et X a σ F Os k Os1) : Ew X (.BoolOp .Or [a] pos) σ F Os k Os1 := fun F1 H s w Q q => w_pw (pw_or1 pt_w) (h F1 H s w _ q)
/-- a and rest: rest is asked where a holds -/
theorem ew_andG {es : List Expr} (ha : Et X a σ F Os k Os1) (hb : k = true → Ew X (.BoolOp .And (b :: es) pos) σ F Os1 l Os1) (hf : k = false → l = false) : Ew X (.BoolOp .And (a :: b :: es) pos) σ F Os l Os1 := fun F1 H s w Q q =>
  w_pw (pw_and pt_w pw_w) (ha.go s w fun F2 H2 s2 w2 => by
    cases k with
    | true => exact (hb rfl).go (s.trans s2) w2 fun F3 H3 s3 w3 => q F3 H3 (s2.trans s3) w3
    | false =>
      cases hf rfl
      exact q F2 H2 s2 w2)
theorem ew_and {es : List Expr} (ha : Et X a σ F Os k Os1) (hb : Ew X (.BoolOp .And (b :: es) pos) σ F Os1 l Os1) : Ew X (.BoolOp .And (a :: b :: es) pos) σ F Os (k && l) Os1 := ew_andG ha (fun h => by subst h; exact hb) fun h => by subst h; rfl
theorem ew_orG {es : List Expr} (ha : Et X a σ F Os k Os1) (hb : k = false → Ew X (.BoolOp .Or (b :: es) pos) σ F Os1 l Os1) (hf : k = true → l = true) : Ew X (.BoolOp .Or (a :: b :: es) pos) σ F Os l Os1 := fun F1 H s w Q q =>
  w_pw (pw_or pt_w pw_w) (ha.go s w fun F2 H2 s2 w2 => by
    cases k with
    | false => exact (hb rfl).go (s.trans s2) w2 fun F3 H3 s3 w3 => q F3 H3 (s2.trans s3) w3
    | true =>
      cases hf rfl
      exact q F2 H2 s2 w2)
theorem ew_or {es : List Expr} (ha : Et X a σ F Os k Os1) (hb : Ew X (.BoolOp .Or (b :: es) pos) σ F Os1 l Os1) : Ew X (.BoolOp .Or (a :: b :: es) pos) σ F Os (k || l) Os1 := ew_orG ha (fun h => by subst h; exact hb) fun h => by subst h; rfl
theorem et_w (h : Ew X e σ F Os k Os1) : Et X e σ F Os k Os1 := fun F1 H s w Q q => w_pt (PW.pt pw_w) (h F1 H s w Q q)
/-! tests as values -/
theorem ev_not (h : Ev X e σ F Os rBool.v k Os1) : Ev X (.UnaryOp .Not e pos) σ F Os rBool.v (!k) Os1 := fun F1 H s w Q q =>
  w_pe (pe_not pe_w) (h.go s w fun v F2 H2 s2 w2 r2 => ⟨k, r2, q _ F2 H2 s2 w2 rfl⟩)
theorem ev_one {op} (h : Ev X a σ F Os W x Os1) : Ev X (.BoolOp op [a] pos) σ F Os W x Os1 := fun F1 H s w Q q => w_pe (pe_one pe_w) (h F1 H s w Q q)
theorem ev_andG {es : List Expr} (ha : Ev X a σ F Os rBool.v k Os1) (hb : k = true → Ev X (.BoolOp .And (b :: es) pos) σ F Os1 rBool.v l Os1) (hf : k = false → l = false) : Ev X (.BoolOp .And (a :: b :: es) pos) σ F Os rBool.v l Os1 := fun F1 H s w Q q =>
  w_pe (pe_and pe_w pe_w) (ha.go s w fun v F2 H2 s2 w2 r2 => ⟨k, r2, by
    cases k with
    | true => exact (hb rfl).go (s.trans s2) w2 fun v F3 H3 s3 w3 r3 => q v F3 H3 (s2.trans s3) w3 r3
    | false =>
      cases hf rfl
      exact q _ F2 H2 s2 w2 rfl⟩)
theorem ev_and {es : List Expr} (ha : Ev X a σ F Os rBool.v k Os1) (hb : Ev X (.BoolOp .And (b :: es) pos) σ F Os1 rBool.v l Os1) : Ev X (.BoolOp .And (a :: b :: es) pos) σ F Os rBool.v (k && l) Os1 := ev_andG ha (fun h => by subst h; exact hb) fun h => by subst h; rfl
theorem ev_orG {es : List Expr} (ha : Ev X a σ F Os rBool.v k Os1) (hb : k = false → Ev X (.BoolOp .Or (b :: es) pos) σ F Os1 rBool.v l Os1) (hf : k = true → l = true) : Ev X (.BoolOp .Or (a :: b :: es) pos) σ F Os rBool.v l Os1 := fun F1 H s w Q q =>
  w_pe (pe_or pe_w pe_w) (ha.go s w fun v F2 H2 s2 w2 r2 => ⟨k, r2, by
    cases k with
    | false => exact (hb rfl).go (s.trans s2) w2 fun v F3 H3 s3 w3 r3 => q v F3 H3 (s2.trans s3) w3 r3
    | true =>
      cases hf rfl
      exact q _ F2 H2 s2 w2 rfl⟩)
theorem ev_or {es : List Expr} (ha : Ev X a σ F Os rBool.v k Os1) (hb : Ev X (.BoolOp .Or (b :: es) pos) σ F Os1 rBool.v l Os1) : Ev X (.BoolOp .Or (a :: b :: es) pos) σ F Os rBool.v (k || l) Os1 := ev_orG ha (fun h => by subst h; exact hb) fun h => by subst h; rfl
theorem ev_ifG (hc : Et X c σ F Os k Os1) (ha : k = true → Ev X a σ F Os1 W x Os2) (hb : k = false → Ev X b σ F Os1 W x Os2) : Ev X (.IfExp c a b pos) σ F Os W x Os2 := fun F1 H s w Q q =>
  w_pe (pe_ifExp pt_w pe_w pe_w) (hc.go s w fun F2 H2 s2 w2 => by
    cases k with
    | true => exact (ha rfl).go (s.trans s2) w2 fun v F3 H3 s3 w3 r3 => q v F3 H3 (s2.trans s3) w3 r3
    | false => exact (hb rfl).go (s.trans s2) w2 fun v F3 H3 s3 w3 r3 => q v F3 H3 (s2.trans s3) w3 r3)
theorem ev_if (hc : Et X c σ F Os k Os1) (ha : Ev X a σ F Os1 W x Os2) (hb : Ev X b σ F Os1 W x' Os2) : Ev X (.IfExp c a b pos) σ F Os W (if k = true then x else x') Os2 :=
  ev_ifG hc (fun h => by subst h; exact ha) fun h => by subst h; exact hb
end
end Z

namespace Z
open PySem PySem.Spec L2
section
variable {α β γ : Type} {X : Cx} {e a b c it : Expr} {es : List Expr} {pos p1 p2 : Pos} {σ : St} {F F' H : Hp} {Os Os1 Os2 Os3 : Owns} {W : Vw α} {U : Vw β} {R : Rep α} {S : Rep β} {T : Rep γ} {x x' : α} {y : β} {z : γ} {i j : Int} {k k' l : Bool} {xs ys zs : List α} {D : Ends} {rest body : List Stmt} {n m : Nat} {nm : Str} {v : V}
/-! ### arguments -/
/-- no more arguments; owned are Os -/
def PN (Os : Owns) : Hp → Owns → List V → Prop := fun _ Os' vs => Os' = Os ∧ vs = []
def PC1 (R : Rep α) (x : α) (P : Hp → Owns → List V → Prop) : Hp → Owns → List V → Prop := fun F Os vs => ∃ v r, vs = v :: r ∧ R.r F v x ∧ P F Os r
/-- a new object, owned from here on -/
def PCN (P : Addr → Hp → Owns → List V → Prop) : Hp → Owns → List V → Prop := fun F Os vs => ∃ p r, vs = .ref p :: r ∧ P p F Os r
theorem ea_nil : Ea X [] σ F Os (PN Os) := fun F1 H s w Q q => w_pa pa_nil (q [] F1 Os H (Same.refl _) w ⟨rfl, rfl⟩)
theorem ea_cons {P : Hp → Owns → List V → Prop} (h : Ev X e σ F Os R.v x Os1) (hr : Ea X es σ F Os1 P) (hs : starEach (e :: es) X.env = (false, eval e X.env) :: starEach es X.env := by rfl) : Ea X (e :: es) σ F Os (PC1 R x P) := fun F1 H s w Q q =>
  w_pa (pa_cons pe_w pa_w hs) (h.go s w fun v F2 H2 s2 w2 r2 => hr.go (s.trans s2) w2 fun vs F3 Os3 H3 s3 w3 r3 => q (v :: vs) F3 Os3 H3 (s2.trans s3) w3 ⟨v, vs, rfl, R.mono s3 r2, r3⟩)
theorem ea_new {O : OC} {P : Addr → Hp → Owns → List V → Prop} (h : EvN X e σ F Os O Os1) (hr : ∀ p, Ea X es σ F ((p, O) :: Os1) (P p)) (hs : starEach (e :: es) X.env = (false, eval e X.env) :: starEach es X.env := by rfl) : Ea X (e :: es) σ F Os (PCN P) := fun F1 H s w Q q =>
  w_pa (pa_cons pe_w pa_w hs) (h.go s w fun p F2 H2 s2 w2 => (hr p).go (s.trans s2) w2 fun vs F3 Os3 H3 s3 w3 r3 => q (.ref p :: vs) F3 Os3 H3 (s2.trans s3) w3 ⟨p, vs, rfl, r3⟩)
/-! ### displays -/
theorem ev_tup2 {x1 : Nat} (ea : Ea X [a, b] σ F Os (PC1 R x (PC1 S y (PN Os2)))) : Ev X (.Tuple [a, b] x1 pos) σ F Os (rT2 R S).v (x, y) Os2 := fun F1 H s w Q q =>
  w_pe (pe_tup pa_w) (ea.go s w fun vs F2 Os' H2 s2 w2 ⟨v1, _, e1, r1, v2, _, e2, r2, e0, e3⟩ => by
    cases e1; cases e2; cases e3; cases e0
    refine ⟨(show 2 ≤ sizeLine by rw [sizeLine_eq]; decide), fun p hp => ?_⟩
    exact q _ _ _ (s2.trans (w2.frozS hp)) (w2.froz hp) ⟨p, v1, v2, rfl, upd_same, R.mono (w2.frozS hp) r1, S.mono (w2.frozS hp) r2⟩)
theorem ev_tup3 {x1 : Nat} (ea : Ea X [a, b, c] σ F Os (PC1 R x (PC1 S y (PC1 T z (PN Os2))))) : Ev X (.Tuple [a, b, c] x1 pos) σ F Os (rT3 R S T).v (x, y, z) Os2 := fun F1 H s w Q q =>
  w_pe (pe_tup pa_w) (ea.go s w fun vs F2 Os' H2 s2 w2 ⟨v1, _, e1, r1, v2, _, e2, r2, v3, _, e3, r3, e0, e4⟩ => by
    cases e1; cases e2; cases e3; cases e4; cases e0
    refine ⟨(show 3 ≤ sizeLine by rw [sizeLine_eq]; decide), fun p hp => ?_⟩
    exact q _ _ _ (s2.trans (w2.frozS hp)) (w2.froz hp) ⟨p, v1, v2, v3, rfl, upd_same, R.mono (w2.frozS hp) r1, S.mono (w2.frozS hp) r2, T.mono (w2.frozS hp) r3⟩)
/-- items alike -/
def PL (R : Rep α) (xs : List α) (Os : Owns) : Hp → Owns → List V → Prop := fun F Os' vs => Os' = Os ∧ Paired (R.r F) vs xs
theorem el_nil : Ea X [] σ F Os (PL R [] Os) := fun F1 H s w Q q => w_pa pa_nil (q [] F1 Os H (Same.refl _) w ⟨rfl, .nil⟩)
theorem el_cons (h : Ev X e σ F Os R.v x Os1) (hr : Ea X es σ F Os1 (PL R xs Os2)) (hs : starEach (e :: es) X.env = (false, eval e X.env) :: starEach es X.env := by rfl) : Ea X (e :: es) σ F Os (PL R (x :: xs) Os2) := fun F1 H s w Q q =>
  w_pa (pa_cons pe_w pa_w hs) (h.go s w fun v F2 H2 s2 w2 r2 => hr.go (s.trans s2) w2 fun vs F3 Os3 H3 s3 w3 r3 => q (v :: vs) F3 Os3 H3 (s2.trans s3) w3 ⟨r3.1, .cons (R.mono s3 r2) r3.2⟩)
theorem evn_list (h : Ea X es σ F Os (PL R xs Os1)) (hz : xs.length ≤ 16777216 := by exact (by decide : _ ≤ 16777216)) : EvN X (.List es pos) σ F Os (oList R xs) Os1 := fun F1 H s w Q q =>
  w_pe (pe_lst pa_w) (h.go s w fun vs F2 Os' H2 s2 w2 ⟨e0, r2⟩ => ⟨by rw [sizeLine_eq, r2.length]; exact hz, fun p hp => by
    cases e0
    exact q p F2 _ s2 (w2.new hp ⟨vs, rfl, r2⟩)⟩)
theorem ev_vtup {x1 : Nat} (h : Ea X es σ F Os (PL R xs Os1)) (hz : xs.length ≤ 16777216 := by exact (by decide : _ ≤ 16777216)) : Ev X (.Tuple es x1 pos) σ F Os (rTup R).v xs Os1 := fun F1 H s w Q q =>
  w_pe (pe_tup pa_w) (h.go s w fun vs F2 Os' H2 s2 w2 ⟨e0, r2⟩ => ⟨by rw [sizeLine_eq, r2.length]; exact hz, fun p hp => by
    cases e0
    exact q _ _ _ (s2.trans (w2.frozS hp)) (w2.froz hp) ⟨p, vs, rfl, upd_same, paired_mono (fun _ _ t => R.mono (w2.frozS hp) t) r2⟩⟩)
/-! ### items -/
theorem atI_paired {β : Type} {Q : V → β → Prop} {vs : List V} {ys : List β} {y : β} (h : Paired Q vs ys) (e : atI ys i = some y) : ∃ u, atI vs i = some u ∧ Q u y := by
  unfold atI at e ⊢
  rw [h.length]
  cases h1 : ixN ys.length i with
  | none => rw [h1] at e; cases e
  | some j =>
    rw [h1] at e
    exact paired_get h e
theorem ev_ixL (h : ix xs i = some x) (ha : Ev X a σ F Os (vList R) xs Os1) (hb : Ev X b σ F Os1 rInt.v i Os1) (hp : PlainIx b := by exact (fun _ _ => rfl)) : Ev X (.Subscript a b pos) σ F Os R.v x Os1 := fun F1 H s w Q q =>
  w_pe (pe_ix ix_list pe_w pe_w hp) (ha.go s w fun v F2 H2 s2 w2 r2 => hb.go (s.trans s2) w2 fun u F3 H3 s3 w3 r3 => by
    obtain ⟨p, o, e1, h1, vs, e2, h2⟩ := vOf.get w3 ((vOf (oList R)).mono s3 r2)
    cases e2
    obtain ⟨t, g1, g2⟩ := atI_paired h2 h
    exact ⟨p, vs, i, t, e1, r3, .of h1, g1, q t F3 H3 (s2.trans s3) w3 g2⟩)
theorem ev_ixV (h : ix xs i = some x) (ha : Ev X a σ F Os (rTup R).v xs Os1) (hb : Ev X b σ F Os1 rInt.v i Os2) (hp : PlainIx b := by exact (fun _ _ => rfl)) : Ev X (.Subscript a b pos) σ F Os R.v x Os2 := fun F1 H s w Q q =>
  w_pe (pe_ix ix_tup pe_w pe_w hp) (ha.go s w fun v F2 H2 s2 w2 r2 => hb.go (s.trans s2) w2 fun u F3 H3 s3 w3 r3 => by
    obtain ⟨p, vs, e1, h1, h2⟩ := (rTup R).mono s3 r2
    obtain ⟨t, g1, g2⟩ := atI_paired h2 h
    exact ⟨p, vs, i, t, e1, r3, .of (w3.sub _ _ h1), g1, q t F3 H3 (s2.trans s3) w3 g2⟩)
theorem ev_t2a {w2 : α × β} {d : Nat} {p3 : Pos} (ha : Ev X a σ F Os (rT2 R S).v w2 Os1) : Ev X (.Subscript a (.Constant (.int 0) d p3) pos) σ F Os R.v w2.1 Os1 := fun F1 H s w Q q =>
  w_pe (pe_ix ix_tup pe_w pe_int (fun _ _ => rfl)) (ha.go s w fun v F2 H2 s2 w2 r2 => by
    obtain ⟨p, u1, u2, e1, h1, h2, h3⟩ := r2
    exact ⟨p, _, 0, u1, e1, rfl, .of (w2.sub _ _ h1), rfl, q _ F2 H2 s2 w2 h2⟩)
theorem ev_t2b {w2 : α × β} {d : Nat} {p3 : Pos} (ha : Ev X a σ F Os (rT2 R S).v w2 Os1) : Ev X (.Subscript a (.Constant (.int 1) d p3) pos) σ F Os S.v w2.2 Os1 := fun F1 H s w Q q =>
  w_pe (pe_ix ix_tup pe_w pe_int (fun _ _ => rfl)) (ha.go s w fun v F2 H2 s2 w2 r2 => by
    obtain ⟨p, u1, u2, e1, h1, h2, h3⟩ := r2
    exact ⟨p, _, 1, u2, e1, rfl, .of (w2.sub _ _ h1), rfl, q _ F2 H2 s2 w2 h3⟩)
theorem ev_t3a {w2 : α × β × γ} {d : Nat} {p3 : Pos} (ha : Ev X a σ F Os (rT3 R S T).v w2 Os1) : Ev X (.Subscript a (.Constant (.int 0) d p3) pos) σ F Os R.v w2.1 Os1 := fun F1 H s w Q q =>
  w_pe (pe_ix ix_tup pe_w pe_int (fun _ _ => rfl)) (ha.go s w fun v F2 H2 s2 w2 r2 => by
    obtain ⟨p, u1, u2, u3, e1, h1, h2, h3, h4⟩ := r2
    exact ⟨p, _, 0, u1, e1, rfl, .of (w2.sub _ _ h1), rfl, q _ F2 H2 s2 w2 h2⟩)
theorem ev_t3b {w2 : α × β × γ} {d : Nat} {p3 : Pos} (ha : Ev X a σ F Os (rT3 R S T).v w2 Os1) : Ev X (.Subscript a (.Constant (.int 1) d p3) pos) σ F Os S.v w2.2.1 Os1 := fun F1 H s w Q q =>
  w_pe (pe_ix ix_tup pe_w pe_int (fun _ _ => rfl)) (ha.go s w fun v F2 H2 s2 w2 r2 => by
    obtain ⟨p, u1, u2, u3, e1, h1, h2, h3, h4⟩ := r2
    exact ⟨p, _, 1, u2, e1, rfl, .of (w2.sub _ _ h1), rfl, q _ F2 H2 s2 w2 h3⟩)
theorem ev_t3c {w2 : α × β × γ} {d : Nat} {p3 : Pos} (ha : Ev X a σ F Os (rT3 R S T).v w2 Os1) : Ev X (.Subscript a (.Constant (.int 2) d p3) pos) σ F Os T.v w2.2.2 Os1 := fun F1 H s w Q q =>
  w_pe (pe_ix ix_tup pe_w pe_int (fun _ _ => rfl)) (ha.go s w fun v F2 H2 s2 w2 r2 => by
    obtain ⟨p, u1, u2, u3, e1, h1, h2, h3, h4⟩ := r2
    exact ⟨p, _, 2, u3, e1, rfl, .of (w2.sub _ _ h1), rfl, q _ F2 H2 s2 w2 h4⟩)
theorem sqL_mono {K : PySem.W.Frag} {F H : Hp} {Os : Owns} {p : Addr} {vs : List V} (w : Wf F Os H) (h : SqL K F p vs) : SqL K H p vs := Same.seq w.sub h
theorem ev_ixS {xs : List Int} {x : Int} (h : ix xs i = some x) (ha : Ev X a σ F Os (rScr X.K).v xs Os1) (hb : Ev X b σ F Os1 rInt.v i Os2) (hp : PlainIx b := by exact (fun _ _ => rfl)) : Ev X (.Subscript a b pos) σ F Os rInt.v x Os2 := fun F1 H s w Q q =>
  w_pe (pe_ix ix_list pe_w pe_w hp) (ha.go s w fun v F2 H2 s2 w2 r2 => hb.go (s.trans s2) w2 fun u F3 H3 s3 w3 r3 => by
    obtain ⟨p, e1, h1⟩ := (rScr X.K).mono s3 r2
    refine ⟨p, xs.map V.int, i, .int x, e1, r3, sqL_mono w3 h1, ?_, q _ F3 H3 (s2.trans s3) w3 rfl⟩
    unfold ix atI at h
    unfold atI
    rw [List.length_map]
    cases hj : ixN xs.length i with
    | none => rw [hj] at h; cases h
    | some j =>
      rw [hj] at h
      show (xs.map V.int)[j]? = some (V.int x)
      rw [List.getElem?_map, show xs[j]? = some x from h]
      rfl)
theorem ev_t2tup {w2 : α × α} (h : Ev X e σ F Os (rT2 R R).v w2 Os1) : Ev X e σ F Os (rTup R).v [w2.1, w2.2] Os1 := fun F1 H s w Q q => h.go s w fun v F2 H2 s2 w2 r2 => q v F2 H2 s2 w2 (by
  obtain ⟨p, u1, u2, e1, h1, h2, h3⟩ := r2
  exact ⟨p, _, e1, h1, .cons h2 (.cons h3 .nil)⟩)
theorem ev_t3tup {w2 : α × α × α} (h : Ev X e σ F Os (rT3 R R R).v w2 Os1) : Ev X e σ F Os (rTup R).v [w2.1, w2.2.1, w2.2.2] Os1 := fun F1 H s w Q q => h.go s w fun v F2 H2 s2 w2 r2 => q v F2 H2 s2 w2 (by
  obtain ⟨p, u1, u2, u3, e1, h1, h2, h3, h4⟩ := r2
  exact ⟨p, _, e1, h1, .cons h2 (.cons h3 (.cons h4 .nil))⟩)
/-! ### lists joined -/
theorem evn_cat (h : cat xs ys = some zs) (ha : Ev X a σ F Os (rList R).v xs Os1) (hb : Ev X b σ F Os1 (rList R).v ys Os2) : EvN X (.BinOp a .Add b pos) σ F Os (oList R zs) Os2 := fun F1 H s w Q q =>
  w_pe (pe_op op_cat pe_w pe_w) (ha.go s w fun v F2 H2 s2 w2 r2 => hb.go (s.trans s2) w2 fun u F3 H3 s3 w3 r3 => by
    obtain ⟨h1, rfl⟩ := cat_some h
    obtain ⟨p, o, e1, g1, vs, e2, q1⟩ := (rList R).mono s3 r2
    obtain ⟨p', o', e1', g1', vs', e2', q1'⟩ := r3
    cases e2; cases e2'
    exact ⟨p, p', vs, vs', e1, e1', w3.sub _ _ g1, w3.sub _ _ g1', by rw [q1.length, q1'.length]; exact h1, fun pp hp => q pp F3 _ (s2.trans s3) (w3.new hp ⟨_, rfl, paired_append q1 q1'⟩)⟩)
theorem evn_catV (h : cat xs ys = some zs) (ha : Ev X a σ F Os (vList R) xs Os1) (hb : Ev X b σ F Os1 (vList R) ys Os1) : EvN X (.BinOp a .Add b pos) σ F Os (oList R zs) Os1 := fun F1 H s w Q q =>
  w_pe (pe_op op_cat pe_w pe_w) (ha.go s w fun v F2 H2 s2 w2 r2 => hb.go (s.trans s2) w2 fun u F3 H3 s3 w3 r3 => by
    obtain ⟨h1, rfl⟩ := cat_some h
    obtain ⟨p, o, e1, g1, vs, e2, q1⟩ := vOf.get w3 ((vOf (oList R)).mono s3 r2)
    obtain ⟨p', o', e1', g1', vs', e2', q1'⟩ := vOf.get w3 r3
    cases e2; cases e2'
    exact ⟨p, p', vs, vs', e1, e1', g1, g1', by rw [q1.length, q1'.length]; exact h1, fun pp hp => q pp F3 _ (s2.trans s3) (w3.new hp ⟨_, rfl, paired_append q1 q1'⟩)⟩)
/-! ### built-in functions of one argument -/
theorem ev_cb1 {id : String} {r : List V → Hp → VK → Prop} (hc : CallR X (.builtin id) r) (ha : Ev X a σ F Os W x Os1)
    (hr : ∀ F H v (Q : VK), Wf F Os1 H → W.r F Os1 v x → (∀ u F' H', Same F F' → Wf F' Os2 H' → U.r F' Os2 u y → Q u H') → r [v] H Q)
    (hg : Gl X nm) (hm : X.mg nm = none) (hv : bootBuiltins nm = some (.builtin id)) (hn : nm ≠ "__name__" := by decide) (hdb : (nm == ("__debug__" : Str)) = false := by decide)
    (he : starEach [a] X.env = (false, eval a X.env) :: starEach [] X.env := by rfl) (hpl : (backTo pos (starEach [] X.env)).any (·.1) = false := by rfl) : Ev X (.Call (.Name nm p1) [a] [] pos) σ F Os U y Os2 := fun F1 H s w Q q =>
  w_pe (pe_callB hc hg hm hv (pa_cons pe_w pa_nil he) hn hdb he hpl) (ha.go s w fun v F2 H2 s2 w2 r2 => hr F2 H2 v Q w2 r2 fun u F3 H3 s3 w3 r3 => q u F3 H3 (s2.trans s3) w3 r3)
theorem ev_ct1 {id : String} {r : List V → Hp → VK → Prop} (hc : CallR X (.type id) r) (ha : Ev X a σ F Os W x Os1)
    (hr : ∀ F H v (Q : VK), Wf F Os1 H → W.r F Os1 v x → (∀ u F' H', Same F F' → Wf F' Os2 H' → U.r F' Os2 u y → Q u H') → r [v] H Q)
    (hg : Gl X nm) (hm : X.mg nm = none) (hv : bootBuiltins nm = some (.type id)) (hn : nm ≠ "__name__" := by decide) (hdb : (nm == ("__debug__" : Str)) = false := by decide)
    (he : starEach [a] X.env = (false, eval a X.env) :: starEach [] X.env := by rfl) (hpl : (backTo pos (starEach [] X.env)).any (·.1) = false := by rfl) : Ev X (.Call (.Name nm p1) [a] [] pos) σ F Os U y Os2 := fun F1 H s w Q q =>
  w_pe (pe_callTy hc hg hm hv (pa_cons pe_w pa_nil he) hn hdb he hpl) (ha.go s w fun v F2 H2 s2 w2 r2 => hr F2 H2 v Q w2 r2 fun u F3 H3 s3 w3 r3 => q u F3 H3 (s2.trans s3) w3 r3)
theorem ev_len (ha : Ev X a σ F Os (vList R) xs Os1) (hm : X.mg "len" = none) (hg : Gl X "len" := by rfl) (he : starEach [a] X.env = (false, eval a X.env) :: starEach [] X.env := by rfl) (hpl : (backTo pos (starEach [] X.env)).any (·.1) = false := by rfl) : Ev X (.Call (.Name "len" p1) [a] [] pos) σ F Os rInt.v (xs.length : Int) Os1 :=
  ev_cb1 call_len_seq ha (fun F H v Q w r q => by
    obtain ⟨p, o, e1, h1, vs, e2, h2⟩ := vOf.get w r
    cases e1; cases e2
    exact ⟨p, vs, rfl, .inl (.of h1), by rw [h2.length]; exact q _ F H (Same.refl _) w rfl⟩) hg hm PySem.boot_len (by decide) (by decide) he hpl
theorem ev_lenS {xs : List Int} (ha : Ev X a σ F Os (rScr X.K).v xs Os1) (hm : X.mg "len" = none) (hg : Gl X "len" := by rfl) (he : starEach [a] X.env = (false, eval a X.env) :: starEach [] X.env := by rfl) (hpl : (backTo pos (starEach [] X.env)).any (·.1) = false := by rfl) : Ev X (.Call (.Name "len" p1) [a] [] pos) σ F Os rInt.v (xs.length : Int) Os1 :=
  ev_cb1 call_len_seq ha (fun F H v Q w r q => by
    obtain ⟨p, e1, h1⟩ := r
    cases e1
    exact ⟨p, xs.map V.int, rfl, .inl (sqL_mono w h1), by rw [List.length_map]; exact q _ F H (Same.refl _) w rfl⟩) hg hm PySem.boot_len (by decide) (by decide) he hpl
theorem ev_lenT (ha : Ev X a σ F Os (rTup R).v xs Os1) (hm : X.mg "len" = none) (hg : Gl X "len" := by rfl) (he : starEach [a] X.env = (false, eval a X.env) :: starEach [] X.env := by rfl) (hpl : (backTo pos (starEach [] X.env)).any (·.1) = false := by rfl) : Ev X (.Call (.Name "len" p1) [a] [] pos) σ F Os rInt.v (xs.length : Int) Os1 :=
  ev_cb1 call_len_seq ha (fun F H v Q w r q => by
    obtain ⟨p, vs, e1, h1, h2⟩ := r
    cases e1
    exact ⟨p, vs, rfl, .inr (.of (w.sub _ _ h1)), by rw [h2.length]; exact q _ F H (Same.refl _) w rfl⟩) hg hm PySem.boot_len (by decide) (by decide) he hpl
theorem ev_lenT2 {w2 : α × β} (ha : Ev X a σ F Os (rT2 R S).v w2 Os1) (hm : X.mg "len" = none) (hg : Gl X "len" := by rfl) (he : starEach [a] X.env = (false, eval a X.env) :: starEach [] X.env := by rfl) (hpl : (backTo pos (starEach [] X.env)).any (·.1) = false := by rfl) : Ev X (.Call (.Name "len" p1) [a] [] pos) σ F Os rInt.v 2 Os1 :=
  ev_cb1 call_len_seq ha (fun F H v Q w r q => by
    obtain ⟨p, u1, u2, e1, h1, h2⟩ := r
    cases e1
    exact ⟨p, _, rfl, .inr (.of (w.sub _ _ h1)), q _ F H (Same.refl _) w rfl⟩) hg hm PySem.boot_len (by decide) (by decide) he hpl
theorem ev_intI (ha : Ev X a σ F Os rInt.v i Os1) (hm : X.mg "int" = none) (hg : Gl X "int" := by rfl) (he : starEach [a] X.env = (false, eval a X.env) :: starEach [] X.env := by rfl) (hpl : (backTo pos (starEach [] X.env)).any (·.1) = false := by rfl) : Ev X (.Call (.Name "int" p1) [a] [] pos) σ F Os rInt.v i Os1 :=
  ev_ct1 call_int1 ha (fun F H v Q w r q => .inl ⟨i, by rw [show v = V.int i from r], q _ F H (Same.refl _) w rfl⟩) hg hm (by decide +kernel) (by decide) (by decide) he hpl
theorem ev_intB (ha : Ev X a σ F Os rBool.v k Os1) (hm : X.mg "int" = none) (hg : Gl X "int" := by rfl) (he : starEach [a] X.env = (false, eval a X.env) :: starEach [] X.env := by rfl) (hpl : (backTo pos (starEach [] X.env)).any (·.1) = false := by rfl) : Ev X (.Call (.Name "int" p1) [a] [] pos) σ F Os rInt.v (if k = true then 1 else 0) Os1 :=
  ev_ct1 call_int1 ha (fun F H v Q w r q => .inr ⟨k, by rw [show v = V.bl k from r], q _ F H (Same.refl _) w rfl⟩) hg hm (by decide +kernel) (by decide) (by decide) he hpl
/-! ### isinstance with a built-in class -/
def TyI (W : Vw α) (x : α) (t : String) : Prop := ∀ (K : PySem.W.Frag) F Os H v, Wf F Os H → W.r F Os v x → TyX K H v (.type t)
theorem ty_int : TyI rInt.v i "int" := fun K F Os H v w r => by
  cases (show v = V.int i from r)
  exact .base (.int i)
theorem ty_bool : TyI rBool.v k "bool" := fun K F Os H v w r => by
  cases (show v = V.bl k from r)
  exact .base (.bl k)
theorem ty_str {t : Str} : TyI rStr.v t "str" := fun K F Os H v w r => by
  cases (show v = V.str t from r)
  exact .base (.str t)
theorem ty_list : TyI (vList R) xs "list" := fun K F Os H v w r => by
  obtain ⟨p, o, e1, h1, vs, e2, h2⟩ := vOf.get w r
  cases e1; cases e2
  exact .base (.lst h1)
theorem ty_tup : TyI (rTup R).v xs "tuple" := fun K F Os H v w r => by
  obtain ⟨p, vs, e1, h1, h2⟩ := r
  cases e1
  exact .base (.tup (w.sub _ _ h1))
theorem ty_t2 {w2 : α × β} : TyI (rT2 R S).v w2 "tuple" := fun K F Os H v w r => by
  obtain ⟨p, u1, u2, e1, h1, h2⟩ := r
  cases e1
  exact .base (.tup (w.sub _ _ h1))
theorem ty_t3 {w2 : α × β × γ} : TyI (rT3 R S T).v w2 "tuple" := fun K F Os H v w r => by
  obtain ⟨p, u1, u2, u3, e1, h1, h2⟩ := r
  cases e1
  exact .base (.tup (w.sub _ _ h1))
theorem ev_isi {t u : String} {tn : Str} (hk : kitB t u = some k) (ht : TyI W x t) (ha : Ev X a σ F Os W x Os1) (hm : X.mg "isinstance" = none) (hm2 : X.mg tn = none) (hv2 : bootBuiltins tn = some (.type u)) (hg : Gl X "isinstance" := by rfl) (hg2 : Gl X tn := by rfl) (hn : tn ≠ "__name__" := by decide) (hd : (tn == ("__debug__" : Str)) = false := by decide)
    (he : starEach [a, .Name tn p2] X.env = (false, eval a X.env) :: starEach [.Name tn p2] X.env := by rfl) (he2 : starEach [.Name tn p2] X.env = (false, eval (.Name tn p2) X.env) :: starEach [] X.env := by rfl) (hpl : (backTo pos (starEach [.Name tn p2] X.env)).any (·.1) = false := by rfl) :
    Ev X (.Call (.Name "isinstance" p1) [a, .Name tn p2] [] pos) σ F Os rBool.v k Os1 := fun F1 H s w Q q =>
  w_pe (pe_callB call_isi hg hm (by decide +kernel) (pa_cons pe_w (pa_cons (pe_bltn (v := .ty u) hg2 hm2 hv2 rfl hn hd) pa_nil he2) he) (by decide) (by decide) he hpl)
    (ha.go s w fun v F2 H2 s2 w2 r2 => ⟨v, .ty u, .type t, .type u, k, rfl, .ty u, ht X.K F2 Os1 H2 v w2 r2, kit_ty hk, q _ F2 H2 s2 w2 rfl⟩)

/-! ### calls of the program's own defs -/
theorem ev_call {sp : Sp} {CX : CXT} {kk : Nat} {f : Addr} {fd : FuncData} {ps : List Str} {P : Hp → Owns → List V → Prop} (G : FnOk X.prog X.w X.K X.mg X.base CX kk f fd ps sp) (hr : Room kk X.A) (hm : X.mg nm = some (.ref f)) (hk : PySem.W.keepIn X.K (.ref f) = true) (hb : Binds X.K fd ps []) (hx : Passes CX X E0)
    (ha : Ea X (e :: es) σ F Os P) (h : ∀ F' Os' H' vs (Q : VK), Wf F' Os' H' → P F' Os' vs → (∀ u F2 H2, Same F' F2 → Wf F2 Os2 H2 → U.r F2 Os2 u y → Q u H2) → sp vs H' Q E0)
    (hg : Gl X nm := by rfl) (hdb : (nm == ("__debug__" : Str)) = false := by decide) (he : starEach (e :: es) X.env = (false, eval e X.env) :: starEach es X.env := by rfl) (hpl : (backTo pos (starEach es X.env)).any (·.1) = false := by rfl) :
    Ev X (.Call (.Name nm p1) (e :: es) [] pos) σ F Os U y Os2 := fun F1 H s w Q q =>
  w_pe (pe_call G hr hg hm hk hb .nil hx pa_w hdb he hpl) (ha.go s w fun vs F2 Os' H2 s2 w2 r2 => by
    rw [List.append_nil]
    exact h F2 Os' H2 vs Q w2 r2 fun u F3 H3 s3 w3 r3 => q u F3 H3 (s2.trans s3) w3 r3)
theorem evn_call {sp : Sp} {CX : CXT} {kk : Nat} {f : Addr} {fd : FuncData} {ps : List Str} {P : Hp → Owns → List V → Prop} {O : OC} (G : FnOk X.prog X.w X.K X.mg X.base CX kk f fd ps sp) (hr : Room kk X.A) (hm : X.mg nm = some (.ref f)) (hk : PySem.W.keepIn X.K (.ref f) = true) (hb : Binds X.K fd ps []) (hx : Passes CX X E0)
    (ha : Ea X (e :: es) σ F Os P) (h : ∀ F' Os' H' vs (Q : VK), Wf F' Os' H' → P F' Os' vs → (∀ p F2 H2, Same F' F2 → Wf F2 ((p, O) :: Os2) H2 → Q (.ref p) H2) → sp vs H' Q E0)
    (hg : Gl X nm := by rfl) (hdb : (nm == ("__debug__" : Str)) = false := by decide) (he : starEach (e :: es) X.env = (false, eval e X.env) :: starEach es X.env := by rfl) (hpl : (backTo pos (starEach es X.env)).any (·.1) = false := by rfl) :
    EvN X (.Call (.Name nm p1) (e :: es) [] pos) σ F Os O Os2 := fun F1 H s w Q q =>
  w_pe (pe_call G hr hg hm hk hb .nil hx pa_w hdb he hpl) (ha.go s w fun vs F2 Os' H2 s2 w2 r2 => by
    rw [List.append_nil]
    exact h F2 Os' H2 vs Q w2 r2 fun u F3 H3 s3 w3 => q u F3 H3 (s2.trans s3) w3)
end
end Z

namespace Z
open PySem PySem.Spec L2
section
variable {α β γ : Type} {X : Cx} {e a b c it : Expr} {es : List Expr} {pos p1 p2 p3 : Pos} {σ : St} {F F' H : Hp} {Os Os1 Os2 Os3 : Owns} {W : Vw α} {U : Vw β} {R : Rep α} {S : Rep β} {x x' : α} {y : β} {i j : Int} {k k' l : Bool} {xs ys zs : List α} {D : Ends} {rest body A B : List Stmt} {n m : Nat} {nm : Str} {v : V} {O : OC}
/-! ### blocks -/
theorem ws_nil (h : D.nx σ H) : Ws X [] D σ H := w_pss pss_nil h
theorem ws_cons {st : Stmt} (h : W1 X st { D with nx := Ws X rest D } σ H) : Ws X (st :: rest) D σ H := w_pss (pss_cons ps_w pss_w) h
abbrev Loc1 (X : Cx) (nm : Str) : Prop := Loc X.env.scope nm
theorem ws_set (w : Wf F Os H) (he : Ev X e σ F Os W x Os1) (hN : X.N.Nodup) (k : ∀ v F1 H1, Same F F1 → Wf F1 Os1 H1 → W.r F1 Os1 v x → Ws X rest D (σ.set n (some v)) H1)
    (hi : X.N[n]? = some nm := by rfl) (hx : Loc X.env.scope nm := by first | exact Or.inl rfl | exact Or.inr rfl) (hs : swapsWith e (some (.Name nm p1)) pos.line X.env = pure false := by rfl) (hf : X.fn nm = true ∨ X.env.scope.names.lookup nm = some .local := by first | exact .inl rfl | exact .inr rfl) :
    Ws X (.Assign [.Name nm p1] e pos :: rest) D σ H :=
  ws_cons (w_ps (ps_set hN hi hx pe_w hs hf) (he.go (Same.refl _) w fun v F1 H1 s1 w1 r1 => k v F1 H1 s1 w1 r1))
theorem ws_setN (w : Wf F Os H) (he : EvN X e σ F Os O Os1) (hN : X.N.Nodup) (k : ∀ p F1 H1, Same F F1 → Wf F1 ((p, O) :: Os1) H1 → Ws X rest D (σ.set n (some (.ref p))) H1)
    (hi : X.N[n]? = some nm := by rfl) (hx : Loc X.env.scope nm := by first | exact Or.inl rfl | exact Or.inr rfl) (hs : swapsWith e (some (.Name nm p1)) pos.line X.env = pure false := by rfl) (hf : X.fn nm = true ∨ X.env.scope.names.lookup nm = some .local := by first | exact .inl rfl | exact .inr rfl) :
    Ws X (.Assign [.Name nm p1] e pos :: rest) D σ H :=
  ws_cons (w_ps (ps_set hN hi hx pe_w hs hf) (he.go (Same.refl _) w fun v F1 H1 s1 w1 => k v F1 H1 s1 w1))
theorem ws_ret (w : Wf F Os H) (he : Ev X e σ F Os W x Os1) (k : ∀ v F1 H1, Same F F1 → Wf F1 Os1 H1 → W.r F1 Os1 v x → D.rt v H1) : Ws X (.Return (some e) pos :: rest) D σ H :=
  ws_cons (w_ps (ps_ret pe_w) (he.go (Same.refl _) w fun v F1 H1 s1 w1 r1 => k v F1 H1 s1 w1 r1))
theorem ws_retN (w : Wf F Os H) (he : EvN X e σ F Os O Os1) (k : ∀ p F1 H1, Same F F1 → Wf F1 ((p, O) :: Os1) H1 → D.rt (.ref p) H1) : Ws X (.Return (some e) pos :: rest) D σ H :=
  ws_cons (w_ps (ps_ret pe_w) (he.go (Same.refl _) w fun v F1 H1 s1 w1 => k v F1 H1 s1 w1))
theorem ws_ret0 (h : D.rt .non H) : Ws X (.Return none pos :: rest) D σ H := ws_cons (w_ps ps_retN h)
theorem ws_pass (h : Ws X rest D σ H) : Ws X (.Pass pos :: rest) D σ H := ws_cons (w_ps ps_pass h)
theorem ws_brk (h : D.bk σ H) : Ws X (.Break pos :: rest) D σ H := ws_cons (w_ps ps_break h)
theorem ws_cont (h : D.ct σ H) : Ws X (.Continue pos :: rest) D σ H := ws_cons (w_ps ps_continue h)
theorem ws_if (w : Wf F Os H) (hc : Et X c σ F Os k Os1) (h1 : k = true → ∀ F1 H1, Same F F1 → Wf F1 Os1 H1 → Ws X A { D with nx := Ws X rest D } σ H1) (h2 : k = false → ∀ F1 H1, Same F F1 → Wf F1 Os1 H1 → Ws X B { D with nx := Ws X rest D } σ H1) :
    Ws X (.If c A B pos :: rest) D σ H :=
  ws_cons (w_ps (ps_if pt_w pss_w pss_w) (hc.go (Same.refl _) w fun F1 H1 s1 w1 => by
    cases k with
    | true => exact iteT (h1 rfl F1 H1 s1 w1)
    | false => exact iteF (h2 rfl F1 H1 s1 w1)))
/-- a statement, and what holds behind it -/
theorem ws_j {st : Stmt} (M : St → Hp → Prop) (h : W1 X st { D with nx := M } σ H) (hm : ∀ σ' H', M σ' H' → Ws X rest D σ' H') : Ws X (st :: rest) D σ H := by
  refine ws_cons fun pins s I => ?_
  refine thn (h pins s I) fun f s' h => ?_
  cases f with
  | next =>
    obtain ⟨σ', H', I', hm'⟩ := h
    exact ⟨σ', H', I', hm σ' H' hm'⟩
  | ret u => exact h
  | brk => exact h
  | cont => exact h
theorem w1_if (w : Wf F Os H) (hc : Et X c σ F Os k Os1) (h1 : k = true → ∀ F1 H1, Same F F1 → Wf F1 Os1 H1 → Ws X A D σ H1) (h2 : k = false → ∀ F1 H1, Same F F1 → Wf F1 Os1 H1 → Ws X B D σ H1) :
    W1 X (.If c A B pos) D σ H :=
  w_ps (ps_if pt_w pss_w pss_w) (hc.go (Same.refl _) w fun F1 H1 s1 w1 => by
    cases k with
    | true => exact iteT (h1 rfl F1 H1 s1 w1)
    | false => exact iteF (h2 rfl F1 H1 s1 w1))
theorem ws_expr (w : Wf F Os H) (he : Ev X e σ F Os W x Os1) (k : ∀ F1 H1, Same F F1 → Wf F1 Os1 H1 → Ws X rest D σ H1) (hs : swapsWith e none pos.line X.env = pure false := by rfl) : Ws X (.Expr e pos :: rest) D σ H :=
  ws_cons (w_ps (ps_expr pe_w hs) (he.go (Same.refl _) w fun v F1 H1 s1 w1 _ => k F1 H1 s1 w1))
/-! ### lists that are owned -/
/-- the written form of o.m(e, ..) -/
structure BmOk (X : Cx) (o : Expr) (name : Str) (e : Expr) (es : List Expr) (apos cpos : Pos) : Prop where
  base : attributeBase o name X.env (eval o X.env) = eval o X.env
  few : ((backTo cpos (starEach (e :: es) X.env)).all (fun x => !x.1) && (backToKw cpos (keywordEach [] X.env)).all (fun x => x.1.isSome)
      && decide ((e :: es).length + ([] : List Keyword).length + (if ([] : List Keyword).isEmpty then 0 else 1) < 30)) = true
  line : (apos.endLine == cpos.line) = true
  hs : starEach (e :: es) X.env = (false, eval e X.env) :: starEach es X.env
  plain : (backTo cpos (starEach es X.env)).any (·.1) = false
structure BmOk0 (X : Cx) (o : Expr) (name : Str) (apos cpos : Pos) : Prop where
  base : attributeBase o name X.env (eval o X.env) = eval o X.env
  line : (apos.endLine == cpos.line) = true
theorem ws_app (w : Wf F Os H) {l : Addr} (hl : σ[m]? = some (some (.ref l))) (he : Ev X e σ F Os R.v x Os1) (ho : Os1[n]? = some (l, oList R xs)) (h : app xs x = some ys) (k : ∀ F1 H1, Same F F1 → Wf F1 (Os1.set n (l, oList R ys)) H1 → Ws X rest D σ H1)
    (hN : X.N[m]? = some nm := by rfl) (hV : Vis X.env.scope nm := by first | exact Or.inl rfl | exact Or.inr (Or.inl rfl) | exact Or.inr (Or.inr rfl)) (hd : (nm == ("__debug__" : Str)) = false := by decide) (hcd : (nm == ("__classdict__" : Str)) = false := by decide)
    (hs : swapsWith (.Call (.Attribute (.Name nm p1) "append" p2) [e] [] p3) none pos.line X.env = pure false := by rfl) (hb : BmOk X (.Name nm p1) "append" e [] p2 p3 := by exact ⟨rfl, rfl, rfl, rfl, rfl⟩) (ho0 : Os[n]? = some (l, oList R xs) := by rfl) : Ws X (.Expr (.Call (.Attribute (.Name nm p1) "append" p2) [e] [] p3) pos :: rest) D σ H := by
  obtain ⟨h1, rfl⟩ := app_some h
  obtain ⟨_, o0, g0, vs0, e0, _⟩ := w.at ho0
  subst e0
  refine ws_cons (w_ps (ps_expr (pe_bm PySem.F.plainAttrs_list PySem.F.slot_list_append PySem.F.type_list_append mt_append (pe_var hN hV hd hcd) (pa_cons pe_w pa_nil hb.hs) hb.base hb.few hb.line hb.hs hb.plain) hs) ?_)
  refine ⟨_, hl, .inl ⟨rfl, _, .of g0⟩, he.go (Same.refl _) w fun v F1 H1 s1 w1 r1 => ?_⟩
  obtain ⟨_, o, g, vs, e, q⟩ := w1.at ho
  subst e
  exact ⟨l, vs, v, rfl, rfl, g, by rw [q.length]; exact h1, k F1 _ s1 (w1.set ho ⟨_, rfl, paired_append q (.cons r1 .nil)⟩)⟩
theorem stI_some {xs ys : List α} (h : stI xs i x = some ys) : ∃ j, ixN xs.length i = some j ∧ ys = xs.set j x := by
  obtain ⟨j, h1, h2⟩ := bd_some h
  exact ⟨j, h1, (Option.some.inj h2).symm⟩
theorem ws_stL (w : Wf F Os H) {l : Addr} (he : Ev X e σ F Os R.v x Os1) (ha : Ev X a σ F Os1 (rIs (.ref l)).v () Os1) (hb : Ev X b σ F Os1 rInt.v i Os1) (ho : Os1[n]? = some (l, oList R xs)) (h : stI xs i x = some ys)
    (k : ∀ F1 H1, Same F F1 → Wf F1 (Os1.set n (l, oList R ys)) H1 → Ws X rest D σ H1)
    (hs : swapsWithSole [.Subscript a b p1] e pos.line X.env = pure false := by rfl) (hw : swappedStores [.Subscript a b p1] e X.env = pure none := by rfl) (h1 : (assignEach [.Subscript a b p1] X.env).map (·.2) = [assign (.Subscript a b p1) X.env] := by rfl)
    (hA : ∀ v, assign (.Subscript a b p1) X.env v = (do
      let ov ← holding [v] (eval a X.env)
      let iv ← holding [v, ov] (eval b X.env)
      standAt p1
      holding [v, ov, iv] (setItem ov iv v)
      release [v, ov, iv] []) := by intro _; rfl) : Ws X (.Assign [.Subscript a b p1] e pos :: rest) D σ H := by
  obtain ⟨jj, h2, rfl⟩ := stI_some h
  refine ws_cons (w_ps (ps_asg pe_w (pg_sub pe_w pe_w set_list hA) hs hw h1) ?_)
  refine he.go (Same.refl _) w fun v F1 H1 s1 w1 r1 => ?_
  refine ha.go s1 w1 fun u F2 H2 s2 w2 r2 => ?_
  refine hb.go (s1.trans s2) w2 fun u3 F3 H3 s3 w3 r3 => ?_
  obtain ⟨_, o, g, vs, e, q⟩ := w3.at ho
  subst e
  exact ⟨l, vs, i, jj, r2, r3, g, by rw [q.length]; exact h2, k F3 _ (s1.trans (s2.trans s3)) (w3.set ho ⟨_, rfl, paired_set (R.mono (s2.trans s3) r1) jj q⟩)⟩
/-! ### loops -/
theorem drop_cons {xs : List α} {i : Nat} {x : α} (h : xs[i]? = some x) : xs.drop i = x :: xs.drop (i + 1) := by
  obtain ⟨h1, h2⟩ := List.getElem?_eq_some_iff.mp h
  rw [List.drop_eq_getElem_cons h1, h2]
theorem w1_forG {g : TG} {tg : Expr} (w : Wf F Os H) (hi : Ev X it σ F Os (rList R).v xs Os1) (hg : PG X tg g)
    (k : ∀ F1 H1, Same F F1 → Wf F1 Os1 H1 → ∃ I : List α → St → Hp → Prop, I xs σ H1 ∧ (∀ r σ' H', I r σ' H' → Same F1 H') ∧
      (∀ x r σ' H' v, I (x :: r) σ' H' → R.r F1 v x → g v σ' H' fun σ2 H2 => Ws X body { D with nx := I r, ct := I r, bk := D.nx } σ2 H2) ∧ (∀ σ' H', I [] σ' H' → D.nx σ' H'))
    (hp : PassesOwn (model X.prog X.w) X.A X.env X.xe) (hc : X.calm = true := by rfl) (hs : ∀ x, foldedSetIterable it X.env x = pure x := by intro _; rfl) : W1 X (.For tg it body [] pos) D σ H := by
  refine w_ps (ps_for hp hc (pi_list pe_w) hg pss_w hs) ?_
  refine hi.go (Same.refl _) w fun v F1 H1 s1 w1 r1 => ?_
  obtain ⟨I, h0, hk, ht, hd⟩ := k F1 H1 s1 w1
  obtain ⟨p, o, rfl, g1, vs, rfl, q⟩ := r1
  refine ⟨p, rfl, ⟨vs, .of (w1.sub _ _ g1)⟩, for_list (K := X.K) (a := p) (xs := vs) (fun i σ' H' => I (xs.drop i) σ' H') h0 (fun i σ' H' _ hI => .of (hk _ _ _ hI _ _ g1)) (fun i u σ' H' hu hI => ?_) fun σ' H' hI => hd σ' H' ?_⟩
  · have hl : i < xs.length := by
      have z := (List.getElem?_eq_some_iff.mp hu).1
      rw [q.length] at z
      exact z
    have hx : xs[i]? = some xs[i] := List.getElem?_eq_getElem hl
    obtain ⟨u', hu', hr⟩ := paired_get q hx
    cases hu.symm.trans hu'
    rw [drop_cons hx] at hI
    exact ht _ _ σ' H' u hI hr
  · rw [q.length, List.drop_length] at hI
    exact hI
theorem w1_for (w : Wf F Os H) (hi : Ev X it σ F Os (rList R).v xs Os1) (hN : X.N.Nodup)
    (k : ∀ F1 H1, Same F F1 → Wf F1 Os1 H1 → ∃ I : List α → St → Hp → Prop, I xs σ H1 ∧ (∀ r σ' H', I r σ' H' → Same F1 H') ∧
      (∀ x r σ' H' v, I (x :: r) σ' H' → R.r F1 v x → Ws X body { D with nx := I r, ct := I r, bk := D.nx } (σ'.set n (some v)) H') ∧ (∀ σ' H', I [] σ' H' → D.nx σ' H'))
    (hp : PassesOwn (model X.prog X.w) X.A X.env X.xe) (hn : X.N[n]? = some nm := by rfl) (hx : Loc X.env.scope nm := by first | exact Or.inl rfl | exact Or.inr rfl) (hf : X.fn nm = true ∨ X.env.scope.names.lookup nm = some .local := by first | exact .inl rfl | exact .inr rfl)
    (hc : X.calm = true := by rfl) (hs : ∀ x, foldedSetIterable it X.env x = pure x := by intro _; rfl) : W1 X (.For (.Name nm p1) it body [] pos) D σ H :=
  w1_forG w hi (pg_name hN hn hx hf) k hp hc hs
/-- over a tuple -/
theorem w1_forV (w : Wf F Os H) (hi : Ev X it σ F Os (rTup R).v xs Os1) (hN : X.N.Nodup)
    (k : ∀ F1 H1, Same F F1 → Wf F1 Os1 H1 → ∃ I : List α → St → Hp → Prop, I xs σ H1 ∧ (∀ r σ' H', I r σ' H' → Same F1 H') ∧
      (∀ x r σ' H' v, I (x :: r) σ' H' → R.r F1 v x → Ws X body { D with nx := I r, ct := I r, bk := D.nx } (σ'.set n (some v)) H') ∧ (∀ σ' H', I [] σ' H' → D.nx σ' H'))
    (hp : PassesOwn (model X.prog X.w) X.A X.env X.xe) (hn : X.N[n]? = some nm := by rfl) (hx : Loc X.env.scope nm := by first | exact Or.inl rfl | exact Or.inr rfl) (hf : X.fn nm = true ∨ X.env.scope.names.lookup nm = some .local := by first | exact .inl rfl | exact .inr rfl)
    (hc : X.calm = true := by rfl) (hs : ∀ x, foldedSetIterable it X.env x = pure x := by intro _; rfl) : W1 X (.For (.Name nm p1) it body [] pos) D σ H := by
  refine w_ps (ps_for hp hc (pi_tup pe_w) (pg_name hN hn hx hf) pss_w hs) ?_
  refine hi.go (Same.refl _) w fun v F1 H1 s1 w1 r1 => ?_
  obtain ⟨I, h0, hk, ht, hd⟩ := k F1 H1 s1 w1
  obtain ⟨p, vs, rfl, g1, q⟩ := r1
  refine ⟨p, rfl, ⟨vs, .of (w1.sub _ _ g1)⟩, for_tup (K := X.K) (a := p) (xs := vs) (fun i σ' H' => I (xs.drop i) σ' H') h0 (fun i σ' H' _ hI => .of (hk _ _ _ hI _ _ g1)) (fun i u σ' H' hu hI => ?_) fun σ' H' hI => hd σ' H' ?_⟩
  · have hl : i < xs.length := by
      have z := (List.getElem?_eq_some_iff.mp hu).1
      rw [q.length] at z
      exact z
    have hx : xs[i]? = some xs[i] := List.getElem?_eq_getElem hl
    obtain ⟨u', hu', hr⟩ := paired_get q hx
    cases hu.symm.trans hu'
    rw [drop_cons hx] at hI
    exact ht _ _ σ' H' u hI hr
  · rw [q.length, List.drop_length] at hI
    exact hI
/-- for a, b in pairs -/
theorem w1_for2 {nm2 : Str} {m2 d : Nat} {xs : List (α × β)} (w : Wf F Os H) (hi : Ev X it σ F Os (rList (rT2 R S)).v xs Os1) (hN : X.N.Nodup)
    (k : ∀ F1 H1, Same F F1 → Wf F1 Os1 H1 → ∃ I : List (α × β) → St → Hp → Prop, I xs σ H1 ∧ (∀ r σ' H', I r σ' H' → Same F1 H') ∧
      (∀ x y r σ' H' v u, I ((x, y) :: r) σ' H' → R.r F1 v x → S.r F1 u y → Ws X body { D with nx := I r, ct := I r, bk := D.nx } ((σ'.set n (some v)).set m2 (some u)) H') ∧ (∀ σ' H', I [] σ' H' → D.nx σ' H'))
    (hp : PassesOwn (model X.prog X.w) X.A X.env X.xe) (hn : X.N[n]? = some nm := by rfl) (hx : Loc X.env.scope nm := by first | exact Or.inl rfl | exact Or.inr rfl) (hf : X.fn nm = true ∨ X.env.scope.names.lookup nm = some .local := by first | exact .inl rfl | exact .inr rfl)
    (hn2 : X.N[m2]? = some nm2 := by rfl) (hx2 : Loc X.env.scope nm2 := by first | exact Or.inl rfl | exact Or.inr rfl) (hf2 : X.fn nm2 = true ∨ X.env.scope.names.lookup nm2 = some .local := by first | exact .inl rfl | exact .inr rfl)
    (hc : X.calm = true := by rfl) (hs : ∀ x, foldedSetIterable it X.env x = pure x := by intro _; rfl) (hl : (assignEach [.Name nm p1, .Name nm2 p2] X.env).length = 2 := by rfl) (hst : (assignEach [.Name nm p1, .Name nm2 p2] X.env).findIdx? (·.1) = none := by rfl) :
    W1 X (.For (.Tuple [.Name nm p1, .Name nm2 p2] d p3) it body [] pos) D σ H := by
  refine w1_forG (R := rT2 R S) w hi (pg_tup hc (pgs_cons (pg_name hN hn hx hf) (pgs_cons (pg_name hN hn2 hx2 hf2) pgs_nil)) hl hst) (fun F1 H1 s1 w1 => ?_) hp hc hs
  obtain ⟨I, h0, hk, ht, hd⟩ := k F1 H1 s1 w1
  refine ⟨I, h0, hk, fun ⟨x, y⟩ r σ' H' v hI hv => ?_, hd⟩
  obtain ⟨a, u1, u2, rfl, g1, q1, q2⟩ := hv
  exact ⟨a, [u1, u2], rfl, .of (hk _ _ _ hI _ _ g1), rfl, u1, [u2], rfl, u2, [], rfl, rfl, ht x y r σ' H' u1 u2 hI q1 q2⟩
/-- the ints from lo, below hi -/
def rng (lo hi : Int) : List Int := (List.range (hi - lo).toNat).map fun (k : Nat) => lo + (k : Int)
theorem rng_len (lo hi : Int) : (rng lo hi).length = (hi - lo).toNat := by simp [rng]
theorem rng_get {lo hi : Int} {i : Nat} (h : i < (hi - lo).toNat) : (rng lo hi)[i]? = some (lo + (i : Int)) := by
  simp [rng, h]
def rngOk (lo hi : Int) : Prop := (-(2 ^ 62) ≤ lo ∧ lo < 2 ^ 62 ∧ -(2 ^ 62) ≤ hi ∧ hi < 2 ^ 62) ∧ hi - lo ≤ 16777216
instance (lo hi : Int) : Decidable (rngOk lo hi) := by unfold rngOk; infer_instance
def rngO (lo hi : Int) : Option (List Int) := if rngOk lo hi then some (rng lo hi) else none
theorem rngO_some {lo hi : Int} {r : List Int} (h : rngO lo hi = some r) : rngOk lo hi ∧ r = rng lo hi := by
  unfold rngO at h
  by_cases hc : rngOk lo hi
  · rw [if_pos hc] at h
    exact ⟨hc, (Option.some.inj h).symm⟩
  · rw [if_neg hc] at h
    cases h
theorem w1_forR1 {r : List Int} (hr : rngO 0 i = some r) (w : Wf F Os H) (hi : Ev X a σ F Os rInt.v i Os1) (hN : X.N.Nodup)
    (k : ∀ F1 H1, Same F F1 → Wf F1 Os1 H1 → ∃ I : List Int → St → Hp → Prop, I r σ H1 ∧
      (∀ x r σ' H', I (x :: r) σ' H' → Ws X body { D with nx := I r, ct := I r, bk := D.nx } (σ'.set n (some (.int x))) H') ∧ (∀ σ' H', I [] σ' H' → D.nx σ' H'))
    (hp : PassesOwn (model X.prog X.w) X.A X.env X.xe) (hm : X.mg "range" = none) (hn : X.N[n]? = some nm := by rfl) (hx : Loc X.env.scope nm := by first | exact Or.inl rfl | exact Or.inr rfl) (hf : X.fn nm = true ∨ X.env.scope.names.lookup nm = some .local := by first | exact .inl rfl | exact .inr rfl)
    (hc : X.calm = true := by rfl) (hs : ∀ x, foldedSetIterable (.Call (.Name "range" p2) [a] [] p3) X.env x = pure x := by intro _; rfl) (hg : Gl X "range" := by rfl) (he : starEach [a] X.env = [(false, eval a X.env)] := by rfl) (he2 : starEach [a] X.env = (false, eval a X.env) :: starEach [] X.env := by rfl) : W1 X (.For (.Name nm p1) (.Call (.Name "range" p2) [a] [] p3) body [] pos) D σ H := by
  obtain ⟨ok, rfl⟩ := rngO_some hr
  refine w_ps (ps_for hp hc (pi_range1 hg hm (pa_cons pe_w pa_nil he2) he) (pg_name hN hn hx hf) pss_w hs) ?_
  refine hi.go (Same.refl _) w fun v F1 H1 s1 w1 r1 => ?_
  obtain ⟨I, h0, ht, hd⟩ := k F1 H1 s1 w1
  cases (show v = V.int i from r1)
  obtain ⟨⟨_, _, k3, k4⟩, _⟩ := ok
  have hl : (rng 0 i).length = i.toNat := by rw [rng_len, Int.sub_zero]
  refine ⟨i, rfl, k3, k4, for_range (lo := 0) (n := i.toNat) (fun q σ' H' => I ((rng 0 i).drop q) σ' H') h0 (fun q σ' H' hq hI => ?_) fun σ' H' hI => hd σ' H' ?_⟩
  · rw [drop_cons (rng_get (by rw [Int.sub_zero]; exact hq))] at hI
    exact ht _ _ σ' H' hI
  · rw [← hl, List.drop_length] at hI
    exact hI
theorem w1_forR2 {r : List Int} (hr : rngO i j = some r) (w : Wf F Os H) (hi : Ev X a σ F Os rInt.v i Os1) (hj : Ev X b σ F Os1 rInt.v j Os2) (hN : X.N.Nodup)
    (k : ∀ F1 H1, Same F F1 → Wf F1 Os2 H1 → ∃ I : List Int → St → Hp → Prop, I r σ H1 ∧
      (∀ x r σ' H', I (x :: r) σ' H' → Ws X body { D with nx := I r, ct := I r, bk := D.nx } (σ'.set n (some (.int x))) H') ∧ (∀ σ' H', I [] σ' H' → D.nx σ' H'))
    (hp : PassesOwn (model X.prog X.w) X.A X.env X.xe) (hm : X.mg "range" = none) (hn : X.N[n]? = some nm := by rfl) (hx : Loc X.env.scope nm := by first | exact Or.inl rfl | exact Or.inr rfl) (hf : X.fn nm = true ∨ X.env.scope.names.lookup nm = some .local := by first | exact .inl rfl | exact .inr rfl)
    (hc : X.calm = true := by rfl) (hs : ∀ x, foldedSetIterable (.Call (.Name "range" p2) [a, b] [] p3) X.env x = pure x := by intro _; rfl) (hg : Gl X "range" := by rfl) (he : starEach [a, b] X.env = [(false, eval a X.env), (false, eval b X.env)] := by rfl) (he3 : starEach [b] X.env = [(false, eval b X.env)] := by rfl)
    (he2 : starEach [a, b] X.env = (false, eval a X.env) :: starEach [b] X.env := by rfl) (he4 : starEach [b] X.env = (false, eval b X.env) :: starEach [] X.env := by rfl) : W1 X (.For (.Name nm p1) (.Call (.Name "range" p2) [a, b] [] p3) body [] pos) D σ H := by
  obtain ⟨ok, rfl⟩ := rngO_some hr
  refine w_ps (ps_for hp hc (pi_range2 hg hm (pa_cons pe_w (pa_cons pe_w pa_nil he4) he2) he he3) (pg_name hN hn hx hf) pss_w hs) ?_
  refine hi.go (Same.refl _) w fun v F1 H1 s1 w1 r1 => ?_
  refine hj.go s1 w1 fun u F2 H2 s2 w2 r2 => ?_
  obtain ⟨I, h0, ht, hd⟩ := k F2 H2 (s1.trans s2) w2
  cases (show v = V.int i from r1)
  cases (show u = V.int j from r2)
  have hl : (rng i j).length = (j - i).toNat := rng_len i j
  refine ⟨i, j, rfl, ok.1, for_range (lo := i) (n := (j - i).toNat) (fun q σ' H' => I ((rng i j).drop q) σ' H') h0 (fun q σ' H' hq hI => ?_) fun σ' H' hI => hd σ' H' ?_⟩
  · rw [drop_cons (rng_get hq)] at hI
    exact ht _ _ σ' H' hI
  · rw [← hl, List.drop_length] at hI
    exact hI
theorem wt_cases {Q : Bool → Hp → Prop} (w : Wf F Os H) (hc : Et X c σ F Os k Os1) (h1 : k = true → ∀ F1 H1, Same F F1 → Wf F1 Os1 H1 → Q true H1) (h2 : k = false → ∀ F1 H1, Same F F1 → Wf F1 Os1 H1 → Q false H1) : Wt X c σ H Q :=
  hc.go (Same.refl _) w fun F1 H1 s1 w1 => by
    cases k with
    | true => exact h1 rfl F1 H1 s1 w1
    | false => exact h2 rfl F1 H1 s1 w1
/-- while: I by what is left to do -/
theorem w1_while (I : Nat → St → Hp → Prop) (n0 : Nat) (h0 : I n0 σ H)
    (ht : ∀ n σ' H', I n σ' H' → Wt X c σ' H' fun k H1 => if k = true then Ws X body { D with nx := fun σ2 H2 => ∃ n', n' < n ∧ I n' σ2 H2, ct := fun σ2 H2 => ∃ n', n' < n ∧ I n' σ2 H2, bk := D.nx } σ' H1 else D.nx σ' H1)
    (hp : PassesOwn (model X.prog X.w) X.A X.env X.xe) : W1 X (.While c body [] pos) D σ H := by
  refine w_ps (ps_while hp pt_w pss_w) ⟨I, ⟨n0, h0⟩, fun n σ' H' hI => ?_⟩
  have q := ht n σ' H' hI
  intro pins s I'
  refine thn (q pins s I') fun b s' h => ?_
  obtain ⟨H1, I1, h⟩ := h
  refine ⟨H1, I1, ?_⟩
  cases b with
  | true => exact iteT ⟨_, fun _ _ z => z, h⟩
  | false => exact iteF h
end
/-- a def of the program as it stands behind the top -/
structure FT (K : PySem.W.Frag) (mg : Str → Option Value) (x : Str) (st : Stmt) (ps : List Str) (f : Addr) (fd : FuncData) : Prop where
  fn : Fun K x x st f fd
  bi : Binds K fd ps []
  gm : mg x = some (.ref f)
end Z

namespace Z
open PySem PySem.Spec L2
/-! ### what is walked -/
section
variable {α β γ : Type} {X : Cx} {e a b c it tg elt : Expr} {es ifs : List Expr} {pos p1 p2 p3 : Pos} {σ : St} {F F' H : Hp} {Os Os1 Os2 Os3 : Owns} {W : Vw α} {U : Vw β} {R : Rep α} {S : Rep β} {T : Rep γ} {Y : Rep α} {x x' : α} {y : β} {i j k : Int} {l : Bool} {xs ys zs : List α} {D : Ends} {rest body : List Stmt} {n m : Nat} {nm : Str} {v : V}
structure Itx (J : It) (F : Hp) (Y : Rep α) (xs : List α) : Prop where
  len : xs.length ≤ 16777216
  stop : ∀ H, Same F H → J.stop xs.length H
  go : ∀ i H, Same F H → i < xs.length → J.go i H
  yld : ∀ i H v H' F2 Os2, Same F F2 → Wf F2 Os2 H → J.yld i H v H' → i < xs.length → ∃ F3, Same F2 F3 ∧ Wf F3 Os2 H' ∧ ∀ x, xs[i]? = some x → Y.r F3 v x
def Wi (X : Cx) (tg it : Expr) (σ : St) (H : Hp) (R : It → Hp → Prop) : Prop := ∀ pins s, Inv X pins σ H s → wpAny (model X.prog X.w) X.A (eval it X.env) (fun v s1 => wpAny (model X.prog X.w) X.A (pyIter v) (PIE X pins σ tg R) X.xe s1) X.xe s
theorem pi_w : PI X tg it (Wi X tg it) := ⟨fun pins s _ _ _ I h => h pins s I⟩
theorem w_pi {t : TI} {R : It → Hp → Prop} (h : PI X tg it t) (q : t σ H R) : Wi X tg it σ H R := fun pins s I => h.run pins s σ H R I q
def Ei (X : Cx) (tg it : Expr) (σ : St) (F : Hp) (Os : Owns) (Y : Rep α) (xs : List α) (Os' : Owns) : Prop :=
  ∀ F1 H, Same F F1 → Wf F1 Os H → ∀ Q : It → Hp → Prop, (∀ J F' H', Same F1 F' → Wf F' Os' H' → Itx J F' Y xs → Q J H') → Wi X tg it σ H Q
theorem Ei.go (h : Ei X tg it σ F Os Y xs Os1) {F1 H : Hp} (s : Same F F1) (w : Wf F1 Os H) {Q : It → Hp → Prop} (k : ∀ J F' H', Same F1 F' → Wf F' Os1 H' → Itx J F' Y xs → Q J H') : Wi X tg it σ H Q := h F1 H s w Q k
theorem Ei.eq (h : Ei X tg it σ F Os Y xs Os1) (hx : ys = xs) : Ei X tg it σ F Os Y ys Os1 := hx ▸ h
theorem itx_list {K : PySem.W.Frag} {p : Addr} {vs : List V} (g : F p = some (.lst vs)) (q : Paired (Y.r F) vs xs) (hz : vs.length ≤ sizeLine) : Itx (Itl K p) F Y xs where
  len := by rw [← q.length, ← sizeLine_eq]; exact hz
  stop := fun H s => ⟨vs, .of (s _ _ g), by rw [q.length]; exact Nat.le_refl _⟩
  go := fun i H s hi => ⟨vs, vs[i]'(by rw [q.length]; exact hi), .of (s _ _ g), List.getElem?_eq_getElem _⟩
  yld := fun i H v H' F2 Os2 s w h hi => by
    obtain ⟨rfl, h⟩ := h
    have hv := h vs (.of (w.sub _ _ (s _ _ g)))
    refine ⟨F2, Same.refl _, w, fun x hx => ?_⟩
    obtain ⟨u, h1, h2⟩ := paired_get q hx
    cases hv.symm.trans h1
    exact Y.mono s h2
theorem itx_tup {K : PySem.W.Frag} {p : Addr} {vs : List V} (g : F p = some (.tup vs)) (q : Paired (Y.r F) vs xs) (hz : vs.length ≤ sizeLine) : Itx (Itt K p) F Y xs where
  len := by rw [← q.length, ← sizeLine_eq]; exact hz
  stop := fun H s => ⟨vs, .of (s _ _ g), by rw [q.length]; exact Nat.le_refl _⟩
  go := fun i H s hi => ⟨vs, vs[i]'(by rw [q.length]; exact hi), .of (s _ _ g), List.getElem?_eq_getElem _⟩
  yld := fun i H v H' F2 Os2 s w h hi => by
    obtain ⟨rfl, h⟩ := h
    have hv := h vs (.of (w.sub _ _ (s _ _ g)))
    refine ⟨F2, Same.refl _, w, fun x hx => ?_⟩
    obtain ⟨u, h1, h2⟩ := paired_get q hx
    cases hv.symm.trans h1
    exact Y.mono s h2
/-- what is tracked has a size that the model carries -/
def HSz (H : Hp) : Prop := ∀ a o, H a = some o → (∀ vs, o = .lst vs ∨ o = .tup vs → vs.length ≤ sizeLine) ∧ ∀ kvs, o = .dK kvs → kvs.length ≤ sizeLine
theorem hsz_of {pins : List (Addr × Obj)} {s : Shared} (I : Inv X pins σ H s) : HSz H := fun a o h => ⟨fun vs e => by
    have q := I.hok a o h
    rcases e with rfl | rfl
    · exact q.1
    · exact q.1, fun kvs e => by
    have q := I.hok a o h
    subst e
    exact q.1⟩
theorem we_sz {Q : VK} (h : We X e σ H fun v H' => HSz H' → Q v H') : We X e σ H Q := fun pins s I => thn (h pins s I) fun u s' ⟨v, H', I', r, q⟩ => ⟨v, H', I', r, q (hsz_of I')⟩
theorem ei_list (h : Ev X it σ F Os (rList Y).v xs Os1) : Ei X tg it σ F Os Y xs Os1 := fun F1 H s w Q q =>
  w_pi (pi_list pe_w) (we_sz (h.go s w fun v F2 H2 s2 w2 r2 => by
    intro hz
    obtain ⟨p, o, rfl, g, vs, rfl, qv⟩ := r2
    exact ⟨p, rfl, ⟨vs, .of (w2.sub _ _ g)⟩, q _ F2 H2 s2 w2 (itx_list g qv ((hz _ _ (w2.sub _ _ g)).1 vs (.inl rfl)))⟩))
theorem ei_tup (h : Ev X it σ F Os (rTup Y).v xs Os1) : Ei X tg it σ F Os Y xs Os1 := fun F1 H s w Q q =>
  w_pi (pi_tup pe_w) (we_sz (h.go s w fun v F2 H2 s2 w2 r2 => by
    intro hz
    obtain ⟨p, vs, rfl, g, qv⟩ := r2
    exact ⟨p, rfl, ⟨vs, .of (w2.sub _ _ g)⟩, q _ F2 H2 s2 w2 (itx_tup g qv ((hz _ _ (w2.sub _ _ g)).1 vs (.inr rfl)))⟩))
theorem itx_rng {lo hi : Int} (hz : hi - lo ≤ 16777216) : Itx (Itr lo (hi - lo).toNat) F rInt (rng lo hi) where
  len := by rw [rng_len]; omega
  stop := fun H s => by rw [rng_len]; exact Nat.le_refl _
  go := fun i H s hi => by rw [rng_len] at hi; exact hi
  yld := fun i H v H' F2 Os2 s w h hi => by
    obtain ⟨rfl, rfl⟩ := h
    refine ⟨F2, Same.refl _, w, fun x hx => ?_⟩
    rw [rng_len] at hi
    cases (rng_get hi).symm.trans hx
    rfl
theorem ei_rng1 {r : List Int} (hr : rngO 0 i = some r) (h : Ev X a σ F Os rInt.v i Os1) (hm : X.mg "range" = none) (hg : Gl X "range" := by rfl) (he : starEach [a] X.env = [(false, eval a X.env)] := by rfl) (he2 : starEach [a] X.env = (false, eval a X.env) :: starEach [] X.env := by rfl) :
    Ei X tg (.Call (.Name "range" p2) [a] [] p3) σ F Os rInt r Os1 := fun F1 H s w Q q =>
  w_pi (pi_range1 hg hm (pa_cons pe_w pa_nil he2) he) (h.go s w fun v F2 H2 s2 w2 r2 => by
    obtain ⟨⟨⟨_, _, k3, k4⟩, k5⟩, rfl⟩ := rngO_some hr
    cases (show v = V.int i from r2)
    refine ⟨i, rfl, k3, k4, ?_⟩
    have z := q (Itr 0 i.toNat) F2 H2 s2 w2 (by have := itx_rng (F := F2) k5; rwa [Int.sub_zero] at this)
    exact z)
theorem ei_rng2 {r : List Int} (hr : rngO i j = some r) (h : Ev X a σ F Os rInt.v i Os1) (h2 : Ev X b σ F Os1 rInt.v j Os2) (hm : X.mg "range" = none) (hg : Gl X "range" := by rfl) (he : starEach [a, b] X.env = [(false, eval a X.env), (false, eval b X.env)] := by rfl) (he3 : starEach [b] X.env = [(false, eval b X.env)] := by rfl)
    (he2 : starEach [a, b] X.env = (false, eval a X.env) :: starEach [b] X.env := by rfl) (he4 : starEach [b] X.env = (false, eval b X.env) :: starEach [] X.env := by rfl) : Ei X tg (.Call (.Name "range" p2) [a, b] [] p3) σ F Os rInt r Os2 := fun F1 H s w Q q =>
  w_pi (pi_range2 hg hm (pa_cons pe_w (pa_cons pe_w pa_nil he4) he2) he he3) (h.go s w fun v F2 H2 s2 w2 r2 => h2.go (s.trans s2) w2 fun u F3 H3 s3 w3 r3 => by
    obtain ⟨ok, rfl⟩ := rngO_some hr
    cases (show v = V.int i from r2)
    cases (show u = V.int j from r3)
    exact ⟨i, j, rfl, ok.1, q _ F3 H3 (s2.trans s3) w3 (itx_rng ok.2)⟩)
/-! ### targets -/
def Wg (X : Cx) (tg : Expr) (v : V) (σ : St) (H : Hp) (Q : St → Hp → Prop) : Prop := ∀ pins s u, Inv X pins σ H s → RelV v u → wpAny (model X.prog X.w) X.A (assign tg X.env u) (fun _ s' => ∃ σ' H', Inv X pins σ' H' s' ∧ Q σ' H') X.xe s
theorem pg_w : PG X tg (fun v σ H Q => Wg X tg v σ H Q) := ⟨fun pins s _ _ _ u _ I r h => h pins s u I r⟩
theorem w_pg {g : TG} {Q : St → Hp → Prop} (h : PG X tg g) (q : g v σ H Q) : Wg X tg v σ H Q := fun pins s u I r => h.run pins s σ H v u Q I r q
theorem wg_name {Q : St → Hp → Prop} (hN : X.N.Nodup) (q : Q (σ.set n (some v)) H) (hn : X.N[n]? = some nm := by rfl) (hx : Loc X.env.scope nm := by first | exact Or.inl rfl | exact Or.inr rfl) (hf : X.fn nm = true ∨ X.env.scope.names.lookup nm = some .local := by first | exact .inl rfl | exact .inr rfl) : Wg X (.Name nm p1) v σ H Q :=
  w_pg (pg_name hN hn hx hf) q
theorem wg_t2 {d : Nat} {w2 : α × β} {Q : St → Hp → Prop} (r : (rT2 R S).r F v w2) (w : Wf F Os H) (k : ∀ v1 v2, R.r F v1 w2.1 → S.r F v2 w2.2 → Wg X a v1 σ H fun σ1 H1 => Wg X b v2 σ1 H1 Q)
    (hc : X.calm = true := by rfl) (hl : (assignEach [a, b] X.env).length = 2 := by rfl) (hst : (assignEach [a, b] X.env).findIdx? (·.1) = none := by rfl)
    (hp : ∀ {g1 g2 : TG}, PG X a g1 → PG X b g2 → PGs X [a, b] (gCons g1 (gCons g2 gNil)) := by intro _ _ h1 h2; exact pgs_cons h1 (pgs_cons h2 pgs_nil)) : Wg X (.Tuple [a, b] d pos) v σ H Q := by
  obtain ⟨p, u1, u2, rfl, g, q1, q2⟩ := r
  refine w_pg (pg_tup hc (hp pg_w pg_w) hl hst) ⟨p, [u1, u2], rfl, .of (w.sub _ _ g), rfl, u1, [u2], rfl, ?_⟩
  have z := k u1 u2 q1 q2
  intro pins s u I ru
  refine thn (z pins s u I ru) fun _ s' h => ?_
  obtain ⟨σ', H', I', h⟩ := h
  exact ⟨σ', H', I', u2, [], rfl, fun pins2 s2 u' I2 r2 => thn (h pins2 s2 u' I2 r2) fun _ s3 ⟨σ3, H3, I3, h3⟩ => ⟨σ3, H3, I3, rfl, h3⟩⟩
theorem wg_t3 {d : Nat} {w2 : α × β × γ} {Q : St → Hp → Prop} (r : (rT3 R S T).r F v w2) (w : Wf F Os H) (k : ∀ v1 v2 v3, R.r F v1 w2.1 → S.r F v2 w2.2.1 → T.r F v3 w2.2.2 → Wg X a v1 σ H fun σ1 H1 => Wg X b v2 σ1 H1 fun σ2 H2 => Wg X c v3 σ2 H2 Q)
    (hc : X.calm = true := by rfl) (hl : (assignEach [a, b, c] X.env).length = 3 := by rfl) (hst : (assignEach [a, b, c] X.env).findIdx? (·.1) = none := by rfl)
    (hp : ∀ {g1 g2 g3 : TG}, PG X a g1 → PG X b g2 → PG X c g3 → PGs X [a, b, c] (gCons g1 (gCons g2 (gCons g3 gNil))) := by intro _ _ _ h1 h2 h3; exact pgs_cons h1 (pgs_cons h2 (pgs_cons h3 pgs_nil))) : Wg X (.Tuple [a, b, c] d pos) v σ H Q := by
  obtain ⟨p, u1, u2, u3, rfl, g, q1, q2, q3⟩ := r
  refine w_pg (pg_tup hc (hp pg_w pg_w pg_w) hl hst) ⟨p, [u1, u2, u3], rfl, .of (w.sub _ _ g), rfl, u1, [u2, u3], rfl, ?_⟩
  have z := k u1 u2 u3 q1 q2 q3
  intro pins s u I ru
  refine thn (z pins s u I ru) fun _ s' ⟨σ', H', I', h⟩ => ?_
  refine ⟨σ', H', I', u2, [u3], rfl, fun pins2 s2 u' I2 r2 => thn (h pins2 s2 u' I2 r2) fun _ s3 ⟨σ3, H3, I3, h3⟩ => ?_⟩
  exact ⟨σ3, H3, I3, u3, [], rfl, fun pins4 s4 u4 I4 r4 => thn (h3 pins4 s4 u4 I4 r4) fun _ s5 ⟨σ5, H5, I5, h5⟩ => ⟨σ5, H5, I5, rfl, h5⟩⟩
/-- a, b = e -/
theorem ws_unpack (w : Wf F Os H) (he : Ev X e σ F Os W x Os1) (k : ∀ v F1 H1, Same F F1 → Wf F1 Os1 H1 → W.r F1 Os1 v x → Wg X tg v σ H1 (Ws X rest D))
    (hs : swapsWithSole [tg] e pos.line X.env = pure false := by rfl) (hw : swappedStores [tg] e X.env = pure none := by rfl) (h1 : (assignEach [tg] X.env).map (·.2) = [assign tg X.env] := by rfl) : Ws X (.Assign [tg] e pos :: rest) D σ H :=
  ws_cons (w_ps (ps_asg pe_w pg_w hs hw h1) (he.go (Same.refl _) w fun v F1 H1 s1 w1 r1 => k v F1 H1 s1 w1 r1))
/-! ### for -/
def LpN (F1 : Hp) (P : Hp → Owns → St → Prop) : St → Hp → Prop := fun σ H => ∃ F' Os', Wf F' Os' H ∧ Same F1 F' ∧ P F' Os' σ
theorem w1_forE (w : Wf F Os H) (hi : Ei X tg it σ F Os Y xs Os1)
    (k : ∀ F1 H1, Same F F1 → Wf F1 Os1 H1 → ∃ P : List α → Hp → Owns → St → Prop, P xs F1 Os1 σ ∧
      (∀ x r F2 Os2 σ' F3 H3 v, P (x :: r) F2 Os2 σ' → Same F1 F2 → Same F2 F3 → Wf F3 Os2 H3 → Y.r F3 v x → Wg X tg v σ' H3 (Ws X body { D with nx := LpN F1 (P r), ct := LpN F1 (P r), bk := D.nx })) ∧
      (∀ F2 Os2 σ' H', P [] F2 Os2 σ' → Same F1 F2 → Wf F2 Os2 H' → D.nx σ' H'))
    (hp : PassesOwn (model X.prog X.w) X.A X.env X.xe) (hc : X.calm = true := by rfl) (hs : ∀ x, foldedSetIterable it X.env x = pure x := by intro _; rfl) : W1 X (.For tg it body [] pos) D σ H := by
  refine w_ps (ps_for hp hc pi_w pg_w pss_w hs) ?_
  refine hi.go (Same.refl _) w fun J F1 H1 s1 w1 T => ?_
  obtain ⟨P, h0, ht, hd⟩ := k F1 H1 s1 w1
  refine ⟨fun i m σ' H' => m = xs.length - i ∧ i ≤ xs.length ∧ LpN F1 (P (xs.drop i)) σ' H', ⟨xs.length, by simp, Nat.zero_le _, F1, Os1, w1, Same.refl _, h0⟩, ?_⟩
  rintro i m σ' H' ⟨rfl, hi, F2, Os2, w2, s2, hP⟩
  by_cases hl : i < xs.length
  · refine .inr ⟨T.go i H' (s2.trans w2.sub) hl, LpN F1 (P (xs.drop (i + 1))), fun σ2 H2 q => ⟨xs.length - (i + 1), by omega, rfl, hl, q⟩, fun v H3 hy => ?_⟩
    obtain ⟨F3, s3, w3, hv⟩ := T.yld i H' v H3 F2 Os2 s2 w2 hy hl
    have hx : xs[i]? = some xs[i] := List.getElem?_eq_getElem hl
    rw [drop_cons hx] at hP
    exact ht _ _ F2 Os2 σ' F3 H3 v hP s2 s3 w3 (hv _ hx)
  · have e : i = xs.length := by omega
    subst e
    rw [List.drop_length] at hP
    exact .inl ⟨T.stop H' (s2.trans w2.sub), hd F2 Os2 σ' H' hP s2 w2⟩
/-! ### list comprehensions -/
/-- tests and element, each asked once a turn -/
def lcO (tO : α → Option Bool) (eO : α → Option β) : List α → Option (List β)
  | [] => some []
  | x :: r => bd (tO x) fun b => if b = true then bd (eO x) fun y => bd (lcO tO eO r) fun ys => some (y :: ys) else lcO tO eO r
theorem lcO_pure {c : α → Bool} {f : α → β} : ∀ xs : List α, lcO (fun x => some (c x)) (fun x => some (f x)) xs = some ((xs.filter c).map f)
  | [] => rfl
  | x :: r => by
    show bd (some (c x)) _ = _
    rw [bd_eq, List.filter_cons]
    cases h : c x with
    | true =>
      rw [if_pos rfl, if_pos rfl, bd_eq, lcO_pure r]
      rfl
    | false =>
      rw [if_neg (by decide), if_neg (by decide), lcO_pure r]
theorem lcO_cons {tO : α → Option Bool} {eO : α → Option β} {x : α} {r : List α} {ys : List β} (h : lcO tO eO (x :: r) = some ys) : ∃ b, tO x = some b ∧ (b = true → ∃ y ys', eO x = some y ∧ lcO tO eO r = some ys' ∧ ys = y :: ys') ∧ (b = false → lcO tO eO r = some ys) := by
  obtain ⟨b, h1, h2⟩ := bd_some h
  refine ⟨b, h1, fun hb => ?_, fun hb => ?_⟩
  · rw [if_pos hb] at h2
    obtain ⟨y, h3, h4⟩ := bd_some h2
    obtain ⟨ys', h5, h6⟩ := bd_some h4
    exact ⟨y, ys', h3, h5, (Option.some.inj h6).symm⟩
  · rw [if_neg (by rw [hb]; decide)] at h2
    exact h2
theorem lcO_len {tO : α → Option Bool} {eO : α → Option β} : ∀ {xs : List α} {ys : List β}, lcO tO eO xs = some ys → ys.length ≤ xs.length
  | [], ys, h => by cases h; exact Nat.le_refl _
  | x :: r, ys, h => by
    obtain ⟨b, _, h2, h3⟩ := lcO_cons h
    cases b with
    | true =>
      obtain ⟨y, ys', _, h5, rfl⟩ := h2 rfl
      have := lcO_len h5
      simp only [List.length_cons]
      omega
    | false =>
      have := lcO_len (h3 rfl)
      simp only [List.length_cons]
      omega
abbrev BX (X : Cx) (scope : Scope) (s : Shared) (H : Hp) (C : Addr) (cl : List (Str × Addr)) (fp : List Addr) : Cx := X.blk s H scope (compEnvC scope cl C X.env) fp
/-- the comprehension's names in a turn: Tg F x σ' says what σ' is -/
abbrev gB (X : Cx) (scope : Scope) (tg : Expr) : TG := fun v σ H Q => ∀ s H' C cl fp, Wg (BX X scope s H' C cl fp) tg v σ H Q
abbrev eB (X : Cx) (scope : Scope) (elt : Expr) : TE := fun σ H Q => ∀ s H' C cl fp, We (BX X scope s H' C cl fp) elt σ H Q
abbrev tB1 (X : Cx) (scope : Scope) (c : Expr) : TT := fun σ H Q => ∀ s H' C cl fp, Wt (BX X scope s H' C cl fp) c σ H Q
theorem gB_ok {scope : Scope} : ∀ s H C cl fp, PG (BX X scope s H C cl fp) tg (gB X scope tg) := fun s H C cl fp => ⟨fun pins s' _ _ _ u _ I r h => h s H C cl fp pins s' u I r⟩
theorem eB_ok {scope : Scope} : ∀ s H C cl fp, PE (BX X scope s H C cl fp) elt (eB X scope elt) := fun s H C cl fp => ⟨fun pins s' _ _ _ I h => h s H C cl fp pins s' I⟩
theorem tB1_ok {scope : Scope} : ∀ s H C cl fp, PTs (BX X scope s H C cl fp) [c] (tB1 X scope c) := fun s H C cl fp => pts_one ⟨fun pins s' _ _ _ I h => h s H C cl fp pins s' I⟩
/-- what a comprehension's target does in a turn -/
abbrev TgB (X : Cx) (scope : Scope) (σ : St) (vs : List Nat) (tg : Expr) (Y : Rep α) (Tg : Hp → α → St → Prop) : Prop :=
  ∀ F3 Os3 H3 v x, Wf F3 Os3 H3 → Y.r F3 v x → ∀ Q : St → Hp → Prop, (∀ σ', Tg F3 x σ' → wipe σ' vs = wipe σ vs → Q σ' H3) → ∀ s H C cl fp, Wg (BX X scope s H C cl fp) tg v (wipe σ vs) H3 Q
theorem lc_read {scope : Scope} {vs : List Nat} {tt : TT} (hi : Ei X tg it σ F Os Y xs Os1) (Tg : Hp → α → St → Prop) {tO : α → Option Bool} {eO : α → Option β} {ys : List β} (hf : lcO tO eO xs = some ys) (hT : TgB X scope σ vs tg Y Tg)
    (ht : ∀ q x b F1 σ', tO x = some b → Same F F1 → Tg F1 x σ' → ∀ F2 H2, Same F1 F2 → Wf F2 (q :: Os1) H2 → ∀ Q : Bool → Hp → Prop, (∀ F3 H3, Same F2 F3 → Wf F3 (q :: Os1) H3 → Q b H3) → tt σ' H2 Q)
    (he : ∀ q x y F1 σ', eO x = some y → Same F F1 → Tg F1 x σ' → ∀ s H C cl fp, Ev (BX X scope s H C cl fp) elt σ' F1 (q :: Os1) S.v y (q :: Os1)) {F0 H0 : Hp} (s0 : Same F F0) (w0 : Wf F0 Os H0) {Q : VK}
    (q : ∀ p F' H', Same F0 F' → Wf F' ((p, oList S ys) :: Os1) H' → Q (.ref p) H') : tLc (Wi X tg it) (gB X scope tg) tt (eB X scope elt) vs σ H0 Q := by
  refine hi.go s0 w0 fun J F1 H1 s1 w1 T => fun Dl hD => ?_
  -- what is made so far: acc; what is left: the rest of xs
  let P : Nat → Hp → Prop := fun i H => ∃ F' acc zs, Wf F' ((Dl, oList S acc) :: Os1) H ∧ Same F1 F' ∧ lcO tO eO (xs.drop i) = some zs ∧ ys = acc ++ zs ∧ acc.length ≤ i
  have hsz := sizeLine_eq
  refine ⟨fun i m H => m = xs.length - i ∧ i ≤ xs.length ∧ P i H, ⟨xs.length, by simp, Nat.zero_le _, F1, [], ys, w1.new hD ⟨[], rfl, .nil⟩, Same.refl _, hf, rfl, Nat.le_refl _⟩, ?_⟩
  rintro i m H ⟨rfl, hi, F2, acc, zs, w2, s2, hf2, rfl, hl2⟩
  by_cases hl : i < xs.length
  · refine .inr ⟨T.go i H (s2.trans w2.sub) hl, P (i + 1), fun H' p => ⟨xs.length - (i + 1), by omega, rfl, hl, p⟩, fun v H3 hy => ?_⟩
    obtain ⟨F3, s3, w3, hv⟩ := T.yld i H v H3 F2 _ s2 w2 hy hl
    have hx : xs[i]? = some xs[i] := List.getElem?_eq_getElem hl
    rw [drop_cons hx] at hf2
    obtain ⟨b, hb, hb1, hb2⟩ := lcO_cons hf2
    refine hT F3 _ H3 v xs[i] w3 (hv _ hx) _ fun σ' htg hw => ⟨hw, ?_⟩
    have sF : Same F F3 := s0.trans (s1.trans (s2.trans s3))
    refine ht (Dl, oList S acc) xs[i] b F3 σ' hb sF htg F3 H3 (Same.refl _) w3 _ fun F4 H4 s4 w4 => ?_
    cases b with
    | false => exact ⟨F4, acc, zs, w4, s2.trans (s3.trans s4), hb2 rfl, rfl, by omega⟩
    | true =>
      obtain ⟨y, zs', h5, h6, rfl⟩ := hb1 rfl
      intro s H' C cl fp
      refine (he (Dl, oList S acc) xs[i] y F3 σ' h5 sF htg s H' C cl fp).go s4 w4 fun u F5 H5 s5 w5 r5 => ?_
      obtain ⟨h7, o, h8, vs, rfl, h9⟩ := w5.at (i := 0) rfl
      refine ⟨vs, h8, by have := T.len; rw [h9.length]; omega, F5, acc ++ [y], zs', ?_, s2.trans (s3.trans (s4.trans s5)), h6, by simp, by simp; omega⟩
      exact w5.set (i := 0) rfl ⟨_, rfl, paired_append h9 (.cons r5 .nil)⟩
  · have e : i = xs.length := by omega
    subst e
    rw [List.drop_length] at hf2
    cases hf2
    refine .inl ⟨T.stop H (s2.trans w2.sub), ?_⟩
    rw [List.append_nil] at q
    exact q Dl F2 H (s1.trans s2) w2
/-- no test; one test -/
theorem evn_lc0 {scope : Scope} {own : List (Str × Nat)} (hi : Ei X tg it σ F Os Y xs Os1) (Tg : Hp → α → St → Prop) {eO : α → Option β} {ys : List β} (hf : lcO (fun _ => some true) eO xs = some ys) (hT : TgB X scope σ (own.map (·.2)) tg Y Tg)
    (he : ∀ q x y F1 σ', eO x = some y → Same F F1 → Tg F1 x σ' → ∀ s H C cl fp, Ev (BX X scope s H C cl fp) elt σ' F1 (q :: Os1) S.v y (q :: Os1))
    (hN : X.N.Nodup) (ok : BlkOk X.N X.env.scope scope own) (hc : X.calm = true := by rfl) (hs : ∀ x, foldedSetIterable it X.env x = pure x := by intro _; rfl) :
    EvN X (.ListComp elt [⟨tg, it, [], 0⟩] scope pos) σ F Os (oList S ys) Os1 := fun F0 H0 s0 w0 Q q =>
  w_pe (pe_lc (own := own) hc hN pi_w ok gB_ok (fun _ _ _ _ _ => pts_nil) eB_ok hs) (lc_read (tO := fun _ => some true) hi Tg hf hT (fun q x b F1 σ' hb _ _ F2 H2 _ w Q k => by
    cases hb
    exact k F2 H2 (Same.refl _) w) he s0 w0 q)
theorem evn_lc1 {scope : Scope} {own : List (Str × Nat)} (hi : Ei X tg it σ F Os Y xs Os1) (Tg : Hp → α → St → Prop) {tO : α → Option Bool} {eO : α → Option β} {ys : List β} (hf : lcO tO eO xs = some ys) (hT : TgB X scope σ (own.map (·.2)) tg Y Tg)
    (ht : ∀ q x b F1 σ', tO x = some b → Same F F1 → Tg F1 x σ' → ∀ s H C cl fp, Et (BX X scope s H C cl fp) c σ' F1 (q :: Os1) b (q :: Os1))
    (he : ∀ q x y F1 σ', eO x = some y → Same F F1 → Tg F1 x σ' → ∀ s H C cl fp, Ev (BX X scope s H C cl fp) elt σ' F1 (q :: Os1) S.v y (q :: Os1))
    (hN : X.N.Nodup) (ok : BlkOk X.N X.env.scope scope own) (hc : X.calm = true := by rfl) (hs : ∀ x, foldedSetIterable it X.env x = pure x := by intro _; rfl) :
    EvN X (.ListComp elt [⟨tg, it, [c], 0⟩] scope pos) σ F Os (oList S ys) Os1 := fun F0 H0 s0 w0 Q q =>
  w_pe (pe_lc (own := own) hc hN pi_w ok gB_ok tB1_ok eB_ok hs) (lc_read hi Tg hf hT (fun q x b F1 σ' hb sF htg F2 H2 s2 w2 Q k => fun s H' C cl fp => (ht q x b F1 σ' hb sF htg s H' C cl fp).go s2 w2 k) he s0 w0 q)
/-- y = [..], the store within the comprehension's frame -/
theorem ws_setLc0 {scope : Scope} {own : List (Str × Nat)} (w : Wf F Os H) (hi : Ei X tg it σ F Os Y xs Os1) (Tg : Hp → α → St → Prop) {eO : α → Option β} {ys : List β} (hf : lcO (fun _ => some true) eO xs = some ys) (hT : TgB X scope σ (own.map (·.2)) tg Y Tg)
    (he : ∀ q x y F1 σ', eO x = some y → Same F F1 → Tg F1 x σ' → ∀ s H C cl fp, Ev (BX X scope s H C cl fp) elt σ' F1 (q :: Os1) S.v y (q :: Os1))
    (hN : X.N.Nodup) (ok : BlkOk X.N X.env.scope scope own) (k : ∀ p F1 H1, Same F F1 → Wf F1 ((p, oList S ys) :: Os1) H1 → Ws X rest D (σ.set n (some (.ref p))) H1)
    (hsw : swapsWith (.ListComp elt [⟨tg, it, [], 0⟩] scope p3) (some (.Name nm p1)) pos.line X.env = pure true) (hn : X.N[n]? = some nm := by rfl) (hl : X.env.scope.names.lookup nm = some .local := by rfl) (hc : X.calm = true := by rfl) (hs : ∀ x, foldedSetIterable it X.env x = pure x := by intro _; rfl) :
    Ws X (.Assign [.Name nm p1] (.ListComp elt [⟨tg, it, [], 0⟩] scope p3) pos :: rest) D σ H :=
  ws_cons (w_ps (ps_setLc (own := own) hc hN hn hl hsw pi_w ok gB_ok (fun _ _ _ _ _ => pts_nil) eB_ok hs) (lc_read (tO := fun _ => some true) hi Tg hf hT (fun q x b F1 σ' hb _ _ F2 H2 _ w Q k => by
    cases hb
    exact k F2 H2 (Same.refl _) w) he (Same.refl _) w k))
theorem ws_setLc1 {scope : Scope} {own : List (Str × Nat)} (w : Wf F Os H) (hi : Ei X tg it σ F Os Y xs Os1) (Tg : Hp → α → St → Prop) {tO : α → Option Bool} {eO : α → Option β} {ys : List β} (hf : lcO tO eO xs = some ys) (hT : TgB X scope σ (own.map (·.2)) tg Y Tg)
    (ht : ∀ q x b F1 σ', tO x = some b → Same F F1 → Tg F1 x σ' → ∀ s H C cl fp, Et (BX X scope s H C cl fp) c σ' F1 (q :: Os1) b (q :: Os1))
    (he : ∀ q x y F1 σ', eO x = some y → Same F F1 → Tg F1 x σ' → ∀ s H C cl fp, Ev (BX X scope s H C cl fp) elt σ' F1 (q :: Os1) S.v y (q :: Os1))
    (hN : X.N.Nodup) (ok : BlkOk X.N X.env.scope scope own) (k : ∀ p F1 H1, Same F F1 → Wf F1 ((p, oList S ys) :: Os1) H1 → Ws X rest D (σ.set n (some (.ref p))) H1)
    (hsw : swapsWith (.ListComp elt [⟨tg, it, [c], 0⟩] scope p3) (some (.Name nm p1)) pos.line X.env = pure true) (hn : X.N[n]? = some nm := by rfl) (hl : X.env.scope.names.lookup nm = some .local := by rfl) (hc : X.calm = true := by rfl) (hs : ∀ x, foldedSetIterable it X.env x = pure x := by intro _; rfl) :
    Ws X (.Assign [.Name nm p1] (.ListComp elt [⟨tg, it, [c], 0⟩] scope p3) pos :: rest) D σ H :=
  ws_cons (w_ps (ps_setLc (own := own) hc hN hn hl hsw pi_w ok gB_ok tB1_ok eB_ok hs) (lc_read hi Tg hf hT (fun q x b F1 σ' hb sF htg F2 H2 s2 w2 Q k => fun s H' C cl fp => (ht q x b F1 σ' hb sF htg s H' C cl fp).go s2 w2 k) he (Same.refl _) w k))
theorem lcO_pure0 {f : α → β} : ∀ xs : List α, lcO (fun _ => some true) (fun x => some (f x)) xs = some (xs.map f)
  | [] => rfl
  | x :: r => by
    show bd (some true) _ = _
    rw [bd_eq, if_pos rfl, bd_eq, lcO_pure0 r]
    rfl
end
end Z

namespace Z
open PySem PySem.Spec PyProof.Rows L2
/-! ### sorted(set(xs)), ints, below 4095 of them -/
section
variable {P : Program} {w : World} {A : Around} {E : Value → Shared → Prop} {s : Shared}
/-- a new set -/
abbrev eS (w : World) : Obj := { cls := .type "set", dict := none, data := .set #[] 0 (.fresh 0 0 (!w.params.followText "set-order")) }
/-- what is known of the set behind -/
def SetIs (w : World) (h : Heap) (ns : List Int) (h' : Heap) : Prop :=
  (∃ c, c ≤ ns.length ∧ SetR w h' h.objs.size (fun j => decide (j ∈ ns)) c) ∧ ∀ b o, h.get? b = some o → h'.get? b = some o
theorem get_push {h : Heap} {u : Obj} {b : Addr} {o : Obj} (e : h.get? b = some o) : (h.push u).get? b = some o := Heap.get?_push_of_some _ e
/-- the set's filling -/
theorem set_fill {l : Addr} {its : Array Value} {ns : List Int} {Q : Unit → Shared → Prop} (hh : A.handled = none) (hl : s.heap.IsList l its) (hi : IntsAre its.toList ns) (hb : ns.length + 1 < scanBound)
    (q : ∀ h' tk, SetIs w s.heap ns h' → Q () { s with heap := h', toks := tk }) :
    wpAny (model P w) A (Builtin.Frozenset.updateFrom "set.__init__" s.heap.objs.size (.ref l)) Q E { s with heap := s.heap.push (eS w) } := by
  obtain ⟨⟨cl, od, dt, sl⟩, ho, hc, n, hd⟩ := hl
  simp only at hc hd
  subst hc hd
  have k0 := get_push (u := eS w) ho
  have kS : (s.heap.push (eS w)).get? s.heap.objs.size = some (eS w) := Heap.get?_push_size _ rfl
  have z1 := F.sub_list_set
  have z2 := F.sub_list_frozenset
  have z3 : (Value.type "list" == Value.type "dict") = false := by decide
  unfold Builtin.Frozenset.updateFrom
  generalize hp : pyIter = pi
  wp_walk
  subst hp
  have i1 : its.size = ns.length := (Array.length_toList ▸ hi.length :)
  have lt : l < s.heap.objs.size := Heap.lt_size ho
  have zz : (s.heap.push (eS w)).objs.size = s.heap.objs.size + 1 := Heap.size_push ..
  refine wpAny_pyIter_list ⟨_, k0, rfl, n, rfl⟩ (wpAny_bind (wpAny_runValue ?_))
  have at' : ∀ (i : Nat) (v : Value), its[i]? = some v → ∃ k t, ns[i]? = some k ∧ v = Value.int k t := fun i v hv => by
    have hb := (Array.getElem?_eq_some_iff.mp hv).1
    obtain ⟨t, e⟩ := hi.int_at i v (by rw [Array.getElem?_toList]; exact hv)
    have g := List.getElem?_eq_getElem (i1 ▸ hb : i < ns.length)
    exact ⟨_, t, g, by rw [e, List.getD_eq_getElem?_getD, g]; rfl⟩
  have ne1 : l ≠ (s.heap.push (eS w)).objs.size := Nat.ne_of_lt (zz ▸ Nat.lt_succ_of_lt lt)
  have hn : s.heap.objs.size ∉ [(s.heap.push (eS w)).objs.size, l] := by
    simp only [List.mem_cons, List.not_mem_nil, or_false, not_or]
    exact ⟨Nat.ne_of_lt (zz ▸ Nat.lt_succ_self _), Nat.ne_of_gt lt⟩
  have W := (Walks.list (prog := P) (w := w) (A := A.in1) hh _ l ne1 its).toS
  refine set_update_ints W s.heap.objs.size hn ns i1 hb at' its.size 0 _ (by omega) (Nat.zero_le _) ⟨⟨_, Heap.get?_push_size _ rfl, rfl, rfl⟩, ⟨_, get_push k0, rfl, n, rfl⟩⟩ ⟨0, Nat.le_refl 0, setR_new_at (get_push kS)⟩ fun s' c m hc r => ?_
  have e : s' = { s with heap := s'.heap, toks := s'.toks } := by
    have h1 := m.gens
    have h2 := m.drawn
    have h3 := m.os
    cases s'
    cases s
    cases h1
    cases h2
    cases h3
    rfl
  refine wpAny_pure ?_
  rw [e]
  refine q _ _ ⟨⟨c, i1 ▸ hc, r⟩, fun b o hb => m.heap b o ?_ (get_push (get_push hb))⟩
  have lb := Heap.lt_size hb
  simp only [List.mem_cons, List.not_mem_nil, or_false, not_or]
  exact ⟨Nat.ne_of_lt lb, Nat.ne_of_lt (zz ▸ Nat.lt_succ_of_lt lb)⟩
/-- set(l) -/
theorem set_of_list {l : Addr} {its : Array Value} {ns : List Int} {Q : Value → Shared → Prop} (hh : A.handled = none) (hl : s.heap.IsList l its) (hi : IntsAre its.toList ns) (hb : ns.length + 1 < scanBound)
    (q : ∀ h' tk, SetIs w s.heap ns h' → Q (.ref s.heap.objs.size) { s with heap := h', toks := tk }) : wpAny (model P w) A (call (.type "set") [.ref l]) Q E s := by
  refine wpAny_call (codeAny_of_tree ?_)
  show wpAny _ _ (callAny (.type "set") _) _ _ _
  refine wpAny_pure ⟨Code.quiet_builtin _ (by decide +kernel), codeAny_builtin F.entry_type_call ?_⟩
  rw [Around.under_plain rfl rfl]
  obtain ⟨_, _, m⟩ := F.called_set.mro
  have m2 := F.called_set.made
  have m3 := F.called_set.sub
  have m4 := F.called_set.notType
  have m5 := F.called_set.canCreate
  have m6 := F.typeCall_set_1 (.ref l)
  repeat (any_goals (first | assumption | wp_step))
  refine codeAny_mono (code_set_led1 (.ref l) (E := E) (Q₁ := fun o s1 => o = .ref s.heap.objs.size ∧ s1 = { s with heap := s.heap.push (eS w) }) ⟨rfl, rfl⟩) fun r s1 h => ?_
  match r, h with
  | .error e, h => exact h
  | .ok (.ret o), h =>
    obtain ⟨rfl, rfl⟩ := h
    have kS : (s.heap.push (eS w)).get? s.heap.objs.size = some (eS w) := Heap.get?_push_size _ rfl
    have hT : Shared.TypeIs { s with heap := s.heap.push (eS w) } (.ref s.heap.objs.size) "set" := ⟨_, kS, rfl⟩
    have m7 := F.called_set.init.lookup
    have m8 := F.called_set.init.bind (.ref s.heap.objs.size)
    repeat (any_goals (first | assumption | wp_step))
    refine codeAny_mono (codeAny_call_builtin (R := wants (fun r s2 => r = .none ∧ ∃ h' tk, s2 = { s with heap := h', toks := tk } ∧ SetIs w s.heap ns h') E) F.called_set.init.plain F.entry_set_init (check_set_init_1 hT ?_)) fun r2 s2 h2 => ?_
    · unfold Builtin.«set.__init__» noKeywords
      generalize hu : Builtin.Frozenset.updateFrom = uf
      wp_walk
      subst hu
      exact set_fill (by simpa using hh) hl hi hb fun h' tk r => wpAny_pure ⟨rfl, h', tk, rfl, r⟩
    · match r2, h2 with
      | .error e, h2 => exact h2
      | .ok (.ret o), h2 =>
        obtain ⟨rfl, h', tk, rfl, hq⟩ := h2
        repeat (any_goals (first | assumption | wp_step))
        exact q _ _ hq
end
/-- sorted(a), a set -/
theorem sorted_any {P : Program} {w : World} {A : Around} {E : Value → Shared → Prop} {s : Shared} {a : Addr} {S : Int → Bool} {n : Nat} {Q : Value → Shared → Prop} (R : SetR w s.heap a S n) (hh : A.handled = none)
    (q : ∀ s' p (out : List Value) (c : Nat) (ns : List Int), (∀ b o, s.heap.get? b = some o → s'.heap.get? b = some o) → s'.gens = s.gens → s'.os = s.os → s.heap.objs.size ≤ p → s'.heap.get? p = some (seqObj "list" out.toArray c) →
      IntsAre out ns → ns.Pairwise (· < ·) → (∀ k, k ∈ ns ↔ S k = true) → ns.length ≤ sizeLine → Q (.ref p) s') : wpAny (model P w) A (call (.builtin "sorted") [.ref a]) Q E s := by
  obtain ⟨o, es, ep, t, ho, he, hd, g, nd, mm, hb, hf, _, hr, hl⟩ := R
  refine Calls.call_function_entry kind_sorted plain_sorted entry_sorted (args_sorted1 _) ?_
  unfold Builtin.«sorted»
  refine wpAny_bind (m := checkCount "sorted" 1 1 _) (wpAny_pure ?_)
  have kk : ∀ v ∈ es.toList.map (·.2), ∃ i u, v = Value.int i u := fun v hv => by
    obtain ⟨x, hx, e⟩ := List.mem_map.mp hv
    obtain ⟨i, u, e1, _⟩ := g x hx
    exact ⟨i, u, e.symm.trans e1⟩
  refine wpAny_bind (collect_set (A := A.in1) hh ⟨o, ho, he.1, hd⟩ hf hb hr hl fun s1 vs k1 z1 g1 o1 pm => ?_)
  have vi : IntsAre vs (vs.map SrtO.iv) := SrtO.ints_iv fun v hv => kk v (pm.mem_iff.mp hv)
  have vz : vs.length ≤ sizeLine := by
    rw [pm.length_eq, List.length_map, Array.length_toList]
    exact fits_of_scanBound hb
  have ee : (es.toList.map (·.2)).map SrtO.iv = es.toList.map keyOf := by
    rw [List.map_map]
    refine List.map_congr_left fun x hx => ?_
    obtain ⟨i, u, e1, _⟩ := g x hx
    show SrtO.iv x.2 = Builtin.Re.reRawOf x.2
    rw [e1]
    rfl
  refine wpAny_bind (wpAny_newList ?_ vz)
  have hm : (s1.heap.push (seqObj "list" vs.toArray 0)).get? s1.heap.objs.size = some (seqObj "list" vs.toArray 0) := Heap.get?_push_size _ rfl
  refine wpAny_bind (wpAny_holding (wpAny_call_entry slot_list_sort ⟨_, hm, rfl⟩ entry_list_sort (SrtO.list_sort_ord SrtO.swo_int hm vz (fun h2 => SrtO.ints_sortable vi h2) fun out h1 h2 => ⟨_, rfl, ?_⟩) (args_list_sort _)))
  obtain ⟨c, hc⟩ := sortedHeap_at (vs := vs) (out := out.toArray) hm
  obtain ⟨x1, x2, x3⟩ := SrtO.ints_out vi h1 h2
  have pn : (out.map SrtO.iv).Perm (es.toList.map keyOf) := ee ▸ x2.trans (pm.map SrtO.iv)
  refine wpAny_pure ⟨_, rfl, q _ _ out c _ (fun b u e => ?_) g1 o1 z1 hc x1 (lt_of_le_nodup _ x3 (pn.nodup_iff.mpr nd)) (fun k => by rw [pn.mem_iff, mm k]) ?_⟩
  · have e1 := k1 b u e
    have lb := Heap.lt_size e1
    exact (sortedHeap_old (Nat.ne_of_lt lb) (by rw [Heap.size_push]; exact Nat.lt_succ_of_lt lb)).trans (get_push e1)
  · rw [List.length_map, h2.perm.length_eq]
    exact vz
end Z

namespace Z
open PySem PySem.Spec L2
/-! ### data and their equality -/
structure Enc {α : Type} [DecidableEq α] (e : α → PyData) (n : Nat) : Prop where
  lay : ∀ x, (e x).canLay0 = true
  dep : ∀ x, (e x).depth ≤ n
  eq : ∀ x y, PyData.eqv (e x) (e y) = decide (x = y)
def DV {α : Type} (W : Vw α) (e : α → PyData) : Prop := ∀ (K : PySem.W.Frag) F Os H v x, Wf F Os H → W.r F Os v x → Dp K H v (e x)
def DR {α : Type} (R : Rep α) (e : α → PyData) : Prop := ∀ (K : PySem.W.Frag) F H v x, Same F H → R.r F v x → Dp K H v (e x)
section
variable {α β γ : Type} [DecidableEq α] [DecidableEq β] [DecidableEq γ] {R : Rep α} {S : Rep β} {T : Rep γ} {e : α → PyData} {f : β → PyData} {g : γ → PyData} {n m k : Nat}
def dI : Int → PyData := .int
def dB : Bool → PyData := .bool
def dO (e : α → PyData) : Option α → PyData
  | none => .none
  | some x => e x
def dL (e : α → PyData) (xs : List α) : PyData := .list (xs.map e)
def dU (e : α → PyData) (xs : List α) : PyData := .tuple (xs.map e)
def d2 (e : α → PyData) (f : β → PyData) (x : α × β) : PyData := .tuple [e x.1, f x.2]
def d3 (e : α → PyData) (f : β → PyData) (g : γ → PyData) (x : α × β × γ) : PyData := .tuple [e x.1, f x.2.1, g x.2.2]
theorem enc_I : Enc dI 0 := ⟨fun x => rfl, fun x => Nat.le_refl _, fun x y => by
  show (PyData.int x).eqv (.int y) = _
  rw [PyData.eqv, Bool.beq_eq_decide_eq]⟩
theorem enc_B : Enc dB 0 := ⟨fun x => rfl, fun x => Nat.le_refl _, fun x y => by
  show (PyData.bool x).eqv (.bool y) = _
  rw [PyData.eqv, Bool.beq_eq_decide_eq]⟩
theorem lay_all (h : ∀ x, (e x).canLay0 = true) : ∀ xs : List α, PyData.canLayAll0 (xs.map e) = true
  | [] => rfl
  | x :: r => by
    rw [List.map_cons, PyData.canLayAll0, h x, lay_all h r]
    rfl
theorem dep_all (h : ∀ x, (e x).depth ≤ n) : ∀ xs : List α, PyData.depthAll (xs.map e) ≤ n
  | [] => Nat.zero_le _
  | x :: r => by
    rw [List.map_cons, PyData.depthAll]
    have := h x
    have := dep_all h r
    omega
theorem eqv_all (h : ∀ x y, PyData.eqv (e x) (e y) = decide (x = y)) : ∀ xs ys : List α, PyData.eqvAll (xs.map e) (ys.map e) = decide (xs = ys)
  | [], [] => rfl
  | [], y :: ys => by simp [PyData.eqvAll]
  | x :: xs, [] => by simp [PyData.eqvAll]
  | x :: xs, y :: ys => by
    rw [List.map_cons, List.map_cons, PyData.eqvAll, h, eqv_all h xs ys, ← Bool.decide_and]
    exact decide_eq_decide.mpr (by simp)
theorem enc_L (h : Enc e n) : Enc (dL e) (n + 1) := ⟨fun x => by
    show (PyData.list _).canLay0 = true
    rw [PyData.canLay0, lay_all h.lay x], fun x => by
    show (PyData.list _).depth ≤ _
    rw [PyData.depth]
    have := dep_all h.dep x
    omega, fun x y => by
    show (PyData.list _).eqv (.list _) = _
    rw [PyData.eqv, eqv_all h.eq]⟩
theorem enc_U (h : Enc e n) : Enc (dU e) (n + 1) := ⟨fun x => by
    show (PyData.tuple _).canLay0 = true
    rw [PyData.canLay0, lay_all h.lay x], fun x => by
    show (PyData.tuple _).depth ≤ _
    rw [PyData.depth]
    have := dep_all h.dep x
    omega, fun x y => by
    show (PyData.tuple _).eqv (.tuple _) = _
    rw [PyData.eqv, eqv_all h.eq]⟩
theorem enc_2 (h : Enc e n) (h' : Enc f m) : Enc (d2 e f) (max n m + 1) := ⟨fun x => by
    show (PyData.tuple [_, _]).canLay0 = true
    simp [PyData.canLay0, PyData.canLayAll0, h.lay, h'.lay], fun x => by
    show (PyData.tuple [_, _]).depth ≤ _
    have := h.dep x.1
    have := h'.dep x.2
    simp [PyData.depth, PyData.depthAll]
    omega, fun x y => by
    show (PyData.tuple [_, _]).eqv (.tuple [_, _]) = _
    simp [PyData.eqv, PyData.eqvAll, h.eq, h'.eq, Prod.ext_iff]⟩
theorem enc_3 (h : Enc e n) (h' : Enc f m) (h2 : Enc g k) : Enc (d3 e f g) (max n (max m k) + 1) := ⟨fun x => by
    show (PyData.tuple [_, _, _]).canLay0 = true
    simp [PyData.canLay0, PyData.canLayAll0, h.lay, h'.lay, h2.lay], fun x => by
    show (PyData.tuple [_, _, _]).depth ≤ _
    have := h.dep x.1
    have := h'.dep x.2.1
    have := h2.dep x.2.2
    simp [PyData.depth, PyData.depthAll]
    omega, fun x y => by
    show (PyData.tuple [_, _, _]).eqv (.tuple [_, _, _]) = _
    simp [PyData.eqv, PyData.eqvAll, h.eq, h'.eq, h2.eq, Prod.ext_iff]⟩
theorem enc_O (h : Enc e n) (hn : ∀ x, PyData.eqv (e x) .none = false ∧ PyData.eqv .none (e x) = false) : Enc (dO e) n := ⟨fun x => by
    cases x with
    | none => rfl
    | some y => exact h.lay y, fun x => by
    cases x with
    | none => exact Nat.zero_le _
    | some y => exact h.dep y, fun x y => by
    cases x with
    | none =>
      cases y with
      | none => show PyData.eqv .none .none = _; simp [PyData.eqv]
      | some y => show PyData.eqv .none (e y) = _; rw [(hn y).2]; simp
    | some x =>
      cases y with
      | none => show PyData.eqv (e x) .none = _; rw [(hn x).1]; simp
      | some y => show PyData.eqv (e x) (e y) = _; rw [h.eq]; simp⟩
theorem Enc.shaped (h : Enc e n) (hn : n ≤ 64) (x : α) : SeqAt.shaped (e x) = true := by
  unfold SeqAt.shaped
  rw [h.lay x, decide_eq_true (Nat.le_trans (h.dep x) hn)]
  rfl
theorem DR.v {α : Type} {R : Rep α} {e : α → PyData} (h : DR R e) : DV R.v e := fun K F Os H v x w r => h K F H v x w.sub r
theorem dr_I : DR rInt dI := fun K F H v x s r => by
  cases (show v = V.int x from r)
  exact .int x
theorem dr_B : DR rBool dB := fun K F H v x s r => by
  cases (show v = V.bl x from r)
  exact .bl x
theorem dp_all {α : Type} {R : Rep α} {e : α → PyData} {K : PySem.W.Frag} {F H : Hp} (h : DR R e) (s : Same F H) : ∀ {vs : List V} {xs : List α}, Paired (R.r F) vs xs → DpAll K H vs (xs.map e)
  | _, _, .nil => .nil
  | _, _, .cons r t => .cons (h K F H _ _ s r) (dp_all h s t)
theorem dv_L {α : Type} {R : Rep α} {e : α → PyData} (h : DR R e) : DV (vList R) (dL e) := fun K F Os H v x w r => by
  obtain ⟨p, o, rfl, h1, vs, rfl, h2⟩ := vOf.get w r
  exact .lst (.of h1) (dp_all h w.sub h2)
theorem dr_L {α : Type} {R : Rep α} {e : α → PyData} (h : DR R e) : DR (rList R) (dL e) := fun K F H v x s r => by
  obtain ⟨p, o, rfl, h1, vs, rfl, h2⟩ := r
  exact .lst (.of (s _ _ h1)) (dp_all h s h2)
theorem dr_U {α : Type} {R : Rep α} {e : α → PyData} (h : DR R e) : DR (rTup R) (dU e) := fun K F H v x s r => by
  obtain ⟨p, vs, rfl, h1, h2⟩ := r
  exact .tup (.of (s _ _ h1)) (dp_all h s h2)
theorem dr_2 {α β : Type} {R : Rep α} {S : Rep β} {e : α → PyData} {f : β → PyData} (h : DR R e) (h' : DR S f) : DR (rT2 R S) (d2 e f) := fun K F H v x s r => by
  obtain ⟨p, u1, u2, rfl, h1, h2, h3⟩ := r
  exact .tup (.of (s _ _ h1)) (.cons (h K F H _ _ s h2) (.cons (h' K F H _ _ s h3) .nil))
theorem dr_3 {α β γ : Type} {R : Rep α} {S : Rep β} {T : Rep γ} {e : α → PyData} {f : β → PyData} {g : γ → PyData} (h : DR R e) (h' : DR S f) (h'' : DR T g) : DR (rT3 R S T) (d3 e f g) := fun K F H v x s r => by
  obtain ⟨p, u1, u2, u3, rfl, h1, h2, h3, h4⟩ := r
  exact .tup (.of (s _ _ h1)) (.cons (h K F H _ _ s h2) (.cons (h' K F H _ _ s h3) (.cons (h'' K F H _ _ s h4) .nil)))
theorem dr_O {α : Type} {R : Rep α} {e : α → PyData} (h : DR R e) : DR (rOpt R) (dO e) := fun K F H v x s r => by
  cases x with
  | none =>
    cases (show v = V.non from r)
    exact .non
  | some y => exact h K F H v y s r.1
variable {X : Cx} {W U : Vw α} {V' : Vw (List α)}
theorem cp_eqD (he : Enc e n) (h1 : DV W e) (h2 : DV U e) (hu : X.A.units + 64 < cLine) (hn : n ≤ 64 := by decide) : Cp X .Eq W U (fun x y => decide (x = y)) := ⟨_, op_eqD hu, fun F Os H v u x y Q w r1 r2 q =>
  ⟨_, _, h1 X.K F Os H v x w r1, h2 X.K F Os H u y w r2, he.shaped hn x, he.shaped hn y, by rw [he.eq]; exact q⟩⟩
theorem cp_neD (he : Enc e n) (h1 : DV W e) (h2 : DV U e) (hu : X.A.units + 64 < cLine) (hn : n ≤ 64 := by decide) : Cp X .NotEq W U (fun x y => decide (x ≠ y)) := ⟨_, op_neD hu, fun F Os H v u x y Q w r1 r2 q =>
  ⟨_, _, h1 X.K F Os H v x w r1, h2 X.K F Os H u y w r2, he.shaped hn x, he.shaped hn y, by
    rw [he.eq]
    have q : Q (V.bl (decide (x ≠ y))) _ := q
    rwa [decide_not] at q⟩⟩
theorem any_eqv (he : Enc e n) (x : α) : ∀ ys : List α, ((ys.map e).any fun z => PyData.eqv z (e x)) = decide (x ∈ ys)
  | [] => rfl
  | y :: ys => by
    rw [List.map_cons, List.any_cons, any_eqv he x ys, he.eq, ← Bool.decide_or]
    refine decide_eq_decide.mpr ?_
    rw [List.mem_cons]
    exact or_congr_left eq_comm
theorem cp_inD (he : Enc e n) (h1 : DV W e) (h2 : DV V' (dL e)) (hu : X.A.units + 65 < cLine) (hn : n + 1 ≤ 64 := by decide) : Cp X .In W V' (fun x ys => decide (x ∈ ys)) := ⟨_, op_inD hu, fun F Os H v u x y Q w r1 r2 q =>
  ⟨_, _, h1 X.K F Os H v x w r1, h2 X.K F Os H u y w r2, he.shaped (by omega) x, (enc_L he).shaped hn y, by rw [any_eqv he]; exact q⟩⟩
theorem cp_ninD (he : Enc e n) (h1 : DV W e) (h2 : DV V' (dL e)) (hu : X.A.units + 65 < cLine) (hn : n + 1 ≤ 64 := by decide) : Cp X .NotIn W V' (fun x ys => decide (x ∉ ys)) := ⟨_, op_notInD hu, fun F Os H v u x y Q w r1 r2 q =>
  ⟨_, _, h1 X.K F Os H v x w r1, h2 X.K F Os H u y w r2, he.shaped (by omega) x, (enc_L he).shaped hn y, by
    rw [any_eqv he]
    have q : Q (V.bl (decide (x ∉ y))) _ := q
    rwa [decide_not] at q⟩⟩
end
end Z

namespace Z
open PySem PySem.Spec L2
section
variable {α β γ δ : Type} {X : Cx} {e a b c it tg elt o : Expr} {es ifs : List Expr} {pos p1 p2 p3 p4 : Pos} {σ : St} {F F' H : Hp} {Os Os1 Os2 Os3 : Owns} {W : Vw α} {U : Vw β} {R : Rep α} {S : Rep β} {T : Rep γ} {Y : Rep α} {x x' : α} {y : β} {z : γ} {i j : Int} {k l : Bool} {xs ys zs : List α} {D : Ends} {rest body : List Stmt} {n m : Nat} {nm tn : Str} {v : V} {O : OC}
/-! ### comprehensions whose element changes what is owned: s is told anew each turn -/
def lcS (tO : δ → α → Option Bool) (eO : δ → α → Option (β × δ)) : δ → List α → Option (List β × δ)
  | s, [] => some ([], s)
  | s, x :: r => bd (tO s x) fun b => if b = true then bd (eO s x) fun y => bd (lcS tO eO y.2 r) fun q => some (y.1 :: q.1, q.2) else lcS tO eO s r
theorem lcS_cons {tO : δ → α → Option Bool} {eO : δ → α → Option (β × δ)} {s : δ} {x : α} {r : List α} {ys : List β × δ} (h : lcS tO eO s (x :: r) = some ys) : ∃ b, tO s x = some b ∧ (b = true → ∃ y q, eO s x = some y ∧ lcS tO eO y.2 r = some q ∧ ys = (y.1 :: q.1, q.2)) ∧ (b = false → lcS tO eO s r = some ys) := by
  obtain ⟨b, h1, h2⟩ := bd_some h
  refine ⟨b, h1, fun hb => ?_, fun hb => ?_⟩
  · rw [if_pos hb] at h2
    obtain ⟨y, h3, h4⟩ := bd_some h2
    obtain ⟨ys', h5, h6⟩ := bd_some h4
    exact ⟨y, ys', h3, h5, (Option.some.inj h6).symm⟩
  · rw [if_neg (by rw [hb]; decide)] at h2
    exact h2
theorem lcS_read {scope : Scope} {vs : List Nat} {tt : TT} {s0 s1 : δ} {Oo : δ → Owns} (hi : Ei X tg it σ F Os Y xs (Oo s0)) (Tg : Hp → α → St → Prop) {tO : δ → α → Option Bool} {eO : δ → α → Option (β × δ)} {ys : List β} (hf : lcS tO eO s0 xs = some (ys, s1)) (hT : TgB X scope σ vs tg Y Tg)
    (ht : ∀ q d x b F1 σ', tO d x = some b → Same F F1 → Tg F1 x σ' → ∀ F2 H2, Same F1 F2 → Wf F2 (q :: Oo d) H2 → ∀ Q : Bool → Hp → Prop, (∀ F3 H3, Same F2 F3 → Wf F3 (q :: Oo d) H3 → Q b H3) → tt σ' H2 Q)
    (he : ∀ q d x y d' F1 σ', eO d x = some (y, d') → Same F F1 → Tg F1 x σ' → ∀ s H C cl fp, Ev (BX X scope s H C cl fp) elt σ' F1 (q :: Oo d) S.v y (q :: Oo d')) {F0 H0 : Hp} (t0 : Same F F0) (w0 : Wf F0 Os H0) {Q : VK}
    (q : ∀ p F' H', Same F0 F' → Wf F' ((p, oList S ys) :: Oo s1) H' → Q (.ref p) H') : tLc (Wi X tg it) (gB X scope tg) tt (eB X scope elt) vs σ H0 Q := by
  refine hi.go t0 w0 fun J F1 H1 t1 w1 I => fun Dl hD => ?_
  have hsz := sizeLine_eq
  refine ⟨fun i m H => m = xs.length - i ∧ i ≤ xs.length ∧ ∃ F' acc zs d, Wf F' ((Dl, oList S acc) :: Oo d) H ∧ Same F1 F' ∧ lcS tO eO d (xs.drop i) = some (zs, s1) ∧ ys = acc ++ zs ∧ acc.length ≤ i,
    ⟨xs.length, by simp, Nat.zero_le _, F1, [], ys, s0, w1.new hD ⟨[], rfl, .nil⟩, Same.refl _, hf, rfl, Nat.le_refl _⟩, ?_⟩
  rintro i m H ⟨rfl, hi, F2, acc, zs, d, w2, t2, hf2, rfl, hl2⟩
  by_cases hl : i < xs.length
  · refine .inr ⟨I.go i H (t2.trans w2.sub) hl, fun H => ∃ F' acc' zs' d, Wf F' ((Dl, oList S acc') :: Oo d) H ∧ Same F1 F' ∧ lcS tO eO d (xs.drop (i + 1)) = some (zs', s1) ∧ acc ++ zs = acc' ++ zs' ∧ acc'.length ≤ i + 1, fun H' p => ⟨xs.length - (i + 1), by omega, rfl, hl, p⟩, fun v H3 hy => ?_⟩
    obtain ⟨F3, t3, w3, hv⟩ := I.yld i H v H3 F2 _ t2 w2 hy hl
    have hx : xs[i]? = some xs[i] := List.getElem?_eq_getElem hl
    rw [drop_cons hx] at hf2
    obtain ⟨b, hb, hb1, hb2⟩ := lcS_cons hf2
    refine hT F3 _ H3 v xs[i] w3 (hv _ hx) _ fun σ' htg hw => ⟨hw, ?_⟩
    have sF : Same F F3 := t0.trans (t1.trans (t2.trans t3))
    refine ht (Dl, oList S acc) d xs[i] b F3 σ' hb sF htg F3 H3 (Same.refl _) w3 _ fun F4 H4 t4 w4 => ?_
    cases b with
    | false => exact ⟨F4, acc, zs, d, w4, t2.trans (t3.trans t4), hb2 rfl, rfl, by omega⟩
    | true =>
      obtain ⟨⟨y, d'⟩, ⟨zs', d2⟩, h5, h6, h7⟩ := hb1 rfl
      cases h7
      intro s H' C cl fp
      refine (he (Dl, oList S acc) d xs[i] y d' F3 σ' h5 sF htg s H' C cl fp).go t4 w4 fun u F5 H5 t5 w5 r5 => ?_
      obtain ⟨h7, o, h8, vs, rfl, h9⟩ := w5.at (i := 0) rfl
      refine ⟨vs, h8, by have := I.len; rw [h9.length]; omega, F5, acc ++ [y], zs', d', ?_, t2.trans (t3.trans (t4.trans t5)), h6, by simp, by simp; omega⟩
      exact w5.set (i := 0) rfl ⟨_, rfl, paired_append h9 (.cons r5 .nil)⟩
  · have e : i = xs.length := by omega
    subst e
    rw [List.drop_length] at hf2
    cases hf2
    refine .inl ⟨I.stop H (t2.trans w2.sub), ?_⟩
    rw [List.append_nil] at q
    exact q Dl F2 H (t1.trans t2) w2
theorem evn_lcS0 {scope : Scope} {own : List (Str × Nat)} {s0 s1 : δ} (Oo : δ → Owns) (hi : Ei X tg it σ F Os Y xs (Oo s0)) (Tg : Hp → α → St → Prop) {eO : δ → α → Option (β × δ)} {ys : List β} (hf : lcS (fun _ _ => some true) eO s0 xs = some (ys, s1)) (hT : TgB X scope σ (own.map (·.2)) tg Y Tg)
    (he : ∀ q d x y d' F1 σ', eO d x = some (y, d') → Same F F1 → Tg F1 x σ' → ∀ s H C cl fp, Ev (BX X scope s H C cl fp) elt σ' F1 (q :: Oo d) S.v y (q :: Oo d'))
    (hN : X.N.Nodup) (ok : BlkOk X.N X.env.scope scope own) (hc : X.calm = true := by rfl) (hs : ∀ x, foldedSetIterable it X.env x = pure x := by intro _; rfl) :
    EvN X (.ListComp elt [⟨tg, it, [], 0⟩] scope pos) σ F Os (oList S ys) (Oo s1) := fun F0 H0 s0 w0 Q q =>
  w_pe (pe_lc (own := own) hc hN pi_w ok gB_ok (fun _ _ _ _ _ => pts_nil) eB_ok hs) (lcS_read (tO := fun _ _ => some true) hi Tg hf hT (fun q d x b F1 σ' hb _ _ F2 H2 _ w Q k => by
    cases hb
    exact k F2 H2 (Same.refl _) w) he s0 w0 q)
theorem evn_lcS1 {scope : Scope} {own : List (Str × Nat)} {s0 s1 : δ} (Oo : δ → Owns) (hi : Ei X tg it σ F Os Y xs (Oo s0)) (Tg : Hp → α → St → Prop) {tO : δ → α → Option Bool} {eO : δ → α → Option (β × δ)} {ys : List β} (hf : lcS tO eO s0 xs = some (ys, s1)) (hT : TgB X scope σ (own.map (·.2)) tg Y Tg)
    (ht : ∀ q d x b F1 σ', tO d x = some b → Same F F1 → Tg F1 x σ' → ∀ s H C cl fp, Et (BX X scope s H C cl fp) c σ' F1 (q :: Oo d) b (q :: Oo d))
    (he : ∀ q d x y d' F1 σ', eO d x = some (y, d') → Same F F1 → Tg F1 x σ' → ∀ s H C cl fp, Ev (BX X scope s H C cl fp) elt σ' F1 (q :: Oo d) S.v y (q :: Oo d'))
    (hN : X.N.Nodup) (ok : BlkOk X.N X.env.scope scope own) (hc : X.calm = true := by rfl) (hs : ∀ x, foldedSetIterable it X.env x = pure x := by intro _; rfl) :
    EvN X (.ListComp elt [⟨tg, it, [c], 0⟩] scope pos) σ F Os (oList S ys) (Oo s1) := fun F0 H0 s0 w0 Q q =>
  w_pe (pe_lc (own := own) hc hN pi_w ok gB_ok tB1_ok eB_ok hs) (lcS_read hi Tg hf hT (fun q d x b F1 σ' hb sF htg F2 H2 s2 w2 Q k => fun s H' C cl fp => (ht q d x b F1 σ' hb sF htg s H' C cl fp).go s2 w2 k) he s0 w0 q)
theorem ws_setLcS0 {scope : Scope} {own : List (Str × Nat)} {s0 s1 : δ} (Oo : δ → Owns) (w : Wf F Os H) (hi : Ei X tg it σ F Os Y xs (Oo s0)) (Tg : Hp → α → St → Prop) {eO : δ → α → Option (β × δ)} {ys : List β} (hf : lcS (fun _ _ => some true) eO s0 xs = some (ys, s1)) (hT : TgB X scope σ (own.map (·.2)) tg Y Tg)
    (he : ∀ q d x y d' F1 σ', eO d x = some (y, d') → Same F F1 → Tg F1 x σ' → ∀ s H C cl fp, Ev (BX X scope s H C cl fp) elt σ' F1 (q :: Oo d) S.v y (q :: Oo d'))
    (hN : X.N.Nodup) (ok : BlkOk X.N X.env.scope scope own) (k : ∀ p F1 H1, Same F F1 → Wf F1 ((p, oList S ys) :: Oo s1) H1 → Ws X rest D (σ.set n (some (.ref p))) H1)
    (hsw : swapsWith (.ListComp elt [⟨tg, it, [], 0⟩] scope p3) (some (.Name nm p1)) pos.line X.env = pure true) (hn : X.N[n]? = some nm := by rfl) (hl : X.env.scope.names.lookup nm = some .local := by rfl) (hc : X.calm = true := by rfl) (hs : ∀ x, foldedSetIterable it X.env x = pure x := by intro _; rfl) :
    Ws X (.Assign [.Name nm p1] (.ListComp elt [⟨tg, it, [], 0⟩] scope p3) pos :: rest) D σ H :=
  ws_cons (w_ps (ps_setLc (own := own) hc hN hn hl hsw pi_w ok gB_ok (fun _ _ _ _ _ => pts_nil) eB_ok hs) (lcS_read (tO := fun _ _ => some true) hi Tg hf hT (fun q d x b F1 σ' hb _ _ F2 H2 _ w Q k => by
    cases hb
    exact k F2 H2 (Same.refl _) w) he (Same.refl _) w k))
theorem ws_setLcS1 {scope : Scope} {own : List (Str × Nat)} {s0 s1 : δ} (Oo : δ → Owns) (w : Wf F Os H) (hi : Ei X tg it σ F Os Y xs (Oo s0)) (Tg : Hp → α → St → Prop) {tO : δ → α → Option Bool} {eO : δ → α → Option (β × δ)} {ys : List β} (hf : lcS tO eO s0 xs = some (ys, s1)) (hT : TgB X scope σ (own.map (·.2)) tg Y Tg)
    (ht : ∀ q d x b F1 σ', tO d x = some b → Same F F1 → Tg F1 x σ' → ∀ s H C cl fp, Et (BX X scope s H C cl fp) c σ' F1 (q :: Oo d) b (q :: Oo d))
    (he : ∀ q d x y d' F1 σ', eO d x = some (y, d') → Same F F1 → Tg F1 x σ' → ∀ s H C cl fp, Ev (BX X scope s H C cl fp) elt σ' F1 (q :: Oo d) S.v y (q :: Oo d'))
    (hN : X.N.Nodup) (ok : BlkOk X.N X.env.scope scope own) (k : ∀ p F1 H1, Same F F1 → Wf F1 ((p, oList S ys) :: Oo s1) H1 → Ws X rest D (σ.set n (some (.ref p))) H1)
    (hsw : swapsWith (.ListComp elt [⟨tg, it, [c], 0⟩] scope p3) (some (.Name nm p1)) pos.line X.env = pure true) (hn : X.N[n]? = some nm := by rfl) (hl : X.env.scope.names.lookup nm = some .local := by rfl) (hc : X.calm = true := by rfl) (hs : ∀ x, foldedSetIterable it X.env x = pure x := by intro _; rfl) :
    Ws X (.Assign [.Name nm p1] (.ListComp elt [⟨tg, it, [c], 0⟩] scope p3) pos :: rest) D σ H :=
  ws_cons (w_ps (ps_setLc (own := own) hc hN hn hl hsw pi_w ok gB_ok tB1_ok eB_ok hs) (lcS_read hi Tg hf hT (fun q d x b F1 σ' hb sF htg F2 H2 s2 w2 Q k => fun s H' C cl fp => (ht q d x b F1 σ' hb sF htg s H' C cl fp).go s2 w2 k) he (Same.refl _) w k))
/-- the target of a comprehension: a name; a pair -/
theorem tgb_1 {scope : Scope} (hN : X.N.Nodup) (hn : X.N[n]? = some nm := by rfl) (hx : Loc (relabel scope X.env) nm := by first | exact Or.inl rfl | exact Or.inr rfl) (hf : (relabel scope X.env).names.lookup nm = some .local := by rfl) :
    TgB X scope σ [n] (.Name nm p1) Y (fun F x σ' => ∃ v, σ' = (wipe σ [n]).set n (some v) ∧ Y.r F v x) := fun F3 Os3 H3 v x w r Q q s H C cl fp =>
  wg_name hN (q _ ⟨v, rfl, r⟩ (by
    show (((σ.set n none).set n (some v)).set n none) = σ.set n none
    rw [List.set_set, List.set_set])) hn hx (.inr hf)
theorem wipe2 {σ : St} {n m : Nat} {v1 v2 : V} (h : n ≠ m) : wipe (((wipe σ [n, m]).set n (some v1)).set m (some v2)) [n, m] = wipe σ [n, m] := by
  show (((((σ.set m none).set n none).set n (some v1)).set m (some v2)).set m none).set n none = (σ.set m none).set n none
  refine List.ext_getElem? fun k => ?_
  simp only [List.getElem?_set, List.length_set]
  by_cases h1 : n = k
  · simp [h1]
  · by_cases h2 : m = k
    · simp [h1, h2]
    · simp [h1, h2]
theorem tgb_2 {scope : Scope} {nm2 : Str} {d : Nat} {pt : Pos} (hN : X.N.Nodup) (hnm : n ≠ m) (hn : X.N[n]? = some nm := by rfl) (hx : Loc (relabel scope X.env) nm := by first | exact Or.inl rfl | exact Or.inr rfl) (hf : (relabel scope X.env).names.lookup nm = some .local := by rfl)
    (hn2 : X.N[m]? = some nm2 := by rfl) (hx2 : Loc (relabel scope X.env) nm2 := by first | exact Or.inl rfl | exact Or.inr rfl) (hf2 : (relabel scope X.env).names.lookup nm2 = some .local := by rfl) (hc : X.calm = true := by rfl)
    (hl : ∀ env : Env, (assignEach [.Name nm p1, .Name nm2 p2] env).length = 2 := by intro _; rfl) (hst : ∀ env : Env, (assignEach [.Name nm p1, .Name nm2 p2] env).findIdx? (·.1) = none := by intro _; rfl) :
    TgB X scope σ [n, m] (.Tuple [.Name nm p1, .Name nm2 p2] d pt) (rT2 R S) (fun F x σ' => ∃ v1 v2, σ' = ((wipe σ [n, m]).set n (some v1)).set m (some v2) ∧ R.r F v1 x.1 ∧ S.r F v2 x.2) := fun F3 Os3 H3 v x w r Q q s H C cl fp =>
  wg_t2 r w (fun v1 v2 r1 r2 => wg_name hN (wg_name hN (q _ ⟨v1, v2, rfl, r1, r2⟩ (wipe2 hnm)) hn2 hx2 (.inr hf2)) hn hx (.inr hf)) hc (hl _) (hst _)
/-! ### slices -/
def cut (xs : List α) (lo hi : Option Int) : List α := (xs.drop (HT.sIx xs.length 0 lo)).take (HT.sIx xs.length xs.length hi - HT.sIx xs.length 0 lo)
theorem paired_drop {α β : Type} {P : α → β → Prop} : ∀ {xs : List α} {ys : List β} (i : Nat), Paired P xs ys → Paired P (xs.drop i) (ys.drop i)
  | _, _, 0, h => h
  | _, _, _ + 1, .nil => .nil
  | _, _, i + 1, .cons _ t => paired_drop i t
theorem paired_take {α β : Type} {P : α → β → Prop} : ∀ {xs : List α} {ys : List β} (i : Nat), Paired P xs ys → Paired P (xs.take i) (ys.take i)
  | _, _, 0, _ => .nil
  | _, _, _ + 1, .nil => .nil
  | _, _, i + 1, .cons r t => .cons r (paired_take i t)
def Eo (X : Cx) (o : Option Expr) (σ : St) (F : Hp) (Os : Owns) (i : Option Int) : Prop :=
  ∃ t, PO X o t ∧ ∀ F1 H, Same F F1 → Wf F1 Os H → ∀ Q : Option Int → Hp → Prop, (∀ F' H', Same F1 F' → Wf F' Os H' → Q i H') → t σ H Q
theorem eo_none : Eo X none σ F Os none := ⟨_, po_none, fun F1 H s w Q q => q F1 H (Same.refl _) w⟩
theorem eo_some (h : Ev X e σ F Os rInt.v i Os) : Eo X (some e) σ F Os (some i) := ⟨_, po_some pe_w, fun F1 H s w Q q => h.go s w fun v F2 H2 s2 w2 r2 => ⟨i, r2, q F2 H2 s2 w2⟩⟩
theorem evn_cut {lo hi : Option Expr} {u t : Option Int} (ha : Ev X a σ F Os (vList R) xs Os1) (hl : Eo X lo σ F Os1 u) (hh : Eo X hi σ F Os1 t) : EvN X (.Subscript a (.Slice lo hi none p2) pos) σ F Os (oList R (cut xs u t)) Os1 := fun F1 H s w Q q => by
  obtain ⟨t1, h1, g1⟩ := hl
  obtain ⟨t2, h2, g2⟩ := hh
  refine w_pe (pe_slice sl_list pe_w h1 h2) (ha.go s w fun v F2 H2 s2 w2 r2 => g1 F2 H2 (s.trans s2) w2 _ fun F3 H3 s3 w3 => g2 F3 H3 (s.trans (s2.trans s3)) w3 _ fun F4 H4 s4 w4 => ?_)
  obtain ⟨p, o, e1, g, vs, e2, q2⟩ := vOf.get w4 ((vOf (oList R)).mono (s3.trans s4) r2)
  subst e2
  refine ⟨p, vs, e1, .of g, fun pp hp => q pp F4 _ (s2.trans (s3.trans s4)) (w4.new hp ⟨_, rfl, ?_⟩)⟩
  unfold cut cutV
  rw [q2.length]
  exact paired_take _ (paired_drop _ q2)
/-! ### built-in functions that give new objects -/
theorem evn_cb1 {id : String} {r : List V → Hp → VK → Prop} (hc : CallR X (.builtin id) r) (ha : Ev X a σ F Os W x Os1)
    (hr : ∀ F H v (Q : VK), Wf F Os1 H → W.r F Os1 v x → (∀ p F' H', Same F F' → Wf F' ((p, O) :: Os2) H' → Q (.ref p) H') → r [v] H Q)
    (hg : Gl X nm) (hm : X.mg nm = none) (hv : bootBuiltins nm = some (.builtin id)) (hn : nm ≠ "__name__" := by decide) (hdb : (nm == ("__debug__" : Str)) = false := by decide)
    (he : starEach [a] X.env = (false, eval a X.env) :: starEach [] X.env := by rfl) (hpl : (backTo pos (starEach [] X.env)).any (·.1) = false := by rfl) : EvN X (.Call (.Name nm p1) [a] [] pos) σ F Os O Os2 := fun F1 H s w Q q =>
  w_pe (pe_callB hc hg hm hv (pa_cons pe_w pa_nil he) hn hdb he hpl) (ha.go s w fun v F2 H2 s2 w2 r2 => hr F2 H2 v Q w2 r2 fun u F3 H3 s3 w3 => q u F3 H3 (s2.trans s3) w3)
theorem evn_ct1 {id : String} {r : List V → Hp → VK → Prop} (hc : CallR X (.type id) r) (ha : Ev X a σ F Os W x Os1)
    (hr : ∀ F H v (Q : VK), Wf F Os1 H → W.r F Os1 v x → (∀ p F' H', Same F F' → Wf F' ((p, O) :: Os2) H' → Q (.ref p) H') → r [v] H Q)
    (hg : Gl X nm) (hm : X.mg nm = none) (hv : bootBuiltins nm = some (.type id)) (hn : nm ≠ "__name__" := by decide) (hdb : (nm == ("__debug__" : Str)) = false := by decide)
    (he : starEach [a] X.env = (false, eval a X.env) :: starEach [] X.env := by rfl) (hpl : (backTo pos (starEach [] X.env)).any (·.1) = false := by rfl) : EvN X (.Call (.Name nm p1) [a] [] pos) σ F Os O Os2 := fun F1 H s w Q q =>
  w_pe (pe_callTy hc hg hm hv (pa_cons pe_w pa_nil he) hn hdb he hpl) (ha.go s w fun v F2 H2 s2 w2 r2 => hr F2 H2 v Q w2 r2 fun u F3 H3 s3 w3 => q u F3 H3 (s2.trans s3) w3)
theorem evn_listL (ha : Ev X a σ F Os (vList R) xs Os1) (hm : X.mg "list" = none) (hg : Gl X "list" := by rfl) (he : starEach [a] X.env = (false, eval a X.env) :: starEach [] X.env := by rfl) (hpl : (backTo pos (starEach [] X.env)).any (·.1) = false := by rfl) : EvN X (.Call (.Name "list" p1) [a] [] pos) σ F Os (oList R xs) Os1 :=
  evn_ct1 call_list_of ha (fun F H v Q w r q => by
    obtain ⟨p, o, e1, h1, vs, e2, h2⟩ := vOf.get w r
    cases e1; cases e2
    exact ⟨p, vs, rfl, .inl (.of h1), fun l hl => q l F _ (Same.refl _) (w.new hl ⟨vs, rfl, h2⟩)⟩) hg hm (by decide +kernel) (by decide) (by decide) he hpl
theorem evn_listT (ha : Ev X a σ F Os (rTup R).v xs Os1) (hm : X.mg "list" = none) (hg : Gl X "list" := by rfl) (he : starEach [a] X.env = (false, eval a X.env) :: starEach [] X.env := by rfl) (hpl : (backTo pos (starEach [] X.env)).any (·.1) = false := by rfl) : EvN X (.Call (.Name "list" p1) [a] [] pos) σ F Os (oList R xs) Os1 :=
  evn_ct1 call_list_of ha (fun F H v Q w r q => by
    obtain ⟨p, vs, e1, h1, h2⟩ := r
    cases e1
    exact ⟨p, vs, rfl, .inr (.of (w.sub _ _ h1)), fun l hl => q l F _ (Same.refl _) (w.new hl ⟨vs, rfl, h2⟩)⟩) hg hm (by decide +kernel) (by decide) (by decide) he hpl
theorem ev_tupL (ha : Ev X a σ F Os (vList R) xs Os1) (hm : X.mg "tuple" = none) (hg : Gl X "tuple" := by rfl) (he : starEach [a] X.env = (false, eval a X.env) :: starEach [] X.env := by rfl) (hpl : (backTo pos (starEach [] X.env)).any (·.1) = false := by rfl) : Ev X (.Call (.Name "tuple" p1) [a] [] pos) σ F Os (rTup R).v xs Os1 :=
  ev_ct1 call_tuple_of ha (fun F H v Q w r q => by
    obtain ⟨p, o, e1, h1, vs, e2, h2⟩ := vOf.get w r
    cases e1; cases e2
    exact ⟨p, vs, rfl, .inl ⟨.of h1, fun l hl => q _ _ _ (w.frozS hl) (w.froz hl) ⟨l, vs, rfl, upd_same, paired_mono (fun _ _ t => R.mono (w.frozS hl) t) h2⟩⟩⟩) hg hm (by decide +kernel) (by decide) (by decide) he hpl
theorem paired_int {F : Hp} : ∀ {vs : List V} {ns : List Int}, Paired (rInt.r F) vs ns → vs = ns.map V.int
  | _, _, .nil => rfl
  | _, _, .cons r t => by rw [show _ = V.int _ from r, paired_int t]; rfl
theorem paired_int2 {F : Hp} : ∀ ns : List Int, Paired (rInt.r F) (ns.map V.int) ns
  | [] => .nil
  | n :: r => .cons rfl (paired_int2 r)
theorem ev_sum {xs : List Int} (ha : Ev X a σ F Os (vList rInt) xs Os1) (hm : X.mg "sum" = none) (hc : X.calm = true := by rfl) (hg : Gl X "sum" := by rfl) (he : starEach [a] X.env = (false, eval a X.env) :: starEach [] X.env := by rfl) (hpl : (backTo pos (starEach [] X.env)).any (·.1) = false := by rfl) : Ev X (.Call (.Name "sum" p1) [a] [] pos) σ F Os rInt.v xs.sum Os1 :=
  ev_cb1 (cr_sum hc) ha (fun F H v Q w r q => by
    obtain ⟨p, o, e1, h1, vs, e2, h2⟩ := vOf.get w r
    cases e1; cases e2
    exact ⟨p, xs, rfl, .of (paired_int h2 ▸ h1), q _ F H (Same.refl _) w rfl⟩) hg hm (by decide +kernel) (by decide) (by decide) he hpl
def maxL : List Int → Option Int
  | [] => none
  | x :: r => some (r.foldl max x)
def minL : List Int → Option Int
  | [] => none
  | x :: r => some (r.foldl min x)
theorem foldl_max (r : List Int) : ∀ x : Int, (r.foldl max x = x ∨ r.foldl max x ∈ r) ∧ x ≤ r.foldl max x ∧ ∀ y ∈ r, y ≤ r.foldl max x := by
  induction r with
  | nil => intro x; exact ⟨.inl rfl, Int.le_refl _, fun y h => absurd h (by simp)⟩
  | cons z r ih =>
    intro x
    obtain ⟨h1, h2, h3⟩ := ih (max x z)
    refine ⟨?_, Int.le_trans (Int.le_max_left x z) h2, fun y hy => ?_⟩
    · rcases h1 with h1 | h1
      · rw [List.foldl_cons, h1]
        rcases Int.le_total x z with h | h
        · right; rw [Int.max_eq_right h]; exact List.mem_cons_self
        · left; rw [Int.max_eq_left h]
      · exact .inr (List.mem_cons_of_mem _ h1)
    · rcases List.mem_cons.mp hy with rfl | hy
      · exact Int.le_trans (Int.le_max_right x y) h2
      · exact h3 y hy
theorem foldl_min (r : List Int) : ∀ x : Int, (r.foldl min x = x ∨ r.foldl min x ∈ r) ∧ r.foldl min x ≤ x ∧ ∀ y ∈ r, r.foldl min x ≤ y := by
  induction r with
  | nil => intro x; exact ⟨.inl rfl, Int.le_refl _, fun y h => absurd h (by simp)⟩
  | cons z r ih =>
    intro x
    obtain ⟨h1, h2, h3⟩ := ih (min x z)
    refine ⟨?_, Int.le_trans h2 (Int.min_le_left x z), fun y hy => ?_⟩
    · rcases h1 with h1 | h1
      · rw [List.foldl_cons, h1]
        rcases Int.le_total x z with h | h
        · left; rw [Int.min_eq_left h]
        · right; rw [Int.min_eq_right h]; exact List.mem_cons_self
      · exact .inr (List.mem_cons_of_mem _ h1)
    · rcases List.mem_cons.mp hy with rfl | hy
      · exact Int.le_trans h2 (Int.min_le_right x y)
      · exact h3 y hy
theorem maxL_spec {ns : List Int} {m : Int} (h : maxL ns = some m) : 0 < ns.length ∧ m ∈ ns ∧ ∀ y ∈ ns, y ≤ m := by
  cases ns with
  | nil => cases h
  | cons x r =>
    cases h
    obtain ⟨h1, h2, h3⟩ := foldl_max r x
    exact ⟨Nat.succ_pos _, List.mem_cons.mpr h1, fun y hy => (List.mem_cons.mp hy).elim (fun e => e ▸ h2) (h3 y)⟩
theorem minL_spec {ns : List Int} {m : Int} (h : minL ns = some m) : 0 < ns.length ∧ m ∈ ns ∧ ∀ y ∈ ns, m ≤ y := by
  cases ns with
  | nil => cases h
  | cons x r =>
    cases h
    obtain ⟨h1, h2, h3⟩ := foldl_min r x
    exact ⟨Nat.succ_pos _, List.mem_cons.mpr h1, fun y hy => (List.mem_cons.mp hy).elim (fun e => e ▸ h2) (h3 y)⟩
theorem ev_maxL {xs : List Int} {t : Int} (h : maxL xs = some t) (ha : Ev X a σ F Os (vList rInt) xs Os1) (hm : X.mg "max" = none) (hc : X.calm = true := by rfl) (hg : Gl X "max" := by rfl) (he : starEach [a] X.env = (false, eval a X.env) :: starEach [] X.env := by rfl) (hpl : (backTo pos (starEach [] X.env)).any (·.1) = false := by rfl) : Ev X (.Call (.Name "max" p1) [a] [] pos) σ F Os rInt.v t Os1 :=
  ev_cb1 (cr_max hc) ha (fun F H v Q w r q => by
    obtain ⟨p, o, e1, h1, vs, e2, h2⟩ := vOf.get w r
    cases e1; cases e2
    obtain ⟨k1, k2, k3⟩ := maxL_spec h
    exact ⟨p, xs, rfl, .of (paired_int h2 ▸ h1), k1, fun m h3 h4 => q _ F H (Same.refl _) w (by rw [Int.le_antisymm (k3 m h3) (h4 t k2)]; rfl)⟩) hg hm (by decide +kernel) (by decide) (by decide) he hpl
theorem ev_minL {xs : List Int} {t : Int} (h : minL xs = some t) (ha : Ev X a σ F Os (vList rInt) xs Os1) (hm : X.mg "min" = none) (hc : X.calm = true := by rfl) (hg : Gl X "min" := by rfl) (he : starEach [a] X.env = (false, eval a X.env) :: starEach [] X.env := by rfl) (hpl : (backTo pos (starEach [] X.env)).any (·.1) = false := by rfl) : Ev X (.Call (.Name "min" p1) [a] [] pos) σ F Os rInt.v t Os1 :=
  ev_cb1 (cr_min hc) ha (fun F H v Q w r q => by
    obtain ⟨p, o, e1, h1, vs, e2, h2⟩ := vOf.get w r
    cases e1; cases e2
    obtain ⟨k1, k2, k3⟩ := minL_spec h
    exact ⟨p, xs, rfl, .of (paired_int h2 ▸ h1), k1, fun m h3 h4 => q _ F H (Same.refl _) w (by rw [Int.le_antisymm (h4 t k2) (k3 m h3)]; rfl)⟩) hg hm (by decide +kernel) (by decide) (by decide) he hpl
end
end Z

namespace Z
open PySem PySem.Spec L2
section
variable {α β γ δ : Type} {X : Cx} {e a b c it tg elt o : Expr} {es ifs : List Expr} {pos p1 p2 p3 p4 : Pos} {σ : St} {F F' H : Hp} {Os Os1 Os2 Os3 : Owns} {W : Vw α} {U : Vw β} {R : Rep α} {S : Rep β} {T : Rep γ} {Y : Rep α} {x x' : α} {y : β} {z : γ} {i j : Int} {k l : Bool} {xs ys zs : List α} {D : Ends} {rest body : List Stmt} {n m : Nat} {nm tn : Str} {v : V} {O : OC}
/-! ### truth of lists -/
theorem et_list (h : Ev X e σ F Os (vList R) xs Os1) (he : ∀ whole, isTrue e X.env whole = (do let v ← whole; standAt e.pos; holding [v] (truthy v)) := by intro _; rfl) : Et X e σ F Os (!xs.isEmpty) Os1 := fun F1 H s w Q q =>
  w_pt (pt_truth pe_w he) (h.go s w fun v F2 H2 s2 w2 r2 => by
    obtain ⟨p, o, e1, h1, vs, e2, h2⟩ := vOf.get w2 r2
    cases e1; cases e2
    exact ⟨_, .inl ⟨vs, .of h1, by cases h2 <;> rfl⟩, q F2 H2 s2 w2⟩)
theorem et_tup (h : Ev X e σ F Os (rTup R).v xs Os1) (he : ∀ whole, isTrue e X.env whole = (do let v ← whole; standAt e.pos; holding [v] (truthy v)) := by intro _; rfl) : Et X e σ F Os (!xs.isEmpty) Os1 := fun F1 H s w Q q =>
  w_pt (pt_truth pe_w he) (h.go s w fun v F2 H2 s2 w2 r2 => by
    obtain ⟨p, vs, e1, h1, h2⟩ := r2
    cases e1
    exact ⟨_, .inr (.inl ⟨vs, .of (w2.sub _ _ h1), by cases h2 <;> rfl⟩), q F2 H2 s2 w2⟩)
theorem et_int (h : Ev X e σ F Os rInt.v i Os1) (he : ∀ whole, isTrue e X.env whole = (do let v ← whole; standAt e.pos; holding [v] (truthy v)) := by intro _; rfl) : Et X e σ F Os (decide (i ≠ 0)) Os1 := fun F1 H s w Q q =>
  w_pt (pt_truth pe_w he) (h.go s w fun v F2 H2 s2 w2 r2 => by
    cases (show v = V.int i from r2)
    exact ⟨_, by
      show decide (i ≠ 0) = (i != 0)
      rw [bne, decide_not, Bool.beq_eq_decide_eq], q F2 H2 s2 w2⟩)
/-! ### owned lists: extend, pop, remove -/
theorem ws_ext (w : Wf F Os H) {l : Addr} (hl : σ[m]? = some (some (.ref l))) (he : Ev X e σ F Os (vList R) xs Os1) (ho : Os1[n]? = some (l, oList R zs)) (h : cat zs xs = some ys) (k : ∀ F1 H1, Same F F1 → Wf F1 (Os1.set n (l, oList R ys)) H1 → Ws X rest D σ H1)
    (hN : X.N[m]? = some nm := by rfl) (hV : Vis X.env.scope nm := by first | exact Or.inl rfl | exact Or.inr (Or.inl rfl) | exact Or.inr (Or.inr rfl)) (hd : (nm == ("__debug__" : Str)) = false := by decide) (hcd : (nm == ("__classdict__" : Str)) = false := by decide)
    (hs : swapsWith (.Call (.Attribute (.Name nm p1) "extend" p2) [e] [] p3) none pos.line X.env = pure false := by rfl) (hb : BmOk X (.Name nm p1) "extend" e [] p2 p3 := by exact ⟨rfl, rfl, rfl, rfl, rfl⟩) (ho0 : Os[n]? = some (l, oList R zs) := by rfl) : Ws X (.Expr (.Call (.Attribute (.Name nm p1) "extend" p2) [e] [] p3) pos :: rest) D σ H := by
  obtain ⟨h1, rfl⟩ := cat_some h
  obtain ⟨_, o0, g0, vs0, e0, _⟩ := w.at ho0
  subst e0
  refine ws_cons (w_ps (ps_expr (pe_bm PySem.F.plainAttrs_list PySem.F.slot_list_extend PySem.F.type_list_extend mt_extend (pe_var hN hV hd hcd) (pa_cons pe_w pa_nil hb.hs) hb.base hb.few hb.line hb.hs hb.plain) hs) ?_)
  refine ⟨_, hl, .inl ⟨rfl, _, .of g0⟩, he.go (Same.refl _) w fun v F1 H1 s1 w1 r1 => ?_⟩
  obtain ⟨_, o, g, vs, e, q⟩ := w1.at ho
  subst e
  obtain ⟨pb, ob, rfl, gb, vb, e, qb⟩ := vOf.get w1 r1
  subst e
  exact ⟨l, pb, vs, vb, rfl, rfl, g, gb, by rw [q.length, qb.length]; exact h1, k F1 _ s1 (w1.set ho ⟨_, rfl, paired_append q qb⟩)⟩
/-- xs.pop() -/
def pop (xs : List α) : Option (α × List α) := bd xs.getLast? fun x => some (x, xs.dropLast)
theorem pop_some {q : α × List α} (h : pop xs = some q) : xs[xs.length - 1]? = some q.1 ∧ q.2 = xs.dropLast := by
  obtain ⟨x, h1, h2⟩ := bd_some h
  cases h2
  rw [List.getLast?_eq_getElem?] at h1
  exact ⟨h1, rfl⟩
theorem paired_dropLast {P : V → α → Prop} : ∀ {vs : List V} {xs : List α}, Paired P vs xs → Paired P vs.dropLast xs.dropLast
  | _, _, .nil => .nil
  | _, _, .cons r .nil => .nil
  | _, _, .cons r (.cons r2 t) => .cons r (paired_dropLast (.cons r2 t))
theorem ev_pop {q : α × List α} (h : pop xs = some q) {l : Addr} (hl : σ[m]? = some (some (.ref l))) (ho : Os[n]? = some (l, oList R xs))
    (hN : X.N[m]? = some nm := by rfl) (hV : Vis X.env.scope nm := by first | exact Or.inl rfl | exact Or.inr (Or.inl rfl) | exact Or.inr (Or.inr rfl)) (hd : (nm == ("__debug__" : Str)) = false := by decide) (hcd : (nm == ("__classdict__" : Str)) = false := by decide)
    (hb : BmOk0 X (.Name nm p1) "pop" p2 p3 := by exact ⟨rfl, rfl⟩) : Ev X (.Call (.Attribute (.Name nm p1) "pop" p2) [] [] p3) σ F Os R.v q.1 (Os.set n (l, oList R q.2)) := fun F1 H s w Q qq => by
  obtain ⟨h1, h2⟩ := pop_some h
  obtain ⟨_, o, g, vs, e, q0⟩ := w.at ho
  subst e
  refine w_pe (pe_bm0 PySem.F.plainAttrs_list PySem.F.slot_list_pop PySem.F.type_list_pop mt_pop (pe_var hN hV hd hcd) hb.base hb.line) ⟨_, hl, .inl ⟨rfl, _, .of g⟩, ?_⟩
  obtain ⟨u, g1, g2⟩ := paired_get q0 h1
  exact ⟨l, vs, u, rfl, rfl, g, by rw [q0.length]; exact g1, qq u F1 _ (Same.refl _) (w.set ho ⟨_, rfl, h2 ▸ paired_dropLast q0⟩) g2⟩
/-- xs.remove(x), ints -/
def remI (xs : List Int) (x : Int) : Option (List Int) := if x ∈ xs then some (xs.erase x) else none
theorem first_idx : ∀ {xs : List Int} {x : Int}, x ∈ xs → ∃ j : Nat, xs[j]? = some x ∧ (∀ m, m < j → xs[m]? ≠ some x) ∧ xs.erase x = xs.eraseIdx j
  | [], x, h => absurd h (by simp)
  | y :: r, x, h => by
    by_cases e : y = x
    · subst e
      exact ⟨0, rfl, fun m hm => absurd hm (Nat.not_lt_zero _), by rw [List.erase_cons_head]; rfl⟩
    · obtain ⟨j, h1, h2, h3⟩ := first_idx ((List.mem_cons.mp h).resolve_left fun z => e z.symm)
      refine ⟨j + 1, h1, fun m hm => ?_, ?_⟩
      · cases m with
        | zero => exact fun z => e (Option.some.inj z)
        | succ m => exact h2 m (by omega)
      · rw [List.erase_cons_tail (by simpa using e), h3]
        rfl
theorem remI_some {xs ys : List Int} {x : Int} (h : remI xs x = some ys) : x ∈ xs ∧ ys = xs.erase x := by
  unfold remI at h
  by_cases hc : x ∈ xs
  · rw [if_pos hc] at h
    exact ⟨hc, (Option.some.inj h).symm⟩
  · rw [if_neg hc] at h
    cases h
theorem ws_rem {xs ys : List Int} (w : Wf F Os H) {l : Addr} (hl : σ[m]? = some (some (.ref l))) (he : Ev X e σ F Os rInt.v i Os1) (ho : Os1[n]? = some (l, oList rInt xs)) (h : remI xs i = some ys) (k : ∀ F1 H1, Same F F1 → Wf F1 (Os1.set n (l, oList rInt ys)) H1 → Ws X rest D σ H1)
    (hN : X.N[m]? = some nm := by rfl) (hV : Vis X.env.scope nm := by first | exact Or.inl rfl | exact Or.inr (Or.inl rfl) | exact Or.inr (Or.inr rfl)) (hd : (nm == ("__debug__" : Str)) = false := by decide) (hcd : (nm == ("__classdict__" : Str)) = false := by decide)
    (hs : swapsWith (.Call (.Attribute (.Name nm p1) "remove" p2) [e] [] p3) none pos.line X.env = pure false := by rfl) (hb : BmOk X (.Name nm p1) "remove" e [] p2 p3 := by exact ⟨rfl, rfl, rfl, rfl, rfl⟩) (ho0 : Os[n]? = some (l, oList rInt xs) := by rfl) : Ws X (.Expr (.Call (.Attribute (.Name nm p1) "remove" p2) [e] [] p3) pos :: rest) D σ H := by
  obtain ⟨h1, rfl⟩ := remI_some h
  obtain ⟨_, o0, g0, vs0, e0, _⟩ := w.at ho0
  subst e0
  refine ws_cons (w_ps (ps_expr (pe_bm PySem.F.plainAttrs_list PySem.F.slot_list_remove PySem.F.type_list_remove mt_remove (pe_var hN hV hd hcd) (pa_cons pe_w pa_nil hb.hs) hb.base hb.few hb.line hb.hs hb.plain) hs) ?_)
  refine ⟨_, hl, .inl ⟨rfl, _, .of g0⟩, he.go (Same.refl _) w fun v F1 H1 s1 w1 r1 => ?_⟩
  obtain ⟨_, o, g, vs, e, q⟩ := w1.at ho
  subst e
  cases (show v = V.int i from r1)
  obtain ⟨j, k1, k2, k3⟩ := first_idx h1
  refine ⟨l, xs, i, j, rfl, rfl, paired_int q ▸ g, k1, k2, k F1 _ s1 (w1.set ho ⟨_, rfl, ?_⟩)⟩
  rw [k3]
  exact paired_int2 _
/-! ### a op b op' c -/
theorem ev_chain {op op' : CmpOp} {f : α → β → Bool} {g : β → γ → Bool} {V' : Vw γ} (hc : Cp X op R.v S.v f) (hc2 : Cp X op' S.v V' g) (ha : Ev X a σ F Os R.v x Os1) (hb : Ev X b σ F Os1 S.v y Os2) (hcc : Ev X c σ F Os2 V' z Os2)
    (hm : lastMarks [op, op'] [b, c] = false := by with_unfolding_all rfl) : Ev X (.Compare a [op, op'] [b, c] pos) σ F Os rBool.v (f x y && g y z) Os2 := fun F1 H s w Q q => by
  obtain ⟨r, ho, hr⟩ := hc
  obtain ⟨r', ho', hr'⟩ := hc2
  refine w_pe (pe_chain ho ho' pe_w pe_w pe_w hm) (ha.go s w fun v F2 H2 s2 w2 r2 => hb.go (s.trans s2) w2 fun u F3 H3 s3 w3 r3 => hr F3 Os2 H3 v u x y _ w3 (R.mono s3 r2) r3 ⟨_, rfl, ?_⟩)
  cases hf : f x y with
  | true => exact iteT (hcc.go (s.trans (s2.trans s3)) w3 fun u2 F4 H4 s4 w4 r4 => hr' F4 Os2 H4 u u2 y z Q w4 (S.mono s4 r3) r4 (by
      have := q (V.bl (g y z)) F4 H4 (s2.trans (s3.trans s4)) w4 (by rw [hf]; rfl)
      exact this))
  | false => exact iteF (q _ F3 H3 (s2.trans s3) w3 (by rw [hf]; rfl))
theorem et_chain {op op' : CmpOp} {f : α → β → Bool} {g : β → γ → Bool} {V' : Vw γ} (hc : Cp X op R.v S.v f) (hc2 : Cp X op' S.v V' g) (ha : Ev X a σ F Os R.v x Os1) (hb : Ev X b σ F Os1 S.v y Os2) (hcc : Ev X c σ F Os2 V' z Os2)
    (hm : lastMarks [op, op'] [b, c] = false := by with_unfolding_all rfl) : Et X (.Compare a [op, op'] [b, c] pos) σ F Os (f x y && g y z) Os2 := fun F1 H s w Q q => by
  obtain ⟨r, ho, hr⟩ := hc
  obtain ⟨r', ho', hr'⟩ := hc2
  refine w_pt (pt_chain ho ho' pe_w pe_w pe_w hm) (ha.go s w fun v F2 H2 s2 w2 r2 => hb.go (s.trans s2) w2 fun u F3 H3 s3 w3 r3 => hr F3 Os2 H3 v u x y _ w3 (R.mono s3 r2) r3 ⟨_, rfl, ?_⟩)
  cases hf : f x y with
  | true => exact iteT (hcc.go (s.trans (s2.trans s3)) w3 fun u2 F4 H4 s4 w4 r4 => hr' F4 Os2 H4 u u2 y z _ w4 (S.mono s4 r3) r4 ⟨_, rfl, by
      have := q F4 H4 (s2.trans (s3.trans s4)) w4
      rw [hf] at this
      exact this⟩)
  | false => exact iteF ⟨_, rfl, by
      have := q F3 H3 (s2.trans s3) w3
      rw [hf] at this
      exact this⟩
/-! ### a, b = a list -/
def un2 (xs : List α) : Option (α × α) := match xs with
  | [x, y] => some (x, y)
  | _ => none
theorem un2_some {q : α × α} (h : un2 xs = some q) : xs = [q.1, q.2] := by
  match xs, h with
  | [x, y], h => cases h; rfl
theorem wg_l2 {d : Nat} {w2 : α × α} {Q : St → Hp → Prop} (h : un2 xs = some w2) (r : (rList R).r F v xs) (w : Wf F Os H) (k : ∀ v1 v2, R.r F v1 w2.1 → R.r F v2 w2.2 → Wg X a v1 σ H fun σ1 H1 => Wg X b v2 σ1 H1 Q)
    (hc : X.calm = true := by rfl) (hl : (assignEach [a, b] X.env).length = 2 := by rfl) (hst : (assignEach [a, b] X.env).findIdx? (·.1) = none := by rfl)
    (hp : ∀ {g1 g2 : TG}, PG X a g1 → PG X b g2 → PGs X [a, b] (gCons g1 (gCons g2 gNil)) := by intro _ _ h1 h2; exact pgs_cons h1 (pgs_cons h2 pgs_nil)) : Wg X (.Tuple [a, b] d pos) v σ H Q := by
  cases un2_some h
  obtain ⟨p, o, rfl, g, vs, rfl, q⟩ := r
  cases q with
  | cons q1 q =>
    cases q with
    | cons q2 q =>
      cases q
      refine w_pg (pg_lst hc (hp pg_w pg_w) hl hst) ⟨p, _, rfl, .of (w.sub _ _ g), rfl, _, _, rfl, ?_⟩
      have z := k _ _ q1 q2
      intro pins s u I ru
      refine thn (z pins s u I ru) fun _ s' h => ?_
      obtain ⟨σ', H', I', h⟩ := h
      exact ⟨σ', H', I', _, [], rfl, fun pins2 s2 u' I2 r2 => thn (h pins2 s2 u' I2 r2) fun _ s3 ⟨σ3, H3, I3, h3⟩ => ⟨σ3, H3, I3, rfl, h3⟩⟩
/-! ### min, max of two -/
theorem ev_cb2 {id : String} {r : List V → Hp → VK → Prop} (hc : CallR X (.builtin id) r) (ha : Ev X a σ F Os R.v x Os1) (hb : Ev X b σ F Os1 S.v y Os2)
    (hr : ∀ F H v u (Q : VK), Wf F Os2 H → R.r F v x → S.r F u y → (∀ u F' H', Same F F' → Wf F' Os2 H' → T.r F' u z → Q u H') → r [v, u] H Q)
    (hg : Gl X nm) (hm : X.mg nm = none) (hv : bootBuiltins nm = some (.builtin id)) (hn : nm ≠ "__name__" := by decide) (hdb : (nm == ("__debug__" : Str)) = false := by decide)
    (he : starEach [a, b] X.env = (false, eval a X.env) :: starEach [b] X.env := by rfl) (he2 : starEach [b] X.env = (false, eval b X.env) :: starEach [] X.env := by rfl) (hpl : (backTo pos (starEach [b] X.env)).any (·.1) = false := by rfl) : Ev X (.Call (.Name nm p1) [a, b] [] pos) σ F Os T.v z Os2 := fun F1 H s w Q q =>
  w_pe (pe_callB hc hg hm hv (pa_cons pe_w (pa_cons pe_w pa_nil he2) he) hn hdb he hpl) (ha.go s w fun v F2 H2 s2 w2 r2 => hb.go (s.trans s2) w2 fun v3 F3 H3 s3 w3 r3 => hr F3 H3 v v3 Q w3 (R.mono s3 r2) r3 fun u F4 H4 s4 w4 r4 => q u F4 H4 (s2.trans (s3.trans s4)) w4 r4)
theorem ev_min2 (ha : Ev X a σ F Os rInt.v i Os1) (hb : Ev X b σ F Os1 rInt.v j Os2) (hm : X.mg "min" = none) (hc : X.calm = true := by rfl) (hg : Gl X "min" := by rfl)
    (he : starEach [a, b] X.env = (false, eval a X.env) :: starEach [b] X.env := by rfl) (he2 : starEach [b] X.env = (false, eval b X.env) :: starEach [] X.env := by rfl) (hpl : (backTo pos (starEach [b] X.env)).any (·.1) = false := by rfl) : Ev X (.Call (.Name "min" p1) [a, b] [] pos) σ F Os rInt.v (min i j) Os2 :=
  ev_cb2 (T := rInt) (call_min2 hc) ha hb (fun F H v u Q w r1 r2 q => by
    cases (show v = V.int i from r1); cases (show u = V.int j from r2)
    refine ⟨i, j, rfl, ?_⟩
    have e : (if j < i then j else i) = min i j := by
      by_cases h : j < i
      · rw [if_pos h]; omega
      · rw [if_neg h]; omega
    rw [e]
    exact q _ F H (Same.refl _) w rfl) hg hm (by decide +kernel) (by decide) (by decide) he he2 hpl
theorem ev_max2 (ha : Ev X a σ F Os rInt.v i Os1) (hb : Ev X b σ F Os1 rInt.v j Os2) (hm : X.mg "max" = none) (hc : X.calm = true := by rfl) (hg : Gl X "max" := by rfl)
    (he : starEach [a, b] X.env = (false, eval a X.env) :: starEach [b] X.env := by rfl) (he2 : starEach [b] X.env = (false, eval b X.env) :: starEach [] X.env := by rfl) (hpl : (backTo pos (starEach [b] X.env)).any (·.1) = false := by rfl) : Ev X (.Call (.Name "max" p1) [a, b] [] pos) σ F Os rInt.v (max i j) Os2 :=
  ev_cb2 (T := rInt) (call_max2 hc) ha hb (fun F H v u Q w r1 r2 q => by
    cases (show v = V.int i from r1); cases (show u = V.int j from r2)
    refine ⟨i, j, rfl, ?_⟩
    have e : (if j > i then j else i) = max i j := by
      by_cases h : j > i
      · rw [if_pos h]; omega
      · rw [if_neg h]; omega
    rw [e]
    exact q _ F H (Same.refl _) w rfl) hg hm (by decide +kernel) (by decide) (by decide) he he2 hpl
/-! ### sets of ints, sorted -/
def rSetI (w : World) : Rep (List Int) := ⟨fun F v xs => ∃ a S n, v = .ref a ∧ F a = some (SetO w a S n) ∧ ∀ j, S j = true ↔ j ∈ xs, fun s ⟨a, S, n, e, h, g⟩ => ⟨a, S, n, e, s _ _ h, g⟩⟩
def rMkSet (K : PySem.W.Frag) (w : World) : List V → Hp → VK → Prop := fun vs H Q => ∃ (l : Addr) (ns : List Int), vs = [.ref l] ∧ SqL K H l (ns.map V.int) ∧ ns.length + 1 < scanBound ∧
  ∀ p S n, H p = none → (∀ j, S j = true ↔ j ∈ ns) → Q (.ref p) (upd H p (SetO w p S n))
theorem cr_set (hc : X.calm = true) : CallR X (.type "set") (rMkSet X.K X.w) := by
  intro pins s σ H vs us Q I r h
  obtain ⟨l, ns, rfl, hs, hb, q⟩ := h
  obtain ⟨its, rv, hl, hz⟩ := I.list hs
  rw [Vals.ref1 r]
  refine set_of_list (I.ok.hd hc) hl.isList (by simpa using rv.ints) hb fun h' tk g => ?_
  obtain ⟨⟨c, _, hR⟩, kk⟩ := g
  exact ⟨.ref _, upd H s.heap.objs.size (SetO X.w s.heap.objs.size _ c), I.laid (t' := tk) kk (Nat.le_refl _) (setO_new hR), rfl, q _ _ _ (I.hok.fresh (Nat.le_refl _)) fun j => decide_eq_true_iff⟩
def rSrtSet (w : World) : List V → Hp → VK → Prop := fun vs H Q => ∃ (a : Addr) (S : Int → Bool) (n : Nat), vs = [.ref a] ∧ H a = some (SetO w a S n) ∧
  ∀ (ns : List Int) (p : Addr), ns.Pairwise (· < ·) → (∀ k : Int, k ∈ ns ↔ S k = true) → H p = none → Q (.ref p) (upd H p (.lst (ns.map V.int)))
theorem cr_srtSet (hc : X.calm = true) : CallR X (.builtin "sorted") (rSrtSet X.w) := by
  intro pins s σ H vs us Q I r h
  obtain ⟨a, S, n, rfl, ha, q⟩ := h
  rw [Vals.ref1 r]
  refine sorted_any (setO_get I ha) (I.ok.hd hc) fun s' p out c ns k g o hp hg hi hs hm hl => ?_
  have hn : H p = none := I.hok.fresh hp
  have J := I.call' (s' := s') (ch := []) o (Un.laid k hp hn) (I.hok.laid (o := .lst (ns.map V.int)) k hp ⟨by rw [List.length_map]; exact hl, out, c, vals_of_ints hi, hg⟩) (by rw [g]; exact I.bare) (fun _ z => nomatch z)
  exact ⟨.ref p, _, J, rfl, q ns p hs hm hn⟩
theorem ev_set {xs : List Int} (hz : xs.length + 1 < 4096) (ha : Ev X a σ F Os (vList rInt) xs Os1) (hm : X.mg "set" = none) (hc : X.calm = true := by rfl) (hg : Gl X "set" := by rfl) (he : starEach [a] X.env = (false, eval a X.env) :: starEach [] X.env := by rfl) (hpl : (backTo pos (starEach [] X.env)).any (·.1) = false := by rfl) : Ev X (.Call (.Name "set" p1) [a] [] pos) σ F Os (rSetI X.w).v xs Os1 :=
  ev_ct1 (cr_set hc) ha (fun F H v Q w r q => by
    obtain ⟨p, o, e1, h1, vs, e2, h2⟩ := vOf.get w r
    cases e1; cases e2
    exact ⟨p, xs, rfl, .of (paired_int h2 ▸ h1), hz, fun pp S n hp hS => q _ _ _ (w.frozS hp) (w.froz hp) ⟨pp, S, n, rfl, upd_same, hS⟩⟩) hg hm (by decide +kernel) (by decide) (by decide) he hpl
/-- the members, from below -/
def insA (x : Int) : List Int → List Int
  | [] => [x]
  | y :: r => if x < y then x :: y :: r else if x = y then y :: r else y :: insA x r
def asc : List Int → List Int
  | [] => []
  | x :: r => insA x (asc r)
theorem insA_mem {x z : Int} : ∀ {l : List Int}, z ∈ insA x l ↔ z = x ∨ z ∈ l
  | [] => by simp [insA]
  | y :: r => by
    unfold insA
    by_cases h1 : x < y
    · rw [if_pos h1]; simp
    · rw [if_neg h1]
      by_cases h2 : x = y
      · rw [if_pos h2]; subst h2; simp
      · rw [if_neg h2, List.mem_cons, insA_mem, List.mem_cons]
        constructor
        · rintro (h | h | h)
          · exact .inr (.inl h)
          · exact .inl h
          · exact .inr (.inr h)
        · rintro (h | h | h)
          · exact .inr (.inl h)
          · exact .inl h
          · exact .inr (.inr h)
theorem insA_lt {x : Int} : ∀ {l : List Int}, l.Pairwise (· < ·) → (insA x l).Pairwise (· < ·)
  | [], _ => List.pairwise_singleton _ _
  | y :: r, h => by
    obtain ⟨h1, h2⟩ := List.pairwise_cons.mp h
    unfold insA
    by_cases g1 : x < y
    · rw [if_pos g1]
      exact List.pairwise_cons.mpr ⟨fun z hz => (List.mem_cons.mp hz).elim (fun e => e ▸ g1) fun hz => Int.lt_trans g1 (h1 z hz), h⟩
    · rw [if_neg g1]
      by_cases g2 : x = y
      · rw [if_pos g2]; exact h
      · rw [if_neg g2]
        refine List.pairwise_cons.mpr ⟨fun z hz => ?_, insA_lt h2⟩
        rcases insA_mem.mp hz with rfl | hz
        · omega
        · exact h1 z hz
theorem asc_mem {z : Int} : ∀ {l : List Int}, z ∈ asc l ↔ z ∈ l
  | [] => Iff.rfl
  | x :: r => by
    show z ∈ insA x (asc r) ↔ _
    rw [insA_mem, asc_mem, List.mem_cons]
theorem asc_lt : ∀ l : List Int, (asc l).Pairwise (· < ·)
  | [] => List.Pairwise.nil
  | x :: r => insA_lt (asc_lt r)
theorem lt_uniq : ∀ {l m : List Int}, l.Pairwise (· < ·) → m.Pairwise (· < ·) → (∀ z, z ∈ l ↔ z ∈ m) → l = m
  | [], [], _, _, _ => rfl
  | [], y :: m, _, _, h => absurd ((h y).mpr List.mem_cons_self) (by simp)
  | x :: l, [], _, _, h => absurd ((h x).mp List.mem_cons_self) (by simp)
  | x :: l, y :: m, hl, hm, h => by
    obtain ⟨h1, h2⟩ := List.pairwise_cons.mp hl
    obtain ⟨g1, g2⟩ := List.pairwise_cons.mp hm
    have e : x = y := by
      rcases List.mem_cons.mp ((h x).mp List.mem_cons_self) with e | hx
      · exact e
      · rcases List.mem_cons.mp ((h y).mpr List.mem_cons_self) with e | hy
        · exact e.symm
        · have := h1 y hy
          have := g1 x hx
          omega
    subst e
    rw [lt_uniq h2 g2 fun z => ⟨fun hz => ?_, fun hz => ?_⟩]
    · rcases List.mem_cons.mp ((h z).mp (List.mem_cons_of_mem _ hz)) with e | q
      · have := h1 z hz
        omega
      · exact q
    · rcases List.mem_cons.mp ((h z).mpr (List.mem_cons_of_mem _ hz)) with e | q
      · have := g1 z hz
        omega
      · exact q
def setO (xs : List Int) : Option (List Int) := if xs.length + 1 < 4096 then some xs else none
theorem setO_some {xs ys : List Int} (h : setO xs = some ys) : xs.length + 1 < 4096 ∧ ys = xs := by
  unfold setO at h
  by_cases hc : xs.length + 1 < 4096
  · rw [if_pos hc] at h
    exact ⟨hc, (Option.some.inj h).symm⟩
  · rw [if_neg hc] at h
    cases h
theorem ev_setO {xs ys : List Int} (h : setO xs = some ys) (ha : Ev X a σ F Os (vList rInt) xs Os1) (hm : X.mg "set" = none) (hc : X.calm = true := by rfl) (hg : Gl X "set" := by rfl) (he : starEach [a] X.env = (false, eval a X.env) :: starEach [] X.env := by rfl) (hpl : (backTo pos (starEach [] X.env)).any (·.1) = false := by rfl) : Ev X (.Call (.Name "set" p1) [a] [] pos) σ F Os (rSetI X.w).v ys Os1 := by
  obtain ⟨h1, rfl⟩ := setO_some h
  exact ev_set h1 ha hm hc hg he hpl
theorem evn_srtSet {xs : List Int} (ha : Ev X a σ F Os (rSetI X.w).v xs Os1) (hm : X.mg "sorted" = none) (hc : X.calm = true := by rfl) (hg : Gl X "sorted" := by rfl) (he : starEach [a] X.env = (false, eval a X.env) :: starEach [] X.env := by rfl) (hpl : (backTo pos (starEach [] X.env)).any (·.1) = false := by rfl) : EvN X (.Call (.Name "sorted" p1) [a] [] pos) σ F Os (oList rInt (asc xs)) Os1 :=
  evn_cb1 (cr_srtSet hc) ha (fun F H v Q w r q => by
    obtain ⟨p, S, n, e1, h1, h2⟩ := r
    cases e1
    refine ⟨p, S, n, rfl, w.sub _ _ h1, fun ns pp hs hm hp => ?_⟩
    have e : asc xs = ns := lt_uniq (asc_lt _) hs fun z => by rw [asc_mem, hm, h2]
    rw [e] at q
    exact q pp F _ (Same.refl _) (w.new hp ⟨_, rfl, paired_int2 ns⟩)) hg hm (by decide +kernel) (by decide) (by decide) he hpl
theorem cp_inS : Cp X .In rInt.v (rSetI X.w).v (fun x ys => decide (x ∈ ys)) := ⟨_, or_sin, fun F Os H v u x y Q w r1 r2 q => by
  obtain ⟨p, S, n, e1, h1, h2⟩ := r2
  refine ⟨x, p, S, n, r1, e1, w.sub _ _ h1, ?_⟩
  have e : S x = decide (x ∈ y) := by
    by_cases h : x ∈ y
    · rw [decide_eq_true h]; exact (h2 x).mpr h
    · rw [decide_eq_false h]
      cases hs : S x with
      | false => rfl
      | true => exact absurd ((h2 x).mp hs) h
  rw [e]
  exact q⟩
theorem cp_ninS : Cp X .NotIn rInt.v (rSetI X.w).v (fun x ys => decide (x ∉ ys)) := ⟨_, or_snotin, fun F Os H v u x y Q w r1 r2 q => by
  obtain ⟨p, S, n, e1, h1, h2⟩ := r2
  refine ⟨x, p, S, n, r1, e1, w.sub _ _ h1, ?_⟩
  have e : (!S x) = decide (x ∉ y) := by
    by_cases h : x ∈ y
    · rw [decide_eq_false (fun z => z h), (h2 x).mpr h]; rfl
    · rw [decide_eq_true h]
      cases hs : S x with
      | false => rfl
      | true => exact absurd ((h2 x).mp hs) h
  rw [e]
  exact q⟩
/-- sorted(xs), ints -/
def insS (x : Int) : List Int → List Int
  | [] => [x]
  | y :: r => if x ≤ y then x :: y :: r else y :: insS x r
def srt : List Int → List Int
  | [] => []
  | x :: r => insS x (srt r)
theorem insS_perm {x : Int} : ∀ l : List Int, (insS x l).Perm (x :: l)
  | [] => .refl _
  | y :: r => by
    unfold insS
    by_cases h : x ≤ y
    · rw [if_pos h]
    · rw [if_neg h]
      exact (List.Perm.cons y (insS_perm r)).trans (List.Perm.swap x y r)
theorem insS_le {x : Int} : ∀ {l : List Int}, l.Pairwise (· ≤ ·) → (insS x l).Pairwise (· ≤ ·)
  | [], _ => List.pairwise_singleton _ _
  | y :: r, h => by
    obtain ⟨h1, h2⟩ := List.pairwise_cons.mp h
    unfold insS
    by_cases g : x ≤ y
    · rw [if_pos g]
      exact List.pairwise_cons.mpr ⟨fun z hz => (List.mem_cons.mp hz).elim (fun e => e ▸ g) fun hz => Int.le_trans g (h1 z hz), h⟩
    · rw [if_neg g]
      refine List.pairwise_cons.mpr ⟨fun z hz => ?_, insS_le h2⟩
      rcases List.mem_cons.mp ((insS_perm r).mem_iff.mp hz) with rfl | hz
      · omega
      · exact h1 z hz
theorem srt_perm : ∀ l : List Int, (srt l).Perm l
  | [] => .refl _
  | x :: r => (insS_perm _).trans ((srt_perm r).cons x)
theorem srt_le : ∀ l : List Int, (srt l).Pairwise (· ≤ ·)
  | [] => List.Pairwise.nil
  | x :: r => insS_le (srt_le r)
theorem le_uniq {l m : List Int} (h1 : l.Pairwise (· ≤ ·)) (h2 : m.Pairwise (· ≤ ·)) (h : l.Perm m) : l = m := h.eq_of_pairwise (fun a b _ _ => Int.le_antisymm) h1 h2
theorem evn_srtL {xs : List Int} (ha : Ev X a σ F Os (vList rInt) xs Os1) (hm : X.mg "sorted" = none) (hg : Gl X "sorted" := by rfl) (he : starEach [a] X.env = (false, eval a X.env) :: starEach [] X.env := by rfl) (hpl : (backTo pos (starEach [] X.env)).any (·.1) = false := by rfl) : EvN X (.Call (.Name "sorted" p1) [a] [] pos) σ F Os (oList rInt (srt xs)) Os1 :=
  evn_cb1 cr_sortedI ha (fun F H v Q w r q => by
    obtain ⟨p, o, e1, h1, vs, e2, h2⟩ := vOf.get w r
    cases e1; cases e2
    refine ⟨p, xs, rfl, .of (paired_int h2 ▸ h1), fun ns pp hp hs hn => ?_⟩
    have e : srt xs = ns := le_uniq (srt_le _) hs ((srt_perm xs).trans hp.symm)
    rw [e] at q
    exact q pp F _ (Same.refl _) (w.new hn ⟨_, rfl, paired_int2 ns⟩)) hg hm (by decide +kernel) (by decide) (by decide) he hpl
/-- a list that never changes, its index may change what is owned -/
theorem ev_ixF (h : ix xs i = some x) (ha : Ev X a σ F Os (rList R).v xs Os1) (hb : Ev X b σ F Os1 rInt.v i Os2) (hp : PlainIx b := by exact (fun _ _ => rfl)) : Ev X (.Subscript a b pos) σ F Os R.v x Os2 := fun F1 H s w Q q =>
  w_pe (pe_ix ix_list pe_w pe_w hp) (ha.go s w fun v F2 H2 s2 w2 r2 => hb.go (s.trans s2) w2 fun u F3 H3 s3 w3 r3 => by
    obtain ⟨p, o, e1, h1, vs, e2, h2⟩ := (rList R).mono s3 r2
    cases e2
    obtain ⟨t, g1, g2⟩ := atI_paired h2 h
    exact ⟨p, vs, i, t, e1, r3, .of (w3.sub _ _ h1), g1, q t F3 H3 (s2.trans s3) w3 g2⟩)
theorem u65 {kk : Nat} {A : Around} (r : Room kk A) : A.units + 65 < cLine := by
  have := r.un
  omega
end
/-! ### frozen for a while, the result new -/
/-- it looks at tuples alone -/
def NlR {α : Type} (R : Rep α) : Prop := ∀ (F F' : Hp) v x, (∀ a vs, F a = some (.tup vs) → F' a = some (.tup vs)) → R.r F v x → R.r F' v x
def NlO (O : OC) : Prop := ∀ (F F' : Hp) o, (∀ a vs, F a = some (.tup vs) → F' a = some (.tup vs)) → O.p F o → O.p F' o
theorem nl_int : NlR rInt := fun _ _ _ _ _ h => h
theorem nl_bool : NlR rBool := fun _ _ _ _ _ h => h
theorem nl_str : NlR rStr := fun _ _ _ _ _ h => h
theorem nl_none : NlR rNone := fun _ _ _ _ _ h => h
theorem nl_opt {α : Type} {R : Rep α} (h : NlR R) : NlR (rOpt R) := fun F F' v x s r => by
  cases x with
  | none => exact r
  | some y => exact ⟨h F F' v y s r.1, r.2⟩
theorem nl_2 {α β : Type} {R : Rep α} {S : Rep β} (h : NlR R) (h' : NlR S) : NlR (rT2 R S) := fun F F' v x s ⟨a, u1, u2, e, g, g1, g2⟩ => ⟨a, u1, u2, e, s _ _ g, h F F' _ _ s g1, h' F F' _ _ s g2⟩
theorem nl_3 {α β γ : Type} {R : Rep α} {S : Rep β} {T : Rep γ} (h : NlR R) (h' : NlR S) (h2 : NlR T) : NlR (rT3 R S T) := fun F F' v x s ⟨a, u1, u2, u3, e, g, g1, g2, g3⟩ => ⟨a, u1, u2, u3, e, s _ _ g, h F F' _ _ s g1, h' F F' _ _ s g2, h2 F F' _ _ s g3⟩
theorem nl_tup {α : Type} {R : Rep α} (h : NlR R) : NlR (rTup R) := fun F F' v x s ⟨a, vs, e, g, g1⟩ => ⟨a, vs, e, s _ _ g, paired_mono (fun _ _ q => h F F' _ _ s q) g1⟩
theorem nl_L {α : Type} {R : Rep α} (h : NlR R) (xs : List α) : NlO (oList R xs) := fun F F' o s ⟨vs, e, g⟩ => ⟨vs, e, paired_mono (fun _ _ q => h F F' _ _ s q) g⟩
/-- the owned lists at S never change for a while; what stands ahead of them (Ms) may -/
theorem Wf.tmpM {F H : Hp} {Ms Os : Owns} (w : Wf F (Ms ++ Os) H) (S : List Addr) (hS : ∀ a ∈ S, ∃ O vs, (a, O) ∈ Os ∧ H a = some (.lst vs)) : ∃ G Ex, Same F G ∧ Wf G (Ms ++ Ex) H ∧ (∀ a (O : OC), (a, O) ∈ Os → a ∈ S → ∃ o, G a = some o ∧ O.p G o) ∧
    ∀ F2 H2 Ms', Same G F2 → (∀ q ∈ Ms', NlO q.2) → Wf F2 (Ms' ++ Ex) H2 → ∃ F3, Same F F3 ∧ Wf F3 (Ms' ++ Os) H2 ∧ ∀ a vs, F2 a = some (.tup vs) → F3 a = some (.tup vs) := by
  have nd := w.nd
  rw [List.map_append] at nd
  obtain ⟨nd1, nd2, nd3⟩ := List.nodup_append.mp nd
  have hF : ∀ a ∈ S, F a = none := fun a ha => by
    obtain ⟨O, vs, h1, _⟩ := hS a ha
    exact (w.own _ (List.mem_append_right _ h1)).1
  have hM : ∀ q ∈ Ms, q.1 ∉ S := fun q hq hs => by
    obtain ⟨O, vs, h1, _⟩ := hS _ hs
    exact nd3 _ (List.mem_map.mpr ⟨q, hq, rfl⟩) _ (List.mem_map.mpr ⟨_, h1, rfl⟩) rfl
  obtain ⟨G, hG⟩ : ∃ G : Hp, G = fun b => if b ∈ S then H b else F b := ⟨_, rfl⟩
  have g1 : ∀ b, b ∈ S → G b = H b := fun b hb => by rw [hG]; exact if_pos hb
  have g2 : ∀ b, b ∉ S → G b = F b := fun b hb => by rw [hG]; exact if_neg hb
  obtain ⟨Ex, hE⟩ : ∃ Ex : Owns, Ex = (Os.filter fun p => decide (p.1 ∉ S)).filterMap fun p => (H p.1).map fun o => (p.1, ocIs o) := ⟨_, rfl⟩
  have inE : ∀ q ∈ Ex, ∃ p ∈ Os, p.1 ∉ S ∧ p.1 = q.1 ∧ ∃ o, H p.1 = some o ∧ q.2 = ocIs o := fun q hq => by
    rw [hE] at hq
    obtain ⟨p, hp, e⟩ := List.mem_filterMap.mp hq
    obtain ⟨h1, h2⟩ := List.mem_filter.mp hp
    obtain ⟨_, o, h4, _⟩ := w.own p (List.mem_append_right _ h1)
    rw [h4] at e
    cases e
    exact ⟨p, h1, of_decide_eq_true h2, rfl, o, h4, rfl⟩
  have toE : ∀ p ∈ Os, p.1 ∉ S → ∃ o, H p.1 = some o ∧ (p.1, ocIs o) ∈ Ex := fun p hp hn => by
    obtain ⟨_, o, h4, _⟩ := w.own p (List.mem_append_right _ hp)
    exact ⟨o, h4, by rw [hE]; exact List.mem_filterMap.mpr ⟨p, List.mem_filter.mpr ⟨hp, decide_eq_true hn⟩, by rw [h4]; rfl⟩⟩
  have sG : Same F G := fun b o e => by
    by_cases hb : b ∈ S
    · rw [hF b hb] at e; cases e
    · rw [g2 b hb]; exact e
  have subE : Ex.map (·.1) = (Os.filter fun p => decide (p.1 ∉ S)).map (·.1) := by
    rw [hE]
    have : ∀ l : Owns, (∀ p ∈ l, ∃ o, H p.1 = some o) → (l.filterMap fun p => (H p.1).map fun o => ((p.1, ocIs o) : Addr × OC)).map (·.1) = l.map (·.1) := fun l => by
      induction l with
      | nil => intro _; rfl
      | cons p r ih =>
        intro hl
        obtain ⟨o, ho⟩ := hl p List.mem_cons_self
        rw [List.filterMap_cons, ho]
        show p.1 :: _ = p.1 :: _
        rw [ih fun q hq => hl q (List.mem_cons_of_mem _ hq)]
    exact this _ fun p hp => by
      obtain ⟨_, o, h, _⟩ := w.own p (List.mem_append_right _ (List.mem_filter.mp hp).1)
      exact ⟨o, h⟩
  refine ⟨G, Ex, sG, ⟨fun b o e => ?_, fun q hq => ?_, ?_⟩, fun a O hO hs => ?_, fun F2 H2 Ms' s2 nl w2 => ?_⟩
  · by_cases hb : b ∈ S
    · rw [g1 b hb] at e; exact e
    · rw [g2 b hb] at e; exact w.sub _ _ e
  · rcases List.mem_append.mp hq with hq | hq
    · obtain ⟨h1, o, h2, h3⟩ := w.own q (List.mem_append_left _ hq)
      exact ⟨by rw [g2 _ (hM q hq)]; exact h1, o, h2, q.2.mono sG h3⟩
    · obtain ⟨p, hp, hn, e, o, ho, e2⟩ := inE q hq
      rw [← e, e2]
      exact ⟨by rw [g2 _ hn]; exact (w.own p (List.mem_append_right _ hp)).1, o, ho, rfl⟩
  · rw [List.map_append, subE, ← List.map_append]
    exact List.Nodup.sublist (List.Sublist.map _ (List.Sublist.append (List.Sublist.refl _) List.filter_sublist)) w.nd
  · obtain ⟨_, o, h4, h5⟩ := w.own _ (List.mem_append_right Ms hO)
    exact ⟨o, by rw [g1 _ hs]; exact h4, O.mono sG h5⟩
  · have inL : ∀ a ∈ S, ∃ vs, F2 a = some (.lst vs) := fun a ha => by
      obtain ⟨O, vs, _, e⟩ := hS a ha
      exact ⟨vs, s2 _ _ (by rw [g1 a ha]; exact e)⟩
    obtain ⟨F3, h3⟩ : ∃ F3 : Hp, F3 = fun b => if b ∈ S then none else F2 b := ⟨_, rfl⟩
    have k1 : ∀ b, b ∈ S → F3 b = none := fun b hb => by rw [h3]; exact if_pos hb
    have k2 : ∀ b, b ∉ S → F3 b = F2 b := fun b hb => by rw [h3]; exact if_neg hb
    have kt : ∀ a vs, F2 a = some (.tup vs) → F3 a = some (.tup vs) := fun a vs e => by
      by_cases ha : a ∈ S
      · obtain ⟨ws, e'⟩ := inL a ha
        rw [e] at e'
        cases e'
      · rw [k2 a ha]; exact e
    have s3 : Same F F3 := fun b u e => by
      by_cases hb : b ∈ S
      · rw [hF b hb] at e; cases e
      · rw [k2 b hb]; exact s2 _ _ (by rw [g2 b hb]; exact e)
    have kM : ∀ q ∈ Ms', q.1 ∉ S := fun q hq hs => by
      obtain ⟨vs, e⟩ := inL _ hs
      rw [(w2.own q (List.mem_append_left _ hq)).1] at e
      cases e
    refine ⟨F3, s3, ⟨fun b u e => ?_, fun q hq => ?_, ?_⟩, kt⟩
    · by_cases hb : b ∈ S
      · rw [k1 b hb] at e; cases e
      · rw [k2 b hb] at e; exact w2.sub _ _ e
    · rcases List.mem_append.mp hq with hq | hq
      · obtain ⟨h1, o, h2, h5⟩ := w2.own q (List.mem_append_left _ hq)
        exact ⟨by rw [k2 _ (kM q hq)]; exact h1, o, h2, nl q hq F2 F3 o kt h5⟩
      · obtain ⟨_, o, h4, h5⟩ := w.own q (List.mem_append_right _ hq)
        have h5 := q.2.mono s3 h5
        by_cases hb : q.1 ∈ S
        · exact ⟨k1 _ hb, o, w2.sub _ _ (s2 _ _ (by rw [g1 _ hb]; exact h4)), h5⟩
        · obtain ⟨o', h6, h7⟩ := toE q hq hb
          obtain ⟨h8, u, h9, h10⟩ := w2.own _ (List.mem_append_right _ h7)
          cases (show u = o' from h10)
          cases h6.symm.trans h4
          exact ⟨by rw [k2 _ hb]; exact h8, _, h9, h5⟩
    · have nd' := w2.nd
      rw [List.map_append] at nd' ⊢
      obtain ⟨n1, n2, n3⟩ := List.nodup_append.mp nd'
      refine List.nodup_append.mpr ⟨n1, nd2, fun x hx y hy e => ?_⟩
      subst e
      obtain ⟨q, hq, rfl⟩ := List.mem_map.mp hx
      obtain ⟨p, hp, e⟩ := List.mem_map.mp hy
      have hn : p.1 ∉ S := fun hs => kM q hq (by rw [← e]; exact hs)
      obtain ⟨o', _, h7⟩ := toE p hp hn
      exact n3 _ (List.mem_map.mpr ⟨q, hq, rfl⟩) _ (List.mem_map.mpr ⟨_, h7, rfl⟩) e.symm
theorem own_lst {α : Type} {F H : Hp} {Ms Os : Owns} {R : Rep α} {xs : List α} {a : Addr} {i : Nat} (w : Wf F (Ms ++ Os) H) (hi : Os[i]? = some (a, oList R xs)) : ∃ O vs, (a, O) ∈ Os ∧ H a = some (.lst vs) := by
  have hm := List.mem_of_getElem? hi
  obtain ⟨_, o, h, vs, e, _⟩ := w.own _ (List.mem_append_right _ hm)
  subst e
  exact ⟨_, vs, hm, h⟩
end Z

/-! plain laws of the mirror's words -/
namespace Z
open PySem L2
theorem foldO_spec {α σ : Type} {f : σ → α → Option σ} (I : List α → σ → Prop) (h : ∀ x r s, I (x :: r) s → ∃ s', f s x = some s' ∧ I r s') : ∀ (xs : List α) (s : σ), I xs s → ∃ z, foldO f s xs = some z ∧ I [] z
  | [], s, hi => ⟨s, rfl, hi⟩
  | x :: r, s, hi => by
    obtain ⟨s', h1, h2⟩ := h x r s hi
    obtain ⟨z, h3, h4⟩ := foldO_spec I h r s' h2
    exact ⟨z, by show bd (f s x) _ = _; rw [h1]; exact h3, h4⟩
theorem foldF_nx {α ρ σ : Type} {f : σ → α → Option (Fl ρ σ)} (I : List α → σ → Prop) (h : ∀ x r s, I (x :: r) s → ∃ s', f s x = some (.nx s') ∧ I r s') : ∀ (xs : List α) (s : σ), I xs s → ∃ z, foldF f s xs = some (.nx z) ∧ I [] z
  | [], s, hi => ⟨s, rfl, hi⟩
  | x :: r, s, hi => by
    obtain ⟨s', h1, h2⟩ := h x r s hi
    obtain ⟨z, h3, h4⟩ := foldF_nx I h r s' h2
    exact ⟨z, by show bd (f s x) _ = _; rw [h1]; exact h3, h4⟩
theorem foldF_spec {α ρ σ : Type} {f : σ → α → Option (Fl ρ σ)} (I : List α → σ → Prop) (B : σ → Prop) (Q : ρ → Prop)
    (h : ∀ x r s, I (x :: r) s → (∃ s', f s x = some (.nx s') ∧ I r s') ∨ (∃ s', f s x = some (.brk s') ∧ B s') ∨ ∃ v, f s x = some (.ret v) ∧ Q v) :
    ∀ (xs : List α) (s : σ), I xs s → (∃ z, foldF f s xs = some (.nx z) ∧ (I [] z ∨ B z)) ∨ ∃ v, foldF f s xs = some (.ret v) ∧ Q v
  | [], s, hi => .inl ⟨s, rfl, .inl hi⟩
  | x :: r, s, hi => by
    rcases h x r s hi with ⟨s', h1, h2⟩ | ⟨s', h1, h2⟩ | ⟨v, h1, h2⟩
    · rcases foldF_spec I B Q h r s' h2 with ⟨z, h3, h4⟩ | ⟨v, h3, h4⟩
      · exact .inl ⟨z, by show bd (f s x) _ = _; rw [h1]; exact h3, h4⟩
      · exact .inr ⟨v, by show bd (f s x) _ = _; rw [h1]; exact h3, h4⟩
    · exact .inl ⟨s', by show bd (f s x) _ = _; rw [h1]; rfl, .inr h2⟩
    · exact .inr ⟨v, by show bd (f s x) _ = _; rw [h1]; rfl, h2⟩
theorem rngO_eq {lo hi : Int} (h : rngOk lo hi) : rngO lo hi = some (rng lo hi) := if_pos h
theorem app_eq {α : Type} {xs : List α} {x : α} (h : xs.length < 16777216) : app xs x = some (xs ++ [x]) := if_pos h
theorem cat_eq {α : Type} {xs ys : List α} (h : xs.length + ys.length ≤ 16777216) : cat xs ys = some (xs ++ ys) := if_pos h
theorem modO_eq {i j : Int} (h : 0 < j) : modO i j = some (i % j) := if_pos h
theorem divO_eq {i j : Int} (h : 0 < j) (h2 : j < 2 ^ 64) : divO i j = some (i / j) := if_pos ⟨h, by
  have : j.natAbs.log2 < 64 := PySem.Flt.log2_lt_of (by decide) (by omega)
  omega⟩
theorem mulO_eq {i j : Int} (h : -(2 ^ 64) < i ∧ i < 2 ^ 64) : mulO i j = some (i * j) := if_pos (.inl h)
theorem mulO_eq2 {i j : Int} (h : -(2 ^ 64) < j ∧ j < 2 ^ 64) : mulO i j = some (i * j) := if_pos (.inr h)
theorem ixN_nat {n j : Nat} (h : j < n) : ixN n (j : Int) = some j := by
  unfold ixN
  rw [if_pos (by omega), if_pos (by omega)]
  simp
theorem ix_nat {α : Type} {xs : List α} {j : Nat} {x : α} (h : xs[j]? = some x) : ix xs (j : Int) = some x := atI_nat h
theorem ix_int {α : Type} {xs : List α} {i : Int} {x : α} (h0 : 0 ≤ i) (h : xs[i.toNat]? = some x) : ix xs i = some x := by
  have e : i = (i.toNat : Int) := by omega
  rw [e]
  exact ix_nat h
theorem ix_ok {α : Type} {xs : List α} {i : Int} (h0 : 0 ≤ i) (h1 : i < xs.length) : ∃ x, ix xs i = some x ∧ xs[i.toNat]? = some x := by
  have hl : i.toNat < xs.length := by omega
  exact ⟨xs[i.toNat], ix_int h0 (List.getElem?_eq_getElem hl), List.getElem?_eq_getElem hl⟩
theorem stI_nat {α : Type} {xs : List α} {j : Nat} {x : α} (h : j < xs.length) : stI xs (j : Int) x = some (xs.set j x) := by
  unfold stI
  rw [ixN_nat h]
  rfl
theorem rng_cons {lo hi : Int} (h : lo < hi) : rng lo hi = lo :: rng (lo + 1) hi := by
  unfold rng
  have e : (hi - lo).toNat = (hi - (lo + 1)).toNat + 1 := by omega
  rw [e, List.range_succ_eq_map, List.map_cons, List.map_map]
  congr 1
  · omega
  · refine List.map_congr_left fun k _ => ?_
    show lo + ((k + 1 : Nat) : Int) = lo + 1 + (k : Int)
    omega
theorem rng_nil {lo hi : Int} (h : hi ≤ lo) : rng lo hi = [] := by
  unfold rng
  have e : (hi - lo).toNat = 0 := by omega
  rw [e]
  rfl
/-- a loop over a range: the invariant by the next number -/
theorem foldO_rng {σ : Type} {f : σ → Int → Option σ} (I : Int → σ → Prop) {lo hi : Int} (h : ∀ k s, lo ≤ k → k < hi → I k s → ∃ s', f s k = some s' ∧ I (k + 1) s') (s : σ) (h0 : I lo s) (hl : lo ≤ hi) : ∃ z, foldO f s (rng lo hi) = some z ∧ I hi z := by
  have key : ∀ (n : Nat) (k : Int) (s : σ), (hi - k).toNat = n → lo ≤ k → k ≤ hi → I k s → ∃ z, foldO f s (rng k hi) = some z ∧ I hi z := fun n => by
    induction n with
    | zero =>
      intro k s e h1 h2 hI
      have : k = hi := by omega
      subst this
      rw [rng_nil (Int.le_refl _)]
      exact ⟨s, rfl, hI⟩
    | succ n ih =>
      intro k s e h1 h2 hI
      have hk : k < hi := by omega
      obtain ⟨s', h3, h4⟩ := h k s h1 hk hI
      obtain ⟨z, h5, h6⟩ := ih (k + 1) s' (by omega) (by omega) (by omega) h4
      rw [rng_cons hk]
      exact ⟨z, by show bd (f s k) _ = _; rw [h3]; exact h5, h6⟩
  exact key _ lo s rfl (Int.le_refl _) hl h0
theorem foldF_rng {ρ σ : Type} {f : σ → Int → Option (Fl ρ σ)} (I : Int → σ → Prop) {lo hi : Int} (h : ∀ k s, lo ≤ k → k < hi → I k s → ∃ s', f s k = some (.nx s') ∧ I (k + 1) s') (s : σ) (h0 : I lo s) (hl : lo ≤ hi) : ∃ z, foldF f s (rng lo hi) = some (.nx z) ∧ I hi z := by
  have key : ∀ (n : Nat) (k : Int) (s : σ), (hi - k).toNat = n → lo ≤ k → k ≤ hi → I k s → ∃ z, foldF f s (rng k hi) = some (.nx z) ∧ I hi z := fun n => by
    induction n with
    | zero =>
      intro k s e h1 h2 hI
      have : k = hi := by omega
      subst this
      rw [rng_nil (Int.le_refl _)]
      exact ⟨s, rfl, hI⟩
    | succ n ih =>
      intro k s e h1 h2 hI
      have hk : k < hi := by omega
      obtain ⟨s', h3, h4⟩ := h k s h1 hk hI
      obtain ⟨z, h5, h6⟩ := ih (k + 1) s' (by omega) (by omega) (by omega) h4
      rw [rng_cons hk]
      exact ⟨z, by show bd (f s k) _ = _; rw [h3]; exact h5, h6⟩
  exact key _ lo s rfl (Int.le_refl _) hl h0
end Z

namespace Z
open PySem PySem.Spec L2
def K_l_open_4 (x_cell5 : Int) : Option (List Int) :=
    if (decide (1000000000000000000 ≤ x_cell5)) = true then
    some (([1, x_cell5 - 1000000000000000000, 0] : (List Int)))
    else
    some (([0, x_cell5, 0] : (List Int)))
def M_l_open (x_script : (List Int)) (x_at : Int) : Option (List Int) :=
    bd (if (decide (x_at < (x_script.length : Int))) = true then
    bd (ix x_script x_at) fun t8 =>
    some t8
    else
    some 0) fun s => K_l_open_4 s
def M_l_take (x_box : (List Int)) (x_size : Int) : Option (Int × (List Int)) :=
    bd (ix x_box 0) fun t1 =>
    if (decide (t1 = 1)) = true then
    bd (ix x_box 1) fun t4 =>
    bd (modO t4 x_size) fun t5 =>
    bd (ix x_box 1) fun t8 =>
    bd (divO t8 x_size) fun t9 =>
    bd (stI x_box 1 t9) fun x_box10 =>
    some (t5, x_box10)
    else
    bd (ix x_box 2) fun t12 =>
    bd (stI x_box 2 (t12 + 1)) fun x_box15 =>
    bd (ix x_box15 1) fun t17 =>
    lt (((t17 + (7919 * t12)) + 13) % 2147483647) fun x_mixed18 =>
    bd (mulO x_mixed18 (x_mixed18 + 48271)) fun t21 =>
    lt (t21 % 2147483629) fun x_mixed22 =>
    bd (mulO x_mixed22 (x_mixed22 + 69621)) fun t25 =>
    lt ((t25 + (31 * t12)) % 2147483647) fun x_mixed26 =>
    bd (modO (x_mixed26 / 9) x_size) fun t29 =>
    some (t29, x_box15)
def B_l_whole_5 (x_size6 : Int) (x12 : Int) : Option Int :=
    lt (x_size6 * 2) fun x_size15 =>
    some x_size15
def K_l_whole_5 (x_size9 : Int) : Option Int :=
    some x_size9
def M_l_whole (x_levels : Int) : Option Int :=
    bd (rngO 0 x_levels) fun rg3 =>
    bd (foldO (fun s x => B_l_whole_5 s x) 1 rg3) fun s => K_l_whole_5 s
def B_l_marks_49 (x_whole_here : Int) (x_marks_here50 : (List Int)) (x54 : Int) : Option (List Int) :=
    if (decide (x54 < x_whole_here)) = true then
    bd (stI x_marks_here50 x54 1) fun x_marks_here58 =>
    some x_marks_here58
    else
    some x_marks_here50
def K_l_marks_49 (t43 : (Int × (List Int))) (x_marks_here52 : (List Int)) : Option (((List Int) × (List Int))) :=
    some (t43.2, x_marks_here52)
def B_l_marks_25 (x_whole_here : Int) (x_box26 : (List Int)) (x_marks_here27 : (List Int)) (x38 : Int) : Option (((List Int) × (List Int))) :=
    bd (M_l_take x_box26 x_whole_here) fun t40 =>
    bd (M_l_take t40.2 x_whole_here) fun t43 =>
    lt (1 + t43.1) fun x_count44 =>
    bd (rngO t40.1 (t40.1 + x_count44)) fun rg47 =>
    bd (foldO (fun s x => B_l_marks_49 x_whole_here s x) x_marks_here27 rg47) fun s => K_l_marks_49 t43 s
def K_l_marks_25 (x_box32 : (List Int)) (x_marks_here33 : (List Int)) : Option (((List Int) × (List Int))) :=
    some (x_marks_here33, x_box32)
def M_l_marks (x_box : (List Int)) (x_whole_here : Int) : Option ((List Int) × (List Int)) :=
    bd (M_l_take x_box 8) fun t1 =>
    if (decide (t1.1 = 0)) = true then
    bd (rngO 0 x_whole_here) fun rg6 =>
    bd (lcO (fun _ => some true) (fun (x7 : Int) => some 1) rg6) fun t8 =>
    some (t8, t1.2)
    else
    if (decide (t1.1 = 1)) = true then
    bd (rngO 0 x_whole_here) fun rg11 =>
    bd (lcO (fun _ => some true) (fun (x12 : Int) => some 0) rg11) fun t13 =>
    some (t13, t1.2)
    else
    if ((decide (t1.1 = 2)) || (decide (t1.1 = 3))) = true then
    bd (rngO 0 x_whole_here) fun rg16 =>
    bd (lcO (fun _ => some true) (fun (x17 : Int) => some 0) rg16) fun t18 =>
    bd (M_l_take t1.2 4) fun t22 =>
    bd (rngO 0 (1 + t22.1)) fun rg23 =>
    bd (foldO (fun s x => B_l_marks_25 x_whole_here s.1 s.2 x) (t22.2, t18) rg23) fun s => K_l_marks_25 s.1 s.2
    else
    if (decide (t1.1 = 4)) = true then
    bd (rngO 0 x_whole_here) fun rg66 =>
    bd (lcS (fun _ _ => some true) (fun (d67 : (List Int)) (x67 : Int) => bd (M_l_take d67 4) fun t68 => some (if (decide (0 < t68.1)) = true then 1 else 0, t68.2)) t1.2 rg66) fun t69 =>
    some (t69.1, t69.2)
    else
    bd (rngO 0 x_whole_here) fun rg70 =>
    bd (lcS (fun _ _ => some true) (fun (d71 : (List Int)) (x71 : Int) => bd (M_l_take d71 2) fun t72 => some (t72.1, t72.2)) t1.2 rg70) fun t73 =>
    some (t73.1, t73.2)
def B_l_handed_62 (t4 : (List Int)) (x_box63 : (List Int)) (x_turned64 : (List Int)) (x71 : Int) : Option (((List Int) × (List Int))) :=
    bd (M_l_take x_box63 (t4.length : Int)) fun t73 =>
    bd (ix t4 t73.1) fun t74 =>
    bd (cat (([t74] : (List Int))) x_turned64) fun t75 =>
    some (t73.2, t75)
def K_l_handed_62 (x_box67 : (List Int)) (x_turned68 : (List Int)) : Option (((List Int) × (List Int))) :=
    some (x_turned68, x_box67)
def K_l_handed_34 (t4 : (List Int)) (t16 : (Int × (List Int))) (x_turned35 : (List Int)) : Option (((List Int) × (List Int))) :=
    bd (M_l_take t16.2 4) fun t59 =>
    bd (rngO 0 t59.1) fun rg60 =>
    bd (foldO (fun s x => B_l_handed_62 t4 s.1 s.2 x) (t59.2, x_turned35) rg60) fun s => K_l_handed_62 s.1 s.2
def K_l_handed_20 (t4 : (List Int)) (t16 : (Int × (List Int))) (x_turned21 : (List Int)) : Option (((List Int) × (List Int))) :=
    bd (if (decide (t16.1 = 2)) = true then
    bd (rngO 0 (t4.length : Int)) fun rg39 =>
    bd (lcO (fun (x40 : Int) => (some (decide ((x40 % 2) = 1)))) (fun (x40 : Int) => bd (ix x_turned21 x40) fun t41 => some t41) rg39) fun t42 =>
    bd (rngO 0 (t4.length : Int)) fun rg49 =>
    bd (lcO (fun (x50 : Int) => (some (decide ((x50 % 2) = 0)))) (fun (x50 : Int) => bd (ix x_turned21 x50) fun t51 => some t51) rg49) fun t52 =>
    bd (cat t42 t52) fun t53 =>
    some t53
    else
    some x_turned21) fun s => K_l_handed_34 t4 t16 s
def M_l_handed (x_box : (List Int)) (x_marks_here : (List Int)) : Option ((List Int) × (List Int)) :=
    bd (rngO 0 (x_marks_here.length : Int)) fun rg1 =>
    bd (lcO (fun (x2 : Int) => (bd (ix x_marks_here x2) fun t3 => some (decide (t3 = 1)))) (fun (x2 : Int) => some x2) rg1) fun t4 =>
    if (decide ((t4.length : Int) = 0)) = true then
    some ((([] : (List Int)), x_box))
    else
    bd (M_l_take x_box (t4.length : Int)) fun t9 =>
    bd (cat (cut t4 (some t9.1) none) (cut t4 none (some t9.1))) fun t12 =>
    bd (M_l_take t9.2 3) fun t16 =>
    bd (if (decide (t16.1 = 1)) = true then
    bd (rngO 0 (t4.length : Int)) fun rg24 =>
    bd (lcO (fun _ => some true) (fun (x25 : Int) => bd (ix t12 (((t4.length : Int) - 1) - x25)) fun t26 => some t26) rg24) fun t27 =>
    some t27
    else
    some t12) fun s => K_l_handed_20 t4 t16 s
def M_ascending (x_numbers : (List Int)) : Option (List Int) :=
    bd (setO x_numbers) fun t1 =>
    some (asc t1)
def B_blocks_with_8 (x_place : Int) (x_blocks9 : (List (Int × Int))) (x_size10 : Int) (x17 : Int) : Option (((List (Int × Int)) × Int)) :=
    bd (modO x_place x_size10) fun t20 =>
    bd (app x_blocks9 (x_place - t20, x_size10)) fun x_blocks21 =>
    lt (x_size10 * 2) fun x_size23 =>
    some (x_blocks21, x_size23)
def K_blocks_with_8 (x_blocks13 : (List (Int × Int))) (x_size14 : Int) : Option ((List (Int × Int))) :=
    some x_blocks13
def M_blocks_with (x_depth : Int) (x_place : Int) : Option (List (Int × Int)) :=
    lt (([] : (List (Int × Int)))) fun x_blocks1 =>
    bd (rngO 0 (x_depth + 1)) fun rg6 =>
    bd (foldO (fun s x => B_blocks_with_8 x_place s.1 s.2 x) (x_blocks1, 1) rg6) fun s => K_blocks_with_8 s.1 s.2
def M_whole_block (x_depth : Int) : Option (Int × Int) :=
    bd (M_blocks_with x_depth 0) fun t1 =>
    bd (ix t1 (-1)) fun t2 =>
    some t2
def M_halves (x_block : (Int × Int)) : Option (List (Int × Int)) :=
    lt (x_block.2 / 2) fun x_half5 =>
    some (([(x_block.1, x_half5), (x_block.1 + x_half5, x_half5)] : (List (Int × Int))))
def B_least_cover_12 (t1 : (List Int)) (x_cover13 : (List (Int × Int))) (x_waiting14 : (List (Int × Int))) : Option ((Fl ((List (Int × Int))) ((List (Int × Int)) × (List (Int × Int))))) :=
    if (!x_waiting14.isEmpty) = true then
    bd (pop x_waiting14) fun t30 =>
    bd (lcO (fun (x35 : Int) => (some (decide (t30.1.1 ≤ x35) && decide (x35 < (t30.1.1 + t30.1.2))))) (fun (x35 : Int) => some x35) t1) fun t36 =>
    if (decide ((t36.length : Int) = t30.1.2)) = true then
    bd (app x_cover13 (t30.1.1, t30.1.2)) fun x_cover45 =>
    some (.nx (x_cover45, t30.2))
    else
    if (!t36.isEmpty) = true then
    bd (M_halves (t30.1.1, t30.1.2)) fun t49 =>
    bd (un2 t49) fun u50 =>
    bd (cat t30.2 (([u50.2, u50.1] : (List (Int × Int))))) fun x_waiting55 =>
    some (.nx (x_cover13, x_waiting55))
    else
    some (.nx (x_cover13, t30.2))
    else
    some (.brk (x_cover13, x_waiting14))
def K_least_cover_12 (x_cover20 : (List (Int × Int))) (x_waiting21 : (List (Int × Int))) : Option ((List (Int × Int))) :=
    some x_cover20
def M_least_cover (x_depth : Int) (x_places : (List Int)) : Option (List (Int × Int)) :=
    bd (M_ascending x_places) fun t1 =>
    lt (([] : (List (Int × Int)))) fun x_cover4 =>
    bd (M_whole_block x_depth) fun t7 =>
    lt (([t7] : (List (Int × Int)))) fun x_waiting8 =>
    bd (whF (fun s => B_least_cover_12 t1 s.1 s.2) (4 ^ (x_depth.toNat + 2)) (x_cover4, x_waiting8)) fun z => flk z (fun s => K_least_cover_12 s.1 s.2) some
def B_l_least_39 (x_counts8 : (List Int)) (x_fulls9 : (List Int)) (x_wider40 : (List Int)) (x_wider_fulls41 : (List Int)) (x48 : Int) : Option (((List Int) × (List Int))) :=
    bd (ix x_fulls9 (2 * x48)) fun t50 =>
    bd (ix x_fulls9 ((2 * x48) + 1)) fun t51 =>
    bd (mulO t50 t51) fun t52 =>
    bd (app x_wider_fulls41 t52) fun x_wider_fulls55 =>
    if (decide (t52 = 1)) = true then
    bd (app x_wider40 1) fun x_wider59 =>
    some (x_wider59, x_wider_fulls55)
    else
    bd (ix x_counts8 (2 * x48)) fun t61 =>
    bd (ix x_counts8 ((2 * x48) + 1)) fun t62 =>
    bd (app x_wider40 (t61 + t62)) fun x_wider63 =>
    some (x_wider63, x_wider_fulls55)
def K_l_least_39 (x_wider44 : (List Int)) (x_wider_fulls45 : (List Int)) : Option (((List Int) × (List Int))) :=
    some (x_wider44, x_wider_fulls45)
def B_l_least_7 (x_counts8 : (List Int)) (x_fulls9 : (List Int)) (x26 : Int) : Option (((List Int) × (List Int))) :=
    lt (([] : (List Int))) fun x_wider30 =>
    lt (([] : (List Int))) fun x_wider_fulls33 =>
    bd (rngO 0 ((x_counts8.length : Int) / 2)) fun rg37 =>
    bd (foldO (fun s x => B_l_least_39 x_counts8 x_fulls9 s.1 s.2 x) (x_wider30, x_wider_fulls33) rg37) fun s => K_l_least_39 s.1 s.2
def K_l_least_7 (x_counts17 : (List Int)) (x_fulls18 : (List Int)) : Option Int :=
    bd (ix x_counts17 0) fun t79 =>
    some t79
def M_l_least (x_levels : Int) (x_marks_here : (List Int)) : Option Int :=
    bd (rngO 0 x_levels) fun rg5 =>
    bd (foldO (fun s x => B_l_least_7 s.1 s.2 x) (x_marks_here, x_marks_here) rg5) fun s => K_l_least_7 s.1 s.2
def B_l_covers_31 (x34 : Int) : Option ((Fl (Fl Bool Int) Unit)) :=
    if ((!true) || false) = true then
    some (.ret (.ret false))
    else
    some (.nx ())
def K_l_covers_31 (x_marks_here : (List Int)) (x_whole_here3 : Int) (x_behind10 : Int) (x24 : (Int × Int)) : Option (Fl Bool Int) :=
    if ((decide (x24.1 < x_behind10)) || ((decide (x24.2 < 1)) || (decide (x_whole_here3 < (x24.1 + x24.2))))) = true then
    some (.ret false)
    else
    bd (modO x_whole_here3 x24.2) fun t46 =>
    bd (if (decide (t46 ≠ 0)) = true then some true else (bd (modO x24.1 x24.2) fun t47 => some (decide (t47 ≠ 0)))) fun t48 =>
    if t48 = true then
    some (.ret false)
    else
    if ((decide (((cut x_marks_here (some x_behind10) (some x24.1)).sum) ≠ 0)) || (decide (((cut x_marks_here (some x24.1) (some (x24.1 + x24.2))).sum) ≠ x24.2))) = true then
    some (.ret false)
    else
    bd (modO x24.1 (2 * x24.2)) fun t53 =>
    lt (x24.1 - t53) fun x_outer54 =>
    if ((decide ((2 * x24.2) ≤ x_whole_here3)) && (decide (((cut x_marks_here (some x_outer54) (some (x_outer54 + (2 * x24.2)))).sum) = (2 * x24.2)))) = true then
    some (.ret false)
    else
    lt (x24.1 + x24.2) fun x_behind59 =>
    some (.nx x_behind59)
def B_l_covers_9 (x_marks_here : (List Int)) (x_whole_here3 : Int) (x_behind10 : Int) (x24 : (Int × Int)) : Option (Fl Bool Int) :=
    if ((!true) || (decide (2 ≠ 2))) = true then
    some (.ret false)
    else
    lt ([x24.1, x24.2]) fun xs29 =>
    bd (foldF (fun s x => B_l_covers_31  x) () xs29) fun z => flk z (fun s => K_l_covers_31 x_marks_here x_whole_here3 x_behind10 x24 ) some
def K_l_covers_9 (x_told : (List (Int × Int))) (x_levels : Int) (x_marks_here : (List Int)) (x_behind17 : Int) : Option Bool :=
    bd (if (decide (((cut x_marks_here (some x_behind17) none).sum) = 0)) = true then (bd (M_l_least x_levels x_marks_here) fun t66 => some (decide ((x_told.length : Int) = t66))) else some false) fun t67 =>
    some t67
def M_l_covers (x_told : (List (Int × Int))) (x_levels : Int) (x_marks_here : (List Int)) : Option Bool :=
    if (!true) = true then
    some false
    else
    lt ((x_marks_here.length : Int)) fun x_whole_here3 =>
    bd (foldF (fun s x => B_l_covers_9 x_marks_here x_whole_here3 s x) 0 x_told) fun z => flk z (fun s => K_l_covers_9 x_told x_levels x_marks_here s) some
def B_l_change_11 (x_marks_here : (List Int)) (x_place : Int) (x_listed12 : (List Int)) (x16 : Int) : Option (List Int) :=
    bd (ix x_marks_here x_place) fun t18 =>
    if ((decide (t18 = 1)) && (decide (x_place ∈ x_listed12))) = true then
    bd (remI x_listed12 x_place) fun x_listed21 =>
    some x_listed21
    else
    some x_listed12
def K_l_change_11 (x_marks_here : (List Int)) (x_place : Int) (x_listed14 : (List Int)) : Option (((List Int) × (List Int) × (List Int))) :=
    bd (ix x_marks_here x_place) fun t25 =>
    bd (stI x_marks_here x_place (1 - t25)) fun x_marks_here26 =>
    some (x_listed14, x_listed14, x_marks_here26)
def K_l_change_3 (x_marks_here : (List Int)) (x_place : Int) (x_listed4 : (List Int)) : Option (((List Int) × (List Int) × (List Int))) :=
    bd (rngO 0 (x_listed4.length : Int)) fun rg9 =>
    bd (foldO (fun s x => B_l_change_11 x_marks_here x_place s x) x_listed4 rg9) fun s => K_l_change_11 x_marks_here x_place s
def M_l_change (x_listed : (List Int)) (x_marks_here : (List Int)) (x_place : Int) : Option ((List Int) × (List Int) × (List Int)) :=
    bd (ix x_marks_here x_place) fun t1 =>
    bd (if (decide (t1 = 0)) = true then
    bd (app x_listed x_place) fun x_listed6 =>
    some x_listed6
    else
    some x_listed) fun s => K_l_change_3 x_marks_here x_place s
def K_law_9 (x_script : (List Int)) (x_box10 : (List Int)) (x_levels11 : Int) : Option Bool :=
    bd (M_l_whole x_levels11) fun t19 =>
    bd (M_l_marks x_box10 t19) fun t20 =>
    bd (M_l_open x_script 1) fun t24 =>
    bd (M_l_handed t24 t20.1) fun t26 =>
    bd (M_least_cover x_levels11 t26.1) fun t32 =>
    bd (M_l_covers t32 x_levels11 t20.1) fun t36 =>
    if ((!t36) || (decide (t26.1 ≠ t26.1))) = true then
    some false
    else
    bd (app t32 (0, 1)) fun x_told39 =>
    bd (stI x_told39 0 (((t20.1.length : Int), 1))) fun x_told41 =>
    bd (M_least_cover x_levels11 t26.1) fun t43 =>
    bd (M_l_covers t43 x_levels11 t20.1) fun t44 =>
    if ((!t44) || (decide (t26.1 ≠ t26.1))) = true then
    some false
    else
    bd (M_l_open x_script 2) fun t47 =>
    bd (M_l_take t47 (t20.1.length : Int)) fun t49 =>
    bd (M_l_change t26.1 t20.1 t49.1) fun t50 =>
    bd (M_least_cover x_levels11 t50.2.1) fun t53 =>
    bd (M_l_covers t53 x_levels11 t50.2.2) fun t54 =>
    if ((!t54) || (decide (t50.2.1 ≠ t50.1))) = true then
    some false
    else
    if (decide (x_levels11 = 8)) = true then
    some true
    else
    bd (M_least_cover (x_levels11 + 1) t50.2.1) fun t59 =>
    bd (rngO 0 (t50.2.2.length : Int)) fun rg60 =>
    bd (lcO (fun _ => some true) (fun (x61 : Int) => some 0) rg60) fun t62 =>
    bd (cat t50.2.2 t62) fun t63 =>
    bd (M_l_covers t59 (x_levels11 + 1) t63) fun t64 =>
    some t64
def M_law (x_script : (List Int)) : Option Bool :=
    bd (M_l_open x_script 0) fun t1 =>
    bd (M_l_take t1 6) fun t4 =>
    bd (M_l_take t4.2 8) fun t7 =>
    bd (if (decide (t7.1 = 0)) = true then
    lt (t4.1 + 3) fun x_levels14 =>
    some (t7.2, x_levels14)
    else
    some (t7.2, t4.1)) fun s => K_law_9 x_script s.1 s.2
end Z

namespace Z
open PySem L2
/-! draws -/
def BoxOk (b : List Int) : Prop := ∃ a v k, b = [a, v, k]
theorem open_ok (xs : List Int) (i : Int) (h : 0 ≤ i) : ∃ b, M_l_open xs i = some b ∧ BoxOk b := by
  have key : ∀ c, ∃ b, K_l_open_4 c = some b ∧ BoxOk b := fun c => by
    unfold K_l_open_4
    split
    · exact ⟨_, rfl, _, _, _, rfl⟩
    · exact ⟨_, rfl, _, _, _, rfl⟩
  unfold M_l_open
  by_cases hi : i < (xs.length : Int)
  · obtain ⟨x, hx, _⟩ := ix_ok h hi
    rw [if_pos (decide_eq_true hi), hx]
    exact key x
  · rw [if_neg (by simpa using hi)]
    exact key 0
theorem take_ok {b : List Int} {n : Int} (hb : BoxOk b) (h0 : 0 < n) (h1 : n < 2 ^ 60) : ∃ r b', M_l_take b n = some (r, b') ∧ 0 ≤ r ∧ r < n ∧ BoxOk b' := by
  obtain ⟨a, v, k, rfl⟩ := hb
  have i0 : ix [a, v, k] 0 = some a := rfl
  have i1 : ix [a, v, k] 1 = some v := rfl
  have i2 : ix [a, v, k] 2 = some k := rfl
  unfold M_l_take
  simp only [i0, i1, i2, bd_eq, lt_eq, modO_eq h0, divO_eq h0 (show n < 2 ^ 64 by omega)]
  by_cases ha : a = 1
  · rw [if_pos (decide_eq_true ha), show stI [a, v, k] 1 (v / n) = some [a, v / n, k] from rfl]
    exact ⟨_, _, rfl, Int.emod_nonneg _ (by omega), Int.emod_lt_of_pos _ h0, _, _, _, rfl⟩
  · rw [if_neg (by simpa using ha), show stI [a, v, k] 2 (k + 1) = some [a, v, k + 1] from rfl]
    simp only [bd_eq, show ix [a, v, k + 1] 1 = some v from rfl]
    have b1 : ∀ z : Int, 0 ≤ z % 2147483647 ∧ z % 2147483647 < 2147483647 := fun z => ⟨Int.emod_nonneg _ (by decide), Int.emod_lt_of_pos _ (by decide)⟩
    have b2 : ∀ z : Int, 0 ≤ z % 2147483629 ∧ z % 2147483629 < 2147483629 := fun z => ⟨Int.emod_nonneg _ (by decide), Int.emod_lt_of_pos _ (by decide)⟩
    rw [mulO_eq (by have := b1 (v + 7919 * k + 13); omega)]
    simp only [bd_eq]
    rw [mulO_eq (by have := b2 ((v + 7919 * k + 13) % 2147483647 * ((v + 7919 * k + 13) % 2147483647 + 48271)); omega)]
    simp only [bd_eq]
    exact ⟨_, _, rfl, Int.emod_nonneg _ (by omega), Int.emod_lt_of_pos _ h0, _, _, _, rfl⟩
theorem whole_eq {n : Nat} (h : n ≤ 60) : M_l_whole (n : Int) = some (2 ^ n) := by
  unfold M_l_whole
  rw [rngO_eq (by unfold rngOk; omega)]
  obtain ⟨z, h1, h2⟩ := foldO_rng (f := fun s x => B_l_whole_5 s x) (lo := 0) (hi := n) (fun k s => 0 ≤ k ∧ s = 2 ^ k.toNat) (fun k s h1 h2 ⟨_, h3⟩ => by
    refine ⟨s * 2, rfl, by omega, ?_⟩
    rw [h3, show (k + 1).toNat = k.toNat + 1 by omega, Int.pow_succ]) 1 ⟨by omega, by simp⟩ (by omega)
  simp only [bd_eq, h1]
  rw [h2.2, show ((n : Int)).toNat = n by omega]
  rfl
/-! comprehensions -/
theorem lcO_spec {α β : Type} {tO : α → Option Bool} {eO : α → Option β} {c : α → Bool} {e : α → β} : ∀ {xs : List α}, (∀ x ∈ xs, tO x = some (c x)) → (∀ x ∈ xs, c x = true → eO x = some (e x)) → lcO tO eO xs = some ((xs.filter c).map e)
  | [], _, _ => rfl
  | x :: r, h1, h2 => by
    have ih := lcO_spec (fun y hy => h1 y (List.mem_cons_of_mem _ hy)) (fun y hy => h2 y (List.mem_cons_of_mem _ hy))
    show bd (tO x) _ = _
    rw [h1 x List.mem_cons_self, bd_eq]
    by_cases hc : c x = true
    · rw [if_pos hc, h2 x List.mem_cons_self hc, bd_eq, ih, bd_eq, List.filter_cons_of_pos hc, List.map_cons]
    · rw [if_neg hc, ih, List.filter_cons_of_neg hc]
theorem lcS_spec {α β δ : Type} {eO : δ → α → Option (β × δ)} (I : δ → Prop) (P : β → Prop) (h : ∀ s x, I s → ∃ y s', eO s x = some (y, s') ∧ P y ∧ I s') : ∀ (xs : List α) (s : δ), I s → ∃ ys s', lcS (fun _ _ => some true) eO s xs = some (ys, s') ∧ (∀ y ∈ ys, P y) ∧ ys.length = xs.length ∧ I s'
  | [], s, hi => ⟨[], s, rfl, fun _ hy => absurd hy (by simp), rfl, hi⟩
  | x :: r, s, hi => by
    obtain ⟨y, s', e1, p1, i1⟩ := h s x hi
    obtain ⟨ys, s2, e2, p2, l2, i2⟩ := lcS_spec I P h r s' i1
    refine ⟨y :: ys, s2, ?_, fun z hz => ?_, by simp [l2], i2⟩
    · show bd (some true) _ = _
      rw [bd_eq, if_pos rfl, e1, bd_eq]
      show bd (lcS _ _ s' r) _ = _
      rw [e2, bd_eq]
    · rcases List.mem_cons.mp hz with rfl | hz
      · exact p1
      · exact p2 z hz
theorem rng_mem {lo hi x : Int} : x ∈ rng lo hi ↔ lo ≤ x ∧ x < hi := by
  unfold rng
  rw [List.mem_map]
  constructor
  · rintro ⟨k, hk, rfl⟩
    have := List.mem_range.mp hk
    omega
  · rintro ⟨h1, h2⟩
    exact ⟨(x - lo).toNat, List.mem_range.mpr (by omega), by omega⟩
/-! marks -/
def Bits (m : List Int) : Prop := ∀ x ∈ m, x = 0 ∨ x = 1
/-- the mark of a place -/
def mk (m : List Int) (p : Nat) : Int := m.getD p 0
theorem mk_bit {m : List Int} (h : Bits m) (p : Nat) : mk m p = 0 ∨ mk m p = 1 := by
  unfold mk
  by_cases hp : p < m.length
  · rw [List.getD_eq_getElem?_getD, List.getElem?_eq_getElem hp]
    exact h _ (List.getElem_mem hp)
  · rw [List.getD_eq_getElem?_getD, List.getElem?_eq_none (by omega)]
    exact .inl rfl
/-- how many of n places from a on are marked -/
def cn (m : List Int) (a : Nat) : Nat → Int
  | 0 => 0
  | n + 1 => cn m a n + mk m (a + n)
theorem cn_add (m : List Int) (a n : Nat) : ∀ k, cn m a (n + k) = cn m a n + cn m (a + n) k
  | 0 => by simp [cn]
  | k + 1 => by
    show cn m a (n + k) + mk m (a + (n + k)) = _ + (cn m (a + n) k + mk m (a + n + k))
    rw [cn_add m a n k, Nat.add_assoc a n k]
    omega
theorem cn_rng {m : List Int} (h : Bits m) (a : Nat) : ∀ n, 0 ≤ cn m a n ∧ cn m a n ≤ n
  | 0 => by simp [cn]
  | n + 1 => by
    have := cn_rng h a n
    have := mk_bit h (a + n)
    show 0 ≤ cn m a n + mk m (a + n) ∧ cn m a n + mk m (a + n) ≤ _
    omega
theorem cn_sum (m : List Int) : ∀ (a n : Nat), ((m.drop a).take n).sum = cn m a n
  | a, 0 => by simp [cn]
  | a, n + 1 => by
    show _ = cn m a n + mk m (a + n)
    rw [← cn_sum m a n, List.take_succ, List.sum_append, List.getElem?_drop]
    congr 1
    unfold mk
    rw [List.getD_eq_getElem?_getD]
    cases m[a + n]? <;> simp
theorem cut_sum {m : List Int} {s e : Int} (h0 : 0 ≤ s) (h1 : s ≤ e) (h2 : e ≤ m.length) : (cut m (some s) (some e)).sum = cn m s.toNat (e - s).toNat := by
  obtain ⟨a, rfl⟩ : ∃ a : Nat, s = a := ⟨s.toNat, by omega⟩
  obtain ⟨b, rfl⟩ : ∃ b : Nat, e = b := ⟨e.toNat, by omega⟩
  unfold cut
  rw [HT.sIx_nat, HT.sIx_nat, Nat.min_eq_left (by omega), Nat.min_eq_left (by omega), cn_sum]
  congr 1
  omega
theorem cut_sumN {m : List Int} {s : Int} (h0 : 0 ≤ s) (h1 : s ≤ m.length) : (cut m (some s) none).sum = cn m s.toNat (m.length - s.toNat) := by
  obtain ⟨a, rfl⟩ : ∃ a : Nat, s = a := ⟨s.toNat, by omega⟩
  unfold cut
  rw [HT.sIx_nat, HT.sIx_none, Nat.min_eq_left (by omega), cn_sum]
  congr 1
/-! the least cover -/
/-- the block of 2 ^ k places from a on is full -/
def full (m : List Int) : Nat → Nat → Bool
  | 0, a => decide (mk m a = 1)
  | k + 1, a => full m k a && full m k (a + 2 ^ k)
def cov (m : List Int) : Nat → Nat → List (Int × Int)
  | 0, a => if full m 0 a then [((a : Int), 1)] else []
  | k + 1, a => if full m (k + 1) a then [((a : Int), 2 ^ (k + 1))] else cov m k a ++ cov m k (a + 2 ^ k)
theorem two_pow (k : Nat) : (2 : Nat) ^ (k + 1) = 2 ^ k + 2 ^ k := by rw [Nat.pow_succ]; omega
theorem pw (k : Nat) : ((2 ^ k : Nat) : Int) = 2 ^ k := by simp
theorem full_iff {m : List Int} (h : Bits m) : ∀ k a, full m k a = true ↔ cn m a (2 ^ k) = ((2 ^ k : Nat) : Int)
  | 0, a => by
    show decide _ = true ↔ 0 + mk m (a + 0) = ((2 ^ 0 : Nat) : Int)
    simp
  | k + 1, a => by
    show (full m k a && full m k (a + 2 ^ k)) = true ↔ _
    rw [Bool.and_eq_true, full_iff h k a, full_iff h k (a + 2 ^ k), two_pow, cn_add]
    have := (cn_rng h a (2 ^ k)).2
    have := (cn_rng h (a + 2 ^ k) (2 ^ k)).2
    omega
theorem cov_nil {m : List Int} (h : Bits m) : ∀ k a, cn m a (2 ^ k) = 0 → cov m k a = []
  | 0, a, e => by
    have e : 0 + mk m (a + 0) = 0 := e
    have e : mk m a = 0 := by simpa using e
    show (if decide (mk m a = 1) = true then _ else _) = _
    rw [e]
    rfl
  | k + 1, a, e => by
    have hf : ¬ full m (k + 1) a = true := fun hf => by
      have h2 := (full_iff h (k + 1) a).mp hf
      have := Nat.two_pow_pos (k + 1)
      omega
    show (if full m (k + 1) a = true then _ else _) = _
    rw [two_pow, cn_add] at e
    have := (cn_rng h a (2 ^ k)).1
    have := (cn_rng h (a + 2 ^ k) (2 ^ k)).1
    rw [if_neg hf, cov_nil h k a (by omega), cov_nil h k (a + 2 ^ k) (by omega)]
    rfl
theorem cov_full {m : List Int} {k a : Nat} (hf : full m k a = true) : cov m k a = [((a : Int), ((2 ^ k : Nat) : Int))] := by
  cases k with
  | zero => show (if full m 0 a = true then _ else _) = _; rw [if_pos hf]; rfl
  | succ k => show (if full m (k + 1) a = true then _ else _) = _; rw [if_pos hf, pw]
theorem cov_len {m : List Int} : ∀ k a, (cov m k a).length ≤ 2 ^ k
  | 0, a => by
    show (if full m 0 a = true then _ else _ : List _).length ≤ _
    split <;> simp
  | k + 1, a => by
    have := cov_len (m := m) k a
    have := cov_len (m := m) k (a + 2 ^ k)
    have := Nat.two_pow_pos (k + 1)
    show (if full m (k + 1) a = true then _ else _ : List _).length ≤ _
    split
    · simp; omega
    · rw [List.length_append, two_pow]; omega
/-- the list tells the marked places -/
def Tells (m l : List Int) : Prop := ∀ p : Int, p ∈ l ↔ 0 ≤ p ∧ mk m p.toNat = 1
theorem inside_len {m l : List Int} (ht : Tells m l) (hb : Bits m) (hl : l.Pairwise (· < ·)) (a : Nat) : ∀ n : Nat, ((l.filter fun x => decide ((a : Int) ≤ x) && decide (x < (a : Int) + (n : Int))).length : Int) = cn m a n
  | 0 => by
    have : l.filter (fun x => decide ((a : Int) ≤ x) && decide (x < (a : Int) + ((0 : Nat) : Int))) = [] := by
      rw [List.filter_eq_nil_iff]
      intro x _ hx
      simp at hx
      omega
    rw [this]
    rfl
  | n + 1 => by
    have ih := inside_len ht hb hl a n
    show _ = cn m a n + mk m (a + n)
    rw [← ih]
    have key : ∀ l : List Int, l.Pairwise (· < ·) → (((l.filter fun x => decide ((a : Int) ≤ x) && decide (x < (a : Int) + ((n + 1 : Nat) : Int))).length : Nat) : Int) = ((l.filter fun x => decide ((a : Int) ≤ x) && decide (x < (a : Int) + (n : Int))).length : Int) + (if ((a : Int) + (n : Int)) ∈ l then 1 else 0) := fun l => by
      induction l with
      | nil => intro _; rfl
      | cons y r ih =>
        intro hp
        obtain ⟨h1, h2⟩ := List.pairwise_cons.mp hp
        have ih := ih h2
        rw [List.filter_cons, List.filter_cons]
        by_cases e : y = (a : Int) + (n : Int)
        · have hn : ((a : Int) + (n : Int)) ∉ r := fun hr => by have := h1 _ hr; omega
          rw [if_neg hn] at ih
          rw [if_pos (by simp; omega), if_neg (by simp; omega), if_pos (by rw [e]; exact List.mem_cons_self), List.length_cons]
          omega
        · have hm : (((a : Int) + (n : Int)) ∈ y :: r) ↔ ((a : Int) + (n : Int)) ∈ r := by
            rw [List.mem_cons]
            exact ⟨fun h => h.elim (fun h => absurd h.symm e) id, .inr⟩
          simp only [hm]
          by_cases c : (a : Int) ≤ y ∧ y < (a : Int) + (n : Int)
          · rw [if_pos (by simp; omega), if_pos (by simp; omega), List.length_cons, List.length_cons]
            omega
          · rw [if_neg (by simp; omega), if_neg (by simp; omega)]
            exact ih
    rw [key l hl]
    congr 1
    have hp := ht ((a : Int) + (n : Int))
    rw [show ((a : Int) + (n : Int)).toNat = a + n by omega] at hp
    rcases mk_bit hb (a + n) with e | e
    · rw [if_neg (fun h => by have := (hp.mp h).2; omega), e]
    · rw [if_pos (hp.mpr ⟨by omega, e⟩), e]
theorem halves_eq (a s : Int) : M_halves (a, s) = some [(a, s / 2), (a + s / 2, s / 2)] := rfl
theorem pop_snoc {α : Type} (xs : List α) (x : α) : pop (xs ++ [x]) = some (x, xs) := by
  unfold pop
  rw [List.getLast?_append]
  show bd (some x) _ = _
  rw [bd_eq, List.dropLast_concat]
theorem step_eq {m l : List Int} (ht : Tells m l) (hb : Bits m) (hl : l.Pairwise (· < ·)) : ∀ (k a : Nat), a + 2 ^ k ≤ 2 ^ 20 → ∃ q, q + 1 ≤ 2 ^ (k + 1) ∧ ∀ (n : Nat) (c W : List (Int × Int)), c.length + 2 ^ k ≤ 2 ^ 20 → W.length + k ≤ 2 ^ 20 → whF (fun s => B_least_cover_12 l s.1 s.2) (q + n) (c, W ++ [((a : Int), ((2 ^ k : Nat) : Int))]) = whF (fun s => B_least_cover_12 l s.1 s.2) n (c ++ cov m k a, W) := by
  have one : ∀ (k a n : Nat) (c W : List (Int × Int)), whF (fun s => B_least_cover_12 l s.1 s.2) (n + 1) (c, W ++ [((a : Int), ((2 ^ k : Nat) : Int))]) = bd (
      if cn m a (2 ^ k) = ((2 ^ k : Nat) : Int) then bd (app c ((a : Int), ((2 ^ k : Nat) : Int))) fun c2 => some (.nx (c2, W)) else if cn m a (2 ^ k) ≠ 0 then bd (cat W [((a : Int) + ((2 ^ k : Nat) : Int) / 2, ((2 ^ k : Nat) : Int) / 2), ((a : Int), ((2 ^ k : Nat) : Int) / 2)]) fun W2 => some (.nx (c, W2)) else some (.nx (c, W))) (fstep (whF (fun s => B_least_cover_12 l s.1 s.2) n)) := fun k a n c W => by
    show bd (B_least_cover_12 l c (W ++ [((a : Int), ((2 ^ k : Nat) : Int))])) _ = _
    congr 1
    have il := inside_len ht hb hl a (2 ^ k)
    unfold B_least_cover_12
    rw [if_pos (by simp), pop_snoc]
    simp only [bd_eq, halves_eq]
    rw [lcO_spec (c := fun x => decide ((a : Int) ≤ x) && decide (x < (a : Int) + ((2 ^ k : Nat) : Int))) (e := fun x => x) (fun _ _ => rfl) (fun _ _ _ => rfl), List.map_id', bd_eq, il]
    by_cases h1 : cn m a (2 ^ k) = ((2 ^ k : Nat) : Int)
    · rw [if_pos h1, if_pos (decide_eq_true h1)]
    · rw [if_neg h1, if_neg (by simpa using h1)]
      by_cases h2 : cn m a (2 ^ k) = 0
      · rw [if_neg (show ¬(!List.isEmpty _) = true from ?_), if_neg (fun h => h h2)]
        have : (l.filter fun x => decide ((a : Int) ≤ x) && decide (x < (a : Int) + ((2 ^ k : Nat) : Int))).length = 0 := by omega
        rw [List.length_eq_zero_iff.mp this]
        simp
      · rw [if_pos h2, if_pos]
        · rfl
        · have : (l.filter fun x => decide ((a : Int) ≤ x) && decide (x < (a : Int) + ((2 ^ k : Nat) : Int))) ≠ [] := fun e => h2 (by rw [← il, e]; rfl)
          simpa [List.isEmpty_iff] using this
  intro k
  induction k with
  | zero =>
    intro a ha
    refine ⟨1, by simp, fun n c W hc hW => ?_⟩
    rw [Nat.add_comm 1 n, one]
    by_cases h1 : cn m a (2 ^ 0) = ((2 ^ 0 : Nat) : Int)
    · rw [if_pos h1, app_eq (by omega), bd_eq, bd_eq, cov_full ((full_iff hb 0 a).mpr h1)]
      rfl
    · have h2 : cn m a (2 ^ 0) = 0 := by
        have := cn_rng hb a (2 ^ 0)
        have : ((2 ^ 0 : Nat) : Int) = 1 := rfl
        omega
      rw [if_neg h1, if_neg (by simpa using h2), bd_eq, cov_nil hb 0 a h2, List.append_nil]
      rfl
  | succ k ih =>
    intro a ha
    have p2 := two_pow k
    have pk := Nat.two_pow_pos k
    obtain ⟨q1, b1, e1⟩ := ih a (by omega)
    obtain ⟨q2, b2, e2⟩ := ih (a + 2 ^ k) (by omega)
    by_cases h1 : cn m a (2 ^ (k + 1)) = ((2 ^ (k + 1) : Nat) : Int)
    · refine ⟨1, by have := Nat.two_pow_pos (k + 1); rw [two_pow]; omega, fun n c W hc hW => ?_⟩
      rw [Nat.add_comm 1 n, one, if_pos h1, app_eq (by omega), bd_eq, bd_eq, cov_full ((full_iff hb (k + 1) a).mpr h1)]
      rfl
    · by_cases h2 : cn m a (2 ^ (k + 1)) = 0
      · refine ⟨1, by have := Nat.two_pow_pos (k + 1); rw [two_pow]; omega, fun n c W hc hW => ?_⟩
        rw [Nat.add_comm 1 n, one, if_neg h1, if_neg (by simpa using h2), bd_eq, cov_nil hb (k + 1) a h2, List.append_nil]
        rfl
      · refine ⟨q1 + q2 + 1, by rw [two_pow (k + 1)]; omega, fun n c W hc hW => ?_⟩
        have l1 := cov_len (m := m) k a
        rw [show q1 + q2 + 1 + n = (q1 + (q2 + n)) + 1 by omega, one, if_neg h1, if_pos h2, cat_eq (by show W.length + 2 ≤ _; omega), bd_eq, bd_eq]
        have hd : ((2 ^ (k + 1) : Nat) : Int) / 2 = ((2 ^ k : Nat) : Int) := by omega
        rw [hd]
        show whF _ (q1 + (q2 + n)) (c, W ++ [((a : Int) + ((2 ^ k : Nat) : Int), ((2 ^ k : Nat) : Int)), ((a : Int), ((2 ^ k : Nat) : Int))]) = _
        rw [show ((a : Int) + ((2 ^ k : Nat) : Int), ((2 ^ k : Nat) : Int)) = (((a + 2 ^ k : Nat) : Int), ((2 ^ k : Nat) : Int)) by rw [Int.natCast_add]]
        rw [show ∀ x y : Int × Int, W ++ [x, y] = (W ++ [x]) ++ [y] from fun x y => by simp]
        rw [e1 (q2 + n) c (W ++ [_]) (by omega) (by rw [List.length_append, List.length_singleton]; omega), e2 n _ W (by rw [List.length_append]; omega) (by omega)]
        have hf : ¬ full m (k + 1) a = true := fun hf => h1 ((full_iff hb (k + 1) a).mp hf)
        show _ = whF _ n (c ++ (if full m (k + 1) a = true then _ else _), W)
        rw [if_neg hf, List.append_assoc]
/-- the block of size 2 ^ k around a place -/
def blk (p : Int) (k : Nat) : Int × Int := (p - p % 2 ^ k, 2 ^ k)
theorem pow_pos' (k : Nat) : (0 : Int) < 2 ^ k := Int.pow_pos (by decide)
theorem blocks_eq {n : Nat} {p : Int} (h : n ≤ 60) : M_blocks_with (n : Int) p = some ((List.range (n + 1)).map (blk p)) := by
  unfold M_blocks_with
  simp only [lt_eq]
  rw [rngO_eq (by unfold rngOk; omega)]
  obtain ⟨z, h1, h2⟩ := foldO_rng (f := fun s x => B_blocks_with_8 p s.1 s.2 x) (lo := 0) (hi := (n : Int) + 1) (fun k s => s.1 = (List.range k.toNat).map (blk p) ∧ s.2 = 2 ^ k.toNat) (fun k s h1 h2 ⟨h3, h4⟩ => by
    unfold B_blocks_with_8
    rw [modO_eq (by rw [h4]; exact pow_pos' _), bd_eq, app_eq (by rw [h3, List.length_map, List.length_range]; omega)]
    refine ⟨_, rfl, ?_, ?_⟩
    · rw [show (k + 1).toNat = k.toNat + 1 by omega, List.range_succ, List.map_append, ← h3, h4]
      rfl
    · show s.2 * 2 = _
      rw [h4, show (k + 1).toNat = k.toNat + 1 by omega, Int.pow_succ]) ([], 1) ⟨rfl, rfl⟩ (by omega)
  simp only [bd_eq, h1]
  rw [show ((n : Int) + 1).toNat = n + 1 by omega] at h2
  show some z.1 = _
  rw [h2.1]
theorem ix_last {α : Type} (xs : List α) (x : α) : ix (xs ++ [x]) (-1) = some x := by
  unfold ix atI ixN
  rw [if_neg (by omega), if_pos (by rw [List.length_append, List.length_singleton]; omega)]
  show (xs ++ [x])[(-1 + ((xs ++ [x]).length : Int)).toNat]? = some x
  rw [List.length_append, List.length_singleton, show (-1 + ((xs.length + 1 : Nat) : Int)).toNat = xs.length by omega, List.getElem?_append_right (Nat.le_refl _), Nat.sub_self]
  rfl
theorem whole_block_eq {L : Nat} (h : L ≤ 60) : M_whole_block (L : Int) = some (0, 2 ^ L) := by
  unfold M_whole_block
  rw [blocks_eq h, bd_eq, List.range_succ, List.map_append, List.map_singleton, ix_last, bd_eq]
  simp [blk]
theorem least_cover_eq {m l : List Int} {L : Nat} (h : L ≤ 9) (ht : Tells m l) (hb : Bits m) (hl : l.length + 1 < 4096) : M_least_cover (L : Int) l = some (cov m L 0) := by
  unfold M_least_cover M_ascending
  rw [show setO l = some l from if_pos hl, bd_eq, bd_eq, whole_block_eq (by omega)]
  simp only [lt_eq, bd_eq]
  have p9 : ∀ L, L < 10 → 2 ^ (L + 1) ≤ 4 ^ (L + 2) ∧ 2 ^ L ≤ 512 := by decide
  have h9 := p9 L (by omega)
  obtain ⟨q, b, e⟩ := step_eq (m := m) (l := asc l) (fun p => asc_mem.trans (ht p)) hb (asc_lt l) L 0 (by omega)
  have hq := h9.1
  rw [show ((L : Int)).toNat = L from rfl, show 4 ^ (L + 2) = q + ((4 ^ (L + 2) - q - 1) + 1) by omega]
  rw [show (([], [((0 : Int), (2 : Int) ^ L)]) : List (Int × Int) × List (Int × Int)) = ([], [] ++ [(((0 : Nat) : Int), ((2 ^ L : Nat) : Int))]) by rw [pw]; rfl]
  rw [e _ [] [] (by simp; omega) (by simp; omega)]
  rfl
/-! the question -/
theorem covers_inner (xs : List Int) : foldF (fun (s : Unit) x => B_l_covers_31 x) () xs = some (.nx ()) := by
  induction xs with
  | nil => rfl
  | cons x r ih =>
    show bd (B_l_covers_31 x) _ = _
    exact ih
theorem block_ok {m : List Int} {L k a b : Nat} (hm : m.length = 2 ^ L) (hb : Bits m) (hk : k ≤ L) (hd : 2 ^ k ∣ a) (ha : a + 2 ^ k ≤ 2 ^ L) (hba : b ≤ a) (h0 : cn m b (a - b) = 0) (hf : full m k a = true) (hp : k < L → ¬ full m (k + 1) (a - a % 2 ^ (k + 1)) = true) : B_l_covers_9 m (m.length : Int) (b : Int) ((a : Int), ((2 ^ k : Nat) : Int)) = some (.nx ((a + 2 ^ k : Nat) : Int)) := by
  have pk := Nat.two_pow_pos k
  have lm : (m.length : Int) = ((2 ^ L : Nat) : Int) := by rw [hm]
  unfold B_l_covers_9
  rw [if_neg (by decide)]
  simp only [lt_eq, covers_inner, bd_eq]
  show K_l_covers_31 m (m.length : Int) (b : Int) ((a : Int), ((2 ^ k : Nat) : Int)) = _
  unfold K_l_covers_31
  simp only []
  rw [if_neg (by simp only [Bool.or_eq_true, decide_eq_true_eq]; omega)]
  have d1 : ((m.length : Int)) % ((2 ^ k : Nat) : Int) = 0 := by
    rw [lm]
    exact Int.emod_eq_zero_of_dvd (Int.natCast_dvd_natCast.mpr (Nat.pow_dvd_pow 2 hk))
  have d2 : (a : Int) % ((2 ^ k : Nat) : Int) = 0 := Int.emod_eq_zero_of_dvd (Int.natCast_dvd_natCast.mpr hd)
  rw [modO_eq (by omega), bd_eq, d1, if_neg (by decide), modO_eq (by omega), bd_eq, d2, bd_eq, if_neg (by decide)]
  rw [cut_sum (by omega) (by omega) (by omega), cut_sum (by omega) (by omega) (by omega)]
  rw [show ((b : Int)).toNat = b from rfl, show ((a : Int) - (b : Int)).toNat = a - b by omega, h0]
  rw [show ((a : Int)).toNat = a from rfl, show ((a : Int) + ((2 ^ k : Nat) : Int) - (a : Int)).toNat = 2 ^ k by omega, (full_iff hb k a).mp hf]
  rw [if_neg (by simp), modO_eq (by omega), bd_eq, lt_eq]
  rw [show (2 : Int) * ((2 ^ k : Nat) : Int) = ((2 ^ (k + 1) : Nat) : Int) by rw [two_pow]; omega]
  rw [if_neg, lt_eq, Int.natCast_add]
  intro hc
  rw [Bool.and_eq_true, decide_eq_true_eq, decide_eq_true_eq] at hc
  obtain ⟨c1, c2⟩ := hc
  have kL : k < L := by
    refine Nat.lt_of_not_le fun hle => ?_
    have : k = L := by omega
    subst this
    have := two_pow k
    omega
  have e : (a : Int) - (a : Int) % ((2 ^ (k + 1) : Nat) : Int) = ((a - a % 2 ^ (k + 1) : Nat) : Int) := by
    have := Nat.mod_le a (2 ^ (k + 1))
    rw [← Int.natCast_emod]
    omega
  rw [e] at c2
  refine hp kL ((full_iff hb (k + 1) _).mpr ?_)
  have up : a - a % 2 ^ (k + 1) + 2 ^ (k + 1) ≤ 2 ^ L := by
    obtain ⟨t, ht⟩ : 2 ^ (k + 1) ∣ 2 ^ L := Nat.pow_dvd_pow 2 kL
    have e1 : a - a % 2 ^ (k + 1) = 2 ^ (k + 1) * (a / 2 ^ (k + 1)) := by
      have := Nat.div_add_mod a (2 ^ (k + 1))
      omega
    have e2 : a / 2 ^ (k + 1) < t := by
      refine (Nat.div_lt_iff_lt_mul (Nat.two_pow_pos _)).mpr ?_
      rw [Nat.mul_comm, ← ht]
      omega
    rw [e1, ht]
    have := Nat.mul_le_mul_left (2 ^ (k + 1)) (show a / 2 ^ (k + 1) + 1 ≤ t from e2)
    rw [Nat.mul_add, Nat.mul_one] at this
    exact this
  rw [cut_sum (by omega) (by omega) (by omega)] at c2
  rw [show (((a - a % 2 ^ (k + 1) : Nat) : Int)).toNat = a - a % 2 ^ (k + 1) from rfl] at c2
  rw [show (((a - a % 2 ^ (k + 1) : Nat) : Int) + ((2 ^ (k + 1) : Nat) : Int) - ((a - a % 2 ^ (k + 1) : Nat) : Int)).toNat = 2 ^ (k + 1) by omega] at c2
  exact c2
theorem foldF_one {α ρ σ : Type} {f : σ → α → Option (Fl ρ σ)} {s s' : σ} {x : α} (h : f s x = some (.nx s')) (ys : List α) : foldF f s ([x] ++ ys) = foldF f s' ys := by
  show bd (f s x) _ = _
  rw [h]
  rfl
theorem cov_run {m : List Int} {L : Nat} (hm : m.length = 2 ^ L) (hb : Bits m) : ∀ (k a b : Nat), k ≤ L → 2 ^ k ∣ a → a + 2 ^ k ≤ 2 ^ L → b ≤ a → cn m b (a - b) = 0 → (k < L → ¬ full m (k + 1) (a - a % 2 ^ (k + 1)) = true) → ∃ b', b' ≤ a + 2 ^ k ∧ cn m b' (a + 2 ^ k - b') = 0 ∧ ∀ ys, foldF (fun s x => B_l_covers_9 m (m.length : Int) s x) (b : Int) (cov m k a ++ ys) = foldF (fun s x => B_l_covers_9 m (m.length : Int) s x) (b' : Int) ys
  | k, a, b, hk, hd, ha, hba, h0, hp => by
    by_cases hf : full m k a = true
    · refine ⟨a + 2 ^ k, Nat.le_refl _, by rw [Nat.sub_self]; rfl, fun ys => ?_⟩
      rw [cov_full hf]
      exact foldF_one (block_ok hm hb hk hd ha hba h0 hf hp) ys
    · cases k with
      | zero =>
        have e0 : ¬ mk m a = 1 := fun e => hf (decide_eq_true e)
        have e1 := (mk_bit hb a).resolve_right e0
        refine ⟨b, by omega, ?_, fun ys => ?_⟩
        · rw [show a + 2 ^ 0 - b = (a - b) + 1 by omega]
          show cn m b (a - b) + mk m (b + (a - b)) = 0
          rw [h0, show b + (a - b) = a by omega, e1]
          rfl
        · show foldF _ _ ((if full m 0 a = true then _ else _) ++ ys) = _
          rw [if_neg hf]
          rfl
      | succ k =>
        have p2 := two_pow k
        have dm : a % 2 ^ (k + 1) = 0 := Nat.mod_eq_zero_of_dvd hd
        have dk : 2 ^ k ∣ a := Nat.dvd_trans ⟨2, Nat.pow_succ 2 k⟩ hd
        have pk := Nat.two_pow_pos k
        obtain ⟨b1, g1, g2, g3⟩ := cov_run hm hb k a b (by omega) dk (by omega) hba h0 (fun _ => by rw [dm]; exact hf)
        have dm2 : (a + 2 ^ k) % 2 ^ (k + 1) = 2 ^ k := by rw [Nat.add_mod, dm, Nat.zero_add, Nat.mod_mod]; exact Nat.mod_eq_of_lt (by omega)
        obtain ⟨b2, g4, g5, g6⟩ := cov_run hm hb k (a + 2 ^ k) b1 (by omega) (Nat.dvd_add dk (Nat.dvd_refl _)) (by omega) g1 g2 (fun _ => by rw [dm2, Nat.add_sub_cancel]; exact hf)
        refine ⟨b2, by omega, by rw [show a + 2 ^ (k + 1) - b2 = a + 2 ^ k + 2 ^ k - b2 by omega]; exact g5, fun ys => ?_⟩
        show foldF _ _ ((if full m (k + 1) a = true then _ else _) ++ ys) = _
        rw [if_neg hf, List.append_assoc, g3, g6]
/-! the least number -/
def cts (m : List Int) (L k : Nat) : List Int := (List.range (2 ^ (L - k))).map fun i => ((cov m k (i * 2 ^ k)).length : Int)
def fls (m : List Int) (L k : Nat) : List Int := (List.range (2 ^ (L - k))).map fun i => if full m k (i * 2 ^ k) = true then 1 else 0
theorem rg_get {g : Nat → Int} {n i : Nat} (h : i < n) : ((List.range n).map g)[i]? = some (g i) := by simp [h]
theorem ix_rg {g : Nat → Int} {n i : Nat} {j : Int} (h : i < n) (e : j = i) : ix ((List.range n).map g) j = some (g i) := by
  rw [e]
  exact ix_nat (rg_get h)
theorem rg_eq {m : List Int} {g : Nat → Int} {n : Nat} (h : m.length = n) (hg : ∀ i, i < n → g i = mk m i) : m = (List.range n).map g := by
  refine List.ext_getElem? fun i => ?_
  by_cases hi : i < n
  · rw [rg_get hi, hg i hi, List.getElem?_eq_getElem (by omega)]
    unfold mk
    rw [List.getD_eq_getElem?_getD, List.getElem?_eq_getElem (by omega)]
    rfl
  · rw [List.getElem?_eq_none (by omega), List.getElem?_eq_none (by simp; omega)]
theorem cts_zero {m : List Int} {L : Nat} (hm : m.length = 2 ^ L) (hb : Bits m) : m = cts m L 0 := rg_eq hm fun i _ => by
  show (((if decide (mk m (i * 2 ^ 0) = 1) = true then _ else _ : List (Int × Int)).length : Nat) : Int) = _
  rw [show i * 2 ^ 0 = i by omega]
  rcases mk_bit hb i with e | e
  · rw [e]; rfl
  · rw [e]; rfl
theorem fls_zero {m : List Int} {L : Nat} (hm : m.length = 2 ^ L) (hb : Bits m) : m = fls m L 0 := rg_eq hm fun i _ => by
  show (if decide (mk m (i * 2 ^ 0) = 1) = true then (1 : Int) else 0) = _
  rw [show i * 2 ^ 0 = i by omega]
  rcases mk_bit hb i with e | e
  · rw [e]; rfl
  · rw [e]; rfl
theorem half_eq {m : List Int} {L k : Nat} (h : k < L) (hL : L ≤ 20) (x : Int) : B_l_least_7 (cts m L k) (fls m L k) x = some (cts m L (k + 1), fls m L (k + 1)) := by
  have e1 : 2 ^ (L - k) = 2 ^ (L - (k + 1)) + 2 ^ (L - (k + 1)) := by rw [show L - k = (L - (k + 1)) + 1 by omega, two_pow]
  have e20 : 2 ^ (L - (k + 1)) ≤ 2 ^ 20 := Nat.pow_le_pow_right (by decide) (by omega)
  have pp := Nat.two_pow_pos (L - (k + 1))
  unfold B_l_least_7
  simp only [lt_eq]
  have ln : ((cts m L k).length : Int) / 2 = ((2 ^ (L - (k + 1)) : Nat) : Int) := by
    unfold cts
    rw [List.length_map, List.length_range]
    omega
  rw [ln, rngO_eq (by unfold rngOk; omega), bd_eq]
  obtain ⟨z, h1, h2⟩ := foldO_rng (f := fun s x => B_l_least_39 (cts m L k) (fls m L k) s.1 s.2 x) (lo := 0) (hi := ((2 ^ (L - (k + 1)) : Nat) : Int)) (fun j s => s = ((List.range j.toNat).map fun i => ((cov m (k + 1) (i * 2 ^ (k + 1))).length : Int), (List.range j.toNat).map fun i => if full m (k + 1) (i * 2 ^ (k + 1)) = true then 1 else 0)) (fun j s h1 h2 h3 => by
    obtain ⟨i, rfl⟩ : ∃ i : Nat, j = i := ⟨j.toNat, by omega⟩
    subst h3
    have a1 : (2 * i) * 2 ^ k = i * 2 ^ (k + 1) := by rw [Nat.pow_succ, Nat.mul_comm (2 ^ k) 2, ← Nat.mul_assoc, Nat.mul_comm i 2]
    have a2 : (2 * i + 1) * 2 ^ k = i * 2 ^ (k + 1) + 2 ^ k := by rw [Nat.add_mul, a1, Nat.one_mul]
    have fe : full m (k + 1) (i * 2 ^ (k + 1)) = (full m k ((2 * i) * 2 ^ k) && full m k ((2 * i + 1) * 2 ^ k)) := by rw [a1, a2]; rfl
    have ce : cov m (k + 1) (i * 2 ^ (k + 1)) = if full m (k + 1) (i * 2 ^ (k + 1)) = true then [(((i * 2 ^ (k + 1) : Nat) : Int), 2 ^ (k + 1))] else cov m k ((2 * i) * 2 ^ k) ++ cov m k ((2 * i + 1) * 2 ^ k) := by rw [a1, a2]; rfl
    rw [show ((i : Int) + 1).toNat = i + 1 by omega, show ((i : Int)).toNat = i from rfl, List.range_succ, List.map_append, List.map_append, List.map_singleton, List.map_singleton, ce, fe]
    unfold B_l_least_39
    rw [show ix (fls m L k) (2 * (i : Int)) = some _ from ix_rg (i := 2 * i) (by omega) (by omega), show ix (fls m L k) (2 * (i : Int) + 1) = some _ from ix_rg (i := 2 * i + 1) (by omega) (by omega)]
    rw [show ix (cts m L k) (2 * (i : Int)) = some _ from ix_rg (i := 2 * i) (by omega) (by omega), show ix (cts m L k) (2 * (i : Int) + 1) = some _ from ix_rg (i := 2 * i + 1) (by omega) (by omega)]
    simp only [bd_eq]
    rw [mulO_eq (by split <;> omega), bd_eq, app_eq (by rw [List.length_map, List.length_range]; omega), bd_eq, app_eq (by rw [List.length_map, List.length_range]; omega), app_eq (by rw [List.length_map, List.length_range]; omega), bd_eq, bd_eq]
    cases full m k (2 * i * 2 ^ k) <;> cases full m k ((2 * i + 1) * 2 ^ k) <;> refine ⟨_, rfl, ?_⟩ <;> simp) ([], []) rfl (by omega)
  rw [h1, bd_eq, h2]
  rfl
theorem least_eq {m : List Int} {L : Nat} (hm : m.length = 2 ^ L) (hb : Bits m) (hL : L ≤ 20) : M_l_least (L : Int) m = some ((cov m L 0).length : Int) := by
  unfold M_l_least
  rw [rngO_eq (by unfold rngOk; omega), bd_eq]
  obtain ⟨z, h1, h2⟩ := foldO_rng (f := fun s x => B_l_least_7 s.1 s.2 x) (lo := 0) (hi := (L : Int)) (fun j s => s = (cts m L j.toNat, fls m L j.toNat)) (fun j s h1 h2 h3 => by
    subst h3
    refine ⟨_, half_eq (by omega) hL j, ?_⟩
    rw [show (j + 1).toNat = j.toNat + 1 by omega]) (m, m) (by
      show (m, m) = (cts m L 0, fls m L 0)
      rw [← cts_zero hm hb, ← fls_zero hm hb]) (by omega)
  rw [h1, bd_eq, h2]
  show K_l_least_7 (cts m L L) (fls m L L) = _
  unfold K_l_least_7
  have : ix (cts m L L) 0 = some _ := ix_rg (i := 0) (Nat.two_pow_pos _) rfl
  rw [this, bd_eq, Nat.zero_mul]
theorem covers_ok {m : List Int} {L : Nat} (hm : m.length = 2 ^ L) (hb : Bits m) (hL : L ≤ 20) : M_l_covers (cov m L 0) (L : Int) m = some true := by
  unfold M_l_covers
  rw [if_neg (by decide), lt_eq]
  obtain ⟨b', g1, g2, g3⟩ := cov_run hm hb L 0 0 (Nat.le_refl _) (Nat.dvd_zero _) (by omega) (Nat.le_refl _) rfl (fun h => absurd h (Nat.lt_irrefl _))
  have g3 := g3 []
  rw [List.append_nil] at g3
  rw [show (0 : Int) = ((0 : Nat) : Int) from rfl, g3]
  show K_l_covers_9 (cov m L 0) (L : Int) m (b' : Int) = _
  unfold K_l_covers_9
  rw [cut_sumN (by omega) (by omega), hm, show ((b' : Int)).toNat = b' from rfl, show 2 ^ L - b' = 0 + 2 ^ L - b' by omega, g2, if_pos (by decide), least_eq hm hb hL]
  simp only [bd_eq, decide_true]
/-! what is asked -/
theorem bits_set {m : List Int} (hb : Bits m) {x : Int} (hx : x = 0 ∨ x = 1) (j : Nat) : Bits (m.set j x) := fun y hy => by
  rcases List.mem_or_eq_of_mem_set hy with h | rfl
  · exact hb y h
  · exact hx
theorem stI_int {α : Type} {xs : List α} {j : Int} {x : α} (h0 : 0 ≤ j) (h : j < xs.length) : stI xs j x = some (xs.set j.toNat x) := by
  obtain ⟨i, rfl⟩ : ∃ i : Nat, j = i := ⟨j.toNat, by omega⟩
  exact stI_nat (by omega)
theorem rng_length (n : Nat) : (rng 0 (n : Int)).length = n := by rw [rng_len]; omega
theorem bits_lc {n : Nat} (z : Int) (hz : z = 0 ∨ z = 1) : Bits ((rng 0 (n : Int)).map fun _ => z) ∧ ((rng 0 (n : Int)).map fun _ => z).length = n := ⟨fun x hx => by
  obtain ⟨_, _, rfl⟩ := List.mem_map.mp hx
  exact hz, by rw [List.length_map, rng_length]⟩
theorem marks_ok {b : List Int} {n : Nat} (hb : BoxOk b) (h0 : 0 < n) (h1 : n ≤ 512) : ∃ m b', M_l_marks b (n : Int) = some (m, b') ∧ Bits m ∧ m.length = n ∧ BoxOk b' := by
  obtain ⟨r, b1, e1, r1, r2, k1⟩ := take_ok (n := 8) hb (by decide) (by decide)
  have ro : rngO 0 (n : Int) = some (rng 0 (n : Int)) := rngO_eq (by unfold rngOk; omega)
  unfold M_l_marks
  rw [e1, bd_eq, ro]
  simp only [bd_eq]
  by_cases c0 : r = 0
  · rw [if_pos (decide_eq_true c0), lcO_pure0 (f := fun _ => (1 : Int)), bd_eq]
    exact ⟨_, _, rfl, (bits_lc 1 (.inr rfl)).1, (bits_lc 1 (.inr rfl)).2, k1⟩
  rw [if_neg (by simpa using c0)]
  by_cases c1 : r = 1
  · rw [if_pos (decide_eq_true c1), lcO_pure0 (f := fun _ => (0 : Int)), bd_eq]
    exact ⟨_, _, rfl, (bits_lc 0 (.inl rfl)).1, (bits_lc 0 (.inl rfl)).2, k1⟩
  rw [if_neg (by simpa using c1)]
  by_cases c2 : r = 2 ∨ r = 3
  · rw [if_pos (by simpa using c2), lcO_pure0 (f := fun _ => (0 : Int)), bd_eq]
    obtain ⟨q, b2, e2, q1, q2, k2⟩ := take_ok (n := 4) k1 (by decide) (by decide)
    rw [e2, bd_eq, rngO_eq (by unfold rngOk; omega), bd_eq]
    obtain ⟨z, g1, g2⟩ := foldO_rng (f := fun s x => B_l_marks_25 (n : Int) s.1 s.2 x) (lo := 0) (hi := 1 + q) (fun _ s => BoxOk s.1 ∧ Bits s.2 ∧ s.2.length = n) (fun k s _ _ ⟨i1, i2, i3⟩ => by
      obtain ⟨u, b3, e3, u1, u2, k3⟩ := take_ok (n := (n : Int)) i1 (by omega) (by omega)
      obtain ⟨v, b4, e4, v1, v2, k4⟩ := take_ok (n := (n : Int)) k3 (by omega) (by omega)
      unfold B_l_marks_25
      rw [e3, bd_eq, e4, bd_eq, lt_eq, rngO_eq (by unfold rngOk; simp only []; omega), bd_eq]
      obtain ⟨y, j1, j2⟩ := foldO_rng (f := fun s x => B_l_marks_49 (n : Int) s x) (lo := u) (hi := u + (1 + v)) (fun _ s => Bits s ∧ s.length = n) (fun k s h1 _ ⟨i4, i5⟩ => by
        unfold B_l_marks_49
        by_cases ck : k < (n : Int)
        · rw [if_pos (decide_eq_true ck), stI_int (by omega) (by omega), bd_eq]
          exact ⟨_, rfl, bits_set i4 (.inr rfl) _, by rw [List.length_set]; exact i5⟩
        · rw [if_neg (by simpa using ck)]
          exact ⟨_, rfl, i4, i5⟩) s.2 ⟨i2, i3⟩ (by omega)
      rw [j1, bd_eq]
      exact ⟨_, rfl, k4, j2.1, j2.2⟩) (b2, _) ⟨k2, (bits_lc 0 (.inl rfl)).1, (bits_lc 0 (.inl rfl)).2⟩ (by omega)
    rw [g1, bd_eq]
    exact ⟨_, _, rfl, g2.2.1, g2.2.2, g2.1⟩
  rw [if_neg (by simpa using c2)]
  by_cases c4 : r = 4
  · rw [if_pos (decide_eq_true c4)]
    obtain ⟨ys, s', g1, g2, g3, g4⟩ := lcS_spec (eO := fun (d67 : List Int) (x67 : Int) => bd (M_l_take d67 4) fun t68 => some (if (decide (0 < t68.1)) = true then (1 : Int) else 0, t68.2)) BoxOk (fun y => y = 0 ∨ y = 1) (fun s x hs => by
      obtain ⟨u, b3, e3, u1, u2, k3⟩ := take_ok (n := 4) hs (by decide) (by decide)
      refine ⟨_, _, by rw [e3, bd_eq], ?_, k3⟩
      split
      · exact .inr rfl
      · exact .inl rfl) (rng 0 (n : Int)) b1 k1
    rw [g1, bd_eq]
    exact ⟨_, _, rfl, g2, by rw [g3, rng_length], g4⟩
  · rw [if_neg (by simpa using c4)]
    obtain ⟨ys, s', g1, g2, g3, g4⟩ := lcS_spec (eO := fun (d71 : List Int) (x71 : Int) => bd (M_l_take d71 2) fun t72 => some (t72.1, t72.2)) BoxOk (fun y => y = 0 ∨ y = 1) (fun s x hs => by
      obtain ⟨u, b3, e3, u1, u2, k3⟩ := take_ok (n := 2) hs (by decide) (by decide)
      exact ⟨_, _, by rw [e3, bd_eq], by omega, k3⟩) (rng 0 (n : Int)) b1 k1
    rw [g1, bd_eq]
    exact ⟨_, _, rfl, g2, by rw [g3, rng_length], g4⟩
/-- the same members -/
def Alike (l k : List Int) : Prop := ∀ p, p ∈ l ↔ p ∈ k
theorem mk_lt {m : List Int} {p : Nat} (h : mk m p = 1) : p < m.length := by
  refine Nat.lt_of_not_le fun hle => ?_
  unfold mk at h
  rw [List.getD_eq_getElem?_getD, List.getElem?_eq_none hle] at h
  exact absurd h (by decide)
theorem mk_ix {m : List Int} {p : Int} (h0 : 0 ≤ p) (h1 : p < m.length) : ix m p = some (mk m p.toNat) := by
  rw [ix_int h0 (List.getElem?_eq_getElem (by omega))]
  unfold mk
  rw [List.getD_eq_getElem?_getD, List.getElem?_eq_getElem (by omega)]
  rfl
/-- reading a list at places -/
theorem at_mem {l : List Int} {p : Int} : p ∈ l ↔ ∃ i : Int, 0 ≤ i ∧ i < l.length ∧ mk l i.toNat = p := by
  constructor
  · intro h
    obtain ⟨i, hi, e⟩ := List.getElem_of_mem h
    refine ⟨i, by omega, by omega, ?_⟩
    unfold mk
    rw [show ((i : Int)).toNat = i from rfl, List.getD_eq_getElem?_getD, List.getElem?_eq_getElem hi]
    exact e
  · rintro ⟨i, h0, h1, rfl⟩
    unfold mk
    rw [List.getD_eq_getElem?_getD, List.getElem?_eq_getElem (by omega)]
    exact List.getElem_mem _
theorem handed_ok {b m : List Int} (hb : BoxOk b) (hm : m.length ≤ 512) : ∃ l b', M_l_handed b m = some (l, b') ∧ Tells m l ∧ l.length ≤ 2000 := by
  unfold M_l_handed
  rw [rngO_eq (by unfold rngOk; omega), bd_eq]
  rw [lcO_spec (c := fun x => decide (mk m x.toNat = 1)) (e := fun x => x) (fun x hx => by
    have := rng_mem.mp hx
    simp only [mk_ix (m := m) (p := x) (by omega) (by omega), bd_eq]) (fun _ _ _ => rfl), bd_eq, List.map_id']
  generalize hl : List.filter (fun x => decide (mk m x.toNat = 1)) (rng 0 (m.length : Int)) = l
  have tl : Tells m l := fun p => by
    rw [← hl, List.mem_filter, rng_mem, decide_eq_true_eq]
    exact ⟨fun h => ⟨h.1.1, h.2⟩, fun h => ⟨⟨h.1, by have := mk_lt h.2; omega⟩, h.2⟩⟩
  have ll : l.length ≤ 512 := by
    have := List.length_filter_le (fun x => decide (mk m x.toNat = 1)) (rng 0 (m.length : Int))
    rw [hl, rng_length] at this
    omega
  clear hl
  by_cases c0 : (l.length : Int) = 0
  · rw [if_pos (decide_eq_true c0)]
    have : l = [] := List.length_eq_zero_iff.mp (by omega)
    subst this
    exact ⟨_, _, rfl, tl, by simp⟩
  rw [if_neg (by simpa using c0)]
  obtain ⟨t, b1, e1, t1, t2, k1⟩ := take_ok (n := (l.length : Int)) hb (by omega) (by omega)
  rw [e1, bd_eq]
  have ct : cat (cut l (some t) none) (cut l none (some t)) = some (l.drop t.toNat ++ l.take t.toNat) := by
    obtain ⟨i, rfl⟩ : ∃ i : Nat, t = i := ⟨t.toNat, by omega⟩
    have c1 : cut l (some (i : Int)) none = l.drop i := by
      unfold cut
      rw [HT.sIx_nat, HT.sIx_none, Nat.min_eq_left (by omega), List.take_of_length_le (by rw [List.length_drop]; omega)]
    have c2 : cut l none (some (i : Int)) = l.take i := by
      unfold cut
      rw [HT.sIx_nat, HT.sIx_none, Nat.min_eq_left (by omega), List.drop_zero, Nat.sub_zero]
    rw [c1, c2, cat_eq (by rw [List.length_drop, List.length_take]; omega)]
    rfl
  rw [show (t, b1).1 = t from rfl, ct, bd_eq]
  generalize hu : l.drop t.toNat ++ l.take t.toNat = u
  have au : Alike u l := fun p => by
    have := List.take_append_drop t.toNat l
    rw [← hu, List.mem_append, or_comm, ← List.mem_append, this]
  have lu : u.length = l.length := by rw [← hu, List.length_append, List.length_drop, List.length_take]; omega
  clear hu
  obtain ⟨w, b2, e2, w1, w2, k2⟩ := take_ok (n := 3) k1 (by decide) (by decide)
  rw [show (t, b1).2 = b1 from rfl, e2, bd_eq]
  have ro : rngO 0 (l.length : Int) = some (rng 0 (l.length : Int)) := rngO_eq (by unfold rngOk; omega)
  rw [ro]
  simp only [bd_eq]
  obtain ⟨u1, f1, a1, l1⟩ : ∃ u1, (if decide (w = 1) = true then bd (lcO (fun _ => some true) (fun (x25 : Int) => bd (ix u (((l.length : Int) - 1) - x25)) fun t26 => some t26) (rng 0 (l.length : Int))) fun t27 => some t27 else some u) = some u1 ∧ Alike u1 l ∧ u1.length = l.length := by
    by_cases cw : w = 1
    · rw [if_pos (decide_eq_true cw), lcO_spec (c := fun _ => true) (e := fun x => mk u ((l.length : Int) - 1 - x).toNat) (fun _ _ => rfl) (fun x hx _ => by
        have := rng_mem.mp hx
        rw [mk_ix (by omega) (by omega), bd_eq]), bd_eq, List.filter_eq_self.mpr (fun _ _ => rfl)]
      refine ⟨_, rfl, fun p => ?_, by rw [List.length_map, rng_length]⟩
      rw [← au p, List.mem_map, at_mem]
      constructor
      · rintro ⟨x, hx, rfl⟩
        have := rng_mem.mp hx
        exact ⟨_, by omega, by omega, rfl⟩
      · rintro ⟨i, h0, h1, rfl⟩
        exact ⟨(l.length : Int) - 1 - i, rng_mem.mpr (by omega), by rw [show (l.length : Int) - 1 - ((l.length : Int) - 1 - i) = i by omega]⟩
    · rw [if_neg (by simpa using cw)]
      exact ⟨_, rfl, au, lu⟩
  rw [f1, bd_eq]
  unfold K_l_handed_20
  rw [ro]
  simp only [bd_eq]
  obtain ⟨u2, f2, a2, l2⟩ : ∃ u2, (if decide (w = 2) = true then bd (lcO (fun (x40 : Int) => (some (decide ((x40 % 2) = 1)))) (fun (x40 : Int) => bd (ix u1 x40) fun t41 => some t41) (rng 0 (l.length : Int))) fun t42 => bd (lcO (fun (x50 : Int) => (some (decide ((x50 % 2) = 0)))) (fun (x50 : Int) => bd (ix u1 x50) fun t51 => some t51) (rng 0 (l.length : Int))) fun t52 => bd (cat t42 t52) fun t53 => some t53 else some u1) = some u2 ∧ Alike u2 l ∧ u2.length ≤ 1024 := by
    by_cases cw : w = 2
    · have hh : ∀ x, x ∈ rng 0 (l.length : Int) → (bd (ix u1 x) fun t => some t) = some (mk u1 x.toNat) := fun x hx => by
        have := rng_mem.mp hx
        rw [mk_ix (by omega) (by omega), bd_eq]
      rw [if_pos (decide_eq_true cw), lcO_spec (c := fun x => decide (x % 2 = 1)) (e := fun x => mk u1 x.toNat) (fun _ _ => rfl) (fun x hx _ => hh x hx), bd_eq]
      rw [lcO_spec (c := fun x => decide (x % 2 = 0)) (e := fun x => mk u1 x.toNat) (fun _ _ => rfl) (fun x hx _ => hh x hx), bd_eq]
      have n1 := List.length_filter_le (fun x => decide (x % 2 = 1)) (rng 0 (l.length : Int))
      have n2 := List.length_filter_le (fun x => decide (x % 2 = 0)) (rng 0 (l.length : Int))
      rw [rng_length] at n1 n2
      rw [cat_eq (by rw [List.length_map, List.length_map]; omega), bd_eq]
      refine ⟨_, rfl, fun p => ?_, by rw [List.length_append, List.length_map, List.length_map]; omega⟩
      rw [← a1 p, List.mem_append, List.mem_map, List.mem_map, at_mem]
      constructor
      · rintro (⟨x, hx, rfl⟩ | ⟨x, hx, rfl⟩)
        · have := rng_mem.mp (List.mem_filter.mp hx).1
          exact ⟨x, by omega, by omega, rfl⟩
        · have := rng_mem.mp (List.mem_filter.mp hx).1
          exact ⟨x, by omega, by omega, rfl⟩
      · rintro ⟨i, h0, h1, rfl⟩
        by_cases ci : i % 2 = 1
        · exact .inl ⟨i, List.mem_filter.mpr ⟨rng_mem.mpr (by omega), decide_eq_true ci⟩, rfl⟩
        · exact .inr ⟨i, List.mem_filter.mpr ⟨rng_mem.mpr (by omega), decide_eq_true (by omega)⟩, rfl⟩
    · rw [if_neg (by simpa using cw)]
      exact ⟨_, rfl, a1, by omega⟩
  rw [f2, bd_eq]
  unfold K_l_handed_34
  obtain ⟨v, b3, e3, v1, v2, k3⟩ := take_ok (n := 4) k2 (by decide) (by decide)
  rw [show (w, b2).2 = b2 from rfl, e3, bd_eq, rngO_eq (by unfold rngOk; simp only []; omega), bd_eq]
  obtain ⟨z, g1, g2⟩ := foldO_rng (f := fun s x => B_l_handed_62 l s.1 s.2 x) (lo := 0) (hi := v) (fun k s => BoxOk s.1 ∧ Alike s.2 l ∧ (s.2.length : Int) ≤ 1024 + k) (fun k s h1 h2 ⟨i1, i2, i3⟩ => by
    obtain ⟨q, b4, e4, q1, q2, k4⟩ := take_ok (n := (l.length : Int)) i1 (by omega) (by omega)
    unfold B_l_handed_62
    rw [e4, bd_eq, mk_ix (m := l) (p := q) (by omega) (by omega), bd_eq, cat_eq (by rw [List.length_singleton]; omega), bd_eq]
    refine ⟨_, rfl, k4, fun p => ?_, by simp; omega⟩
    show p ∈ [_] ++ s.2 ↔ _
    rw [List.mem_append, List.mem_singleton, i2 p]
    exact ⟨fun h => h.elim (fun h => by rw [h]; exact at_mem.mpr ⟨q, by omega, by omega, rfl⟩) id, .inr⟩) (b3, u2) ⟨k3, a2, by simp only []; omega⟩ (by omega)
  rw [g1, bd_eq]
  exact ⟨_, _, rfl, fun p => (g2.2.1 p).trans (tl p), by have := g2.2.2; omega⟩
theorem change_ok {m l : List Int} {p : Int} (ht : Tells m l) (hb : Bits m) (h0 : 0 ≤ p) (h1 : p < m.length) (hl : l.length ≤ 3000) : ∃ l' m', M_l_change l m p = some (l', l', m') ∧ Tells m' l' ∧ Bits m' ∧ m'.length = m.length ∧ l'.length ≤ l.length + 1 := by
  have mi := mk_ix h0 h1
  have mset : ∀ (x : Int) (q : Nat), mk (m.set p.toNat x) q = if q = p.toNat then x else mk m q := fun x q => by
    unfold mk
    rw [List.getD_eq_getElem?_getD, List.getElem?_set]
    by_cases e : p.toNat = q
    · rw [if_pos e, if_pos e.symm, if_pos (by omega)]
      rfl
    · rw [if_neg e, if_neg (Ne.symm e), List.getD_eq_getElem?_getD]
  unfold M_l_change
  rw [mi, bd_eq]
  rcases mk_bit hb p.toNat with e | e
  · rw [if_pos (by rw [e]; rfl), app_eq (by omega), bd_eq, bd_eq]
    unfold K_l_change_3
    rw [rngO_eq (by unfold rngOk; simp; omega), bd_eq]
    obtain ⟨z, g1, g2⟩ := foldO_rng (f := fun s x => B_l_change_11 m p s x) (lo := 0) (hi := ((l ++ [p]).length : Int)) (fun _ s => s = l ++ [p]) (fun k s _ _ hs => by
      unfold B_l_change_11
      rw [mi, bd_eq, e, if_neg (by simp)]
      exact ⟨_, rfl, hs⟩) (l ++ [p]) rfl (by omega)
    rw [g1, bd_eq, g2]
    unfold K_l_change_11
    rw [mi, bd_eq, stI_int h0 h1, bd_eq, e]
    refine ⟨_, _, rfl, fun q => ?_, bits_set hb (.inr rfl) _, List.length_set, by simp⟩
    rw [List.mem_append, List.mem_singleton, ht q, mset]
    by_cases eq : q = p
    · subst eq
      rw [if_pos rfl]
      exact ⟨fun _ => ⟨h0, rfl⟩, fun _ => .inr rfl⟩
    · constructor
      · rintro (⟨a1, a2⟩ | a)
        · rw [if_neg (by omega)]
          exact ⟨a1, a2⟩
        · exact absurd a eq
      · rintro ⟨a1, a2⟩
        rw [if_neg (by omega)] at a2
        exact .inl ⟨a1, a2⟩
  · rw [if_neg (by rw [e]; decide), bd_eq]
    unfold K_l_change_3
    rw [rngO_eq (by unfold rngOk; omega), bd_eq]
    obtain ⟨z, g1, g2⟩ := foldO_rng (f := fun s x => B_l_change_11 m p s x) (lo := 0) (hi := (l.length : Int)) (fun k s => (∀ q, q ≠ p → (q ∈ s ↔ q ∈ l)) ∧ s.length ≤ l.length ∧ (s.count p : Int) ≤ (l.length : Int) - k) (fun k s _ _ ⟨i1, i2, i3⟩ => by
      unfold B_l_change_11
      rw [mi, bd_eq, e]
      by_cases cp : p ∈ s
      · rw [if_pos (by simpa using cp), show remI s p = some (s.erase p) from if_pos cp, bd_eq]
        refine ⟨_, rfl, fun q hq => (List.mem_erase_of_ne hq).trans (i1 q hq), ?_, ?_⟩
        · have := List.length_erase_le (a := p) (l := s)
          omega
        · rw [List.count_erase_self]
          have := List.count_pos_iff.mpr cp
          omega
      · rw [if_neg (by simpa using cp)]
        refine ⟨_, rfl, i1, i2, ?_⟩
        rw [List.count_eq_zero.mpr cp]
        omega) l ⟨fun _ _ => Iff.rfl, Nat.le_refl _, by have := List.count_le_length (a := p) (l := l); omega⟩ (by omega)
    rw [g1, bd_eq]
    unfold K_l_change_11
    rw [mi, bd_eq, stI_int h0 h1, bd_eq, e]
    refine ⟨_, _, rfl, fun q => ?_, bits_set hb (.inl rfl) _, List.length_set, by omega⟩
    rw [mset]
    by_cases eq : q = p
    · subst eq
      have : z.count q = 0 := by omega
      have := List.count_eq_zero.mp this
      rw [if_pos rfl]
      exact ⟨fun h => absurd h this, fun h => absurd h.2 (by decide)⟩
    · rw [g2.1 q eq, ht q]
      constructor
      · rintro ⟨a1, a2⟩
        rw [if_neg (by omega)]
        exact ⟨a1, a2⟩
      · rintro ⟨a1, a2⟩
        rw [if_neg (by omega)] at a2
        exact ⟨a1, a2⟩
theorem law_true (ns : List Int) (hl : ns.length ≤ 63) : M_law ns = some true := by
  obtain ⟨b0, e0, k0⟩ := open_ok ns 0 (by decide)
  obtain ⟨q, b1, e1, q1, q2, k1⟩ := take_ok (n := 6) k0 (by decide) (by decide)
  obtain ⟨r, b2, e2, r1, r2, k2⟩ := take_ok (n := 8) k1 (by decide) (by decide)
  have main : ∀ (L : Nat), L ≤ 8 → K_law_9 ns b2 (L : Int) = some true := fun L hL => by
    have p9 : ∀ L, L < 10 → 0 < 2 ^ L ∧ 2 ^ L ≤ 512 := by decide
    have pL := p9 L (by omega)
    unfold K_law_9
    rw [whole_eq (by omega), bd_eq, ← pw]
    obtain ⟨m, b3, e3, m1, m2, k3⟩ := marks_ok k2 pL.1 pL.2
    rw [e3, bd_eq]
    obtain ⟨b4, e4, k4⟩ := open_ok ns 1 (by decide)
    rw [e4, bd_eq]
    obtain ⟨l, b5, e5, l1, l2⟩ := handed_ok k4 (show m.length ≤ 512 by omega)
    rw [show (m, b3).1 = m from rfl, e5, bd_eq]
    have lc := least_cover_eq (m := m) (L := L) (by omega) l1 m1 (by omega)
    have co := covers_ok m2 m1 (show L ≤ 20 by omega)
    have len0 : (cov m L 0).length ≤ 512 := Nat.le_trans (cov_len L 0) pL.2
    rw [show (l, b5).1 = l from rfl, lc, bd_eq, co, bd_eq, if_neg (by simp), app_eq (by omega), bd_eq, stI_int (by decide) (by simp), bd_eq, bd_eq, co, bd_eq, if_neg (by simp)]
    obtain ⟨b6, e6, k6⟩ := open_ok ns 2 (by decide)
    rw [e6, bd_eq]
    obtain ⟨p, b7, e7, p1, p2, k7⟩ := take_ok (n := (m.length : Int)) k6 (by omega) (by omega)
    rw [e7, bd_eq]
    obtain ⟨l', m', e8, t8, bb8, n8, nl8⟩ := change_ok l1 m1 p1 p2 (by omega)
    rw [show (p, b7).1 = p from rfl, e8, bd_eq]
    have m8 : m'.length = 2 ^ L := by omega
    rw [show (l', l', m').2.1 = l' from rfl, show (l', l', m').2.2 = m' from rfl]
    rw [least_cover_eq (m := m') (L := L) (by omega) t8 bb8 (by omega), bd_eq, covers_ok m8 bb8 (by omega), bd_eq, if_neg (by simp)]
    by_cases c8 : (L : Int) = 8
    · rw [if_pos (decide_eq_true c8)]
    · rw [if_neg (by simpa using c8)]
      rw [show (L : Int) + 1 = ((L + 1 : Nat) : Int) by omega]
      rw [rngO_eq (by unfold rngOk; omega)]
      simp only [bd_eq]
      rw [lcO_pure0 (f := fun _ => (0 : Int))]
      simp only [bd_eq]
      rw [cat_eq (by rw [List.length_map, rng_length]; omega)]
      simp only [bd_eq]
      have mk0 : ∀ q, mk (m' ++ (rng 0 (m'.length : Int)).map fun _ => 0) q = mk m' q := fun q => by
        unfold mk
        rw [List.getD_eq_getElem?_getD, List.getD_eq_getElem?_getD]
        by_cases hq : q < m'.length
        · rw [List.getElem?_append_left hq]
        · rw [List.getElem?_append_right (by omega), List.getElem?_eq_none (show m'.length ≤ q by omega), List.getElem?_map]
          cases (rng 0 (m'.length : Int))[q - m'.length]? <;> rfl
      have t9 : Tells (m' ++ (rng 0 (m'.length : Int)).map fun _ => 0) l' := fun q => by rw [mk0]; exact t8 q
      have b9 : Bits (m' ++ (rng 0 (m'.length : Int)).map fun _ => 0) := fun x hx => (List.mem_append.mp hx).elim (bb8 x) ((bits_lc 0 (.inl rfl)).1 x)
      have m9 : (m' ++ (rng 0 (m'.length : Int)).map fun _ => 0).length = 2 ^ (L + 1) := by rw [List.length_append, List.length_map, rng_length, m8, two_pow]
      rw [least_cover_eq (L := L + 1) (by omega) t9 b9 (by omega), bd_eq, covers_ok m9 b9 (by omega), bd_eq]
  unfold M_law
  rw [e0, bd_eq, e1, bd_eq, e2, bd_eq]
  obtain ⟨L, rfl⟩ : ∃ L : Nat, q = L := ⟨q.toNat, by omega⟩
  by_cases c : r = 0
  · rw [if_pos (decide_eq_true c), lt_eq, bd_eq]
    have := main (L + 3) (by omega)
    rw [show ((L + 3 : Nat) : Int) = (L : Int) + 3 by omega] at this
    exact this
  · rw [if_neg (by simpa using c), bd_eq]
    exact main L (by omega)
end Z

namespace Z
open PySem PySem.Spec L2
def topS (i : Nat) : Stmt := PySem.Challenge.pw_forkedshelves_k10_least_cover_by_blocks.main.body.getD i (.Pass ⟨0, 0, 0, 0⟩)
structure Blt (mg : Str → Option Value) : Prop where
  bool : mg "bool" = none
  int : mg "int" = none
  isinstance : mg "isinstance" = none
  len : mg "len" = none
  list : mg "list" = none
  range : mg "range" = none
  set : mg "set" = none
  sorted : mg "sorted" = none
  sum : mg "sum" = none
  tuple : mg "tuple" = none
section
variable {P : Program} {w : World} {K : PySem.W.Frag} {mg : Str → Option Value} {base : Heap}
abbrev s_l_open : Stmt := topS 8
theorem sc_l_open : FnScope ["_law_script", "_law_at", "_law_cell"] ["_law_script", "_law_at"] (defScope s_l_open) := ⟨rfl, rfl, rfl, by decide +kernel, rfl, by decide +kernel, by decide +kernel⟩
def sp_l_open (K : PySem.W.Frag) : Sp := fun vs H Q _ => ∃ (F0 : Hp) (Os0 : Owns) (x_script : (List Int)) (x_at : Int) (v_script : V) (v_at : V) (res : (List Int)), vs = [v_script, v_at] ∧ Wf F0 (Os0) H ∧ (rScr K).r F0 v_script x_script ∧ rInt.r F0 v_at x_at ∧ M_l_open x_script x_at = some res ∧ ∀ p F' H', Same F0 F' → Wf F' ((p, (oList rInt) res) :: Os0) H' → Q (.ref p) H'
theorem ok_l_open {f : Addr} {fd : FuncData} (T : FT K mg "_law_open" s_l_open ["_law_script", "_law_at"] f fd) (B : Blt mg) : FnOk P w K mg base CX0 1 f fd ["_law_script", "_law_at"] (sp_l_open K) := by
  refine T.fn.ok sc_l_open (fun vs H Q E h => ?_) (fun cdv A outer s H vs Q E hr h => ?_)
  · obtain ⟨_, _, _, _, _, _, _, rfl, _⟩ := h
    rfl
  · obtain ⟨F0, Os0, x_script, x_at, v_script, v_at, res, rfl, w0, r_script, r_at, h, kQ⟩ := h
    have nd := sc_l_open.nd
    refine ⟨_, pss_w, ?_⟩
    unfold M_l_open at h
    show Ws _ _ _ [some v_script, some v_at, none] _
    refine ws_set (n := 2) (W := rInt.v) w0 (ev_int) nd (fun v1 F2 H2 s2 w2 r1 => ?_)
    show Ws _ _ _ [some v_script, some v_at, some v1] _
    obtain ⟨y4, hy4, hk4⟩ := bd_some h
    refine ws_j (fun (sg : L2.St) (Hm : Hp) => ∃ (x_cell5 : Int) (v6 : V) (Fm : Hp), sg = [some v_script, some v_at, some v6] ∧ Same F2 Fm ∧ Wf Fm (Os0) Hm ∧ rInt.r Fm v6 x_cell5 ∧ x_cell5 = y4) (w1_if w2 (et_cmp cp_lt (ev_var (n := 1) (W := rInt.v) rfl r_at) (ev_lenS (ev_var (n := 0) (W := (rScr K).v) rfl ((rScr K).mono s2 r_script)) B.len)) (fun hb3 F7 H7 s7 w7 => ?_) (fun hb3 F7 H7 s7 w7 => ?_)) ?_
    · skip
      have h := (if_some hy4).1 hb3
      obtain ⟨t8, et8, h⟩ := bd_some h
      refine ws_set (n := 2) (W := rInt.v) w7 ((ev_ixS et8 (ev_var (n := 0) (W := (rScr K).v) rfl ((rScr K).mono (s2.trans s7) r_script)) (ev_var (n := 1) (W := rInt.v) rfl r_at))) nd (fun v9 F10 H10 s10 w10 r9 => ?_)
      show Ws _ _ _ [some v_script, some v_at, some v9] _
      refine ws_nil ?_
      exact ⟨t8, v9, F10, rfl, (s7.trans s10), w10, r9, Option.some.inj h⟩
    · skip
      have h := (if_some hy4).2 hb3
      refine ws_nil ?_
      exact ⟨0, v1, F7, rfl, s7, w7, r1, Option.some.inj h⟩
    · skip
      rintro _ H11 ⟨x_cell5, v6, F11, rfl, s11, w11, r12, rfl⟩
      have h := hk4
      have h : K_l_open_4 x_cell5 = some _ := h
      unfold K_l_open_4 at h
      refine ws_if w11 (et_cmp cp_ge (ev_var (n := 2) (W := rInt.v) rfl r12) (Ev.eq (x' := 1000000000000000000) (ev_pow ev_int ev_int ⟨by decide, by decide, by decide⟩) (by decide))) (fun hb13 F14 H14 s14 w14 => ?_) (fun hb13 F14 H14 s14 w14 => ?_)
      · skip
        have h := (if_some h).1 hb13
        obtain rfl := Option.some.inj h
        refine ws_retN (O := (oList rInt) _) w14 (evn_list (el_cons ev_int (el_cons (ev_sub (ev_var (n := 2) (W := rInt.v) rfl r12) (Ev.eq (x' := 1000000000000000000) (ev_pow ev_int ev_int ⟨by decide, by decide, by decide⟩) (by decide))) (el_cons ev_int el_nil))) (by exact (show 3 ≤ 16777216 by decide))) (fun pz Fz Hz sz wz => ?_)
        exact kQ _ _ _ ((s2.trans (s11.trans s14)).trans sz) wz
      · skip
        have h := (if_some h).2 hb13
        refine ws_nil ?_
        obtain rfl := Option.some.inj h
        refine ws_retN (O := (oList rInt) _) w14 (evn_list (el_cons ev_int (el_cons (ev_var (n := 2) (W := rInt.v) rfl r12) (el_cons ev_int el_nil))) (by exact (show 3 ≤ 16777216 by decide))) (fun pz Fz Hz sz wz => ?_)
        exact kQ _ _ _ ((s2.trans (s11.trans s14)).trans sz) wz
abbrev s_l_take : Stmt := topS 9
theorem sc_l_take : FnScope ["_law_box", "_law_size", "_law_drawn", "_law_k", "_law_mixed"] ["_law_box", "_law_size"] (defScope s_l_take) := ⟨rfl, rfl, rfl, by decide +kernel, rfl, by decide +kernel, by decide +kernel⟩
def sp_l_take (K : PySem.W.Frag) : Sp := fun vs H Q _ => ∃ (F0 : Hp) (Os0 : Owns) (x_box : (List Int)) (x_size : Int) (a_box : Addr) (v_size : V) (res : Int) (b_box : (List Int)), vs = [.ref a_box, v_size] ∧ Wf F0 ((a_box, (oList rInt) x_box) :: Os0) H ∧ rInt.r F0 v_size x_size ∧ M_l_take x_box x_size = some (res, b_box) ∧ ∀ v F' H', Same F0 F' → Wf F' ((a_box, (oList rInt) b_box) :: Os0) H' → rInt.r F' v res → Q v H'
theorem ok_l_take {f : Addr} {fd : FuncData} (T : FT K mg "_law_take" s_l_take ["_law_box", "_law_size"] f fd) (B : Blt mg) : FnOk P w K mg base CX0 1 f fd ["_law_box", "_law_size"] (sp_l_take K) := by
  refine T.fn.ok sc_l_take (fun vs H Q E h => ?_) (fun cdv A outer s H vs Q E hr h => ?_)
  · obtain ⟨_, _, _, _, _, _, _, _, rfl, _⟩ := h
    rfl
  · obtain ⟨F0, Os0, x_box, x_size, a_box, v_size, res, b_box, rfl, w0, r_size, h, kQ⟩ := h
    have nd := sc_l_take.nd
    refine ⟨_, pss_w, ?_⟩
    unfold M_l_take at h
    show Ws _ _ _ [some (.ref a_box), some v_size, none, none, none] _
    obtain ⟨t1, et1, h⟩ := bd_some h
    refine ws_if w0 (et_cmp cp_eq (ev_ixL et1 (ev_var (n := 0) (W := vOf (oList rInt)) rfl (vOf.own (i := 0) rfl)) ev_int) ev_int) (fun hb2 F3 H3 s3 w3 => ?_) (fun hb2 F3 H3 s3 w3 => ?_)
    · skip
      have h := (if_some h).1 hb2
      obtain ⟨t4, et4, h⟩ := bd_some h
      obtain ⟨t5, et5, h⟩ := bd_some h
      refine ws_set (n := 2) (W := rInt.v) w3 ((ev_modO et5 (ev_intI (ev_ixL et4 (ev_var (n := 0) (W := vOf (oList rInt)) rfl (vOf.own (i := 0) rfl)) ev_int) B.int) (ev_var (n := 1) (W := rInt.v) rfl r_size))) nd (fun v6 F7 H7 s7 w7 r6 => ?_)
      show Ws _ _ _ [some (.ref a_box), some v_size, some v6, none, none] _
      obtain ⟨t8, et8, h⟩ := bd_some h
      obtain ⟨t9, et9, h⟩ := bd_some h
      obtain ⟨x_box10, ex_box10, h⟩ := bd_some h
      refine ws_stL (n := 0) (R := rInt) w7 (ev_divO et9 (ev_intI (ev_ixL et8 (ev_var (n := 0) (W := vOf (oList rInt)) rfl (vOf.own (i := 0) rfl)) ev_int) B.int) (ev_var (n := 1) (W := rInt.v) rfl r_size)) (ev_var (n := 0) (W := (rIs (.ref a_box)).v) (x := ()) rfl rfl) ev_int rfl ex_box10 (fun F11 H11 s11 w11 => ?_)
      obtain ⟨rfl, rfl⟩ := pair_inj h
      refine ws_ret (W := rInt.v) w11 (ev_var (n := 2) (W := rInt.v) rfl r6) (fun vz Fz Hz sz wz rz => ?_)
      exact kQ _ _ _ ((s3.trans (s7.trans s11)).trans sz) wz rz
    · skip
      have h := (if_some h).2 hb2
      refine ws_nil ?_
      obtain ⟨t12, et12, h⟩ := bd_some h
      refine ws_set (n := 3) (W := rInt.v) w3 ((ev_ixL et12 (ev_var (n := 0) (W := vOf (oList rInt)) rfl (vOf.own (i := 0) rfl)) ev_int)) nd (fun v13 F14 H14 s14 w14 r13 => ?_)
      show Ws _ _ _ [some (.ref a_box), some v_size, none, some v13, none] _
      obtain ⟨x_box15, ex_box15, h⟩ := bd_some h
      refine ws_stL (n := 0) (R := rInt) w14 (ev_add (ev_var (n := 3) (W := rInt.v) rfl r13) ev_int) (ev_var (n := 0) (W := (rIs (.ref a_box)).v) (x := ()) rfl rfl) ev_int rfl ex_box15 (fun F16 H16 s16 w16 => ?_)
      obtain ⟨t17, et17, h⟩ := bd_some h
      obtain ⟨x_mixed18, ex_mixed18, h⟩ := lt_some h
      refine ws_set (n := 4) (W := rInt.v) w16 (Ev.eq (ev_mod (ev_intI (ev_add (ev_add (ev_ixL et17 (ev_var (n := 0) (W := vOf (oList rInt)) rfl (vOf.own (i := 0) rfl)) ev_int) (ev_mul ev_int (ev_var (n := 3) (W := rInt.v) rfl r13) (.inl ⟨by decide, by decide⟩))) ev_int) B.int) ev_int (by decide)) ex_mixed18) nd (fun v19 F20 H20 s20 w20 r19 => ?_)
      show Ws _ _ _ [some (.ref a_box), some v_size, none, some v13, some v19] _
      obtain ⟨t21, et21, h⟩ := bd_some h
      obtain ⟨x_mixed22, ex_mixed22, h⟩ := lt_some h
      refine ws_set (n := 4) (W := rInt.v) w20 (Ev.eq (ev_mod (ev_intI (ev_mulO et21 (ev_var (n := 4) (W := rInt.v) rfl r19) (ev_add (ev_var (n := 4) (W := rInt.v) rfl r19) ev_int)) B.int) ev_int (by decide)) ex_mixed22) nd (fun v23 F24 H24 s24 w24 r23 => ?_)
      show Ws _ _ _ [some (.ref a_box), some v_size, none, some v13, some v23] _
      obtain ⟨t25, et25, h⟩ := bd_some h
      obtain ⟨x_mixed26, ex_mixed26, h⟩ := lt_some h
      refine ws_set (n := 4) (W := rInt.v) w24 (Ev.eq (ev_mod (ev_intI (ev_add (ev_mulO et25 (ev_var (n := 4) (W := rInt.v) rfl r23) (ev_add (ev_var (n := 4) (W := rInt.v) rfl r23) ev_int)) (ev_mul ev_int (ev_var (n := 3) (W := rInt.v) rfl r13) (.inl ⟨by decide, by decide⟩))) B.int) ev_int (by decide)) ex_mixed26) nd (fun v27 F28 H28 s28 w28 r27 => ?_)
      show Ws _ _ _ [some (.ref a_box), some v_size, none, some v13, some v27] _
      obtain ⟨t29, et29, h⟩ := bd_some h
      obtain ⟨rfl, rfl⟩ := pair_inj h
      refine ws_ret (W := rInt.v) w28 (ev_modO et29 (ev_intI (ev_div (ev_var (n := 4) (W := rInt.v) rfl r27) ev_int ⟨by decide, by decide +kernel⟩) B.int) (ev_var (n := 1) (W := rInt.v) rfl r_size)) (fun vz Fz Hz sz wz rz => ?_)
      exact kQ _ _ _ ((s3.trans (s14.trans (s16.trans (s20.trans (s24.trans s28))))).trans sz) wz rz
abbrev s_l_whole : Stmt := topS 10
theorem sc_l_whole : FnScope ["_law_levels", "_law_size", "_law_k"] ["_law_levels"] (defScope s_l_whole) := ⟨rfl, rfl, rfl, by decide +kernel, rfl, by decide +kernel, by decide +kernel⟩
def sp_l_whole (K : PySem.W.Frag) : Sp := fun vs H Q _ => ∃ (F0 : Hp) (Os0 : Owns) (x_levels : Int) (v_levels : V) (res : Int), vs = [v_levels] ∧ Wf F0 (Os0) H ∧ rInt.r F0 v_levels x_levels ∧ M_l_whole x_levels = some res ∧ ∀ v F' H', Same F0 F' → Wf F' (Os0) H' → rInt.r F' v res → Q v H'
theorem ok_l_whole {f : Addr} {fd : FuncData} (T : FT K mg "_law_whole" s_l_whole ["_law_levels"] f fd) (B : Blt mg) : FnOk P w K mg base CX0 1 f fd ["_law_levels"] (sp_l_whole K) := by
  refine T.fn.ok sc_l_whole (fun vs H Q E h => ?_) (fun cdv A outer s H vs Q E hr h => ?_)
  · obtain ⟨_, _, _, _, _, rfl, _⟩ := h
    rfl
  · obtain ⟨F0, Os0, x_levels, v_levels, res, rfl, w0, r_levels, h, kQ⟩ := h
    have nd := sc_l_whole.nd
    refine ⟨_, pss_w, ?_⟩
    unfold M_l_whole at h
    show Ws _ _ _ [some v_levels, none, none] _
    refine ws_set (n := 1) (W := rInt.v) w0 (ev_int) nd (fun v1 F2 H2 s2 w2 r1 => ?_)
    show Ws _ _ _ [some v_levels, some v1, none] _
    obtain ⟨rg3, erg3, h⟩ := bd_some h
    obtain ⟨z5, hz5, hk5⟩ := bd_some h
    refine ws_j (fun (sg : L2.St) (Hm : Hp) => ∃ (x_size9 : Int) (v10 : V) (o11 : Option V) (Fm : Hp), sg = [some v_levels, some v10, o11] ∧ Same F2 Fm ∧ Wf Fm (Os0) Hm ∧ rInt.r Fm v10 x_size9 ∧ x_size9 = z5) (w1_forR1 (n := 2) erg3 w2 (ev_var (n := 0) (W := rInt.v) rfl r_levels) nd (fun F4 H4 s4 w4 => ?_) PassesOwn.never B.range) ?_
    · skip
      refine ⟨(fun (rr : List Int) (sg : L2.St) (Hm : Hp) => ∃ (x_size6 : Int) (v7 : V) (o8 : Option V) (Fm : Hp), sg = [some v_levels, some v7, o8] ∧ Same F4 Fm ∧ Wf Fm (Os0) Hm ∧ rInt.r Fm v7 x_size6 ∧ foldO (fun s x => B_l_whole_5 s x) x_size6 rr = some z5), ⟨1, v1, none, F4, rfl, (Same.refl _), w4, r1, hz5⟩, ?_, ?_⟩
      · skip
        rintro x12 rr _ H13 ⟨x_size6, v7, o8, F13, rfl, s13, w13, r14, hz5⟩
        obtain ⟨y5, hy5, hz5⟩ := foldO_some hz5
        have h : B_l_whole_5 x_size6 x12 = some _ := hy5
        unfold B_l_whole_5 at h
        show Ws _ _ _ [some v_levels, some v7, some (.int x12)] _
        obtain ⟨x_size15, ex_size15, h⟩ := lt_some h
        refine ws_set (n := 1) (W := rInt.v) w13 (Ev.eq (ev_mul (ev_var (n := 1) (W := rInt.v) rfl r14) ev_int (.inr ⟨by decide, by decide⟩)) ex_size15) nd (fun v16 F17 H17 s17 w17 r16 => ?_)
        show Ws _ _ _ [some v_levels, some v16, some (.int x12)] _
        refine ws_nil ?_
        obtain rfl := Option.some.inj h
        exact ⟨x_size15, v16, some (.int x12), F17, rfl, (s13.trans s17), w17, r16, hz5⟩
      · skip
        rintro _ H18 ⟨x_size6, v7, o8, F18, rfl, s18, w18, r19, hz5⟩
        have hz := foldO_nil hz5
        exact ⟨x_size6, v7, o8, F18, rfl, (s4.trans s18), w18, r19, hz.symm⟩
    · skip
      rintro _ H20 ⟨x_size9, v10, o11, F20, rfl, s20, w20, r21, rfl⟩
      have h := hk5
      have h : K_l_whole_5 x_size9 = some _ := h
      unfold K_l_whole_5 at h
      obtain rfl := Option.some.inj h
      refine ws_ret (W := rInt.v) w20 (ev_var (n := 1) (W := rInt.v) rfl r21) (fun vz Fz Hz sz wz rz => ?_)
      exact kQ _ _ _ ((s2.trans s20).trans sz) wz rz
abbrev s_l_marks : Stmt := topS 11
theorem sc_l_marks : FnScope ["_law_box", "_law_whole_here", "_law_way", "_law_k", "_law_marks_here", "_law_start", "_law_count", "_law_at"] ["_law_box", "_law_whole_here"] (defScope s_l_marks) := ⟨rfl, rfl, rfl, by decide +kernel, rfl, by decide +kernel, by decide +kernel⟩
def sp_l_marks (K : PySem.W.Frag) : Sp := fun vs H Q _ => ∃ (F0 : Hp) (Os0 : Owns) (x_box : (List Int)) (x_whole_here : Int) (a_box : Addr) (v_whole_here : V) (res : (List Int)) (b_box : (List Int)), vs = [.ref a_box, v_whole_here] ∧ Wf F0 ((a_box, (oList rInt) x_box) :: Os0) H ∧ rInt.r F0 v_whole_here x_whole_here ∧ M_l_marks x_box x_whole_here = some (res, b_box) ∧ ∀ p F' H', Same F0 F' → Wf F' ((p, (oList rInt) res) :: (a_box, (oList rInt) b_box) :: Os0) H' → Q (.ref p) H'
theorem ok_l_marks {f : Addr} {fd : FuncData} {f_l_take : Addr} {d_l_take : FuncData} (T : FT K mg "_law_marks" s_l_marks ["_law_box", "_law_whole_here"] f fd) (B : Blt mg) (T_l_take : FT K mg "_law_take" s_l_take ["_law_box", "_law_size"] f_l_take d_l_take) (G_l_take : FnOk P w K mg base CX0 1 f_l_take d_l_take ["_law_box", "_law_size"] (sp_l_take K)) : FnOk P w K mg base CX0 2 f fd ["_law_box", "_law_whole_here"] (sp_l_marks K) := by
  refine T.fn.ok sc_l_marks (fun vs H Q E h => ?_) (fun cdv A outer s H vs Q E hr h => ?_)
  · obtain ⟨_, _, _, _, _, _, _, _, rfl, _⟩ := h
    rfl
  · obtain ⟨F0, Os0, x_box, x_whole_here, a_box, v_whole_here, res, b_box, rfl, w0, r_whole_here, h, kQ⟩ := h
    have nd := sc_l_marks.nd
    refine ⟨_, pss_w, ?_⟩
    unfold M_l_marks at h
    show Ws _ _ _ [some (.ref a_box), some v_whole_here, none, none, none, none, none, none] _
    obtain ⟨t1, et1, h⟩ := bd_some h
    refine ws_set (n := 2) (W := rInt.v) w0 ((ev_call (U := rInt.v) (Os2 := ((a_box, (oList rInt) t1.2) :: Os0)) G_l_take (hr.mono (by decide)) T_l_take.gm T_l_take.fn.kp T_l_take.bi pass0 (ea_cons (ev_var (n := 0) (W := (rIs (.ref a_box)).v) (x := ()) rfl rfl) (ea_cons ev_int ea_nil)) (fun F' Os' H' vs Q w hv q => by obtain ⟨u0, _, rfl, q0, u1, _, rfl, q1, rfl, rfl⟩ := hv; cases q0; exact ⟨F', _, x_box, 8, a_box, u1, t1.1, t1.2, rfl, w, q1, et1, fun v F2 H2 s2 w r => by exact q v F2 H2 s2 w r⟩))) nd (fun v2 F3 H3 s3 w3 r2 => ?_)
    show Ws _ _ _ [some (.ref a_box), some v_whole_here, some v2, none, none, none, none, none] _
    refine ws_if w3 (et_cmp cp_eq (ev_var (n := 2) (W := rInt.v) rfl r2) ev_int) (fun hb4 F5 H5 s5 w5 => ?_) (fun hb4 F5 H5 s5 w5 => ?_)
    · skip
      have h := (if_some h).1 hb4
      obtain ⟨rg6, erg6, h⟩ := bd_some h
      obtain ⟨t8, et8, h⟩ := bd_some h
      obtain ⟨rfl, rfl⟩ := pair_inj h
      refine ws_retN (O := (oList rInt) _) w5 (evn_lc0 (own := [("_law_k", 3)]) (S := rInt) (ei_rng1 erg6 (ev_var (n := 1) (W := rInt.v) rfl r_whole_here) B.range) _ et8 (tgb_1 (n := 3) nd) (fun q7 x7 z7 F7 t7 hz7 s7 hT7 _ _ _ _ _ => by obtain ⟨v7, rfl, r7⟩ := hT7; exact Ev.eq ev_int (Option.some.inj hz7).symm) nd (blkOk_by (N := ["_law_box", "_law_whole_here", "_law_way", "_law_k", "_law_marks_here", "_law_start", "_law_count", "_law_at"]) (sc := defScope s_l_marks) (by decide +kernel))) (fun pz Fz Hz sz wz => ?_)
      exact kQ _ _ _ ((s3.trans s5).trans sz) wz
    · skip
      have h := (if_some h).2 hb4
      refine ws_nil ?_
      refine ws_if w5 (et_cmp cp_eq (ev_var (n := 2) (W := rInt.v) rfl r2) ev_int) (fun hb9 F10 H10 s10 w10 => ?_) (fun hb9 F10 H10 s10 w10 => ?_)
      · skip
        have h := (if_some h).1 hb9
        obtain ⟨rg11, erg11, h⟩ := bd_some h
        obtain ⟨t13, et13, h⟩ := bd_some h
        obtain ⟨rfl, rfl⟩ := pair_inj h
        refine ws_retN (O := (oList rInt) _) w10 (evn_lc0 (own := [("_law_k", 3)]) (S := rInt) (ei_rng1 erg11 (ev_var (n := 1) (W := rInt.v) rfl r_whole_here) B.range) _ et13 (tgb_1 (n := 3) nd) (fun q12 x12 z12 F12 t12 hz12 s12 hT12 _ _ _ _ _ => by obtain ⟨v12, rfl, r12⟩ := hT12; exact Ev.eq ev_int (Option.some.inj hz12).symm) nd (blkOk_by (N := ["_law_box", "_law_whole_here", "_law_way", "_law_k", "_law_marks_here", "_law_start", "_law_count", "_law_at"]) (sc := defScope s_l_marks) (by decide +kernel))) (fun pz Fz Hz sz wz => ?_)
        exact kQ _ _ _ ((s3.trans (s5.trans s10)).trans sz) wz
      · skip
        have h := (if_some h).2 hb9
        refine ws_nil ?_
        refine ws_if w10 (et_w (ew_or (et_cmp cp_eq (ev_var (n := 2) (W := rInt.v) rfl r2) ev_int) (ew_or1 (et_cmp cp_eq (ev_var (n := 2) (W := rInt.v) rfl r2) ev_int)))) (fun hb14 F15 H15 s15 w15 => ?_) (fun hb14 F15 H15 s15 w15 => ?_)
        · skip
          have h := (if_some h).1 hb14
          obtain ⟨rg16, erg16, h⟩ := bd_some h
          obtain ⟨t18, et18, h⟩ := bd_some h
          refine ws_setLc0 (n := 4) (own := [("_law_k", 3)]) (S := rInt) w15 (ei_rng1 erg16 (ev_var (n := 1) (W := rInt.v) rfl r_whole_here) B.range) _ et18 (tgb_1 (n := 3) nd) (fun q17 x17 z17 F17 t17 hz17 s17 hT17 _ _ _ _ _ => by obtain ⟨v17, rfl, r17⟩ := hT17; exact Ev.eq ev_int (Option.some.inj hz17).symm) nd (blkOk_by (N := ["_law_box", "_law_whole_here", "_law_way", "_law_k", "_law_marks_here", "_law_start", "_law_count", "_law_at"]) (sc := defScope s_l_marks) (by decide +kernel)) (fun p_marks_here19 F20 H20 s20 w20 => ?_) (sw_true rfl rfl rfl (by decide +kernel))
          have w21 := w20.back (i := 1)
          show Ws _ _ _ [some (.ref a_box), some v_whole_here, some v2, none, some (.ref p_marks_here19), none, none, none] _
          obtain ⟨t22, et22, h⟩ := bd_some h
          obtain ⟨rg23, erg23, h⟩ := bd_some h
          obtain ⟨z25, hz25, hk25⟩ := bd_some h
          refine ws_j (fun (sg : L2.St) (Hm : Hp) => ∃ (x_box32 : (List Int)) (x_marks_here33 : (List Int)) (o34 : Option V) (o35 : Option V) (o36 : Option V) (o37 : Option V) (Fm : Hp), sg = [some (.ref a_box), some v_whole_here, some v2, o34, some (.ref p_marks_here19), o35, o36, o37] ∧ Same F20 Fm ∧ Wf Fm ((a_box, (oList rInt) x_box32) :: (p_marks_here19, (oList rInt) x_marks_here33) :: Os0) Hm ∧ (x_box32, x_marks_here33) = z25) (w1_forR1 (n := 3) erg23 w21 (ev_add ev_int (ev_call (U := rInt.v) (Os2 := ((a_box, (oList rInt) t22.2) :: (p_marks_here19, (oList rInt) t18) :: Os0)) G_l_take (hr.mono (by decide)) T_l_take.gm T_l_take.fn.kp T_l_take.bi pass0 (ea_cons (ev_var (n := 0) (W := (rIs (.ref a_box)).v) (x := ()) rfl rfl) (ea_cons ev_int ea_nil)) (fun F' Os' H' vs Q w hv q => by obtain ⟨u0, _, rfl, q0, u1, _, rfl, q1, rfl, rfl⟩ := hv; cases q0; exact ⟨F', _, t1.2, 4, a_box, u1, t22.1, t22.2, rfl, w, q1, et22, fun v F2 H2 s2 w r => by exact q v F2 H2 s2 w r⟩))) nd (fun F24 H24 s24 w24 => ?_) PassesOwn.never B.range) ?_
          · skip
            refine ⟨(fun (rr : List Int) (sg : L2.St) (Hm : Hp) => ∃ (x_box26 : (List Int)) (x_marks_here27 : (List Int)) (o28 : Option V) (o29 : Option V) (o30 : Option V) (o31 : Option V) (Fm : Hp), sg = [some (.ref a_box), some v_whole_here, some v2, o28, some (.ref p_marks_here19), o29, o30, o31] ∧ Same F24 Fm ∧ Wf Fm ((a_box, (oList rInt) x_box26) :: (p_marks_here19, (oList rInt) x_marks_here27) :: Os0) Hm ∧ foldO (fun s x => B_l_marks_25 x_whole_here s.1 s.2 x) (x_box26, x_marks_here27) rr = some z25), ⟨t22.2, t18, none, none, none, none, F24, rfl, (Same.refl _), w24, hz25⟩, ?_, ?_⟩
            · skip
              rintro x38 rr _ H39 ⟨x_box26, x_marks_here27, o28, o29, o30, o31, F39, rfl, s39, w39, hz25⟩
              obtain ⟨y25, hy25, hz25⟩ := foldO_some hz25
              have h : B_l_marks_25 x_whole_here x_box26 x_marks_here27 x38 = some _ := hy25
              unfold B_l_marks_25 at h
              show Ws _ _ _ [some (.ref a_box), some v_whole_here, some v2, some (.int x38), some (.ref p_marks_here19), o29, o30, o31] _
              obtain ⟨t40, et40, h⟩ := bd_some h
              refine ws_set (n := 5) (W := rInt.v) w39 ((ev_call (U := rInt.v) (Os2 := ((a_box, (oList rInt) t40.2) :: (p_marks_here19, (oList rInt) x_marks_here27) :: Os0)) G_l_take (hr.mono (by decide)) T_l_take.gm T_l_take.fn.kp T_l_take.bi pass0 (ea_cons (ev_var (n := 0) (W := (rIs (.ref a_box)).v) (x := ()) rfl rfl) (ea_cons (ev_var (n := 1) (W := rInt.v) rfl r_whole_here) ea_nil)) (fun F' Os' H' vs Q w hv q => by obtain ⟨u0, _, rfl, q0, u1, _, rfl, q1, rfl, rfl⟩ := hv; cases q0; exact ⟨F', _, x_box26, x_whole_here, a_box, u1, t40.1, t40.2, rfl, w, q1, et40, fun v F2 H2 s2 w r => by exact q v F2 H2 s2 w r⟩))) nd (fun v41 F42 H42 s42 w42 r41 => ?_)
              show Ws _ _ _ [some (.ref a_box), some v_whole_here, some v2, some (.int x38), some (.ref p_marks_here19), some v41, o30, o31] _
              obtain ⟨t43, et43, h⟩ := bd_some h
              obtain ⟨x_count44, ex_count44, h⟩ := lt_some h
              refine ws_set (n := 6) (W := rInt.v) w42 (Ev.eq (ev_add ev_int (ev_call (U := rInt.v) (Os2 := ((a_box, (oList rInt) t43.2) :: (p_marks_here19, (oList rInt) x_marks_here27) :: Os0)) G_l_take (hr.mono (by decide)) T_l_take.gm T_l_take.fn.kp T_l_take.bi pass0 (ea_cons (ev_var (n := 0) (W := (rIs (.ref a_box)).v) (x := ()) rfl rfl) (ea_cons (ev_var (n := 1) (W := rInt.v) rfl r_whole_here) ea_nil)) (fun F' Os' H' vs Q w hv q => by obtain ⟨u0, _, rfl, q0, u1, _, rfl, q1, rfl, rfl⟩ := hv; cases q0; exact ⟨F', _, t40.2, x_whole_here, a_box, u1, t43.1, t43.2, rfl, w, q1, et43, fun v F2 H2 s2 w r => by exact q v F2 H2 s2 w r⟩))) ex_count44) nd (fun v45 F46 H46 s46 w46 r45 => ?_)
              show Ws _ _ _ [some (.ref a_box), some v_whole_here, some v2, some (.int x38), some (.ref p_marks_here19), some v41, some v45, o31] _
              obtain ⟨rg47, erg47, h⟩ := bd_some h
              obtain ⟨z49, hz49, hk49⟩ := bd_some h
              refine ws_j (fun (sg : L2.St) (Hm : Hp) => ∃ (x_marks_here52 : (List Int)) (o53 : Option V) (Fm : Hp), sg = [some (.ref a_box), some v_whole_here, some v2, some (.int x38), some (.ref p_marks_here19), some v41, some v45, o53] ∧ Same F46 Fm ∧ Wf Fm ((a_box, (oList rInt) t43.2) :: (p_marks_here19, (oList rInt) x_marks_here52) :: Os0) Hm ∧ x_marks_here52 = z49) (w1_forR2 (n := 7) erg47 w46 (ev_var (n := 5) (W := rInt.v) rfl r41) (ev_add (ev_var (n := 5) (W := rInt.v) rfl r41) (ev_var (n := 6) (W := rInt.v) rfl r45)) nd (fun F48 H48 s48 w48 => ?_) PassesOwn.never B.range) ?_
              · skip
                refine ⟨(fun (rr : List Int) (sg : L2.St) (Hm : Hp) => ∃ (x_marks_here50 : (List Int)) (o51 : Option V) (Fm : Hp), sg = [some (.ref a_box), some v_whole_here, some v2, some (.int x38), some (.ref p_marks_here19), some v41, some v45, o51] ∧ Same F48 Fm ∧ Wf Fm ((a_box, (oList rInt) t43.2) :: (p_marks_here19, (oList rInt) x_marks_here50) :: Os0) Hm ∧ foldO (fun s x => B_l_marks_49 x_whole_here s x) x_marks_here50 rr = some z49), ⟨x_marks_here27, o31, F48, rfl, (Same.refl _), w48, hz49⟩, ?_, ?_⟩
                · skip
                  rintro x54 rr _ H55 ⟨x_marks_here50, o51, F55, rfl, s55, w55, hz49⟩
                  obtain ⟨y49, hy49, hz49⟩ := foldO_some hz49
                  have h : B_l_marks_49 x_whole_here x_marks_here50 x54 = some _ := hy49
                  unfold B_l_marks_49 at h
                  show Ws _ _ _ [some (.ref a_box), some v_whole_here, some v2, some (.int x38), some (.ref p_marks_here19), some v41, some v45, some (.int x54)] _
                  refine ws_if w55 (et_cmp cp_lt (ev_var (n := 7) (W := rInt.v) rfl rfl) (ev_var (n := 1) (W := rInt.v) rfl r_whole_here)) (fun hb56 F57 H57 s57 w57 => ?_) (fun hb56 F57 H57 s57 w57 => ?_)
                  · skip
                    have h := (if_some h).1 hb56
                    obtain ⟨x_marks_here58, ex_marks_here58, h⟩ := bd_some h
                    refine ws_stL (n := 1) (R := rInt) w57 ev_int (ev_var (n := 4) (W := (rIs (.ref p_marks_here19)).v) (x := ()) rfl rfl) (ev_var (n := 7) (W := rInt.v) rfl rfl) rfl ex_marks_here58 (fun F59 H59 s59 w59 => ?_)
                    refine ws_nil ?_
                    refine ws_nil ?_
                    obtain rfl := Option.some.inj h
                    exact ⟨x_marks_here58, some (.int x54), F59, rfl, (s55.trans (s57.trans s59)), w59, hz49⟩
                  · skip
                    have h := (if_some h).2 hb56
                    refine ws_nil ?_
                    refine ws_nil ?_
                    obtain rfl := Option.some.inj h
                    exact ⟨x_marks_here50, some (.int x54), F57, rfl, (s55.trans s57), w57, hz49⟩
                · skip
                  rintro _ H60 ⟨x_marks_here50, o51, F60, rfl, s60, w60, hz49⟩
                  have hz := foldO_nil hz49
                  exact ⟨x_marks_here50, o51, F60, rfl, (s48.trans s60), w60, hz.symm⟩
              · skip
                rintro _ H61 ⟨x_marks_here52, o53, F61, rfl, s61, w61, rfl⟩
                have h := hk49
                have h : K_l_marks_49 t43 x_marks_here52 = some _ := h
                unfold K_l_marks_49 at h
                refine ws_nil ?_
                obtain rfl := Option.some.inj h
                exact ⟨t43.2, x_marks_here52, some (.int x38), some v41, some v45, o53, F61, rfl, (s39.trans (s42.trans (s46.trans s61))), w61, hz25⟩
            · skip
              rintro _ H62 ⟨x_box26, x_marks_here27, o28, o29, o30, o31, F62, rfl, s62, w62, hz25⟩
              have hz := foldO_nil hz25
              exact ⟨x_box26, x_marks_here27, o28, o29, o30, o31, F62, rfl, (s24.trans s62), w62, hz.symm⟩
          · skip
            rintro _ H63 ⟨x_box32, x_marks_here33, o34, o35, o36, o37, F63, rfl, s63, w63, rfl⟩
            have h := hk25
            have h : K_l_marks_25 x_box32 x_marks_here33 = some _ := h
            unfold K_l_marks_25 at h
            obtain ⟨rfl, rfl⟩ := pair_inj h
            refine ws_ret (W := (rIs (.ref p_marks_here19)).v) w63 (ev_var (n := 4) (W := (rIs (.ref p_marks_here19)).v) (x := ()) rfl rfl) (fun vz Fz Hz sz wz rz => ?_)
            cases rz
            have wz := wz.pull (i := 1) rfl
            exact kQ _ _ _ ((s3.trans (s5.trans (s10.trans (s15.trans (s20.trans s63))))).trans sz) wz
        · skip
          have h := (if_some h).2 hb14
          refine ws_nil ?_
          refine ws_if w15 (et_cmp cp_eq (ev_var (n := 2) (W := rInt.v) rfl r2) ev_int) (fun hb64 F65 H65 s65 w65 => ?_) (fun hb64 F65 H65 s65 w65 => ?_)
          · skip
            have h := (if_some h).1 hb64
            obtain ⟨rg66, erg66, h⟩ := bd_some h
            obtain ⟨t69, et69, h⟩ := bd_some h
            obtain ⟨rfl, rfl⟩ := pair_inj h
            refine ws_retN (O := (oList rInt) _) w65 (evn_lcS0 (own := [("_law_k", 3)]) (S := rInt) (fun (d67 : (List Int)) => ((a_box, (oList rInt) d67) :: Os0)) (ei_rng1 erg66 (ev_var (n := 1) (W := rInt.v) rfl r_whole_here) B.range) _ et69 (tgb_1 (n := 3) nd) (fun q67 d67 x67 z67 e67 F67 t67 hz67 s67 hT67 _ _ _ _ _ => by obtain ⟨v67, rfl, r67⟩ := hT67; obtain ⟨t68, et68, hz67⟩ := bd_some hz67; obtain ⟨hv67, rfl⟩ := pair_inj hz67; exact Ev.eq (ev_intB (ev_cmp cp_gt (ev_call (U := rInt.v) (Os2 := (q67 :: (a_box, (oList rInt) t68.2) :: Os0)) G_l_take (hr.mono (by decide)) T_l_take.gm T_l_take.fn.kp T_l_take.bi pass0 (ea_cons (ev_var (n := 0) (W := (rIs (.ref a_box)).v) (x := ()) rfl rfl) (ea_cons ev_int ea_nil)) (fun F' Os' H' vs Q w hv q => by obtain ⟨u0, _, rfl, q0, u1, _, rfl, q1, rfl, rfl⟩ := hv; have w := w.pull (i := 1) rfl; cases q0; exact ⟨F', _, d67, 4, a_box, u1, t68.1, t68.2, rfl, w, q1, et68, fun v F2 H2 s2 w r => by have w := w.back (i := 1); exact q v F2 H2 s2 w r⟩)) ev_int) B.int) hv67.symm) nd (blkOk_by (N := ["_law_box", "_law_whole_here", "_law_way", "_law_k", "_law_marks_here", "_law_start", "_law_count", "_law_at"]) (sc := defScope s_l_marks) (by decide +kernel))) (fun pz Fz Hz sz wz => ?_)
            exact kQ _ _ _ ((s3.trans (s5.trans (s10.trans (s15.trans s65)))).trans sz) wz
          · skip
            have h := (if_some h).2 hb64
            refine ws_nil ?_
            obtain ⟨rg70, erg70, h⟩ := bd_some h
            obtain ⟨t73, et73, h⟩ := bd_some h
            obtain ⟨rfl, rfl⟩ := pair_inj h
            refine ws_retN (O := (oList rInt) _) w65 (evn_lcS0 (own := [("_law_k", 3)]) (S := rInt) (fun (d71 : (List Int)) => ((a_box, (oList rInt) d71) :: Os0)) (ei_rng1 erg70 (ev_var (n := 1) (W := rInt.v) rfl r_whole_here) B.range) _ et73 (tgb_1 (n := 3) nd) (fun q71 d71 x71 z71 e71 F71 t71 hz71 s71 hT71 _ _ _ _ _ => by obtain ⟨v71, rfl, r71⟩ := hT71; obtain ⟨t72, et72, hz71⟩ := bd_some hz71; obtain ⟨hv71, rfl⟩ := pair_inj hz71; exact Ev.eq (ev_call (U := rInt.v) (Os2 := (q71 :: (a_box, (oList rInt) t72.2) :: Os0)) G_l_take (hr.mono (by decide)) T_l_take.gm T_l_take.fn.kp T_l_take.bi pass0 (ea_cons (ev_var (n := 0) (W := (rIs (.ref a_box)).v) (x := ()) rfl rfl) (ea_cons ev_int ea_nil)) (fun F' Os' H' vs Q w hv q => by obtain ⟨u0, _, rfl, q0, u1, _, rfl, q1, rfl, rfl⟩ := hv; have w := w.pull (i := 1) rfl; cases q0; exact ⟨F', _, d71, 2, a_box, u1, t72.1, t72.2, rfl, w, q1, et72, fun v F2 H2 s2 w r => by have w := w.back (i := 1); exact q v F2 H2 s2 w r⟩)) hv71.symm) nd (blkOk_by (N := ["_law_box", "_law_whole_here", "_law_way", "_law_k", "_law_marks_here", "_law_start", "_law_count", "_law_at"]) (sc := defScope s_l_marks) (by decide +kernel))) (fun pz Fz Hz sz wz => ?_)
            exact kQ _ _ _ ((s3.trans (s5.trans (s10.trans (s15.trans s65)))).trans sz) wz
abbrev s_l_handed : Stmt := topS 12
theorem sc_l_handed : FnScope ["_law_box", "_law_marks_here", "_law_listed", "_law_turn", "_law_turned", "_law_way", "_law_odd", "_law_k", "_law_place", "_law_at"] ["_law_box", "_law_marks_here"] (defScope s_l_handed) := ⟨rfl, rfl, rfl, by decide +kernel, rfl, by decide +kernel, by decide +kernel⟩
def sp_l_handed (K : PySem.W.Frag) : Sp := fun vs H Q _ => ∃ (F0 : Hp) (Os0 : Owns) (x_box : (List Int)) (x_marks_here : (List Int)) (a_box : Addr) (v_marks_here : V) (res : (List Int)) (b_box : (List Int)), vs = [.ref a_box, v_marks_here] ∧ Wf F0 ((a_box, (oList rInt) x_box) :: Os0) H ∧ (rList rInt).r F0 v_marks_here x_marks_here ∧ M_l_handed x_box x_marks_here = some (res, b_box) ∧ ∀ p F' H', Same F0 F' → Wf F' ((p, (oList rInt) res) :: (a_box, (oList rInt) b_box) :: Os0) H' → Q (.ref p) H'
theorem ok_l_handed {f : Addr} {fd : FuncData} {f_l_take : Addr} {d_l_take : FuncData} (T : FT K mg "_law_handed" s_l_handed ["_law_box", "_law_marks_here"] f fd) (B : Blt mg) (T_l_take : FT K mg "_law_take" s_l_take ["_law_box", "_law_size"] f_l_take d_l_take) (G_l_take : FnOk P w K mg base CX0 1 f_l_take d_l_take ["_law_box", "_law_size"] (sp_l_take K)) : FnOk P w K mg base CX0 2 f fd ["_law_box", "_law_marks_here"] (sp_l_handed K) := by
  refine T.fn.ok sc_l_handed (fun vs H Q E h => ?_) (fun cdv A outer s H vs Q E hr h => ?_)
  · obtain ⟨_, _, _, _, _, _, _, _, rfl, _⟩ := h
    rfl
  · obtain ⟨F0, Os0, x_box, x_marks_here, a_box, v_marks_here, res, b_box, rfl, w0, r_marks_here, h, kQ⟩ := h
    have nd := sc_l_handed.nd
    refine ⟨_, pss_w, ?_⟩
    unfold M_l_handed at h
    show Ws _ _ _ [some (.ref a_box), some v_marks_here, none, none, none, none, none, none, none, none] _
    obtain ⟨rg1, erg1, h⟩ := bd_some h
    obtain ⟨t4, et4, h⟩ := bd_some h
    refine ws_set (n := 2) (W := (rList rInt).v) w0 ((EvN.fz (evn_lc1 (own := [("_law_place", 8)]) (S := rInt) (ei_rng1 erg1 (ev_len (Ev.vw (ev_var (n := 1) (W := (rList rInt).v) rfl r_marks_here)) B.len) B.range) _ et4 (tgb_1 (n := 8) nd) (fun q2 x2 b2 F2 t2 hz2 s2 hT2 _ _ _ _ _ => by obtain ⟨v2, rfl, r2⟩ := hT2; obtain ⟨t3, et3, hz2⟩ := bd_some hz2; exact Et.eq (et_cmp cp_eq (ev_ixL et3 (Ev.vw (ev_var (n := 1) (W := (rList rInt).v) rfl ((rList rInt).mono s2 r_marks_here))) (ev_var (n := 8) (W := rInt.v) rfl r2)) ev_int) (Option.some.inj hz2).symm) (fun q2 x2 z2 F2 t2 hz2 s2 hT2 _ _ _ _ _ => by obtain ⟨v2, rfl, r2⟩ := hT2; exact Ev.eq (ev_var (n := 8) (W := rInt.v) rfl r2) (Option.some.inj hz2).symm) nd (blkOk_by (N := ["_law_box", "_law_marks_here", "_law_listed", "_law_turn", "_law_turned", "_law_way", "_law_odd", "_law_k", "_law_place", "_law_at"]) (sc := defScope s_l_handed) (by decide +kernel))))) nd (fun v5 F6 H6 s6 w6 r5 => ?_)
    show Ws _ _ _ [some (.ref a_box), some v_marks_here, some v5, none, none, none, none, none, none, none] _
    refine ws_if w6 (et_cmp cp_eq (ev_len (Ev.vw (ev_var (n := 2) (W := (rList rInt).v) rfl r5)) B.len) ev_int) (fun hb7 F8 H8 s8 w8 => ?_) (fun hb7 F8 H8 s8 w8 => ?_)
    · skip
      have h := (if_some h).1 hb7
      obtain ⟨rfl, rfl⟩ := pair_inj h
      refine ws_retN (O := (oList rInt) _) w8 (evn_list el_nil (by exact (show 0 ≤ 16777216 by decide))) (fun pz Fz Hz sz wz => ?_)
      exact kQ _ _ _ ((s6.trans s8).trans sz) wz
    · skip
      have h := (if_some h).2 hb7
      refine ws_nil ?_
      obtain ⟨t9, et9, h⟩ := bd_some h
      refine ws_set (n := 3) (W := rInt.v) w8 ((ev_call (U := rInt.v) (Os2 := ((a_box, (oList rInt) t9.2) :: Os0)) G_l_take (hr.mono (by decide)) T_l_take.gm T_l_take.fn.kp T_l_take.bi pass0 (ea_cons (ev_var (n := 0) (W := (rIs (.ref a_box)).v) (x := ()) rfl rfl) (ea_cons (ev_len (Ev.vw (ev_var (n := 2) (W := (rList rInt).v) rfl ((rList rInt).mono s8 r5))) B.len) ea_nil)) (fun F' Os' H' vs Q w hv q => by obtain ⟨u0, _, rfl, q0, u1, _, rfl, q1, rfl, rfl⟩ := hv; cases q0; exact ⟨F', _, x_box, (t4.length : Int), a_box, u1, t9.1, t9.2, rfl, w, q1, et9, fun v F2 H2 s2 w r => by exact q v F2 H2 s2 w r⟩))) nd (fun v10 F11 H11 s11 w11 r10 => ?_)
      show Ws _ _ _ [some (.ref a_box), some v_marks_here, some v5, some v10, none, none, none, none, none, none] _
      obtain ⟨t12, et12, h⟩ := bd_some h
      refine ws_setN (n := 4) (O := (oList rInt) t12) w11 ((evn_cat et12 (EvN.fz (evn_cut (Ev.vw (ev_var (n := 2) (W := (rList rInt).v) rfl ((rList rInt).mono (s8.trans s11) r5))) (eo_some (ev_var (n := 3) (W := rInt.v) rfl r10)) eo_none)) (EvN.fz (evn_cut (Ev.vw (ev_var (n := 2) (W := (rList rInt).v) rfl ((rList rInt).mono (s8.trans s11) r5))) eo_none (eo_some (ev_var (n := 3) (W := rInt.v) rfl r10)))))) nd (fun p_turned13 F14 H14 s14 w14 => ?_)
      have w15 := w14.back (i := 1)
      show Ws _ _ _ [some (.ref a_box), some v_marks_here, some v5, some v10, some (.ref p_turned13), none, none, none, none, none] _
      obtain ⟨t16, et16, h⟩ := bd_some h
      refine ws_set (n := 5) (W := rInt.v) w15 ((ev_call (U := rInt.v) (Os2 := ((a_box, (oList rInt) t16.2) :: (p_turned13, (oList rInt) t12) :: Os0)) G_l_take (hr.mono (by decide)) T_l_take.gm T_l_take.fn.kp T_l_take.bi pass0 (ea_cons (ev_var (n := 0) (W := (rIs (.ref a_box)).v) (x := ()) rfl rfl) (ea_cons ev_int ea_nil)) (fun F' Os' H' vs Q w hv q => by obtain ⟨u0, _, rfl, q0, u1, _, rfl, q1, rfl, rfl⟩ := hv; cases q0; exact ⟨F', _, t9.2, 3, a_box, u1, t16.1, t16.2, rfl, w, q1, et16, fun v F2 H2 s2 w r => by exact q v F2 H2 s2 w r⟩))) nd (fun v17 F18 H18 s18 w18 r17 => ?_)
      show Ws _ _ _ [some (.ref a_box), some v_marks_here, some v5, some v10, some (.ref p_turned13), some v17, none, none, none, none] _
      obtain ⟨y20, hy20, hk20⟩ := bd_some h
      refine ws_j (fun (sg : L2.St) (Hm : Hp) => ∃ (x_turned21 : (List Int)) (v22 : Addr) (Fm : Hp), sg = [some (.ref a_box), some v_marks_here, some v5, some v10, some (.ref v22), some v17, none, none, none, none] ∧ Same F18 Fm ∧ Wf Fm ((a_box, (oList rInt) t16.2) :: (v22, (oList rInt) x_turned21) :: Os0) Hm ∧ x_turned21 = y20) (w1_if w18 (et_cmp cp_eq (ev_var (n := 5) (W := rInt.v) rfl r17) ev_int) (fun hb19 F23 H23 s23 w23 => ?_) (fun hb19 F23 H23 s23 w23 => ?_)) ?_
      · skip
        have h := (if_some hy20).1 hb19
        obtain ⟨rg24, erg24, h⟩ := bd_some h
        obtain ⟨t27, et27, h⟩ := bd_some h
        refine ws_setN (n := 4) (O := (oList rInt) t27) w23 ((evn_lc0 (own := [("_law_at", 9)]) (S := rInt) (ei_rng1 erg24 (ev_len (Ev.vw (ev_var (n := 2) (W := (rList rInt).v) rfl ((rList rInt).mono (s8.trans (s11.trans (s14.trans (s18.trans s23)))) r5))) B.len) B.range) _ et27 (tgb_1 (n := 9) nd) (fun q25 x25 z25 F25 t25 hz25 s25 hT25 _ _ _ _ _ => by obtain ⟨v25, rfl, r25⟩ := hT25; obtain ⟨t26, et26, hz25⟩ := bd_some hz25; exact Ev.eq (ev_ixL et26 (ev_var (n := 4) (W := vOf (oList rInt)) rfl (vOf.own (i := 2) rfl)) (ev_sub (ev_sub (ev_len (Ev.vw (ev_var (n := 2) (W := (rList rInt).v) rfl ((rList rInt).mono (s8.trans (s11.trans (s14.trans (s18.trans (s23.trans s25))))) r5))) B.len) ev_int) (ev_var (n := 9) (W := rInt.v) rfl r25))) (Option.some.inj hz25).symm) nd (blkOk_by (N := ["_law_box", "_law_marks_here", "_law_listed", "_law_turn", "_law_turned", "_law_way", "_law_odd", "_law_k", "_law_place", "_law_at"]) (sc := defScope s_l_handed) (by decide +kernel)))) nd (fun p_turned28 F29 H29 s29 w29 => ?_)
        have w30 := w29.drop (i := 2)
        have w31 := w30.back (i := 1)
        show Ws _ _ _ [some (.ref a_box), some v_marks_here, some v5, some v10, some (.ref p_turned28), some v17, none, none, none, none] _
        refine ws_nil ?_
        exact ⟨t27, p_turned28, F29, rfl, (s23.trans s29), w31, Option.some.inj h⟩
      · skip
        have h := (if_some hy20).2 hb19
        refine ws_nil ?_
        exact ⟨t12, p_turned13, F23, rfl, s23, w23, Option.some.inj h⟩
      · skip
        rintro _ H32 ⟨x_turned21, v22, F32, rfl, s32, w32, rfl⟩
        have h := hk20
        have h : K_l_handed_20 t4 t16 x_turned21 = some _ := h
        unfold K_l_handed_20 at h
        obtain ⟨y34, hy34, hk34⟩ := bd_some h
        refine ws_j (fun (sg : L2.St) (Hm : Hp) => ∃ (x_turned35 : (List Int)) (v36 : Addr) (o37 : Option V) (Fm : Hp), sg = [some (.ref a_box), some v_marks_here, some v5, some v10, some (.ref v36), some v17, o37, none, none, none] ∧ Same F32 Fm ∧ Wf Fm ((a_box, (oList rInt) t16.2) :: (v36, (oList rInt) x_turned35) :: Os0) Hm ∧ x_turned35 = y34) (w1_if w32 (et_cmp cp_eq (ev_var (n := 5) (W := rInt.v) rfl r17) ev_int) (fun hb33 F38 H38 s38 w38 => ?_) (fun hb33 F38 H38 s38 w38 => ?_)) ?_
        · skip
          have h := (if_some hy34).1 hb33
          obtain ⟨rg39, erg39, h⟩ := bd_some h
          obtain ⟨t42, et42, h⟩ := bd_some h
          refine ws_setLc1 (n := 6) (own := [("_law_at", 9)]) (S := rInt) w38 (ei_rng1 erg39 (ev_len (Ev.vw (ev_var (n := 2) (W := (rList rInt).v) rfl ((rList rInt).mono (s8.trans (s11.trans (s14.trans (s18.trans (s32.trans s38))))) r5))) B.len) B.range) _ et42 (tgb_1 (n := 9) nd) (fun q40 x40 b40 F40 t40 hz40 s40 hT40 _ _ _ _ _ => by obtain ⟨v40, rfl, r40⟩ := hT40; exact Et.eq (et_cmp cp_eq (ev_mod (ev_intI (ev_var (n := 9) (W := rInt.v) rfl r40) B.int) ev_int (by decide)) ev_int) (Option.some.inj hz40).symm) (fun q40 x40 z40 F40 t40 hz40 s40 hT40 _ _ _ _ _ => by obtain ⟨v40, rfl, r40⟩ := hT40; obtain ⟨t41, et41, hz40⟩ := bd_some hz40; exact Ev.eq (ev_ixL et41 (ev_var (n := 4) (W := vOf (oList rInt)) rfl (vOf.own (i := 2) rfl)) (ev_var (n := 9) (W := rInt.v) rfl r40)) (Option.some.inj hz40).symm) nd (blkOk_by (N := ["_law_box", "_law_marks_here", "_law_listed", "_law_turn", "_law_turned", "_law_way", "_law_odd", "_law_k", "_law_place", "_law_at"]) (sc := defScope s_l_handed) (by decide +kernel)) (fun p_odd43 F44 H44 s44 w44 => ?_) (sw_true rfl rfl rfl (by decide +kernel))
          have w45 := w44.back (i := 2)
          obtain ⟨F47, s47, w47, q48⟩ := fz_own w45 (i := 2) rfl
          show Ws _ _ _ [some (.ref a_box), some v_marks_here, some v5, some v10, some (.ref v22), some v17, some (.ref p_odd43), none, none, none] _
          obtain ⟨rg49, erg49, h⟩ := bd_some h
          obtain ⟨t52, et52, h⟩ := bd_some h
          obtain ⟨t53, et53, h⟩ := bd_some h
          refine ws_setN (n := 4) (O := (oList rInt) t53) w47 ((evn_cat et53 (ev_var (n := 6) (W := (rList rInt).v) rfl q48) (EvN.fz (evn_lc1 (own := [("_law_at", 9)]) (S := rInt) (ei_rng1 erg49 (ev_len (Ev.vw (ev_var (n := 2) (W := (rList rInt).v) rfl ((rList rInt).mono (s8.trans (s11.trans (s14.trans (s18.trans (s32.trans (s38.trans (s44.trans s47))))))) r5))) B.len) B.range) _ et52 (tgb_1 (n := 9) nd) (fun q50 x50 b50 F50 t50 hz50 s50 hT50 _ _ _ _ _ => by obtain ⟨v50, rfl, r50⟩ := hT50; exact Et.eq (et_cmp cp_eq (ev_mod (ev_intI (ev_var (n := 9) (W := rInt.v) rfl r50) B.int) ev_int (by decide)) ev_int) (Option.some.inj hz50).symm) (fun q50 x50 z50 F50 t50 hz50 s50 hT50 _ _ _ _ _ => by obtain ⟨v50, rfl, r50⟩ := hT50; obtain ⟨t51, et51, hz50⟩ := bd_some hz50; exact Ev.eq (ev_ixL et51 (ev_var (n := 4) (W := vOf (oList rInt)) rfl (vOf.own (i := 2) rfl)) (ev_var (n := 9) (W := rInt.v) rfl r50)) (Option.some.inj hz50).symm) nd (blkOk_by (N := ["_law_box", "_law_marks_here", "_law_listed", "_law_turn", "_law_turned", "_law_way", "_law_odd", "_law_k", "_law_place", "_law_at"]) (sc := defScope s_l_handed) (by decide +kernel)))))) nd (fun p_turned54 F55 H55 s55 w55 => ?_)
          have w56 := w55.drop (i := 2)
          have w57 := w56.back (i := 1)
          show Ws _ _ _ [some (.ref a_box), some v_marks_here, some v5, some v10, some (.ref p_turned54), some v17, some (.ref p_odd43), none, none, none] _
          refine ws_nil ?_
          exact ⟨t53, p_turned54, some (.ref p_odd43), F55, rfl, (s38.trans (s44.trans (s47.trans s55))), w57, Option.some.inj h⟩
        · skip
          have h := (if_some hy34).2 hb33
          refine ws_nil ?_
          exact ⟨x_turned21, v22, none, F38, rfl, s38, w38, Option.some.inj h⟩
        · skip
          rintro _ H58 ⟨x_turned35, v36, o37, F58, rfl, s58, w58, rfl⟩
          have h := hk34
          have h : K_l_handed_34 t4 t16 x_turned35 = some _ := h
          unfold K_l_handed_34 at h
          obtain ⟨t59, et59, h⟩ := bd_some h
          obtain ⟨rg60, erg60, h⟩ := bd_some h
          obtain ⟨z62, hz62, hk62⟩ := bd_some h
          refine ws_j (fun (sg : L2.St) (Hm : Hp) => ∃ (x_box67 : (List Int)) (x_turned68 : (List Int)) (v69 : Addr) (o70 : Option V) (Fm : Hp), sg = [some (.ref a_box), some v_marks_here, some v5, some v10, some (.ref v69), some v17, o37, o70, none, none] ∧ Same F58 Fm ∧ Wf Fm ((a_box, (oList rInt) x_box67) :: (v69, (oList rInt) x_turned68) :: Os0) Hm ∧ (x_box67, x_turned68) = z62) (w1_forR1 (n := 7) erg60 w58 (ev_call (U := rInt.v) (Os2 := ((a_box, (oList rInt) t59.2) :: (v36, (oList rInt) x_turned35) :: Os0)) G_l_take (hr.mono (by decide)) T_l_take.gm T_l_take.fn.kp T_l_take.bi pass0 (ea_cons (ev_var (n := 0) (W := (rIs (.ref a_box)).v) (x := ()) rfl rfl) (ea_cons ev_int ea_nil)) (fun F' Os' H' vs Q w hv q => by obtain ⟨u0, _, rfl, q0, u1, _, rfl, q1, rfl, rfl⟩ := hv; cases q0; exact ⟨F', _, t16.2, 4, a_box, u1, t59.1, t59.2, rfl, w, q1, et59, fun v F2 H2 s2 w r => by exact q v F2 H2 s2 w r⟩)) nd (fun F61 H61 s61 w61 => ?_) PassesOwn.never B.range) ?_
          · skip
            refine ⟨(fun (rr : List Int) (sg : L2.St) (Hm : Hp) => ∃ (x_box63 : (List Int)) (x_turned64 : (List Int)) (v65 : Addr) (o66 : Option V) (Fm : Hp), sg = [some (.ref a_box), some v_marks_here, some v5, some v10, some (.ref v65), some v17, o37, o66, none, none] ∧ Same F61 Fm ∧ Wf Fm ((a_box, (oList rInt) x_box63) :: (v65, (oList rInt) x_turned64) :: Os0) Hm ∧ foldO (fun s x => B_l_handed_62 t4 s.1 s.2 x) (x_box63, x_turned64) rr = some z62), ⟨t59.2, x_turned35, v36, none, F61, rfl, (Same.refl _), w61, hz62⟩, ?_, ?_⟩
            · skip
              rintro x71 rr _ H72 ⟨x_box63, x_turned64, v65, o66, F72, rfl, s72, w72, hz62⟩
              obtain ⟨y62, hy62, hz62⟩ := foldO_some hz62
              have h : B_l_handed_62 t4 x_box63 x_turned64 x71 = some _ := hy62
              unfold B_l_handed_62 at h
              show Ws _ _ _ [some (.ref a_box), some v_marks_here, some v5, some v10, some (.ref v65), some v17, o37, some (.int x71), none, none] _
              obtain ⟨t73, et73, h⟩ := bd_some h
              obtain ⟨t74, et74, h⟩ := bd_some h
              obtain ⟨t75, et75, h⟩ := bd_some h
              refine ws_setN (n := 4) (O := (oList rInt) t75) w72 ((evn_catV et75 (Ev.vw (EvN.fz (evn_list (el_cons (ev_ixF et74 (ev_var (n := 2) (W := (rList rInt).v) rfl ((rList rInt).mono (s8.trans (s11.trans (s14.trans (s18.trans (s32.trans (s58.trans (s61.trans s72))))))) r5)) (ev_call (U := rInt.v) (Os2 := ((a_box, (oList rInt) t73.2) :: (v65, (oList rInt) x_turned64) :: Os0)) G_l_take (hr.mono (by decide)) T_l_take.gm T_l_take.fn.kp T_l_take.bi pass0 (ea_cons (ev_var (n := 0) (W := (rIs (.ref a_box)).v) (x := ()) rfl rfl) (ea_cons (ev_len (Ev.vw (ev_var (n := 2) (W := (rList rInt).v) rfl ((rList rInt).mono (s8.trans (s11.trans (s14.trans (s18.trans (s32.trans (s58.trans (s61.trans s72))))))) r5))) B.len) ea_nil)) (fun F' Os' H' vs Q w hv q => by obtain ⟨u0, _, rfl, q0, u1, _, rfl, q1, rfl, rfl⟩ := hv; cases q0; exact ⟨F', _, x_box63, (t4.length : Int), a_box, u1, t73.1, t73.2, rfl, w, q1, et73, fun v F2 H2 s2 w r => by exact q v F2 H2 s2 w r⟩))) el_nil) (by exact (show 1 ≤ 16777216 by decide))))) (ev_var (n := 4) (W := vOf (oList rInt)) rfl (vOf.own (i := 1) rfl)))) nd (fun p_turned76 F77 H77 s77 w77 => ?_)
              have w78 := w77.drop (i := 2)
              have w79 := w78.back (i := 1)
              show Ws _ _ _ [some (.ref a_box), some v_marks_here, some v5, some v10, some (.ref p_turned76), some v17, o37, some (.int x71), none, none] _
              refine ws_nil ?_
              obtain rfl := Option.some.inj h
              exact ⟨t73.2, t75, p_turned76, some (.int x71), F77, rfl, (s72.trans s77), w79, hz62⟩
            · skip
              rintro _ H80 ⟨x_box63, x_turned64, v65, o66, F80, rfl, s80, w80, hz62⟩
              have hz := foldO_nil hz62
              exact ⟨x_box63, x_turned64, v65, o66, F80, rfl, (s61.trans s80), w80, hz.symm⟩
          · skip
            rintro _ H81 ⟨x_box67, x_turned68, v69, o70, F81, rfl, s81, w81, rfl⟩
            have h := hk62
            have h : K_l_handed_62 x_box67 x_turned68 = some _ := h
            unfold K_l_handed_62 at h
            obtain ⟨rfl, rfl⟩ := pair_inj h
            refine ws_ret (W := (rIs (.ref v69)).v) w81 (ev_var (n := 4) (W := (rIs (.ref v69)).v) (x := ()) rfl rfl) (fun vz Fz Hz sz wz rz => ?_)
            cases rz
            have wz := wz.pull (i := 1) rfl
            exact kQ _ _ _ ((s6.trans (s8.trans (s11.trans (s14.trans (s18.trans (s32.trans (s58.trans s81))))))).trans sz) wz
abbrev s_ascending : Stmt := topS 1
theorem sc_ascending : FnScope ["numbers"] ["numbers"] (defScope s_ascending) := ⟨rfl, rfl, rfl, by decide +kernel, rfl, by decide +kernel, by decide +kernel⟩
def sp_ascending (K : PySem.W.Frag) : Sp := fun vs H Q _ => ∃ (F0 : Hp) (Os0 : Owns) (x_numbers : (List Int)) (v_numbers : V) (res : (List Int)), vs = [v_numbers] ∧ Wf F0 (Os0) H ∧ (rList rInt).r F0 v_numbers x_numbers ∧ M_ascending x_numbers = some res ∧ ∀ p F' H', Same F0 F' → Wf F' ((p, (oList rInt) res) :: Os0) H' → Q (.ref p) H'
theorem ok_ascending {f : Addr} {fd : FuncData} (T : FT K mg "ascending" s_ascending ["numbers"] f fd) (B : Blt mg) : FnOk P w K mg base CX0 1 f fd ["numbers"] (sp_ascending K) := by
  refine T.fn.ok sc_ascending (fun vs H Q E h => ?_) (fun cdv A outer s H vs Q E hr h => ?_)
  · obtain ⟨_, _, _, _, _, rfl, _⟩ := h
    rfl
  · obtain ⟨F0, Os0, x_numbers, v_numbers, res, rfl, w0, r_numbers, h, kQ⟩ := h
    have nd := sc_ascending.nd
    refine ⟨_, pss_w, ?_⟩
    unfold M_ascending at h
    show Ws _ _ _ [some v_numbers] _
    obtain ⟨t1, et1, h⟩ := bd_some h
    obtain rfl := Option.some.inj h
    refine ws_retN (O := (oList rInt) _) w0 (evn_srtSet (ev_setO et1 (Ev.vw (ev_var (n := 0) (W := (rList rInt).v) rfl r_numbers)) B.set) B.sorted) (fun pz Fz Hz sz wz => ?_)
    exact kQ _ _ _ ((Same.refl _).trans sz) wz
abbrev s_blocks_with : Stmt := topS 3
theorem sc_blocks_with : FnScope ["depth", "place", "blocks", "size", "_"] ["depth", "place"] (defScope s_blocks_with) := ⟨rfl, rfl, rfl, by decide +kernel, rfl, by decide +kernel, by decide +kernel⟩
def sp_blocks_with (K : PySem.W.Frag) : Sp := fun vs H Q _ => ∃ (F0 : Hp) (Os0 : Owns) (x_depth : Int) (x_place : Int) (v_depth : V) (v_place : V) (res : (List (Int × Int))), vs = [v_depth, v_place] ∧ Wf F0 (Os0) H ∧ rInt.r F0 v_depth x_depth ∧ rInt.r F0 v_place x_place ∧ M_blocks_with x_depth x_place = some res ∧ ∀ p F' H', Same F0 F' → Wf F' ((p, (oList (rT2 rInt rInt)) res) :: Os0) H' → Q (.ref p) H'
theorem ok_blocks_with {f : Addr} {fd : FuncData} (T : FT K mg "blocks_with" s_blocks_with ["depth", "place"] f fd) (B : Blt mg) : FnOk P w K mg base CX0 1 f fd ["depth", "place"] (sp_blocks_with K) := by
  refine T.fn.ok sc_blocks_with (fun vs H Q E h => ?_) (fun cdv A outer s H vs Q E hr h => ?_)
  · obtain ⟨_, _, _, _, _, _, _, rfl, _⟩ := h
    rfl
  · obtain ⟨F0, Os0, x_depth, x_place, v_depth, v_place, res, rfl, w0, r_depth, r_place, h, kQ⟩ := h
    have nd := sc_blocks_with.nd
    refine ⟨_, pss_w, ?_⟩
    unfold M_blocks_with at h
    show Ws _ _ _ [some v_depth, some v_place, none, none, none] _
    obtain ⟨x_blocks1, ex_blocks1, h⟩ := lt_some h
    refine ws_setN (n := 2) (O := (oList (rT2 rInt rInt)) x_blocks1) w0 (EvN.eqO (O := (oList (rT2 rInt rInt))) (evn_list el_nil (by exact (show 0 ≤ 16777216 by decide))) ex_blocks1) nd (fun p_blocks2 F3 H3 s3 w3 => ?_)
    show Ws _ _ _ [some v_depth, some v_place, some (.ref p_blocks2), none, none] _
    refine ws_set (n := 3) (W := rInt.v) w3 (ev_int) nd (fun v4 F5 H5 s5 w5 r4 => ?_)
    show Ws _ _ _ [some v_depth, some v_place, some (.ref p_blocks2), some v4, none] _
    obtain ⟨rg6, erg6, h⟩ := bd_some h
    obtain ⟨z8, hz8, hk8⟩ := bd_some h
    refine ws_j (fun (sg : L2.St) (Hm : Hp) => ∃ (x_blocks13 : (List (Int × Int))) (x_size14 : Int) (v15 : V) (o16 : Option V) (Fm : Hp), sg = [some v_depth, some v_place, some (.ref p_blocks2), some v15, o16] ∧ Same F5 Fm ∧ Wf Fm ((p_blocks2, (oList (rT2 rInt rInt)) x_blocks13) :: Os0) Hm ∧ rInt.r Fm v15 x_size14 ∧ (x_blocks13, x_size14) = z8) (w1_forR1 (n := 4) erg6 w5 (ev_add (ev_var (n := 0) (W := rInt.v) rfl r_depth) ev_int) nd (fun F7 H7 s7 w7 => ?_) PassesOwn.never B.range) ?_
    · skip
      refine ⟨(fun (rr : List Int) (sg : L2.St) (Hm : Hp) => ∃ (x_blocks9 : (List (Int × Int))) (x_size10 : Int) (v11 : V) (o12 : Option V) (Fm : Hp), sg = [some v_depth, some v_place, some (.ref p_blocks2), some v11, o12] ∧ Same F7 Fm ∧ Wf Fm ((p_blocks2, (oList (rT2 rInt rInt)) x_blocks9) :: Os0) Hm ∧ rInt.r Fm v11 x_size10 ∧ foldO (fun s x => B_blocks_with_8 x_place s.1 s.2 x) (x_blocks9, x_size10) rr = some z8), ⟨x_blocks1, 1, v4, none, F7, rfl, (Same.refl _), w7, r4, hz8⟩, ?_, ?_⟩
      · skip
        rintro x17 rr _ H18 ⟨x_blocks9, x_size10, v11, o12, F18, rfl, s18, w18, r19, hz8⟩
        obtain ⟨y8, hy8, hz8⟩ := foldO_some hz8
        have h : B_blocks_with_8 x_place x_blocks9 x_size10 x17 = some _ := hy8
        unfold B_blocks_with_8 at h
        show Ws _ _ _ [some v_depth, some v_place, some (.ref p_blocks2), some v11, some (.int x17)] _
        obtain ⟨t20, et20, h⟩ := bd_some h
        obtain ⟨x_blocks21, ex_blocks21, h⟩ := bd_some h
        refine ws_app (n := 0) (m := 2) (R := (rT2 rInt rInt)) (Os1 := ((p_blocks2, (oList (rT2 rInt rInt)) x_blocks9) :: Os0)) w18 rfl (ev_tup2 (ea_cons (ev_sub (ev_var (n := 1) (W := rInt.v) rfl r_place) (ev_modO et20 (ev_var (n := 1) (W := rInt.v) rfl r_place) (ev_var (n := 3) (W := rInt.v) rfl r19))) (ea_cons (ev_var (n := 3) (W := rInt.v) rfl r19) ea_nil))) rfl ex_blocks21 (fun F22 H22 s22 w22 => ?_)
        obtain ⟨x_size23, ex_size23, h⟩ := lt_some h
        refine ws_set (n := 3) (W := rInt.v) w22 (Ev.eq (ev_mul (ev_var (n := 3) (W := rInt.v) rfl r19) ev_int (.inr ⟨by decide, by decide⟩)) ex_size23) nd (fun v24 F25 H25 s25 w25 r24 => ?_)
        show Ws _ _ _ [some v_depth, some v_place, some (.ref p_blocks2), some v24, some (.int x17)] _
        refine ws_nil ?_
        obtain rfl := Option.some.inj h
        exact ⟨x_blocks21, x_size23, v24, some (.int x17), F25, rfl, (s18.trans (s22.trans s25)), w25, r24, hz8⟩
      · skip
        rintro _ H26 ⟨x_blocks9, x_size10, v11, o12, F26, rfl, s26, w26, r27, hz8⟩
        have hz := foldO_nil hz8
        exact ⟨x_blocks9, x_size10, v11, o12, F26, rfl, (s7.trans s26), w26, r27, hz.symm⟩
    · skip
      rintro _ H28 ⟨x_blocks13, x_size14, v15, o16, F28, rfl, s28, w28, r29, rfl⟩
      have h := hk8
      have h : K_blocks_with_8 x_blocks13 x_size14 = some _ := h
      unfold K_blocks_with_8 at h
      obtain rfl := Option.some.inj h
      refine ws_ret (W := (rIs (.ref p_blocks2)).v) w28 (ev_var (n := 2) (W := (rIs (.ref p_blocks2)).v) (x := ()) rfl rfl) (fun vz Fz Hz sz wz rz => ?_)
      cases rz
      have wz := wz.pull (i := 0) rfl
      exact kQ _ _ _ ((s3.trans (s5.trans s28)).trans sz) wz
abbrev s_whole_block : Stmt := topS 4
theorem sc_whole_block : FnScope ["depth"] ["depth"] (defScope s_whole_block) := ⟨rfl, rfl, rfl, by decide +kernel, rfl, by decide +kernel, by decide +kernel⟩
def sp_whole_block (K : PySem.W.Frag) : Sp := fun vs H Q _ => ∃ (F0 : Hp) (Os0 : Owns) (x_depth : Int) (v_depth : V) (res : (Int × Int)), vs = [v_depth] ∧ Wf F0 (Os0) H ∧ rInt.r F0 v_depth x_depth ∧ M_whole_block x_depth = some res ∧ ∀ v F' H', Same F0 F' → Wf F' (Os0) H' → (rT2 rInt rInt).r F' v res → Q v H'
theorem ok_whole_block {f : Addr} {fd : FuncData} {f_blocks_with : Addr} {d_blocks_with : FuncData} (T : FT K mg "whole_block" s_whole_block ["depth"] f fd) (B : Blt mg) (T_blocks_with : FT K mg "blocks_with" s_blocks_with ["depth", "place"] f_blocks_with d_blocks_with) (G_blocks_with : FnOk P w K mg base CX0 1 f_blocks_with d_blocks_with ["depth", "place"] (sp_blocks_with K)) : FnOk P w K mg base CX0 2 f fd ["depth"] (sp_whole_block K) := by
  refine T.fn.ok sc_whole_block (fun vs H Q E h => ?_) (fun cdv A outer s H vs Q E hr h => ?_)
  · obtain ⟨_, _, _, _, _, rfl, _⟩ := h
    rfl
  · obtain ⟨F0, Os0, x_depth, v_depth, res, rfl, w0, r_depth, h, kQ⟩ := h
    have nd := sc_whole_block.nd
    refine ⟨_, pss_w, ?_⟩
    unfold M_whole_block at h
    show Ws _ _ _ [some v_depth] _
    obtain ⟨t1, et1, h⟩ := bd_some h
    obtain ⟨t2, et2, h⟩ := bd_some h
    obtain rfl := Option.some.inj h
    refine ws_ret (W := (rT2 rInt rInt).v) w0 (ev_ixL et2 (Ev.vw (EvN.fz (evn_call (O := (oList (rT2 rInt rInt)) t1) (Os2 := (Os0)) G_blocks_with (hr.mono (by decide)) T_blocks_with.gm T_blocks_with.fn.kp T_blocks_with.bi pass0 (ea_cons (ev_var (n := 0) (W := rInt.v) rfl r_depth) (ea_cons ev_int ea_nil)) (fun F' Os' H' vs Q w hv q => by obtain ⟨u0, _, rfl, q0, u1, _, rfl, q1, rfl, rfl⟩ := hv; exact ⟨F', _, x_depth, 0, u0, u1, t1, rfl, w, q0, q1, et1, fun p F2 H2 s2 w => by exact q p F2 H2 s2 w⟩)))) (ev_neg ev_int)) (fun vz Fz Hz sz wz rz => ?_)
    exact kQ _ _ _ ((Same.refl _).trans sz) wz rz
abbrev s_halves : Stmt := topS 5
theorem sc_halves : FnScope ["block", "start", "size", "half"] ["block"] (defScope s_halves) := ⟨rfl, rfl, rfl, by decide +kernel, rfl, by decide +kernel, by decide +kernel⟩
def sp_halves (K : PySem.W.Frag) : Sp := fun vs H Q _ => ∃ (F0 : Hp) (Os0 : Owns) (x_block : (Int × Int)) (v_block : V) (res : (List (Int × Int))), vs = [v_block] ∧ Wf F0 (Os0) H ∧ (rT2 rInt rInt).r F0 v_block x_block ∧ M_halves x_block = some res ∧ ∀ p F' H', Same F0 F' → Wf F' ((p, (oList (rT2 rInt rInt)) res) :: Os0) H' → Q (.ref p) H'
theorem ok_halves {f : Addr} {fd : FuncData} (T : FT K mg "halves" s_halves ["block"] f fd) (B : Blt mg) : FnOk P w K mg base CX0 1 f fd ["block"] (sp_halves K) := by
  refine T.fn.ok sc_halves (fun vs H Q E h => ?_) (fun cdv A outer s H vs Q E hr h => ?_)
  · obtain ⟨_, _, _, _, _, rfl, _⟩ := h
    rfl
  · obtain ⟨F0, Os0, x_block, v_block, res, rfl, w0, r_block, h, kQ⟩ := h
    have nd := sc_halves.nd
    refine ⟨_, pss_w, ?_⟩
    unfold M_halves at h
    show Ws _ _ _ [some v_block, none, none, none] _
    refine ws_unpack (W := (rT2 rInt rInt).v) w0 ((ev_var (n := 0) (W := (rT2 rInt rInt).v) rfl r_block)) (fun v3 F4 H4 s4 w4 r3 => wg_t2 r3 w4 (fun v1 v2 r1 r2 => wg_name (n := 1) nd (wg_name (n := 2) nd ?_)))
    show Ws _ _ _ [some v_block, some v1, some v2, none] _
    obtain ⟨x_half5, ex_half5, h⟩ := lt_some h
    refine ws_set (n := 3) (W := rInt.v) w4 (Ev.eq (ev_div (ev_var (n := 2) (W := rInt.v) rfl r2) ev_int ⟨by decide, by decide +kernel⟩) ex_half5) nd (fun v6 F7 H7 s7 w7 r6 => ?_)
    show Ws _ _ _ [some v_block, some v1, some v2, some v6] _
    obtain rfl := Option.some.inj h
    refine ws_retN (O := (oList (rT2 rInt rInt)) _) w7 (evn_list (el_cons (ev_tup2 (ea_cons (ev_var (n := 1) (W := rInt.v) rfl r1) (ea_cons (ev_var (n := 3) (W := rInt.v) rfl r6) ea_nil))) (el_cons (ev_tup2 (ea_cons (ev_add (ev_var (n := 1) (W := rInt.v) rfl r1) (ev_var (n := 3) (W := rInt.v) rfl r6)) (ea_cons (ev_var (n := 3) (W := rInt.v) rfl r6) ea_nil))) el_nil)) (by exact (show 2 ≤ 16777216 by decide))) (fun pz Fz Hz sz wz => ?_)
    exact kQ _ _ _ ((s4.trans s7).trans sz) wz
abbrev s_least_cover : Stmt := topS 6
theorem sc_least_cover : FnScope ["depth", "places", "listed", "cover", "waiting", "start", "size", "inside", "low", "high", "place"] ["depth", "places"] (defScope s_least_cover) := ⟨rfl, rfl, rfl, by decide +kernel, rfl, by decide +kernel, by decide +kernel⟩
def sp_least_cover (K : PySem.W.Frag) : Sp := fun vs H Q _ => ∃ (F0 : Hp) (Os0 : Owns) (x_depth : Int) (x_places : (List Int)) (v_depth : V) (v_places : V) (res : (List (Int × Int))), vs = [v_depth, v_places] ∧ Wf F0 (Os0) H ∧ rInt.r F0 v_depth x_depth ∧ (rList rInt).r F0 v_places x_places ∧ M_least_cover x_depth x_places = some res ∧ ∀ p F' H', Same F0 F' → Wf F' ((p, (oList (rT2 rInt rInt)) res) :: Os0) H' → Q (.ref p) H'
theorem ok_least_cover {f : Addr} {fd : FuncData} {f_ascending : Addr} {d_ascending : FuncData} {f_whole_block : Addr} {d_whole_block : FuncData} {f_halves : Addr} {d_halves : FuncData} (T : FT K mg "least_cover" s_least_cover ["depth", "places"] f fd) (B : Blt mg) (T_ascending : FT K mg "ascending" s_ascending ["numbers"] f_ascending d_ascending) (G_ascending : FnOk P w K mg base CX0 1 f_ascending d_ascending ["numbers"] (sp_ascending K)) (T_whole_block : FT K mg "whole_block" s_whole_block ["depth"] f_whole_block d_whole_block) (G_whole_block : FnOk P w K mg base CX0 2 f_whole_block d_whole_block ["depth"] (sp_whole_block K)) (T_halves : FT K mg "halves" s_halves ["block"] f_halves d_halves) (G_halves : FnOk P w K mg base CX0 1 f_halves d_halves ["block"] (sp_halves K)) : FnOk P w K mg base CX0 3 f fd ["depth", "places"] (sp_least_cover K) := by
  refine T.fn.ok sc_least_cover (fun vs H Q E h => ?_) (fun cdv A outer s H vs Q E hr h => ?_)
  · obtain ⟨_, _, _, _, _, _, _, rfl, _⟩ := h
    rfl
  · obtain ⟨F0, Os0, x_depth, x_places, v_depth, v_places, res, rfl, w0, r_depth, r_places, h, kQ⟩ := h
    have nd := sc_least_cover.nd
    refine ⟨_, pss_w, ?_⟩
    unfold M_least_cover at h
    show Ws _ _ _ [some v_depth, some v_places, none, none, none, none, none, none, none, none, none] _
    obtain ⟨t1, et1, h⟩ := bd_some h
    refine ws_set (n := 2) (W := (rList rInt).v) w0 ((EvN.fz (evn_call (O := (oList rInt) t1) (Os2 := (Os0)) G_ascending (hr.mono (by decide)) T_ascending.gm T_ascending.fn.kp T_ascending.bi pass0 (ea_cons (ev_var (n := 1) (W := (rList rInt).v) rfl r_places) ea_nil) (fun F' Os' H' vs Q w hv q => by obtain ⟨u0, _, rfl, q0, rfl, rfl⟩ := hv; exact ⟨F', _, x_places, u0, t1, rfl, w, q0, et1, fun p F2 H2 s2 w => by exact q p F2 H2 s2 w⟩)))) nd (fun v2 F3 H3 s3 w3 r2 => ?_)
    show Ws _ _ _ [some v_depth, some v_places, some v2, none, none, none, none, none, none, none, none] _
    obtain ⟨x_cover4, ex_cover4, h⟩ := lt_some h
    refine ws_setN (n := 3) (O := (oList (rT2 rInt rInt)) x_cover4) w3 (EvN.eqO (O := (oList (rT2 rInt rInt))) (evn_list el_nil (by exact (show 0 ≤ 16777216 by decide))) ex_cover4) nd (fun p_cover5 F6 H6 s6 w6 => ?_)
    show Ws _ _ _ [some v_depth, some v_places, some v2, some (.ref p_cover5), none, none, none, none, none, none, none] _
    obtain ⟨t7, et7, h⟩ := bd_some h
    obtain ⟨x_waiting8, ex_waiting8, h⟩ := lt_some h
    refine ws_setN (n := 4) (O := (oList (rT2 rInt rInt)) x_waiting8) w6 (EvN.eqO (O := (oList (rT2 rInt rInt))) (evn_list (el_cons (ev_call (U := (rT2 rInt rInt).v) (Os2 := ((p_cover5, (oList (rT2 rInt rInt)) x_cover4) :: Os0)) G_whole_block (hr.mono (by decide)) T_whole_block.gm T_whole_block.fn.kp T_whole_block.bi pass0 (ea_cons (ev_var (n := 0) (W := rInt.v) rfl r_depth) ea_nil) (fun F' Os' H' vs Q w hv q => by obtain ⟨u0, _, rfl, q0, rfl, rfl⟩ := hv; exact ⟨F', _, x_depth, u0, t7, rfl, w, q0, et7, fun v F2 H2 s2 w r => by exact q v F2 H2 s2 w r⟩)) el_nil) (by exact (show 1 ≤ 16777216 by decide))) ex_waiting8) nd (fun p_waiting9 F10 H10 s10 w10 => ?_)
    have w11 := w10.back (i := 1)
    show Ws _ _ _ [some v_depth, some v_places, some v2, some (.ref p_cover5), some (.ref p_waiting9), none, none, none, none, none, none] _
    obtain ⟨z12, hz12, hk12⟩ := bd_some h
    refine ws_j (fun (sg : L2.St) (Hm : Hp) => ∃ (x_cover20 : (List (Int × Int))) (x_waiting21 : (List (Int × Int))) (o22 : Option V) (o23 : Option V) (o24 : Option V) (o25 : Option V) (o26 : Option V) (Fm : Hp), sg = [some v_depth, some v_places, some v2, some (.ref p_cover5), some (.ref p_waiting9), o22, o23, o24, o25, o26, none] ∧ Same F10 Fm ∧ Wf Fm ((p_cover5, (oList (rT2 rInt rInt)) x_cover20) :: (p_waiting9, (oList (rT2 rInt rInt)) x_waiting21) :: Os0) Hm ∧ .nx (x_cover20, x_waiting21) = z12) (w1_while (fun (nn : Nat) (sg : L2.St) (Hm : Hp) => ∃ (x_cover13 : (List (Int × Int))) (x_waiting14 : (List (Int × Int))) (o15 : Option V) (o16 : Option V) (o17 : Option V) (o18 : Option V) (o19 : Option V) (Fm : Hp), sg = [some v_depth, some v_places, some v2, some (.ref p_cover5), some (.ref p_waiting9), o15, o16, o17, o18, o19, none] ∧ Same F10 Fm ∧ Wf Fm ((p_cover5, (oList (rT2 rInt rInt)) x_cover13) :: (p_waiting9, (oList (rT2 rInt rInt)) x_waiting14) :: Os0) Hm ∧ whF (fun s => B_least_cover_12 t1 s.1 s.2) nn (x_cover13, x_waiting14) = some z12) (4 ^ (x_depth.toNat + 2)) ⟨x_cover4, x_waiting8, none, none, none, none, none, F10, rfl, (Same.refl _), w11, hz12⟩ ?_ PassesOwn.never) ?_
    · skip
      rintro nn _ H27 ⟨x_cover13, x_waiting14, o15, o16, o17, o18, o19, F27, rfl, s27, w27, hz12⟩
      obtain ⟨nn, y12, rfl, hy12, hz12⟩ := whF_some hz12
      have h : B_least_cover_12 t1 x_cover13 x_waiting14 = some _ := hy12
      unfold B_least_cover_12 at h
      refine wt_cases w27 (et_list (ev_var (n := 4) (W := vOf (oList (rT2 rInt rInt))) rfl (vOf.own (i := 1) rfl))) (fun hb28 F29 H29 s29 w29 => ?_) (fun hb28 F29 H29 s29 w29 => ?_)
      · skip
        have h := (if_some h).1 hb28
        obtain ⟨t30, et30, h⟩ := bd_some h
        refine ws_unpack (W := (rT2 rInt rInt).v) w29 ((ev_pop (n := 1) (m := 4) (R := (rT2 rInt rInt)) et30 rfl rfl)) (fun v33 F34 H34 s34 w34 r33 => wg_t2 r33 w34 (fun v31 v32 r31 r32 => wg_name (n := 5) nd (wg_name (n := 6) nd ?_)))
        show Ws _ _ _ [some v_depth, some v_places, some v2, some (.ref p_cover5), some (.ref p_waiting9), some v31, some v32, o17, o18, o19, none] _
        obtain ⟨t36, et36, h⟩ := bd_some h
        refine ws_setLc1 (n := 7) (own := [("place", 10)]) (S := rInt) w34 (ei_list (ev_var (n := 2) (W := (rList rInt).v) rfl ((rList rInt).mono (s6.trans (s10.trans (s27.trans (s29.trans s34)))) r2))) _ et36 (tgb_1 (n := 10) nd) (fun q35 x35 b35 F35 t35 hz35 s35 hT35 _ _ _ _ _ => by obtain ⟨v35, rfl, r35⟩ := hT35; exact Et.eq (et_chain cp_le cp_lt (ev_var (n := 5) (W := rInt.v) rfl r31) (ev_var (n := 10) (W := rInt.v) rfl r35) (ev_add (ev_var (n := 5) (W := rInt.v) rfl r31) (ev_var (n := 6) (W := rInt.v) rfl r32))) (Option.some.inj hz35).symm) (fun q35 x35 z35 F35 t35 hz35 s35 hT35 _ _ _ _ _ => by obtain ⟨v35, rfl, r35⟩ := hT35; exact Ev.eq (ev_var (n := 10) (W := rInt.v) rfl r35) (Option.some.inj hz35).symm) nd (blkOk_by (N := ["depth", "places", "listed", "cover", "waiting", "start", "size", "inside", "low", "high", "place"]) (sc := defScope s_least_cover) (by decide +kernel)) (fun p_inside37 F38 H38 s38 w38 => ?_) (sw_true rfl rfl rfl (by decide +kernel))
        have w39 := w38.back (i := 2)
        obtain ⟨F41, s41, w41, q42⟩ := fz_own w39 (i := 2) rfl
        show Ws _ _ _ [some v_depth, some v_places, some v2, some (.ref p_cover5), some (.ref p_waiting9), some v31, some v32, some (.ref p_inside37), o18, o19, none] _
        refine ws_if w41 (et_cmp cp_eq (ev_len (Ev.vw (ev_var (n := 7) (W := (rList rInt).v) rfl q42)) B.len) (ev_var (n := 6) (W := rInt.v) rfl r32)) (fun hb43 F44 H44 s44 w44 => ?_) (fun hb43 F44 H44 s44 w44 => ?_)
        · skip
          have h := (if_some h).1 hb43
          obtain ⟨x_cover45, ex_cover45, h⟩ := bd_some h
          refine ws_app (n := 0) (m := 3) (R := (rT2 rInt rInt)) (Os1 := ((p_cover5, (oList (rT2 rInt rInt)) x_cover13) :: (p_waiting9, (oList (rT2 rInt rInt)) t30.2) :: Os0)) w44 rfl (ev_tup2 (ea_cons (ev_var (n := 5) (W := rInt.v) rfl r31) (ea_cons (ev_var (n := 6) (W := rInt.v) rfl r32) ea_nil))) rfl ex_cover45 (fun F46 H46 s46 w46 => ?_)
          refine ws_nil ?_
          refine ws_nil ?_
          obtain rfl := Option.some.inj h
          exact ⟨_, Nat.lt_succ_self _, ⟨x_cover45, t30.2, some v31, some v32, some (.ref p_inside37), o18, o19, F46, rfl, (s27.trans (s29.trans (s34.trans (s38.trans (s41.trans (s44.trans s46)))))), w46, hz12⟩⟩
        · skip
          have h := (if_some h).2 hb43
          refine ws_if w44 (et_list (Ev.vw (ev_var (n := 7) (W := (rList rInt).v) rfl ((rList rInt).mono s44 q42)))) (fun hb47 F48 H48 s48 w48 => ?_) (fun hb47 F48 H48 s48 w48 => ?_)
          · skip
            have h := (if_some h).1 hb47
            obtain ⟨t49, et49, h⟩ := bd_some h
            obtain ⟨u50, eu50, h⟩ := bd_some h
            refine ws_unpack (W := (rList (rT2 rInt rInt)).v) w48 ((EvN.fz (evn_call (O := (oList (rT2 rInt rInt)) t49) (Os2 := ((p_cover5, (oList (rT2 rInt rInt)) x_cover13) :: (p_waiting9, (oList (rT2 rInt rInt)) t30.2) :: Os0)) G_halves (hr.mono (by decide)) T_halves.gm T_halves.fn.kp T_halves.bi pass0 (ea_cons (ev_tup2 (ea_cons (ev_var (n := 5) (W := rInt.v) rfl r31) (ea_cons (ev_var (n := 6) (W := rInt.v) rfl r32) ea_nil))) ea_nil) (fun F' Os' H' vs Q w hv q => by obtain ⟨u0, _, rfl, q0, rfl, rfl⟩ := hv; exact ⟨F', _, (t30.1.1, t30.1.2), u0, t49, rfl, w, q0, et49, fun p F2 H2 s2 w => by exact q p F2 H2 s2 w⟩)))) (fun v53 F54 H54 s54 w54 r53 => wg_l2 eu50 r53 w54 (fun v51 v52 r51 r52 => wg_name (n := 8) nd (wg_name (n := 9) nd ?_)))
            show Ws _ _ _ [some v_depth, some v_places, some v2, some (.ref p_cover5), some (.ref p_waiting9), some v31, some v32, some (.ref p_inside37), some v51, some v52, none] _
            obtain ⟨x_waiting55, ex_waiting55, h⟩ := bd_some h
            refine ws_ext (n := 1) (m := 4) (R := (rT2 rInt rInt)) (Os1 := ((p_cover5, (oList (rT2 rInt rInt)) x_cover13) :: (p_waiting9, (oList (rT2 rInt rInt)) t30.2) :: Os0)) w54 rfl (Ev.vw (EvN.fz (evn_list (el_cons (ev_var (n := 9) (W := (rT2 rInt rInt).v) rfl r52) (el_cons (ev_var (n := 8) (W := (rT2 rInt rInt).v) rfl r51) el_nil)) (by exact (show 2 ≤ 16777216 by decide))))) rfl ex_waiting55 (fun F56 H56 s56 w56 => ?_)
            refine ws_nil ?_
            refine ws_nil ?_
            refine ws_nil ?_
            obtain rfl := Option.some.inj h
            exact ⟨_, Nat.lt_succ_self _, ⟨x_cover13, x_waiting55, some v31, some v32, some (.ref p_inside37), some v51, some v52, F56, rfl, (s27.trans (s29.trans (s34.trans (s38.trans (s41.trans (s44.trans (s48.trans (s54.trans s56)))))))), w56, hz12⟩⟩
          · skip
            have h := (if_some h).2 hb47
            refine ws_nil ?_
            refine ws_nil ?_
            refine ws_nil ?_
            obtain rfl := Option.some.inj h
            exact ⟨_, Nat.lt_succ_self _, ⟨x_cover13, t30.2, some v31, some v32, some (.ref p_inside37), o18, o19, F48, rfl, (s27.trans (s29.trans (s34.trans (s38.trans (s41.trans (s44.trans s48)))))), w48, hz12⟩⟩
      · skip
        have h := (if_some h).2 hb28
        obtain rfl := Option.some.inj h
        exact ⟨x_cover13, x_waiting14, o15, o16, o17, o18, o19, F29, rfl, (s27.trans s29), w29, Option.some.inj hz12⟩
    · skip
      rintro _ H57 ⟨x_cover20, x_waiting21, o22, o23, o24, o25, o26, F57, rfl, s57, w57, rfl⟩
      have h := flk_nx hk12
      have h : K_least_cover_12 x_cover20 x_waiting21 = some _ := h
      unfold K_least_cover_12 at h
      obtain rfl := Option.some.inj h
      refine ws_ret (W := (rIs (.ref p_cover5)).v) w57 (ev_var (n := 3) (W := (rIs (.ref p_cover5)).v) (x := ()) rfl rfl) (fun vz Fz Hz sz wz rz => ?_)
      cases rz
      have wz := wz.pull (i := 0) rfl
      have wz := wz.drop (i := 1)
      exact kQ _ _ _ ((s3.trans (s6.trans (s10.trans s57))).trans sz) wz
abbrev s_l_least : Stmt := topS 13
theorem sc_l_least : FnScope ["_law_levels", "_law_marks_here", "_law_counts", "_law_fulls", "_law_k", "_law_wider", "_law_wider_fulls", "_law_at", "_law_full"] ["_law_levels", "_law_marks_here"] (defScope s_l_least) := ⟨rfl, rfl, rfl, by decide +kernel, rfl, by decide +kernel, by decide +kernel⟩
def sp_l_least (K : PySem.W.Frag) : Sp := fun vs H Q _ => ∃ (F0 : Hp) (Os0 : Owns) (x_levels : Int) (x_marks_here : (List Int)) (v_levels : V) (v_marks_here : V) (res : Int), vs = [v_levels, v_marks_here] ∧ Wf F0 (Os0) H ∧ rInt.r F0 v_levels x_levels ∧ (rList rInt).r F0 v_marks_here x_marks_here ∧ M_l_least x_levels x_marks_here = some res ∧ ∀ v F' H', Same F0 F' → Wf F' (Os0) H' → rInt.r F' v res → Q v H'
theorem ok_l_least {f : Addr} {fd : FuncData} (T : FT K mg "_law_least" s_l_least ["_law_levels", "_law_marks_here"] f fd) (B : Blt mg) : FnOk P w K mg base CX0 1 f fd ["_law_levels", "_law_marks_here"] (sp_l_least K) := by
  refine T.fn.ok sc_l_least (fun vs H Q E h => ?_) (fun cdv A outer s H vs Q E hr h => ?_)
  · obtain ⟨_, _, _, _, _, _, _, rfl, _⟩ := h
    rfl
  · obtain ⟨F0, Os0, x_levels, x_marks_here, v_levels, v_marks_here, res, rfl, w0, r_levels, r_marks_here, h, kQ⟩ := h
    have nd := sc_l_least.nd
    refine ⟨_, pss_w, ?_⟩
    unfold M_l_least at h
    show Ws _ _ _ [some v_levels, some v_marks_here, none, none, none, none, none, none, none] _
    refine ws_set (n := 2) (W := (rList rInt).v) w0 ((EvN.fz (evn_listL (Ev.vw (ev_var (n := 1) (W := (rList rInt).v) rfl r_marks_here)) B.list))) nd (fun v1 F2 H2 s2 w2 r1 => ?_)
    show Ws _ _ _ [some v_levels, some v_marks_here, some v1, none, none, none, none, none, none] _
    refine ws_set (n := 3) (W := (rList rInt).v) w2 ((EvN.fz (evn_listL (Ev.vw (ev_var (n := 1) (W := (rList rInt).v) rfl ((rList rInt).mono s2 r_marks_here))) B.list))) nd (fun v3 F4 H4 s4 w4 r3 => ?_)
    show Ws _ _ _ [some v_levels, some v_marks_here, some v1, some v3, none, none, none, none, none] _
    obtain ⟨rg5, erg5, h⟩ := bd_some h
    obtain ⟨z7, hz7, hk7⟩ := bd_some h
    refine ws_j (fun (sg : L2.St) (Hm : Hp) => ∃ (x_counts17 : (List Int)) (x_fulls18 : (List Int)) (v19 : V) (v20 : V) (o21 : Option V) (o22 : Option V) (o23 : Option V) (o24 : Option V) (o25 : Option V) (Fm : Hp), sg = [some v_levels, some v_marks_here, some v19, some v20, o21, o22, o23, o24, o25] ∧ Same F4 Fm ∧ Wf Fm (Os0) Hm ∧ (rList rInt).r Fm v19 x_counts17 ∧ (rList rInt).r Fm v20 x_fulls18 ∧ (x_counts17, x_fulls18) = z7) (w1_forR1 (n := 4) erg5 w4 (ev_var (n := 0) (W := rInt.v) rfl r_levels) nd (fun F6 H6 s6 w6 => ?_) PassesOwn.never B.range) ?_
    · skip
      refine ⟨(fun (rr : List Int) (sg : L2.St) (Hm : Hp) => ∃ (x_counts8 : (List Int)) (x_fulls9 : (List Int)) (v10 : V) (v11 : V) (o12 : Option V) (o13 : Option V) (o14 : Option V) (o15 : Option V) (o16 : Option V) (Fm : Hp), sg = [some v_levels, some v_marks_here, some v10, some v11, o12, o13, o14, o15, o16] ∧ Same F6 Fm ∧ Wf Fm (Os0) Hm ∧ (rList rInt).r Fm v10 x_counts8 ∧ (rList rInt).r Fm v11 x_fulls9 ∧ foldO (fun s x => B_l_least_7 s.1 s.2 x) (x_counts8, x_fulls9) rr = some z7), ⟨x_marks_here, x_marks_here, v1, v3, none, none, none, none, none, F6, rfl, (Same.refl _), w6, ((rList rInt).mono (s4.trans s6) r1), ((rList rInt).mono s6 r3), hz7⟩, ?_, ?_⟩
      · skip
        rintro x26 rr _ H27 ⟨x_counts8, x_fulls9, v10, v11, o12, o13, o14, o15, o16, F27, rfl, s27, w27, r28, r29, hz7⟩
        obtain ⟨y7, hy7, hz7⟩ := foldO_some hz7
        have h : B_l_least_7 x_counts8 x_fulls9 x26 = some _ := hy7
        unfold B_l_least_7 at h
        show Ws _ _ _ [some v_levels, some v_marks_here, some v10, some v11, some (.int x26), o13, o14, o15, o16] _
        obtain ⟨x_wider30, ex_wider30, h⟩ := lt_some h
        refine ws_setN (n := 5) (O := (oList rInt) x_wider30) w27 (EvN.eqO (O := (oList rInt)) (evn_list el_nil (by exact (show 0 ≤ 16777216 by decide))) ex_wider30) nd (fun p_wider31 F32 H32 s32 w32 => ?_)
        show Ws _ _ _ [some v_levels, some v_marks_here, some v10, some v11, some (.int x26), some (.ref p_wider31), o14, o15, o16] _
        obtain ⟨x_wider_fulls33, ex_wider_fulls33, h⟩ := lt_some h
        refine ws_setN (n := 6) (O := (oList rInt) x_wider_fulls33) w32 (EvN.eqO (O := (oList rInt)) (evn_list el_nil (by exact (show 0 ≤ 16777216 by decide))) ex_wider_fulls33) nd (fun p_wider_fulls34 F35 H35 s35 w35 => ?_)
        have w36 := w35.back (i := 1)
        show Ws _ _ _ [some v_levels, some v_marks_here, some v10, some v11, some (.int x26), some (.ref p_wider31), some (.ref p_wider_fulls34), o15, o16] _
        obtain ⟨rg37, erg37, h⟩ := bd_some h
        obtain ⟨z39, hz39, hk39⟩ := bd_some h
        refine ws_j (fun (sg : L2.St) (Hm : Hp) => ∃ (x_wider44 : (List Int)) (x_wider_fulls45 : (List Int)) (o46 : Option V) (o47 : Option V) (Fm : Hp), sg = [some v_levels, some v_marks_here, some v10, some v11, some (.int x26), some (.ref p_wider31), some (.ref p_wider_fulls34), o46, o47] ∧ Same F35 Fm ∧ Wf Fm ((p_wider31, (oList rInt) x_wider44) :: (p_wider_fulls34, (oList rInt) x_wider_fulls45) :: Os0) Hm ∧ (x_wider44, x_wider_fulls45) = z39) (w1_forR1 (n := 7) erg37 w36 (ev_div (ev_len (Ev.vw (ev_var (n := 2) (W := (rList rInt).v) rfl ((rList rInt).mono (s32.trans s35) r28))) B.len) ev_int ⟨by decide, by decide +kernel⟩) nd (fun F38 H38 s38 w38 => ?_) PassesOwn.never B.range) ?_
        · skip
          refine ⟨(fun (rr : List Int) (sg : L2.St) (Hm : Hp) => ∃ (x_wider40 : (List Int)) (x_wider_fulls41 : (List Int)) (o42 : Option V) (o43 : Option V) (Fm : Hp), sg = [some v_levels, some v_marks_here, some v10, some v11, some (.int x26), some (.ref p_wider31), some (.ref p_wider_fulls34), o42, o43] ∧ Same F38 Fm ∧ Wf Fm ((p_wider31, (oList rInt) x_wider40) :: (p_wider_fulls34, (oList rInt) x_wider_fulls41) :: Os0) Hm ∧ foldO (fun s x => B_l_least_39 x_counts8 x_fulls9 s.1 s.2 x) (x_wider40, x_wider_fulls41) rr = some z39), ⟨x_wider30, x_wider_fulls33, o15, o16, F38, rfl, (Same.refl _), w38, hz39⟩, ?_, ?_⟩
          · skip
            rintro x48 rr _ H49 ⟨x_wider40, x_wider_fulls41, o42, o43, F49, rfl, s49, w49, hz39⟩
            obtain ⟨y39, hy39, hz39⟩ := foldO_some hz39
            have h : B_l_least_39 x_counts8 x_fulls9 x_wider40 x_wider_fulls41 x48 = some _ := hy39
            unfold B_l_least_39 at h
            show Ws _ _ _ [some v_levels, some v_marks_here, some v10, some v11, some (.int x26), some (.ref p_wider31), some (.ref p_wider_fulls34), some (.int x48), o43] _
            obtain ⟨t50, et50, h⟩ := bd_some h
            obtain ⟨t51, et51, h⟩ := bd_some h
            obtain ⟨t52, et52, h⟩ := bd_some h
            refine ws_set (n := 8) (W := rInt.v) w49 ((ev_mulO et52 (ev_ixL et50 (Ev.vw (ev_var (n := 3) (W := (rList rInt).v) rfl ((rList rInt).mono (s32.trans (s35.trans (s38.trans s49))) r29))) (ev_mul ev_int (ev_var (n := 7) (W := rInt.v) rfl rfl) (.inl ⟨by decide, by decide⟩))) (ev_ixL et51 (Ev.vw (ev_var (n := 3) (W := (rList rInt).v) rfl ((rList rInt).mono (s32.trans (s35.trans (s38.trans s49))) r29))) (ev_add (ev_mul ev_int (ev_var (n := 7) (W := rInt.v) rfl rfl) (.inl ⟨by decide, by decide⟩)) ev_int)))) nd (fun v53 F54 H54 s54 w54 r53 => ?_)
            show Ws _ _ _ [some v_levels, some v_marks_here, some v10, some v11, some (.int x26), some (.ref p_wider31), some (.ref p_wider_fulls34), some (.int x48), some v53] _
            obtain ⟨x_wider_fulls55, ex_wider_fulls55, h⟩ := bd_some h
            refine ws_app (n := 1) (m := 6) (R := rInt) (Os1 := ((p_wider31, (oList rInt) x_wider40) :: (p_wider_fulls34, (oList rInt) x_wider_fulls41) :: Os0)) w54 rfl (ev_var (n := 8) (W := rInt.v) rfl r53) rfl ex_wider_fulls55 (fun F56 H56 s56 w56 => ?_)
            refine ws_if w56 (et_cmp cp_eq (ev_var (n := 8) (W := rInt.v) rfl r53) ev_int) (fun hb57 F58 H58 s58 w58 => ?_) (fun hb57 F58 H58 s58 w58 => ?_)
            · skip
              have h := (if_some h).1 hb57
              obtain ⟨x_wider59, ex_wider59, h⟩ := bd_some h
              refine ws_app (n := 0) (m := 5) (R := rInt) (Os1 := ((p_wider31, (oList rInt) x_wider40) :: (p_wider_fulls34, (oList rInt) x_wider_fulls55) :: Os0)) w58 rfl ev_int rfl ex_wider59 (fun F60 H60 s60 w60 => ?_)
              refine ws_nil ?_
              refine ws_nil ?_
              obtain rfl := Option.some.inj h
              exact ⟨x_wider59, x_wider_fulls55, some (.int x48), some v53, F60, rfl, (s49.trans (s54.trans (s56.trans (s58.trans s60)))), w60, hz39⟩
            · skip
              have h := (if_some h).2 hb57
              obtain ⟨t61, et61, h⟩ := bd_some h
              obtain ⟨t62, et62, h⟩ := bd_some h
              obtain ⟨x_wider63, ex_wider63, h⟩ := bd_some h
              refine ws_app (n := 0) (m := 5) (R := rInt) (Os1 := ((p_wider31, (oList rInt) x_wider40) :: (p_wider_fulls34, (oList rInt) x_wider_fulls55) :: Os0)) w58 rfl (ev_add (ev_ixL et61 (Ev.vw (ev_var (n := 2) (W := (rList rInt).v) rfl ((rList rInt).mono (s32.trans (s35.trans (s38.trans (s49.trans (s54.trans (s56.trans s58)))))) r28))) (ev_mul ev_int (ev_var (n := 7) (W := rInt.v) rfl rfl) (.inl ⟨by decide, by decide⟩))) (ev_ixL et62 (Ev.vw (ev_var (n := 2) (W := (rList rInt).v) rfl ((rList rInt).mono (s32.trans (s35.trans (s38.trans (s49.trans (s54.trans (s56.trans s58)))))) r28))) (ev_add (ev_mul ev_int (ev_var (n := 7) (W := rInt.v) rfl rfl) (.inl ⟨by decide, by decide⟩)) ev_int))) rfl ex_wider63 (fun F64 H64 s64 w64 => ?_)
              refine ws_nil ?_
              refine ws_nil ?_
              obtain rfl := Option.some.inj h
              exact ⟨x_wider63, x_wider_fulls55, some (.int x48), some v53, F64, rfl, (s49.trans (s54.trans (s56.trans (s58.trans s64)))), w64, hz39⟩
          · skip
            rintro _ H65 ⟨x_wider40, x_wider_fulls41, o42, o43, F65, rfl, s65, w65, hz39⟩
            have hz := foldO_nil hz39
            exact ⟨x_wider40, x_wider_fulls41, o42, o43, F65, rfl, (s38.trans s65), w65, hz.symm⟩
        · skip
          rintro _ H66 ⟨x_wider44, x_wider_fulls45, o46, o47, F66, rfl, s66, w66, rfl⟩
          have h := hk39
          have h : K_l_least_39 x_wider44 x_wider_fulls45 = some _ := h
          unfold K_l_least_39 at h
          refine ws_set (n := 2) (W := (rList rInt).v) w66 ((EvN.fz (evn_listL (ev_var (n := 5) (W := vOf (oList rInt)) rfl (vOf.own (i := 0) rfl)) B.list))) nd (fun v67 F68 H68 s68 w68 r67 => ?_)
          show Ws _ _ _ [some v_levels, some v_marks_here, some v67, some v11, some (.int x26), some (.ref p_wider31), some (.ref p_wider_fulls34), o46, o47] _
          refine ws_set (n := 3) (W := (rList rInt).v) w68 ((EvN.fz (evn_listL (ev_var (n := 6) (W := vOf (oList rInt)) rfl (vOf.own (i := 1) rfl)) B.list))) nd (fun v69 F70 H70 s70 w70 r69 => ?_)
          show Ws _ _ _ [some v_levels, some v_marks_here, some v67, some v69, some (.int x26), some (.ref p_wider31), some (.ref p_wider_fulls34), o46, o47] _
          refine ws_nil ?_
          obtain rfl := Option.some.inj h
          have w71 := w70.drop (i := 0)
          have w72 := w71.drop (i := 0)
          exact ⟨x_wider44, x_wider_fulls45, v67, v69, some (.int x26), some (.ref p_wider31), some (.ref p_wider_fulls34), o46, o47, F70, rfl, (s27.trans (s32.trans (s35.trans (s66.trans (s68.trans s70))))), w72, ((rList rInt).mono s70 r67), r69, hz7⟩
      · skip
        rintro _ H73 ⟨x_counts8, x_fulls9, v10, v11, o12, o13, o14, o15, o16, F73, rfl, s73, w73, r74, r75, hz7⟩
        have hz := foldO_nil hz7
        exact ⟨x_counts8, x_fulls9, v10, v11, o12, o13, o14, o15, o16, F73, rfl, (s6.trans s73), w73, r74, r75, hz.symm⟩
    · skip
      rintro _ H76 ⟨x_counts17, x_fulls18, v19, v20, o21, o22, o23, o24, o25, F76, rfl, s76, w76, r77, r78, rfl⟩
      have h := hk7
      have h : K_l_least_7 x_counts17 x_fulls18 = some _ := h
      unfold K_l_least_7 at h
      obtain ⟨t79, et79, h⟩ := bd_some h
      obtain rfl := Option.some.inj h
      refine ws_ret (W := rInt.v) w76 (ev_ixL et79 (Ev.vw (ev_var (n := 2) (W := (rList rInt).v) rfl r77)) ev_int) (fun vz Fz Hz sz wz rz => ?_)
      exact kQ _ _ _ ((s2.trans (s4.trans s76)).trans sz) wz rz
abbrev s_l_covers : Stmt := topS 14
theorem sc_l_covers : FnScope ["_law_told", "_law_levels", "_law_marks_here", "_law_whole_here", "_law_behind", "_law_block", "_law_number", "_law_start", "_law_size", "_law_outer"] ["_law_told", "_law_levels", "_law_marks_here"] (defScope s_l_covers) := ⟨rfl, rfl, rfl, by decide +kernel, rfl, by decide +kernel, by decide +kernel⟩
def sp_l_covers (K : PySem.W.Frag) : Sp := fun vs H Q _ => ∃ (F0 : Hp) (Os0 : Owns) (x_told : (List (Int × Int))) (x_levels : Int) (x_marks_here : (List Int)) (v_told : V) (v_levels : V) (v_marks_here : V) (res : Bool), vs = [v_told, v_levels, v_marks_here] ∧ Wf F0 (Os0) H ∧ (rList (rT2 rInt rInt)).r F0 v_told x_told ∧ rInt.r F0 v_levels x_levels ∧ (rList rInt).r F0 v_marks_here x_marks_here ∧ M_l_covers x_told x_levels x_marks_here = some res ∧ ∀ v F' H', Same F0 F' → Wf F' (Os0) H' → rBool.r F' v res → Q v H'
theorem ok_l_covers {f : Addr} {fd : FuncData} {f_l_least : Addr} {d_l_least : FuncData} (T : FT K mg "_law_covers" s_l_covers ["_law_told", "_law_levels", "_law_marks_here"] f fd) (B : Blt mg) (T_l_least : FT K mg "_law_least" s_l_least ["_law_levels", "_law_marks_here"] f_l_least d_l_least) (G_l_least : FnOk P w K mg base CX0 1 f_l_least d_l_least ["_law_levels", "_law_marks_here"] (sp_l_least K)) : FnOk P w K mg base CX0 2 f fd ["_law_told", "_law_levels", "_law_marks_here"] (sp_l_covers K) := by
  refine T.fn.ok sc_l_covers (fun vs H Q E h => ?_) (fun cdv A outer s H vs Q E hr h => ?_)
  · obtain ⟨_, _, _, _, _, _, _, _, _, rfl, _⟩ := h
    rfl
  · obtain ⟨F0, Os0, x_told, x_levels, x_marks_here, v_told, v_levels, v_marks_here, res, rfl, w0, r_told, r_levels, r_marks_here, h, kQ⟩ := h
    have nd := sc_l_covers.nd
    refine ⟨_, pss_w, ?_⟩
    unfold M_l_covers at h
    show Ws _ _ _ [some v_told, some v_levels, some v_marks_here, none, none, none, none, none, none, none] _
    refine ws_if w0 (et_not (et_val (ev_isi (t := "list") (u := "list") (k := true) (by decide +kernel) ty_list (Ev.vw (ev_var (n := 0) (W := (rList (rT2 rInt rInt)).v) rfl r_told)) B.isinstance B.list (by decide +kernel)))) (fun hb1 F2 H2 s2 w2 => ?_) (fun hb1 F2 H2 s2 w2 => ?_)
    · skip
      have h := (if_some h).1 hb1
      obtain rfl := Option.some.inj h
      refine ws_ret (W := rBool.v) w2 ev_bool (fun vz Fz Hz sz wz rz => ?_)
      exact kQ _ _ _ (s2.trans sz) wz rz
    · skip
      have h := (if_some h).2 hb1
      refine ws_nil ?_
      obtain ⟨x_whole_here3, ex_whole_here3, h⟩ := lt_some h
      refine ws_set (n := 3) (W := rInt.v) w2 (Ev.eq (ev_len (Ev.vw (ev_var (n := 2) (W := (rList rInt).v) rfl ((rList rInt).mono s2 r_marks_here))) B.len) ex_whole_here3) nd (fun v4 F5 H5 s5 w5 r4 => ?_)
      show Ws _ _ _ [some v_told, some v_levels, some v_marks_here, some v4, none, none, none, none, none, none] _
      refine ws_set (n := 4) (W := rInt.v) w5 (ev_int) nd (fun v6 F7 H7 s7 w7 r6 => ?_)
      show Ws _ _ _ [some v_told, some v_levels, some v_marks_here, some v4, some v6, none, none, none, none, none] _
      obtain ⟨z9, hz9, hk9⟩ := bd_some h
      refine ws_j (fun (sg : L2.St) (Hm : Hp) => ∃ (x_behind17 : Int) (v18 : V) (o19 : Option V) (o20 : Option V) (o21 : Option V) (o22 : Option V) (o23 : Option V) (Fm : Hp), sg = [some v_told, some v_levels, some v_marks_here, some v4, some v18, o19, o20, o21, o22, o23] ∧ Same F7 Fm ∧ Wf Fm (Os0) Hm ∧ rInt.r Fm v18 x_behind17 ∧ .nx x_behind17 = z9) (w1_for (n := 5) (R := (rT2 rInt rInt)) w7 (ev_var (n := 0) (W := (rList (rT2 rInt rInt)).v) rfl ((rList (rT2 rInt rInt)).mono (s2.trans (s5.trans s7)) r_told)) nd (fun F8 H8 s8 w8 => ?_) PassesOwn.never) ?_
      · skip
        refine ⟨(fun (rr : List (Int × Int)) (sg : L2.St) (Hm : Hp) => ∃ (x_behind10 : Int) (v11 : V) (o12 : Option V) (o13 : Option V) (o14 : Option V) (o15 : Option V) (o16 : Option V) (Fm : Hp), sg = [some v_told, some v_levels, some v_marks_here, some v4, some v11, o12, o13, o14, o15, o16] ∧ Same F8 Fm ∧ Wf Fm (Os0) Hm ∧ rInt.r Fm v11 x_behind10 ∧ foldF (fun s x => B_l_covers_9 x_marks_here x_whole_here3 s x) x_behind10 rr = some z9), ⟨0, v6, none, none, none, none, none, F8, rfl, (Same.refl _), w8, r6, hz9⟩, ?_, ?_, ?_⟩
        · rintro _ _ _ ⟨_, _, _, _, _, _, _, _, _, sk, wk, _⟩
          exact sk.trans wk.sub
        · skip
          rintro x24 rr _ H25 v24 ⟨x_behind10, v11, o12, o13, o14, o15, o16, F25, rfl, s25, w25, r26, hz9⟩ rx24
          obtain ⟨y9, hy9, hz9⟩ := foldF_some hz9
          have h : B_l_covers_9 x_marks_here x_whole_here3 x_behind10 x24 = some _ := hy9
          unfold B_l_covers_9 at h
          show Ws _ _ _ [some v_told, some v_levels, some v_marks_here, some v4, some v11, some v24, o13, o14, o15, o16] _
          refine ws_if w25 (et_w (ew_or (et_not (et_val (ev_isi (t := "tuple") (u := "tuple") (k := true) (by decide +kernel) ty_t2 (ev_var (n := 5) (W := (rT2 rInt rInt).v) rfl ((rT2 rInt rInt).mono s25 rx24)) B.isinstance B.tuple (by decide +kernel)))) (ew_or1 (et_cmp cp_ne (ev_lenT2 (ev_var (n := 5) (W := (rT2 rInt rInt).v) rfl ((rT2 rInt rInt).mono s25 rx24)) B.len) ev_int)))) (fun hb27 F28 H28 s28 w28 => ?_) (fun hb27 F28 H28 s28 w28 => ?_)
          · skip
            have h := (if_some h).1 hb27
            obtain rfl := Option.some.inj h
            obtain rfl := Option.some.inj hz9
            have h := flk_ret hk9
            obtain rfl := Option.some.inj h
            refine ws_ret (W := rBool.v) w28 ev_bool (fun vz Fz Hz sz wz rz => ?_)
            exact kQ _ _ _ ((s2.trans (s5.trans (s7.trans (s8.trans (s25.trans s28))))).trans sz) wz rz
          · skip
            have h := (if_some h).2 hb27
            refine ws_nil ?_
            obtain ⟨xs29, exs29, h⟩ := lt_some h
            obtain ⟨z31, hz31, hk31⟩ := bd_some h
            refine ws_j (fun (sg : L2.St) (Hm : Hp) => ∃ (o33 : Option V) (Fm : Hp), sg = [some v_told, some v_levels, some v_marks_here, some v4, some v11, some v24, o33, o14, o15, o16] ∧ Same F28 Fm ∧ Wf Fm (Os0) Hm ∧ .nx () = z31) (w1_forV (n := 6) (R := rInt) w28 (Ev.eq (ev_t2tup (ev_var (n := 5) (W := (rT2 rInt rInt).v) rfl ((rT2 rInt rInt).mono (s25.trans s28) rx24))) exs29) nd (fun F30 H30 s30 w30 => ?_) PassesOwn.never) ?_
            · skip
              refine ⟨(fun (rr : List Int) (sg : L2.St) (Hm : Hp) => ∃ (o32 : Option V) (Fm : Hp), sg = [some v_told, some v_levels, some v_marks_here, some v4, some v11, some v24, o32, o14, o15, o16] ∧ Same F30 Fm ∧ Wf Fm (Os0) Hm ∧ foldF (fun s x => B_l_covers_31  x) () rr = some z31), ⟨o13, F30, rfl, (Same.refl _), w30, hz31⟩, ?_, ?_, ?_⟩
              · rintro _ _ _ ⟨_, _, _, sk, wk, _⟩
                exact sk.trans wk.sub
              · skip
                rintro x34 rr _ H35 v34 ⟨o32, F35, rfl, s35, w35, hz31⟩ rx34
                obtain ⟨y31, hy31, hz31⟩ := foldF_some hz31
                have h : B_l_covers_31 x34 = some _ := hy31
                unfold B_l_covers_31 at h
                show Ws _ _ _ [some v_told, some v_levels, some v_marks_here, some v4, some v11, some v24, some v34, o14, o15, o16] _
                refine ws_if w35 (et_w (ew_or (et_not (et_val (ev_isi (t := "int") (u := "int") (k := true) (by decide +kernel) ty_int (ev_var (n := 6) (W := rInt.v) rfl rx34) B.isinstance B.int (by decide +kernel)))) (ew_or1 (et_val (ev_isi (t := "int") (u := "bool") (k := false) (by decide +kernel) ty_int (ev_var (n := 6) (W := rInt.v) rfl rx34) B.isinstance B.bool (by decide +kernel)))))) (fun hb36 F37 H37 s37 w37 => ?_) (fun hb36 F37 H37 s37 w37 => ?_)
                · skip
                  have h := (if_some h).1 hb36
                  obtain rfl := Option.some.inj h
                  obtain rfl := Option.some.inj hz31
                  have h := flk_ret hk31
                  obtain rfl := Option.some.inj h
                  obtain rfl := Option.some.inj hz9
                  have h := flk_ret hk9
                  obtain rfl := Option.some.inj h
                  refine ws_ret (W := rBool.v) w37 ev_bool (fun vz Fz Hz sz wz rz => ?_)
                  exact kQ _ _ _ ((s2.trans (s5.trans (s7.trans (s8.trans (s25.trans (s28.trans (s30.trans (s35.trans s37)))))))).trans sz) wz rz
                · skip
                  have h := (if_some h).2 hb36
                  refine ws_nil ?_
                  refine ws_nil ?_
                  obtain rfl := Option.some.inj h
                  exact ⟨some v34, F37, rfl, (s35.trans s37), w37, hz31⟩
              · skip
                rintro _ H38 ⟨o32, F38, rfl, s38, w38, hz31⟩
                have hz := foldF_nil hz31
                exact ⟨o32, F38, rfl, (s30.trans s38), w38, hz.symm⟩
            · skip
              rintro _ H39 ⟨o33, F39, rfl, s39, w39, rfl⟩
              have h := flk_nx hk31
              have h : K_l_covers_31 x_marks_here x_whole_here3 x_behind10 x24  = some _ := h
              unfold K_l_covers_31 at h
              refine ws_set (n := 7) (W := rInt.v) w39 ((ev_t2a (ev_var (n := 5) (W := (rT2 rInt rInt).v) rfl ((rT2 rInt rInt).mono (s25.trans (s28.trans s39)) rx24)))) nd (fun v40 F41 H41 s41 w41 r40 => ?_)
              show Ws _ _ _ [some v_told, some v_levels, some v_marks_here, some v4, some v11, some v24, o33, some v40, o15, o16] _
              refine ws_set (n := 8) (W := rInt.v) w41 ((ev_t2b (ev_var (n := 5) (W := (rT2 rInt rInt).v) rfl ((rT2 rInt rInt).mono (s25.trans (s28.trans (s39.trans s41))) rx24)))) nd (fun v42 F43 H43 s43 w43 r42 => ?_)
              show Ws _ _ _ [some v_told, some v_levels, some v_marks_here, some v4, some v11, some v24, o33, some v40, some v42, o16] _
              refine ws_if w43 (et_w (ew_or (et_cmp cp_lt (ev_var (n := 7) (W := rInt.v) rfl r40) (ev_var (n := 4) (W := rInt.v) rfl r26)) (ew_or (et_cmp cp_lt (ev_var (n := 8) (W := rInt.v) rfl r42) ev_int) (ew_or1 (et_cmp cp_gt (ev_add (ev_var (n := 7) (W := rInt.v) rfl r40) (ev_var (n := 8) (W := rInt.v) rfl r42)) (ev_var (n := 3) (W := rInt.v) rfl r4)))))) (fun hb44 F45 H45 s45 w45 => ?_) (fun hb44 F45 H45 s45 w45 => ?_)
              · skip
                have h := (if_some h).1 hb44
                obtain rfl := Option.some.inj h
                obtain rfl := Option.some.inj hz9
                have h := flk_ret hk9
                obtain rfl := Option.some.inj h
                refine ws_ret (W := rBool.v) w45 ev_bool (fun vz Fz Hz sz wz rz => ?_)
                exact kQ _ _ _ ((s2.trans (s5.trans (s7.trans (s8.trans (s25.trans (s28.trans (s39.trans (s41.trans (s43.trans s45))))))))).trans sz) wz rz
              · skip
                have h := (if_some h).2 hb44
                refine ws_nil ?_
                obtain ⟨t46, et46, h⟩ := bd_some h
                obtain ⟨t48, et48, h⟩ := bd_some h
                refine ws_if w45 (et_w (ew_orG (et_cmp cp_ne (ev_modO et46 (ev_intI (ev_var (n := 3) (W := rInt.v) rfl r4) B.int) (ev_var (n := 8) (W := rInt.v) rfl r42)) ev_int) (fun hz => by have hz := (if_some et48).2 hz; obtain ⟨t47, et47, hz⟩ := bd_some hz; exact Ew.eq (ew_or1 (et_cmp cp_ne (ev_modO et47 (ev_intI (ev_var (n := 7) (W := rInt.v) rfl r40) B.int) (ev_var (n := 8) (W := rInt.v) rfl r42)) ev_int)) (Option.some.inj hz).symm) (fun hz => (Option.some.inj ((if_some et48).1 hz)).symm))) (fun hb49 F50 H50 s50 w50 => ?_) (fun hb49 F50 H50 s50 w50 => ?_)
                · skip
                  have h := (if_some h).1 hb49
                  obtain rfl := Option.some.inj h
                  obtain rfl := Option.some.inj hz9
                  have h := flk_ret hk9
                  obtain rfl := Option.some.inj h
                  refine ws_ret (W := rBool.v) w50 ev_bool (fun vz Fz Hz sz wz rz => ?_)
                  exact kQ _ _ _ ((s2.trans (s5.trans (s7.trans (s8.trans (s25.trans (s28.trans (s39.trans (s41.trans (s43.trans (s45.trans s50)))))))))).trans sz) wz rz
                · skip
                  have h := (if_some h).2 hb49
                  refine ws_nil ?_
                  refine ws_if w50 (et_w (ew_or (et_cmp cp_ne (ev_sum (Ev.vw (EvN.fz (evn_cut (Ev.vw (ev_var (n := 2) (W := (rList rInt).v) rfl ((rList rInt).mono (s2.trans (s5.trans (s7.trans (s8.trans (s25.trans (s28.trans (s39.trans (s41.trans (s43.trans (s45.trans s50)))))))))) r_marks_here))) (eo_some (ev_var (n := 4) (W := rInt.v) rfl r26)) (eo_some (ev_var (n := 7) (W := rInt.v) rfl r40))))) B.sum) ev_int) (ew_or1 (et_cmp cp_ne (ev_sum (Ev.vw (EvN.fz (evn_cut (Ev.vw (ev_var (n := 2) (W := (rList rInt).v) rfl ((rList rInt).mono (s2.trans (s5.trans (s7.trans (s8.trans (s25.trans (s28.trans (s39.trans (s41.trans (s43.trans (s45.trans s50)))))))))) r_marks_here))) (eo_some (ev_var (n := 7) (W := rInt.v) rfl r40)) (eo_some (ev_add (ev_var (n := 7) (W := rInt.v) rfl r40) (ev_var (n := 8) (W := rInt.v) rfl r42)))))) B.sum) (ev_var (n := 8) (W := rInt.v) rfl r42))))) (fun hb51 F52 H52 s52 w52 => ?_) (fun hb51 F52 H52 s52 w52 => ?_)
                  · skip
                    have h := (if_some h).1 hb51
                    obtain rfl := Option.some.inj h
                    obtain rfl := Option.some.inj hz9
                    have h := flk_ret hk9
                    obtain rfl := Option.some.inj h
                    refine ws_ret (W := rBool.v) w52 ev_bool (fun vz Fz Hz sz wz rz => ?_)
                    exact kQ _ _ _ ((s2.trans (s5.trans (s7.trans (s8.trans (s25.trans (s28.trans (s39.trans (s41.trans (s43.trans (s45.trans (s50.trans s52))))))))))).trans sz) wz rz
                  · skip
                    have h := (if_some h).2 hb51
                    refine ws_nil ?_
                    obtain ⟨t53, et53, h⟩ := bd_some h
                    obtain ⟨x_outer54, ex_outer54, h⟩ := lt_some h
                    refine ws_set (n := 9) (W := rInt.v) w52 (Ev.eq (ev_sub (ev_var (n := 7) (W := rInt.v) rfl r40) (ev_modO et53 (ev_intI (ev_var (n := 7) (W := rInt.v) rfl r40) B.int) (ev_mul ev_int (ev_var (n := 8) (W := rInt.v) rfl r42) (.inl ⟨by decide, by decide⟩)))) ex_outer54) nd (fun v55 F56 H56 s56 w56 r55 => ?_)
                    show Ws _ _ _ [some v_told, some v_levels, some v_marks_here, some v4, some v11, some v24, o33, some v40, some v42, some v55] _
                    refine ws_if w56 (et_w (ew_and (et_cmp cp_le (ev_mul ev_int (ev_var (n := 8) (W := rInt.v) rfl r42) (.inl ⟨by decide, by decide⟩)) (ev_var (n := 3) (W := rInt.v) rfl r4)) (ew_and1 (et_cmp cp_eq (ev_sum (Ev.vw (EvN.fz (evn_cut (Ev.vw (ev_var (n := 2) (W := (rList rInt).v) rfl ((rList rInt).mono (s2.trans (s5.trans (s7.trans (s8.trans (s25.trans (s28.trans (s39.trans (s41.trans (s43.trans (s45.trans (s50.trans (s52.trans s56)))))))))))) r_marks_here))) (eo_some (ev_var (n := 9) (W := rInt.v) rfl r55)) (eo_some (ev_add (ev_var (n := 9) (W := rInt.v) rfl r55) (ev_mul ev_int (ev_var (n := 8) (W := rInt.v) rfl r42) (.inl ⟨by decide, by decide⟩))))))) B.sum) (ev_mul ev_int (ev_var (n := 8) (W := rInt.v) rfl r42) (.inl ⟨by decide, by decide⟩)))))) (fun hb57 F58 H58 s58 w58 => ?_) (fun hb57 F58 H58 s58 w58 => ?_)
                    · skip
                      have h := (if_some h).1 hb57
                      obtain rfl := Option.some.inj h
                      obtain rfl := Option.some.inj hz9
                      have h := flk_ret hk9
                      obtain rfl := Option.some.inj h
                      refine ws_ret (W := rBool.v) w58 ev_bool (fun vz Fz Hz sz wz rz => ?_)
                      exact kQ _ _ _ ((s2.trans (s5.trans (s7.trans (s8.trans (s25.trans (s28.trans (s39.trans (s41.trans (s43.trans (s45.trans (s50.trans (s52.trans (s56.trans s58))))))))))))).trans sz) wz rz
                    · skip
                      have h := (if_some h).2 hb57
                      refine ws_nil ?_
                      obtain ⟨x_behind59, ex_behind59, h⟩ := lt_some h
                      refine ws_set (n := 4) (W := rInt.v) w58 (Ev.eq (ev_add (ev_var (n := 7) (W := rInt.v) rfl r40) (ev_var (n := 8) (W := rInt.v) rfl r42)) ex_behind59) nd (fun v60 F61 H61 s61 w61 r60 => ?_)
                      show Ws _ _ _ [some v_told, some v_levels, some v_marks_here, some v4, some v60, some v24, o33, some v40, some v42, some v55] _
                      refine ws_nil ?_
                      obtain rfl := Option.some.inj h
                      exact ⟨x_behind59, v60, some v24, o33, some v40, some v42, some v55, F61, rfl, (s25.trans (s28.trans (s39.trans (s41.trans (s43.trans (s45.trans (s50.trans (s52.trans (s56.trans (s58.trans s61)))))))))), w61, r60, hz9⟩
        · skip
          rintro _ H62 ⟨x_behind10, v11, o12, o13, o14, o15, o16, F62, rfl, s62, w62, r63, hz9⟩
          have hz := foldF_nil hz9
          exact ⟨x_behind10, v11, o12, o13, o14, o15, o16, F62, rfl, (s8.trans s62), w62, r63, hz.symm⟩
      · skip
        rintro _ H64 ⟨x_behind17, v18, o19, o20, o21, o22, o23, F64, rfl, s64, w64, r65, rfl⟩
        have h := flk_nx hk9
        have h : K_l_covers_9 x_told x_levels x_marks_here x_behind17 = some _ := h
        unfold K_l_covers_9 at h
        obtain ⟨t67, et67, h⟩ := bd_some h
        obtain rfl := Option.some.inj h
        refine ws_ret (W := rBool.v) w64 (ev_andG (ev_cmp cp_eq (ev_sum (Ev.vw (EvN.fz (evn_cut (Ev.vw (ev_var (n := 2) (W := (rList rInt).v) rfl ((rList rInt).mono (s2.trans (s5.trans (s7.trans s64))) r_marks_here))) (eo_some (ev_var (n := 4) (W := rInt.v) rfl r65)) eo_none))) B.sum) ev_int) (fun hz => by have hz := (if_some et67).1 hz; obtain ⟨t66, et66, hz⟩ := bd_some hz; exact Ev.eq (ev_one (ev_cmp cp_eq (ev_len (Ev.vw (ev_var (n := 0) (W := (rList (rT2 rInt rInt)).v) rfl ((rList (rT2 rInt rInt)).mono (s2.trans (s5.trans (s7.trans s64))) r_told))) B.len) (ev_call (U := rInt.v) (Os2 := (Os0)) G_l_least (hr.mono (by decide)) T_l_least.gm T_l_least.fn.kp T_l_least.bi pass0 (ea_cons (ev_var (n := 1) (W := rInt.v) rfl r_levels) (ea_cons (ev_var (n := 2) (W := (rList rInt).v) rfl ((rList rInt).mono (s2.trans (s5.trans (s7.trans s64))) r_marks_here)) ea_nil)) (fun F' Os' H' vs Q w hv q => by obtain ⟨u0, _, rfl, q0, u1, _, rfl, q1, rfl, rfl⟩ := hv; exact ⟨F', _, x_levels, x_marks_here, u0, u1, t66, rfl, w, q0, q1, et66, fun v F2 H2 s2 w r => by exact q v F2 H2 s2 w r⟩)))) (Option.some.inj hz).symm) (fun hz => (Option.some.inj ((if_some et67).2 hz)).symm)) (fun vz Fz Hz sz wz rz => ?_)
        exact kQ _ _ _ ((s2.trans (s5.trans (s7.trans s64))).trans sz) wz rz
abbrev s_l_change : Stmt := topS 15
theorem sc_l_change : FnScope ["_law_listed", "_law_marks_here", "_law_place", "_law_k"] ["_law_listed", "_law_marks_here", "_law_place"] (defScope s_l_change) := ⟨rfl, rfl, rfl, by decide +kernel, rfl, by decide +kernel, by decide +kernel⟩
def sp_l_change (K : PySem.W.Frag) : Sp := fun vs H Q _ => ∃ (F0 : Hp) (Os0 : Owns) (x_listed : (List Int)) (x_marks_here : (List Int)) (x_place : Int) (a_listed : Addr) (a_marks_here : Addr) (v_place : V) (res : (List Int)) (b_listed : (List Int)) (b_marks_here : (List Int)), vs = [.ref a_listed, .ref a_marks_here, v_place] ∧ Wf F0 ((a_listed, (oList rInt) x_listed) :: (a_marks_here, (oList rInt) x_marks_here) :: Os0) H ∧ rInt.r F0 v_place x_place ∧ M_l_change x_listed x_marks_here x_place = some (res, b_listed, b_marks_here) ∧ ∀ p F' H', Same F0 F' → Wf F' ((p, (oList rInt) res) :: (a_listed, (oList rInt) b_listed) :: (a_marks_here, (oList rInt) b_marks_here) :: Os0) H' → Q (.ref p) H'
theorem ok_l_change {f : Addr} {fd : FuncData} (T : FT K mg "_law_change" s_l_change ["_law_listed", "_law_marks_here", "_law_place"] f fd) (B : Blt mg) : FnOk P w K mg base CX0 1 f fd ["_law_listed", "_law_marks_here", "_law_place"] (sp_l_change K) := by
  refine T.fn.ok sc_l_change (fun vs H Q E h => ?_) (fun cdv A outer s H vs Q E hr h => ?_)
  · obtain ⟨_, _, _, _, _, _, _, _, _, _, _, rfl, _⟩ := h
    rfl
  · obtain ⟨F0, Os0, x_listed, x_marks_here, x_place, a_listed, a_marks_here, v_place, res, b_listed, b_marks_here, rfl, w0, r_place, h, kQ⟩ := h
    have nd := sc_l_change.nd
    refine ⟨_, pss_w, ?_⟩
    unfold M_l_change at h
    show Ws _ _ _ [some (.ref a_listed), some (.ref a_marks_here), some v_place, none] _
    obtain ⟨t1, et1, h⟩ := bd_some h
    obtain ⟨y3, hy3, hk3⟩ := bd_some h
    refine ws_j (fun (sg : L2.St) (Hm : Hp) => ∃ (x_listed4 : (List Int)) (Fm : Hp), sg = [some (.ref a_listed), some (.ref a_marks_here), some v_place, none] ∧ Same F0 Fm ∧ Wf Fm ((a_listed, (oList rInt) x_listed4) :: (a_marks_here, (oList rInt) x_marks_here) :: Os0) Hm ∧ x_listed4 = y3) (w1_if w0 (et_cmp cp_eq (ev_ixL et1 (ev_var (n := 1) (W := vOf (oList rInt)) rfl (vOf.own (i := 1) rfl)) (ev_var (n := 2) (W := rInt.v) rfl r_place)) ev_int) (fun hb2 F5 H5 s5 w5 => ?_) (fun hb2 F5 H5 s5 w5 => ?_)) ?_
    · skip
      have h := (if_some hy3).1 hb2
      obtain ⟨x_listed6, ex_listed6, h⟩ := bd_some h
      refine ws_app (n := 0) (m := 0) (R := rInt) (Os1 := ((a_listed, (oList rInt) x_listed) :: (a_marks_here, (oList rInt) x_marks_here) :: Os0)) w5 rfl (ev_var (n := 2) (W := rInt.v) rfl r_place) rfl ex_listed6 (fun F7 H7 s7 w7 => ?_)
      refine ws_nil ?_
      exact ⟨x_listed6, F7, rfl, (s5.trans s7), w7, Option.some.inj h⟩
    · skip
      have h := (if_some hy3).2 hb2
      refine ws_nil ?_
      exact ⟨x_listed, F5, rfl, s5, w5, Option.some.inj h⟩
    · skip
      rintro _ H8 ⟨x_listed4, F8, rfl, s8, w8, rfl⟩
      have h := hk3
      have h : K_l_change_3 x_marks_here x_place x_listed4 = some _ := h
      unfold K_l_change_3 at h
      obtain ⟨rg9, erg9, h⟩ := bd_some h
      obtain ⟨z11, hz11, hk11⟩ := bd_some h
      refine ws_j (fun (sg : L2.St) (Hm : Hp) => ∃ (x_listed14 : (List Int)) (o15 : Option V) (Fm : Hp), sg = [some (.ref a_listed), some (.ref a_marks_here), some v_place, o15] ∧ Same F8 Fm ∧ Wf Fm ((a_listed, (oList rInt) x_listed14) :: (a_marks_here, (oList rInt) x_marks_here) :: Os0) Hm ∧ x_listed14 = z11) (w1_forR1 (n := 3) erg9 w8 (ev_len (ev_var (n := 0) (W := vOf (oList rInt)) rfl (vOf.own (i := 0) rfl)) B.len) nd (fun F10 H10 s10 w10 => ?_) PassesOwn.never B.range) ?_
      · skip
        refine ⟨(fun (rr : List Int) (sg : L2.St) (Hm : Hp) => ∃ (x_listed12 : (List Int)) (o13 : Option V) (Fm : Hp), sg = [some (.ref a_listed), some (.ref a_marks_here), some v_place, o13] ∧ Same F10 Fm ∧ Wf Fm ((a_listed, (oList rInt) x_listed12) :: (a_marks_here, (oList rInt) x_marks_here) :: Os0) Hm ∧ foldO (fun s x => B_l_change_11 x_marks_here x_place s x) x_listed12 rr = some z11), ⟨x_listed4, none, F10, rfl, (Same.refl _), w10, hz11⟩, ?_, ?_⟩
        · skip
          rintro x16 rr _ H17 ⟨x_listed12, o13, F17, rfl, s17, w17, hz11⟩
          obtain ⟨y11, hy11, hz11⟩ := foldO_some hz11
          have h : B_l_change_11 x_marks_here x_place x_listed12 x16 = some _ := hy11
          unfold B_l_change_11 at h
          show Ws _ _ _ [some (.ref a_listed), some (.ref a_marks_here), some v_place, some (.int x16)] _
          obtain ⟨t18, et18, h⟩ := bd_some h
          refine ws_if w17 (et_w (ew_and (et_cmp cp_eq (ev_ixL et18 (ev_var (n := 1) (W := vOf (oList rInt)) rfl (vOf.own (i := 1) rfl)) (ev_var (n := 2) (W := rInt.v) rfl r_place)) ev_int) (ew_and1 (et_cmpV (cp_inD enc_I dr_I.v (dv_L dr_I) (u65 hr)) (ev_var (n := 2) (W := rInt.v) rfl r_place) (ev_var (n := 0) (W := vOf (oList rInt)) rfl (vOf.own (i := 0) rfl)) (by with_unfolding_all rfl))))) (fun hb19 F20 H20 s20 w20 => ?_) (fun hb19 F20 H20 s20 w20 => ?_)
          · skip
            have h := (if_some h).1 hb19
            obtain ⟨x_listed21, ex_listed21, h⟩ := bd_some h
            refine ws_rem (n := 0) (m := 0) (Os1 := ((a_listed, (oList rInt) x_listed12) :: (a_marks_here, (oList rInt) x_marks_here) :: Os0)) w20 rfl (ev_var (n := 2) (W := rInt.v) rfl r_place) rfl ex_listed21 (fun F22 H22 s22 w22 => ?_)
            refine ws_nil ?_
            refine ws_nil ?_
            obtain rfl := Option.some.inj h
            exact ⟨x_listed21, some (.int x16), F22, rfl, (s17.trans (s20.trans s22)), w22, hz11⟩
          · skip
            have h := (if_some h).2 hb19
            refine ws_nil ?_
            refine ws_nil ?_
            obtain rfl := Option.some.inj h
            exact ⟨x_listed12, some (.int x16), F20, rfl, (s17.trans s20), w20, hz11⟩
        · skip
          rintro _ H23 ⟨x_listed12, o13, F23, rfl, s23, w23, hz11⟩
          have hz := foldO_nil hz11
          exact ⟨x_listed12, o13, F23, rfl, (s10.trans s23), w23, hz.symm⟩
      · skip
        rintro _ H24 ⟨x_listed14, o15, F24, rfl, s24, w24, rfl⟩
        have h := hk11
        have h : K_l_change_11 x_marks_here x_place x_listed14 = some _ := h
        unfold K_l_change_11 at h
        obtain ⟨t25, et25, h⟩ := bd_some h
        obtain ⟨x_marks_here26, ex_marks_here26, h⟩ := bd_some h
        refine ws_stL (n := 1) (R := rInt) w24 (ev_sub ev_int (ev_ixL et25 (ev_var (n := 1) (W := vOf (oList rInt)) rfl (vOf.own (i := 1) rfl)) (ev_var (n := 2) (W := rInt.v) rfl r_place))) (ev_var (n := 1) (W := (rIs (.ref a_marks_here)).v) (x := ()) rfl rfl) (ev_var (n := 2) (W := rInt.v) rfl r_place) rfl ex_marks_here26 (fun F27 H27 s27 w27 => ?_)
        obtain ⟨rfl, rfl, rfl⟩ := pair_inj3 h
        refine ws_retN (O := (oList rInt) _) w27 (evn_listL (ev_var (n := 0) (W := vOf (oList rInt)) rfl (vOf.own (i := 0) rfl)) B.list) (fun pz Fz Hz sz wz => ?_)
        exact kQ _ _ _ ((s8.trans (s24.trans s27)).trans sz) wz
abbrev s_law : Stmt := topS 16
theorem sc_law : FnScope ["_law_script", "_law_box", "_law_levels", "_law_marks_here", "_law_handed_here", "_law_mine", "_law_told", "_law_k"] ["_law_script"] (defScope s_law) := ⟨rfl, rfl, rfl, by decide +kernel, rfl, by decide +kernel, by decide +kernel⟩
def sp_law (K : PySem.W.Frag) : Sp := fun vs H Q _ => ∃ (F0 : Hp) (Os0 : Owns) (x_script : (List Int)) (v_script : V) (res : Bool), vs = [v_script] ∧ Wf F0 (Os0) H ∧ (rScr K).r F0 v_script x_script ∧ M_law x_script = some res ∧ ∀ v F' H', Same F0 F' → Wf F' (Os0) H' → rBool.r F' v res → Q v H'
theorem ok_law {f : Addr} {fd : FuncData} {f_l_open : Addr} {d_l_open : FuncData} {f_l_take : Addr} {d_l_take : FuncData} {f_l_marks : Addr} {d_l_marks : FuncData} {f_l_whole : Addr} {d_l_whole : FuncData} {f_l_handed : Addr} {d_l_handed : FuncData} {f_least_cover : Addr} {d_least_cover : FuncData} {f_l_covers : Addr} {d_l_covers : FuncData} {f_l_change : Addr} {d_l_change : FuncData} (T : FT K mg "law" s_law ["_law_script"] f fd) (B : Blt mg) (T_l_open : FT K mg "_law_open" s_l_open ["_law_script", "_law_at"] f_l_open d_l_open) (G_l_open : FnOk P w K mg base CX0 1 f_l_open d_l_open ["_law_script", "_law_at"] (sp_l_open K)) (T_l_take : FT K mg "_law_take" s_l_take ["_law_box", "_law_size"] f_l_take d_l_take) (G_l_take : FnOk P w K mg base CX0 1 f_l_take d_l_take ["_law_box", "_law_size"] (sp_l_take K)) (T_l_marks : FT K mg "_law_marks" s_l_marks ["_law_box", "_law_whole_here"] f_l_marks d_l_marks) (G_l_marks : FnOk P w K mg base CX0 2 f_l_marks d_l_marks ["_law_box", "_law_whole_here"] (sp_l_marks K)) (T_l_whole : FT K mg "_law_whole" s_l_whole ["_law_levels"] f_l_whole d_l_whole) (G_l_whole : FnOk P w K mg base CX0 1 f_l_whole d_l_whole ["_law_levels"] (sp_l_whole K)) (T_l_handed : FT K mg "_law_handed" s_l_handed ["_law_box", "_law_marks_here"] f_l_handed d_l_handed) (G_l_handed : FnOk P w K mg base CX0 2 f_l_handed d_l_handed ["_law_box", "_law_marks_here"] (sp_l_handed K)) (T_least_cover : FT K mg "least_cover" s_least_cover ["depth", "places"] f_least_cover d_least_cover) (G_least_cover : FnOk P w K mg base CX0 3 f_least_cover d_least_cover ["depth", "places"] (sp_least_cover K)) (T_l_covers : FT K mg "_law_covers" s_l_covers ["_law_told", "_law_levels", "_law_marks_here"] f_l_covers d_l_covers) (G_l_covers : FnOk P w K mg base CX0 2 f_l_covers d_l_covers ["_law_told", "_law_levels", "_law_marks_here"] (sp_l_covers K)) (T_l_change : FT K mg "_law_change" s_l_change ["_law_listed", "_law_marks_here", "_law_place"] f_l_change d_l_change) (G_l_change : FnOk P w K mg base CX0 1 f_l_change d_l_change ["_law_listed", "_law_marks_here", "_law_place"] (sp_l_change K)) : FnOk P w K mg base CX0 4 f fd ["_law_script"] (sp_law K) := by
  refine T.fn.ok sc_law (fun vs H Q E h => ?_) (fun cdv A outer s H vs Q E hr h => ?_)
  · obtain ⟨_, _, _, _, _, rfl, _⟩ := h
    rfl
  · obtain ⟨F0, Os0, x_script, v_script, res, rfl, w0, r_script, h, kQ⟩ := h
    have nd := sc_law.nd
    refine ⟨_, pss_w, ?_⟩
    unfold M_law at h
    show Ws _ _ _ [some v_script, none, none, none, none, none, none, none] _
    obtain ⟨t1, et1, h⟩ := bd_some h
    refine ws_setN (n := 1) (O := (oList rInt) t1) w0 ((evn_call (O := (oList rInt) t1) (Os2 := (Os0)) G_l_open (hr.mono (by decide)) T_l_open.gm T_l_open.fn.kp T_l_open.bi pass0 (ea_cons (ev_var (n := 0) (W := (rScr K).v) rfl r_script) (ea_cons ev_int ea_nil)) (fun F' Os' H' vs Q w hv q => by obtain ⟨u0, _, rfl, q0, u1, _, rfl, q1, rfl, rfl⟩ := hv; exact ⟨F', _, x_script, 0, u0, u1, t1, rfl, w, q0, q1, et1, fun p F2 H2 s2 w => by exact q p F2 H2 s2 w⟩))) nd (fun p_box2 F3 H3 s3 w3 => ?_)
    show Ws _ _ _ [some v_script, some (.ref p_box2), none, none, none, none, none, none] _
    obtain ⟨t4, et4, h⟩ := bd_some h
    refine ws_set (n := 2) (W := rInt.v) w3 ((ev_call (U := rInt.v) (Os2 := ((p_box2, (oList rInt) t4.2) :: Os0)) G_l_take (hr.mono (by decide)) T_l_take.gm T_l_take.fn.kp T_l_take.bi pass0 (ea_cons (ev_var (n := 1) (W := (rIs (.ref p_box2)).v) (x := ()) rfl rfl) (ea_cons ev_int ea_nil)) (fun F' Os' H' vs Q w hv q => by obtain ⟨u0, _, rfl, q0, u1, _, rfl, q1, rfl, rfl⟩ := hv; cases q0; exact ⟨F', _, t1, 6, p_box2, u1, t4.1, t4.2, rfl, w, q1, et4, fun v F2 H2 s2 w r => by exact q v F2 H2 s2 w r⟩))) nd (fun v5 F6 H6 s6 w6 r5 => ?_)
    show Ws _ _ _ [some v_script, some (.ref p_box2), some v5, none, none, none, none, none] _
    obtain ⟨t7, et7, h⟩ := bd_some h
    obtain ⟨y9, hy9, hk9⟩ := bd_some h
    refine ws_j (fun (sg : L2.St) (Hm : Hp) => ∃ (x_box10 : (List Int)) (x_levels11 : Int) (v12 : V) (Fm : Hp), sg = [some v_script, some (.ref p_box2), some v12, none, none, none, none, none] ∧ Same F6 Fm ∧ Wf Fm ((p_box2, (oList rInt) x_box10) :: Os0) Hm ∧ rInt.r Fm v12 x_levels11 ∧ (x_box10, x_levels11) = y9) (w1_if w6 (et_cmp cp_eq (ev_call (U := rInt.v) (Os2 := ((p_box2, (oList rInt) t7.2) :: Os0)) G_l_take (hr.mono (by decide)) T_l_take.gm T_l_take.fn.kp T_l_take.bi pass0 (ea_cons (ev_var (n := 1) (W := (rIs (.ref p_box2)).v) (x := ()) rfl rfl) (ea_cons ev_int ea_nil)) (fun F' Os' H' vs Q w hv q => by obtain ⟨u0, _, rfl, q0, u1, _, rfl, q1, rfl, rfl⟩ := hv; cases q0; exact ⟨F', _, t4.2, 8, p_box2, u1, t7.1, t7.2, rfl, w, q1, et7, fun v F2 H2 s2 w r => by exact q v F2 H2 s2 w r⟩)) ev_int) (fun hb8 F13 H13 s13 w13 => ?_) (fun hb8 F13 H13 s13 w13 => ?_)) ?_
    · skip
      have h := (if_some hy9).1 hb8
      obtain ⟨x_levels14, ex_levels14, h⟩ := lt_some h
      refine ws_set (n := 2) (W := rInt.v) w13 (Ev.eq (ev_add (ev_var (n := 2) (W := rInt.v) rfl r5) ev_int) ex_levels14) nd (fun v15 F16 H16 s16 w16 r15 => ?_)
      show Ws _ _ _ [some v_script, some (.ref p_box2), some v15, none, none, none, none, none] _
      refine ws_nil ?_
      exact ⟨t7.2, x_levels14, v15, F16, rfl, (s13.trans s16), w16, r15, Option.some.inj h⟩
    · skip
      have h := (if_some hy9).2 hb8
      refine ws_nil ?_
      exact ⟨t7.2, t4.1, v5, F13, rfl, s13, w13, r5, Option.some.inj h⟩
    · skip
      rintro _ H17 ⟨x_box10, x_levels11, v12, F17, rfl, s17, w17, r18, rfl⟩
      have h := hk9
      have h : K_law_9 x_script x_box10 x_levels11 = some _ := h
      unfold K_law_9 at h
      obtain ⟨t19, et19, h⟩ := bd_some h
      obtain ⟨t20, et20, h⟩ := bd_some h
      refine ws_setN (n := 3) (O := (oList rInt) t20.1) w17 ((evn_call (O := (oList rInt) t20.1) (Os2 := ((p_box2, (oList rInt) t20.2) :: Os0)) G_l_marks (hr.mono (by decide)) T_l_marks.gm T_l_marks.fn.kp T_l_marks.bi pass0 (ea_cons (ev_var (n := 1) (W := (rIs (.ref p_box2)).v) (x := ()) rfl rfl) (ea_cons (ev_call (U := rInt.v) (Os2 := ((p_box2, (oList rInt) x_box10) :: Os0)) G_l_whole (hr.mono (by decide)) T_l_whole.gm T_l_whole.fn.kp T_l_whole.bi pass0 (ea_cons (ev_var (n := 2) (W := rInt.v) rfl r18) ea_nil) (fun F' Os' H' vs Q w hv q => by obtain ⟨u0, _, rfl, q0, rfl, rfl⟩ := hv; exact ⟨F', _, x_levels11, u0, t19, rfl, w, q0, et19, fun v F2 H2 s2 w r => by exact q v F2 H2 s2 w r⟩)) ea_nil)) (fun F' Os' H' vs Q w hv q => by obtain ⟨u0, _, rfl, q0, u1, _, rfl, q1, rfl, rfl⟩ := hv; cases q0; exact ⟨F', _, x_box10, t19, p_box2, u1, t20.1, t20.2, rfl, w, q1, et20, fun p F2 H2 s2 w => by exact q p F2 H2 s2 w⟩))) nd (fun p_marks_here21 F22 H22 s22 w22 => ?_)
      have w23 := w22.back (i := 1)
      show Ws _ _ _ [some v_script, some (.ref p_box2), some v12, some (.ref p_marks_here21), none, none, none, none] _
      obtain ⟨t24, et24, h⟩ := bd_some h
      obtain ⟨t26, et26, h⟩ := bd_some h
      refine ws_set (n := 4) (W := (rList rInt).v) w23 ((EvN.fz (evn_call (O := (oList rInt) t26.1) (Os2 := ((p_box2, (oList rInt) t20.2) :: (p_marks_here21, (oList rInt) t20.1) :: Os0)) G_l_handed (hr.mono (by decide)) T_l_handed.gm T_l_handed.fn.kp T_l_handed.bi pass0 (ea_new (evn_call (O := (oList rInt) t24) (Os2 := ((p_box2, (oList rInt) t20.2) :: (p_marks_here21, (oList rInt) t20.1) :: Os0)) G_l_open (hr.mono (by decide)) T_l_open.gm T_l_open.fn.kp T_l_open.bi pass0 (ea_cons (ev_var (n := 0) (W := (rScr K).v) rfl ((rScr K).mono (s3.trans (s6.trans (s17.trans s22))) r_script)) (ea_cons ev_int ea_nil)) (fun F' Os' H' vs Q w hv q => by obtain ⟨u0, _, rfl, q0, u1, _, rfl, q1, rfl, rfl⟩ := hv; exact ⟨F', _, x_script, 1, u0, u1, t24, rfl, w, q0, q1, et24, fun p F2 H2 s2 w => by exact q p F2 H2 s2 w⟩)) fun pn25 => (ea_cons (ev_var (n := 3) (W := (rIs (.ref p_marks_here21)).v) (x := ()) rfl rfl) ea_nil)) (fun F' Os' H' vs Q w hv q => by obtain ⟨p0, _, rfl, u1, _, rfl, q1, rfl, rfl⟩ := hv; obtain ⟨G, Ex, sG, wG, rG, bG⟩ := Wf.tmpM (Ms := [(p0, (oList rInt) t24)]) (Os := (p_box2, (oList rInt) t20.2) :: (p_marks_here21, (oList rInt) t20.1) :: Os0) w [p_marks_here21] (List.forall_mem_cons.mpr ⟨own_lst (Ms := [(p0, (oList rInt) t24)]) (Os := (p_box2, (oList rInt) t20.2) :: (p_marks_here21, (oList rInt) t20.1) :: Os0) w (i := 1) rfl, List.forall_mem_nil _⟩); cases q1; have rt1 : ((rList rInt)).r G (.ref p_marks_here21) t20.1 := (by obtain ⟨o, h1, h2⟩ := rG _ _ (List.mem_of_getElem? (i := 1) rfl) (by simp); exact ⟨_, o, rfl, h1, h2⟩); exact ⟨G, _, t24, t20.1, p0, (.ref p_marks_here21), t26.1, t26.2, rfl, wG, rt1, et26, fun p F2 H2 s2 w => by obtain ⟨F3, s3, w, nl3⟩ := bG F2 H2 (_ :: [_]) s2 (List.forall_mem_cons.mpr ⟨(nl_L nl_int _), List.forall_mem_cons.mpr ⟨(nl_L nl_int _), List.forall_mem_nil _⟩⟩) w; have w := w.tail2; exact q p F3 H2 s3 w⟩)))) nd (fun v27 F28 H28 s28 w28 r27 => ?_)
      show Ws _ _ _ [some v_script, some (.ref p_box2), some v12, some (.ref p_marks_here21), some v27, none, none, none] _
      refine ws_setN (n := 5) (O := (oList rInt) t26.1) w28 ((evn_listL (Ev.vw (ev_var (n := 4) (W := (rList rInt).v) rfl r27)) B.list)) nd (fun p_mine29 F30 H30 s30 w30 => ?_)
      have w31 := w30.back (i := 2)
      show Ws _ _ _ [some v_script, some (.ref p_box2), some v12, some (.ref p_marks_here21), some v27, some (.ref p_mine29), none, none] _
      obtain ⟨t32, et32, h⟩ := bd_some h
      refine ws_setN (n := 6) (O := (oList (rT2 rInt rInt)) t32) w31 ((evn_call (O := (oList (rT2 rInt rInt)) t32) (Os2 := ((p_box2, (oList rInt) t20.2) :: (p_marks_here21, (oList rInt) t20.1) :: (p_mine29, (oList rInt) t26.1) :: Os0)) G_least_cover (hr.mono (by decide)) T_least_cover.gm T_least_cover.fn.kp T_least_cover.bi pass0 (ea_cons (ev_var (n := 2) (W := rInt.v) rfl r18) (ea_cons (ev_var (n := 5) (W := (rIs (.ref p_mine29)).v) (x := ()) rfl rfl) ea_nil)) (fun F' Os' H' vs Q w hv q => by obtain ⟨u0, _, rfl, q0, u1, _, rfl, q1, rfl, rfl⟩ := hv; obtain ⟨G, Ex, sG, wG, rG, bG⟩ := Wf.tmpM (Ms := []) (Os := (p_box2, (oList rInt) t20.2) :: (p_marks_here21, (oList rInt) t20.1) :: (p_mine29, (oList rInt) t26.1) :: Os0) w [p_mine29] (List.forall_mem_cons.mpr ⟨own_lst (Ms := []) (Os := (p_box2, (oList rInt) t20.2) :: (p_marks_here21, (oList rInt) t20.1) :: (p_mine29, (oList rInt) t26.1) :: Os0) w (i := 2) rfl, List.forall_mem_nil _⟩); cases q1; have rt1 : ((rList rInt)).r G (.ref p_mine29) t26.1 := (by obtain ⟨o, h1, h2⟩ := rG _ _ (List.mem_of_getElem? (i := 2) rfl) (by simp); exact ⟨_, o, rfl, h1, h2⟩); exact ⟨G, _, x_levels11, t26.1, u0, (.ref p_mine29), t32, rfl, wG, q0, rt1, et32, fun p F2 H2 s2 w => by obtain ⟨F3, s3, w, nl3⟩ := bG F2 H2 (_ :: []) s2 (List.forall_mem_cons.mpr ⟨(nl_L (nl_2 nl_int nl_int) _), List.forall_mem_nil _⟩) w; exact q p F3 H2 s3 w⟩))) nd (fun p_told33 F34 H34 s34 w34 => ?_)
      have w35 := w34.back (i := 3)
      show Ws _ _ _ [some v_script, some (.ref p_box2), some v12, some (.ref p_marks_here21), some v27, some (.ref p_mine29), some (.ref p_told33), none] _
      obtain ⟨t36, et36, h⟩ := bd_some h
      refine ws_if w35 (et_w (ew_or (et_not (et_val (ev_call (U := rBool.v) (Os2 := ((p_box2, (oList rInt) t20.2) :: (p_marks_here21, (oList rInt) t20.1) :: (p_mine29, (oList rInt) t26.1) :: (p_told33, (oList (rT2 rInt rInt)) t32) :: Os0)) G_l_covers (hr.mono (by decide)) T_l_covers.gm T_l_covers.fn.kp T_l_covers.bi pass0 (ea_cons (ev_var (n := 6) (W := (rIs (.ref p_told33)).v) (x := ()) rfl rfl) (ea_cons (ev_var (n := 2) (W := rInt.v) rfl r18) (ea_cons (ev_var (n := 3) (W := (rIs (.ref p_marks_here21)).v) (x := ()) rfl rfl) ea_nil))) (fun F' Os' H' vs Q w hv q => by obtain ⟨u0, _, rfl, q0, u1, _, rfl, q1, u2, _, rfl, q2, rfl, rfl⟩ := hv; obtain ⟨G, Ex, sG, wG, rG, bG⟩ := Wf.tmpM (Ms := []) (Os := (p_box2, (oList rInt) t20.2) :: (p_marks_here21, (oList rInt) t20.1) :: (p_mine29, (oList rInt) t26.1) :: (p_told33, (oList (rT2 rInt rInt)) t32) :: Os0) w [p_told33, p_marks_here21] (List.forall_mem_cons.mpr ⟨own_lst (Ms := []) (Os := (p_box2, (oList rInt) t20.2) :: (p_marks_here21, (oList rInt) t20.1) :: (p_mine29, (oList rInt) t26.1) :: (p_told33, (oList (rT2 rInt rInt)) t32) :: Os0) w (i := 3) rfl, List.forall_mem_cons.mpr ⟨own_lst (Ms := []) (Os := (p_box2, (oList rInt) t20.2) :: (p_marks_here21, (oList rInt) t20.1) :: (p_mine29, (oList rInt) t26.1) :: (p_told33, (oList (rT2 rInt rInt)) t32) :: Os0) w (i := 1) rfl, List.forall_mem_nil _⟩⟩); cases q0; have rt0 : ((rList (rT2 rInt rInt))).r G (.ref p_told33) t32 := (by obtain ⟨o, h1, h2⟩ := rG _ _ (List.mem_of_getElem? (i := 3) rfl) (by simp); exact ⟨_, o, rfl, h1, h2⟩); cases q2; have rt2 : ((rList rInt)).r G (.ref p_marks_here21) t20.1 := (by obtain ⟨o, h1, h2⟩ := rG _ _ (List.mem_of_getElem? (i := 1) rfl) (by simp); exact ⟨_, o, rfl, h1, h2⟩); exact ⟨G, _, t32, x_levels11, t20.1, (.ref p_told33), u1, (.ref p_marks_here21), t36, rfl, wG, rt0, q1, rt2, et36, fun v F2 H2 s2 w r => by obtain ⟨F3, s3, w, nl3⟩ := bG F2 H2 [] s2 (List.forall_mem_nil _) w; exact q v F3 H2 s3 w (nl_bool F2 F3 _ _ nl3 r)⟩)))) (ew_or1 (et_cmpV (cp_neD (enc_L enc_I) (dv_L dr_I) (dv_L dr_I) hr.units) (ev_var (n := 5) (W := vOf (oList rInt)) rfl (vOf.own (i := 2) rfl)) (Ev.vw (ev_var (n := 4) (W := (rList rInt).v) rfl ((rList rInt).mono (s30.trans s34) r27))))))) (fun hb37 F38 H38 s38 w38 => ?_) (fun hb37 F38 H38 s38 w38 => ?_)
      · skip
        have h := (if_some h).1 hb37
        obtain rfl := Option.some.inj h
        refine ws_ret (W := rBool.v) w38 ev_bool (fun vz Fz Hz sz wz rz => ?_)
        have wz := wz.drop (i := 0)
        have wz := wz.drop (i := 0)
        have wz := wz.drop (i := 0)
        have wz := wz.drop (i := 0)
        exact kQ _ _ _ ((s3.trans (s6.trans (s17.trans (s22.trans (s28.trans (s30.trans (s34.trans s38))))))).trans sz) wz rz
      · skip
        have h := (if_some h).2 hb37
        refine ws_nil ?_
        obtain ⟨x_told39, ex_told39, h⟩ := bd_some h
        refine ws_app (n := 3) (m := 6) (R := (rT2 rInt rInt)) (Os1 := ((p_box2, (oList rInt) t20.2) :: (p_marks_here21, (oList rInt) t20.1) :: (p_mine29, (oList rInt) t26.1) :: (p_told33, (oList (rT2 rInt rInt)) t32) :: Os0)) w38 rfl (ev_tup2 (ea_cons ev_int (ea_cons ev_int ea_nil))) rfl ex_told39 (fun F40 H40 s40 w40 => ?_)
        obtain ⟨x_told41, ex_told41, h⟩ := bd_some h
        refine ws_stL (n := 3) (R := (rT2 rInt rInt)) w40 (ev_tup2 (ea_cons (ev_len (ev_var (n := 3) (W := vOf (oList rInt)) rfl (vOf.own (i := 1) rfl)) B.len) (ea_cons ev_int ea_nil))) (ev_var (n := 6) (W := (rIs (.ref p_told33)).v) (x := ()) rfl rfl) ev_int rfl ex_told41 (fun F42 H42 s42 w42 => ?_)
        obtain ⟨t43, et43, h⟩ := bd_some h
        obtain ⟨t44, et44, h⟩ := bd_some h
        refine ws_if w42 (et_w (ew_or (et_not (et_val (ev_call (U := rBool.v) (Os2 := ((p_box2, (oList rInt) t20.2) :: (p_marks_here21, (oList rInt) t20.1) :: (p_mine29, (oList rInt) t26.1) :: (p_told33, (oList (rT2 rInt rInt)) x_told41) :: Os0)) G_l_covers (hr.mono (by decide)) T_l_covers.gm T_l_covers.fn.kp T_l_covers.bi pass0 (ea_cons (EvN.fz (evn_call (O := (oList (rT2 rInt rInt)) t43) (Os2 := ((p_box2, (oList rInt) t20.2) :: (p_marks_here21, (oList rInt) t20.1) :: (p_mine29, (oList rInt) t26.1) :: (p_told33, (oList (rT2 rInt rInt)) x_told41) :: Os0)) G_least_cover (hr.mono (by decide)) T_least_cover.gm T_least_cover.fn.kp T_least_cover.bi pass0 (ea_cons (ev_var (n := 2) (W := rInt.v) rfl r18) (ea_cons (ev_var (n := 5) (W := (rIs (.ref p_mine29)).v) (x := ()) rfl rfl) ea_nil)) (fun F' Os' H' vs Q w hv q => by obtain ⟨u0, _, rfl, q0, u1, _, rfl, q1, rfl, rfl⟩ := hv; obtain ⟨G, Ex, sG, wG, rG, bG⟩ := Wf.tmpM (Ms := []) (Os := (p_box2, (oList rInt) t20.2) :: (p_marks_here21, (oList rInt) t20.1) :: (p_mine29, (oList rInt) t26.1) :: (p_told33, (oList (rT2 rInt rInt)) x_told41) :: Os0) w [p_mine29] (List.forall_mem_cons.mpr ⟨own_lst (Ms := []) (Os := (p_box2, (oList rInt) t20.2) :: (p_marks_here21, (oList rInt) t20.1) :: (p_mine29, (oList rInt) t26.1) :: (p_told33, (oList (rT2 rInt rInt)) x_told41) :: Os0) w (i := 2) rfl, List.forall_mem_nil _⟩); cases q1; have rt1 : ((rList rInt)).r G (.ref p_mine29) t26.1 := (by obtain ⟨o, h1, h2⟩ := rG _ _ (List.mem_of_getElem? (i := 2) rfl) (by simp); exact ⟨_, o, rfl, h1, h2⟩); exact ⟨G, _, x_levels11, t26.1, u0, (.ref p_mine29), t43, rfl, wG, q0, rt1, et43, fun p F2 H2 s2 w => by obtain ⟨F3, s3, w, nl3⟩ := bG F2 H2 (_ :: []) s2 (List.forall_mem_cons.mpr ⟨(nl_L (nl_2 nl_int nl_int) _), List.forall_mem_nil _⟩) w; exact q p F3 H2 s3 w⟩))) (ea_cons (ev_var (n := 2) (W := rInt.v) rfl r18) (ea_cons (ev_var (n := 3) (W := (rIs (.ref p_marks_here21)).v) (x := ()) rfl rfl) ea_nil))) (fun F' Os' H' vs Q w hv q => by obtain ⟨u0, _, rfl, q0, u1, _, rfl, q1, u2, _, rfl, q2, rfl, rfl⟩ := hv; obtain ⟨G, Ex, sG, wG, rG, bG⟩ := Wf.tmpM (Ms := []) (Os := (p_box2, (oList rInt) t20.2) :: (p_marks_here21, (oList rInt) t20.1) :: (p_mine29, (oList rInt) t26.1) :: (p_told33, (oList (rT2 rInt rInt)) x_told41) :: Os0) w [p_marks_here21] (List.forall_mem_cons.mpr ⟨own_lst (Ms := []) (Os := (p_box2, (oList rInt) t20.2) :: (p_marks_here21, (oList rInt) t20.1) :: (p_mine29, (oList rInt) t26.1) :: (p_told33, (oList (rT2 rInt rInt)) x_told41) :: Os0) w (i := 1) rfl, List.forall_mem_nil _⟩); cases q2; have rt2 : ((rList rInt)).r G (.ref p_marks_here21) t20.1 := (by obtain ⟨o, h1, h2⟩ := rG _ _ (List.mem_of_getElem? (i := 1) rfl) (by simp); exact ⟨_, o, rfl, h1, h2⟩); exact ⟨G, _, t43, x_levels11, t20.1, u0, u1, (.ref p_marks_here21), t44, rfl, wG, ((rList (rT2 rInt rInt)).mono sG q0), q1, rt2, et44, fun v F2 H2 s2 w r => by obtain ⟨F3, s3, w, nl3⟩ := bG F2 H2 [] s2 (List.forall_mem_nil _) w; exact q v F3 H2 s3 w (nl_bool F2 F3 _ _ nl3 r)⟩)))) (ew_or1 (et_cmpV (cp_neD (enc_L enc_I) (dv_L dr_I) (dv_L dr_I) hr.units) (ev_var (n := 5) (W := vOf (oList rInt)) rfl (vOf.own (i := 2) rfl)) (Ev.vw (ev_var (n := 4) (W := (rList rInt).v) rfl ((rList rInt).mono (s30.trans (s34.trans (s38.trans (s40.trans s42)))) r27))))))) (fun hb45 F46 H46 s46 w46 => ?_) (fun hb45 F46 H46 s46 w46 => ?_)
        · skip
          have h := (if_some h).1 hb45
          obtain rfl := Option.some.inj h
          refine ws_ret (W := rBool.v) w46 ev_bool (fun vz Fz Hz sz wz rz => ?_)
          have wz := wz.drop (i := 0)
          have wz := wz.drop (i := 0)
          have wz := wz.drop (i := 0)
          have wz := wz.drop (i := 0)
          exact kQ _ _ _ ((s3.trans (s6.trans (s17.trans (s22.trans (s28.trans (s30.trans (s34.trans (s38.trans (s40.trans (s42.trans s46)))))))))).trans sz) wz rz
        · skip
          have h := (if_some h).2 hb45
          refine ws_nil ?_
          obtain ⟨t47, et47, h⟩ := bd_some h
          obtain ⟨t49, et49, h⟩ := bd_some h
          obtain ⟨t50, et50, h⟩ := bd_some h
          refine ws_set (n := 4) (W := (rList rInt).v) w46 ((EvN.fz (evn_call (O := (oList rInt) t50.1) (Os2 := ((p_box2, (oList rInt) t20.2) :: (p_marks_here21, (oList rInt) t50.2.2) :: (p_mine29, (oList rInt) t50.2.1) :: (p_told33, (oList (rT2 rInt rInt)) x_told41) :: Os0)) G_l_change (hr.mono (by decide)) T_l_change.gm T_l_change.fn.kp T_l_change.bi pass0 (ea_cons (ev_var (n := 5) (W := (rIs (.ref p_mine29)).v) (x := ()) rfl rfl) (ea_cons (ev_var (n := 3) (W := (rIs (.ref p_marks_here21)).v) (x := ()) rfl rfl) (ea_cons (ev_call (U := rInt.v) (Os2 := ((p_box2, (oList rInt) t20.2) :: (p_marks_here21, (oList rInt) t20.1) :: (p_mine29, (oList rInt) t26.1) :: (p_told33, (oList (rT2 rInt rInt)) x_told41) :: Os0)) G_l_take (hr.mono (by decide)) T_l_take.gm T_l_take.fn.kp T_l_take.bi pass0 (ea_new (evn_call (O := (oList rInt) t47) (Os2 := ((p_box2, (oList rInt) t20.2) :: (p_marks_here21, (oList rInt) t20.1) :: (p_mine29, (oList rInt) t26.1) :: (p_told33, (oList (rT2 rInt rInt)) x_told41) :: Os0)) G_l_open (hr.mono (by decide)) T_l_open.gm T_l_open.fn.kp T_l_open.bi pass0 (ea_cons (ev_var (n := 0) (W := (rScr K).v) rfl ((rScr K).mono (s3.trans (s6.trans (s17.trans (s22.trans (s28.trans (s30.trans (s34.trans (s38.trans (s40.trans (s42.trans s46)))))))))) r_script)) (ea_cons ev_int ea_nil)) (fun F' Os' H' vs Q w hv q => by obtain ⟨u0, _, rfl, q0, u1, _, rfl, q1, rfl, rfl⟩ := hv; exact ⟨F', _, x_script, 2, u0, u1, t47, rfl, w, q0, q1, et47, fun p F2 H2 s2 w => by exact q p F2 H2 s2 w⟩)) fun pn48 => (ea_cons (ev_len (ev_var (n := 3) (W := vOf (oList rInt)) rfl (vOf.own (i := 2) rfl)) B.len) ea_nil)) (fun F' Os' H' vs Q w hv q => by obtain ⟨p0, _, rfl, u1, _, rfl, q1, rfl, rfl⟩ := hv; exact ⟨F', _, t47, (t20.1.length : Int), p0, u1, t49.1, t49.2, rfl, w, q1, et49, fun v F2 H2 s2 w r => by have w := w.tail; exact q v F2 H2 s2 w r⟩)) ea_nil))) (fun F' Os' H' vs Q w hv q => by obtain ⟨u0, _, rfl, q0, u1, _, rfl, q1, u2, _, rfl, q2, rfl, rfl⟩ := hv; have w := w.pull (i := 1) rfl; have w := w.pull (i := 2) rfl; cases q0; cases q1; exact ⟨F', _, t26.1, t20.1, t49.1, p_mine29, p_marks_here21, u2, t50.1, t50.2.1, t50.2.2, rfl, w, q2, et50, fun p F2 H2 s2 w => by have w := w.back2 (i := 2); have w := w.back2 (i := 1); exact q p F2 H2 s2 w⟩)))) nd (fun v51 F52 H52 s52 w52 r51 => ?_)
          show Ws _ _ _ [some v_script, some (.ref p_box2), some v12, some (.ref p_marks_here21), some v51, some (.ref p_mine29), some (.ref p_told33), none] _
          obtain ⟨t53, et53, h⟩ := bd_some h
          obtain ⟨t54, et54, h⟩ := bd_some h
          refine ws_if w52 (et_w (ew_or (et_not (et_val (ev_call (U := rBool.v) (Os2 := ((p_box2, (oList rInt) t20.2) :: (p_marks_here21, (oList rInt) t50.2.2) :: (p_mine29, (oList rInt) t50.2.1) :: (p_told33, (oList (rT2 rInt rInt)) x_told41) :: Os0)) G_l_covers (hr.mono (by decide)) T_l_covers.gm T_l_covers.fn.kp T_l_covers.bi pass0 (ea_cons (EvN.fz (evn_call (O := (oList (rT2 rInt rInt)) t53) (Os2 := ((p_box2, (oList rInt) t20.2) :: (p_marks_here21, (oList rInt) t50.2.2) :: (p_mine29, (oList rInt) t50.2.1) :: (p_told33, (oList (rT2 rInt rInt)) x_told41) :: Os0)) G_least_cover (hr.mono (by decide)) T_least_cover.gm T_least_cover.fn.kp T_least_cover.bi pass0 (ea_cons (ev_var (n := 2) (W := rInt.v) rfl r18) (ea_cons (ev_var (n := 5) (W := (rIs (.ref p_mine29)).v) (x := ()) rfl rfl) ea_nil)) (fun F' Os' H' vs Q w hv q => by obtain ⟨u0, _, rfl, q0, u1, _, rfl, q1, rfl, rfl⟩ := hv; obtain ⟨G, Ex, sG, wG, rG, bG⟩ := Wf.tmpM (Ms := []) (Os := (p_box2, (oList rInt) t20.2) :: (p_marks_here21, (oList rInt) t50.2.2) :: (p_mine29, (oList rInt) t50.2.1) :: (p_told33, (oList (rT2 rInt rInt)) x_told41) :: Os0) w [p_mine29] (List.forall_mem_cons.mpr ⟨own_lst (Ms := []) (Os := (p_box2, (oList rInt) t20.2) :: (p_marks_here21, (oList rInt) t50.2.2) :: (p_mine29, (oList rInt) t50.2.1) :: (p_told33, (oList (rT2 rInt rInt)) x_told41) :: Os0) w (i := 2) rfl, List.forall_mem_nil _⟩); cases q1; have rt1 : ((rList rInt)).r G (.ref p_mine29) t50.2.1 := (by obtain ⟨o, h1, h2⟩ := rG _ _ (List.mem_of_getElem? (i := 2) rfl) (by simp); exact ⟨_, o, rfl, h1, h2⟩); exact ⟨G, _, x_levels11, t50.2.1, u0, (.ref p_mine29), t53, rfl, wG, q0, rt1, et53, fun p F2 H2 s2 w => by obtain ⟨F3, s3, w, nl3⟩ := bG F2 H2 (_ :: []) s2 (List.forall_mem_cons.mpr ⟨(nl_L (nl_2 nl_int nl_int) _), List.forall_mem_nil _⟩) w; exact q p F3 H2 s3 w⟩))) (ea_cons (ev_var (n := 2) (W := rInt.v) rfl r18) (ea_cons (ev_var (n := 3) (W := (rIs (.ref p_marks_here21)).v) (x := ()) rfl rfl) ea_nil))) (fun F' Os' H' vs Q w hv q => by obtain ⟨u0, _, rfl, q0, u1, _, rfl, q1, u2, _, rfl, q2, rfl, rfl⟩ := hv; obtain ⟨G, Ex, sG, wG, rG, bG⟩ := Wf.tmpM (Ms := []) (Os := (p_box2, (oList rInt) t20.2) :: (p_marks_here21, (oList rInt) t50.2.2) :: (p_mine29, (oList rInt) t50.2.1) :: (p_told33, (oList (rT2 rInt rInt)) x_told41) :: Os0) w [p_marks_here21] (List.forall_mem_cons.mpr ⟨own_lst (Ms := []) (Os := (p_box2, (oList rInt) t20.2) :: (p_marks_here21, (oList rInt) t50.2.2) :: (p_mine29, (oList rInt) t50.2.1) :: (p_told33, (oList (rT2 rInt rInt)) x_told41) :: Os0) w (i := 1) rfl, List.forall_mem_nil _⟩); cases q2; have rt2 : ((rList rInt)).r G (.ref p_marks_here21) t50.2.2 := (by obtain ⟨o, h1, h2⟩ := rG _ _ (List.mem_of_getElem? (i := 1) rfl) (by simp); exact ⟨_, o, rfl, h1, h2⟩); exact ⟨G, _, t53, x_levels11, t50.2.2, u0, u1, (.ref p_marks_here21), t54, rfl, wG, ((rList (rT2 rInt rInt)).mono sG q0), q1, rt2, et54, fun v F2 H2 s2 w r => by obtain ⟨F3, s3, w, nl3⟩ := bG F2 H2 [] s2 (List.forall_mem_nil _) w; exact q v F3 H2 s3 w (nl_bool F2 F3 _ _ nl3 r)⟩)))) (ew_or1 (et_cmpV (cp_neD (enc_L enc_I) (dv_L dr_I) (dv_L dr_I) hr.units) (ev_var (n := 5) (W := vOf (oList rInt)) rfl (vOf.own (i := 2) rfl)) (Ev.vw (ev_var (n := 4) (W := (rList rInt).v) rfl r51)))))) (fun hb55 F56 H56 s56 w56 => ?_) (fun hb55 F56 H56 s56 w56 => ?_)
          · skip
            have h := (if_some h).1 hb55
            obtain rfl := Option.some.inj h
            refine ws_ret (W := rBool.v) w56 ev_bool (fun vz Fz Hz sz wz rz => ?_)
            have wz := wz.drop (i := 0)
            have wz := wz.drop (i := 0)
            have wz := wz.drop (i := 0)
            have wz := wz.drop (i := 0)
            exact kQ _ _ _ ((s3.trans (s6.trans (s17.trans (s22.trans (s28.trans (s30.trans (s34.trans (s38.trans (s40.trans (s42.trans (s46.trans (s52.trans s56)))))))))))).trans sz) wz rz
          · skip
            have h := (if_some h).2 hb55
            refine ws_nil ?_
            refine ws_if w56 (et_cmp cp_eq (ev_var (n := 2) (W := rInt.v) rfl r18) ev_int) (fun hb57 F58 H58 s58 w58 => ?_) (fun hb57 F58 H58 s58 w58 => ?_)
            · skip
              have h := (if_some h).1 hb57
              obtain rfl := Option.some.inj h
              refine ws_ret (W := rBool.v) w58 ev_bool (fun vz Fz Hz sz wz rz => ?_)
              have wz := wz.drop (i := 0)
              have wz := wz.drop (i := 0)
              have wz := wz.drop (i := 0)
              have wz := wz.drop (i := 0)
              exact kQ _ _ _ ((s3.trans (s6.trans (s17.trans (s22.trans (s28.trans (s30.trans (s34.trans (s38.trans (s40.trans (s42.trans (s46.trans (s52.trans (s56.trans s58))))))))))))).trans sz) wz rz
            · skip
              have h := (if_some h).2 hb57
              refine ws_nil ?_
              obtain ⟨t59, et59, h⟩ := bd_some h
              obtain ⟨rg60, erg60, h⟩ := bd_some h
              obtain ⟨t62, et62, h⟩ := bd_some h
              obtain ⟨t63, et63, h⟩ := bd_some h
              obtain ⟨t64, et64, h⟩ := bd_some h
              obtain rfl := Option.some.inj h
              refine ws_ret (W := rBool.v) w58 (ev_call (U := rBool.v) (Os2 := ((p_box2, (oList rInt) t20.2) :: (p_marks_here21, (oList rInt) t50.2.2) :: (p_mine29, (oList rInt) t50.2.1) :: (p_told33, (oList (rT2 rInt rInt)) x_told41) :: Os0)) G_l_covers (hr.mono (by decide)) T_l_covers.gm T_l_covers.fn.kp T_l_covers.bi pass0 (ea_cons (EvN.fz (evn_call (O := (oList (rT2 rInt rInt)) t59) (Os2 := ((p_box2, (oList rInt) t20.2) :: (p_marks_here21, (oList rInt) t50.2.2) :: (p_mine29, (oList rInt) t50.2.1) :: (p_told33, (oList (rT2 rInt rInt)) x_told41) :: Os0)) G_least_cover (hr.mono (by decide)) T_least_cover.gm T_least_cover.fn.kp T_least_cover.bi pass0 (ea_cons (ev_add (ev_var (n := 2) (W := rInt.v) rfl r18) ev_int) (ea_cons (ev_var (n := 5) (W := (rIs (.ref p_mine29)).v) (x := ()) rfl rfl) ea_nil)) (fun F' Os' H' vs Q w hv q => by obtain ⟨u0, _, rfl, q0, u1, _, rfl, q1, rfl, rfl⟩ := hv; obtain ⟨G, Ex, sG, wG, rG, bG⟩ := Wf.tmpM (Ms := []) (Os := (p_box2, (oList rInt) t20.2) :: (p_marks_here21, (oList rInt) t50.2.2) :: (p_mine29, (oList rInt) t50.2.1) :: (p_told33, (oList (rT2 rInt rInt)) x_told41) :: Os0) w [p_mine29] (List.forall_mem_cons.mpr ⟨own_lst (Ms := []) (Os := (p_box2, (oList rInt) t20.2) :: (p_marks_here21, (oList rInt) t50.2.2) :: (p_mine29, (oList rInt) t50.2.1) :: (p_told33, (oList (rT2 rInt rInt)) x_told41) :: Os0) w (i := 2) rfl, List.forall_mem_nil _⟩); cases q1; have rt1 : ((rList rInt)).r G (.ref p_mine29) t50.2.1 := (by obtain ⟨o, h1, h2⟩ := rG _ _ (List.mem_of_getElem? (i := 2) rfl) (by simp); exact ⟨_, o, rfl, h1, h2⟩); exact ⟨G, _, x_levels11 + 1, t50.2.1, u0, (.ref p_mine29), t59, rfl, wG, q0, rt1, et59, fun p F2 H2 s2 w => by obtain ⟨F3, s3, w, nl3⟩ := bG F2 H2 (_ :: []) s2 (List.forall_mem_cons.mpr ⟨(nl_L (nl_2 nl_int nl_int) _), List.forall_mem_nil _⟩) w; exact q p F3 H2 s3 w⟩))) (ea_cons (ev_add (ev_var (n := 2) (W := rInt.v) rfl r18) ev_int) (ea_cons (EvN.fz (evn_catV et63 (ev_var (n := 3) (W := vOf (oList rInt)) rfl (vOf.own (i := 1) rfl)) (Ev.vw (EvN.fz (evn_lc0 (own := [("_law_k", 7)]) (S := rInt) (ei_rng1 erg60 (ev_len (ev_var (n := 3) (W := vOf (oList rInt)) rfl (vOf.own (i := 1) rfl)) B.len) B.range) _ et62 (tgb_1 (n := 7) nd) (fun q61 x61 z61 F61 t61 hz61 s61 hT61 _ _ _ _ _ => by obtain ⟨v61, rfl, r61⟩ := hT61; exact Ev.eq ev_int (Option.some.inj hz61).symm) nd (blkOk_by (N := ["_law_script", "_law_box", "_law_levels", "_law_marks_here", "_law_handed_here", "_law_mine", "_law_told", "_law_k"]) (sc := defScope s_law) (by decide +kernel))))))) ea_nil))) (fun F' Os' H' vs Q w hv q => by obtain ⟨u0, _, rfl, q0, u1, _, rfl, q1, u2, _, rfl, q2, rfl, rfl⟩ := hv; exact ⟨F', _, t59, x_levels11 + 1, t63, u0, u1, u2, t64, rfl, w, q0, q1, q2, et64, fun v F2 H2 s2 w r => by exact q v F2 H2 s2 w r⟩)) (fun vz Fz Hz sz wz rz => ?_)
              have wz := wz.drop (i := 0)
              have wz := wz.drop (i := 0)
              have wz := wz.drop (i := 0)
              have wz := wz.drop (i := 0)
              exact kQ _ _ _ ((s3.trans (s6.trans (s17.trans (s22.trans (s28.trans (s30.trans (s34.trans (s38.trans (s40.trans (s42.trans (s46.trans (s52.trans (s56.trans s58))))))))))))).trans sz) wz rz
end
end Z

namespace Z
open PySem PySem.Spec L2
theorem all_mk {l : PySem.W.OpenLaw} {w : World} {K : PySem.W.Frag} {h : Heap} {mg : Str → Option Value} {fa : Addr} (X : K.In h) (G : h.Ns mainGlobals mg) (hfa : mg "law" = some (.ref fa))
    {f0 : Addr} {od0 an0 : Option Addr} {sl0 : Array (Option Value)} {oc0 kV0 dc0 pm0 cd0 ct0 : Value}
    {f1 : Addr} {od1 an1 : Option Addr} {sl1 : Array (Option Value)} {oc1 kV1 dc1 pm1 cd1 ct1 : Value}
    {f2 : Addr} {od2 an2 : Option Addr} {sl2 : Array (Option Value)} {oc2 kV2 dc2 pm2 cd2 ct2 : Value}
    {f3 : Addr} {od3 an3 : Option Addr} {sl3 : Array (Option Value)} {oc3 kV3 dc3 pm3 cd3 ct3 : Value}
    {f4 : Addr} {od4 an4 : Option Addr} {sl4 : Array (Option Value)} {oc4 kV4 dc4 pm4 cd4 ct4 : Value}
    {f5 : Addr} {od5 an5 : Option Addr} {sl5 : Array (Option Value)} {oc5 kV5 dc5 pm5 cd5 ct5 : Value}
    {f6 : Addr} {od6 an6 : Option Addr} {sl6 : Array (Option Value)} {oc6 kV6 dc6 pm6 cd6 ct6 : Value}
    {f7 : Addr} {od7 an7 : Option Addr} {sl7 : Array (Option Value)} {oc7 kV7 dc7 pm7 cd7 ct7 : Value}
    {f8 : Addr} {od8 an8 : Option Addr} {sl8 : Array (Option Value)} {oc8 kV8 dc8 pm8 cd8 ct8 : Value}
    {f9 : Addr} {od9 an9 : Option Addr} {sl9 : Array (Option Value)} {oc9 kV9 dc9 pm9 cd9 ct9 : Value}
    {f10 : Addr} {od10 an10 : Option Addr} {sl10 : Array (Option Value)} {oc10 kV10 dc10 pm10 cd10 ct10 : Value}
    {f11 : Addr} {od11 an11 : Option Addr} {sl11 : Array (Option Value)} {oc11 kV11 dc11 pm11 cd11 ct11 : Value}
    {f12 : Addr} {od12 an12 : Option Addr} {sl12 : Array (Option Value)} {oc12 kV12 dc12 pm12 cd12 ct12 : Value}
    {f13 : Addr} {od13 an13 : Option Addr} {sl13 : Array (Option Value)} {oc13 kV13 dc13 pm13 cd13 ct13 : Value}
    (a0 : PySem.W.nsIn K mainGlobals "_law_open" = some (some (.ref f0))) (l0 : K.lookup f0 = some ⟨oc0, od0, .func (PySem.W.fnOf "_law_open" "_law_open" (defArgs (topS 8)) (defBody (topS 8)) (defScope (topS 8)) .none kV0 dc0 pm0 an0 cd0 ct0), sl0⟩) (c0 : PySem.W.codeIn K cd0 "_law_open" = true) (k0 : PySem.W.keepIn K (.ref f0) = true)
    (a1 : PySem.W.nsIn K mainGlobals "_law_take" = some (some (.ref f1))) (l1 : K.lookup f1 = some ⟨oc1, od1, .func (PySem.W.fnOf "_law_take" "_law_take" (defArgs (topS 9)) (defBody (topS 9)) (defScope (topS 9)) .none kV1 dc1 pm1 an1 cd1 ct1), sl1⟩) (c1 : PySem.W.codeIn K cd1 "_law_take" = true) (k1 : PySem.W.keepIn K (.ref f1) = true)
    (a2 : PySem.W.nsIn K mainGlobals "_law_whole" = some (some (.ref f2))) (l2 : K.lookup f2 = some ⟨oc2, od2, .func (PySem.W.fnOf "_law_whole" "_law_whole" (defArgs (topS 10)) (defBody (topS 10)) (defScope (topS 10)) .none kV2 dc2 pm2 an2 cd2 ct2), sl2⟩) (c2 : PySem.W.codeIn K cd2 "_law_whole" = true) (k2 : PySem.W.keepIn K (.ref f2) = true)
    (a3 : PySem.W.nsIn K mainGlobals "_law_marks" = some (some (.ref f3))) (l3 : K.lookup f3 = some ⟨oc3, od3, .func (PySem.W.fnOf "_law_marks" "_law_marks" (defArgs (topS 11)) (defBody (topS 11)) (defScope (topS 11)) .none kV3 dc3 pm3 an3 cd3 ct3), sl3⟩) (c3 : PySem.W.codeIn K cd3 "_law_marks" = true) (k3 : PySem.W.keepIn K (.ref f3) = true)
    (a4 : PySem.W.nsIn K mainGlobals "_law_handed" = some (some (.ref f4))) (l4 : K.lookup f4 = some ⟨oc4, od4, .func (PySem.W.fnOf "_law_handed" "_law_handed" (defArgs (topS 12)) (defBody (topS 12)) (defScope (topS 12)) .none kV4 dc4 pm4 an4 cd4 ct4), sl4⟩) (c4 : PySem.W.codeIn K cd4 "_law_handed" = true) (k4 : PySem.W.keepIn K (.ref f4) = true)
    (a5 : PySem.W.nsIn K mainGlobals "ascending" = some (some (.ref f5))) (l5 : K.lookup f5 = some ⟨oc5, od5, .func (PySem.W.fnOf "ascending" "ascending" (defArgs (topS 1)) (defBody (topS 1)) (defScope (topS 1)) .none kV5 dc5 pm5 an5 cd5 ct5), sl5⟩) (c5 : PySem.W.codeIn K cd5 "ascending" = true) (k5 : PySem.W.keepIn K (.ref f5) = true)
    (a6 : PySem.W.nsIn K mainGlobals "blocks_with" = some (some (.ref f6))) (l6 : K.lookup f6 = some ⟨oc6, od6, .func (PySem.W.fnOf "blocks_with" "blocks_with" (defArgs (topS 3)) (defBody (topS 3)) (defScope (topS 3)) .none kV6 dc6 pm6 an6 cd6 ct6), sl6⟩) (c6 : PySem.W.codeIn K cd6 "blocks_with" = true) (k6 : PySem.W.keepIn K (.ref f6) = true)
    (a7 : PySem.W.nsIn K mainGlobals "whole_block" = some (some (.ref f7))) (l7 : K.lookup f7 = some ⟨oc7, od7, .func (PySem.W.fnOf "whole_block" "whole_block" (defArgs (topS 4)) (defBody (topS 4)) (defScope (topS 4)) .none kV7 dc7 pm7 an7 cd7 ct7), sl7⟩) (c7 : PySem.W.codeIn K cd7 "whole_block" = true) (k7 : PySem.W.keepIn K (.ref f7) = true)
    (a8 : PySem.W.nsIn K mainGlobals "halves" = some (some (.ref f8))) (l8 : K.lookup f8 = some ⟨oc8, od8, .func (PySem.W.fnOf "halves" "halves" (defArgs (topS 5)) (defBody (topS 5)) (defScope (topS 5)) .none kV8 dc8 pm8 an8 cd8 ct8), sl8⟩) (c8 : PySem.W.codeIn K cd8 "halves" = true) (k8 : PySem.W.keepIn K (.ref f8) = true)
    (a9 : PySem.W.nsIn K mainGlobals "least_cover" = some (some (.ref f9))) (l9 : K.lookup f9 = some ⟨oc9, od9, .func (PySem.W.fnOf "least_cover" "least_cover" (defArgs (topS 6)) (defBody (topS 6)) (defScope (topS 6)) .none kV9 dc9 pm9 an9 cd9 ct9), sl9⟩) (c9 : PySem.W.codeIn K cd9 "least_cover" = true) (k9 : PySem.W.keepIn K (.ref f9) = true)
    (a10 : PySem.W.nsIn K mainGlobals "_law_least" = some (some (.ref f10))) (l10 : K.lookup f10 = some ⟨oc10, od10, .func (PySem.W.fnOf "_law_least" "_law_least" (defArgs (topS 13)) (defBody (topS 13)) (defScope (topS 13)) .none kV10 dc10 pm10 an10 cd10 ct10), sl10⟩) (c10 : PySem.W.codeIn K cd10 "_law_least" = true) (k10 : PySem.W.keepIn K (.ref f10) = true)
    (a11 : PySem.W.nsIn K mainGlobals "_law_covers" = some (some (.ref f11))) (l11 : K.lookup f11 = some ⟨oc11, od11, .func (PySem.W.fnOf "_law_covers" "_law_covers" (defArgs (topS 14)) (defBody (topS 14)) (defScope (topS 14)) .none kV11 dc11 pm11 an11 cd11 ct11), sl11⟩) (c11 : PySem.W.codeIn K cd11 "_law_covers" = true) (k11 : PySem.W.keepIn K (.ref f11) = true)
    (a12 : PySem.W.nsIn K mainGlobals "_law_change" = some (some (.ref f12))) (l12 : K.lookup f12 = some ⟨oc12, od12, .func (PySem.W.fnOf "_law_change" "_law_change" (defArgs (topS 15)) (defBody (topS 15)) (defScope (topS 15)) .none kV12 dc12 pm12 an12 cd12 ct12), sl12⟩) (c12 : PySem.W.codeIn K cd12 "_law_change" = true) (k12 : PySem.W.keepIn K (.ref f12) = true)
    (a13 : PySem.W.nsIn K mainGlobals "law" = some (some (.ref f13))) (l13 : K.lookup f13 = some ⟨oc13, od13, .func (PySem.W.fnOf "law" "law" (defArgs (topS 16)) (defBody (topS 16)) (defScope (topS 16)) .none kV13 dc13 pm13 an13 cd13 ct13), sl13⟩) (c13 : PySem.W.codeIn K cd13 "law" = true) (k13 : PySem.W.keepIn K (.ref f13) = true)
    (z_bool : PySem.W.nsIn K mainGlobals "bool" = some none)
    (z_int : PySem.W.nsIn K mainGlobals "int" = some none)
    (z_isinstance : PySem.W.nsIn K mainGlobals "isinstance" = some none)
    (z_len : PySem.W.nsIn K mainGlobals "len" = some none)
    (z_list : PySem.W.nsIn K mainGlobals "list" = some none)
    (z_range : PySem.W.nsIn K mainGlobals "range" = some none)
    (z_set : PySem.W.nsIn K mainGlobals "set" = some none)
    (z_sorted : PySem.W.nsIn K mainGlobals "sorted" = some none)
    (z_sum : PySem.W.nsIn K mainGlobals "sum" = some none)
    (z_tuple : PySem.W.nsIn K mainGlobals "tuple" = some none)
    : ∃ fd : FuncData, (∀ (s : Shared) (v : Value), BindsTo s fd ⟨[v], []⟩ [("_law_script", v)]) ∧ ∀ base : Heap, K.In base → base.Ns mainGlobals mg → FnOk l.prog w K mg base CX0 4 fa fd ["_law_script"] (sp_law K) := by
  have e := hfa.symm.trans (PySem.W.mg_of X G a13)
  cases e
  have B : Blt mg := ⟨PySem.W.mg_none_of X G z_bool, PySem.W.mg_none_of X G z_int, PySem.W.mg_none_of X G z_isinstance, PySem.W.mg_none_of X G z_len, PySem.W.mg_none_of X G z_list, PySem.W.mg_none_of X G z_range, PySem.W.mg_none_of X G z_set, PySem.W.mg_none_of X G z_sorted, PySem.W.mg_none_of X G z_sum, PySem.W.mg_none_of X G z_tuple⟩
  have T0 : FT K mg "_law_open" (topS 8) ["_law_script", "_law_at"] _ _ := ⟨fun_mk l0 c0 k0, (fun_mk (st := topS 8) l0 c0 k0).binds fun _ _ _ _ _ _ us hl => match us, hl with | [_, _], _ => rfl, PySem.W.mg_of X G a0⟩
  have T1 : FT K mg "_law_take" (topS 9) ["_law_box", "_law_size"] _ _ := ⟨fun_mk l1 c1 k1, (fun_mk (st := topS 9) l1 c1 k1).binds fun _ _ _ _ _ _ us hl => match us, hl with | [_, _], _ => rfl, PySem.W.mg_of X G a1⟩
  have T2 : FT K mg "_law_whole" (topS 10) ["_law_levels"] _ _ := ⟨fun_mk l2 c2 k2, (fun_mk (st := topS 10) l2 c2 k2).binds fun _ _ _ _ _ _ us hl => match us, hl with | [_], _ => rfl, PySem.W.mg_of X G a2⟩
  have T3 : FT K mg "_law_marks" (topS 11) ["_law_box", "_law_whole_here"] _ _ := ⟨fun_mk l3 c3 k3, (fun_mk (st := topS 11) l3 c3 k3).binds fun _ _ _ _ _ _ us hl => match us, hl with | [_, _], _ => rfl, PySem.W.mg_of X G a3⟩
  have T4 : FT K mg "_law_handed" (topS 12) ["_law_box", "_law_marks_here"] _ _ := ⟨fun_mk l4 c4 k4, (fun_mk (st := topS 12) l4 c4 k4).binds fun _ _ _ _ _ _ us hl => match us, hl with | [_, _], _ => rfl, PySem.W.mg_of X G a4⟩
  have T5 : FT K mg "ascending" (topS 1) ["numbers"] _ _ := ⟨fun_mk l5 c5 k5, (fun_mk (st := topS 1) l5 c5 k5).binds fun _ _ _ _ _ _ us hl => match us, hl with | [_], _ => rfl, PySem.W.mg_of X G a5⟩
  have T6 : FT K mg "blocks_with" (topS 3) ["depth", "place"] _ _ := ⟨fun_mk l6 c6 k6, (fun_mk (st := topS 3) l6 c6 k6).binds fun _ _ _ _ _ _ us hl => match us, hl with | [_, _], _ => rfl, PySem.W.mg_of X G a6⟩
  have T7 : FT K mg "whole_block" (topS 4) ["depth"] _ _ := ⟨fun_mk l7 c7 k7, (fun_mk (st := topS 4) l7 c7 k7).binds fun _ _ _ _ _ _ us hl => match us, hl with | [_], _ => rfl, PySem.W.mg_of X G a7⟩
  have T8 : FT K mg "halves" (topS 5) ["block"] _ _ := ⟨fun_mk l8 c8 k8, (fun_mk (st := topS 5) l8 c8 k8).binds fun _ _ _ _ _ _ us hl => match us, hl with | [_], _ => rfl, PySem.W.mg_of X G a8⟩
  have T9 : FT K mg "least_cover" (topS 6) ["depth", "places"] _ _ := ⟨fun_mk l9 c9 k9, (fun_mk (st := topS 6) l9 c9 k9).binds fun _ _ _ _ _ _ us hl => match us, hl with | [_, _], _ => rfl, PySem.W.mg_of X G a9⟩
  have T10 : FT K mg "_law_least" (topS 13) ["_law_levels", "_law_marks_here"] _ _ := ⟨fun_mk l10 c10 k10, (fun_mk (st := topS 13) l10 c10 k10).binds fun _ _ _ _ _ _ us hl => match us, hl with | [_, _], _ => rfl, PySem.W.mg_of X G a10⟩
  have T11 : FT K mg "_law_covers" (topS 14) ["_law_told", "_law_levels", "_law_marks_here"] _ _ := ⟨fun_mk l11 c11 k11, (fun_mk (st := topS 14) l11 c11 k11).binds fun _ _ _ _ _ _ us hl => match us, hl with | [_, _, _], _ => rfl, PySem.W.mg_of X G a11⟩
  have T12 : FT K mg "_law_change" (topS 15) ["_law_listed", "_law_marks_here", "_law_place"] _ _ := ⟨fun_mk l12 c12 k12, (fun_mk (st := topS 15) l12 c12 k12).binds fun _ _ _ _ _ _ us hl => match us, hl with | [_, _, _], _ => rfl, PySem.W.mg_of X G a12⟩
  have T13 : FT K mg "law" (topS 16) ["_law_script"] _ _ := ⟨fun_mk l13 c13 k13, (fun_mk (st := topS 16) l13 c13 k13).binds fun _ _ _ _ _ _ us hl => match us, hl with | [_], _ => rfl, PySem.W.mg_of X G a13⟩
  refine ⟨PySem.W.fnOf "law" "law" (defArgs (topS 16)) (defBody (topS 16)) (defScope (topS 16)) .none kV13 dc13 pm13 an13 cd13 ct13, fun s v => .of_eq rfl, fun base _ _ => ?_⟩
  have G_l_open : FnOk l.prog w K mg base CX0 1 _ _ ["_law_script", "_law_at"] (sp_l_open K) := ok_l_open T0 B
  have G_l_take : FnOk l.prog w K mg base CX0 1 _ _ ["_law_box", "_law_size"] (sp_l_take K) := ok_l_take T1 B
  have G_l_whole : FnOk l.prog w K mg base CX0 1 _ _ ["_law_levels"] (sp_l_whole K) := ok_l_whole T2 B
  have G_l_marks : FnOk l.prog w K mg base CX0 2 _ _ ["_law_box", "_law_whole_here"] (sp_l_marks K) := ok_l_marks T3 B T1 G_l_take
  have G_l_handed : FnOk l.prog w K mg base CX0 2 _ _ ["_law_box", "_law_marks_here"] (sp_l_handed K) := ok_l_handed T4 B T1 G_l_take
  have G_ascending : FnOk l.prog w K mg base CX0 1 _ _ ["numbers"] (sp_ascending K) := ok_ascending T5 B
  have G_blocks_with : FnOk l.prog w K mg base CX0 1 _ _ ["depth", "place"] (sp_blocks_with K) := ok_blocks_with T6 B
  have G_whole_block : FnOk l.prog w K mg base CX0 2 _ _ ["depth"] (sp_whole_block K) := ok_whole_block T7 B T6 G_blocks_with
  have G_halves : FnOk l.prog w K mg base CX0 1 _ _ ["block"] (sp_halves K) := ok_halves T8 B
  have G_least_cover : FnOk l.prog w K mg base CX0 3 _ _ ["depth", "places"] (sp_least_cover K) := ok_least_cover T9 B T5 G_ascending T7 G_whole_block T8 G_halves
  have G_l_least : FnOk l.prog w K mg base CX0 1 _ _ ["_law_levels", "_law_marks_here"] (sp_l_least K) := ok_l_least T10 B
  have G_l_covers : FnOk l.prog w K mg base CX0 2 _ _ ["_law_told", "_law_levels", "_law_marks_here"] (sp_l_covers K) := ok_l_covers T11 B T10 G_l_least
  have G_l_change : FnOk l.prog w K mg base CX0 1 _ _ ["_law_listed", "_law_marks_here", "_law_place"] (sp_l_change K) := ok_l_change T12 B
  have G_law : FnOk l.prog w K mg base CX0 4 _ _ ["_law_script"] (sp_law K) := ok_law T13 B T0 G_l_open T1 G_l_take T3 G_l_marks T2 G_l_whole T4 G_l_handed T9 G_least_cover T11 G_l_covers T12 G_l_change
  exact G_law
end Z
open PySem PySem.W PyProof.Rows
set_option maxRecDepth 100000 in
set_option maxHeartbeats 0 in
theorem PySem.Challenge.cw_forkedshelves_k10_least_cover_by_blocks_holds : PySem.Challenge.rw_forkedshelves_k10_least_cover_by_blocks.Holds := by
  w_on; o_law; k_head; (case hw => w_witness2)
  k_fill
  refine L2.walk_of (l := PySem.Challenge.rw_forkedshelves_k10_least_cover_by_blocks) (n := 63) (k := 4) (x := "_law_script") (CX := fun _ => L2.CX0) (sp := fun w => Z.sp_law _) rfl (by decide) rfl ⟨rfl, by decide, by decide⟩ (fun w h Y => PySem.W.kIn_of Y) ?F (fun w H a ns hl _ hS => ⟨H, [], ns, _, true, rfl, ⟨fun _ _ e => e, fun _ z => (by cases z), List.nodup_nil⟩, ⟨a, rfl, hS⟩, Z.law_true ns hl, fun v _ _ _ _ r => r⟩) (fun _ _ _ _ _ h => h)
  case F =>
    intro w mg fa h KX G hmg
    refine' Z.all_mk KX G hmg ?a0 ?l0 ?c0 ?k0 ?a1 ?l1 ?c1 ?k1 ?a2 ?l2 ?c2 ?k2 ?a3 ?l3 ?c3 ?k3 ?a4 ?l4 ?c4 ?k4 ?a5 ?l5 ?c5 ?k5 ?a6 ?l6 ?c6 ?k6 ?a7 ?l7 ?c7 ?k7 ?a8 ?l8 ?c8 ?k8 ?a9 ?l9 ?c9 ?k9 ?a10 ?l10 ?c10 ?k10 ?a11 ?l11 ?c11 ?k11 ?a12 ?l12 ?c12 ?k12 ?a13 ?l13 ?c13 ?k13 ?z_bool ?z_int ?z_isinstance ?z_len ?z_list ?z_range ?z_set ?z_sorted ?z_sum ?z_tuple
    (case a0 => k_is); (case l0 => k_is); (case c0 => k_is); (case k0 => k_is); (case a1 => k_is); (case l1 => k_is)
    (case c1 => k_is); (case k1 => k_is); (case a2 => k_is); (case l2 => k_is); (case c2 => k_is); (case k2 => k_is)
    (case a3 => k_is); (case l3 => k_is); (case c3 => k_is); (case k3 => k_is); (case a4 => k_is); (case l4 => k_is)
    (case c4 => k_is); (case k4 => k_is); (case a5 => k_is); (case l5 => k_is); (case c5 => k_is); (case k5 => k_is)
    (case a6 => k_is); (case l6 => k_is); (case c6 => k_is); (case k6 => k_is); (case a7 => k_is); (case l7 => k_is)
    (case c7 => k_is); (case k7 => k_is); (case a8 => k_is); (case l8 => k_is); (case c8 => k_is); (case k8 => k_is)
    (case a9 => k_is); (case l9 => k_is); (case c9 => k_is); (case k9 => k_is); (case a10 => k_is); (case l10 => k_is)
    (case c10 => k_is); (case k10 => k_is); (case a11 => k_is); (case l11 => k_is); (case c11 => k_is); (case k11 => k_is)
    (case a12 => k_is); (case l12 => k_is); (case c12 => k_is); (case k12 => k_is); (case a13 => k_is); (case l13 => k_is)
    (case c13 => k_is); (case k13 => k_is); (case z_bool => k_is); (case z_int => k_is); (case z_isinstance => k_is); (case z_len => k_is)
    (case z_list => k_is); (case z_range => k_is); (case z_set => k_is); (case z_sorted => k_is); (case z_sum => k_is); (case z_tuple => k_is)
