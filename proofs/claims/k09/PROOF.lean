import PyProof.Rows.All
import Wide.All
import OpenK.AllK
import Wide.FinOn
import HandS.ForMost
import HandS.IsInst
import HandS.Wide
import PySem.Challenge.RW_forkedshelves_k09_blocks_of_a_place
set_option Elab.async false
set_option linter.all false
set_option maxRecDepth 100000
set_option maxHeartbeats 4000000
/-! Z: typed triples over the hand layer: what is known and never changes (F), what is owned and may change (Os), what a value stands for. -/
namespace Z
open PySem PySem.Spec L2

/-! ### frozen and owned -/
/-- what an object is to hold, by what is frozen -/
structure OC where
  p : Hp → HO → Prop
  mono : ∀ {F F' : Hp} {o : HO}, Same F F' → p F o → p F' o
abbrev Owns := List (Addr × OC)
structure Wf (F : Hp) (Os : Owns) (H : Hp) : Prop where
  sub : Same F H
  own : ∀ p ∈ Os, F p.1 = none ∧ ∃ o, H p.1 = some o ∧ p.2.p F o
  nd : (Os.map (·.1)).Nodup

theorem same_upd {H : Hp} {p : Addr} {o : HO} (h : H p = none) : Same H (upd H p o) := fun b x e => by
  rw [upd_ne (ne_of_none e h)]
  exact e
theorem same_upd2 {F H : Hp} {p : Addr} {o : HO} (s : Same F H) (h : F p = none) : Same F (upd H p o) := fun b x e => by
  rw [upd_ne (ne_of_none e h)]
  exact s b x e
theorem same_updU {F H : Hp} {p : Addr} {o : HO} (s : Same F H) : Same (upd F p o) (upd H p o) := fun b x e => by
  by_cases hb : b = p
  · subst hb
    rw [upd_same] at e ⊢
    exact e
  · rw [upd_ne hb] at e ⊢
    exact s b x e
theorem same_updF {F H : Hp} {p : Addr} {o : HO} (s : Same F H) (h : H p = some o) : Same (upd F p o) H := fun b x e => by
  by_cases hb : b = p
  · subst hb
    rw [upd_same] at e
    rw [h]
    exact e
  · rw [upd_ne hb] at e
    exact s b x e
section
variable {F F' H : Hp} {Os : Owns} {p a : Addr} {o o' : HO} {O O' : OC} {i : Nat}
theorem Wf.notin (w : Wf F Os H) (hp : H p = none) : ∀ q ∈ Os, q.1 ≠ p := fun q hq e => by
  obtain ⟨_, o, h, _⟩ := w.own q hq
  rw [e, hp] at h
  cases h
/-- a new object that never changes -/
theorem Wf.froz (w : Wf F Os H) (hp : H p = none) : Wf (upd F p o) Os (upd H p o) where
  sub := same_updU w.sub
  own := fun q hq => by
    obtain ⟨h1, u, h2, h3⟩ := w.own q hq
    have n := w.notin hp q hq
    exact ⟨by rw [upd_ne n]; exact h1, u, by rw [upd_ne n]; exact h2, q.2.mono (same_upd (w.sub.free hp)) h3⟩
  nd := w.nd
theorem Wf.frozS (w : Wf F Os H) (hp : H p = none) : Same F (upd F p o) := same_upd (w.sub.free hp)
/-- a new object that is owned -/
theorem Wf.new (w : Wf F Os H) (hp : H p = none) (ho : O.p F o) : Wf F ((p, O) :: Os) (upd H p o) where
  sub := same_upd2 w.sub (w.sub.free hp)
  own := fun q hq => by
    rcases List.mem_cons.mp hq with rfl | hq
    · exact ⟨w.sub.free hp, o, upd_same, ho⟩
    · obtain ⟨h1, u, h2, h3⟩ := w.own q hq
      exact ⟨h1, u, by rw [upd_ne (w.notin hp q hq)]; exact h2, h3⟩
  nd := by
    rw [List.map_cons]
    refine List.nodup_cons.mpr ⟨fun m => ?_, w.nd⟩
    obtain ⟨q, hq, e⟩ := List.mem_map.mp m
    exact w.notin hp q hq e
theorem Wf.at (w : Wf F Os H) (hi : Os[i]? = some (a, O)) : F a = none ∧ ∃ o, H a = some o ∧ O.p F o := w.own (a, O) (List.mem_of_getElem? hi)
theorem nd_at {l : List Addr} (hN : l.Nodup) {i j : Nat} {x : Addr} (a : l[i]? = some x) (b : l[j]? = some x) : i = j := by
  obtain ⟨h1, e1⟩ := List.getElem?_eq_some_iff.mp a
  obtain ⟨h2, e2⟩ := List.getElem?_eq_some_iff.mp b
  exact (List.getElem_inj hN).mp (e1.trans e2.symm)
theorem Wf.ne (w : Wf F Os H) {i j : Nat} {q r : Addr × OC} (hi : Os[i]? = some q) (hj : Os[j]? = some r) (h : i ≠ j) : q.1 ≠ r.1 := fun e =>
  h (nd_at (x := r.1) w.nd (by rw [List.getElem?_map, hi, Option.map_some, e]) (by rw [List.getElem?_map, hj, Option.map_some]))
/-- an owned object changes -/
theorem Wf.set (w : Wf F Os H) (hi : Os[i]? = some (a, O)) (ho : O'.p F o') : Wf F (Os.set i (a, O')) (upd H a o') where
  sub := same_upd2 w.sub (w.at hi).1
  own := fun q hq => by
    obtain ⟨j, hj⟩ := List.mem_iff_getElem?.mp hq
    by_cases e : i = j
    · subst e
      rw [List.getElem?_set_self (List.getElem?_eq_some_iff.mp hi).1] at hj
      cases hj
      exact ⟨(w.at hi).1, o', upd_same, ho⟩
    · rw [List.getElem?_set_ne e] at hj
      obtain ⟨h1, u, h2, h3⟩ := w.own q (List.mem_of_getElem? hj)
      exact ⟨h1, u, by rw [upd_ne (w.ne hj hi (Ne.symm e))]; exact h2, h3⟩
  nd := by
    have e : (Os.set i (a, O')).map (·.1) = Os.map (·.1) := by
      rw [List.map_set]
      refine List.ext_getElem? fun j => ?_
      by_cases e : i = j
      · subst e
        have l := (List.getElem?_eq_some_iff.mp hi).1
        rw [List.getElem?_set_self (by rw [List.length_map]; exact l), List.getElem?_map, hi]
        rfl
      · rw [List.getElem?_set_ne e]
    rw [e]
    exact w.nd
theorem mem_eraseIdx_of {α : Type} {l : List α} {i : Nat} {x : α} (h : x ∈ l.eraseIdx i) : ∃ j, j ≠ i ∧ l[j]? = some x := by
  obtain ⟨j, hj⟩ := List.mem_iff_getElem?.mp h
  rw [List.getElem?_eraseIdx] at hj
  split at hj
  · exact ⟨j, by omega, hj⟩
  · exact ⟨j + 1, by omega, hj⟩
/-- an owned object is from now on never changed -/
theorem Wf.fz (w : Wf F Os H) (hi : Os[i]? = some (a, O)) : ∃ o, O.p (upd F a o) o ∧ Same F (upd F a o) ∧ Wf (upd F a o) (Os.eraseIdx i) H := by
  obtain ⟨h1, o, h2, h3⟩ := w.at hi
  have s : Same F (upd F a o) := same_upd h1
  refine ⟨o, O.mono s h3, s, same_updF w.sub h2, fun q hq => ?_, ?_⟩
  · obtain ⟨j, hj, e⟩ := mem_eraseIdx_of hq
    obtain ⟨k1, u, k2, k3⟩ := w.own q (List.mem_of_getElem? e)
    exact ⟨by rw [upd_ne (w.ne e hi hj)]; exact k1, u, k2, q.2.mono s k3⟩
  · refine List.Nodup.sublist ?_ w.nd
    exact List.Sublist.map _ (List.eraseIdx_sublist ..)
theorem Wf.ext (w : Wf F Os H) (h : ∀ q ∈ Os, q ∈ Os) : Wf F Os H := w
/-- an owned object is laid aside -/
theorem Wf.drop (w : Wf F Os H) : Wf F (Os.eraseIdx i) H := ⟨w.sub, fun q hq => by
  obtain ⟨j, _, e⟩ := mem_eraseIdx_of hq
  exact w.own q (List.mem_of_getElem? e), List.Nodup.sublist (List.Sublist.map _ (List.eraseIdx_sublist ..)) w.nd⟩
theorem Wf.tail {q : Addr × OC} (w : Wf F (q :: Os) H) : Wf F Os H := ⟨w.sub, fun r hr => w.own r (List.mem_cons_of_mem _ hr), (List.nodup_cons.mp w.nd).2⟩
theorem Wf.perm {Os' : Owns} (w : Wf F Os H) (h : Os.Perm Os') : Wf F Os' H := ⟨w.sub, fun q hq => w.own q (h.mem_iff.mpr hq), (h.map _).nodup_iff.mp w.nd⟩
end

theorem perm_pull {α : Type} : ∀ (l : List α) (i : Nat) (q : α), l[i]? = some q → l.Perm (q :: l.eraseIdx i)
  | [], _, _, h => by simp at h
  | a :: l, 0, q, h => by
    have e : a = q := Option.some.inj h
    subst e
    exact .refl _
  | a :: l, i + 1, q, h => (List.Perm.cons a (perm_pull l i q (by simpa using h))).trans (List.Perm.swap q a _)
theorem Wf.pull {F H : Hp} {Os : Owns} {i : Nat} {q : Addr × OC} (w : Wf F Os H) (hi : Os[i]? = some q) : Wf F (q :: Os.eraseIdx i) H := w.perm (perm_pull _ _ _ hi)
theorem perm_ins {α : Type} (q : α) : ∀ (i : Nat) (l : List α), i ≤ l.length → (q :: l).Perm (l.insertIdx i q)
  | 0, _, _ => .refl _
  | i + 1, [], h => absurd h (by simp)
  | i + 1, a :: l, h => (List.Perm.swap a q l).trans (List.Perm.cons a (perm_ins q i l (by simpa using h)))
theorem Wf.back {F H : Hp} {Os : Owns} {i : Nat} {q : Addr × OC} (w : Wf F (q :: Os) H) (h : i ≤ Os.length := by simp) : Wf F (Os.insertIdx i q) H := w.perm (perm_ins q i Os h)
theorem Wf.back2 {F H : Hp} {Os : Owns} {i : Nat} {q r : Addr × OC} (w : Wf F (r :: q :: Os) H) (h : i ≤ Os.length := by simp) : Wf F (r :: Os.insertIdx i q) H := w.perm (.cons r (perm_ins q i Os h))
theorem Wf.tail2 {F H : Hp} {Os : Owns} {q r : Addr × OC} (w : Wf F (r :: q :: Os) H) : Wf F (r :: Os) H := w.drop (i := 1)

/-- exactly this -/
def ocIs (o : HO) : OC := ⟨fun _ u => u = o, fun _ h => h⟩
/-- for a while the objects at S never change; nothing that is owned changes meanwhile -/
theorem Wf.tmp {F H : Hp} {Os : Owns} (w : Wf F Os H) (S : List Addr) : ∃ G Ex, Same F G ∧ Wf G Ex H ∧ (∀ a (O : OC), (a, O) ∈ Os → a ∈ S → ∃ o, G a = some o ∧ O.p G o) ∧ ∀ F2 H2, Same G F2 → Wf F2 Ex H2 → Wf F Os H2 := by
  have sG : Same F (fun b => if b ∈ S then H b else F b) := fun b o e => by
    show (if b ∈ S then H b else F b) = some o
    by_cases hb : b ∈ S
    · rw [if_pos hb]; exact w.sub b o e
    · rw [if_neg hb]; exact e
  refine ⟨fun b => if b ∈ S then H b else F b, (Os.filter fun p => decide (p.1 ∉ S)).filterMap fun p => (H p.1).map fun o => (p.1, ocIs o), sG, ⟨fun b o e => ?_, fun q hq => ?_, ?_⟩, fun a O hO hS => ?_, fun F2 H2 s2 w2 => ⟨fun b o e => ?_, fun q hq => ?_, w.nd⟩⟩
  · have e : (if b ∈ S then H b else F b) = some o := e
    by_cases hb : b ∈ S
    · rw [if_pos hb] at e; exact e
    · rw [if_neg hb] at e; exact w.sub b o e
  · obtain ⟨p, hp, e⟩ := List.mem_filterMap.mp hq
    obtain ⟨h1, h2⟩ := List.mem_filter.mp hp
    obtain ⟨h3, o, h4, h5⟩ := w.own p h1
    rw [h4] at e
    cases e
    have hn : p.1 ∉ S := of_decide_eq_true h2
    exact ⟨by show (if p.1 ∈ S then H p.1 else F p.1) = none; rw [if_neg hn]; exact h3, o, h4, rfl⟩
  · have : ∀ l : Owns, (∀ p ∈ l, ∃ o, H p.1 = some o) → (l.filterMap fun p => (H p.1).map fun o => ((p.1, ocIs o) : Addr × OC)).map (·.1) = l.map (·.1) := fun l => by
      induction l with
      | nil => intro _; rfl
      | cons p r ih =>
        intro hl
        obtain ⟨o, ho⟩ := hl p (List.mem_cons_self ..)
        rw [List.filterMap_cons, ho]
        show p.1 :: _ = p.1 :: _
        rw [ih fun q hq => hl q (List.mem_cons_of_mem _ hq)]
    rw [this _ fun p hp => by
      obtain ⟨_, o, h, _⟩ := w.own p (List.mem_filter.mp hp).1
      exact ⟨o, h⟩]
    exact List.Nodup.sublist (List.Sublist.map _ (List.filter_sublist ..)) w.nd
  · obtain ⟨h3, o, h4, h5⟩ := w.own _ hO
    exact ⟨o, by show (if a ∈ S then H a else F a) = some o; rw [if_pos hS]; exact h4, O.mono sG h5⟩
  · exact w2.sub _ _ (s2 _ _ (sG b o e))
  · obtain ⟨h3, o, h4, h5⟩ := w.own q hq
    refine ⟨h3, o, ?_, h5⟩
    by_cases hS : q.1 ∈ S
    · exact w2.sub _ _ (s2 _ _ (by show (if q.1 ∈ S then H q.1 else F q.1) = some o; rw [if_pos hS]; exact h4))
    · obtain ⟨_, u, h6, h7⟩ := w2.own (q.1, ocIs o) (List.mem_filterMap.mpr ⟨q, List.mem_filter.mpr ⟨hq, decide_eq_true hS⟩, by rw [h4]; rfl⟩)
      rw [show u = o from h7] at h6
      exact h6

/-! ### what a value stands for -/
structure Rep (α : Type) where
  r : Hp → V → α → Prop
  mono : ∀ {F F' : Hp} {v : V} {x : α}, Same F F' → r F v x → r F' v x
structure Vw (α : Type) where
  r : Hp → Owns → V → α → Prop
  mono : ∀ {F F' : Hp} {Os : Owns} {v : V} {x : α}, Same F F' → r F Os v x → r F' Os v x
def Rep.v {α : Type} (R : Rep α) : Vw α := ⟨fun F _ v x => R.r F v x, fun s h => R.mono s h⟩
def rInt : Rep Int := ⟨fun _ v x => v = .int x, fun _ h => h⟩
def rBool : Rep Bool := ⟨fun _ v x => v = .bl x, fun _ h => h⟩
def rStr : Rep Str := ⟨fun _ v x => v = .str x, fun _ h => h⟩
def rNone : Rep Unit := ⟨fun _ v _ => v = .non, fun _ h => h⟩
/-- the very value -/
def rIs (u : V) : Rep Unit := ⟨fun _ v _ => v = u, fun _ h => h⟩
def rOpt {α : Type} (R : Rep α) : Rep (Option α) := ⟨fun F v x => match x with
  | none => v = .non
  | some y => R.r F v y ∧ v ≠ .non, fun {F F' v x} s h => by
    cases x with
    | none => exact h
    | some y => exact ⟨R.mono s h.1, h.2⟩⟩
theorem paired_mono {α β : Type} {R R' : α → β → Prop} (h : ∀ a b, R a b → R' a b) : ∀ {xs : List α} {ys : List β}, Paired R xs ys → Paired R' xs ys
  | _, _, .nil => .nil
  | _, _, .cons a t => .cons (h _ _ a) (paired_mono h t)
/-- the script -/
def rScr (K : PySem.W.Frag) : Rep (List Int) := ⟨fun F v xs => ∃ a, v = .ref a ∧ SqL K F a (xs.map V.int), fun s ⟨a, e, h⟩ => ⟨a, e, Same.seq s h⟩⟩
/-- a list's content -/
def oList {α : Type} (R : Rep α) (xs : List α) : OC := ⟨fun F o => ∃ vs, o = .lst vs ∧ Paired (R.r F) vs xs, fun s ⟨vs, e, h⟩ => ⟨vs, e, paired_mono (fun _ _ q => R.mono s q) h⟩⟩
/-- an object that never changes -/
def rOf {α : Type} (O : α → OC) : Rep α := ⟨fun F v x => ∃ a o, v = .ref a ∧ F a = some o ∧ (O x).p F o, fun s ⟨a, o, e, h1, h2⟩ => ⟨a, o, e, s _ _ h1, (O _).mono s h2⟩⟩
/-- an object, frozen or owned -/
def vOf {α : Type} (O : α → OC) : Vw α := ⟨fun F Os v x => ∃ a, v = .ref a ∧ ((∃ o, F a = some o ∧ (O x).p F o) ∨ (a, O x) ∈ Os), fun s ⟨a, e, h⟩ => ⟨a, e, h.elim (fun ⟨o, h1, h2⟩ => .inl ⟨o, s _ _ h1, (O _).mono s h2⟩) .inr⟩⟩
abbrev rList {α : Type} (R : Rep α) : Rep (List α) := rOf (oList R)
abbrev vList {α : Type} (R : Rep α) : Vw (List α) := vOf (oList R)
theorem vOf.get {α : Type} {O : α → OC} {F H : Hp} {Os : Owns} {v : V} {x : α} (w : Wf F Os H) (h : (vOf O).r F Os v x) : ∃ a o, v = .ref a ∧ H a = some o ∧ (O x).p F o := by
  obtain ⟨a, e, h | h⟩ := h
  · obtain ⟨o, h1, h2⟩ := h
    exact ⟨a, o, e, w.sub _ _ h1, h2⟩
  · obtain ⟨_, o, h1, h2⟩ := w.own _ h
    exact ⟨a, o, e, h1, h2⟩
theorem vOf.of {α : Type} {O : α → OC} {F : Hp} {Os : Owns} {v : V} {x : α} (h : (rOf O).r F v x) : (vOf O).r F Os v x := by
  obtain ⟨a, o, e, h1, h2⟩ := h
  exact ⟨a, e, .inl ⟨o, h1, h2⟩⟩
theorem vOf.own {α : Type} {O : α → OC} {F : Hp} {Os : Owns} {a : Addr} {x : α} {i : Nat} (h : Os[i]? = some (a, O x)) : (vOf O).r F Os (.ref a) x := ⟨a, rfl, .inr (List.mem_of_getElem? h)⟩
/-- an owned object is from now on frozen -/
theorem fz_own {α : Type} {O : α → OC} {F H : Hp} {Os : Owns} {a : Addr} {x : α} {i : Nat} (w : Wf F Os H) (hi : Os[i]? = some (a, O x)) : ∃ F', Same F F' ∧ Wf F' (Os.eraseIdx i) H ∧ (rOf O).r F' (.ref a) x := by
  obtain ⟨o, h1, h2, h3⟩ := w.fz hi
  exact ⟨_, h2, h3, a, o, rfl, upd_same, h1⟩
/-- tuples -/
def rT2 {α β : Type} (R : Rep α) (S : Rep β) : Rep (α × β) := ⟨fun F v x => ∃ a u1 u2, v = .ref a ∧ F a = some (.tup [u1, u2]) ∧ R.r F u1 x.1 ∧ S.r F u2 x.2, fun s ⟨a, u1, u2, e, h, h1, h2⟩ => ⟨a, u1, u2, e, s _ _ h, R.mono s h1, S.mono s h2⟩⟩
def rT3 {α β γ : Type} (R : Rep α) (S : Rep β) (T : Rep γ) : Rep (α × β × γ) := ⟨fun F v x => ∃ a u1 u2 u3, v = .ref a ∧ F a = some (.tup [u1, u2, u3]) ∧ R.r F u1 x.1 ∧ S.r F u2 x.2.1 ∧ T.r F u3 x.2.2,
  fun s ⟨a, u1, u2, u3, e, h, h1, h2, h3⟩ => ⟨a, u1, u2, u3, e, s _ _ h, R.mono s h1, S.mono s h2, T.mono s h3⟩⟩
/-- a tuple of any length, its items alike -/
def rTup {α : Type} (R : Rep α) : Rep (List α) := ⟨fun F v xs => ∃ a vs, v = .ref a ∧ F a = some (.tup vs) ∧ Paired (R.r F) vs xs, fun s ⟨a, vs, e, h, h1⟩ => ⟨a, vs, e, s _ _ h, paired_mono (fun _ _ q => R.mono s q) h1⟩⟩
theorem paired_get {α β : Type} {R : α → β → Prop} : ∀ {xs : List α} {ys : List β} {i : Nat} {y : β}, Paired R xs ys → ys[i]? = some y → ∃ x, xs[i]? = some x ∧ R x y
  | _, _, _, _, .nil, e => by simp at e
  | _, _, 0, _, .cons r _, e => by simp at e; subst e; exact ⟨_, rfl, r⟩
  | _, _, i + 1, y, .cons _ t, e => by
    obtain ⟨u, h1, h2⟩ := paired_get (i := i) (y := y) t (by simpa using e)
    exact ⟨u, by simpa using h1, h2⟩
theorem paired_set {α β : Type} {R : α → β → Prop} {x : α} {y : β} (r : R x y) : ∀ {xs : List α} {ys : List β} (i : Nat), Paired R xs ys → Paired R (xs.set i x) (ys.set i y)
  | _, _, _, .nil => .nil
  | _, _, 0, .cons _ t => .cons r t
  | _, _, i + 1, .cons q t => .cons q (paired_set r i t)
theorem paired_append {α β : Type} {R : α → β → Prop} : ∀ {xs xs' : List α} {ys ys' : List β}, Paired R xs ys → Paired R xs' ys' → Paired R (xs ++ xs') (ys ++ ys')
  | _, _, _, _, .nil, s => s
  | _, _, _, _, .cons r t, s => .cons r (paired_append t s)

/-! ### the mirror's words -/
/-- a name is given a value -/
def lt {α β : Type} (x : α) (k : α → β) : β := k x
theorem lt_some {α β : Type} {x : α} {k : α → Option β} {r : β} (h : lt x k = some r) : ∃ y, y = x ∧ k y = some r := ⟨x, rfl, h⟩
def bd {α β : Type} (x : Option α) (k : α → Option β) : Option β := match x with
  | none => none
  | some y => k y
theorem bd_some {α β : Type} {x : Option α} {k : α → Option β} {r : β} (h : bd x k = some r) : ∃ y, x = some y ∧ k y = some r := by
  cases x with
  | none => cases h
  | some y => exact ⟨y, rfl, h⟩
theorem bd_eq {α β : Type} {y : α} {k : α → Option β} : bd (some y) k = k y := by
  generalize hx : some y = x
  cases x with
  | none => cases hx
  | some z =>
    cases hx
    rfl
theorem lt_eq {α β : Type} {x : α} {k : α → β} : lt x k = k x := by
  generalize hx : x = z
  cases hx
  rfl
/-- only where c holds -/
def gd {β : Type} (c : Prop) [Decidable c] (k : Option β) : Option β := if c then k else none
theorem gd_some {β : Type} {c : Prop} [Decidable c] {k : Option β} {r : β} (h : gd c k = some r) : c ∧ k = some r := by
  unfold gd at h
  by_cases hc : c
  · rw [if_pos hc] at h
    exact ⟨hc, h⟩
  · rw [if_neg hc] at h
    cases h
theorem if_some {β : Type} {b : Bool} {A B : Option β} {r : β} (h : (if b = true then A else B) = some r) : (b = true → A = some r) ∧ (b = false → B = some r) := by
  cases b with
  | true => exact ⟨fun _ => h, fun z => nomatch z⟩
  | false => exact ⟨(fun z => nomatch z), fun _ => h⟩
/-- the ways out of a block -/
inductive Fl (ρ σ : Type) where
  | nx (s : σ)
  | ret (r : ρ)
  | brk (s : σ)
def foldO {α σ : Type} (f : σ → α → Option σ) : σ → List α → Option σ
  | s, [] => some s
  | s, x :: r => bd (f s x) fun s' => foldO f s' r
def foldF {α ρ σ : Type} (f : σ → α → Option (Fl ρ σ)) : σ → List α → Option (Fl ρ σ)
  | s, [] => some (.nx s)
  | s, x :: r => bd (f s x) fun z => match z with
    | .nx s' => foldF f s' r
    | .ret v => some (.ret v)
    | .brk s' => some (.nx s')
theorem nn_of {α : Type} {O : α → OC} {x : α} : ∀ F v, (rOf O).r F v x → v ≠ .non := fun F v ⟨a, o, e, _⟩ h => by rw [e] at h; cases h
theorem nn_int {x : Int} : ∀ F v, rInt.r F v x → v ≠ .non := fun F v e h => by rw [show v = V.int x from e] at h; cases h
theorem nn_bool {x : Bool} : ∀ F v, rBool.r F v x → v ≠ .non := fun F v e h => by rw [show v = V.bl x from e] at h; cases h
theorem nn_str {x : Str} : ∀ F v, rStr.r F v x → v ≠ .non := fun F v e h => by rw [show v = V.str x from e] at h; cases h
theorem nn_t2 {α β : Type} {R : Rep α} {S : Rep β} {x : α × β} : ∀ F v, (rT2 R S).r F v x → v ≠ .non := fun F v ⟨a, _, _, e, _⟩ h => by rw [e] at h; cases h
theorem nn_t3 {α β γ : Type} {R : Rep α} {S : Rep β} {T : Rep γ} {x : α × β × γ} : ∀ F v, (rT3 R S T).r F v x → v ≠ .non := fun F v ⟨a, _, _, _, e, _⟩ h => by rw [e] at h; cases h
theorem nn_tup {α : Type} {R : Rep α} {x : List α} : ∀ F v, (rTup R).r F v x → v ≠ .non := fun F v ⟨a, _, e, _⟩ h => by rw [e] at h; cases h
/-- a turn's way out, then the turns that are left -/
def fstep {ρ σ : Type} (k : σ → Option (Fl ρ σ)) (z : Fl ρ σ) : Option (Fl ρ σ) := match z with
  | .nx s' => k s'
  | .ret v => some (.ret v)
  | .brk s' => some (.nx s')
def whF {ρ σ : Type} (f : σ → Option (Fl ρ σ)) : Nat → σ → Option (Fl ρ σ)
  | 0, _ => none
  | n + 1, s => bd (f s) (fstep (whF f n))
def flk {ρ σ β : Type} (z : Fl ρ σ) (kn : σ → β) (kr : ρ → β) : β := match z with
  | .nx s => kn s
  | .ret r => kr r
  | .brk s => kn s
theorem flk_ret {ρ σ β : Type} {r : ρ} {kn : σ → Option β} {kr : ρ → Option β} {y : β} (h : flk (.ret r) kn kr = some y) : kr r = some y := h
theorem flk_nx {ρ σ β : Type} {s : σ} {kn : σ → Option β} {kr : ρ → Option β} {y : β} (h : flk (.nx s) kn kr = some y) : kn s = some y := h
theorem foldO_some {α σ : Type} {f : σ → α → Option σ} {s z : σ} {x : α} {r : List α} (h : foldO f s (x :: r) = some z) : ∃ y, f s x = some y ∧ foldO f y r = some z := bd_some h
theorem foldO_nil {α σ : Type} {f : σ → α → Option σ} {s z : σ} (h : foldO f s [] = some z) : z = s := (Option.some.inj h).symm
theorem foldF_some {α ρ σ : Type} {f : σ → α → Option (Fl ρ σ)} {s : σ} {z : Fl ρ σ} {x : α} {r : List α} (h : foldF f s (x :: r) = some z) : ∃ y, f s x = some y ∧ fstep (fun s' => foldF f s' r) y = some z := by
  obtain ⟨y, h1, h2⟩ := bd_some h
  refine ⟨y, h1, ?_⟩
  cases y <;> exact h2
theorem foldF_nil {α ρ σ : Type} {f : σ → α → Option (Fl ρ σ)} {s : σ} {z : Fl ρ σ} (h : foldF f s [] = some z) : z = .nx s := (Option.some.inj h).symm
theorem whF_some {ρ σ : Type} {f : σ → Option (Fl ρ σ)} {n : Nat} {s : σ} {z : Fl ρ σ} (h : whF f n s = some z) : ∃ m y, n = m + 1 ∧ f s = some y ∧ fstep (whF f m) y = some z := by
  cases n with
  | zero => cases h
  | succ m =>
    obtain ⟨y, h1, h2⟩ := bd_some h
    exact ⟨m, y, rfl, h1, h2⟩
theorem pair_inj {α β : Type} {a c : α} {b d : β} (h : some (a, b) = some (c, d)) : a = c ∧ b = d := Prod.mk.inj (Option.some.inj h)
theorem pair_inj3 {α β γ : Type} {a c : α} {b d : β} {e f : γ} (h : some (a, b, e) = some (c, d, f)) : a = c ∧ b = d ∧ e = f := by
  cases h
  exact ⟨rfl, rfl, rfl⟩
/-- xs.append(x) -/
def app {α : Type} (xs : List α) (x : α) : Option (List α) := if xs.length < 16777216 then some (xs ++ [x]) else none
theorem app_some {α : Type} {xs ys : List α} {x : α} (h : app xs x = some ys) : xs.length < sizeLine ∧ ys = xs ++ [x] := by
  unfold app at h
  by_cases hc : xs.length < 16777216
  · rw [if_pos hc] at h
    exact ⟨by rw [sizeLine_eq]; exact hc, (Option.some.inj h).symm⟩
  · rw [if_neg hc] at h
    cases h
/-- xs + ys -/
def cat {α : Type} (xs ys : List α) : Option (List α) := if xs.length + ys.length ≤ 16777216 then some (xs ++ ys) else none
theorem cat_some {α : Type} {xs ys zs : List α} (h : cat xs ys = some zs) : xs.length + ys.length ≤ sizeLine ∧ zs = xs ++ ys := by
  unfold cat at h
  by_cases hc : xs.length + ys.length ≤ 16777216
  · rw [if_pos hc] at h
    exact ⟨by rw [sizeLine_eq]; exact hc, (Option.some.inj h).symm⟩
  · rw [if_neg hc] at h
    cases h
/-- xs[i] -/
def ix {α : Type} (xs : List α) (i : Int) : Option α := atI xs i
/-- xs[i] = x -/
def stI {α : Type} (xs : List α) (i : Int) (x : α) : Option (List α) := bd (ixN xs.length i) fun j => some (xs.set j x)
instance (i j : Int) : Decidable (CMul i j) := by unfold CMul; infer_instance
def mulO (i j : Int) : Option Int := if CMul i j then some (i * j) else none
theorem mulO_some {i j z : Int} (h : mulO i j = some z) : CMul i j ∧ z = i * j := by
  unfold mulO at h
  by_cases hc : CMul i j
  · rw [if_pos hc] at h
    exact ⟨hc, (Option.some.inj h).symm⟩
  · rw [if_neg hc] at h
    cases h
instance (i j : Int) : Decidable (CDivW i j) := by unfold CDivW; infer_instance
/-- i // j, 0 < j; i % j, 0 < j -/
def divO (i j : Int) : Option Int := if CDivW i j then some (i / j) else none
theorem divO_some {i j z : Int} (h : divO i j = some z) : CDivW i j ∧ z = i / j := by
  unfold divO at h
  by_cases hc : CDivW i j
  · rw [if_pos hc] at h
    exact ⟨hc, (Option.some.inj h).symm⟩
  · rw [if_neg hc] at h
    cases h
def modO (i j : Int) : Option Int := if 0 < j then some (i % j) else none
theorem modO_some {i j z : Int} (h : modO i j = some z) : 0 < j ∧ z = i % j := by
  unfold modO at h
  by_cases hc : 0 < j
  · rw [if_pos hc] at h
    exact ⟨hc, (Option.some.inj h).symm⟩
  · rw [if_neg hc] at h
    cases h
end Z

namespace Z
open PySem PySem.Spec L2
/-! ### what must hold so that code ends as wanted -/
section
variable {X : Cx} {e a b c : Expr} {pos : Pos} {σ : St} {H : Hp}
def We (X : Cx) (e : Expr) (σ : St) (H : Hp) (Q : VK) : Prop := ∀ pins s, Inv X pins σ H s → wpAny (model X.prog X.w) X.A (eval e X.env) (EP X pins σ Q) X.xe s
def Wt (X : Cx) (e : Expr) (σ : St) (H : Hp) (Q : Bool → Hp → Prop) : Prop := ∀ pins s, Inv X pins σ H s → wpAny (model X.prog X.w) X.A (isTrue e X.env (eval e X.env)) (TP X pins σ Q) X.xe s
def Wv (X : Cx) (e : Expr) (σ : St) (H : Hp) (Q : Bool → Hp → Prop) : Prop := ∀ whole pins s, Inv X pins σ H s → wpAny (model X.prog X.w) X.A (isTrue e X.env whole) (TP X pins σ Q) X.xe s
def Wa (X : Cx) (es : List Expr) (σ : St) (H : Hp) (Q : List V → Hp → Prop) : Prop := ∀ pos pins s, Inv X pins σ H s → wpAny (model X.prog X.w) X.A (spliced (backTo pos (starEach es X.env))) (AP X pins σ Q) X.xe s
def W1 (X : Cx) (st : Stmt) (D : Ends) (σ : St) (H : Hp) : Prop := ∀ pins s, Inv X pins σ H s → wpAny (model X.prog X.w) X.A (exec st X.env) (SP X pins D) X.xe s
def Ws (X : Cx) (sts : List Stmt) (D : Ends) (σ : St) (H : Hp) : Prop := ∀ pins s, Inv X pins σ H s → wpAny (model X.prog X.w) X.A (execs sts X.env) (SP X pins D) X.xe s
theorem pe_w : PE X e (We X e) := ⟨fun pins s _ _ _ I h => h pins s I⟩
theorem pt_w : PT X e (Wt X e) := ⟨fun pins s _ _ _ I h => h pins s I⟩
theorem pw_w : PW X e (Wv X e) := ⟨fun wh pins s _ _ _ I h => h wh pins s I⟩
theorem pa_w {es : List Expr} : PA X es (Wa X es) := ⟨fun pos pins s _ _ _ I h => h pos pins s I⟩
theorem ps_w {st : Stmt} : PS X st (W1 X st) := ⟨fun pins s _ _ _ I h => h pins s I⟩
theorem pss_w {sts : List Stmt} : PSs X sts (Ws X sts) := ⟨fun pins s _ _ _ I h => h pins s I⟩
theorem w_pe {t : TE} {Q : VK} (h : PE X e t) (q : t σ H Q) : We X e σ H Q := fun pins s I => h.run pins s σ H Q I q
theorem w_pt {t : TT} {Q : Bool → Hp → Prop} (h : PT X e t) (q : t σ H Q) : Wt X e σ H Q := fun pins s I => h.run pins s σ H Q I q
theorem w_pw {t : TT} {Q : Bool → Hp → Prop} (h : PW X e t) (q : t σ H Q) : Wv X e σ H Q := fun wh pins s I => h.run wh pins s σ H Q I q
theorem w_pa {es : List Expr} {t : TA} {Q : List V → Hp → Prop} (h : PA X es t) (q : t σ H Q) : Wa X es σ H Q := fun pos pins s I => h.run pos pins s σ H Q I q
theorem w_ps {st : Stmt} {t : TS} {D : Ends} (h : PS X st t) (q : t D σ H) : W1 X st D σ H := fun pins s I => h.run pins s σ H D I q
theorem w_pss {sts : List Stmt} {t : TS} {D : Ends} (h : PSs X sts t) (q : t D σ H) : Ws X sts D σ H := fun pins s I => h.run pins s σ H D I q
end

/-! ### triples: from a state that knows F and owns Os, e gives x -/
section
variable {α β γ : Type}
def Ev (X : Cx) (e : Expr) (σ : St) (F : Hp) (Os : Owns) (W : Vw α) (x : α) (Os' : Owns) : Prop :=
  ∀ F1 H, Same F F1 → Wf F1 Os H → ∀ Q : VK, (∀ v F' H', Same F1 F' → Wf F' Os' H' → W.r F' Os' v x → Q v H') → We X e σ H Q
/-- a new object, owned -/
def EvN (X : Cx) (e : Expr) (σ : St) (F : Hp) (Os : Owns) (O : OC) (Os' : Owns) : Prop :=
  ∀ F1 H, Same F F1 → Wf F1 Os H → ∀ Q : VK, (∀ p F' H', Same F1 F' → Wf F' ((p, O) :: Os') H' → Q (.ref p) H') → We X e σ H Q
def Et (X : Cx) (e : Expr) (σ : St) (F : Hp) (Os : Owns) (b : Bool) (Os' : Owns) : Prop :=
  ∀ F1 H, Same F F1 → Wf F1 Os H → ∀ Q : Bool → Hp → Prop, (∀ F' H', Same F1 F' → Wf F' Os' H' → Q b H') → Wt X e σ H Q
def Ew (X : Cx) (e : Expr) (σ : St) (F : Hp) (Os : Owns) (b : Bool) (Os' : Owns) : Prop :=
  ∀ F1 H, Same F F1 → Wf F1 Os H → ∀ Q : Bool → Hp → Prop, (∀ F' H', Same F1 F' → Wf F' Os' H' → Q b H') → Wv X e σ H Q
/-- arguments: what holds of their values -/
def Ea (X : Cx) (es : List Expr) (σ : St) (F : Hp) (Os : Owns) (P : Hp → Owns → List V → Prop) : Prop :=
  ∀ F1 H, Same F F1 → Wf F1 Os H → ∀ Q : List V → Hp → Prop, (∀ vs F' Os' H', Same F1 F' → Wf F' Os' H' → P F' Os' vs → Q vs H') → Wa X es σ H Q
/-- a comparison's answer by values -/
def Cp (X : Cx) (op : CmpOp) (W : Vw α) (U : Vw β) (f : α → β → Bool) : Prop :=
  ∃ r : R2, OpR X (compareOp op) r ∧ ∀ F Os H v u x y (Q : VK), Wf F Os H → W.r F Os v x → U.r F Os u y → Q (.bl (f x y)) H → r v u H Q
end
section
variable {α β γ : Type} {X : Cx} {e a b c : Expr} {pos : Pos} {σ : St} {F F' : Hp} {Os Os1 Os2 Os3 : Owns} {W : Vw α} {U : Vw β} {x x' : α} {y : β} {i j z : Int} {k k' l : Bool}
theorem Ev.go (h : Ev X e σ F Os W x Os1) {F1 H : Hp} (s : Same F F1) (w : Wf F1 Os H) {Q : VK} (k : ∀ v F' H', Same F1 F' → Wf F' Os1 H' → W.r F' Os1 v x → Q v H') : We X e σ H Q := h F1 H s w Q k
theorem EvN.go {O : OC} (h : EvN X e σ F Os O Os1) {F1 H : Hp} (s : Same F F1) (w : Wf F1 Os H) {Q : VK} (k : ∀ p F' H', Same F1 F' → Wf F' ((p, O) :: Os1) H' → Q (.ref p) H') : We X e σ H Q := h F1 H s w Q k
theorem Et.go (h : Et X e σ F Os k Os1) {F1 H : Hp} (s : Same F F1) (w : Wf F1 Os H) {Q : Bool → Hp → Prop} (q : ∀ F' H', Same F1 F' → Wf F' Os1 H' → Q k H') : Wt X e σ H Q := h F1 H s w Q q
theorem Ew.go (h : Ew X e σ F Os k Os1) {F1 H : Hp} (s : Same F F1) (w : Wf F1 Os H) {Q : Bool → Hp → Prop} (q : ∀ F' H', Same F1 F' → Wf F' Os1 H' → Q k H') : Wv X e σ H Q := h F1 H s w Q q
theorem Ea.go {es : List Expr} {P : Hp → Owns → List V → Prop} (h : Ea X es σ F Os P) {F1 H : Hp} (s : Same F F1) (w : Wf F1 Os H) {Q : List V → Hp → Prop} (k : ∀ vs F' Os' H', Same F1 F' → Wf F' Os' H' → P F' Os' vs → Q vs H') : Wa X es σ H Q := h F1 H s w Q k
theorem Ev.eq (h : Ev X e σ F Os W x Os1) (hx : x' = x) : Ev X e σ F Os W x' Os1 := hx ▸ h
theorem Ew.eq (h : Ew X e σ F Os k Os1) (hx : k' = k) : Ew X e σ F Os k' Os1 := hx ▸ h
theorem Et.eq (h : Et X e σ F Os k Os1) (hx : k' = k) : Et X e σ F Os k' Os1 := hx ▸ h
theorem Ev.up (h : Ev X e σ F Os W x Os1) (s : Same F F') : Ev X e σ F' Os W x Os1 := fun F1 H s1 => h F1 H (s.trans s1)
theorem Ev.vw {O : α → OC} (h : Ev X e σ F Os (rOf O).v x Os1) : Ev X e σ F Os (vOf O) x Os1 := fun F1 H s w Q q => h.go s w fun v F2 H2 s2 w2 r2 => q v F2 H2 s2 w2 (vOf.of r2)
theorem Ev.imp {U : Vw α} (h : Ev X e σ F Os W x Os1) (hi : ∀ F v, W.r F Os1 v x → U.r F Os1 v x) : Ev X e σ F Os U x Os1 := fun F1 H s w Q q => h.go s w fun v F2 H2 s2 w2 r2 => q v F2 H2 s2 w2 (hi _ _ r2)
/-- what is new may be frozen at once -/
theorem EvN.fz {O : α → OC} (h : EvN X e σ F Os (O x) Os1) : Ev X e σ F Os (rOf O).v x Os1 := fun F1 H s w Q q => h.go s w fun p F2 H2 s2 w2 => by
  obtain ⟨o, h1, h2, h3⟩ := w2.fz (i := 0) rfl
  exact q (.ref p) _ H2 (s2.trans h2) h3 ⟨p, o, rfl, upd_same, h1⟩
theorem EvN.eq {O O' : OC} (h : EvN X e σ F Os O Os1) (hx : O' = O) : EvN X e σ F Os O' Os1 := hx ▸ h
theorem EvN.eqO {O : α → OC} (h : EvN X e σ F Os (O x) Os1) (hx : x' = x) : EvN X e σ F Os (O x') Os1 := hx ▸ h
/-- a name in slot n -/
theorem ev_var {n : Nat} {nm : Str} {v : V} (hv : σ[n]? = some (some v)) (hr : W.r F Os v x) (hN : X.N[n]? = some nm := by rfl) (hV : Vis X.env.scope nm := by first | exact Or.inl rfl | exact Or.inr (Or.inl rfl) | exact Or.inr (Or.inr rfl)) (hd : (nm == ("__debug__" : Str)) = false := by decide)
    (hcd : (nm == ("__classdict__" : Str)) = false := by decide) : Ev X (.Name nm pos) σ F Os W x Os := fun F1 H s w Q q =>
  w_pe (pe_var hN hV hd hcd) ⟨v, hv, q v F1 H (Same.refl _) w (W.mono s hr)⟩
theorem ev_int {m : Nat} : Ev X (.Constant (.int i) m pos) σ F Os rInt.v i Os := fun F1 H s w Q q => w_pe pe_int (q _ F1 H (Same.refl _) w rfl)
theorem ev_bool {m : Nat} : Ev X (.Constant (.bool k) m pos) σ F Os rBool.v k Os := fun F1 H s w Q q => w_pe pe_bl (q _ F1 H (Same.refl _) w rfl)
theorem ev_str {m : Nat} {t : Str} : Ev X (.Constant (.str t) m pos) σ F Os rStr.v t Os := fun F1 H s w Q q => w_pe pe_str (q _ F1 H (Same.refl _) w rfl)
theorem ev_none {m : Nat} : Ev X (.Constant .none m pos) σ F Os rNone.v () Os := fun F1 H s w Q q => w_pe pe_non (q _ F1 H (Same.refl _) w rfl)
theorem ev_opt {R : Rep α} (h : Ev X e σ F Os R.v x Os1) (hn : ∀ F v, R.r F v x → v ≠ .non) : Ev X e σ F Os (rOpt R).v (some x) Os1 := fun F1 H s w Q q => h.go s w fun v F2 H2 s2 w2 r2 => q v F2 H2 s2 w2 ⟨r2, hn F2 v r2⟩
theorem ev_optN {R : Rep α} (h : Ev X e σ F Os rNone.v () Os1) : Ev X e σ F Os (rOpt R).v none Os1 := fun F1 H s w Q q => h.go s w fun v F2 H2 s2 w2 r2 => q v F2 H2 s2 w2 r2
/-! arithmetic -/
theorem ev_add (ha : Ev X a σ F Os rInt.v i Os1) (hb : Ev X b σ F Os1 rInt.v j Os2) : Ev X (.BinOp a .Add b pos) σ F Os rInt.v (i + j) Os2 := fun F1 H s w Q q =>
  w_pe (pe_op op_add pe_w pe_w) (ha.go s w fun v F2 H2 s2 w2 r2 => hb.go (s.trans s2) w2 fun u F3 H3 s3 w3 r3 => ⟨i, j, r2, r3, q _ F3 H3 (s2.trans s3) w3 rfl⟩)
theorem ev_sub (ha : Ev X a σ F Os rInt.v i Os1) (hb : Ev X b σ F Os1 rInt.v j Os2) : Ev X (.BinOp a .Sub b pos) σ F Os rInt.v (i - j) Os2 := fun F1 H s w Q q =>
  w_pe (pe_op op_sub pe_w pe_w) (ha.go s w fun v F2 H2 s2 w2 r2 => hb.go (s.trans s2) w2 fun u F3 H3 s3 w3 r3 => ⟨i, j, r2, r3, q _ F3 H3 (s2.trans s3) w3 rfl⟩)
theorem ev_mul (ha : Ev X a σ F Os rInt.v i Os1) (hb : Ev X b σ F Os1 rInt.v j Os2) (hc : CMul i j) : Ev X (.BinOp a .Mult b pos) σ F Os rInt.v (i * j) Os2 := fun F1 H s w Q q =>
  w_pe (pe_op op_mul pe_w pe_w) (ha.go s w fun v F2 H2 s2 w2 r2 => hb.go (s.trans s2) w2 fun u F3 H3 s3 w3 r3 => ⟨i, j, r2, r3, hc, q _ F3 H3 (s2.trans s3) w3 rfl⟩)
theorem ev_mulO (h : mulO i j = some z) (ha : Ev X a σ F Os rInt.v i Os1) (hb : Ev X b σ F Os1 rInt.v j Os2) : Ev X (.BinOp a .Mult b pos) σ F Os rInt.v z Os2 := (ev_mul ha hb (mulO_some h).1).eq (mulO_some h).2
theorem ev_div (ha : Ev X a σ F Os rInt.v i Os1) (hb : Ev X b σ F Os1 rInt.v j Os2) (hc : CDivW i j) : Ev X (.BinOp a .FloorDiv b pos) σ F Os rInt.v (i / j) Os2 := fun F1 H s w Q q =>
  w_pe (pe_op op_fdivW pe_w pe_w) (ha.go s w fun v F2 H2 s2 w2 r2 => hb.go (s.trans s2) w2 fun u F3 H3 s3 w3 r3 => ⟨i, j, r2, r3, hc, q _ F3 H3 (s2.trans s3) w3 rfl⟩)
theorem ev_divO (h : divO i j = some z) (ha : Ev X a σ F Os rInt.v i Os1) (hb : Ev X b σ F Os1 rInt.v j Os2) : Ev X (.BinOp a .FloorDiv b pos) σ F Os rInt.v z Os2 := (ev_div ha hb (divO_some h).1).eq (divO_some h).2
theorem ev_mod (ha : Ev X a σ F Os rInt.v i Os1) (hb : Ev X b σ F Os1 rInt.v j Os2) (hc : 0 < j) : Ev X (.BinOp a .Mod b pos) σ F Os rInt.v (i % j) Os2 := fun F1 H s w Q q =>
  w_pe (pe_op op_mod pe_w pe_w) (ha.go s w fun v F2 H2 s2 w2 r2 => hb.go (s.trans s2) w2 fun u F3 H3 s3 w3 r3 => ⟨i, j, r2, r3, hc, q _ F3 H3 (s2.trans s3) w3 rfl⟩)
theorem ev_modO (h : modO i j = some z) (ha : Ev X a σ F Os rInt.v i Os1) (hb : Ev X b σ F Os1 rInt.v j Os2) : Ev X (.BinOp a .Mod b pos) σ F Os rInt.v z Os2 := (ev_mod ha hb (modO_some h).1).eq (modO_some h).2
theorem ev_pow (ha : Ev X a σ F Os rInt.v i Os1) (hb : Ev X b σ F Os1 rInt.v j Os2) (hc : CPow i j) : Ev X (.BinOp a .Pow b pos) σ F Os rInt.v (i ^ j.toNat) Os2 := fun F1 H s w Q q =>
  w_pe (pe_op op_pow pe_w pe_w) (ha.go s w fun v F2 H2 s2 w2 r2 => hb.go (s.trans s2) w2 fun u F3 H3 s3 w3 r3 => ⟨i, j, r2, r3, hc, q _ F3 H3 (s2.trans s3) w3 rfl⟩)
theorem ev_neg (ha : Ev X a σ F Os rInt.v i Os1) : Ev X (.UnaryOp .USub a pos) σ F Os rInt.v (-i) Os1 := fun F1 H s w Q q =>
  w_pe (pe_un un_neg pe_w) (ha.go s w fun v F2 H2 s2 w2 r2 => ⟨i, r2, q _ F2 H2 s2 w2 rfl⟩)
/-! comparisons -/
theorem cp_lt : Cp X .Lt rInt.v rInt.v (fun i j => decide (i < j)) := ⟨_, op_lt, fun _ _ _ _ _ x y _ _ r1 r2 q => ⟨x, y, r1, r2, q⟩⟩
theorem cp_le : Cp X .LtE rInt.v rInt.v (fun i j => decide (i ≤ j)) := ⟨_, op_le, fun _ _ _ _ _ x y _ _ r1 r2 q => ⟨x, y, r1, r2, q⟩⟩
theorem cp_gt : Cp X .Gt rInt.v rInt.v (fun i j => decide (j < i)) := ⟨_, op_gt, fun _ _ _ _ _ x y _ _ r1 r2 q => ⟨x, y, r1, r2, q⟩⟩
theorem cp_ge : Cp X .GtE rInt.v rInt.v (fun i j => decide (j ≤ i)) := ⟨_, op_ge, fun _ _ _ _ _ x y _ _ r1 r2 q => ⟨x, y, r1, r2, q⟩⟩
theorem cp_eq : Cp X .Eq rInt.v rInt.v (fun i j => decide (i = j)) := ⟨_, op_eq, fun _ _ _ _ _ x y Q _ r1 r2 q => by
  cases (show _ = V.int x from r1); cases (show _ = V.int y from r2)
  refine ⟨rfl, ?_⟩
  rw [dec_int]
  have q : Q (V.bl (decide (x = y))) _ := q
  rwa [show decide (x = y) = (x == y) by rw [Bool.beq_eq_decide_eq]] at q⟩
theorem cp_ne : Cp X .NotEq rInt.v rInt.v (fun i j => decide (i ≠ j)) := ⟨_, op_ne, fun _ _ _ _ _ x y Q _ r1 r2 q => by
  cases (show _ = V.int x from r1); cases (show _ = V.int y from r2)
  refine ⟨rfl, ?_⟩
  rw [dec_int]
  have q : Q (V.bl (decide (x ≠ y))) _ := q
  rwa [show decide (x ≠ y) = !(x == y) by rw [Bool.beq_eq_decide_eq, decide_not]] at q⟩
/-- the left one of what never changes -/
theorem ev_cmp {op : CmpOp} {R : Rep α} {f : α → β → Bool} (hc : Cp X op R.v U f) (ha : Ev X a σ F Os R.v x Os1) (hb : Ev X b σ F Os1 U y Os2) (hm : behindInMarks op b = false := by exact nomark _) : Ev X (.Compare a [op] [b] pos) σ F Os rBool.v (f x y) Os2 := fun F1 H s w Q q => by
  obtain ⟨r, ho, hr⟩ := hc
  exact w_pe (pe_cmpR ho pe_w pe_w hm) (ha.go s w fun v F2 H2 s2 w2 r2 => hb.go (s.trans s2) w2 fun u F3 H3 s3 w3 r3 => hr F3 Os2 H3 v u x y Q w3 (R.mono s3 r2) r3 (q _ F3 H3 (s2.trans s3) w3 rfl))
theorem et_cmp {op : CmpOp} {R : Rep α} {f : α → β → Bool} (hc : Cp X op R.v U f) (ha : Ev X a σ F Os R.v x Os1) (hb : Ev X b σ F Os1 U y Os2) (hm : behindInMarks op b = false := by exact nomark _) : Et X (.Compare a [op] [b] pos) σ F Os (f x y) Os2 := fun F1 H s w Q q => by
  obtain ⟨r, ho, hr⟩ := hc
  exact w_pt (pt_cmpR ho pe_w pe_w hm) (ha.go s w fun v F2 H2 s2 w2 r2 => hb.go (s.trans s2) w2 fun u F3 H3 s3 w3 r3 => hr F3 Os2 H3 v u x y _ w3 (R.mono s3 r2) r3 ⟨_, rfl, q F3 H3 (s2.trans s3) w3⟩)
/-- the right one owns what it owned -/
theorem ev_cmpV {op : CmpOp} {f : α → β → Bool} (hc : Cp X op W U f) (ha : Ev X a σ F Os W x Os1) (hb : Ev X b σ F Os1 U y Os1) (hm : behindInMarks op b = false := by exact nomark _) : Ev X (.Compare a [op] [b] pos) σ F Os rBool.v (f x y) Os1 := fun F1 H s w Q q => by
  obtain ⟨r, ho, hr⟩ := hc
  exact w_pe (pe_cmpR ho pe_w pe_w hm) (ha.go s w fun v F2 H2 s2 w2 r2 => hb.go (s.trans s2) w2 fun u F3 H3 s3 w3 r3 => hr F3 Os1 H3 v u x y Q w3 (W.mono s3 r2) r3 (q _ F3 H3 (s2.trans s3) w3 rfl))
theorem et_cmpV {op : CmpOp} {f : α → β → Bool} (hc : Cp X op W U f) (ha : Ev X a σ F Os W x Os1) (hb : Ev X b σ F Os1 U y Os1) (hm : behindInMarks op b = false := by exact nomark _) : Et X (.Compare a [op] [b] pos) σ F Os (f x y) Os1 := fun F1 H s w Q q => by
  obtain ⟨r, ho, hr⟩ := hc
  exact w_pt (pt_cmpR ho pe_w pe_w hm) (ha.go s w fun v F2 H2 s2 w2 r2 => hb.go (s.trans s2) w2 fun u F3 H3 s3 w3 r3 => hr F3 Os1 H3 v u x y _ w3 (W.mono s3 r2) r3 ⟨_, rfl, q F3 H3 (s2.trans s3) w3⟩)
/-! tests -/
theorem et_val (h : Ev X e σ F Os rBool.v k Os1) (he : ∀ whole, isTrue e X.env whole = (do let v ← whole; standAt e.pos; holding [v] (truthy v)) := by intro _; rfl) : Et X e σ F Os k Os1 := fun F1 H s w Q q =>
  w_pt (pt_val pe_w he) (h.go s w fun v F2 H2 s2 w2 r2 => ⟨k, r2, q F2 H2 s2 w2⟩)
theorem et_not (h : Et X e σ F Os k Os1) : Et X (.UnaryOp .Not e pos) σ F Os (!k) Os1 := fun F1 H s w Q q =>
  w_pt (pt_not pt_w) (h.go s w fun F2 H2 s2 w2 => q F2 H2 s2 w2)
theorem ew_and1 (h : Et X a σ F Os k Os1) : Ew X (.BoolOp .And [a] pos) σ F Os k Os1 := fun F1 H s w Q q => w_pw (pw_and1 pt_w) (h F1 H s w _ q)
theorem ew_or1 (h : Et X a σ F Os k Os1) : Ew X (.BoolOp .Or [a] pos) σ F Os k Os1 := fun F1 H s w Q q => w_pw (pw_or1 pt_w) (h F1 H s w _ q)
/-- a and rest: rest is asked where a holds -/
theorem ew_andG {es : List Expr} (ha : Et X a σ F Os k Os1) (hb : k = true → Ew X (.BoolOp .And (b :: es) pos) σ F Os1 l Os1) (hf : k = false → l = false) : Ew X (.BoolOp .And (a :: b :: es) pos) σ F Os l Os1 := fun F1 H s w Q q =>
  w_pw (pw_and pt_w pw_w) (ha.go s w fun F2 H2 s2 w2 => by
    cases k with
    | true => exact (hb rfl).go (s.trans s2) w2 fun F3 H3 s3 w3 => q F3 H3 (s2.trans s3) w3
    | false =>
      cases hf rfl
      exact q F2 H2 s2 w2)
theorem ew_and {es : List Expr} (ha : Et X a σ F Os k Os1) (hb : Ew X (.BoolOp .And (b :: es) pos) σ F Os1 l Os1) : Ew X (.BoolOp .And (a :: b :: es) pos) σ F Os (k && l) Os1 := ew_andG ha (fun h => by subst h; exact hb) fun h => by subst h; rfl
theorem ew_orG {es : List Expr} (ha : Et X a σ F Os k Os1) (hb : k = false → Ew X (.BoolOp .Or (b :: es) pos) σ F Os1 l Os1) (hf : k = true → l = true) : Ew X (.BoolOp .Or (a :: b :: es) pos) σ F Os l Os1 := fun F1 H s w Q q =>
  w_pw (pw_or pt_w pw_w) (ha.go s w fun F2 H2 s2 w2 => by
    cases k with
    | false => exact (hb rfl).go (s.trans s2) w2 fun F3 H3 s3 w3 => q F3 H3 (s2.trans s3) w3
    | true =>
      cases hf rfl
      exact q F2 H2 s2 w2)
theorem ew_or {es : List Expr} (ha : Et X a σ F Os k Os1) (hb : Ew X (.BoolOp .Or (b :: es) pos) σ F Os1 l Os1) : Ew X (.BoolOp .Or (a :: b :: es) pos) σ F Os (k || l) Os1 := ew_orG ha (fun h => by subst h; exact hb) fun h => by subst h; rfl
theorem et_w (h : Ew X e σ F Os k Os1) : Et X e σ F Os k Os1 := fun F1 H s w Q q => w_pt (PW.pt pw_w) (h F1 H s w Q q)
/-! tests as values -/
theorem ev_not (h : Ev X e σ F Os rBool.v k Os1) : Ev X (.UnaryOp .Not e pos) σ F Os rBool.v (!k) Os1 := fun F1 H s w Q q =>
  w_pe (pe_not pe_w) (h.go s w fun v F2 H2 s2 w2 r2 => ⟨k, r2, q _ F2 H2 s2 w2 rfl⟩)
theorem ev_one {op} (h : Ev X a σ F Os W x Os1) : Ev X (.BoolOp op [a] pos) σ F Os W x Os1 := fun F1 H s w Q q => w_pe (pe_one pe_w) (h F1 H s w Q q)
theorem ev_andG {es : List Expr} (ha : Ev X a σ F Os rBool.v k Os1) (hb : k = true → Ev X (.BoolOp .And (b :: es) pos) σ F Os1 rBool.v l Os1) (hf : k = false → l = false) : Ev X (.BoolOp .And (a :: b :: es) pos) σ F Os rBool.v l Os1 := fun F1 H s w Q q =>
  w_pe (pe_and pe_w pe_w) (ha.go s w fun v F2 H2 s2 w2 r2 => ⟨k, r2, by
    cases k with
    | true => exact (hb rfl).go (s.trans s2) w2 fun v F3 H3 s3 w3 r3 => q v F3 H3 (s2.trans s3) w3 r3
    | false =>
      cases hf rfl
      exact q _ F2 H2 s2 w2 rfl⟩)
theorem ev_and {es : List Expr} (ha : Ev X a σ F Os rBool.v k Os1) (hb : Ev X (.BoolOp .And (b :: es) pos) σ F Os1 rBool.v l Os1) : Ev X (.BoolOp .And (a :: b :: es) pos) σ F Os rBool.v (k && l) Os1 := ev_andG ha (fun h => by subst h; exact hb) fun h => by subst h; rfl
theorem ev_orG {es : List Expr} (ha : Ev X a σ F Os rBool.v k Os1) (hb : k = false → Ev X (.BoolOp .Or (b :: es) pos) σ F Os1 rBool.v l Os1) (hf : k = true → l = true) : Ev X (.BoolOp .Or (a :: b :: es) pos) σ F Os rBool.v l Os1 := fun F1 H s w Q q =>
  w_pe (pe_or pe_w pe_w) (ha.go s w fun v F2 H2 s2 w2 r2 => ⟨k, r2, by
    cases k with
    | false => exact (hb rfl).go (s.trans s2) w2 fun v F3 H3 s3 w3 r3 => q v F3 H3 (s2.trans s3) w3 r3
    | true =>
      cases hf rfl
      exact q _ F2 H2 s2 w2 rfl⟩)
theorem ev_or {es : List Expr} (ha : Ev X a σ F Os rBool.v k Os1) (hb : Ev X (.BoolOp .Or (b :: es) pos) σ F Os1 rBool.v l Os1) : Ev X (.BoolOp .Or (a :: b :: es) pos) σ F Os rBool.v (k || l) Os1 := ev_orG ha (fun h => by subst h; exact hb) fun h => by subst h; rfl
theorem ev_ifG (hc : Et X c σ F Os k Os1) (ha : k = true → Ev X a σ F Os1 W x Os2) (hb : k = false → Ev X b σ F Os1 W x Os2) : Ev X (.IfExp c a b pos) σ F Os W x Os2 := fun F1 H s w Q q =>
  w_pe (pe_ifExp pt_w pe_w pe_w) (hc.go s w fun F2 H2 s2 w2 => by
    cases k with
    | true => exact (ha rfl).go (s.trans s2) w2 fun v F3 H3 s3 w3 r3 => q v F3 H3 (s2.trans s3) w3 r3
    | false => exact (hb rfl).go (s.trans s2) w2 fun v F3 H3 s3 w3 r3 => q v F3 H3 (s2.trans s3) w3 r3)
theorem ev_if (hc : Et X c σ F Os k Os1) (ha : Ev X a σ F Os1 W x Os2) (hb : Ev X b σ F Os1 W x' Os2) : Ev X (.IfExp c a b pos) σ F Os W (if k = true then x else x') Os2 :=
  ev_ifG hc (fun h => by subst h; exact ha) fun h => by subst h; exact hb
end
end Z

namespace Z
open PySem PySem.Spec L2
section
variable {α β γ : Type} {X : Cx} {e a b c it : Expr} {es : List Expr} {pos p1 p2 : Pos} {σ : St} {F F' H : Hp} {Os Os1 Os2 Os3 : Owns} {W : Vw α} {U : Vw β} {R : Rep α} {S : Rep β} {T : Rep γ} {x x' : α} {y : β} {z : γ} {i j : Int} {k k' l : Bool} {xs ys zs : List α} {D : Ends} {rest body : List Stmt} {n m : Nat} {nm : Str} {v : V}
/-! ### arguments -/
/-- no more arguments; owned are Os -/
def PN (Os : Owns) : Hp → Owns → List V → Prop := fun _ Os' vs => Os' = Os ∧ vs = []
def PC1 (R : Rep α) (x : α) (P : Hp → Owns → List V → Prop) : Hp → Owns → List V → Prop := fun F Os vs => ∃ v r, vs = v :: r ∧ R.r F v x ∧ P F Os r
/-- a new object, owned from here on -/
def PCN (P : Addr → Hp → Owns → List V → Prop) : Hp → Owns → List V → Prop := fun F Os vs => ∃ p r, vs = .ref p :: r ∧ P p F Os r
theorem ea_nil : Ea X [] σ F Os (PN Os) := fun F1 H s w Q q => w_pa pa_nil (q [] F1 Os H (Same.refl _) w ⟨rfl, rfl⟩)
theorem ea_cons {P : Hp → Owns → List V → Prop} (h : Ev X e σ F Os R.v x Os1) (hr : Ea X es σ F Os1 P) (hs : starEach (e :: es) X.env = (false, eval e X.env) :: starEach es X.env := by rfl) : Ea X (e :: es) σ F Os (PC1 R x P) := fun F1 H s w Q q =>
  w_pa (pa_cons pe_w pa_w hs) (h.go s w fun v F2 H2 s2 w2 r2 => hr.go (s.trans s2) w2 fun vs F3 Os3 H3 s3 w3 r3 => q (v :: vs) F3 Os3 H3 (s2.trans s3) w3 ⟨v, vs, rfl, R.mono s3 r2, r3⟩)
theorem ea_new {O : OC} {P : Addr → Hp → Owns → List V → Prop} (h : EvN X e σ F Os O Os1) (hr : ∀ p, Ea X es σ F ((p, O) :: Os1) (P p)) (hs : starEach (e :: es) X.env = (false, eval e X.env) :: starEach es X.env := by rfl) : Ea X (e :: es) σ F Os (PCN P) := fun F1 H s w Q q =>
  w_pa (pa_cons pe_w pa_w hs) (h.go s w fun p F2 H2 s2 w2 => (hr p).go (s.trans s2) w2 fun vs F3 Os3 H3 s3 w3 r3 => q (.ref p :: vs) F3 Os3 H3 (s2.trans s3) w3 ⟨p, vs, rfl, r3⟩)
/-! ### displays -/
theorem ev_tup2 {x1 : Nat} (ea : Ea X [a, b] σ F Os (PC1 R x (PC1 S y (PN Os2)))) : Ev X (.Tuple [a, b] x1 pos) σ F Os (rT2 R S).v (x, y) Os2 := fun F1 H s w Q q =>
  w_pe (pe_tup pa_w) (ea.go s w fun vs F2 Os' H2 s2 w2 ⟨v1, _, e1, r1, v2, _, e2, r2, e0, e3⟩ => by
    cases e1; cases e2; cases e3; cases e0
    refine ⟨(show 2 ≤ sizeLine by rw [sizeLine_eq]; decide), fun p hp => ?_⟩
    exact q _ _ _ (s2.trans (w2.frozS hp)) (w2.froz hp) ⟨p, v1, v2, rfl, upd_same, R.mono (w2.frozS hp) r1, S.mono (w2.frozS hp) r2⟩)
theorem ev_tup3 {x1 : Nat} (ea : Ea X [a, b, c] σ F Os (PC1 R x (PC1 S y (PC1 T z (PN Os2))))) : Ev X (.Tuple [a, b, c] x1 pos) σ F Os (rT3 R S T).v (x, y, z) Os2 := fun F1 H s w Q q =>
  w_pe (pe_tup pa_w) (ea.go s w fun vs F2 Os' H2 s2 w2 ⟨v1, _, e1, r1, v2, _, e2, r2, v3, _, e3, r3, e0, e4⟩ => by
    cases e1; cases e2; cases e3; cases e4; cases e0
    refine ⟨(show 3 ≤ sizeLine by rw [sizeLine_eq]; decide), fun p hp => ?_⟩
    exact q _ _ _ (s2.trans (w2.frozS hp)) (w2.froz hp) ⟨p, v1, v2, v3, rfl, upd_same, R.mono (w2.frozS hp) r1, S.mono (w2.frozS hp) r2, T.mono (w2.frozS hp) r3⟩)
/-- items alike -/
def PL (R : Rep α) (xs : List α) (Os : Owns) : Hp → Owns → List V → Prop := fun F Os' vs => Os' = Os ∧ Paired (R.r F) vs xs
theorem el_nil : Ea X [] σ F Os (PL R [] Os) := fun F1 H s w Q q => w_pa pa_nil (q [] F1 Os H (Same.refl _) w ⟨rfl, .nil⟩)
theorem el_cons (h : Ev X e σ F Os R.v x Os1) (hr : Ea X es σ F Os1 (PL R xs Os2)) (hs : starEach (e :: es) X.env = (false, eval e X.env) :: starEach es X.env := by rfl) : Ea X (e :: es) σ F Os (PL R (x :: xs) Os2) := fun F1 H s w Q q =>
  w_pa (pa_cons pe_w pa_w hs) (h.go s w fun v F2 H2 s2 w2 r2 => hr.go (s.trans s2) w2 fun vs F3 Os3 H3 s3 w3 r3 => q (v :: vs) F3 Os3 H3 (s2.trans s3) w3 ⟨r3.1, .cons (R.mono s3 r2) r3.2⟩)
theorem evn_list (h : Ea X es σ F Os (PL R xs Os1)) (hz : xs.length ≤ 16777216 := by exact (by decide : _ ≤ 16777216)) : EvN X (.List es pos) σ F Os (oList R xs) Os1 := fun F1 H s w Q q =>
  w_pe (pe_lst pa_w) (h.go s w fun vs F2 Os' H2 s2 w2 ⟨e0, r2⟩ => ⟨by rw [sizeLine_eq, r2.length]; exact hz, fun p hp => by
    cases e0
    exact q p F2 _ s2 (w2.new hp ⟨vs, rfl, r2⟩)⟩)
theorem ev_vtup {x1 : Nat} (h : Ea X es σ F Os (PL R xs Os1)) (hz : xs.length ≤ 16777216 := by exact (by decide : _ ≤ 16777216)) : Ev X (.Tuple es x1 pos) σ F Os (rTup R).v xs Os1 := fun F1 H s w Q q =>
  w_pe (pe_tup pa_w) (h.go s w fun vs F2 Os' H2 s2 w2 ⟨e0, r2⟩ => ⟨by rw [sizeLine_eq, r2.length]; exact hz, fun p hp => by
    cases e0
    exact q _ _ _ (s2.trans (w2.frozS hp)) (w2.froz hp) ⟨p, vs, rfl, upd_same, paired_mono (fun _ _ t => R.mono (w2.frozS hp) t) r2⟩⟩)
/-! ### items -/
theorem atI_paired {β : Type} {Q : V → β → Prop} {vs : List V} {ys : List β} {y : β} (h : Paired Q vs ys) (e : atI ys i = some y) : ∃ u, atI vs i = some u ∧ Q u y := by
  unfold atI at e ⊢
  rw [h.length]
  cases h1 : ixN ys.length i with
  | none => rw [h1] at e; cases e
  | some j =>
    rw [h1] at e
    exact paired_get h e
theorem ev_ixL (h : ix xs i = some x) (ha : Ev X a σ F Os (vList R) xs Os1) (hb : Ev X b σ F Os1 rInt.v i Os1) (hp : PlainIx b := by exact (fun _ _ => rfl)) : Ev X (.Subscript a b pos) σ F Os R.v x Os1 := fun F1 H s w Q q =>
  w_pe (pe_ix ix_list pe_w pe_w hp) (ha.go s w fun v F2 H2 s2 w2 r2 => hb.go (s.trans s2) w2 fun u F3 H3 s3 w3 r3 => by
    obtain ⟨p, o, e1, h1, vs, e2, h2⟩ := vOf.get w3 ((vOf (oList R)).mono s3 r2)
    cases e2
    obtain ⟨t, g1, g2⟩ := atI_paired h2 h
    exact ⟨p, vs, i, t, e1, r3, .of h1, g1, q t F3 H3 (s2.trans s3) w3 g2⟩)
theorem ev_ixV (h : ix xs i = some x) (ha : Ev X a σ F Os (rTup R).v xs Os1) (hb : Ev X b σ F Os1 rInt.v i Os2) (hp : PlainIx b := by exact (fun _ _ => rfl)) : Ev X (.Subscript a b pos) σ F Os R.v x Os2 := fun F1 H s w Q q =>
  w_pe (pe_ix ix_tup pe_w pe_w hp) (ha.go s w fun v F2 H2 s2 w2 r2 => hb.go (s.trans s2) w2 fun u F3 H3 s3 w3 r3 => by
    obtain ⟨p, vs, e1, h1, h2⟩ := (rTup R).mono s3 r2
    obtain ⟨t, g1, g2⟩ := atI_paired h2 h
    exact ⟨p, vs, i, t, e1, r3, .of (w3.sub _ _ h1), g1, q t F3 H3 (s2.trans s3) w3 g2⟩)
theorem ev_t2a {w2 : α × β} {d : Nat} {p3 : Pos} (ha : Ev X a σ F Os (rT2 R S).v w2 Os1) : Ev X (.Subscript a (.Constant (.int 0) d p3) pos) σ F Os R.v w2.1 Os1 := fun F1 H s w Q q =>
  w_pe (pe_ix ix_tup pe_w pe_int (fun _ _ => rfl)) (ha.go s w fun v F2 H2 s2 w2 r2 => by
    obtain ⟨p, u1, u2, e1, h1, h2, h3⟩ := r2
    exact ⟨p, _, 0, u1, e1, rfl, .of (w2.sub _ _ h1), rfl, q _ F2 H2 s2 w2 h2⟩)
theorem ev_t2b {w2 : α × β} {d : Nat} {p3 : Pos} (ha : Ev X a σ F Os (rT2 R S).v w2 Os1) : Ev X (.Subscript a (.Constant (.int 1) d p3) pos) σ F Os S.v w2.2 Os1 := fun F1 H s w Q q =>
  w_pe (pe_ix ix_tup pe_w pe_int (fun _ _ => rfl)) (ha.go s w fun v F2 H2 s2 w2 r2 => by
    obtain ⟨p, u1, u2, e1, h1, h2, h3⟩ := r2
    exact ⟨p, _, 1, u2, e1, rfl, .of (w2.sub _ _ h1), rfl, q _ F2 H2 s2 w2 h3⟩)
theorem ev_t3a {w2 : α × β × γ} {d : Nat} {p3 : Pos} (ha : Ev X a σ F Os (rT3 R S T).v w2 Os1) : Ev X (.Subscript a (.Constant (.int 0) d p3) pos) σ F Os R.v w2.1 Os1 := fun F1 H s w Q q =>
  w_pe (pe_ix ix_tup pe_w pe_int (fun _ _ => rfl)) (ha.go s w fun v F2 H2 s2 w2 r2 => by
    obtain ⟨p, u1, u2, u3, e1, h1, h2, h3, h4⟩ := r2
    exact ⟨p, _, 0, u1, e1, rfl, .of (w2.sub _ _ h1), rfl, q _ F2 H2 s2 w2 h2⟩)
theorem ev_t3b {w2 : α × β × γ} {d : Nat} {p3 : Pos} (ha : Ev X a σ F Os (rT3 R S T).v w2 Os1) : Ev X (.Subscript a (.Constant (.int 1) d p3) pos) σ F Os S.v w2.2.1 Os1 := fun F1 H s w Q q =>
  w_pe (pe_ix ix_tup pe_w pe_int (fun _ _ => rfl)) (ha.go s w fun v F2 H2 s2 w2 r2 => by
    obtain ⟨p, u1, u2, u3, e1, h1, h2, h3, h4⟩ := r2
    exact ⟨p, _, 1, u2, e1, rfl, .of (w2.sub _ _ h1), rfl, q _ F2 H2 s2 w2 h3⟩)
theorem ev_t3c {w2 : α × β × γ} {d : Nat} {p3 : Pos} (ha : Ev X a σ F Os (rT3 R S T).v w2 Os1) : Ev X (.Subscript a (.Constant (.int 2) d p3) pos) σ F Os T.v w2.2.2 Os1 := fun F1 H s w Q q =>
  w_pe (pe_ix ix_tup pe_w pe_int (fun _ _ => rfl)) (ha.go s w fun v F2 H2 s2 w2 r2 => by
    obtain ⟨p, u1, u2, u3, e1, h1, h2, h3, h4⟩ := r2
    exact ⟨p, _, 2, u3, e1, rfl, .of (w2.sub _ _ h1), rfl, q _ F2 H2 s2 w2 h4⟩)
theorem sqL_mono {K : PySem.W.Frag} {F H : Hp} {Os : Owns} {p : Addr} {vs : List V} (w : Wf F Os H) (h : SqL K F p vs) : SqL K H p vs := Same.seq w.sub h
theorem ev_ixS {xs : List Int} {x : Int} (h : ix xs i = some x) (ha : Ev X a σ F Os (rScr X.K).v xs Os1) (hb : Ev X b σ F Os1 rInt.v i Os2) (hp : PlainIx b := by exact (fun _ _ => rfl)) : Ev X (.Subscript a b pos) σ F Os rInt.v x Os2 := fun F1 H s w Q q =>
  w_pe (pe_ix ix_list pe_w pe_w hp) (ha.go s w fun v F2 H2 s2 w2 r2 => hb.go (s.trans s2) w2 fun u F3 H3 s3 w3 r3 => by
    obtain ⟨p, e1, h1⟩ := (rScr X.K).mono s3 r2
    refine ⟨p, xs.map V.int, i, .int x, e1, r3, sqL_mono w3 h1, ?_, q _ F3 H3 (s2.trans s3) w3 rfl⟩
    unfold ix atI at h
    unfold atI
    rw [List.length_map]
    cases hj : ixN xs.length i with
    | none => rw [hj] at h; cases h
    | some j =>
      rw [hj] at h
      show (xs.map V.int)[j]? = some (V.int x)
      rw [List.getElem?_map, show xs[j]? = some x from h]
      rfl)
theorem ev_t2tup {w2 : α × α} (h : Ev X e σ F Os (rT2 R R).v w2 Os1) : Ev X e σ F Os (rTup R).v [w2.1, w2.2] Os1 := fun F1 H s w Q q => h.go s w fun v F2 H2 s2 w2 r2 => q v F2 H2 s2 w2 (by
  obtain ⟨p, u1, u2, e1, h1, h2, h3⟩ := r2
  exact ⟨p, _, e1, h1, .cons h2 (.cons h3 .nil)⟩)
theorem ev_t3tup {w2 : α × α × α} (h : Ev X e σ F Os (rT3 R R R).v w2 Os1) : Ev X e σ F Os (rTup R).v [w2.1, w2.2.1, w2.2.2] Os1 := fun F1 H s w Q q => h.go s w fun v F2 H2 s2 w2 r2 => q v F2 H2 s2 w2 (by
  obtain ⟨p, u1, u2, u3, e1, h1, h2, h3, h4⟩ := r2
  exact ⟨p, _, e1, h1, .cons h2 (.cons h3 (.cons h4 .nil))⟩)
/-! ### lists joined -/
theorem evn_cat (h : cat xs ys = some zs) (ha : Ev X a σ F Os (rList R).v xs Os1) (hb : Ev X b σ F Os1 (rList R).v ys Os2) : EvN X (.BinOp a .Add b pos) σ F Os (oList R zs) Os2 := fun F1 H s w Q q =>
  w_pe (pe_op op_cat pe_w pe_w) (ha.go s w fun v F2 H2 s2 w2 r2 => hb.go (s.trans s2) w2 fun u F3 H3 s3 w3 r3 => by
    obtain ⟨h1, rfl⟩ := cat_some h
    obtain ⟨p, o, e1, g1, vs, e2, q1⟩ := (rList R).mono s3 r2
    obtain ⟨p', o', e1', g1', vs', e2', q1'⟩ := r3
    cases e2; cases e2'
    exact ⟨p, p', vs, vs', e1, e1', w3.sub _ _ g1, w3.sub _ _ g1', by rw [q1.length, q1'.length]; exact h1, fun pp hp => q pp F3 _ (s2.trans s3) (w3.new hp ⟨_, rfl, paired_append q1 q1'⟩)⟩)
theorem evn_catV (h : cat xs ys = some zs) (ha : Ev X a σ F Os (vList R) xs Os1) (hb : Ev X b σ F Os1 (vList R) ys Os1) : EvN X (.BinOp a .Add b pos) σ F Os (oList R zs) Os1 := fun F1 H s w Q q =>
  w_pe (pe_op op_cat pe_w pe_w) (ha.go s w fun v F2 H2 s2 w2 r2 => hb.go (s.trans s2) w2 fun u F3 H3 s3 w3 r3 => by
    obtain ⟨h1, rfl⟩ := cat_some h
    obtain ⟨p, o, e1, g1, vs, e2, q1⟩ := vOf.get w3 ((vOf (oList R)).mono s3 r2)
    obtain ⟨p', o', e1', g1', vs', e2', q1'⟩ := vOf.get w3 r3
    cases e2; cases e2'
    exact ⟨p, p', vs, vs', e1, e1', g1, g1', by rw [q1.length, q1'.length]; exact h1, fun pp hp => q pp F3 _ (s2.trans s3) (w3.new hp ⟨_, rfl, paired_append q1 q1'⟩)⟩)
/-! ### built-in functions of one argument -/
theorem ev_cb1 {id : String} {r : List V → Hp → VK → Prop} (hc : CallR X (.builtin id) r) (ha : Ev X a σ F Os W x Os1)
    (hr : ∀ F H v (Q : VK), Wf F Os1 H → W.r F Os1 v x → (∀ u F' H', Same F F' → Wf F' Os2 H' → U.r F' Os2 u y → Q u H') → r [v] H Q)
    (hg : Gl X nm) (hm : X.mg nm = none) (hv : bootBuiltins nm = some (.builtin id)) (hn : nm ≠ "__name__" := by decide) (hdb : (nm == ("__debug__" : Str)) = false := by decide)
    (he : starEach [a] X.env = (false, eval a X.env) :: starEach [] X.env := by rfl) (hpl : (backTo pos (starEach [] X.env)).any (·.1) = false := by rfl) : Ev X (.Call (.Name nm p1) [a] [] pos) σ F Os U y Os2 := fun F1 H s w Q q =>
  w_pe (pe_callB hc hg hm hv (pa_cons pe_w pa_nil he) hn hdb he hpl) (ha.go s w fun v F2 H2 s2 w2 r2 => hr F2 H2 v Q w2 r2 fun u F3 H3 s3 w3 r3 => q u F3 H3 (s2.trans s3) w3 r3)
theorem ev_ct1 {id : String} {r : List V → Hp → VK → Prop} (hc : CallR X (.type id) r) (ha : Ev X a σ F Os W x Os1)
    (hr : ∀ F H v (Q : VK), Wf F Os1 H → W.r F Os1 v x → (∀ u F' H', Same F F' → Wf F' Os2 H' → U.r F' Os2 u y → Q u H') → r [v] H Q)
    (hg : Gl X nm) (hm : X.mg nm = none) (hv : bootBuiltins nm = some (.type id)) (hn : nm ≠ "__name__" := by decide) (hdb : (nm == ("__debug__" : Str)) = false := by decide)
    (he : starEach [a] X.env = (false, eval a X.env) :: starEach [] X.env := by rfl) (hpl : (backTo pos (starEach [] X.env)).any (·.1) = false := by rfl) : Ev X (.Call (.Name nm p1) [a] [] pos) σ F Os U y Os2 := fun F1 H s w Q q =>
  w_pe (pe_callTy hc hg hm hv (pa_cons pe_w pa_nil he) hn hdb he hpl) (ha.go s w fun v F2 H2 s2 w2 r2 => hr F2 H2 v Q w2 r2 fun u F3 H3 s3 w3 r3 => q u F3 H3 (s2.trans s3) w3 r3)
theorem ev_len (ha : Ev X a σ F Os (vList R) xs Os1) (hm : X.mg "len" = none) (hg : Gl X "len" := by rfl) (he : starEach [a] X.env = (false, eval a X.env) :: starEach [] X.env := by rfl) (hpl : (backTo pos (starEach [] X.env)).any (·.1) = false := by rfl) : Ev X (.Call (.Name "len" p1) [a] [] pos) σ F Os rInt.v (xs.length : Int) Os1 :=
  ev_cb1 call_len_seq ha (fun F H v Q w r q => by
    obtain ⟨p, o, e1, h1, vs, e2, h2⟩ := vOf.get w r
    cases e1; cases e2
    exact ⟨p, vs, rfl, .inl (.of h1), by rw [h2.length]; exact q _ F H (Same.refl _) w rfl⟩) hg hm PySem.boot_len (by decide) (by decide) he hpl
theorem ev_lenS {xs : List Int} (ha : Ev X a σ F Os (rScr X.K).v xs Os1) (hm : X.mg "len" = none) (hg : Gl X "len" := by rfl) (he : starEach [a] X.env = (false, eval a X.env) :: starEach [] X.env := by rfl) (hpl : (backTo pos (starEach [] X.env)).any (·.1) = false := by rfl) : Ev X (.Call (.Name "len" p1) [a] [] pos) σ F Os rInt.v (xs.length : Int) Os1 :=
  ev_cb1 call_len_seq ha (fun F H v Q w r q => by
    obtain ⟨p, e1, h1⟩ := r
    cases e1
    exact ⟨p, xs.map V.int, rfl, .inl (sqL_mono w h1), by rw [List.length_map]; exact q _ F H (Same.refl _) w rfl⟩) hg hm PySem.boot_len (by decide) (by decide) he hpl
theorem ev_lenT (ha : Ev X a σ F Os (rTup R).v xs Os1) (hm : X.mg "len" = none) (hg : Gl X "len" := by rfl) (he : starEach [a] X.env = (false, eval a X.env) :: starEach [] X.env := by rfl) (hpl : (backTo pos (starEach [] X.env)).any (·.1) = false := by rfl) : Ev X (.Call (.Name "len" p1) [a] [] pos) σ F Os rInt.v (xs.length : Int) Os1 :=
  ev_cb1 call_len_seq ha (fun F H v Q w r q => by
    obtain ⟨p, vs, e1, h1, h2⟩ := r
    cases e1
    exact ⟨p, vs, rfl, .inr (.of (w.sub _ _ h1)), by rw [h2.length]; exact q _ F H (Same.refl _) w rfl⟩) hg hm PySem.boot_len (by decide) (by decide) he hpl
theorem ev_lenT2 {w2 : α × β} (ha : Ev X a σ F Os (rT2 R S).v w2 Os1) (hm : X.mg "len" = none) (hg : Gl X "len" := by rfl) (he : starEach [a] X.env = (false, eval a X.env) :: starEach [] X.env := by rfl) (hpl : (backTo pos (starEach [] X.env)).any (·.1) = false := by rfl) : Ev X (.Call (.Name "len" p1) [a] [] pos) σ F Os rInt.v 2 Os1 :=
  ev_cb1 call_len_seq ha (fun F H v Q w r q => by
    obtain ⟨p, u1, u2, e1, h1, h2⟩ := r
    cases e1
    exact ⟨p, _, rfl, .inr (.of (w.sub _ _ h1)), q _ F H (Same.refl _) w rfl⟩) hg hm PySem.boot_len (by decide) (by decide) he hpl
theorem ev_intI (ha : Ev X a σ F Os rInt.v i Os1) (hm : X.mg "int" = none) (hg : Gl X "int" := by rfl) (he : starEach [a] X.env = (false, eval a X.env) :: starEach [] X.env := by rfl) (hpl : (backTo pos (starEach [] X.env)).any (·.1) = false := by rfl) : Ev X (.Call (.Name "int" p1) [a] [] pos) σ F Os rInt.v i Os1 :=
  ev_ct1 call_int1 ha (fun F H v Q w r q => .inl ⟨i, by rw [show v = V.int i from r], q _ F H (Same.refl _) w rfl⟩) hg hm (by decide +kernel) (by decide) (by decide) he hpl
theorem ev_intB (ha : Ev X a σ F Os rBool.v k Os1) (hm : X.mg "int" = none) (hg : Gl X "int" := by rfl) (he : starEach [a] X.env = (false, eval a X.env) :: starEach [] X.env := by rfl) (hpl : (backTo pos (starEach [] X.env)).any (·.1) = false := by rfl) : Ev X (.Call (.Name "int" p1) [a] [] pos) σ F Os rInt.v (if k = true then 1 else 0) Os1 :=
  ev_ct1 call_int1 ha (fun F H v Q w r q => .inr ⟨k, by rw [show v = V.bl k from r], q _ F H (Same.refl _) w rfl⟩) hg hm (by decide +kernel) (by decide) (by decide) he hpl
/-! ### isinstance with a built-in class -/
def TyI (W : Vw α) (x : α) (t : String) : Prop := ∀ (K : PySem.W.Frag) F Os H v, Wf F Os H → W.r F Os v x → TyX K H v (.type t)
theorem ty_int : TyI rInt.v i "int" := fun K F Os H v w r => by
  cases (show v = V.int i from r)
  exact .base (.int i)
theorem ty_bool : TyI rBool.v k "bool" := fun K F Os H v w r => by
  cases (show v = V.bl k from r)
  exact .base (.bl k)
theorem ty_str {t : Str} : TyI rStr.v t "str" := fun K F Os H v w r => by
  cases (show v = V.str t from r)
  exact .base (.str t)
theorem ty_list : TyI (vList R) xs "list" := fun K F Os H v w r => by
  obtain ⟨p, o, e1, h1, vs, e2, h2⟩ := vOf.get w r
  cases e1; cases e2
  exact .base (.lst h1)
theorem ty_tup : TyI (rTup R).v xs "tuple" := fun K F Os H v w r => by
  obtain ⟨p, vs, e1, h1, h2⟩ := r
  cases e1
  exact .base (.tup (w.sub _ _ h1))
theorem ty_t2 {w2 : α × β} : TyI (rT2 R S).v w2 "tuple" := fun K F Os H v w r => by
  obtain ⟨p, u1, u2, e1, h1, h2⟩ := r
  cases e1
  exact .base (.tup (w.sub _ _ h1))
theorem ty_t3 {w2 : α × β × γ} : TyI (rT3 R S T).v w2 "tuple" := fun K F Os H v w r => by
  obtain ⟨p, u1, u2, u3, e1, h1, h2⟩ := r
  cases e1
  exact .base (.tup (w.sub _ _ h1))
theorem ev_isi {t u : String} {tn : Str} (hk : kitB t u = some k) (ht : TyI W x t) (ha : Ev X a σ F Os W x Os1) (hm : X.mg "isinstance" = none) (hm2 : X.mg tn = none) (hv2 : bootBuiltins tn = some (.type u)) (hg : Gl X "isinstance" := by rfl) (hg2 : Gl X tn := by rfl) (hn : tn ≠ "__name__" := by decide) (hd : (tn == ("__debug__" : Str)) = false := by decide)
    (he : starEach [a, .Name tn p2] X.env = (false, eval a X.env) :: starEach [.Name tn p2] X.env := by rfl) (he2 : starEach [.Name tn p2] X.env = (false, eval (.Name tn p2) X.env) :: starEach [] X.env := by rfl) (hpl : (backTo pos (starEach [.Name tn p2] X.env)).any (·.1) = false := by rfl) :
    Ev X (.Call (.Name "isinstance" p1) [a, .Name tn p2] [] pos) σ F Os rBool.v k Os1 := fun F1 H s w Q q =>
  w_pe (pe_callB call_isi hg hm (by decide +kernel) (pa_cons pe_w (pa_cons (pe_bltn (v := .ty u) hg2 hm2 hv2 rfl hn hd) pa_nil he2) he) (by decide) (by decide) he hpl)
    (ha.go s w fun v F2 H2 s2 w2 r2 => ⟨v, .ty u, .type t, .type u, k, rfl, .ty u, ht X.K F2 Os1 H2 v w2 r2, kit_ty hk, q _ F2 H2 s2 w2 rfl⟩)

/-! ### calls of the program's own defs -/
theorem ev_call {sp : Sp} {CX : CXT} {kk : Nat} {f : Addr} {fd : FuncData} {ps : List Str} {P : Hp → Owns → List V → Prop} (G : FnOk X.prog X.w X.K X.mg X.base CX kk f fd ps sp) (hr : Room kk X.A) (hm : X.mg nm = some (.ref f)) (hk : PySem.W.keepIn X.K (.ref f) = true) (hb : Binds X.K fd ps []) (hx : Passes CX X E0)
    (ha : Ea X (e :: es) σ F Os P) (h : ∀ F' Os' H' vs (Q : VK), Wf F' Os' H' → P F' Os' vs → (∀ u F2 H2, Same F' F2 → Wf F2 Os2 H2 → U.r F2 Os2 u y → Q u H2) → sp vs H' Q E0)
    (hg : Gl X nm := by rfl) (hdb : (nm == ("__debug__" : Str)) = false := by decide) (he : starEach (e :: es) X.env = (false, eval e X.env) :: starEach es X.env := by rfl) (hpl : (backTo pos (starEach es X.env)).any (·.1) = false := by rfl) :
    Ev X (.Call (.Name nm p1) (e :: es) [] pos) σ F Os U y Os2 := fun F1 H s w Q q =>
  w_pe (pe_call G hr hg hm hk hb .nil hx pa_w hdb he hpl) (ha.go s w fun vs F2 Os' H2 s2 w2 r2 => by
    rw [List.append_nil]
    exact h F2 Os' H2 vs Q w2 r2 fun u F3 H3 s3 w3 r3 => q u F3 H3 (s2.trans s3) w3 r3)
theorem evn_call {sp : Sp} {CX : CXT} {kk : Nat} {f : Addr} {fd : FuncData} {ps : List Str} {P : Hp → Owns → List V → Prop} {O : OC} (G : FnOk X.prog X.w X.K X.mg X.base CX kk f fd ps sp) (hr : Room kk X.A) (hm : X.mg nm = some (.ref f)) (hk : PySem.W.keepIn X.K (.ref f) = true) (hb : Binds X.K fd ps []) (hx : Passes CX X E0)
    (ha : Ea X (e :: es) σ F Os P) (h : ∀ F' Os' H' vs (Q : VK), Wf F' Os' H' → P F' Os' vs → (∀ p F2 H2, Same F' F2 → Wf F2 ((p, O) :: Os2) H2 → Q (.ref p) H2) → sp vs H' Q E0)
    (hg : Gl X nm := by rfl) (hdb : (nm == ("__debug__" : Str)) = false := by decide) (he : starEach (e :: es) X.env = (false, eval e X.env) :: starEach es X.env := by rfl) (hpl : (backTo pos (starEach es X.env)).any (·.1) = false := by rfl) :
    EvN X (.Call (.Name nm p1) (e :: es) [] pos) σ F Os O Os2 := fun F1 H s w Q q =>
  w_pe (pe_call G hr hg hm hk hb .nil hx pa_w hdb he hpl) (ha.go s w fun vs F2 Os' H2 s2 w2 r2 => by
    rw [List.append_nil]
    exact h F2 Os' H2 vs Q w2 r2 fun u F3 H3 s3 w3 => q u F3 H3 (s2.trans s3) w3)
end
end Z

namespace Z
open PySem PySem.Spec L2
section
variable {α β γ : Type} {X : Cx} {e a b c it : Expr} {es : List Expr} {pos p1 p2 p3 : Pos} {σ : St} {F F' H : Hp} {Os Os1 Os2 Os3 : Owns} {W : Vw α} {U : Vw β} {R : Rep α} {S : Rep β} {x x' : α} {y : β} {i j : Int} {k k' l : Bool} {xs ys zs : List α} {D : Ends} {rest body A B : List Stmt} {n m : Nat} {nm : Str} {v : V} {O : OC}
/-! ### blocks -/
theorem ws_nil (h : D.nx σ H) : Ws X [] D σ H := w_pss pss_nil h
theorem ws_cons {st : Stmt} (h : W1 X st { D with nx := Ws X rest D } σ H) : Ws X (st :: rest) D σ H := w_pss (pss_cons ps_w pss_w) h
abbrev Loc1 (X : Cx) (nm : Str) : Prop := Loc X.env.scope nm
theorem ws_set (w : Wf F Os H) (he : Ev X e σ F Os W x Os1) (hN : X.N.Nodup) (k : ∀ v F1 H1, Same F F1 → Wf F1 Os1 H1 → W.r F1 Os1 v x → Ws X rest D (σ.set n (some v)) H1)
    (hi : X.N[n]? = some nm := by rfl) (hx : Loc X.env.scope nm := by first | exact Or.inl rfl | exact Or.inr rfl) (hs : swapsWith e (some (.Name nm p1)) pos.line X.env = pure false := by rfl) (hf : X.fn nm = true ∨ X.env.scope.names.lookup nm = some .local := by first | exact .inl rfl | exact .inr rfl) :
    Ws X (.Assign [.Name nm p1] e pos :: rest) D σ H :=
  ws_cons (w_ps (ps_set hN hi hx pe_w hs hf) (he.go (Same.refl _) w fun v F1 H1 s1 w1 r1 => k v F1 H1 s1 w1 r1))
theorem ws_setN (w : Wf F Os H) (he : EvN X e σ F Os O Os1) (hN : X.N.Nodup) (k : ∀ p F1 H1, Same F F1 → Wf F1 ((p, O) :: Os1) H1 → Ws X rest D (σ.set n (some (.ref p))) H1)
    (hi : X.N[n]? = some nm := by rfl) (hx : Loc X.env.scope nm := by first | exact Or.inl rfl | exact Or.inr rfl) (hs : swapsWith e (some (.Name nm p1)) pos.line X.env = pure false := by rfl) (hf : X.fn nm = true ∨ X.env.scope.names.lookup nm = some .local := by first | exact .inl rfl | exact .inr rfl) :
    Ws X (.Assign [.Name nm p1] e pos :: rest) D σ H :=
  ws_cons (w_ps (ps_set hN hi hx pe_w hs hf) (he.go (Same.refl _) w fun v F1 H1 s1 w1 => k v F1 H1 s1 w1))
theorem ws_ret (w : Wf F Os H) (he : Ev X e σ F Os W x Os1) (k : ∀ v F1 H1, Same F F1 → Wf F1 Os1 H1 → W.r F1 Os1 v x → D.rt v H1) : Ws X (.Return (some e) pos :: rest) D σ H :=
  ws_cons (w_ps (ps_ret pe_w) (he.go (Same.refl _) w fun v F1 H1 s1 w1 r1 => k v F1 H1 s1 w1 r1))
theorem ws_retN (w : Wf F Os H) (he : EvN X e σ F Os O Os1) (k : ∀ p F1 H1, Same F F1 → Wf F1 ((p, O) :: Os1) H1 → D.rt (.ref p) H1) : Ws X (.Return (some e) pos :: rest) D σ H :=
  ws_cons (w_ps (ps_ret pe_w) (he.go (Same.refl _) w fun v F1 H1 s1 w1 => k v F1 H1 s1 w1))
theorem ws_ret0 (h : D.rt .non H) : Ws X (.Return none pos :: rest) D σ H := ws_cons (w_ps ps_retN h)
theorem ws_pass (h : Ws X rest D σ H) : Ws X (.Pass pos :: rest) D σ H := ws_cons (w_ps ps_pass h)
theorem ws_brk (h : D.bk σ H) : Ws X (.Break pos :: rest) D σ H := ws_cons (w_ps ps_break h)
theorem ws_cont (h : D.ct σ H) : Ws X (.Continue pos :: rest) D σ H := ws_cons (w_ps ps_continue h)
theorem ws_if (w : Wf F Os H) (hc : Et X c σ F Os k Os1) (h1 : k = true → ∀ F1 H1, Same F F1 → Wf F1 Os1 H1 → Ws X A { D with nx := Ws X rest D } σ H1) (h2 : k = false → ∀ F1 H1, Same F F1 → Wf F1 Os1 H1 → Ws X B { D with nx := Ws X rest D } σ H1) :
    Ws X (.If c A B pos :: rest) D σ H :=
  ws_cons (w_ps (ps_if pt_w pss_w pss_w) (hc.go (Same.refl _) w fun F1 H1 s1 w1 => by
    cases k with
    | true => exact iteT (h1 rfl F1 H1 s1 w1)
    | false => exact iteF (h2 rfl F1 H1 s1 w1)))
/-- a statement, and what holds behind it -/
theorem ws_j {st : Stmt} (M : St → Hp → Prop) (h : W1 X st { D with nx := M } σ H) (hm : ∀ σ' H', M σ' H' → Ws X rest D σ' H') : Ws X (st :: rest) D σ H := by
  refine ws_cons fun pins s I => ?_
  refine thn (h pins s I) fun f s' h => ?_
  cases f with
  | next =>
    obtain ⟨σ', H', I', hm'⟩ := h
    exact ⟨σ', H', I', hm σ' H' hm'⟩
  | ret u => exact h
  | brk => exact h
  | cont => exact h
theorem w1_if (w : Wf F Os H) (hc : Et X c σ F Os k Os1) (h1 : k = true → ∀ F1 H1, Same F F1 → Wf F1 Os1 H1 → Ws X A D σ H1) (h2 : k = false → ∀ F1 H1, Same F F1 → Wf F1 Os1 H1 → Ws X B D σ H1) :
    W1 X (.If c A B pos) D σ H :=
  w_ps (ps_if pt_w pss_w pss_w) (hc.go (Same.refl _) w fun F1 H1 s1 w1 => by
    cases k with
    | true => exact iteT (h1 rfl F1 H1 s1 w1)
    | false => exact iteF (h2 rfl F1 H1 s1 w1))
theorem ws_expr (w : Wf F Os H) (he : Ev X e σ F Os W x Os1) (k : ∀ F1 H1, Same F F1 → Wf F1 Os1 H1 → Ws X rest D σ H1) (hs : swapsWith e none pos.line X.env = pure false := by rfl) : Ws X (.Expr e pos :: rest) D σ H :=
  ws_cons (w_ps (ps_expr pe_w hs) (he.go (Same.refl _) w fun v F1 H1 s1 w1 _ => k F1 H1 s1 w1))
/-! ### lists that are owned -/
/-- the written form of o.m(e, ..) -/
structure BmOk (X : Cx) (o : Expr) (name : Str) (e : Expr) (es : List Expr) (apos cpos : Pos) : Prop where
  base : attributeBase o name X.env (eval o X.env) = eval o X.env
  few : ((backTo cpos (starEach (e :: es) X.env)).all (fun x => !x.1) && (backToKw cpos (keywordEach [] X.env)).all (fun x => x.1.isSome)
      && decide ((e :: es).length + ([] : List Keyword).length + (if ([] : List Keyword).isEmpty then 0 else 1) < 30)) = true
  line : (apos.endLine == cpos.line) = true
  hs : starEach (e :: es) X.env = (false, eval e X.env) :: starEach es X.env
  plain : (backTo cpos (starEach es X.env)).any (·.1) = false
structure BmOk0 (X : Cx) (o : Expr) (name : Str) (apos cpos : Pos) : Prop where
  base : attributeBase o name X.env (eval o X.env) = eval o X.env
  line : (apos.endLine == cpos.line) = true
theorem ws_app (w : Wf F Os H) {l : Addr} (hl : σ[m]? = some (some (.ref l))) (he : Ev X e σ F Os R.v x Os1) (ho : Os1[n]? = some (l, oList R xs)) (h : app xs x = some ys) (k : ∀ F1 H1, Same F F1 → Wf F1 (Os1.set n (l, oList R ys)) H1 → Ws X rest D σ H1)
    (hN : X.N[m]? = some nm := by rfl) (hV : Vis X.env.scope nm := by first | exact Or.inl rfl | exact Or.inr (Or.inl rfl) | exact Or.inr (Or.inr rfl)) (hd : (nm == ("__debug__" : Str)) = false := by decide) (hcd : (nm == ("__classdict__" : Str)) = false := by decide)
    (hs : swapsWith (.Call (.Attribute (.Name nm p1) "append" p2) [e] [] p3) none pos.line X.env = pure false := by rfl) (hb : BmOk X (.Name nm p1) "append" e [] p2 p3 := by exact ⟨rfl, rfl, rfl, rfl, rfl⟩) (ho0 : Os[n]? = some (l, oList R xs) := by rfl) : Ws X (.Expr (.Call (.Attribute (.Name nm p1) "append" p2) [e] [] p3) pos :: rest) D σ H := by
  obtain ⟨h1, rfl⟩ := app_some h
  obtain ⟨_, o0, g0, vs0, e0, _⟩ := w.at ho0
  subst e0
  refine ws_cons (w_ps (ps_expr (pe_bm PySem.F.plainAttrs_list PySem.F.slot_list_append PySem.F.type_list_append mt_append (pe_var hN hV hd hcd) (pa_cons pe_w pa_nil hb.hs) hb.base hb.few hb.line hb.hs hb.plain) hs) ?_)
  refine ⟨_, hl, .inl ⟨rfl, _, .of g0⟩, he.go (Same.refl _) w fun v F1 H1 s1 w1 r1 => ?_⟩
  obtain ⟨_, o, g, vs, e, q⟩ := w1.at ho
  subst e
  exact ⟨l, vs, v, rfl, rfl, g, by rw [q.length]; exact h1, k F1 _ s1 (w1.set ho ⟨_, rfl, paired_append q (.cons r1 .nil)⟩)⟩
theorem stI_some {xs ys : List α} (h : stI xs i x = some ys) : ∃ j, ixN xs.length i = some j ∧ ys = xs.set j x := by
  obtain ⟨j, h1, h2⟩ := bd_some h
  exact ⟨j, h1, (Option.some.inj h2).symm⟩
theorem ws_stL (w : Wf F Os H) {l : Addr} (he : Ev X e σ F Os R.v x Os1) (ha : Ev X a σ F Os1 (rIs (.ref l)).v () Os1) (hb : Ev X b σ F Os1 rInt.v i Os1) (ho : Os1[n]? = some (l, oList R xs)) (h : stI xs i x = some ys)
    (k : ∀ F1 H1, Same F F1 → Wf F1 (Os1.set n (l, oList R ys)) H1 → Ws X rest D σ H1)
    (hs : swapsWithSole [.Subscript a b p1] e pos.line X.env = pure false := by rfl) (hw : swappedStores [.Subscript a b p1] e X.env = pure none := by rfl) (h1 : (assignEach [.Subscript a b p1] X.env).map (·.2) = [assign (.Subscript a b p1) X.env] := by rfl)
    (hA : ∀ v, assign (.Subscript a b p1) X.env v = (do
      let ov ← holding [v] (eval a X.env)
      let iv ← holding [v, ov] (eval b X.env)
      standAt p1
      holding [v, ov, iv] (setItem ov iv v)
      release [v, ov, iv] []) := by intro _; rfl) : Ws X (.Assign [.Subscript a b p1] e pos :: rest) D σ H := by
  obtain ⟨jj, h2, rfl⟩ := stI_some h
  refine ws_cons (w_ps (ps_asg pe_w (pg_sub pe_w pe_w set_list hA) hs hw h1) ?_)
  refine he.go (Same.refl _) w fun v F1 H1 s1 w1 r1 => ?_
  refine ha.go s1 w1 fun u F2 H2 s2 w2 r2 => ?_
  refine hb.go (s1.trans s2) w2 fun u3 F3 H3 s3 w3 r3 => ?_
  obtain ⟨_, o, g, vs, e, q⟩ := w3.at ho
  subst e
  exact ⟨l, vs, i, jj, r2, r3, g, by rw [q.length]; exact h2, k F3 _ (s1.trans (s2.trans s3)) (w3.set ho ⟨_, rfl, paired_set (R.mono (s2.trans s3) r1) jj q⟩)⟩
/-! ### loops -/
theorem drop_cons {xs : List α} {i : Nat} {x : α} (h : xs[i]? = some x) : xs.drop i = x :: xs.drop (i + 1) := by
  obtain ⟨h1, h2⟩ := List.getElem?_eq_some_iff.mp h
  rw [List.drop_eq_getElem_cons h1, h2]
theorem w1_forG {g : TG} {tg : Expr} (w : Wf F Os H) (hi : Ev X it σ F Os (rList R).v xs Os1) (hg : PG X tg g)
    (k : ∀ F1 H1, Same F F1 → Wf F1 Os1 H1 → ∃ I : List α → St → Hp → Prop, I xs σ H1 ∧ (∀ r σ' H', I r σ' H' → Same F1 H') ∧
      (∀ x r σ' H' v, I (x :: r) σ' H' → R.r F1 v x → g v σ' H' fun σ2 H2 => Ws X body { D with nx := I r, ct := I r, bk := D.nx } σ2 H2) ∧ (∀ σ' H', I [] σ' H' → D.nx σ' H'))
    (hp : PassesOwn (model X.prog X.w) X.A X.env X.xe) (hc : X.calm = true := by rfl) (hs : ∀ x, foldedSetIterable it X.env x = pure x := by intro _; rfl) : W1 X (.For tg it body [] pos) D σ H := by
  refine w_ps (ps_for hp hc (pi_list pe_w) hg pss_w hs) ?_
  refine hi.go (Same.refl _) w fun v F1 H1 s1 w1 r1 => ?_
  obtain ⟨I, h0, hk, ht, hd⟩ := k F1 H1 s1 w1
  obtain ⟨p, o, rfl, g1, vs, rfl, q⟩ := r1
  refine ⟨p, rfl, ⟨vs, .of (w1.sub _ _ g1)⟩, for_list (K := X.K) (a := p) (xs := vs) (fun i σ' H' => I (xs.drop i) σ' H') h0 (fun i σ' H' _ hI => .of (hk _ _ _ hI _ _ g1)) (fun i u σ' H' hu hI => ?_) fun σ' H' hI => hd σ' H' ?_⟩
  · have hl : i < xs.length := by
      have z := (List.getElem?_eq_some_iff.mp hu).1
      rw [q.length] at z
      exact z
    have hx : xs[i]? = some xs[i] := List.getElem?_eq_getElem hl
    obtain ⟨u', hu', hr⟩ := paired_get q hx
    cases hu.symm.trans hu'
    rw [drop_cons hx] at hI
    exact ht _ _ σ' H' u hI hr
  · rw [q.length, List.drop_length] at hI
    exact hI
theorem w1_for (w : Wf F Os H) (hi : Ev X it σ F Os (rList R).v xs Os1) (hN : X.N.Nodup)
    (k : ∀ F1 H1, Same F F1 → Wf F1 Os1 H1 → ∃ I : List α → St → Hp → Prop, I xs σ H1 ∧ (∀ r σ' H', I r σ' H' → Same F1 H') ∧
      (∀ x r σ' H' v, I (x :: r) σ' H' → R.r F1 v x → Ws X body { D with nx := I r, ct := I r, bk := D.nx } (σ'.set n (some v)) H') ∧ (∀ σ' H', I [] σ' H' → D.nx σ' H'))
    (hp : PassesOwn (model X.prog X.w) X.A X.env X.xe) (hn : X.N[n]? = some nm := by rfl) (hx : Loc X.env.scope nm := by first | exact Or.inl rfl | exact Or.inr rfl) (hf : X.fn nm = true ∨ X.env.scope.names.lookup nm = some .local := by first | exact .inl rfl | exact .inr rfl)
    (hc : X.calm = true := by rfl) (hs : ∀ x, foldedSetIterable it X.env x = pure x := by intro _; rfl) : W1 X (.For (.Name nm p1) it body [] pos) D σ H :=
  w1_forG w hi (pg_name hN hn hx hf) k hp hc hs
/-- over a tuple -/
theorem w1_forV (w : Wf F Os H) (hi : Ev X it σ F Os (rTup R).v xs Os1) (hN : X.N.Nodup)
    (k : ∀ F1 H1, Same F F1 → Wf F1 Os1 H1 → ∃ I : List α → St → Hp → Prop, I xs σ H1 ∧ (∀ r σ' H', I r σ' H' → Same F1 H') ∧
      (∀ x r σ' H' v, I (x :: r) σ' H' → R.r F1 v x → Ws X body { D with nx := I r, ct := I r, bk := D.nx } (σ'.set n (some v)) H') ∧ (∀ σ' H', I [] σ' H' → D.nx σ' H'))
    (hp : PassesOwn (model X.prog X.w) X.A X.env X.xe) (hn : X.N[n]? = some nm := by rfl) (hx : Loc X.env.scope nm := by first | exact Or.inl rfl | exact Or.inr rfl) (hf : X.fn nm = true ∨ X.env.scope.names.lookup nm = some .local := by first | exact .inl rfl | exact .inr rfl)
    (hc : X.calm = true := by rfl) (hs : ∀ x, foldedSetIterable it X.env x = pure x := by intro _; rfl) : W1 X (.For (.Name nm p1) it body [] pos) D σ H := by
  refine w_ps (ps_for hp hc (pi_tup pe_w) (pg_name hN hn hx hf) pss_w hs) ?_
  refine hi.go (Same.refl _) w fun v F1 H1 s1 w1 r1 => ?_
  obtain ⟨I, h0, hk, ht, hd⟩ := k F1 H1 s1 w1
  obtain ⟨p, vs, rfl, g1, q⟩ := r1
  refine ⟨p, rfl, ⟨vs, .of (w1.sub _ _ g1)⟩, for_tup (K := X.K) (a := p) (xs := vs) (fun i σ' H' => I (xs.drop i) σ' H') h0 (fun i σ' H' _ hI => .of (hk _ _ _ hI _ _ g1)) (fun i u σ' H' hu hI => ?_) fun σ' H' hI => hd σ' H' ?_⟩
  · have hl : i < xs.length := by
      have z := (List.getElem?_eq_some_iff.mp hu).1
      rw [q.length] at z
      exact z
    have hx : xs[i]? = some xs[i] := List.getElem?_eq_getElem hl
    obtain ⟨u', hu', hr⟩ := paired_get q hx
    cases hu.symm.trans hu'
    rw [drop_cons hx] at hI
    exact ht _ _ σ' H' u hI hr
  · rw [q.length, List.drop_length] at hI
    exact hI
/-- for a, b in pairs -/
theorem w1_for2 {nm2 : Str} {m2 d : Nat} {xs : List (α × β)} (w : Wf F Os H) (hi : Ev X it σ F Os (rList (rT2 R S)).v xs Os1) (hN : X.N.Nodup)
    (k : ∀ F1 H1, Same F F1 → Wf F1 Os1 H1 → ∃ I : List (α × β) → St → Hp → Prop, I xs σ H1 ∧ (∀ r σ' H', I r σ' H' → Same F1 H') ∧
      (∀ x y r σ' H' v u, I ((x, y) :: r) σ' H' → R.r F1 v x → S.r F1 u y → Ws X body { D with nx := I r, ct := I r, bk := D.nx } ((σ'.set n (some v)).set m2 (some u)) H') ∧ (∀ σ' H', I [] σ' H' → D.nx σ' H'))
    (hp : PassesOwn (model X.prog X.w) X.A X.env X.xe) (hn : X.N[n]? = some nm := by rfl) (hx : Loc X.env.scope nm := by first | exact Or.inl rfl | exact Or.inr rfl) (hf : X.fn nm = true ∨ X.env.scope.names.lookup nm = some .local := by first | exact .inl rfl | exact .inr rfl)
    (hn2 : X.N[m2]? = some nm2 := by rfl) (hx2 : Loc X.env.scope nm2 := by first | exact Or.inl rfl | exact Or.inr rfl) (hf2 : X.fn nm2 = true ∨ X.env.scope.names.lookup nm2 = some .local := by first | exact .inl rfl | exact .inr rfl)
    (hc : X.calm = true := by rfl) (hs : ∀ x, foldedSetIterable it X.env x = pure x := by intro _; rfl) (hl : (assignEach [.Name nm p1, .Name nm2 p2] X.env).length = 2 := by rfl) (hst : (assignEach [.Name nm p1, .Name nm2 p2] X.env).findIdx? (·.1) = none := by rfl) :
    W1 X (.For (.Tuple [.Name nm p1, .Name nm2 p2] d p3) it body [] pos) D σ H := by
  refine w1_forG (R := rT2 R S) w hi (pg_tup hc (pgs_cons (pg_name hN hn hx hf) (pgs_cons (pg_name hN hn2 hx2 hf2) pgs_nil)) hl hst) (fun F1 H1 s1 w1 => ?_) hp hc hs
  obtain ⟨I, h0, hk, ht, hd⟩ := k F1 H1 s1 w1
  refine ⟨I, h0, hk, fun ⟨x, y⟩ r σ' H' v hI hv => ?_, hd⟩
  obtain ⟨a, u1, u2, rfl, g1, q1, q2⟩ := hv
  exact ⟨a, [u1, u2], rfl, .of (hk _ _ _ hI _ _ g1), rfl, u1, [u2], rfl, u2, [], rfl, rfl, ht x y r σ' H' u1 u2 hI q1 q2⟩
/-- the ints from lo, below hi -/
def rng (lo hi : Int) : List Int := (List.range (hi - lo).toNat).map fun (k : Nat) => lo + (k : Int)
theorem rng_len (lo hi : Int) : (rng lo hi).length = (hi - lo).toNat := by simp [rng]
theorem rng_get {lo hi : Int} {i : Nat} (h : i < (hi - lo).toNat) : (rng lo hi)[i]? = some (lo + (i : Int)) := by
  simp [rng, h]
def rngOk (lo hi : Int) : Prop := -(2 ^ 62) ≤ lo ∧ lo < 2 ^ 62 ∧ -(2 ^ 62) ≤ hi ∧ hi < 2 ^ 62
instance (lo hi : Int) : Decidable (rngOk lo hi) := by unfold rngOk; infer_instance
def rngO (lo hi : Int) : Option (List Int) := if rngOk lo hi then some (rng lo hi) else none
theorem rngO_some {lo hi : Int} {r : List Int} (h : rngO lo hi = some r) : rngOk lo hi ∧ r = rng lo hi := by
  unfold rngO at h
  by_cases hc : rngOk lo hi
  · rw [if_pos hc] at h
    exact ⟨hc, (Option.some.inj h).symm⟩
  · rw [if_neg hc] at h
    cases h
theorem w1_forR1 {r : List Int} (hr : rngO 0 i = some r) (w : Wf F Os H) (hi : Ev X a σ F Os rInt.v i Os1) (hN : X.N.Nodup)
    (k : ∀ F1 H1, Same F F1 → Wf F1 Os1 H1 → ∃ I : List Int → St → Hp → Prop, I r σ H1 ∧
      (∀ x r σ' H', I (x :: r) σ' H' → Ws X body { D with nx := I r, ct := I r, bk := D.nx } (σ'.set n (some (.int x))) H') ∧ (∀ σ' H', I [] σ' H' → D.nx σ' H'))
    (hp : PassesOwn (model X.prog X.w) X.A X.env X.xe) (hm : X.mg "range" = none) (hn : X.N[n]? = some nm := by rfl) (hx : Loc X.env.scope nm := by first | exact Or.inl rfl | exact Or.inr rfl) (hf : X.fn nm = true ∨ X.env.scope.names.lookup nm = some .local := by first | exact .inl rfl | exact .inr rfl)
    (hc : X.calm = true := by rfl) (hs : ∀ x, foldedSetIterable (.Call (.Name "range" p2) [a] [] p3) X.env x = pure x := by intro _; rfl) (hg : Gl X "range" := by rfl) (he : starEach [a] X.env = [(false, eval a X.env)] := by rfl) (he2 : starEach [a] X.env = (false, eval a X.env) :: starEach [] X.env := by rfl) : W1 X (.For (.Name nm p1) (.Call (.Name "range" p2) [a] [] p3) body [] pos) D σ H := by
  obtain ⟨ok, rfl⟩ := rngO_some hr
  refine w_ps (ps_for hp hc (pi_range1 hg hm (pa_cons pe_w pa_nil he2) he) (pg_name hN hn hx hf) pss_w hs) ?_
  refine hi.go (Same.refl _) w fun v F1 H1 s1 w1 r1 => ?_
  obtain ⟨I, h0, ht, hd⟩ := k F1 H1 s1 w1
  cases (show v = V.int i from r1)
  obtain ⟨_, _, k3, k4⟩ := ok
  have hl : (rng 0 i).length = i.toNat := by rw [rng_len, Int.sub_zero]
  refine ⟨i, rfl, k3, k4, for_range (lo := 0) (n := i.toNat) (fun q σ' H' => I ((rng 0 i).drop q) σ' H') h0 (fun q σ' H' hq hI => ?_) fun σ' H' hI => hd σ' H' ?_⟩
  · rw [drop_cons (rng_get (by rw [Int.sub_zero]; exact hq))] at hI
    exact ht _ _ σ' H' hI
  · rw [← hl, List.drop_length] at hI
    exact hI
theorem w1_forR2 {r : List Int} (hr : rngO i j = some r) (w : Wf F Os H) (hi : Ev X a σ F Os rInt.v i Os1) (hj : Ev X b σ F Os1 rInt.v j Os2) (hN : X.N.Nodup)
    (k : ∀ F1 H1, Same F F1 → Wf F1 Os2 H1 → ∃ I : List Int → St → Hp → Prop, I r σ H1 ∧
      (∀ x r σ' H', I (x :: r) σ' H' → Ws X body { D with nx := I r, ct := I r, bk := D.nx } (σ'.set n (some (.int x))) H') ∧ (∀ σ' H', I [] σ' H' → D.nx σ' H'))
    (hp : PassesOwn (model X.prog X.w) X.A X.env X.xe) (hm : X.mg "range" = none) (hn : X.N[n]? = some nm := by rfl) (hx : Loc X.env.scope nm := by first | exact Or.inl rfl | exact Or.inr rfl) (hf : X.fn nm = true ∨ X.env.scope.names.lookup nm = some .local := by first | exact .inl rfl | exact .inr rfl)
    (hc : X.calm = true := by rfl) (hs : ∀ x, foldedSetIterable (.Call (.Name "range" p2) [a, b] [] p3) X.env x = pure x := by intro _; rfl) (hg : Gl X "range" := by rfl) (he : starEach [a, b] X.env = [(false, eval a X.env), (false, eval b X.env)] := by rfl) (he3 : starEach [b] X.env = [(false, eval b X.env)] := by rfl)
    (he2 : starEach [a, b] X.env = (false, eval a X.env) :: starEach [b] X.env := by rfl) (he4 : starEach [b] X.env = (false, eval b X.env) :: starEach [] X.env := by rfl) : W1 X (.For (.Name nm p1) (.Call (.Name "range" p2) [a, b] [] p3) body [] pos) D σ H := by
  obtain ⟨ok, rfl⟩ := rngO_some hr
  refine w_ps (ps_for hp hc (pi_range2 hg hm (pa_cons pe_w (pa_cons pe_w pa_nil he4) he2) he he3) (pg_name hN hn hx hf) pss_w hs) ?_
  refine hi.go (Same.refl _) w fun v F1 H1 s1 w1 r1 => ?_
  refine hj.go s1 w1 fun u F2 H2 s2 w2 r2 => ?_
  obtain ⟨I, h0, ht, hd⟩ := k F2 H2 (s1.trans s2) w2
  cases (show v = V.int i from r1)
  cases (show u = V.int j from r2)
  have hl : (rng i j).length = (j - i).toNat := rng_len i j
  refine ⟨i, j, rfl, ok, for_range (lo := i) (n := (j - i).toNat) (fun q σ' H' => I ((rng i j).drop q) σ' H') h0 (fun q σ' H' hq hI => ?_) fun σ' H' hI => hd σ' H' ?_⟩
  · rw [drop_cons (rng_get hq)] at hI
    exact ht _ _ σ' H' hI
  · rw [← hl, List.drop_length] at hI
    exact hI
theorem wt_cases {Q : Bool → Hp → Prop} (w : Wf F Os H) (hc : Et X c σ F Os k Os1) (h1 : k = true → ∀ F1 H1, Same F F1 → Wf F1 Os1 H1 → Q true H1) (h2 : k = false → ∀ F1 H1, Same F F1 → Wf F1 Os1 H1 → Q false H1) : Wt X c σ H Q :=
  hc.go (Same.refl _) w fun F1 H1 s1 w1 => by
    cases k with
    | true => exact h1 rfl F1 H1 s1 w1
    | false => exact h2 rfl F1 H1 s1 w1
/-- while: I by what is left to do -/
theorem w1_while (I : Nat → St → Hp → Prop) (n0 : Nat) (h0 : I n0 σ H)
    (ht : ∀ n σ' H', I n σ' H' → Wt X c σ' H' fun k H1 => if k = true then Ws X body { D with nx := fun σ2 H2 => ∃ n', n' < n ∧ I n' σ2 H2, ct := fun σ2 H2 => ∃ n', n' < n ∧ I n' σ2 H2, bk := D.nx } σ' H1 else D.nx σ' H1)
    (hp : PassesOwn (model X.prog X.w) X.A X.env X.xe) : W1 X (.While c body [] pos) D σ H := by
  refine w_ps (ps_while hp pt_w pss_w) ⟨I, ⟨n0, h0⟩, fun n σ' H' hI => ?_⟩
  have q := ht n σ' H' hI
  intro pins s I'
  refine thn (q pins s I') fun b s' h => ?_
  obtain ⟨H1, I1, h⟩ := h
  refine ⟨H1, I1, ?_⟩
  cases b with
  | true => exact iteT ⟨_, fun _ _ z => z, h⟩
  | false => exact iteF h
end
/-- a def of the program as it stands behind the top -/
structure FT (K : PySem.W.Frag) (mg : Str → Option Value) (x : Str) (st : Stmt) (ps : List Str) (f : Addr) (fd : FuncData) : Prop where
  fn : Fun K x x st f fd
  bi : Binds K fd ps []
  gm : mg x = some (.ref f)
end Z

/-! plain laws of the mirror's words -/
namespace Z
open PySem L2
theorem foldO_spec {α σ : Type} {f : σ → α → Option σ} (I : List α → σ → Prop) (h : ∀ x r s, I (x :: r) s → ∃ s', f s x = some s' ∧ I r s') : ∀ (xs : List α) (s : σ), I xs s → ∃ z, foldO f s xs = some z ∧ I [] z
  | [], s, hi => ⟨s, rfl, hi⟩
  | x :: r, s, hi => by
    obtain ⟨s', h1, h2⟩ := h x r s hi
    obtain ⟨z, h3, h4⟩ := foldO_spec I h r s' h2
    exact ⟨z, by show bd (f s x) _ = _; rw [h1]; exact h3, h4⟩
theorem foldF_nx {α ρ σ : Type} {f : σ → α → Option (Fl ρ σ)} (I : List α → σ → Prop) (h : ∀ x r s, I (x :: r) s → ∃ s', f s x = some (.nx s') ∧ I r s') : ∀ (xs : List α) (s : σ), I xs s → ∃ z, foldF f s xs = some (.nx z) ∧ I [] z
  | [], s, hi => ⟨s, rfl, hi⟩
  | x :: r, s, hi => by
    obtain ⟨s', h1, h2⟩ := h x r s hi
    obtain ⟨z, h3, h4⟩ := foldF_nx I h r s' h2
    exact ⟨z, by show bd (f s x) _ = _; rw [h1]; exact h3, h4⟩
theorem foldF_spec {α ρ σ : Type} {f : σ → α → Option (Fl ρ σ)} (I : List α → σ → Prop) (B : σ → Prop) (Q : ρ → Prop)
    (h : ∀ x r s, I (x :: r) s → (∃ s', f s x = some (.nx s') ∧ I r s') ∨ (∃ s', f s x = some (.brk s') ∧ B s') ∨ ∃ v, f s x = some (.ret v) ∧ Q v) :
    ∀ (xs : List α) (s : σ), I xs s → (∃ z, foldF f s xs = some (.nx z) ∧ (I [] z ∨ B z)) ∨ ∃ v, foldF f s xs = some (.ret v) ∧ Q v
  | [], s, hi => .inl ⟨s, rfl, .inl hi⟩
  | x :: r, s, hi => by
    rcases h x r s hi with ⟨s', h1, h2⟩ | ⟨s', h1, h2⟩ | ⟨v, h1, h2⟩
    · rcases foldF_spec I B Q h r s' h2 with ⟨z, h3, h4⟩ | ⟨v, h3, h4⟩
      · exact .inl ⟨z, by show bd (f s x) _ = _; rw [h1]; exact h3, h4⟩
      · exact .inr ⟨v, by show bd (f s x) _ = _; rw [h1]; exact h3, h4⟩
    · exact .inl ⟨s', by show bd (f s x) _ = _; rw [h1]; rfl, .inr h2⟩
    · exact .inr ⟨v, by show bd (f s x) _ = _; rw [h1]; rfl, h2⟩
theorem rngO_eq {lo hi : Int} (h : rngOk lo hi) : rngO lo hi = some (rng lo hi) := if_pos h
theorem app_eq {α : Type} {xs : List α} {x : α} (h : xs.length < 16777216) : app xs x = some (xs ++ [x]) := if_pos h
theorem cat_eq {α : Type} {xs ys : List α} (h : xs.length + ys.length ≤ 16777216) : cat xs ys = some (xs ++ ys) := if_pos h
theorem modO_eq {i j : Int} (h : 0 < j) : modO i j = some (i % j) := if_pos h
theorem divO_eq {i j : Int} (h : 0 < j) (h2 : j < 2 ^ 64) : divO i j = some (i / j) := if_pos ⟨h, by
  have : j.natAbs.log2 < 64 := PySem.Flt.log2_lt_of (by decide) (by omega)
  omega⟩
theorem mulO_eq {i j : Int} (h : -(2 ^ 64) < i ∧ i < 2 ^ 64) : mulO i j = some (i * j) := if_pos (.inl h)
theorem mulO_eq2 {i j : Int} (h : -(2 ^ 64) < j ∧ j < 2 ^ 64) : mulO i j = some (i * j) := if_pos (.inr h)
theorem ixN_nat {n j : Nat} (h : j < n) : ixN n (j : Int) = some j := by
  unfold ixN
  rw [if_pos (by omega), if_pos (by omega)]
  simp
theorem ix_nat {α : Type} {xs : List α} {j : Nat} {x : α} (h : xs[j]? = some x) : ix xs (j : Int) = some x := atI_nat h
theorem ix_int {α : Type} {xs : List α} {i : Int} {x : α} (h0 : 0 ≤ i) (h : xs[i.toNat]? = some x) : ix xs i = some x := by
  have e : i = (i.toNat : Int) := by omega
  rw [e]
  exact ix_nat h
theorem ix_ok {α : Type} {xs : List α} {i : Int} (h0 : 0 ≤ i) (h1 : i < xs.length) : ∃ x, ix xs i = some x ∧ xs[i.toNat]? = some x := by
  have hl : i.toNat < xs.length := by omega
  exact ⟨xs[i.toNat], ix_int h0 (List.getElem?_eq_getElem hl), List.getElem?_eq_getElem hl⟩
theorem stI_nat {α : Type} {xs : List α} {j : Nat} {x : α} (h : j < xs.length) : stI xs (j : Int) x = some (xs.set j x) := by
  unfold stI
  rw [ixN_nat h]
  rfl
theorem rng_cons {lo hi : Int} (h : lo < hi) : rng lo hi = lo :: rng (lo + 1) hi := by
  unfold rng
  have e : (hi - lo).toNat = (hi - (lo + 1)).toNat + 1 := by omega
  rw [e, List.range_succ_eq_map, List.map_cons, List.map_map]
  congr 1
  · omega
  · refine List.map_congr_left fun k _ => ?_
    show lo + ((k + 1 : Nat) : Int) = lo + 1 + (k : Int)
    omega
theorem rng_nil {lo hi : Int} (h : hi ≤ lo) : rng lo hi = [] := by
  unfold rng
  have e : (hi - lo).toNat = 0 := by omega
  rw [e]
  rfl
/-- a loop over a range: the invariant by the next number -/
theorem foldO_rng {σ : Type} {f : σ → Int → Option σ} (I : Int → σ → Prop) {lo hi : Int} (h : ∀ k s, lo ≤ k → k < hi → I k s → ∃ s', f s k = some s' ∧ I (k + 1) s') (s : σ) (h0 : I lo s) (hl : lo ≤ hi) : ∃ z, foldO f s (rng lo hi) = some z ∧ I hi z := by
  have key : ∀ (n : Nat) (k : Int) (s : σ), (hi - k).toNat = n → lo ≤ k → k ≤ hi → I k s → ∃ z, foldO f s (rng k hi) = some z ∧ I hi z := fun n => by
    induction n with
    | zero =>
      intro k s e h1 h2 hI
      have : k = hi := by omega
      subst this
      rw [rng_nil (Int.le_refl _)]
      exact ⟨s, rfl, hI⟩
    | succ n ih =>
      intro k s e h1 h2 hI
      have hk : k < hi := by omega
      obtain ⟨s', h3, h4⟩ := h k s h1 hk hI
      obtain ⟨z, h5, h6⟩ := ih (k + 1) s' (by omega) (by omega) (by omega) h4
      rw [rng_cons hk]
      exact ⟨z, by show bd (f s k) _ = _; rw [h3]; exact h5, h6⟩
  exact key _ lo s rfl (Int.le_refl _) hl h0
theorem foldF_rng {ρ σ : Type} {f : σ → Int → Option (Fl ρ σ)} (I : Int → σ → Prop) {lo hi : Int} (h : ∀ k s, lo ≤ k → k < hi → I k s → ∃ s', f s k = some (.nx s') ∧ I (k + 1) s') (s : σ) (h0 : I lo s) (hl : lo ≤ hi) : ∃ z, foldF f s (rng lo hi) = some (.nx z) ∧ I hi z := by
  have key : ∀ (n : Nat) (k : Int) (s : σ), (hi - k).toNat = n → lo ≤ k → k ≤ hi → I k s → ∃ z, foldF f s (rng k hi) = some (.nx z) ∧ I hi z := fun n => by
    induction n with
    | zero =>
      intro k s e h1 h2 hI
      have : k = hi := by omega
      subst this
      rw [rng_nil (Int.le_refl _)]
      exact ⟨s, rfl, hI⟩
    | succ n ih =>
      intro k s e h1 h2 hI
      have hk : k < hi := by omega
      obtain ⟨s', h3, h4⟩ := h k s h1 hk hI
      obtain ⟨z, h5, h6⟩ := ih (k + 1) s' (by omega) (by omega) (by omega) h4
      rw [rng_cons hk]
      exact ⟨z, by show bd (f s k) _ = _; rw [h3]; exact h5, h6⟩
  exact key _ lo s rfl (Int.le_refl _) hl h0
end Z

namespace Z
open PySem PySem.Spec L2
def K_l_open_4 (x_cell5 : Int) : Option (List Int) :=
    if (decide (1000000000000000000 ≤ x_cell5)) = true then
    some (([1, x_cell5 - 1000000000000000000, 0] : (List Int)))
    else
    some (([0, x_cell5, 0] : (List Int)))
def M_l_open (x_script : (List Int)) (x_at : Int) : Option (List Int) :=
    bd (if (decide (x_at < (x_script.length : Int))) = true then
    bd (ix x_script x_at) fun t8 =>
    some t8
    else
    some 0) fun s => K_l_open_4 s
def M_l_take (x_box : (List Int)) (x_size : Int) : Option (Int × (List Int)) :=
    bd (ix x_box 0) fun t1 =>
    if (decide (t1 = 1)) = true then
    bd (ix x_box 1) fun t4 =>
    bd (modO t4 x_size) fun t5 =>
    bd (ix x_box 1) fun t8 =>
    bd (divO t8 x_size) fun t9 =>
    bd (stI x_box 1 t9) fun x_box10 =>
    some (t5, x_box10)
    else
    bd (ix x_box 2) fun t12 =>
    bd (stI x_box 2 (t12 + 1)) fun x_box15 =>
    bd (ix x_box15 1) fun t17 =>
    lt (((t17 + (7919 * t12)) + 13) % 2147483647) fun x_mixed18 =>
    bd (mulO x_mixed18 (x_mixed18 + 48271)) fun t21 =>
    lt (t21 % 2147483629) fun x_mixed22 =>
    bd (mulO x_mixed22 (x_mixed22 + 69621)) fun t25 =>
    lt ((t25 + (31 * t12)) % 2147483647) fun x_mixed26 =>
    bd (modO (x_mixed26 / 9) x_size) fun t29 =>
    some (t29, x_box15)
def B_l_whole_5 (x_size6 : Int) (x12 : Int) : Option Int :=
    lt (x_size6 * 2) fun x_size15 =>
    some x_size15
def K_l_whole_5 (x_size9 : Int) : Option Int :=
    some x_size9
def M_l_whole (x_levels : Int) : Option Int :=
    bd (rngO 0 x_levels) fun rg3 =>
    bd (foldO (fun s x => B_l_whole_5 s x) 1 rg3) fun s => K_l_whole_5 s
def B_l_questions_13 (t1 : (Int × (List Int))) (t4 : Int) (x_box14 : (List Int)) (x_rows15 : (List (Int × Int))) (x20 : Int) : Option (((List Int) × (List (Int × Int)))) :=
    bd (M_l_take x_box14 t4) fun t22 =>
    bd (app x_rows15 (t1.1, t22.1)) fun x_rows23 =>
    some (t22.2, x_rows23)
def K_l_questions_13 (x_box17 : (List Int)) (x_rows18 : (List (Int × Int))) : Option (((List (Int × Int)) × (List Int))) :=
    some (x_rows18, x_box17)
def M_l_questions (x_box : (List Int)) : Option ((List (Int × Int)) × (List Int)) :=
    bd (M_l_take x_box 9) fun t1 =>
    bd (M_l_whole t1.1) fun t4 =>
    lt (([(t1.1, 0), (t1.1, t4 - 1)] : (List (Int × Int)))) fun x_rows7 =>
    bd (rngO 0 4) fun rg11 =>
    bd (foldO (fun s x => B_l_questions_13 t1 t4 s.1 s.2 x) (t1.2, x_rows7) rg11) fun s => K_l_questions_13 s.1 s.2
def B_blocks_with_8 (x_place : Int) (x_blocks9 : (List (Int × Int))) (x_size10 : Int) (x17 : Int) : Option (((List (Int × Int)) × Int)) :=
    bd (modO x_place x_size10) fun t20 =>
    bd (app x_blocks9 (x_place - t20, x_size10)) fun x_blocks21 =>
    lt (x_size10 * 2) fun x_size23 =>
    some (x_blocks21, x_size23)
def K_blocks_with_8 (x_blocks13 : (List (Int × Int))) (x_size14 : Int) : Option ((List (Int × Int))) :=
    some x_blocks13
def M_blocks_with (x_depth : Int) (x_place : Int) : Option (List (Int × Int)) :=
    lt (([] : (List (Int × Int)))) fun x_blocks1 =>
    bd (rngO 0 (x_depth + 1)) fun rg6 =>
    bd (foldO (fun s x => B_blocks_with_8 x_place s.1 s.2 x) (x_blocks1, 1) rg6) fun s => K_blocks_with_8 s.1 s.2
def B_l_right_22 (x25 : Int) : Option ((Fl (Fl Bool Int) Unit)) :=
    if ((!true) || false) = true then
    some (.ret (.ret false))
    else
    some (.nx ())
def K_l_right_22 (x_place : Int) (x_size7 : Int) (x15 : (Int × Int)) : Option (Fl Bool Int) :=
    bd (if (decide (x15.2 ≠ x_size7)) = true then some true else (bd (modO x15.1 x_size7) fun t31 => some (decide (t31 ≠ 0)))) fun t32 =>
    if t32 = true then
    some (.ret false)
    else
    if ((decide (x_place < x15.1)) || (decide ((x15.1 + x_size7) ≤ x_place))) = true then
    some (.ret false)
    else
    lt (x_size7 * 2) fun x_size37 =>
    some (.nx x_size37)
def B_l_right_6 (x_place : Int) (x_size7 : Int) (x15 : (Int × Int)) : Option (Fl Bool Int) :=
    if ((!true) || (decide (2 ≠ 2))) = true then
    some (.ret false)
    else
    lt ([x15.1, x15.2]) fun xs20 =>
    bd (foldF (fun s x => B_l_right_22  x) () xs20) fun z => flk z (fun s => K_l_right_22 x_place x_size7 x15 ) some
def K_l_right_6 (x_size11 : Int) : Option Bool :=
    some true
def M_l_right (x_told : (List (Int × Int))) (x_levels : Int) (x_place : Int) : Option Bool :=
    if ((!true) || (decide ((x_told.length : Int) ≠ (x_levels + 1)))) = true then
    some false
    else
    bd (foldF (fun s x => B_l_right_6 x_place s x) 1 x_told) fun z => flk z (fun s => K_l_right_6 s) some
def B_law_9 (x14 : (Int × Int)) : Option (Fl Bool Unit) :=
    bd (M_blocks_with x14.1 x14.2) fun t16 =>
    bd (M_l_right t16 x14.1 x14.2) fun t19 =>
    if (!t19) = true then
    some (.ret false)
    else
    bd (stI t16 0 (x14.2 + 1, 1)) fun x_told22 =>
    bd (app x_told22 (0, 0)) fun x_told24 =>
    some (.nx ())
def B_law_30 (x33 : (Int × Int)) : Option (Fl Bool Unit) :=
    bd (M_blocks_with x33.1 x33.2) fun t35 =>
    bd (M_l_right t35 x33.1 x33.2) fun t36 =>
    if (!t36) = true then
    some (.ret false)
    else
    some (.nx ())
def K_law_30 : Option Bool :=
    some true
def K_law_9 (t5 : (List (Int × Int))) : Option Bool :=
    bd (foldF (fun s x => B_law_30  x) () t5) fun z => flk z (fun s => K_law_30 ) some
def M_law (x_script : (List Int)) : Option Bool :=
    bd (M_l_open x_script 0) fun t1 =>
    bd (M_l_questions t1) fun t2 =>
    bd (M_l_open x_script 1) fun t3 =>
    bd (M_l_questions t3) fun t4 =>
    bd (cat t2.1 t4.1) fun t5 =>
    bd (foldF (fun s x => B_law_9  x) () t5) fun z => flk z (fun s => K_law_9 t5 ) some
end Z

namespace Z
open PySem L2
/-! draws -/
def BoxOk (b : List Int) : Prop := ∃ a v k, b = [a, v, k]
theorem open_ok (xs : List Int) (i : Int) (h : 0 ≤ i) : ∃ b, M_l_open xs i = some b ∧ BoxOk b := by
  have key : ∀ c, ∃ b, K_l_open_4 c = some b ∧ BoxOk b := fun c => by
    unfold K_l_open_4
    split
    · exact ⟨_, rfl, _, _, _, rfl⟩
    · exact ⟨_, rfl, _, _, _, rfl⟩
  unfold M_l_open
  by_cases hi : i < (xs.length : Int)
  · obtain ⟨x, hx, _⟩ := ix_ok h hi
    rw [if_pos (decide_eq_true hi), hx]
    exact key x
  · rw [if_neg (by simpa using hi)]
    exact key 0
theorem take_ok {b : List Int} {n : Int} (hb : BoxOk b) (h0 : 0 < n) (h1 : n < 2 ^ 60) : ∃ r b', M_l_take b n = some (r, b') ∧ 0 ≤ r ∧ r < n ∧ BoxOk b' := by
  obtain ⟨a, v, k, rfl⟩ := hb
  have i0 : ix [a, v, k] 0 = some a := rfl
  have i1 : ix [a, v, k] 1 = some v := rfl
  have i2 : ix [a, v, k] 2 = some k := rfl
  unfold M_l_take
  simp only [i0, i1, i2, bd_eq, lt_eq, modO_eq h0, divO_eq h0 (show n < 2 ^ 64 by omega)]
  by_cases ha : a = 1
  · rw [if_pos (decide_eq_true ha), show stI [a, v, k] 1 (v / n) = some [a, v / n, k] from rfl]
    exact ⟨_, _, rfl, Int.emod_nonneg _ (by omega), Int.emod_lt_of_pos _ h0, _, _, _, rfl⟩
  · rw [if_neg (by simpa using ha), show stI [a, v, k] 2 (k + 1) = some [a, v, k + 1] from rfl]
    simp only [bd_eq, show ix [a, v, k + 1] 1 = some v from rfl]
    have b1 : ∀ z : Int, 0 ≤ z % 2147483647 ∧ z % 2147483647 < 2147483647 := fun z => ⟨Int.emod_nonneg _ (by decide), Int.emod_lt_of_pos _ (by decide)⟩
    have b2 : ∀ z : Int, 0 ≤ z % 2147483629 ∧ z % 2147483629 < 2147483629 := fun z => ⟨Int.emod_nonneg _ (by decide), Int.emod_lt_of_pos _ (by decide)⟩
    rw [mulO_eq (by have := b1 (v + 7919 * k + 13); omega)]
    simp only [bd_eq]
    rw [mulO_eq (by have := b2 ((v + 7919 * k + 13) % 2147483647 * ((v + 7919 * k + 13) % 2147483647 + 48271)); omega)]
    simp only [bd_eq]
    exact ⟨_, _, rfl, Int.emod_nonneg _ (by omega), Int.emod_lt_of_pos _ h0, _, _, _, rfl⟩
/-! the law -/
theorem whole_eq {n : Nat} (h : n ≤ 60) : M_l_whole (n : Int) = some (2 ^ n) := by
  unfold M_l_whole
  rw [rngO_eq (by unfold rngOk; omega)]
  obtain ⟨z, h1, h2⟩ := foldO_rng (f := fun s x => B_l_whole_5 s x) (lo := 0) (hi := n) (fun k s => 0 ≤ k ∧ s = 2 ^ k.toNat) (fun k s h1 h2 ⟨_, h3⟩ => by
    refine ⟨s * 2, rfl, by omega, ?_⟩
    rw [h3, show (k + 1).toNat = k.toNat + 1 by omega, Int.pow_succ]) 1 ⟨by omega, by simp⟩ (by omega)
  simp only [bd_eq, h1]
  rw [h2.2, show ((n : Int)).toNat = n by omega]
  rfl
/-- a question: a depth and one of its places -/
def Qok (q : Int × Int) : Prop := ∃ n : Nat, n ≤ 8 ∧ q.1 = n ∧ 0 ≤ q.2 ∧ q.2 < 2 ^ n
theorem questions_ok {b : List Int} (hb : BoxOk b) : ∃ qs b', M_l_questions b = some (qs, b') ∧ (∀ q ∈ qs, Qok q) ∧ qs.length = 6 := by
  unfold M_l_questions
  obtain ⟨r, b1, h1, h2, h3, hb1⟩ := take_ok (n := 9) hb (by decide) (by decide)
  obtain ⟨n, rfl⟩ : ∃ n : Nat, r = n := ⟨r.toNat, by omega⟩
  have hn : n ≤ 8 := by omega
  have pw : (1 : Int) ≤ 2 ^ n ∧ (2 : Int) ^ n < 2 ^ 60 := by
    rcases n with _ | _ | _ | _ | _ | _ | _ | _ | _ | n <;> first | decide | omega
  simp only [h1, bd_eq, lt_eq, whole_eq (show n ≤ 60 by omega)]
  rw [rngO_eq (by decide)]
  obtain ⟨z, h4, h5⟩ := foldO_rng (f := fun s x => B_l_questions_13 ((n : Int), b1) (2 ^ n) s.1 s.2 x) (lo := 0) (hi := 4) (fun k s => BoxOk s.1 ∧ (∀ q ∈ s.2, Qok q) ∧ (s.2.length : Int) = 2 + k) (fun k s g1 g2 ⟨g3, g4, g5⟩ => by
    obtain ⟨r, b2, e1, e2, e3, e4⟩ := take_ok g3 (show 0 < (2 : Int) ^ n by omega) pw.2
    unfold B_l_questions_13
    simp only [e1, bd_eq]
    rw [app_eq (by omega)]
    refine ⟨_, rfl, e4, fun q hq => ?_, by simp; omega⟩
    rcases List.mem_append.mp hq with hq | hq
    · exact g4 q hq
    · cases List.mem_singleton.mp hq
      exact ⟨n, hn, rfl, e2, e3⟩) (b1, [((n : Int), 0), ((n : Int), 2 ^ n - 1)]) ⟨hb1, fun q hq => by
    rcases List.mem_cons.mp hq with rfl | hq
    · exact ⟨n, hn, rfl, by show (0 : Int) ≤ 0; omega, by show (0 : Int) < 2 ^ n; omega⟩
    · cases List.mem_singleton.mp hq
      exact ⟨n, hn, rfl, by show (0 : Int) ≤ 2 ^ n - 1; omega, by show (2 : Int) ^ n - 1 < 2 ^ n; omega⟩, rfl⟩ (by decide)
  simp only [bd_eq, h4]
  exact ⟨_, _, rfl, h5.2.1, by have := h5.2.2; omega⟩
/-- the block of size 2 ^ k around a place -/
def blk (p : Int) (k : Nat) : Int × Int := (p - p % 2 ^ k, 2 ^ k)
theorem pow_pos' (k : Nat) : (0 : Int) < 2 ^ k := Int.pow_pos (by decide)
theorem blocks_eq {n : Nat} {p : Int} (h : n ≤ 60) : M_blocks_with (n : Int) p = some ((List.range (n + 1)).map (blk p)) := by
  unfold M_blocks_with
  simp only [lt_eq]
  rw [rngO_eq (by unfold rngOk; omega)]
  obtain ⟨z, h1, h2⟩ := foldO_rng (f := fun s x => B_blocks_with_8 p s.1 s.2 x) (lo := 0) (hi := (n : Int) + 1) (fun k s => s.1 = (List.range k.toNat).map (blk p) ∧ s.2 = 2 ^ k.toNat) (fun k s h1 h2 ⟨h3, h4⟩ => by
    unfold B_blocks_with_8
    rw [modO_eq (by rw [h4]; exact pow_pos' _), bd_eq, app_eq (by rw [h3, List.length_map, List.length_range]; omega)]
    refine ⟨_, rfl, ?_, ?_⟩
    · rw [show (k + 1).toNat = k.toNat + 1 by omega, List.range_succ, List.map_append, ← h3, h4]
      rfl
    · show s.2 * 2 = _
      rw [h4, show (k + 1).toNat = k.toNat + 1 by omega, Int.pow_succ]) ([], 1) ⟨rfl, rfl⟩ (by omega)
  simp only [bd_eq, h1]
  rw [show ((n : Int) + 1).toNat = n + 1 by omega] at h2
  show some z.1 = _
  rw [h2.1]
theorem right_inner (xs : List Int) : foldF (fun (s : Unit) x => B_l_right_22 x) () xs = some (.nx ()) := by
  induction xs with
  | nil => rfl
  | cons x r ih =>
    show bd (B_l_right_22 x) _ = _
    exact ih
theorem right_ok {n : Nat} {p : Int} (h0 : 0 ≤ p) (h : p < 2 ^ n) (hn : n ≤ 8) : M_l_right ((List.range (n + 1)).map (blk p)) (n : Int) p = some true := by
  unfold M_l_right
  rw [if_neg (by simp)]
  have key : ∀ (m a : Nat), foldF (fun s x => B_l_right_6 p s x) (2 ^ a) ((List.range' a m).map (blk p)) = some (.nx (2 ^ (a + m))) := fun m => by
    induction m with
    | zero => intro a; rfl
    | succ m ih =>
      intro a
      rw [List.range'_succ, List.map_cons]
      show bd (B_l_right_6 p (2 ^ a) (blk p a)) _ = _
      have e : B_l_right_6 p (2 ^ a) (blk p a) = some (.nx (2 ^ (a + 1))) := by
        have pa := pow_pos' a
        unfold B_l_right_6
        rw [if_neg (by decide)]
        simp only [lt_eq, right_inner, bd_eq]
        show K_l_right_22 p (2 ^ a) (blk p a) = _
        unfold K_l_right_22 blk
        have hm : p % 2 ^ a < 2 ^ a := Int.emod_lt_of_pos _ pa
        have hm0 : 0 ≤ p % 2 ^ a := Int.emod_nonneg _ (by omega)
        have hz : (p - p % 2 ^ a) % 2 ^ a = 0 := by rw [Int.sub_emod, Int.emod_emod_of_dvd _ (Int.dvd_refl _), Int.sub_self, Int.zero_emod]
        simp only [modO_eq pa, hz, bd_eq]
        rw [if_neg (by simp), bd_eq, if_neg (by simp), if_neg (by simp; omega)]
        simp only [lt_eq]
        rw [Int.pow_succ]
      rw [e]
      show foldF (fun s x => B_l_right_6 p s x) (2 ^ (a + 1)) _ = _
      rw [ih (a + 1), show a + 1 + m = a + (m + 1) by omega]
  have k0 := key (n + 1) 0
  rw [← List.range_eq_range'] at k0
  rw [show (1 : Int) = 2 ^ 0 from rfl, k0]
  rfl
theorem law_true (ns : List Int) (hl : ns.length ≤ 63) : M_law ns = some true := by
  unfold M_law
  obtain ⟨b0, h1, h2⟩ := open_ok ns 0 (by decide)
  obtain ⟨b1, h3, h4⟩ := open_ok ns 1 (by decide)
  obtain ⟨q0, c0, h5, h6, l6⟩ := questions_ok h2
  obtain ⟨q1, c1, h7, h8, l8⟩ := questions_ok h4
  simp only [h1, h3, h5, h7, bd_eq]
  rw [cat_eq (by omega)]
  simp only [bd_eq]
  have hq : ∀ q ∈ q0 ++ q1, Qok q := fun q hq => (List.mem_append.mp hq).elim (h6 q) (h8 q)
  obtain ⟨z, e1, _⟩ := foldF_nx (f := fun (s : Unit) x => B_law_9 x) (fun r _ => ∀ q ∈ r, Qok q) (fun q r s hi => by
    obtain ⟨n, g1, g2, g3, g4⟩ := hi q (List.mem_cons_self ..)
    refine ⟨(), ?_, fun q hq => hi q (List.mem_cons_of_mem _ hq)⟩
    unfold B_law_9
    rw [g2, blocks_eq (by omega)]
    simp only [bd_eq]
    rw [right_ok g3 g4 g1]
    simp only [bd_eq]
    rw [if_neg (by decide), show (0 : Int) = ((0 : Nat) : Int) from rfl, stI_nat (by simp)]
    simp only [bd_eq]
    rw [app_eq (by simp; omega)]
    rfl) (q0 ++ q1) () hq
  rw [e1]
  show K_law_9 (q0 ++ q1) = _
  unfold K_law_9
  obtain ⟨z, e2, _⟩ := foldF_nx (f := fun (s : Unit) x => B_law_30 x) (fun r _ => ∀ q ∈ r, Qok q) (fun q r s hi => by
    obtain ⟨n, g1, g2, g3, g4⟩ := hi q (List.mem_cons_self ..)
    refine ⟨(), ?_, fun q hq => hi q (List.mem_cons_of_mem _ hq)⟩
    unfold B_law_30
    rw [g2, blocks_eq (by omega)]
    simp only [bd_eq]
    rw [right_ok g3 g4 g1]
    simp only [bd_eq]
    rw [if_neg (by decide)]) (q0 ++ q1) () hq
  rw [e2]
  rfl
end Z

namespace Z
open PySem PySem.Spec L2
def topS (i : Nat) : Stmt := PySem.Challenge.pw_forkedshelves_k09_blocks_of_a_place.main.body.getD i (.Pass ⟨0, 0, 0, 0⟩)
structure Blt (mg : Str → Option Value) : Prop where
  bool : mg "bool" = none
  int : mg "int" = none
  isinstance : mg "isinstance" = none
  len : mg "len" = none
  list : mg "list" = none
  range : mg "range" = none
  tuple : mg "tuple" = none
section
variable {P : Program} {w : World} {K : PySem.W.Frag} {mg : Str → Option Value} {base : Heap}
abbrev s_l_open : Stmt := topS 3
theorem sc_l_open : FnScope ["_law_script", "_law_at", "_law_cell"] ["_law_script", "_law_at"] (defScope s_l_open) := ⟨rfl, rfl, rfl, by decide +kernel, rfl, by decide +kernel, by decide +kernel⟩
def sp_l_open (K : PySem.W.Frag) : Sp := fun vs H Q _ => ∃ (F0 : Hp) (Os0 : Owns) (x_script : (List Int)) (x_at : Int) (v_script : V) (v_at : V) (res : (List Int)), vs = [v_script, v_at] ∧ Wf F0 (Os0) H ∧ (rScr K).r F0 v_script x_script ∧ rInt.r F0 v_at x_at ∧ M_l_open x_script x_at = some res ∧ ∀ p F' H', Same F0 F' → Wf F' ((p, (oList rInt) res) :: Os0) H' → Q (.ref p) H'
theorem ok_l_open {f : Addr} {fd : FuncData} (T : FT K mg "_law_open" s_l_open ["_law_script", "_law_at"] f fd) (B : Blt mg) : FnOk P w K mg base CX0 1 f fd ["_law_script", "_law_at"] (sp_l_open K) := by
  refine T.fn.ok sc_l_open (fun vs H Q E h => ?_) (fun cdv A outer s H vs Q E hr h => ?_)
  · obtain ⟨_, _, _, _, _, _, _, rfl, _⟩ := h
    rfl
  · obtain ⟨F0, Os0, x_script, x_at, v_script, v_at, res, rfl, w0, r_script, r_at, h, kQ⟩ := h
    have nd := sc_l_open.nd
    refine ⟨_, pss_w, ?_⟩
    unfold M_l_open at h
    show Ws _ _ _ [some v_script, some v_at, none] _
    refine ws_set (n := 2) (W := rInt.v) w0 (ev_int) nd (fun v1 F2 H2 s2 w2 r1 => ?_)
    show Ws _ _ _ [some v_script, some v_at, some v1] _
    obtain ⟨y4, hy4, hk4⟩ := bd_some h
    refine ws_j (fun (sg : L2.St) (Hm : Hp) => ∃ (x_cell5 : Int) (v6 : V) (Fm : Hp), sg = [some v_script, some v_at, some v6] ∧ Same F2 Fm ∧ Wf Fm (Os0) Hm ∧ rInt.r Fm v6 x_cell5 ∧ x_cell5 = y4) (w1_if w2 (et_cmp cp_lt (ev_var (n := 1) (W := rInt.v) rfl r_at) (ev_lenS (ev_var (n := 0) (W := (rScr K).v) rfl ((rScr K).mono s2 r_script)) B.len)) (fun hb3 F7 H7 s7 w7 => ?_) (fun hb3 F7 H7 s7 w7 => ?_)) ?_
    · skip
      have h := (if_some hy4).1 hb3
      obtain ⟨t8, et8, h⟩ := bd_some h
      refine ws_set (n := 2) (W := rInt.v) w7 ((ev_ixS et8 (ev_var (n := 0) (W := (rScr K).v) rfl ((rScr K).mono (s2.trans s7) r_script)) (ev_var (n := 1) (W := rInt.v) rfl r_at))) nd (fun v9 F10 H10 s10 w10 r9 => ?_)
      show Ws _ _ _ [some v_script, some v_at, some v9] _
      refine ws_nil ?_
      exact ⟨t8, v9, F10, rfl, (s7.trans s10), w10, r9, Option.some.inj h⟩
    · skip
      have h := (if_some hy4).2 hb3
      refine ws_nil ?_
      exact ⟨0, v1, F7, rfl, s7, w7, r1, Option.some.inj h⟩
    · skip
      rintro _ H11 ⟨x_cell5, v6, F11, rfl, s11, w11, r12, rfl⟩
      have h := hk4
      have h : K_l_open_4 x_cell5 = some _ := h
      unfold K_l_open_4 at h
      refine ws_if w11 (et_cmp cp_ge (ev_var (n := 2) (W := rInt.v) rfl r12) (Ev.eq (x' := 1000000000000000000) (ev_pow ev_int ev_int ⟨by decide, by decide, by decide⟩) (by decide))) (fun hb13 F14 H14 s14 w14 => ?_) (fun hb13 F14 H14 s14 w14 => ?_)
      · skip
        have h := (if_some h).1 hb13
        obtain rfl := Option.some.inj h
        refine ws_retN (O := (oList rInt) _) w14 (evn_list (el_cons ev_int (el_cons (ev_sub (ev_var (n := 2) (W := rInt.v) rfl r12) (Ev.eq (x' := 1000000000000000000) (ev_pow ev_int ev_int ⟨by decide, by decide, by decide⟩) (by decide))) (el_cons ev_int el_nil))) (by exact (show 3 ≤ 16777216 by decide))) (fun pz Fz Hz sz wz => ?_)
        exact kQ _ _ _ ((s2.trans (s11.trans s14)).trans sz) wz
      · skip
        have h := (if_some h).2 hb13
        refine ws_nil ?_
        obtain rfl := Option.some.inj h
        refine ws_retN (O := (oList rInt) _) w14 (evn_list (el_cons ev_int (el_cons (ev_var (n := 2) (W := rInt.v) rfl r12) (el_cons ev_int el_nil))) (by exact (show 3 ≤ 16777216 by decide))) (fun pz Fz Hz sz wz => ?_)
        exact kQ _ _ _ ((s2.trans (s11.trans s14)).trans sz) wz
abbrev s_l_take : Stmt := topS 4
theorem sc_l_take : FnScope ["_law_box", "_law_size", "_law_drawn", "_law_k", "_law_mixed"] ["_law_box", "_law_size"] (defScope s_l_take) := ⟨rfl, rfl, rfl, by decide +kernel, rfl, by decide +kernel, by decide +kernel⟩
def sp_l_take (K : PySem.W.Frag) : Sp := fun vs H Q _ => ∃ (F0 : Hp) (Os0 : Owns) (x_box : (List Int)) (x_size : Int) (a_box : Addr) (v_size : V) (res : Int) (b_box : (List Int)), vs = [.ref a_box, v_size] ∧ Wf F0 ((a_box, (oList rInt) x_box) :: Os0) H ∧ rInt.r F0 v_size x_size ∧ M_l_take x_box x_size = some (res, b_box) ∧ ∀ v F' H', Same F0 F' → Wf F' ((a_box, (oList rInt) b_box) :: Os0) H' → rInt.r F' v res → Q v H'
theorem ok_l_take {f : Addr} {fd : FuncData} (T : FT K mg "_law_take" s_l_take ["_law_box", "_law_size"] f fd) (B : Blt mg) : FnOk P w K mg base CX0 1 f fd ["_law_box", "_law_size"] (sp_l_take K) := by
  refine T.fn.ok sc_l_take (fun vs H Q E h => ?_) (fun cdv A outer s H vs Q E hr h => ?_)
  · obtain ⟨_, _, _, _, _, _, _, _, rfl, _⟩ := h
    rfl
  · obtain ⟨F0, Os0, x_box, x_size, a_box, v_size, res, b_box, rfl, w0, r_size, h, kQ⟩ := h
    have nd := sc_l_take.nd
    refine ⟨_, pss_w, ?_⟩
    unfold M_l_take at h
    show Ws _ _ _ [some (.ref a_box), some v_size, none, none, none] _
    obtain ⟨t1, et1, h⟩ := bd_some h
    refine ws_if w0 (et_cmp cp_eq (ev_ixL et1 (ev_var (n := 0) (W := vOf (oList rInt)) rfl (vOf.own (i := 0) rfl)) ev_int) ev_int) (fun hb2 F3 H3 s3 w3 => ?_) (fun hb2 F3 H3 s3 w3 => ?_)
    · skip
      have h := (if_some h).1 hb2
      obtain ⟨t4, et4, h⟩ := bd_some h
      obtain ⟨t5, et5, h⟩ := bd_some h
      refine ws_set (n := 2) (W := rInt.v) w3 ((ev_modO et5 (ev_intI (ev_ixL et4 (ev_var (n := 0) (W := vOf (oList rInt)) rfl (vOf.own (i := 0) rfl)) ev_int) B.int) (ev_var (n := 1) (W := rInt.v) rfl r_size))) nd (fun v6 F7 H7 s7 w7 r6 => ?_)
      show Ws _ _ _ [some (.ref a_box), some v_size, some v6, none, none] _
      obtain ⟨t8, et8, h⟩ := bd_some h
      obtain ⟨t9, et9, h⟩ := bd_some h
      obtain ⟨x_box10, ex_box10, h⟩ := bd_some h
      refine ws_stL (n := 0) (R := rInt) w7 (ev_divO et9 (ev_intI (ev_ixL et8 (ev_var (n := 0) (W := vOf (oList rInt)) rfl (vOf.own (i := 0) rfl)) ev_int) B.int) (ev_var (n := 1) (W := rInt.v) rfl r_size)) (ev_var (n := 0) (W := (rIs (.ref a_box)).v) (x := ()) rfl rfl) ev_int rfl ex_box10 (fun F11 H11 s11 w11 => ?_)
      obtain ⟨rfl, rfl⟩ := pair_inj h
      refine ws_ret (W := rInt.v) w11 (ev_var (n := 2) (W := rInt.v) rfl r6) (fun vz Fz Hz sz wz rz => ?_)
      exact kQ _ _ _ ((s3.trans (s7.trans s11)).trans sz) wz rz
    · skip
      have h := (if_some h).2 hb2
      refine ws_nil ?_
      obtain ⟨t12, et12, h⟩ := bd_some h
      refine ws_set (n := 3) (W := rInt.v) w3 ((ev_ixL et12 (ev_var (n := 0) (W := vOf (oList rInt)) rfl (vOf.own (i := 0) rfl)) ev_int)) nd (fun v13 F14 H14 s14 w14 r13 => ?_)
      show Ws _ _ _ [some (.ref a_box), some v_size, none, some v13, none] _
      obtain ⟨x_box15, ex_box15, h⟩ := bd_some h
      refine ws_stL (n := 0) (R := rInt) w14 (ev_add (ev_var (n := 3) (W := rInt.v) rfl r13) ev_int) (ev_var (n := 0) (W := (rIs (.ref a_box)).v) (x := ()) rfl rfl) ev_int rfl ex_box15 (fun F16 H16 s16 w16 => ?_)
      obtain ⟨t17, et17, h⟩ := bd_some h
      obtain ⟨x_mixed18, ex_mixed18, h⟩ := lt_some h
      refine ws_set (n := 4) (W := rInt.v) w16 (Ev.eq (ev_mod (ev_intI (ev_add (ev_add (ev_ixL et17 (ev_var (n := 0) (W := vOf (oList rInt)) rfl (vOf.own (i := 0) rfl)) ev_int) (ev_mul ev_int (ev_var (n := 3) (W := rInt.v) rfl r13) (.inl ⟨by decide, by decide⟩))) ev_int) B.int) ev_int (by decide)) ex_mixed18) nd (fun v19 F20 H20 s20 w20 r19 => ?_)
      show Ws _ _ _ [some (.ref a_box), some v_size, none, some v13, some v19] _
      obtain ⟨t21, et21, h⟩ := bd_some h
      obtain ⟨x_mixed22, ex_mixed22, h⟩ := lt_some h
      refine ws_set (n := 4) (W := rInt.v) w20 (Ev.eq (ev_mod (ev_intI (ev_mulO et21 (ev_var (n := 4) (W := rInt.v) rfl r19) (ev_add (ev_var (n := 4) (W := rInt.v) rfl r19) ev_int)) B.int) ev_int (by decide)) ex_mixed22) nd (fun v23 F24 H24 s24 w24 r23 => ?_)
      show Ws _ _ _ [some (.ref a_box), some v_size, none, some v13, some v23] _
      obtain ⟨t25, et25, h⟩ := bd_some h
      obtain ⟨x_mixed26, ex_mixed26, h⟩ := lt_some h
      refine ws_set (n := 4) (W := rInt.v) w24 (Ev.eq (ev_mod (ev_intI (ev_add (ev_mulO et25 (ev_var (n := 4) (W := rInt.v) rfl r23) (ev_add (ev_var (n := 4) (W := rInt.v) rfl r23) ev_int)) (ev_mul ev_int (ev_var (n := 3) (W := rInt.v) rfl r13) (.inl ⟨by decide, by decide⟩))) B.int) ev_int (by decide)) ex_mixed26) nd (fun v27 F28 H28 s28 w28 r27 => ?_)
      show Ws _ _ _ [some (.ref a_box), some v_size, none, some v13, some v27] _
      obtain ⟨t29, et29, h⟩ := bd_some h
      obtain ⟨rfl, rfl⟩ := pair_inj h
      refine ws_ret (W := rInt.v) w28 (ev_modO et29 (ev_intI (ev_div (ev_var (n := 4) (W := rInt.v) rfl r27) ev_int ⟨by decide, by decide +kernel⟩) B.int) (ev_var (n := 1) (W := rInt.v) rfl r_size)) (fun vz Fz Hz sz wz rz => ?_)
      exact kQ _ _ _ ((s3.trans (s14.trans (s16.trans (s20.trans (s24.trans s28))))).trans sz) wz rz
abbrev s_l_whole : Stmt := topS 5
theorem sc_l_whole : FnScope ["_law_levels", "_law_size", "_law_k"] ["_law_levels"] (defScope s_l_whole) := ⟨rfl, rfl, rfl, by decide +kernel, rfl, by decide +kernel, by decide +kernel⟩
def sp_l_whole (K : PySem.W.Frag) : Sp := fun vs H Q _ => ∃ (F0 : Hp) (Os0 : Owns) (x_levels : Int) (v_levels : V) (res : Int), vs = [v_levels] ∧ Wf F0 (Os0) H ∧ rInt.r F0 v_levels x_levels ∧ M_l_whole x_levels = some res ∧ ∀ v F' H', Same F0 F' → Wf F' (Os0) H' → rInt.r F' v res → Q v H'
theorem ok_l_whole {f : Addr} {fd : FuncData} (T : FT K mg "_law_whole" s_l_whole ["_law_levels"] f fd) (B : Blt mg) : FnOk P w K mg base CX0 1 f fd ["_law_levels"] (sp_l_whole K) := by
  refine T.fn.ok sc_l_whole (fun vs H Q E h => ?_) (fun cdv A outer s H vs Q E hr h => ?_)
  · obtain ⟨_, _, _, _, _, rfl, _⟩ := h
    rfl
  · obtain ⟨F0, Os0, x_levels, v_levels, res, rfl, w0, r_levels, h, kQ⟩ := h
    have nd := sc_l_whole.nd
    refine ⟨_, pss_w, ?_⟩
    unfold M_l_whole at h
    show Ws _ _ _ [some v_levels, none, none] _
    refine ws_set (n := 1) (W := rInt.v) w0 (ev_int) nd (fun v1 F2 H2 s2 w2 r1 => ?_)
    show Ws _ _ _ [some v_levels, some v1, none] _
    obtain ⟨rg3, erg3, h⟩ := bd_some h
    obtain ⟨z5, hz5, hk5⟩ := bd_some h
    refine ws_j (fun (sg : L2.St) (Hm : Hp) => ∃ (x_size9 : Int) (v10 : V) (o11 : Option V) (Fm : Hp), sg = [some v_levels, some v10, o11] ∧ Same F2 Fm ∧ Wf Fm (Os0) Hm ∧ rInt.r Fm v10 x_size9 ∧ x_size9 = z5) (w1_forR1 (n := 2) erg3 w2 (ev_var (n := 0) (W := rInt.v) rfl r_levels) nd (fun F4 H4 s4 w4 => ?_) PassesOwn.never B.range) ?_
    · skip
      refine ⟨(fun (rr : List Int) (sg : L2.St) (Hm : Hp) => ∃ (x_size6 : Int) (v7 : V) (o8 : Option V) (Fm : Hp), sg = [some v_levels, some v7, o8] ∧ Same F4 Fm ∧ Wf Fm (Os0) Hm ∧ rInt.r Fm v7 x_size6 ∧ foldO (fun s x => B_l_whole_5 s x) x_size6 rr = some z5), ⟨1, v1, none, F4, rfl, (Same.refl _), w4, r1, hz5⟩, ?_, ?_⟩
      · skip
        rintro x12 rr _ H13 ⟨x_size6, v7, o8, F13, rfl, s13, w13, r14, hz5⟩
        obtain ⟨y5, hy5, hz5⟩ := foldO_some hz5
        have h : B_l_whole_5 x_size6 x12 = some _ := hy5
        unfold B_l_whole_5 at h
        show Ws _ _ _ [some v_levels, some v7, some (.int x12)] _
        obtain ⟨x_size15, ex_size15, h⟩ := lt_some h
        refine ws_set (n := 1) (W := rInt.v) w13 (Ev.eq (ev_mul (ev_var (n := 1) (W := rInt.v) rfl r14) ev_int (.inr ⟨by decide, by decide⟩)) ex_size15) nd (fun v16 F17 H17 s17 w17 r16 => ?_)
        show Ws _ _ _ [some v_levels, some v16, some (.int x12)] _
        refine ws_nil ?_
        obtain rfl := Option.some.inj h
        exact ⟨x_size15, v16, some (.int x12), F17, rfl, (s13.trans s17), w17, r16, hz5⟩
      · skip
        rintro _ H18 ⟨x_size6, v7, o8, F18, rfl, s18, w18, r19, hz5⟩
        have hz := foldO_nil hz5
        exact ⟨x_size6, v7, o8, F18, rfl, (s4.trans s18), w18, r19, hz.symm⟩
    · skip
      rintro _ H20 ⟨x_size9, v10, o11, F20, rfl, s20, w20, r21, rfl⟩
      have h := hk5
      have h : K_l_whole_5 x_size9 = some _ := h
      unfold K_l_whole_5 at h
      obtain rfl := Option.some.inj h
      refine ws_ret (W := rInt.v) w20 (ev_var (n := 1) (W := rInt.v) rfl r21) (fun vz Fz Hz sz wz rz => ?_)
      exact kQ _ _ _ ((s2.trans s20).trans sz) wz rz
abbrev s_l_questions : Stmt := topS 6
theorem sc_l_questions : FnScope ["_law_box", "_law_levels", "_law_whole_here", "_law_rows", "_law_k"] ["_law_box"] (defScope s_l_questions) := ⟨rfl, rfl, rfl, by decide +kernel, rfl, by decide +kernel, by decide +kernel⟩
def sp_l_questions (K : PySem.W.Frag) : Sp := fun vs H Q _ => ∃ (F0 : Hp) (Os0 : Owns) (x_box : (List Int)) (a_box : Addr) (res : (List (Int × Int))) (b_box : (List Int)), vs = [.ref a_box] ∧ Wf F0 ((a_box, (oList rInt) x_box) :: Os0) H ∧ M_l_questions x_box = some (res, b_box) ∧ ∀ p F' H', Same F0 F' → Wf F' ((p, (oList (rT2 rInt rInt)) res) :: (a_box, (oList rInt) b_box) :: Os0) H' → Q (.ref p) H'
theorem ok_l_questions {f : Addr} {fd : FuncData} {f_l_take : Addr} {d_l_take : FuncData} {f_l_whole : Addr} {d_l_whole : FuncData} (T : FT K mg "_law_questions" s_l_questions ["_law_box"] f fd) (B : Blt mg) (T_l_take : FT K mg "_law_take" s_l_take ["_law_box", "_law_size"] f_l_take d_l_take) (G_l_take : FnOk P w K mg base CX0 1 f_l_take d_l_take ["_law_box", "_law_size"] (sp_l_take K)) (T_l_whole : FT K mg "_law_whole" s_l_whole ["_law_levels"] f_l_whole d_l_whole) (G_l_whole : FnOk P w K mg base CX0 1 f_l_whole d_l_whole ["_law_levels"] (sp_l_whole K)) : FnOk P w K mg base CX0 2 f fd ["_law_box"] (sp_l_questions K) := by
  refine T.fn.ok sc_l_questions (fun vs H Q E h => ?_) (fun cdv A outer s H vs Q E hr h => ?_)
  · obtain ⟨_, _, _, _, _, _, rfl, _⟩ := h
    rfl
  · obtain ⟨F0, Os0, x_box, a_box, res, b_box, rfl, w0, h, kQ⟩ := h
    have nd := sc_l_questions.nd
    refine ⟨_, pss_w, ?_⟩
    unfold M_l_questions at h
    show Ws _ _ _ [some (.ref a_box), none, none, none, none] _
    obtain ⟨t1, et1, h⟩ := bd_some h
    refine ws_set (n := 1) (W := rInt.v) w0 ((ev_call (U := rInt.v) (Os2 := ((a_box, (oList rInt) t1.2) :: Os0)) G_l_take (hr.mono (by decide)) T_l_take.gm T_l_take.fn.kp T_l_take.bi pass0 (ea_cons (ev_var (n := 0) (W := (rIs (.ref a_box)).v) (x := ()) rfl rfl) (ea_cons ev_int ea_nil)) (fun F' Os' H' vs Q w hv q => by obtain ⟨u0, _, rfl, q0, u1, _, rfl, q1, rfl, rfl⟩ := hv; cases q0; exact ⟨F', _, x_box, 9, a_box, u1, t1.1, t1.2, rfl, w, q1, et1, fun v F2 H2 s2 w r => by exact q v F2 H2 s2 w r⟩))) nd (fun v2 F3 H3 s3 w3 r2 => ?_)
    show Ws _ _ _ [some (.ref a_box), some v2, none, none, none] _
    obtain ⟨t4, et4, h⟩ := bd_some h
    refine ws_set (n := 2) (W := rInt.v) w3 ((ev_call (U := rInt.v) (Os2 := ((a_box, (oList rInt) t1.2) :: Os0)) G_l_whole (hr.mono (by decide)) T_l_whole.gm T_l_whole.fn.kp T_l_whole.bi pass0 (ea_cons (ev_var (n := 1) (W := rInt.v) rfl r2) ea_nil) (fun F' Os' H' vs Q w hv q => by obtain ⟨u0, _, rfl, q0, rfl, rfl⟩ := hv; exact ⟨F', _, t1.1, u0, t4, rfl, w, q0, et4, fun v F2 H2 s2 w r => by exact q v F2 H2 s2 w r⟩))) nd (fun v5 F6 H6 s6 w6 r5 => ?_)
    show Ws _ _ _ [some (.ref a_box), some v2, some v5, none, none] _
    obtain ⟨x_rows7, ex_rows7, h⟩ := lt_some h
    refine ws_setN (n := 3) (O := (oList (rT2 rInt rInt)) x_rows7) w6 (EvN.eqO (O := (oList (rT2 rInt rInt))) (evn_list (el_cons (ev_tup2 (ea_cons (ev_var (n := 1) (W := rInt.v) rfl r2) (ea_cons ev_int ea_nil))) (el_cons (ev_tup2 (ea_cons (ev_var (n := 1) (W := rInt.v) rfl r2) (ea_cons (ev_sub (ev_var (n := 2) (W := rInt.v) rfl r5) ev_int) ea_nil))) el_nil)) (by exact (show 2 ≤ 16777216 by decide))) ex_rows7) nd (fun p_rows8 F9 H9 s9 w9 => ?_)
    have w10 := w9.back (i := 1)
    show Ws _ _ _ [some (.ref a_box), some v2, some v5, some (.ref p_rows8), none] _
    obtain ⟨rg11, erg11, h⟩ := bd_some h
    obtain ⟨z13, hz13, hk13⟩ := bd_some h
    refine ws_j (fun (sg : L2.St) (Hm : Hp) => ∃ (x_box17 : (List Int)) (x_rows18 : (List (Int × Int))) (o19 : Option V) (Fm : Hp), sg = [some (.ref a_box), some v2, some v5, some (.ref p_rows8), o19] ∧ Same F9 Fm ∧ Wf Fm ((a_box, (oList rInt) x_box17) :: (p_rows8, (oList (rT2 rInt rInt)) x_rows18) :: Os0) Hm ∧ (x_box17, x_rows18) = z13) (w1_forR1 (n := 4) erg11 w10 ev_int nd (fun F12 H12 s12 w12 => ?_) PassesOwn.never B.range) ?_
    · skip
      refine ⟨(fun (rr : List Int) (sg : L2.St) (Hm : Hp) => ∃ (x_box14 : (List Int)) (x_rows15 : (List (Int × Int))) (o16 : Option V) (Fm : Hp), sg = [some (.ref a_box), some v2, some v5, some (.ref p_rows8), o16] ∧ Same F12 Fm ∧ Wf Fm ((a_box, (oList rInt) x_box14) :: (p_rows8, (oList (rT2 rInt rInt)) x_rows15) :: Os0) Hm ∧ foldO (fun s x => B_l_questions_13 t1 t4 s.1 s.2 x) (x_box14, x_rows15) rr = some z13), ⟨t1.2, x_rows7, none, F12, rfl, (Same.refl _), w12, hz13⟩, ?_, ?_⟩
      · skip
        rintro x20 rr _ H21 ⟨x_box14, x_rows15, o16, F21, rfl, s21, w21, hz13⟩
        obtain ⟨y13, hy13, hz13⟩ := foldO_some hz13
        have h : B_l_questions_13 t1 t4 x_box14 x_rows15 x20 = some _ := hy13
        unfold B_l_questions_13 at h
        show Ws _ _ _ [some (.ref a_box), some v2, some v5, some (.ref p_rows8), some (.int x20)] _
        obtain ⟨t22, et22, h⟩ := bd_some h
        obtain ⟨x_rows23, ex_rows23, h⟩ := bd_some h
        refine ws_app (n := 1) (m := 3) (R := (rT2 rInt rInt)) (Os1 := ((a_box, (oList rInt) t22.2) :: (p_rows8, (oList (rT2 rInt rInt)) x_rows15) :: Os0)) w21 rfl (ev_tup2 (ea_cons (ev_var (n := 1) (W := rInt.v) rfl r2) (ea_cons (ev_call (U := rInt.v) (Os2 := ((a_box, (oList rInt) t22.2) :: (p_rows8, (oList (rT2 rInt rInt)) x_rows15) :: Os0)) G_l_take (hr.mono (by decide)) T_l_take.gm T_l_take.fn.kp T_l_take.bi pass0 (ea_cons (ev_var (n := 0) (W := (rIs (.ref a_box)).v) (x := ()) rfl rfl) (ea_cons (ev_var (n := 2) (W := rInt.v) rfl r5) ea_nil)) (fun F' Os' H' vs Q w hv q => by obtain ⟨u0, _, rfl, q0, u1, _, rfl, q1, rfl, rfl⟩ := hv; cases q0; exact ⟨F', _, x_box14, t4, a_box, u1, t22.1, t22.2, rfl, w, q1, et22, fun v F2 H2 s2 w r => by exact q v F2 H2 s2 w r⟩)) ea_nil))) rfl ex_rows23 (fun F24 H24 s24 w24 => ?_)
        refine ws_nil ?_
        obtain rfl := Option.some.inj h
        exact ⟨t22.2, x_rows23, some (.int x20), F24, rfl, (s21.trans s24), w24, hz13⟩
      · skip
        rintro _ H25 ⟨x_box14, x_rows15, o16, F25, rfl, s25, w25, hz13⟩
        have hz := foldO_nil hz13
        exact ⟨x_box14, x_rows15, o16, F25, rfl, (s12.trans s25), w25, hz.symm⟩
    · skip
      rintro _ H26 ⟨x_box17, x_rows18, o19, F26, rfl, s26, w26, rfl⟩
      have h := hk13
      have h : K_l_questions_13 x_box17 x_rows18 = some _ := h
      unfold K_l_questions_13 at h
      obtain ⟨rfl, rfl⟩ := pair_inj h
      refine ws_ret (W := (rIs (.ref p_rows8)).v) w26 (ev_var (n := 3) (W := (rIs (.ref p_rows8)).v) (x := ()) rfl rfl) (fun vz Fz Hz sz wz rz => ?_)
      cases rz
      have wz := wz.pull (i := 1) rfl
      exact kQ _ _ _ ((s3.trans (s6.trans (s9.trans s26))).trans sz) wz
abbrev s_blocks_with : Stmt := topS 1
theorem sc_blocks_with : FnScope ["depth", "place", "blocks", "size", "_"] ["depth", "place"] (defScope s_blocks_with) := ⟨rfl, rfl, rfl, by decide +kernel, rfl, by decide +kernel, by decide +kernel⟩
def sp_blocks_with (K : PySem.W.Frag) : Sp := fun vs H Q _ => ∃ (F0 : Hp) (Os0 : Owns) (x_depth : Int) (x_place : Int) (v_depth : V) (v_place : V) (res : (List (Int × Int))), vs = [v_depth, v_place] ∧ Wf F0 (Os0) H ∧ rInt.r F0 v_depth x_depth ∧ rInt.r F0 v_place x_place ∧ M_blocks_with x_depth x_place = some res ∧ ∀ p F' H', Same F0 F' → Wf F' ((p, (oList (rT2 rInt rInt)) res) :: Os0) H' → Q (.ref p) H'
theorem ok_blocks_with {f : Addr} {fd : FuncData} (T : FT K mg "blocks_with" s_blocks_with ["depth", "place"] f fd) (B : Blt mg) : FnOk P w K mg base CX0 1 f fd ["depth", "place"] (sp_blocks_with K) := by
  refine T.fn.ok sc_blocks_with (fun vs H Q E h => ?_) (fun cdv A outer s H vs Q E hr h => ?_)
  · obtain ⟨_, _, _, _, _, _, _, rfl, _⟩ := h
    rfl
  · obtain ⟨F0, Os0, x_depth, x_place, v_depth, v_place, res, rfl, w0, r_depth, r_place, h, kQ⟩ := h
    have nd := sc_blocks_with.nd
    refine ⟨_, pss_w, ?_⟩
    unfold M_blocks_with at h
    show Ws _ _ _ [some v_depth, some v_place, none, none, none] _
    obtain ⟨x_blocks1, ex_blocks1, h⟩ := lt_some h
    refine ws_setN (n := 2) (O := (oList (rT2 rInt rInt)) x_blocks1) w0 (EvN.eqO (O := (oList (rT2 rInt rInt))) (evn_list el_nil (by exact (show 0 ≤ 16777216 by decide))) ex_blocks1) nd (fun p_blocks2 F3 H3 s3 w3 => ?_)
    show Ws _ _ _ [some v_depth, some v_place, some (.ref p_blocks2), none, none] _
    refine ws_set (n := 3) (W := rInt.v) w3 (ev_int) nd (fun v4 F5 H5 s5 w5 r4 => ?_)
    show Ws _ _ _ [some v_depth, some v_place, some (.ref p_blocks2), some v4, none] _
    obtain ⟨rg6, erg6, h⟩ := bd_some h
    obtain ⟨z8, hz8, hk8⟩ := bd_some h
    refine ws_j (fun (sg : L2.St) (Hm : Hp) => ∃ (x_blocks13 : (List (Int × Int))) (x_size14 : Int) (v15 : V) (o16 : Option V) (Fm : Hp), sg = [some v_depth, some v_place, some (.ref p_blocks2), some v15, o16] ∧ Same F5 Fm ∧ Wf Fm ((p_blocks2, (oList (rT2 rInt rInt)) x_blocks13) :: Os0) Hm ∧ rInt.r Fm v15 x_size14 ∧ (x_blocks13, x_size14) = z8) (w1_forR1 (n := 4) erg6 w5 (ev_add (ev_var (n := 0) (W := rInt.v) rfl r_depth) ev_int) nd (fun F7 H7 s7 w7 => ?_) PassesOwn.never B.range) ?_
    · skip
      refine ⟨(fun (rr : List Int) (sg : L2.St) (Hm : Hp) => ∃ (x_blocks9 : (List (Int × Int))) (x_size10 : Int) (v11 : V) (o12 : Option V) (Fm : Hp), sg = [some v_depth, some v_place, some (.ref p_blocks2), some v11, o12] ∧ Same F7 Fm ∧ Wf Fm ((p_blocks2, (oList (rT2 rInt rInt)) x_blocks9) :: Os0) Hm ∧ rInt.r Fm v11 x_size10 ∧ foldO (fun s x => B_blocks_with_8 x_place s.1 s.2 x) (x_blocks9, x_size10) rr = some z8), ⟨x_blocks1, 1, v4, none, F7, rfl, (Same.refl _), w7, r4, hz8⟩, ?_, ?_⟩
      · skip
        rintro x17 rr _ H18 ⟨x_blocks9, x_size10, v11, o12, F18, rfl, s18, w18, r19, hz8⟩
        obtain ⟨y8, hy8, hz8⟩ := foldO_some hz8
        have h : B_blocks_with_8 x_place x_blocks9 x_size10 x17 = some _ := hy8
        unfold B_blocks_with_8 at h
        show Ws _ _ _ [some v_depth, some v_place, some (.ref p_blocks2), some v11, some (.int x17)] _
        obtain ⟨t20, et20, h⟩ := bd_some h
        obtain ⟨x_blocks21, ex_blocks21, h⟩ := bd_some h
        refine ws_app (n := 0) (m := 2) (R := (rT2 rInt rInt)) (Os1 := ((p_blocks2, (oList (rT2 rInt rInt)) x_blocks9) :: Os0)) w18 rfl (ev_tup2 (ea_cons (ev_sub (ev_var (n := 1) (W := rInt.v) rfl r_place) (ev_modO et20 (ev_var (n := 1) (W := rInt.v) rfl r_place) (ev_var (n := 3) (W := rInt.v) rfl r19))) (ea_cons (ev_var (n := 3) (W := rInt.v) rfl r19) ea_nil))) rfl ex_blocks21 (fun F22 H22 s22 w22 => ?_)
        obtain ⟨x_size23, ex_size23, h⟩ := lt_some h
        refine ws_set (n := 3) (W := rInt.v) w22 (Ev.eq (ev_mul (ev_var (n := 3) (W := rInt.v) rfl r19) ev_int (.inr ⟨by decide, by decide⟩)) ex_size23) nd (fun v24 F25 H25 s25 w25 r24 => ?_)
        show Ws _ _ _ [some v_depth, some v_place, some (.ref p_blocks2), some v24, some (.int x17)] _
        refine ws_nil ?_
        obtain rfl := Option.some.inj h
        exact ⟨x_blocks21, x_size23, v24, some (.int x17), F25, rfl, (s18.trans (s22.trans s25)), w25, r24, hz8⟩
      · skip
        rintro _ H26 ⟨x_blocks9, x_size10, v11, o12, F26, rfl, s26, w26, r27, hz8⟩
        have hz := foldO_nil hz8
        exact ⟨x_blocks9, x_size10, v11, o12, F26, rfl, (s7.trans s26), w26, r27, hz.symm⟩
    · skip
      rintro _ H28 ⟨x_blocks13, x_size14, v15, o16, F28, rfl, s28, w28, r29, rfl⟩
      have h := hk8
      have h : K_blocks_with_8 x_blocks13 x_size14 = some _ := h
      unfold K_blocks_with_8 at h
      obtain rfl := Option.some.inj h
      refine ws_ret (W := (rIs (.ref p_blocks2)).v) w28 (ev_var (n := 2) (W := (rIs (.ref p_blocks2)).v) (x := ()) rfl rfl) (fun vz Fz Hz sz wz rz => ?_)
      cases rz
      have wz := wz.pull (i := 0) rfl
      exact kQ _ _ _ ((s3.trans (s5.trans s28)).trans sz) wz
abbrev s_l_right : Stmt := topS 7
theorem sc_l_right : FnScope ["_law_told", "_law_levels", "_law_place", "_law_size", "_law_block", "_law_number"] ["_law_told", "_law_levels", "_law_place"] (defScope s_l_right) := ⟨rfl, rfl, rfl, by decide +kernel, rfl, by decide +kernel, by decide +kernel⟩
def sp_l_right (K : PySem.W.Frag) : Sp := fun vs H Q _ => ∃ (F0 : Hp) (Os0 : Owns) (x_told : (List (Int × Int))) (x_levels : Int) (x_place : Int) (v_told : V) (v_levels : V) (v_place : V) (res : Bool), vs = [v_told, v_levels, v_place] ∧ Wf F0 (Os0) H ∧ (rList (rT2 rInt rInt)).r F0 v_told x_told ∧ rInt.r F0 v_levels x_levels ∧ rInt.r F0 v_place x_place ∧ M_l_right x_told x_levels x_place = some res ∧ ∀ v F' H', Same F0 F' → Wf F' (Os0) H' → rBool.r F' v res → Q v H'
theorem ok_l_right {f : Addr} {fd : FuncData} (T : FT K mg "_law_right" s_l_right ["_law_told", "_law_levels", "_law_place"] f fd) (B : Blt mg) : FnOk P w K mg base CX0 1 f fd ["_law_told", "_law_levels", "_law_place"] (sp_l_right K) := by
  refine T.fn.ok sc_l_right (fun vs H Q E h => ?_) (fun cdv A outer s H vs Q E hr h => ?_)
  · obtain ⟨_, _, _, _, _, _, _, _, _, rfl, _⟩ := h
    rfl
  · obtain ⟨F0, Os0, x_told, x_levels, x_place, v_told, v_levels, v_place, res, rfl, w0, r_told, r_levels, r_place, h, kQ⟩ := h
    have nd := sc_l_right.nd
    refine ⟨_, pss_w, ?_⟩
    unfold M_l_right at h
    show Ws _ _ _ [some v_told, some v_levels, some v_place, none, none, none] _
    refine ws_if w0 (et_w (ew_or (et_not (et_val (ev_isi (t := "list") (u := "list") (k := true) (by decide +kernel) ty_list (Ev.vw (ev_var (n := 0) (W := (rList (rT2 rInt rInt)).v) rfl r_told)) B.isinstance B.list (by decide +kernel)))) (ew_or1 (et_cmp cp_ne (ev_len (Ev.vw (ev_var (n := 0) (W := (rList (rT2 rInt rInt)).v) rfl r_told)) B.len) (ev_add (ev_var (n := 1) (W := rInt.v) rfl r_levels) ev_int))))) (fun hb1 F2 H2 s2 w2 => ?_) (fun hb1 F2 H2 s2 w2 => ?_)
    · skip
      have h := (if_some h).1 hb1
      obtain rfl := Option.some.inj h
      refine ws_ret (W := rBool.v) w2 ev_bool (fun vz Fz Hz sz wz rz => ?_)
      exact kQ _ _ _ (s2.trans sz) wz rz
    · skip
      have h := (if_some h).2 hb1
      refine ws_nil ?_
      refine ws_set (n := 3) (W := rInt.v) w2 (ev_int) nd (fun v3 F4 H4 s4 w4 r3 => ?_)
      show Ws _ _ _ [some v_told, some v_levels, some v_place, some v3, none, none] _
      obtain ⟨z6, hz6, hk6⟩ := bd_some h
      refine ws_j (fun (sg : L2.St) (Hm : Hp) => ∃ (x_size11 : Int) (v12 : V) (o13 : Option V) (o14 : Option V) (Fm : Hp), sg = [some v_told, some v_levels, some v_place, some v12, o13, o14] ∧ Same F4 Fm ∧ Wf Fm (Os0) Hm ∧ rInt.r Fm v12 x_size11 ∧ .nx x_size11 = z6) (w1_for (n := 4) (R := (rT2 rInt rInt)) w4 (ev_var (n := 0) (W := (rList (rT2 rInt rInt)).v) rfl ((rList (rT2 rInt rInt)).mono (s2.trans s4) r_told)) nd (fun F5 H5 s5 w5 => ?_) PassesOwn.never) ?_
      · skip
        refine ⟨(fun (rr : List (Int × Int)) (sg : L2.St) (Hm : Hp) => ∃ (x_size7 : Int) (v8 : V) (o9 : Option V) (o10 : Option V) (Fm : Hp), sg = [some v_told, some v_levels, some v_place, some v8, o9, o10] ∧ Same F5 Fm ∧ Wf Fm (Os0) Hm ∧ rInt.r Fm v8 x_size7 ∧ foldF (fun s x => B_l_right_6 x_place s x) x_size7 rr = some z6), ⟨1, v3, none, none, F5, rfl, (Same.refl _), w5, r3, hz6⟩, ?_, ?_, ?_⟩
        · rintro _ _ _ ⟨_, _, _, _, _, _, sk, wk, _⟩
          exact sk.trans wk.sub
        · skip
          rintro x15 rr _ H16 v15 ⟨x_size7, v8, o9, o10, F16, rfl, s16, w16, r17, hz6⟩ rx15
          obtain ⟨y6, hy6, hz6⟩ := foldF_some hz6
          have h : B_l_right_6 x_place x_size7 x15 = some _ := hy6
          unfold B_l_right_6 at h
          show Ws _ _ _ [some v_told, some v_levels, some v_place, some v8, some v15, o10] _
          refine ws_if w16 (et_w (ew_or (et_not (et_val (ev_isi (t := "tuple") (u := "tuple") (k := true) (by decide +kernel) ty_t2 (ev_var (n := 4) (W := (rT2 rInt rInt).v) rfl ((rT2 rInt rInt).mono s16 rx15)) B.isinstance B.tuple (by decide +kernel)))) (ew_or1 (et_cmp cp_ne (ev_lenT2 (ev_var (n := 4) (W := (rT2 rInt rInt).v) rfl ((rT2 rInt rInt).mono s16 rx15)) B.len) ev_int)))) (fun hb18 F19 H19 s19 w19 => ?_) (fun hb18 F19 H19 s19 w19 => ?_)
          · skip
            have h := (if_some h).1 hb18
            obtain rfl := Option.some.inj h
            obtain rfl := Option.some.inj hz6
            have h := flk_ret hk6
            obtain rfl := Option.some.inj h
            refine ws_ret (W := rBool.v) w19 ev_bool (fun vz Fz Hz sz wz rz => ?_)
            exact kQ _ _ _ ((s2.trans (s4.trans (s5.trans (s16.trans s19)))).trans sz) wz rz
          · skip
            have h := (if_some h).2 hb18
            refine ws_nil ?_
            obtain ⟨xs20, exs20, h⟩ := lt_some h
            obtain ⟨z22, hz22, hk22⟩ := bd_some h
            refine ws_j (fun (sg : L2.St) (Hm : Hp) => ∃ (o24 : Option V) (Fm : Hp), sg = [some v_told, some v_levels, some v_place, some v8, some v15, o24] ∧ Same F19 Fm ∧ Wf Fm (Os0) Hm ∧ .nx () = z22) (w1_forV (n := 5) (R := rInt) w19 (Ev.eq (ev_t2tup (ev_var (n := 4) (W := (rT2 rInt rInt).v) rfl ((rT2 rInt rInt).mono (s16.trans s19) rx15))) exs20) nd (fun F21 H21 s21 w21 => ?_) PassesOwn.never) ?_
            · skip
              refine ⟨(fun (rr : List Int) (sg : L2.St) (Hm : Hp) => ∃ (o23 : Option V) (Fm : Hp), sg = [some v_told, some v_levels, some v_place, some v8, some v15, o23] ∧ Same F21 Fm ∧ Wf Fm (Os0) Hm ∧ foldF (fun s x => B_l_right_22  x) () rr = some z22), ⟨o10, F21, rfl, (Same.refl _), w21, hz22⟩, ?_, ?_, ?_⟩
              · rintro _ _ _ ⟨_, _, _, sk, wk, _⟩
                exact sk.trans wk.sub
              · skip
                rintro x25 rr _ H26 v25 ⟨o23, F26, rfl, s26, w26, hz22⟩ rx25
                obtain ⟨y22, hy22, hz22⟩ := foldF_some hz22
                have h : B_l_right_22 x25 = some _ := hy22
                unfold B_l_right_22 at h
                show Ws _ _ _ [some v_told, some v_levels, some v_place, some v8, some v15, some v25] _
                refine ws_if w26 (et_w (ew_or (et_not (et_val (ev_isi (t := "int") (u := "int") (k := true) (by decide +kernel) ty_int (ev_var (n := 5) (W := rInt.v) rfl rx25) B.isinstance B.int (by decide +kernel)))) (ew_or1 (et_val (ev_isi (t := "int") (u := "bool") (k := false) (by decide +kernel) ty_int (ev_var (n := 5) (W := rInt.v) rfl rx25) B.isinstance B.bool (by decide +kernel)))))) (fun hb27 F28 H28 s28 w28 => ?_) (fun hb27 F28 H28 s28 w28 => ?_)
                · skip
                  have h := (if_some h).1 hb27
                  obtain rfl := Option.some.inj h
                  obtain rfl := Option.some.inj hz22
                  have h := flk_ret hk22
                  obtain rfl := Option.some.inj h
                  obtain rfl := Option.some.inj hz6
                  have h := flk_ret hk6
                  obtain rfl := Option.some.inj h
                  refine ws_ret (W := rBool.v) w28 ev_bool (fun vz Fz Hz sz wz rz => ?_)
                  exact kQ _ _ _ ((s2.trans (s4.trans (s5.trans (s16.trans (s19.trans (s21.trans (s26.trans s28))))))).trans sz) wz rz
                · skip
                  have h := (if_some h).2 hb27
                  refine ws_nil ?_
                  refine ws_nil ?_
                  obtain rfl := Option.some.inj h
                  exact ⟨some v25, F28, rfl, (s26.trans s28), w28, hz22⟩
              · skip
                rintro _ H29 ⟨o23, F29, rfl, s29, w29, hz22⟩
                have hz := foldF_nil hz22
                exact ⟨o23, F29, rfl, (s21.trans s29), w29, hz.symm⟩
            · skip
              rintro _ H30 ⟨o24, F30, rfl, s30, w30, rfl⟩
              have h := flk_nx hk22
              have h : K_l_right_22 x_place x_size7 x15  = some _ := h
              unfold K_l_right_22 at h
              obtain ⟨t32, et32, h⟩ := bd_some h
              refine ws_if w30 (et_w (ew_orG (et_cmp cp_ne (ev_t2b (ev_var (n := 4) (W := (rT2 rInt rInt).v) rfl ((rT2 rInt rInt).mono (s16.trans (s19.trans s30)) rx15))) (ev_var (n := 3) (W := rInt.v) rfl r17)) (fun hz => by have hz := (if_some et32).2 hz; obtain ⟨t31, et31, hz⟩ := bd_some hz; exact Ew.eq (ew_or1 (et_cmp cp_ne (ev_modO et31 (ev_intI (ev_t2a (ev_var (n := 4) (W := (rT2 rInt rInt).v) rfl ((rT2 rInt rInt).mono (s16.trans (s19.trans s30)) rx15))) B.int) (ev_var (n := 3) (W := rInt.v) rfl r17)) ev_int)) (Option.some.inj hz).symm) (fun hz => (Option.some.inj ((if_some et32).1 hz)).symm))) (fun hb33 F34 H34 s34 w34 => ?_) (fun hb33 F34 H34 s34 w34 => ?_)
              · skip
                have h := (if_some h).1 hb33
                obtain rfl := Option.some.inj h
                obtain rfl := Option.some.inj hz6
                have h := flk_ret hk6
                obtain rfl := Option.some.inj h
                refine ws_ret (W := rBool.v) w34 ev_bool (fun vz Fz Hz sz wz rz => ?_)
                exact kQ _ _ _ ((s2.trans (s4.trans (s5.trans (s16.trans (s19.trans (s30.trans s34)))))).trans sz) wz rz
              · skip
                have h := (if_some h).2 hb33
                refine ws_nil ?_
                refine ws_if w34 (et_w (ew_or (et_cmp cp_gt (ev_t2a (ev_var (n := 4) (W := (rT2 rInt rInt).v) rfl ((rT2 rInt rInt).mono (s16.trans (s19.trans (s30.trans s34))) rx15))) (ev_var (n := 2) (W := rInt.v) rfl r_place)) (ew_or1 (et_cmp cp_ge (ev_var (n := 2) (W := rInt.v) rfl r_place) (ev_add (ev_t2a (ev_var (n := 4) (W := (rT2 rInt rInt).v) rfl ((rT2 rInt rInt).mono (s16.trans (s19.trans (s30.trans s34))) rx15))) (ev_var (n := 3) (W := rInt.v) rfl r17)))))) (fun hb35 F36 H36 s36 w36 => ?_) (fun hb35 F36 H36 s36 w36 => ?_)
                · skip
                  have h := (if_some h).1 hb35
                  obtain rfl := Option.some.inj h
                  obtain rfl := Option.some.inj hz6
                  have h := flk_ret hk6
                  obtain rfl := Option.some.inj h
                  refine ws_ret (W := rBool.v) w36 ev_bool (fun vz Fz Hz sz wz rz => ?_)
                  exact kQ _ _ _ ((s2.trans (s4.trans (s5.trans (s16.trans (s19.trans (s30.trans (s34.trans s36))))))).trans sz) wz rz
                · skip
                  have h := (if_some h).2 hb35
                  refine ws_nil ?_
                  obtain ⟨x_size37, ex_size37, h⟩ := lt_some h
                  refine ws_set (n := 3) (W := rInt.v) w36 (Ev.eq (ev_mul (ev_var (n := 3) (W := rInt.v) rfl r17) ev_int (.inr ⟨by decide, by decide⟩)) ex_size37) nd (fun v38 F39 H39 s39 w39 r38 => ?_)
                  show Ws _ _ _ [some v_told, some v_levels, some v_place, some v38, some v15, o24] _
                  refine ws_nil ?_
                  obtain rfl := Option.some.inj h
                  exact ⟨x_size37, v38, some v15, o24, F39, rfl, (s16.trans (s19.trans (s30.trans (s34.trans (s36.trans s39))))), w39, r38, hz6⟩
        · skip
          rintro _ H40 ⟨x_size7, v8, o9, o10, F40, rfl, s40, w40, r41, hz6⟩
          have hz := foldF_nil hz6
          exact ⟨x_size7, v8, o9, o10, F40, rfl, (s5.trans s40), w40, r41, hz.symm⟩
      · skip
        rintro _ H42 ⟨x_size11, v12, o13, o14, F42, rfl, s42, w42, r43, rfl⟩
        have h := flk_nx hk6
        have h : K_l_right_6 x_size11 = some _ := h
        unfold K_l_right_6 at h
        obtain rfl := Option.some.inj h
        refine ws_ret (W := rBool.v) w42 ev_bool (fun vz Fz Hz sz wz rz => ?_)
        exact kQ _ _ _ ((s2.trans (s4.trans s42)).trans sz) wz rz
abbrev s_law : Stmt := topS 8
theorem sc_law : FnScope ["_law_script", "_law_questions_here", "_law_question", "_law_told"] ["_law_script"] (defScope s_law) := ⟨rfl, rfl, rfl, by decide +kernel, rfl, by decide +kernel, by decide +kernel⟩
def sp_law (K : PySem.W.Frag) : Sp := fun vs H Q _ => ∃ (F0 : Hp) (Os0 : Owns) (x_script : (List Int)) (v_script : V) (res : Bool), vs = [v_script] ∧ Wf F0 (Os0) H ∧ (rScr K).r F0 v_script x_script ∧ M_law x_script = some res ∧ ∀ v F' H', Same F0 F' → Wf F' (Os0) H' → rBool.r F' v res → Q v H'
theorem ok_law {f : Addr} {fd : FuncData} {f_l_questions : Addr} {d_l_questions : FuncData} {f_l_open : Addr} {d_l_open : FuncData} {f_blocks_with : Addr} {d_blocks_with : FuncData} {f_l_right : Addr} {d_l_right : FuncData} (T : FT K mg "law" s_law ["_law_script"] f fd) (B : Blt mg) (T_l_questions : FT K mg "_law_questions" s_l_questions ["_law_box"] f_l_questions d_l_questions) (G_l_questions : FnOk P w K mg base CX0 2 f_l_questions d_l_questions ["_law_box"] (sp_l_questions K)) (T_l_open : FT K mg "_law_open" s_l_open ["_law_script", "_law_at"] f_l_open d_l_open) (G_l_open : FnOk P w K mg base CX0 1 f_l_open d_l_open ["_law_script", "_law_at"] (sp_l_open K)) (T_blocks_with : FT K mg "blocks_with" s_blocks_with ["depth", "place"] f_blocks_with d_blocks_with) (G_blocks_with : FnOk P w K mg base CX0 1 f_blocks_with d_blocks_with ["depth", "place"] (sp_blocks_with K)) (T_l_right : FT K mg "_law_right" s_l_right ["_law_told", "_law_levels", "_law_place"] f_l_right d_l_right) (G_l_right : FnOk P w K mg base CX0 1 f_l_right d_l_right ["_law_told", "_law_levels", "_law_place"] (sp_l_right K)) : FnOk P w K mg base CX0 3 f fd ["_law_script"] (sp_law K) := by
  refine T.fn.ok sc_law (fun vs H Q E h => ?_) (fun cdv A outer s H vs Q E hr h => ?_)
  · obtain ⟨_, _, _, _, _, rfl, _⟩ := h
    rfl
  · obtain ⟨F0, Os0, x_script, v_script, res, rfl, w0, r_script, h, kQ⟩ := h
    have nd := sc_law.nd
    refine ⟨_, pss_w, ?_⟩
    unfold M_law at h
    show Ws _ _ _ [some v_script, none, none, none] _
    obtain ⟨t1, et1, h⟩ := bd_some h
    obtain ⟨t2, et2, h⟩ := bd_some h
    obtain ⟨t3, et3, h⟩ := bd_some h
    obtain ⟨t4, et4, h⟩ := bd_some h
    obtain ⟨t5, et5, h⟩ := bd_some h
    refine ws_set (n := 1) (W := (rList (rT2 rInt rInt)).v) w0 ((EvN.fz (evn_cat et5 (EvN.fz (evn_call (O := (oList (rT2 rInt rInt)) t2.1) (Os2 := (Os0)) G_l_questions (hr.mono (by decide)) T_l_questions.gm T_l_questions.fn.kp T_l_questions.bi pass0 (ea_new (evn_call (O := (oList rInt) t1) (Os2 := (Os0)) G_l_open (hr.mono (by decide)) T_l_open.gm T_l_open.fn.kp T_l_open.bi pass0 (ea_cons (ev_var (n := 0) (W := (rScr K).v) rfl r_script) (ea_cons ev_int ea_nil)) (fun F' Os' H' vs Q w hv q => by obtain ⟨u0, _, rfl, q0, u1, _, rfl, q1, rfl, rfl⟩ := hv; exact ⟨F', _, x_script, 0, u0, u1, t1, rfl, w, q0, q1, et1, fun p F2 H2 s2 w => by exact q p F2 H2 s2 w⟩)) fun _ => ea_nil) (fun F' Os' H' vs Q w hv q => by obtain ⟨p0, _, rfl, rfl, rfl⟩ := hv; exact ⟨F', _, t1, p0, t2.1, t2.2, rfl, w, et2, fun p F2 H2 s2 w => by have w := w.tail2; exact q p F2 H2 s2 w⟩))) (EvN.fz (evn_call (O := (oList (rT2 rInt rInt)) t4.1) (Os2 := (Os0)) G_l_questions (hr.mono (by decide)) T_l_questions.gm T_l_questions.fn.kp T_l_questions.bi pass0 (ea_new (evn_call (O := (oList rInt) t3) (Os2 := (Os0)) G_l_open (hr.mono (by decide)) T_l_open.gm T_l_open.fn.kp T_l_open.bi pass0 (ea_cons (ev_var (n := 0) (W := (rScr K).v) rfl r_script) (ea_cons ev_int ea_nil)) (fun F' Os' H' vs Q w hv q => by obtain ⟨u0, _, rfl, q0, u1, _, rfl, q1, rfl, rfl⟩ := hv; exact ⟨F', _, x_script, 1, u0, u1, t3, rfl, w, q0, q1, et3, fun p F2 H2 s2 w => by exact q p F2 H2 s2 w⟩)) fun _ => ea_nil) (fun F' Os' H' vs Q w hv q => by obtain ⟨p0, _, rfl, rfl, rfl⟩ := hv; exact ⟨F', _, t3, p0, t4.1, t4.2, rfl, w, et4, fun p F2 H2 s2 w => by have w := w.tail2; exact q p F2 H2 s2 w⟩)))))) nd (fun v6 F7 H7 s7 w7 r6 => ?_)
    show Ws _ _ _ [some v_script, some v6, none, none] _
    obtain ⟨z9, hz9, hk9⟩ := bd_some h
    refine ws_j (fun (sg : L2.St) (Hm : Hp) => ∃ (o12 : Option V) (o13 : Option V) (Fm : Hp), sg = [some v_script, some v6, o12, o13] ∧ Same F7 Fm ∧ Wf Fm (Os0) Hm ∧ .nx () = z9) (w1_for (n := 2) (R := (rT2 rInt rInt)) w7 (ev_var (n := 1) (W := (rList (rT2 rInt rInt)).v) rfl r6) nd (fun F8 H8 s8 w8 => ?_) PassesOwn.never) ?_
    · skip
      refine ⟨(fun (rr : List (Int × Int)) (sg : L2.St) (Hm : Hp) => ∃ (o10 : Option V) (o11 : Option V) (Fm : Hp), sg = [some v_script, some v6, o10, o11] ∧ Same F8 Fm ∧ Wf Fm (Os0) Hm ∧ foldF (fun s x => B_law_9  x) () rr = some z9), ⟨none, none, F8, rfl, (Same.refl _), w8, hz9⟩, ?_, ?_, ?_⟩
      · rintro _ _ _ ⟨_, _, _, _, sk, wk, _⟩
        exact sk.trans wk.sub
      · skip
        rintro x14 rr _ H15 v14 ⟨o10, o11, F15, rfl, s15, w15, hz9⟩ rx14
        obtain ⟨y9, hy9, hz9⟩ := foldF_some hz9
        have h : B_law_9 x14 = some _ := hy9
        unfold B_law_9 at h
        show Ws _ _ _ [some v_script, some v6, some v14, o11] _
        obtain ⟨t16, et16, h⟩ := bd_some h
        refine ws_setN (n := 3) (O := (oList (rT2 rInt rInt)) t16) w15 ((evn_call (O := (oList (rT2 rInt rInt)) t16) (Os2 := (Os0)) G_blocks_with (hr.mono (by decide)) T_blocks_with.gm T_blocks_with.fn.kp T_blocks_with.bi pass0 (ea_cons (ev_t2a (ev_var (n := 2) (W := (rT2 rInt rInt).v) rfl ((rT2 rInt rInt).mono s15 rx14))) (ea_cons (ev_t2b (ev_var (n := 2) (W := (rT2 rInt rInt).v) rfl ((rT2 rInt rInt).mono s15 rx14))) ea_nil)) (fun F' Os' H' vs Q w hv q => by obtain ⟨u0, _, rfl, q0, u1, _, rfl, q1, rfl, rfl⟩ := hv; exact ⟨F', _, x14.1, x14.2, u0, u1, t16, rfl, w, q0, q1, et16, fun p F2 H2 s2 w => by exact q p F2 H2 s2 w⟩))) nd (fun p_told17 F18 H18 s18 w18 => ?_)
        show Ws _ _ _ [some v_script, some v6, some v14, some (.ref p_told17)] _
        obtain ⟨t19, et19, h⟩ := bd_some h
        refine ws_if w18 (et_not (et_val (ev_call (U := rBool.v) (Os2 := ((p_told17, (oList (rT2 rInt rInt)) t16) :: Os0)) G_l_right (hr.mono (by decide)) T_l_right.gm T_l_right.fn.kp T_l_right.bi pass0 (ea_cons (ev_var (n := 3) (W := (rIs (.ref p_told17)).v) (x := ()) rfl rfl) (ea_cons (ev_t2a (ev_var (n := 2) (W := (rT2 rInt rInt).v) rfl ((rT2 rInt rInt).mono (s15.trans s18) rx14))) (ea_cons (ev_t2b (ev_var (n := 2) (W := (rT2 rInt rInt).v) rfl ((rT2 rInt rInt).mono (s15.trans s18) rx14))) ea_nil))) (fun F' Os' H' vs Q w hv q => by obtain ⟨u0, _, rfl, q0, u1, _, rfl, q1, u2, _, rfl, q2, rfl, rfl⟩ := hv; obtain ⟨G, Ex, sG, wG, rG, bG⟩ := w.tmp [p_told17]; cases q0; have rt0 : ((rList (rT2 rInt rInt))).r G (.ref p_told17) t16 := (by obtain ⟨o, h1, h2⟩ := rG _ _ (List.mem_of_getElem? (i := 0) rfl) (by simp); exact ⟨_, o, rfl, h1, h2⟩); exact ⟨G, _, t16, x14.1, x14.2, (.ref p_told17), u1, u2, t19, rfl, wG, rt0, q1, q2, et19, fun v F2 H2 s2 w2 r => q v F' H2 (Same.refl _) (bG F2 H2 s2 w2) r⟩)))) (fun hb20 F21 H21 s21 w21 => ?_) (fun hb20 F21 H21 s21 w21 => ?_)
        · skip
          have h := (if_some h).1 hb20
          obtain rfl := Option.some.inj h
          obtain rfl := Option.some.inj hz9
          have h := flk_ret hk9
          obtain rfl := Option.some.inj h
          refine ws_ret (W := rBool.v) w21 ev_bool (fun vz Fz Hz sz wz rz => ?_)
          have wz := wz.drop (i := 0)
          exact kQ _ _ _ ((s7.trans (s8.trans (s15.trans (s18.trans s21)))).trans sz) wz rz
        · skip
          have h := (if_some h).2 hb20
          refine ws_nil ?_
          obtain ⟨x_told22, ex_told22, h⟩ := bd_some h
          refine ws_stL (n := 0) (R := (rT2 rInt rInt)) w21 (ev_tup2 (ea_cons (ev_add (ev_t2b (ev_var (n := 2) (W := (rT2 rInt rInt).v) rfl ((rT2 rInt rInt).mono (s15.trans (s18.trans s21)) rx14))) ev_int) (ea_cons ev_int ea_nil))) (ev_var (n := 3) (W := (rIs (.ref p_told17)).v) (x := ()) rfl rfl) ev_int rfl ex_told22 (fun F23 H23 s23 w23 => ?_)
          obtain ⟨x_told24, ex_told24, h⟩ := bd_some h
          refine ws_app (n := 0) (m := 3) (R := (rT2 rInt rInt)) (Os1 := ((p_told17, (oList (rT2 rInt rInt)) x_told22) :: Os0)) w23 rfl (ev_tup2 (ea_cons ev_int (ea_cons ev_int ea_nil))) rfl ex_told24 (fun F25 H25 s25 w25 => ?_)
          refine ws_nil ?_
          obtain rfl := Option.some.inj h
          have w26 := w25.drop (i := 0)
          exact ⟨some v14, some (.ref p_told17), F25, rfl, (s15.trans (s18.trans (s21.trans (s23.trans s25)))), w26, hz9⟩
      · skip
        rintro _ H27 ⟨o10, o11, F27, rfl, s27, w27, hz9⟩
        have hz := foldF_nil hz9
        exact ⟨o10, o11, F27, rfl, (s8.trans s27), w27, hz.symm⟩
    · skip
      rintro _ H28 ⟨o12, o13, F28, rfl, s28, w28, rfl⟩
      have h := flk_nx hk9
      have h : K_law_9 t5  = some _ := h
      unfold K_law_9 at h
      obtain ⟨z30, hz30, hk30⟩ := bd_some h
      refine ws_j (fun (sg : L2.St) (Hm : Hp) => ∃ (o32 : Option V) (Fm : Hp), sg = [some v_script, some v6, o32, o13] ∧ Same F28 Fm ∧ Wf Fm (Os0) Hm ∧ .nx () = z30) (w1_for (n := 2) (R := (rT2 rInt rInt)) w28 (ev_var (n := 1) (W := (rList (rT2 rInt rInt)).v) rfl ((rList (rT2 rInt rInt)).mono s28 r6)) nd (fun F29 H29 s29 w29 => ?_) PassesOwn.never) ?_
      · skip
        refine ⟨(fun (rr : List (Int × Int)) (sg : L2.St) (Hm : Hp) => ∃ (o31 : Option V) (Fm : Hp), sg = [some v_script, some v6, o31, o13] ∧ Same F29 Fm ∧ Wf Fm (Os0) Hm ∧ foldF (fun s x => B_law_30  x) () rr = some z30), ⟨o12, F29, rfl, (Same.refl _), w29, hz30⟩, ?_, ?_, ?_⟩
        · rintro _ _ _ ⟨_, _, _, sk, wk, _⟩
          exact sk.trans wk.sub
        · skip
          rintro x33 rr _ H34 v33 ⟨o31, F34, rfl, s34, w34, hz30⟩ rx33
          obtain ⟨y30, hy30, hz30⟩ := foldF_some hz30
          have h : B_law_30 x33 = some _ := hy30
          unfold B_law_30 at h
          show Ws _ _ _ [some v_script, some v6, some v33, o13] _
          obtain ⟨t35, et35, h⟩ := bd_some h
          obtain ⟨t36, et36, h⟩ := bd_some h
          refine ws_if w34 (et_not (et_val (ev_call (U := rBool.v) (Os2 := (Os0)) G_l_right (hr.mono (by decide)) T_l_right.gm T_l_right.fn.kp T_l_right.bi pass0 (ea_cons (EvN.fz (evn_call (O := (oList (rT2 rInt rInt)) t35) (Os2 := (Os0)) G_blocks_with (hr.mono (by decide)) T_blocks_with.gm T_blocks_with.fn.kp T_blocks_with.bi pass0 (ea_cons (ev_t2a (ev_var (n := 2) (W := (rT2 rInt rInt).v) rfl ((rT2 rInt rInt).mono s34 rx33))) (ea_cons (ev_t2b (ev_var (n := 2) (W := (rT2 rInt rInt).v) rfl ((rT2 rInt rInt).mono s34 rx33))) ea_nil)) (fun F' Os' H' vs Q w hv q => by obtain ⟨u0, _, rfl, q0, u1, _, rfl, q1, rfl, rfl⟩ := hv; exact ⟨F', _, x33.1, x33.2, u0, u1, t35, rfl, w, q0, q1, et35, fun p F2 H2 s2 w => by exact q p F2 H2 s2 w⟩))) (ea_cons (ev_t2a (ev_var (n := 2) (W := (rT2 rInt rInt).v) rfl ((rT2 rInt rInt).mono s34 rx33))) (ea_cons (ev_t2b (ev_var (n := 2) (W := (rT2 rInt rInt).v) rfl ((rT2 rInt rInt).mono s34 rx33))) ea_nil))) (fun F' Os' H' vs Q w hv q => by obtain ⟨u0, _, rfl, q0, u1, _, rfl, q1, u2, _, rfl, q2, rfl, rfl⟩ := hv; exact ⟨F', _, t35, x33.1, x33.2, u0, u1, u2, t36, rfl, w, q0, q1, q2, et36, fun v F2 H2 s2 w r => by exact q v F2 H2 s2 w r⟩)))) (fun hb37 F38 H38 s38 w38 => ?_) (fun hb37 F38 H38 s38 w38 => ?_)
          · skip
            have h := (if_some h).1 hb37
            obtain rfl := Option.some.inj h
            obtain rfl := Option.some.inj hz30
            have h := flk_ret hk30
            obtain rfl := Option.some.inj h
            refine ws_ret (W := rBool.v) w38 ev_bool (fun vz Fz Hz sz wz rz => ?_)
            exact kQ _ _ _ ((s7.trans (s28.trans (s29.trans (s34.trans s38)))).trans sz) wz rz
          · skip
            have h := (if_some h).2 hb37
            refine ws_nil ?_
            refine ws_nil ?_
            obtain rfl := Option.some.inj h
            exact ⟨some v33, F38, rfl, (s34.trans s38), w38, hz30⟩
        · skip
          rintro _ H39 ⟨o31, F39, rfl, s39, w39, hz30⟩
          have hz := foldF_nil hz30
          exact ⟨o31, F39, rfl, (s29.trans s39), w39, hz.symm⟩
      · skip
        rintro _ H40 ⟨o32, F40, rfl, s40, w40, rfl⟩
        have h := flk_nx hk30
        have h : K_law_30  = some _ := h
        unfold K_law_30 at h
        obtain rfl := Option.some.inj h
        refine ws_ret (W := rBool.v) w40 ev_bool (fun vz Fz Hz sz wz rz => ?_)
        exact kQ _ _ _ ((s7.trans (s28.trans s40)).trans sz) wz rz
end
end Z

namespace Z
open PySem PySem.Spec L2
theorem all_mk {l : PySem.W.OpenLaw} {w : World} {K : PySem.W.Frag} {h : Heap} {mg : Str → Option Value} {fa : Addr} (X : K.In h) (G : h.Ns mainGlobals mg) (hfa : mg "law" = some (.ref fa))
    {f0 : Addr} {od0 an0 : Option Addr} {sl0 : Array (Option Value)} {oc0 kV0 dc0 pm0 cd0 ct0 : Value}
    {f1 : Addr} {od1 an1 : Option Addr} {sl1 : Array (Option Value)} {oc1 kV1 dc1 pm1 cd1 ct1 : Value}
    {f2 : Addr} {od2 an2 : Option Addr} {sl2 : Array (Option Value)} {oc2 kV2 dc2 pm2 cd2 ct2 : Value}
    {f3 : Addr} {od3 an3 : Option Addr} {sl3 : Array (Option Value)} {oc3 kV3 dc3 pm3 cd3 ct3 : Value}
    {f4 : Addr} {od4 an4 : Option Addr} {sl4 : Array (Option Value)} {oc4 kV4 dc4 pm4 cd4 ct4 : Value}
    {f5 : Addr} {od5 an5 : Option Addr} {sl5 : Array (Option Value)} {oc5 kV5 dc5 pm5 cd5 ct5 : Value}
    {f6 : Addr} {od6 an6 : Option Addr} {sl6 : Array (Option Value)} {oc6 kV6 dc6 pm6 cd6 ct6 : Value}
    (a0 : PySem.W.nsIn K mainGlobals "_law_open" = some (some (.ref f0))) (l0 : K.lookup f0 = some ⟨oc0, od0, .func (PySem.W.fnOf "_law_open" "_law_open" (defArgs (topS 3)) (defBody (topS 3)) (defScope (topS 3)) .none kV0 dc0 pm0 an0 cd0 ct0), sl0⟩) (c0 : PySem.W.codeIn K cd0 "_law_open" = true) (k0 : PySem.W.keepIn K (.ref f0) = true)
    (a1 : PySem.W.nsIn K mainGlobals "_law_take" = some (some (.ref f1))) (l1 : K.lookup f1 = some ⟨oc1, od1, .func (PySem.W.fnOf "_law_take" "_law_take" (defArgs (topS 4)) (defBody (topS 4)) (defScope (topS 4)) .none kV1 dc1 pm1 an1 cd1 ct1), sl1⟩) (c1 : PySem.W.codeIn K cd1 "_law_take" = true) (k1 : PySem.W.keepIn K (.ref f1) = true)
    (a2 : PySem.W.nsIn K mainGlobals "_law_whole" = some (some (.ref f2))) (l2 : K.lookup f2 = some ⟨oc2, od2, .func (PySem.W.fnOf "_law_whole" "_law_whole" (defArgs (topS 5)) (defBody (topS 5)) (defScope (topS 5)) .none kV2 dc2 pm2 an2 cd2 ct2), sl2⟩) (c2 : PySem.W.codeIn K cd2 "_law_whole" = true) (k2 : PySem.W.keepIn K (.ref f2) = true)
    (a3 : PySem.W.nsIn K mainGlobals "_law_questions" = some (some (.ref f3))) (l3 : K.lookup f3 = some ⟨oc3, od3, .func (PySem.W.fnOf "_law_questions" "_law_questions" (defArgs (topS 6)) (defBody (topS 6)) (defScope (topS 6)) .none kV3 dc3 pm3 an3 cd3 ct3), sl3⟩) (c3 : PySem.W.codeIn K cd3 "_law_questions" = true) (k3 : PySem.W.keepIn K (.ref f3) = true)
    (a4 : PySem.W.nsIn K mainGlobals "blocks_with" = some (some (.ref f4))) (l4 : K.lookup f4 = some ⟨oc4, od4, .func (PySem.W.fnOf "blocks_with" "blocks_with" (defArgs (topS 1)) (defBody (topS 1)) (defScope (topS 1)) .none kV4 dc4 pm4 an4 cd4 ct4), sl4⟩) (c4 : PySem.W.codeIn K cd4 "blocks_with" = true) (k4 : PySem.W.keepIn K (.ref f4) = true)
    (a5 : PySem.W.nsIn K mainGlobals "_law_right" = some (some (.ref f5))) (l5 : K.lookup f5 = some ⟨oc5, od5, .func (PySem.W.fnOf "_law_right" "_law_right" (defArgs (topS 7)) (defBody (topS 7)) (defScope (topS 7)) .none kV5 dc5 pm5 an5 cd5 ct5), sl5⟩) (c5 : PySem.W.codeIn K cd5 "_law_right" = true) (k5 : PySem.W.keepIn K (.ref f5) = true)
    (a6 : PySem.W.nsIn K mainGlobals "law" = some (some (.ref f6))) (l6 : K.lookup f6 = some ⟨oc6, od6, .func (PySem.W.fnOf "law" "law" (defArgs (topS 8)) (defBody (topS 8)) (defScope (topS 8)) .none kV6 dc6 pm6 an6 cd6 ct6), sl6⟩) (c6 : PySem.W.codeIn K cd6 "law" = true) (k6 : PySem.W.keepIn K (.ref f6) = true)
    (z_bool : PySem.W.nsIn K mainGlobals "bool" = some none)
    (z_int : PySem.W.nsIn K mainGlobals "int" = some none)
    (z_isinstance : PySem.W.nsIn K mainGlobals "isinstance" = some none)
    (z_len : PySem.W.nsIn K mainGlobals "len" = some none)
    (z_list : PySem.W.nsIn K mainGlobals "list" = some none)
    (z_range : PySem.W.nsIn K mainGlobals "range" = some none)
    (z_tuple : PySem.W.nsIn K mainGlobals "tuple" = some none)
    : ∃ fd : FuncData, (∀ (s : Shared) (v : Value), BindsTo s fd ⟨[v], []⟩ [("_law_script", v)]) ∧ ∀ base : Heap, K.In base → base.Ns mainGlobals mg → FnOk l.prog w K mg base CX0 3 fa fd ["_law_script"] (sp_law K) := by
  have e := hfa.symm.trans (PySem.W.mg_of X G a6)
  cases e
  have B : Blt mg := ⟨PySem.W.mg_none_of X G z_bool, PySem.W.mg_none_of X G z_int, PySem.W.mg_none_of X G z_isinstance, PySem.W.mg_none_of X G z_len, PySem.W.mg_none_of X G z_list, PySem.W.mg_none_of X G z_range, PySem.W.mg_none_of X G z_tuple⟩
  have T0 : FT K mg "_law_open" (topS 3) ["_law_script", "_law_at"] _ _ := ⟨fun_mk l0 c0 k0, (fun_mk (st := topS 3) l0 c0 k0).binds fun _ _ _ _ _ _ us hl => match us, hl with | [_, _], _ => rfl, PySem.W.mg_of X G a0⟩
  have T1 : FT K mg "_law_take" (topS 4) ["_law_box", "_law_size"] _ _ := ⟨fun_mk l1 c1 k1, (fun_mk (st := topS 4) l1 c1 k1).binds fun _ _ _ _ _ _ us hl => match us, hl with | [_, _], _ => rfl, PySem.W.mg_of X G a1⟩
  have T2 : FT K mg "_law_whole" (topS 5) ["_law_levels"] _ _ := ⟨fun_mk l2 c2 k2, (fun_mk (st := topS 5) l2 c2 k2).binds fun _ _ _ _ _ _ us hl => match us, hl with | [_], _ => rfl, PySem.W.mg_of X G a2⟩
  have T3 : FT K mg "_law_questions" (topS 6) ["_law_box"] _ _ := ⟨fun_mk l3 c3 k3, (fun_mk (st := topS 6) l3 c3 k3).binds fun _ _ _ _ _ _ us hl => match us, hl with | [_], _ => rfl, PySem.W.mg_of X G a3⟩
  have T4 : FT K mg "blocks_with" (topS 1) ["depth", "place"] _ _ := ⟨fun_mk l4 c4 k4, (fun_mk (st := topS 1) l4 c4 k4).binds fun _ _ _ _ _ _ us hl => match us, hl with | [_, _], _ => rfl, PySem.W.mg_of X G a4⟩
  have T5 : FT K mg "_law_right" (topS 7) ["_law_told", "_law_levels", "_law_place"] _ _ := ⟨fun_mk l5 c5 k5, (fun_mk (st := topS 7) l5 c5 k5).binds fun _ _ _ _ _ _ us hl => match us, hl with | [_, _, _], _ => rfl, PySem.W.mg_of X G a5⟩
  have T6 : FT K mg "law" (topS 8) ["_law_script"] _ _ := ⟨fun_mk l6 c6 k6, (fun_mk (st := topS 8) l6 c6 k6).binds fun _ _ _ _ _ _ us hl => match us, hl with | [_], _ => rfl, PySem.W.mg_of X G a6⟩
  refine ⟨PySem.W.fnOf "law" "law" (defArgs (topS 8)) (defBody (topS 8)) (defScope (topS 8)) .none kV6 dc6 pm6 an6 cd6 ct6, fun s v => .of_eq rfl, fun base _ _ => ?_⟩
  have G_l_open : FnOk l.prog w K mg base CX0 1 _ _ ["_law_script", "_law_at"] (sp_l_open K) := ok_l_open T0 B
  have G_l_take : FnOk l.prog w K mg base CX0 1 _ _ ["_law_box", "_law_size"] (sp_l_take K) := ok_l_take T1 B
  have G_l_whole : FnOk l.prog w K mg base CX0 1 _ _ ["_law_levels"] (sp_l_whole K) := ok_l_whole T2 B
  have G_l_questions : FnOk l.prog w K mg base CX0 2 _ _ ["_law_box"] (sp_l_questions K) := ok_l_questions T3 B T1 G_l_take T2 G_l_whole
  have G_blocks_with : FnOk l.prog w K mg base CX0 1 _ _ ["depth", "place"] (sp_blocks_with K) := ok_blocks_with T4 B
  have G_l_right : FnOk l.prog w K mg base CX0 1 _ _ ["_law_told", "_law_levels", "_law_place"] (sp_l_right K) := ok_l_right T5 B
  have G_law : FnOk l.prog w K mg base CX0 3 _ _ ["_law_script"] (sp_law K) := ok_law T6 B T3 G_l_questions T0 G_l_open T4 G_blocks_with T5 G_l_right
  exact G_law
end Z
open PySem PySem.W PyProof.Rows
set_option maxRecDepth 100000 in
set_option maxHeartbeats 0 in
theorem PySem.Challenge.cw_forkedshelves_k09_blocks_of_a_place_holds : PySem.Challenge.rw_forkedshelves_k09_blocks_of_a_place.Holds := by
  w_on; o_law; k_head; (case hw => w_witness2)
  k_fill
  refine L2.walk_of (l := PySem.Challenge.rw_forkedshelves_k09_blocks_of_a_place) (n := 63) (k := 3) (x := "_law_script") (CX := fun _ => L2.CX0) (sp := fun w => Z.sp_law _) rfl (by decide) rfl ⟨rfl, by decide, by decide⟩ (fun w h Y => PySem.W.kIn_of Y) ?F (fun w H a ns hl _ hS => ⟨H, [], ns, _, true, rfl, ⟨fun _ _ e => e, fun _ z => (by cases z), List.nodup_nil⟩, ⟨a, rfl, hS⟩, Z.law_true ns hl, fun v _ _ _ _ r => r⟩) (fun _ _ _ _ _ h => h)
  case F =>
    intro w mg fa h KX G hmg
    refine' Z.all_mk KX G hmg ?a0 ?l0 ?c0 ?k0 ?a1 ?l1 ?c1 ?k1 ?a2 ?l2 ?c2 ?k2 ?a3 ?l3 ?c3 ?k3 ?a4 ?l4 ?c4 ?k4 ?a5 ?l5 ?c5 ?k5 ?a6 ?l6 ?c6 ?k6 ?z_bool ?z_int ?z_isinstance ?z_len ?z_list ?z_range ?z_tuple
    (case a0 => k_is); (case l0 => k_is); (case c0 => k_is); (case k0 => k_is); (case a1 => k_is); (case l1 => k_is)
    (case c1 => k_is); (case k1 => k_is); (case a2 => k_is); (case l2 => k_is); (case c2 => k_is); (case k2 => k_is)
    (case a3 => k_is); (case l3 => k_is); (case c3 => k_is); (case k3 => k_is); (case a4 => k_is); (case l4 => k_is)
    (case c4 => k_is); (case k4 => k_is); (case a5 => k_is); (case l5 => k_is); (case c5 => k_is); (case k5 => k_is)
    (case a6 => k_is); (case l6 => k_is); (case c6 => k_is); (case k6 => k_is); (case z_bool => k_is); (case z_int => k_is)
    (case z_isinstance => k_is); (case z_len => k_is); (case z_list => k_is); (case z_range => k_is); (case z_tuple => k_is)
