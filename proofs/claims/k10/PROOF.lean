import PyProof.Rows.All
import Wide.All
import OpenK.AllK
import Wide.FinOn
import PyProof.EqAt
import PyProof.EqKinds
import PyProof.TupleCall
import KE.GoesEnum
import HandS.Codes
import HandS.Conv
import HandS.ForMost
import HandS.IsInst
import HandS.Iter
import HandS.Replace
import HandS.RevTup
import HandS.StrMore
import HandS.Style
import HandS.Text
import HandS.TupAny
import HandS.Wide
import HandS.Zip
import PySem.Challenge.RW_tornenough_k10_side_letters
set_option Elab.async false
set_option linter.all false
set_option maxRecDepth 100000
set_option maxHeartbeats 4000000
namespace DL
open PySem PySem.Spec L2
/-- plain data; `ro`: a read-only list of ints (the script) -/
inductive D where
  | non | bl (b : Bool) | int (i : Int) | str (s : List Nat) | tup (xs : List D) | lst (xs : List D) | ro (xs : List Int)
  deriving Inhabited
section
variable (K : PySem.W.Frag)
mutual
/-- the value v stands for the datum, its objects in the frozen heap F -/
def Rp (F : Hp) : D → V → Prop
  | .non, v => v = .non
  | .bl b, v => v = .bl b
  | .int i, v => v = .int i
  | .str s, v => v = .str ⟨s.toArray⟩
  | .tup ds, v => ∃ a vs, v = .ref a ∧ F a = some (.tup vs) ∧ Rps F ds vs
  | .lst ds, v => ∃ a vs, v = .ref a ∧ F a = some (.lst vs) ∧ Rps F ds vs
  | .ro ns, v => ∃ a, v = .ref a ∧ SqL K F a (ns.map V.int)
def Rps (F : Hp) : List D → List V → Prop
  | [], vs => vs = []
  | d :: ds, vs => ∃ v r, vs = v :: r ∧ Rp F d v ∧ Rps F ds r
end
end
section
variable {K : PySem.W.Frag} {F F' : Hp}
mutual
theorem Rp.mono (e : Same F F') : ∀ {d : D} {v : V}, Rp K F d v → Rp K F' d v
  | .non, _, h => by unfold Rp at h ⊢; exact h
  | .bl _, _, h => by unfold Rp at h ⊢; exact h
  | .int _, _, h => by unfold Rp at h ⊢; exact h
  | .str _, _, h => by unfold Rp at h ⊢; exact h
  | .tup _, _, h => by
    unfold Rp at h ⊢
    obtain ⟨a, vs, e1, e2, e3⟩ := h
    exact ⟨a, vs, e1, e _ _ e2, Rps.mono e e3⟩
  | .lst _, _, h => by
    unfold Rp at h ⊢
    obtain ⟨a, vs, e1, e2, e3⟩ := h
    exact ⟨a, vs, e1, e _ _ e2, Rps.mono e e3⟩
  | .ro _, _, h => by
    unfold Rp at h ⊢
    obtain ⟨a, e1, e2⟩ := h
    exact ⟨a, e1, Same.seq e e2⟩
theorem Rps.mono (e : Same F F') : ∀ {ds : List D} {vs : List V}, Rps K F ds vs → Rps K F' ds vs
  | [], _, h => by unfold Rps at h ⊢; exact h
  | _ :: _, _, h => by
    unfold Rps at h ⊢
    obtain ⟨v, r, e1, e2, e3⟩ := h
    exact ⟨v, r, e1, Rp.mono e e2, Rps.mono e e3⟩
end
theorem rps_nil : Rps K F [] [] := by unfold Rps; rfl
theorem rps_cons {d : D} {v : V} {ds : List D} {vs : List V} (h : Rp K F d v) (h2 : Rps K F ds vs) : Rps K F (d :: ds) (v :: vs) := by
  unfold Rps; exact ⟨v, vs, rfl, h, h2⟩
theorem rps_iff : ∀ {ds : List D} {vs : List V}, Rps K F ds vs ↔ ds.length = vs.length ∧ ∀ (i : Nat) (d : D) (v : V), ds[i]? = some d → vs[i]? = some v → Rp K F d v
  | [], vs => by
    unfold Rps
    constructor
    · rintro rfl
      exact ⟨rfl, fun i d v h => by simp at h⟩
    · rintro ⟨h, _⟩
      cases vs with
      | nil => rfl
      | cons _ _ => simp at h
  | d :: ds, vs => by
    unfold Rps
    constructor
    · rintro ⟨v, r, rfl, h1, h2⟩
      obtain ⟨hl, hi⟩ := rps_iff.mp h2
      refine ⟨by simp [hl], fun i x y hx hy => ?_⟩
      cases i with
      | zero => simp at hx hy; subst hx; subst hy; exact h1
      | succ i => simp at hx hy; exact hi i x y hx hy
    · rintro ⟨hl, hi⟩
      cases vs with
      | nil => simp at hl
      | cons v r =>
        refine ⟨v, r, rfl, hi 0 d v rfl rfl, rps_iff.mpr ⟨by simpa using hl, fun i x y hx hy => hi (i + 1) x y (by simpa using hx) (by simpa using hy)⟩⟩
theorem Rps.len {ds : List D} {vs : List V} (h : Rps K F ds vs) : ds.length = vs.length := (rps_iff.mp h).1
theorem Rps.get {ds : List D} {vs : List V} (h : Rps K F ds vs) {i : Nat} {d : D} (e : ds[i]? = some d) : ∃ v, vs[i]? = some v ∧ Rp K F d v := by
  obtain ⟨hl, hi⟩ := rps_iff.mp h
  have h1 : i < ds.length := (List.getElem?_eq_some_iff.mp e).1
  have h2 : vs[i]? = some (vs[i]'(by omega)) := List.getElem?_eq_getElem (by omega)
  exact ⟨_, h2, hi i _ _ e h2⟩
theorem Rps.back {ds : List D} {vs : List V} (h : Rps K F ds vs) {i : Nat} {v : V} (e : vs[i]? = some v) : ∃ d, ds[i]? = some d ∧ Rp K F d v := by
  obtain ⟨hl, hi⟩ := rps_iff.mp h
  have h1 : i < vs.length := (List.getElem?_eq_some_iff.mp e).1
  have h2 : ds[i]? = some (ds[i]'(by omega)) := List.getElem?_eq_getElem (by omega)
  exact ⟨_, h2, hi i _ _ h2 e⟩
theorem Rps.app {ds es : List D} {vs us : List V} (h : Rps K F ds vs) (g : Rps K F es us) : Rps K F (ds ++ es) (vs ++ us) := by
  induction ds generalizing vs with
  | nil => unfold Rps at h; subst h; exact g
  | cons d ds ih =>
    unfold Rps at h
    obtain ⟨v, r, rfl, h1, h2⟩ := h
    exact rps_cons h1 (ih h2)
theorem Rps.drop {ds : List D} {vs : List V} (h : Rps K F ds vs) (n : Nat) : Rps K F (ds.drop n) (vs.drop n) := by
  obtain ⟨hl, hi⟩ := rps_iff.mp h
  refine rps_iff.mpr ⟨by simp [hl], fun i d v hd hv => ?_⟩
  rw [List.getElem?_drop] at hd hv
  exact hi _ _ _ hd hv
theorem Rps.take {ds : List D} {vs : List V} (h : Rps K F ds vs) (n : Nat) : Rps K F (ds.take n) (vs.take n) := by
  obtain ⟨hl, hi⟩ := rps_iff.mp h
  refine rps_iff.mpr ⟨by simp [hl], fun i d v hd hv => ?_⟩
  rw [List.getElem?_take] at hd hv
  split at hd
  · rename_i hc
    rw [if_pos hc] at hv
    exact hi _ _ _ hd hv
  · cases hd
theorem Rps.set {ds : List D} {vs : List V} (h : Rps K F ds vs) {d : D} {v : V} (r : Rp K F d v) (n : Nat) : Rps K F (ds.set n d) (vs.set n v) := by
  obtain ⟨hl, hi⟩ := rps_iff.mp h
  refine rps_iff.mpr ⟨by simp [hl], fun i x y hx hy => ?_⟩
  rw [List.getElem?_set] at hx hy
  split at hx
  · rename_i hc
    subst hc
    split at hx
    · rename_i hc2
      rw [if_pos rfl, if_pos (by omega)] at hy
      cases hx; cases hy; exact r
    · cases hx
  · rename_i hc
    rw [if_neg hc] at hy
    exact hi _ _ _ hx hy
theorem Rps.rev {ds : List D} {vs : List V} (h : Rps K F ds vs) : Rps K F ds.reverse vs.reverse := by
  induction ds generalizing vs with
  | nil => unfold Rps at h; subst h; exact rps_nil
  | cons d ds ih =>
    unfold Rps at h
    obtain ⟨v, r, rfl, h1, h2⟩ := h
    rw [List.reverse_cons, List.reverse_cons]
    exact (ih h2).app (rps_cons h1 rps_nil)
theorem Rps.dropLast {ds : List D} {vs : List V} (h : Rps K F ds vs) : Rps K F ds.dropLast vs.dropLast := by
  rw [List.dropLast_eq_take, List.dropLast_eq_take, h.len]
  exact h.take _
theorem rps_ints (ns : List Int) : Rps K F (ns.map D.int) (ns.map V.int) := by
  induction ns with
  | nil => exact rps_nil
  | cons n r ih => exact rps_cons (by unfold Rp; rfl) ih
theorem rps_rep {d : D} {v : V} (h : Rp K F d v) (n : Nat) : Rps K F (List.replicate n d) (List.replicate n v) := by
  induction n with
  | zero => exact rps_nil
  | succ n ih => exact rps_cons h ih
theorem rp_int {i : Int} : Rp K F (.int i) (.int i) := by unfold Rp; rfl
theorem rp_bl {b : Bool} : Rp K F (.bl b) (.bl b) := by unfold Rp; rfl
theorem rp_non : Rp K F .non .non := by unfold Rp; rfl
theorem rp_str {s : List Nat} : Rp K F (.str s) (.str ⟨s.toArray⟩) := by unfold Rp; rfl
end
/-- un: nothing known; d: data; own: a local list that may change; jo, jar: a list that was handed in (its content; only that it is a good one) -/
inductive S where
  | un | d (x : D) | own (xs : List D) | jo (xs : List D) | jar
def S.mt : S → Bool
  | .own _ => true | .jo _ => true | .jar => true | _ => false
def S.pin : S → Bool
  | .jo _ => true | .jar => true | _ => false
def S.Owns (ok : List D → Prop) : S → List D → Prop
  | .own xs, ys => ys = xs
  | .jo xs, ys => ys = xs
  | .jar, ys => ok ys
  | _, _ => False
/-- a def's entry: its heap, the frozen part, the slots and places of the handed lists, what a good one is -/
structure Cd where
  H0 : Hp
  F0 : Hp
  J : List (Nat × Addr)
  ok : List D → Prop
structure Rep (K : PySem.W.Frag) (C : Cd) (σ : L2.St) (H F : Hp) (ρ : List S) : Prop where
  sub : Same F H
  sub0 : Same C.F0 F
  keep : ∀ b o, C.H0 b = some o → (∀ q ∈ C.J, q.2 ≠ b) → H b = some o
  fresh : ∀ b, C.H0 b ≠ none → C.F0 b = none → F b = none
  dat : ∀ (i : Nat) (x : D), ρ[i]? = some (.d x) → ∃ v, σ[i]? = some (some v) ∧ Rp K F x v
  own : ∀ (i : Nat) (s : S), ρ[i]? = some s → s.mt = true → ∃ p vs xs, σ[i]? = some (some (.ref p)) ∧ F p = none ∧ H p = some (.lst vs) ∧ Rps K F xs vs ∧ s.Owns C.ok xs ∧
    (C.H0 p = none ∨ (s.pin = true ∧ (i, p) ∈ C.J))
  apart : ∀ (i k : Nat) (s t : S) (p : Addr), i ≠ k → ρ[i]? = some s → ρ[k]? = some t → s.mt = true → t.mt = true → σ[i]? = some (some (.ref p)) → σ[k]? = some (some (.ref p)) → False
  pins : ∀ q ∈ C.J, σ[q.1]? = some (some (.ref q.2)) ∧ ∃ s : S, ρ[q.1]? = some s ∧ s.pin = true
  len : ρ.length = σ.length
/-- b is no slot's own list -/
def NotOwn (σ : L2.St) (ρ : List S) (b : Addr) : Prop := ∀ (i : Nat) (s : S), ρ[i]? = some s → s.mt = true → σ[i]? ≠ some (some (.ref b))
/-- what a part of a body may do: the frozen part grows, what is no slot's own stays as it is -/
structure Step (σ : L2.St) (H F : Hp) (ρ : List S) (H' F' : Hp) (ρ' : List S) : Prop where
  sF : Same F F'
  lo : ∀ b o, H b = some o → F b = none → NotOwn σ ρ b → H' b = some o ∧ F' b = none
  sh : ∀ (i : Nat) (s' : S), ρ'[i]? = some s' → s'.mt = true → ∃ s : S, ρ[i]? = some s ∧ s.mt = true
  al : ∀ b, H' b = none → H b = none
section
variable {σ : L2.St} {H F H1 F1 H2 F2 : Hp} {ρ ρ1 ρ2 : List S}
theorem NotOwn.back {b : Addr} (h : NotOwn σ ρ b) (s : Step σ H F ρ H1 F1 ρ1) : NotOwn σ ρ1 b := fun i s' e m => by
  obtain ⟨t, e2, m2⟩ := s.sh i s' e m
  exact h i t e2 m2
theorem Step.refl : Step σ H F ρ H F ρ := ⟨Same.refl _, fun _ _ h1 h2 _ => ⟨h1, h2⟩, fun _ s e m => ⟨s, e, m⟩, fun _ h => h⟩
theorem Step.trans (a : Step σ H F ρ H1 F1 ρ1) (b : Step σ H1 F1 ρ1 H2 F2 ρ2) : Step σ H F ρ H2 F2 ρ2 := by
  refine ⟨a.sF.trans b.sF, fun x o h1 h2 h3 => ?_, fun i s e m => ?_, fun x h => a.al x (b.al x h)⟩
  · obtain ⟨h4, h5⟩ := a.lo x o h1 h2 h3
    exact b.lo x o h4 h5 (h3.back a)
  · obtain ⟨t, e2, m2⟩ := b.sh i s e m
    exact a.sh i t e2 m2
end
theorem S.mt_of_pin {s : S} (h : s.pin = true) : s.mt = true := by cases s <;> first | rfl | cases h
section
variable {K : PySem.W.Frag} {C : Cd} {σ : L2.St} {H F : Hp} {ρ : List S}
theorem Rep.there (r : Rep K C σ H F ρ) {b : Addr} (h : C.H0 b ≠ none) : H b ≠ none := by
  obtain ⟨o, ho⟩ : ∃ o, C.H0 b = some o := by
    cases e : C.H0 b with
    | none => exact absurd e h
    | some o => exact ⟨o, rfl⟩
  by_cases hb : ∃ q ∈ C.J, q.2 = b
  · obtain ⟨q, hq, rfl⟩ := hb
    obtain ⟨h1, s, h2, h3⟩ := r.pins q hq
    obtain ⟨p, vs, xs, h4, _, h5, _⟩ := r.own _ s h2 (S.mt_of_pin h3)
    rw [h1] at h4
    cases h4
    rw [h5]
    exact fun e => nomatch e
  · rw [r.keep b o ho (fun q hq e => hb ⟨q, hq, e⟩)]
    exact fun e => nomatch e
theorem Rep.new0 (r : Rep K C σ H F ρ) {p : Addr} (h : H p = none) : C.H0 p = none := by
  cases e : C.H0 p with
  | none => rfl
  | some o => exact absurd h (r.there (by rw [e]; exact fun q => nomatch q))
theorem Rep.newF (r : Rep K C σ H F ρ) {p : Addr} (h : H p = none) : F p = none := by
  cases e : F p with
  | none => rfl
  | some o => rw [r.sub _ _ e] at h; cases h
theorem same_new {H : Hp} {p : Addr} {o : HO} (h : H p = none) : Same H (upd H p o) := fun b x e => by
  rw [upd_ne (ne_of_none e h)]
  exact e
/-- a new object, frozen at once -/
theorem Rep.frozen (r : Rep K C σ H F ρ) {p : Addr} {o : HO} (h : H p = none) : Rep K C σ (upd H p o) (upd F p o) ρ := by
  have hF := r.newF h
  have sH : Same H (upd H p o) := same_new h
  have sF : Same F (upd F p o) := same_new hF
  refine ⟨?_, r.sub0.trans sF, fun b u e q => sH _ _ (r.keep b u e q), fun b e1 e2 => ?_, fun i x e => ?_, fun i s e m => ?_, r.apart, r.pins, r.len⟩
  · intro b u e
    by_cases hb : b = p
    · subst hb; rw [upd_same] at e ⊢; exact e
    · rw [upd_ne hb] at e ⊢; exact r.sub _ _ e
  · have hb : b ≠ p := fun q => e1 (by rw [q]; exact r.new0 h)
    rw [upd_ne hb]
    exact r.fresh b e1 e2
  · obtain ⟨v, h1, h2⟩ := r.dat i x e
    exact ⟨v, h1, h2.mono sF⟩
  · obtain ⟨q, vs, xs, h1, h2, h3, h4, h5, h6⟩ := r.own i s e m
    have hb : q ≠ p := ne_of_none h3 h
    exact ⟨q, vs, xs, h1, by rw [upd_ne hb]; exact h2, sH _ _ h3, h4.mono sF, h5, h6⟩
theorem none_upd {H : Hp} {p b : Addr} {o : HO} (h : upd H p o b = none) : H b = none := by
  by_cases hb : b = p
  · subst hb; rw [upd_same] at h; cases h
  · rw [upd_ne hb] at h; exact h
theorem Rep.stepN (r : Rep K C σ H F ρ) {p : Addr} {o : HO} (h : H p = none) : Step σ H F ρ (upd H p o) (upd F p o) ρ :=
  ⟨same_new (r.newF h), fun b u h1 h2 _ => by
    have hb : b ≠ p := ne_of_none h1 h
    exact ⟨by rw [upd_ne hb]; exact h1, by rw [upd_ne hb]; exact h2⟩, fun _ s e m => ⟨s, e, m⟩, fun _ => none_upd⟩
theorem Rep.stepL {p : Addr} {o : HO} (h : H p = none) : Step σ H F ρ (upd H p o) F ρ :=
  ⟨Same.refl _, fun b u h1 h2 _ => ⟨by rw [upd_ne (ne_of_none h1 h)]; exact h1, h2⟩, fun _ s e m => ⟨s, e, m⟩, fun _ => none_upd⟩
/-- a slot's own list is written -/
theorem Rep.stepW {i : Nat} {s s' : S} {p : Addr} {o : HO} (hi : ρ[i]? = some s) (hm : s.mt = true) (hs : σ[i]? = some (some (.ref p))) : Step σ H F ρ (upd H p o) F (ρ.set i s') :=
  ⟨Same.refl _, fun b u h1 h2 h3 => by
    have hb : b ≠ p := fun z => h3 i s hi hm (z ▸ hs)
    exact ⟨by rw [upd_ne hb]; exact h1, h2⟩, fun k t e m => by
    rw [List.getElem?_set] at e
    split at e
    · rename_i c; subst c; exact ⟨s, hi, hm⟩
    · exact ⟨t, e, m⟩, fun _ => none_upd⟩
/-- a slot is told otherwise -/
theorem Rep.stepS {i : Nat} {s s' : S} (hi : ρ[i]? = some s) (hm : s'.mt = true → s.mt = true) : Step σ H F ρ H F (ρ.set i s') :=
  ⟨Same.refl _, fun b u h1 h2 _ => ⟨h1, h2⟩, fun k t e m => by
    rw [List.getElem?_set] at e
    split at e
    · rename_i c
      subst c
      split at e
      · cases e; exact ⟨s, hi, hm m⟩
      · cases e
    · exact ⟨t, e, m⟩, fun _ h => h⟩
/-- the heap grows by what is not frozen -/
theorem Rep.grown (r : Rep K C σ H F ρ) {H' : Hp} (h : Same H H') : Rep K C σ H' F ρ :=
  ⟨r.sub.trans h, r.sub0, fun b u e q => h _ _ (r.keep b u e q), r.fresh, r.dat, fun i s e m => by
    obtain ⟨q, vs, xs, h1, h2, h3, h4, h5, h6⟩ := r.own i s e m
    exact ⟨q, vs, xs, h1, h2, h _ _ h3, h4, h5, h6⟩, r.apart, r.pins, r.len⟩
/-- an object that nothing knows is written (a list under way) -/
theorem Rep.loose (r : Rep K C σ H F ρ) {p : Addr} {o : HO} (hF : F p = none) (h0 : C.H0 p = none) (ho : ∀ (i : Nat) (s : S), ρ[i]? = some s → s.mt = true → σ[i]? ≠ some (some (.ref p))) : Rep K C σ (upd H p o) F ρ :=
  ⟨fun b u e => by
    have hb : b ≠ p := ne_of_none e hF
    rw [upd_ne hb]; exact r.sub _ _ e, r.sub0, fun b u e q => by
    have hb : b ≠ p := ne_of_none e h0
    rw [upd_ne hb]; exact r.keep b u e q, r.fresh, r.dat, fun i s e m => by
    obtain ⟨q, vs, xs, h1, h2, h3, h4, h5, h6⟩ := r.own i s e m
    have hb : q ≠ p := fun z => ho i s e m (z ▸ h1)
    exact ⟨q, vs, xs, h1, h2, by rw [upd_ne hb]; exact h3, h4, h5, h6⟩, r.apart, r.pins, r.len⟩
/-- a loose object is frozen -/
theorem Rep.freeze1 (r : Rep K C σ H F ρ) {p : Addr} {o : HO} (hH : H p = some o) (hF : F p = none) (h0 : C.H0 p = none) (ho : ∀ (i : Nat) (s : S), ρ[i]? = some s → s.mt = true → σ[i]? ≠ some (some (.ref p))) : Rep K C σ H (upd F p o) ρ := by
  have sF : Same F (upd F p o) := same_new hF
  refine ⟨?_, r.sub0.trans sF, r.keep, fun b e1 e2 => ?_, fun i x e => ?_, fun i s e m => ?_, r.apart, r.pins, r.len⟩
  · intro b u e
    by_cases hb : b = p
    · subst hb; rw [upd_same] at e; cases e; exact hH
    · rw [upd_ne hb] at e; exact r.sub _ _ e
  · have hb : b ≠ p := fun q => e1 (by rw [q]; exact h0)
    rw [upd_ne hb]
    exact r.fresh b e1 e2
  · obtain ⟨v, h1, h2⟩ := r.dat i x e
    exact ⟨v, h1, h2.mono sF⟩
  · obtain ⟨q, vs, xs, h1, h2, h3, h4, h5, h6⟩ := r.own i s e m
    have hb : q ≠ p := fun z => ho i s e m (z ▸ h1)
    exact ⟨q, vs, xs, h1, by rw [upd_ne hb]; exact h2, h3, h4.mono sF, h5, h6⟩
/-- a slot is no longer known -/
theorem Rep.forget (r : Rep K C σ H F ρ) {i : Nat} (hp : ∀ s : S, ρ[i]? = some s → s.pin = false) : Rep K C σ H F (ρ.set i .un) := by
  refine ⟨r.sub, r.sub0, r.keep, r.fresh, fun k x e => ?_, fun k s e m => ?_, fun k l s t p hn e1 e2 => ?_, fun q hq => ?_, by simp [r.len]⟩
  · rw [List.getElem?_set] at e
    split at e
    · split at e <;> cases e
    · exact r.dat k x e
  · rw [List.getElem?_set] at e
    split at e
    · split at e <;> cases e
      cases m
    · exact r.own k s e m
  · rw [List.getElem?_set] at e1 e2
    intro m1 m2
    split at e1
    · split at e1 <;> cases e1
      cases m1
    · split at e2
      · split at e2 <;> cases e2
        cases m2
      · exact r.apart k l s t p hn e1 e2 m1 m2
  · obtain ⟨h1, s, h2, h3⟩ := r.pins q hq
    refine ⟨h1, s, ?_, h3⟩
    rw [List.getElem?_set, if_neg, h2]
    intro z
    have := hp s (z ▸ h2)
    rw [this] at h3
    cases h3
/-- a slot's value is stored: data -/
theorem Rep.setD (r : Rep K C σ H F ρ) {i : Nat} {v : V} {x : D} (hp : ∀ s : S, ρ[i]? = some s → s.pin = false) (h : Rp K F x v) : Rep K C (σ.set i (some v)) H F (ρ.set i (.d x)) := by
  have hq : ∀ q ∈ C.J, i ≠ q.1 := fun q hq z => by
    obtain ⟨_, s, h2, h3⟩ := r.pins q hq
    have := hp s (z ▸ h2)
    rw [this] at h3
    cases h3
  refine ⟨r.sub, r.sub0, r.keep, r.fresh, fun k y e => ?_, fun k s e m => ?_, fun k l s t p hn e1 e2 m1 m2 h1 h2 => ?_, fun q hq' => ?_, by simp [r.len]⟩
  · rw [List.getElem?_set] at e ⊢
    split at e
    · rename_i c
      split at e
      · rename_i c2
        cases e
        exact ⟨v, by rw [if_pos c, if_pos (by rw [← r.len]; exact c2)], h⟩
      · cases e
    · rename_i c
      rw [if_neg c]
      exact r.dat k y e
  · rw [List.getElem?_set] at e
    split at e
    · split at e <;> cases e
      cases m
    · rename_i c
      rw [List.getElem?_set, if_neg c]
      exact r.own k s e m
  · rw [List.getElem?_set] at e1 e2 h1 h2
    split at e1
    · split at e1 <;> cases e1
      cases m1
    · rename_i c1
      split at e2
      · split at e2 <;> cases e2
        cases m2
      · rename_i c2
        rw [if_neg c1] at h1
        rw [if_neg c2] at h2
        exact r.apart k l s t p hn e1 e2 m1 m2 h1 h2
  · obtain ⟨h1, s, h2, h3⟩ := r.pins q hq'
    exact ⟨by rw [List.getElem?_set, if_neg (hq q hq')]; exact h1, s, by rw [List.getElem?_set, if_neg (hq q hq')]; exact h2, h3⟩
/-- .. a new list of one's own -/
theorem Rep.setO (r : Rep K C σ H F ρ) {i : Nat} {p : Addr} {vs : List V} {xs : List D} (hp : ∀ s : S, ρ[i]? = some s → s.pin = false) (hF : F p = none) (hH : H p = some (.lst vs)) (h0 : C.H0 p = none)
    (ho : ∀ (i : Nat) (s : S), ρ[i]? = some s → s.mt = true → σ[i]? ≠ some (some (.ref p))) (h : Rps K F xs vs) : Rep K C (σ.set i (some (.ref p))) H F (ρ.set i (.own xs)) := by
  have hq : ∀ q ∈ C.J, i ≠ q.1 := fun q hq z => by
    obtain ⟨_, s, h2, h3⟩ := r.pins q hq
    have := hp s (z ▸ h2)
    rw [this] at h3
    cases h3
  refine ⟨r.sub, r.sub0, r.keep, r.fresh, fun k y e => ?_, fun k s e m => ?_, fun k l s t a hn e1 e2 m1 m2 h1 h2 => ?_, fun q hq' => ?_, by simp [r.len]⟩
  · rw [List.getElem?_set] at e
    split at e
    · split at e <;> cases e
    · rename_i c
      rw [List.getElem?_set, if_neg c]
      exact r.dat k y e
  · rw [List.getElem?_set] at e
    split at e
    · rename_i c
      split at e
      · rename_i c2
        cases e
        exact ⟨p, vs, xs, by rw [List.getElem?_set, if_pos c, if_pos (by rw [← r.len]; exact c2)], hF, hH, h, rfl, Or.inl h0⟩
      · cases e
    · rename_i c
      rw [List.getElem?_set, if_neg c]
      exact r.own k s e m
  · rw [List.getElem?_set] at e1 e2 h1 h2
    split at e1
    · rename_i c1
      split at e2
      · rename_i c2
        exact hn (c1.symm.trans c2)
      · rename_i c2
        rw [if_neg c2] at h2
        rw [if_pos c1] at h1
        split at h1
        · cases h1
          exact ho l t e2 m2 h2
        · cases h1
    · rename_i c1
      rw [if_neg c1] at h1
      split at e2
      · rename_i c2
        rw [if_pos c2] at h2
        split at h2
        · cases h2
          exact ho k s e1 m1 h1
        · cases h2
      · rename_i c2
        rw [if_neg c2] at h2
        exact r.apart k l s t a hn e1 e2 m1 m2 h1 h2
  · obtain ⟨h1, s, h2, h3⟩ := r.pins q hq'
    exact ⟨by rw [List.getElem?_set, if_neg (hq q hq')]; exact h1, s, by rw [List.getElem?_set, if_neg (hq q hq')]; exact h2, h3⟩
/-- a list that is one's own, or a handed one, is written; or only told otherwise -/
theorem Rep.write (r : Rep K C σ H F ρ) {i : Nat} {s s' : S} {p : Addr} {vs : List V} {xs : List D} (hi : ρ[i]? = some s) (hm : s.mt = true) (hm' : s'.mt = true) (hpin : s'.pin = s.pin) (hs : σ[i]? = some (some (.ref p)))
    (h : Rps K F xs vs) (hw : s'.Owns C.ok xs) : Rep K C σ (upd H p (.lst vs)) F (ρ.set i s') := by
  obtain ⟨p', vs0, xs0, a1, a2, a3, a4, a5, a6⟩ := r.own i s hi hm
  rw [hs] at a1
  cases a1
  have li : i < ρ.length := (List.getElem?_eq_some_iff.mp hi).1
  refine ⟨fun b u e => ?_, r.sub0, fun b u e q => ?_, r.fresh, fun k y e => ?_, fun k t e m => ?_, fun k l t u a hn e1 e2 m1 m2 h1 h2 => ?_, fun q hq' => ?_, by simp [r.len]⟩
  · have hb : b ≠ p := ne_of_none e a2
    rw [upd_ne hb]; exact r.sub _ _ e
  · have hb : b ≠ p := by
      rcases a6 with a6 | ⟨_, a6⟩
      · exact ne_of_none e a6
      · exact fun z => q _ a6 z.symm
    rw [upd_ne hb]; exact r.keep b u e q
  · rw [List.getElem?_set] at e
    split at e
    · (try rw [if_pos li] at e)
      cases e; cases hm'
    · exact r.dat k y e
  · rw [List.getElem?_set] at e
    split at e
    · rename_i c
      (try rw [if_pos li] at e)
      cases e
      subst c
      refine ⟨p, vs, xs, hs, a2, upd_same, h, hw, ?_⟩
      rw [hpin]; exact a6
    · rename_i c
      obtain ⟨q, vs1, xs1, b1, b2, b3, b4, b5, b6⟩ := r.own k t e m
      have hb : q ≠ p := fun z => r.apart i k s t p c hi e hm m hs (z ▸ b1)
      exact ⟨q, vs1, xs1, b1, b2, by rw [upd_ne hb]; exact b3, b4, b5, b6⟩
  · have f : ∀ (j : Nat) (w : S), (ρ.set i s')[j]? = some w → w.mt = true → ∃ w', ρ[j]? = some w' ∧ w'.mt = true := by
      intro j w e m
      rw [List.getElem?_set] at e
      split at e
      · rename_i c; subst c; exact ⟨s, hi, hm⟩
      · exact ⟨w, e, m⟩
    obtain ⟨t', e1', m1'⟩ := f k t e1 m1
    obtain ⟨u', e2', m2'⟩ := f l u e2 m2
    exact r.apart k l t' u' a hn e1' e2' m1' m2' h1 h2
  · obtain ⟨h1, t, h2, h3⟩ := r.pins q hq'
    refine ⟨h1, ?_⟩
    rw [List.getElem?_set]
    split
    · rename_i c
      (try rw [if_pos li])
      refine ⟨s', rfl, ?_⟩
      rw [hpin]
      rw [← c, hi] at h2
      cases h2
      exact h3
    · exact ⟨t, h2, h3⟩
theorem upd_self {H : Hp} {p : Addr} {o : HO} (h : H p = some o) : upd H p o = H := by
  funext b
  unfold upd
  split
  · rename_i c; rw [c, h]
  · rfl
/-- told otherwise, nothing written -/
theorem Rep.retell (r : Rep K C σ H F ρ) {i : Nat} {s s' : S} {xs : List D} (hi : ρ[i]? = some s) (hm : s.mt = true) (hm' : s'.mt = true) (hpin : s.pin = true → s'.pin = true) (hfr : s'.pin = true ∨ s.pin = s'.pin)
    (hw : ∀ ys, s.Owns C.ok ys → s'.Owns C.ok ys) : Rep K C σ H F (ρ.set i s') := by
  have li : i < ρ.length := (List.getElem?_eq_some_iff.mp hi).1
  obtain ⟨p, vs0, xs0, a1, a2, a3, a4, a5, a6⟩ := r.own i s hi hm
  refine ⟨r.sub, r.sub0, r.keep, r.fresh, fun k y e => ?_, fun k t e m => ?_, fun k l t u a hn e1 e2 m1 m2 h1 h2 => ?_, fun q hq' => ?_, by simp [r.len]⟩
  · rw [List.getElem?_set] at e
    split at e
    · (try rw [if_pos li] at e)
      cases e; cases hm'
    · exact r.dat k y e
  · rw [List.getElem?_set] at e
    split at e
    · rename_i c
      (try rw [if_pos li] at e)
      cases e
      subst c
      refine ⟨p, vs0, xs0, a1, a2, a3, a4, hw _ a5, ?_⟩
      rcases a6 with a6 | ⟨a6, a7⟩
      · exact Or.inl a6
      · exact Or.inr ⟨hpin a6, a7⟩
    · exact r.own k t e m
  · have f : ∀ (j : Nat) (w : S), (ρ.set i s')[j]? = some w → w.mt = true → ∃ w', ρ[j]? = some w' ∧ w'.mt = true := by
      intro j w e m
      rw [List.getElem?_set] at e
      split at e
      · rename_i c; subst c; exact ⟨s, hi, hm⟩
      · exact ⟨w, e, m⟩
    obtain ⟨t', e1', m1'⟩ := f k t e1 m1
    obtain ⟨u', e2', m2'⟩ := f l u e2 m2
    exact r.apart k l t' u' a hn e1' e2' m1' m2' h1 h2
  · obtain ⟨h1, t, h2, h3⟩ := r.pins q hq'
    refine ⟨h1, ?_⟩
    rw [List.getElem?_set]
    split
    · rename_i c
      (try rw [if_pos li])
      rw [← c, hi] at h2
      cases h2
      exact ⟨s', rfl, hpin h3⟩
    · exact ⟨t, h2, h3⟩
/-- a handed list's content is looked at -/
theorem Rep.openJ (r : Rep K C σ H F ρ) {i : Nat} (hi : ρ[i]? = some .jar) : ∃ xs, C.ok xs ∧ Rep K C σ H F (ρ.set i (.jo xs)) := by
  have li : i < ρ.length := (List.getElem?_eq_some_iff.mp hi).1
  obtain ⟨p, vs0, xs0, a1, a2, a3, a4, a5, a6⟩ := r.own i _ hi rfl
  have := r.write (s' := .jo xs0) hi rfl rfl rfl a1 a4 rfl
  rw [upd_self a3] at this
  exact ⟨xs0, a5, this⟩
theorem Rep.toJ (r : Rep K C σ H F ρ) {i : Nat} {s : S} {xs : List D} (hi : ρ[i]? = some s) (hs : s = .own xs ∨ s = .jo xs) (hk : C.ok xs) : Rep K C σ H F (ρ.set i .jar) := by
  refine r.retell (s' := .jar) (xs := xs) hi ?_ rfl (fun _ => rfl) (Or.inl rfl) fun ys hy => ?_
  · rcases hs with rfl | rfl <;> rfl
  · rcases hs with rfl | rfl <;> (cases hy; exact hk)
/-- a list of one's own is frozen: from now on data -/
theorem Rep.freeze (r : Rep K C σ H F ρ) {i : Nat} {xs : List D} (hi : ρ[i]? = some (.own xs)) : ∃ p F', σ[i]? = some (some (.ref p)) ∧ Step σ H F ρ H F' (ρ.set i (.d (.lst xs))) ∧ Rp K F' (.lst xs) (.ref p) ∧ Rep K C σ H F' (ρ.set i (.d (.lst xs))) := by
  have li : i < ρ.length := (List.getElem?_eq_some_iff.mp hi).1
  obtain ⟨p, vs, xs0, a1, a2, a3, a4, a5, a6⟩ := r.own i _ hi rfl
  cases a5
  have h0 : C.H0 p = none := a6.resolve_right fun z => nomatch z.1
  have r1 : Rep K C σ H F (ρ.set i .un) := r.forget fun s e => by rw [hi] at e; cases e; rfl
  have ho : ∀ (k : Nat) (s : S), (ρ.set i .un)[k]? = some s → s.mt = true → σ[k]? ≠ some (some (.ref p)) := by
    intro k s e m z
    rw [List.getElem?_set] at e
    split at e
    · cases e
      cases m
    · rename_i c
      exact r.apart i k _ s p c hi e rfl m a1 z
  have r2 := r1.freeze1 a3 a2 h0 ho
  have sF : Same F (upd F p (.lst vs)) := same_new a2
  have hr : Rp K (upd F p (.lst vs)) (.lst xs) (.ref p) := by
    unfold Rp
    exact ⟨p, vs, rfl, upd_same, a4.mono sF⟩
  refine ⟨p, _, a1, ⟨sF, fun b u h1 h2 h3 => ?_, fun k t e m => ?_, fun _ h => h⟩, hr, ?_⟩
  · have hb : b ≠ p := fun z => h3 i _ hi rfl (z ▸ a1)
    exact ⟨h1, by rw [upd_ne hb]; exact h2⟩
  · rw [List.getElem?_set] at e
    split at e
    · (try rw [if_pos li] at e)
      cases e; cases m
    · exact ⟨t, e, m⟩
  have r3 := r2.setD (i := i) (v := .ref p) (x := .lst xs) (fun s e => by
    rw [List.getElem?_set, if_pos rfl] at e
    (try rw [if_pos li] at e)
    cases e; rfl) hr
  have e1 : σ.set i (some (.ref p)) = σ := by
    refine List.ext_getElem? fun k => ?_
    rw [List.getElem?_set]
    split
    · rename_i c
      subst c
      rw [if_pos (by rw [← r.len]; exact li), a1]
    · rfl
  have e2 : (ρ.set i S.un).set i (.d (.lst xs)) = ρ.set i (.d (.lst xs)) := by rw [List.set_set]
  rw [e1, e2] at r3
  exact r3
end
end DL
namespace DL
open PySem PySem.Spec L2
abbrev DE := List S → (D → List S → Prop) → Prop
abbrev DT := List S → (Bool → List S → Prop) → Prop
abbrev DA := List S → (List D → List S → Prop) → Prop
section
variable (K : PySem.W.Frag) (C : Cd)
def SimE (te : TE) (de : DE) : Prop := ∀ (σ : L2.St) (H F : Hp) (ρ : List S) (Q : VK) (R : D → List S → Prop), Rep K C σ H F ρ → de ρ R →
  (∀ v H' F' x ρ', Rep K C σ H' F' ρ' → Step σ H F ρ H' F' ρ' → Rp K F' x v → R x ρ' → Q v H') → te σ H Q
def SimT (tt : TT) (dt : DT) : Prop := ∀ (σ : L2.St) (H F : Hp) (ρ : List S) (Q : Bool → Hp → Prop) (R : Bool → List S → Prop), Rep K C σ H F ρ → dt ρ R →
  (∀ b H' F' ρ', Rep K C σ H' F' ρ' → Step σ H F ρ H' F' ρ' → R b ρ' → Q b H') → tt σ H Q
def SimA (ta : TA) (da : DA) : Prop := ∀ (σ : L2.St) (H F : Hp) (ρ : List S) (Q : List V → Hp → Prop) (R : List D → List S → Prop), Rep K C σ H F ρ → da ρ R →
  (∀ vs H' F' xs ρ', Rep K C σ H' F' ρ' → Step σ H F ρ H' F' ρ' → Rps K F' xs vs → R xs ρ' → Q vs H') → ta σ H Q
/-- an operation on two values -/
def SimR (r : R2) (g : D → D → D → Prop) : Prop := ∀ (σ : L2.St) (H F : Hp) (ρ : List S) (x y : D) (v u : V) (z : D) (Q : VK), Rep K C σ H F ρ → Rp K F x v → Rp K F y u → g x y z →
  (∀ w H' F', Rep K C σ H' F' ρ → Step σ H F ρ H' F' ρ → Rp K F' z w → Q w H') → r v u H Q
/-- a call of values -/
def SimC (r : List V → Hp → VK → Prop) (g : List D → D → Prop) : Prop := ∀ (σ : L2.St) (H F : Hp) (ρ : List S) (xs : List D) (vs : List V) (z : D) (Q : VK), Rep K C σ H F ρ → Rps K F xs vs → g xs z →
  (∀ w H' F', Rep K C σ H' F' ρ → Step σ H F ρ H' F' ρ → Rp K F' z w → Q w H') → r vs H Q
end
structure PD (X : Cx) (C : Cd) (e : Expr) (de : DE) : Prop where
  ex : ∃ te, PE X e te ∧ SimE X.K C te de
structure PDT (X : Cx) (C : Cd) (e : Expr) (dt : DT) : Prop where
  ex : ∃ tt, PT X e tt ∧ SimT X.K C tt dt
structure PDW (X : Cx) (C : Cd) (e : Expr) (dt : DT) : Prop where
  ex : ∃ tt, PW X e tt ∧ SimT X.K C tt dt
structure PDA (X : Cx) (C : Cd) (es : List Expr) (da : DA) : Prop where
  ex : ∃ ta, PA X es ta ∧ SimA X.K C ta da
def OpD (X : Cx) (C : Cd) (f : Value → Value → Sem Value) (g : D → D → D → Prop) : Prop := ∃ r, OpR X f r ∧ SimR X.K C r g
def CallD (X : Cx) (C : Cd) (f : Value) (g : List D → D → Prop) : Prop := ∃ r, CallR X f r ∧ SimC X.K C r g
section
variable {X : Cx} {C : Cd}
theorem OpD.or {f : Value → Value → Sem Value} {g g' : D → D → D → Prop} (h : OpD X C f g) (h' : OpD X C f g') : OpD X C f (fun x y z => g x y z ∨ g' x y z) := by
  obtain ⟨r, h1, h2⟩ := h
  obtain ⟨r', h1', h2'⟩ := h'
  refine ⟨_, OpR.or h1 h1', fun σ H F ρ x y v u z Q rp rx ry hg k => ?_⟩
  rcases hg with hg | hg
  · exact Or.inl (h2 σ H F ρ x y v u z Q rp rx ry hg k)
  · exact Or.inr (h2' σ H F ρ x y v u z Q rp rx ry hg k)
theorem OpD.imp {f : Value → Value → Sem Value} {g g' : D → D → D → Prop} (h : OpD X C f g) (i : ∀ x y z, g' x y z → g x y z) : OpD X C f g' := by
  obtain ⟨r, h1, h2⟩ := h
  exact ⟨r, h1, fun σ H F ρ x y v u z Q rp rx ry hg k => h2 σ H F ρ x y v u z Q rp rx ry (i _ _ _ hg) k⟩
theorem CallD.or {f : Value} {g g' : List D → D → Prop} (h : CallD X C f g) (h' : CallD X C f g') : CallD X C f (fun xs z => g xs z ∨ g' xs z) := by
  obtain ⟨r, h1, h2⟩ := h
  obtain ⟨r', h1', h2'⟩ := h'
  refine ⟨_, CallR.or h1 h1', fun σ H F ρ xs vs z Q rp rx hg k => ?_⟩
  rcases hg with hg | hg
  · exact Or.inl (h2 σ H F ρ xs vs z Q rp rx hg k)
  · exact Or.inr (h2' σ H F ρ xs vs z Q rp rx hg k)
theorem CallD.imp {f : Value} {g g' : List D → D → Prop} (h : CallD X C f g) (i : ∀ xs z, g' xs z → g xs z) : CallD X C f g' := by
  obtain ⟨r, h1, h2⟩ := h
  exact ⟨r, h1, fun σ H F ρ xs vs z Q rp rx hg k => h2 σ H F ρ xs vs z Q rp rx (i _ _ hg) k⟩
def dVar (k : Nat) : DE := fun ρ R => match ρ[k]? with
  | some (.d x) => R x ρ
  | some (.own xs) => R (.lst xs) (ρ.set k (.d (.lst xs)))
  | _ => False
theorem sim_var {K : PySem.W.Frag} (k : Nat) : SimE K C (tVar k) (dVar k) := by
  intro σ H F ρ Q R rp h q
  unfold dVar at h
  split at h
  · rename_i x e
    obtain ⟨v, h1, h2⟩ := rp.dat k x e
    exact ⟨v, h1, q _ _ _ _ _ rp Step.refl h2 h⟩
  · rename_i xs e
    obtain ⟨p, F', h1, h2, h3, h4⟩ := rp.freeze e
    exact ⟨_, h1, q _ _ _ _ _ h4 h2 h3 h⟩
  · exact h.elim
def dC (x : D) : DE := fun ρ R => R x ρ
theorem sim_c {K : PySem.W.Frag} {v : V} {x : D} (h : ∀ F, Rp K F x v) : SimE K C (tC v) (dC x) := fun _ _ F _ _ _ rp hr q => q _ _ _ _ _ rp Step.refl (h F) hr
theorem pd_var (k : Nat) {x : Str} {pos : Pos} (hN : X.N[k]? = some x := by rfl) (hv : Vis X.env.scope x := by first | exact Or.inl rfl | exact Or.inr (Or.inl rfl) | exact Or.inr (Or.inr rfl)) (hd : (x == ("__debug__" : Str)) = false := by decide)
    (hcd : (x == ("__classdict__" : Str)) = false := by decide) : PD X C (.Name x pos) (dVar k) := ⟨_, pe_var hN hv hd hcd, sim_var k⟩
theorem pd_int {i j pos} : PD X C (.Constant (.int i) j pos) (dC (.int i)) := ⟨_, pe_int, sim_c fun _ => rp_int⟩
theorem pd_bl {b j pos} : PD X C (.Constant (.bool b) j pos) (dC (.bl b)) := ⟨_, pe_bl, sim_c fun _ => rp_bl⟩
theorem pd_non {j pos} : PD X C (.Constant .none j pos) (dC .non) := ⟨_, pe_non, sim_c fun _ => rp_non⟩
theorem str_mk {x : Str} {s : List Nat} (h : x.cps.toList = s) : x = ⟨s.toArray⟩ := by
  subst h; simp
theorem rp_str' {K : PySem.W.Frag} {F : Hp} {x : Str} {s : List Nat} (h : x.cps.toList = s) : Rp K F (.str s) (.str x) := by
  rw [str_mk h]; exact rp_str
theorem pd_str {x : Str} (s : List Nat) {j pos} (h : x.cps.toList = s) : PD X C (.Constant (.str x) j pos) (dC (.str s)) := ⟨_, pe_str, sim_c fun _ => rp_str' h⟩
/-- a module's text -/
theorem pd_gstr {x : Str} {z : Str} {t : Tok} {pos : Pos} (s : List Nat) (hg : Gl X x) (hm : X.mg x = some (.str z t)) (h : z.cps.toList = s) (hd : (x == ("__debug__" : Str)) = false := by decide) : PD X C (.Name x pos) (dC (.str s)) :=
  ⟨_, pe_glob (v := .str z) hg hm ⟨t, rfl⟩ hd, sim_c fun _ => rp_str' h⟩
def dNil : DA := fun ρ R => R [] ρ
def dCons (de : DE) (dr : DA) : DA := fun ρ R => de ρ fun x ρ1 => dr ρ1 fun xs ρ2 => R (x :: xs) ρ2
theorem sim_nil {K : PySem.W.Frag} : SimA K C tNil dNil := fun _ _ _ _ _ _ rp h q => q _ _ _ _ _ rp Step.refl rps_nil h
theorem sim_cons {K : PySem.W.Frag} {te : TE} {de : DE} {tr : TA} {dr : DA} (h1 : SimE K C te de) (h2 : SimA K C tr dr) : SimA K C (tCons te tr) (dCons de dr) := by
  intro σ H F ρ Q R rp h q
  refine h1 σ H F ρ _ _ rp h fun v H1 F1 x ρ1 rp1 s1 rx hr => ?_
  exact h2 σ H1 F1 ρ1 _ _ rp1 hr fun vs H2 F2 xs ρ2 rp2 s2 rxs hr2 => q _ _ _ _ _ rp2 (s1.trans s2) (rps_cons (rx.mono s2.sF) rxs) hr2
theorem pda_nil : PDA X C [] dNil := ⟨_, pa_nil, sim_nil⟩
theorem pda_cons {e : Expr} {es : List Expr} {de : DE} {dr : DA} (h1 : PD X C e de) (h2 : PDA X C es dr) (hs : starEach (e :: es) X.env = (false, eval e X.env) :: starEach es X.env := by rfl) : PDA X C (e :: es) (dCons de dr) := by
  obtain ⟨te, a1, a2⟩ := h1
  obtain ⟨ta, b1, b2⟩ := h2
  exact ⟨_, pa_cons a1 b1 hs, sim_cons a2 b2⟩
def dTup (da : DA) : DE := fun ρ R => da ρ fun xs ρ1 => xs.length ≤ 16777216 ∧ R (.tup xs) ρ1
def dLst (da : DA) : DE := fun ρ R => da ρ fun xs ρ1 => xs.length ≤ 16777216 ∧ R (.lst xs) ρ1
theorem line {n : Nat} (h : n ≤ 16777216) : n ≤ sizeLine := by rw [sizeLine_eq]; exact h
theorem line1 {n : Nat} (h : n < 16777216) : n < sizeLine := by rw [sizeLine_eq]; exact h
theorem sim_tup {K : PySem.W.Frag} {ta : TA} {da : DA} (h : SimA K C ta da) : SimE K C (tTup ta) (dTup da) := by
  intro σ H F ρ Q R rp hd q
  refine h σ H F ρ _ _ rp hd fun vs H1 F1 xs ρ1 rp1 s1 rx hr => ?_
  refine ⟨line (rx.len ▸ hr.1), fun p hp => ?_⟩
  have rp2 := rp1.frozen (o := .tup vs) hp
  have sF : Same F1 (upd F1 p (.tup vs)) := same_new (rp1.newF hp)
  refine q _ _ _ _ _ rp2 (s1.trans (rp1.stepN hp)) ?_ hr.2
  unfold Rp
  exact ⟨p, vs, rfl, upd_same, rx.mono sF⟩
theorem sim_lst {K : PySem.W.Frag} {ta : TA} {da : DA} (h : SimA K C ta da) : SimE K C (tLst ta) (dLst da) := by
  intro σ H F ρ Q R rp hd q
  refine h σ H F ρ _ _ rp hd fun vs H1 F1 xs ρ1 rp1 s1 rx hr => ?_
  refine ⟨line (rx.len ▸ hr.1), fun p hp => ?_⟩
  have rp2 := rp1.frozen (o := .lst vs) hp
  have sF : Same F1 (upd F1 p (.lst vs)) := same_new (rp1.newF hp)
  refine q _ _ _ _ _ rp2 (s1.trans (rp1.stepN hp)) ?_ hr.2
  unfold Rp
  exact ⟨p, vs, rfl, upd_same, rx.mono sF⟩
theorem pd_tup {es : List Expr} {da : DA} {x1 pos} (h : PDA X C es da) : PD X C (.Tuple es x1 pos) (dTup da) := by
  obtain ⟨ta, a1, a2⟩ := h
  exact ⟨_, pe_tup a1, sim_tup a2⟩
theorem pd_lst {es : List Expr} {da : DA} {pos} (h : PDA X C es da) : PD X C (.List es pos) (dLst da) := by
  obtain ⟨ta, a1, a2⟩ := h
  exact ⟨_, pe_lst a1, sim_lst a2⟩
def dOp (g : D → D → D → Prop) (da db : DE) : DE := fun ρ R => da ρ fun x ρ1 => db ρ1 fun y ρ2 => ∃ z, g x y z ∧ R z ρ2
theorem sim_op {K : PySem.W.Frag} {ta tb : TE} {da db : DE} {r : R2} {g : D → D → D → Prop} (ha : SimE K C ta da) (hb : SimE K C tb db) (hr : SimR K C r g) : SimE K C (tOp r ta tb) (dOp g da db) := by
  intro σ H F ρ Q R rp h q
  refine ha σ H F ρ _ _ rp h fun v H1 F1 x ρ1 rp1 s1 rx h1 => ?_
  refine hb σ H1 F1 ρ1 _ _ rp1 h1 fun u H2 F2 y ρ2 rp2 s2 ry h2 => ?_
  obtain ⟨z, hz, h3⟩ := h2
  exact hr σ H2 F2 ρ2 x y v u z Q rp2 (rx.mono s2.sF) ry hz fun w H3 F3 rp3 s3 rz => q _ _ _ _ _ rp3 ((s1.trans s2).trans s3) rz h3
theorem pd_op {a b : Expr} {op : Operator} {pos : Pos} {da db : DE} {g : D → D → D → Prop} (ho : OpD X C (binaryOp op) g) (ha : PD X C a da) (hb : PD X C b db) : PD X C (.BinOp a op b pos) (dOp g da db) := by
  obtain ⟨ta, a1, a2⟩ := ha
  obtain ⟨tb, b1, b2⟩ := hb
  obtain ⟨r, r1, r2⟩ := ho
  exact ⟨_, pe_op r1 a1 b1, sim_op a2 b2 r2⟩
theorem pd_cmp {a b : Expr} {op : CmpOp} {pos : Pos} {da db : DE} {g : D → D → D → Prop} (ho : OpD X C (compareOp op) g) (ha : PD X C a da) (hb : PD X C b db) (hm : behindInMarks op b = false) : PD X C (.Compare a [op] [b] pos) (dOp g da db) := by
  obtain ⟨ta, a1, a2⟩ := ha
  obtain ⟨tb, b1, b2⟩ := hb
  obtain ⟨r, r1, r2⟩ := ho
  exact ⟨_, pe_cmpR r1 a1 b1 hm, sim_op a2 b2 r2⟩
/-- a bool as a test -/
def dTst (de : DE) : DT := fun ρ R => de ρ fun x ρ1 => ∃ b, x = .bl b ∧ R b ρ1
theorem rp_bl_inv {K : PySem.W.Frag} {F : Hp} {b : Bool} {v : V} (h : Rp K F (.bl b) v) : v = .bl b := by unfold Rp at h; exact h
theorem rp_int_inv {K : PySem.W.Frag} {F : Hp} {b : Int} {v : V} (h : Rp K F (.int b) v) : v = .int b := by unfold Rp at h; exact h
theorem rp_str_inv {K : PySem.W.Frag} {F : Hp} {b : List Nat} {v : V} (h : Rp K F (.str b) v) : v = .str ⟨b.toArray⟩ := by unfold Rp at h; exact h
theorem rp_non_inv {K : PySem.W.Frag} {F : Hp} {v : V} (h : Rp K F .non v) : v = .non := by unfold Rp at h; exact h
theorem sim_tst {K : PySem.W.Frag} {te : TE} {de : DE} (h : SimE K C te de) : SimT K C (tTest te) (dTst de) := by
  intro σ H F ρ Q R rp hd q
  refine h σ H F ρ _ _ rp hd fun v H1 F1 x ρ1 rp1 s1 rx hr => ?_
  obtain ⟨b, rfl, hr⟩ := hr
  exact ⟨b, rp_bl_inv rx, q _ _ _ _ rp1 s1 hr⟩
theorem pdt_cmp {a b : Expr} {op : CmpOp} {pos : Pos} {da db : DE} {g : D → D → D → Prop} (ho : OpD X C (compareOp op) g) (ha : PD X C a da) (hb : PD X C b db) (hm : behindInMarks op b = false) : PDT X C (.Compare a [op] [b] pos) (dTst (dOp g da db)) := by
  obtain ⟨ta, a1, a2⟩ := ha
  obtain ⟨tb, b1, b2⟩ := hb
  obtain ⟨r, r1, r2⟩ := ho
  exact ⟨_, pt_cmpR r1 a1 b1 hm, sim_tst (sim_op a2 b2 r2)⟩
/-- a op b op' c -/
def dChain (g g' : D → D → D → Prop) (da db dc : DE) : DE := fun ρ R => da ρ fun x ρ1 => db ρ1 fun y ρ2 => ∃ b, g x y (.bl b) ∧ (if b = true then dc ρ2 fun z ρ3 => ∃ w, g' y z w ∧ R w ρ3 else R (.bl false) ρ2)
theorem sim_chain {K : PySem.W.Frag} {ta tb tc : TE} {da db dc : DE} {r r' : R2} {g g' : D → D → D → Prop} (ha : SimE K C ta da) (hb : SimE K C tb db) (hc : SimE K C tc dc) (hr : SimR K C r g) (hr' : SimR K C r' g') :
    SimE K C (tChain r r' ta tb tc) (dChain g g' da db dc) := by
  intro σ H F ρ Q R rp h q
  refine ha σ H F ρ _ _ rp h fun v H1 F1 x ρ1 rp1 s1 rx h1 => ?_
  refine hb σ H1 F1 ρ1 _ _ rp1 h1 fun u H2 F2 y ρ2 rp2 s2 ry h2 => ?_
  obtain ⟨b, hb2, h3⟩ := h2
  refine hr σ H2 F2 ρ2 x y v u _ _ rp2 (rx.mono s2.sF) ry hb2 fun w H3 F3 rp3 s3 rw_ => ?_
  refine ⟨b, rp_bl_inv rw_, ?_⟩
  by_cases c : b = true
  · rw [if_pos c] at h3 ⊢
    refine hc σ H3 F3 ρ2 _ _ rp3 h3 fun z H4 F4 zz ρ4 rp4 s4 rz h4 => ?_
    obtain ⟨ww, hg, h5⟩ := h4
    exact hr' σ H4 F4 ρ4 y zz u z ww Q rp4 (ry.mono (s3.trans s4).sF) rz hg fun w5 H5 F5 rp5 s5 r5 => q _ _ _ _ _ rp5 (((s1.trans s2).trans s3).trans (s4.trans s5)) r5 h5
  · rw [if_neg c] at h3 ⊢
    exact q _ _ _ _ _ rp3 ((s1.trans s2).trans s3) rp_bl h3
theorem pdt_chain {a b c : Expr} {op op' : CmpOp} {pos : Pos} {da db dc : DE} {g g' : D → D → D → Prop} (ho : OpD X C (compareOp op) g) (ho' : OpD X C (compareOp op') g') (ha : PD X C a da) (hb : PD X C b db) (hc : PD X C c dc)
    (hm : lastMarks [op, op'] [b, c] = false := by with_unfolding_all rfl) : PDT X C (.Compare a [op, op'] [b, c] pos) (dTst (dChain g g' da db dc)) := by
  obtain ⟨ta, a1, a2⟩ := ha
  obtain ⟨tb, b1, b2⟩ := hb
  obtain ⟨tc, c1, c2⟩ := hc
  obtain ⟨r, r1, r2⟩ := ho
  obtain ⟨r', r1', r2'⟩ := ho'
  exact ⟨_, pt_chain r1 r1' a1 b1 c1 hm, sim_tst (sim_chain a2 b2 c2 r2 r2')⟩
theorem pd_chain {a b c : Expr} {op op' : CmpOp} {pos : Pos} {da db dc : DE} {g g' : D → D → D → Prop} (ho : OpD X C (compareOp op) g) (ho' : OpD X C (compareOp op') g') (ha : PD X C a da) (hb : PD X C b db) (hc : PD X C c dc)
    (hm : lastMarks [op, op'] [b, c] = false := by with_unfolding_all rfl) : PD X C (.Compare a [op, op'] [b, c] pos) (dChain g g' da db dc) := by
  obtain ⟨ta, a1, a2⟩ := ha
  obtain ⟨tb, b1, b2⟩ := hb
  obtain ⟨tc, c1, c2⟩ := hc
  obtain ⟨r, r1, r2⟩ := ho
  obtain ⟨r', r1', r2'⟩ := ho'
  exact ⟨_, pe_chain r1 r1' a1 b1 c1 hm, sim_chain a2 b2 c2 r2 r2'⟩
def truD : D → Bool → Prop
  | .non, b => b = false
  | .bl c, b => b = c
  | .int i, b => b = (i != 0)
  | .str s, b => s.length ≤ 16777216 ∧ b = !s.isEmpty
  | .tup xs, b => b = !xs.isEmpty
  | .lst xs, b => b = !xs.isEmpty
  | .ro xs, b => b = !xs.isEmpty
def dTru (de : DE) : DT := fun ρ R => de ρ fun x ρ1 => ∃ b, truD x b ∧ R b ρ1
theorem rps_empty {K : PySem.W.Frag} {F : Hp} {ds : List D} {vs : List V} (h : Rps K F ds vs) : vs.isEmpty = ds.isEmpty := by
  have := h.len
  cases ds <;> cases vs <;> simp_all
theorem str_len {s : List Nat} : (⟨s.toArray⟩ : Str).length = s.length := by
  show (s.toArray).size = s.length
  simp
theorem sim_tru {K : PySem.W.Frag} {te : TE} {de : DE} (h : SimE K C te de) : SimT K C (fun σ H Q => te σ H fun x H' => ∃ k, TruV K x H' k ∧ Q k H') (dTru de) := by
  intro σ H F ρ Q R rp hd q
  refine h σ H F ρ _ _ rp hd fun v H1 F1 x ρ1 rp1 s1 rx hr => ?_
  obtain ⟨b, hb, hr⟩ := hr
  refine ⟨b, ?_, q _ _ _ _ rp1 s1 hr⟩
  cases x with
  | non => cases rp_non_inv rx; exact hb
  | bl c => cases rp_bl_inv rx; exact hb
  | int i => cases rp_int_inv rx; exact hb
  | str s =>
    cases rp_str_inv rx
    refine ⟨line (by rw [str_len]; exact hb.1), ?_⟩
    rw [str_len, hb.2]
    cases s with
    | nil => rfl
    | cons c r =>
      have : (((c :: r).length : Int) != 0) = true := by
        rw [bne_iff_ne]
        simp only [List.length_cons]
        omega
      rw [this]; rfl
  | tup xs =>
    unfold Rp at rx
    obtain ⟨a, vs, rfl, h1, h2⟩ := rx
    exact Or.inr (Or.inl ⟨vs, SqT.of (rp1.sub _ _ h1), by rw [rps_empty h2]; exact hb⟩)
  | lst xs =>
    unfold Rp at rx
    obtain ⟨a, vs, rfl, h1, h2⟩ := rx
    exact Or.inl ⟨vs, SqL.of (rp1.sub _ _ h1), by rw [rps_empty h2]; exact hb⟩
  | ro xs =>
    unfold Rp at rx
    obtain ⟨a, rfl, h1⟩ := rx
    refine Or.inl ⟨_, Same.seq rp1.sub h1, ?_⟩
    cases xs <;> exact hb
theorem pdt_tru {e : Expr} {de : DE} (h : PD X C e de) (he : ∀ whole, isTrue e X.env whole = (do let v ← whole; standAt e.pos; holding [v] (truthy v)) := by intro _; rfl) : PDT X C e (dTru de) := by
  obtain ⟨te, a1, a2⟩ := h
  exact ⟨_, pt_truth a1 he, sim_tru a2⟩
def dAnd (s t : DT) : DT := fun ρ R => s ρ fun b ρ1 => if b = true then t ρ1 R else R false ρ1
def dOr (s t : DT) : DT := fun ρ R => s ρ fun b ρ1 => if b = true then R true ρ1 else t ρ1 R
def dNot (s : DT) : DT := fun ρ R => s ρ fun b ρ1 => R (!b) ρ1
theorem sim_and {K : PySem.W.Frag} {s t : TT} {ds dt : DT} (h1 : SimT K C s ds) (h2 : SimT K C t dt) : SimT K C (tAnd s t) (dAnd ds dt) := by
  intro σ H F ρ Q R rp hd q
  refine h1 σ H F ρ _ _ rp hd fun b H1 F1 ρ1 rp1 s1 hr => ?_
  by_cases c : b = true
  · rw [if_pos c] at hr ⊢
    exact h2 σ H1 F1 ρ1 _ _ rp1 hr fun b2 H2 F2 ρ2 rp2 s2 hr2 => q _ _ _ _ rp2 (s1.trans s2) hr2
  · rw [if_neg c] at hr ⊢
    exact q _ _ _ _ rp1 s1 hr
theorem sim_or {K : PySem.W.Frag} {s t : TT} {ds dt : DT} (h1 : SimT K C s ds) (h2 : SimT K C t dt) : SimT K C (tOr s t) (dOr ds dt) := by
  intro σ H F ρ Q R rp hd q
  refine h1 σ H F ρ _ _ rp hd fun b H1 F1 ρ1 rp1 s1 hr => ?_
  by_cases c : b = true
  · rw [if_pos c] at hr ⊢
    exact q _ _ _ _ rp1 s1 hr
  · rw [if_neg c] at hr ⊢
    exact h2 σ H1 F1 ρ1 _ _ rp1 hr fun b2 H2 F2 ρ2 rp2 s2 hr2 => q _ _ _ _ rp2 (s1.trans s2) hr2
theorem sim_not {K : PySem.W.Frag} {s : TT} {ds : DT} (h1 : SimT K C s ds) : SimT K C (tNot s) (dNot ds) := by
  intro σ H F ρ Q R rp hd q
  exact h1 σ H F ρ _ _ rp hd fun b H1 F1 ρ1 rp1 s1 hr => q _ _ _ _ rp1 s1 hr
theorem pdw_pt {e : Expr} {dt : DT} (h : PDW X C e dt) : PDT X C e dt := by
  obtain ⟨t, a1, a2⟩ := h
  exact ⟨_, a1.pt, a2⟩
theorem pdw_and1 {a : Expr} {dt : DT} {pos : Pos} (h : PDT X C a dt) : PDW X C (.BoolOp .And [a] pos) dt := by
  obtain ⟨t, a1, a2⟩ := h
  exact ⟨_, pw_and1 a1, a2⟩
theorem pdw_or1 {a : Expr} {dt : DT} {pos : Pos} (h : PDT X C a dt) : PDW X C (.BoolOp .Or [a] pos) dt := by
  obtain ⟨t, a1, a2⟩ := h
  exact ⟨_, pw_or1 a1, a2⟩
theorem pdw_and {a b : Expr} {rest : List Expr} {ds dt : DT} {pos : Pos} (h : PDT X C a ds) (h2 : PDW X C (.BoolOp .And (b :: rest) pos) dt) : PDW X C (.BoolOp .And (a :: b :: rest) pos) (dAnd ds dt) := by
  obtain ⟨t, a1, a2⟩ := h
  obtain ⟨u, b1, b2⟩ := h2
  exact ⟨_, pw_and a1 b1, sim_and a2 b2⟩
theorem pdw_or {a b : Expr} {rest : List Expr} {ds dt : DT} {pos : Pos} (h : PDT X C a ds) (h2 : PDW X C (.BoolOp .Or (b :: rest) pos) dt) : PDW X C (.BoolOp .Or (a :: b :: rest) pos) (dOr ds dt) := by
  obtain ⟨t, a1, a2⟩ := h
  obtain ⟨u, b1, b2⟩ := h2
  exact ⟨_, pw_or a1 b1, sim_or a2 b2⟩
theorem pdt_not {a : Expr} {ds : DT} {pos : Pos} (h : PDT X C a ds) : PDT X C (.UnaryOp .Not a pos) (dNot ds) := by
  obtain ⟨t, a1, a2⟩ := h
  exact ⟨_, pt_not a1, sim_not a2⟩
/-- bools: a and b, a or b, not a, as values -/
def dAndV (da db : DE) : DE := fun ρ R => da ρ fun x ρ1 => ∃ c, x = .bl c ∧ if c = true then db ρ1 R else R (.bl false) ρ1
def dOrV (da db : DE) : DE := fun ρ R => da ρ fun x ρ1 => ∃ c, x = .bl c ∧ if c = true then R (.bl true) ρ1 else db ρ1 R
def dNotV (da : DE) : DE := fun ρ R => da ρ fun x ρ1 => ∃ c, x = .bl c ∧ R (.bl (!c)) ρ1
theorem sim_andV {K : PySem.W.Frag} {ta tb : TE} {da db : DE} (h1 : SimE K C ta da) (h2 : SimE K C tb db) : SimE K C (tAndV ta tb) (dAndV da db) := by
  intro σ H F ρ Q R rp hd q
  refine h1 σ H F ρ _ _ rp hd fun v H1 F1 x ρ1 rp1 s1 rx hr => ?_
  obtain ⟨c, rfl, hr⟩ := hr
  refine ⟨c, rp_bl_inv rx, ?_⟩
  by_cases e : c = true
  · rw [if_pos e] at hr ⊢
    exact h2 σ H1 F1 ρ1 _ _ rp1 hr fun v2 H2 F2 y ρ2 rp2 s2 ry hr2 => q _ _ _ _ _ rp2 (s1.trans s2) ry hr2
  · rw [if_neg e] at hr ⊢
    exact q _ _ _ _ _ rp1 s1 rp_bl hr
theorem sim_orV {K : PySem.W.Frag} {ta tb : TE} {da db : DE} (h1 : SimE K C ta da) (h2 : SimE K C tb db) : SimE K C (tOrV ta tb) (dOrV da db) := by
  intro σ H F ρ Q R rp hd q
  refine h1 σ H F ρ _ _ rp hd fun v H1 F1 x ρ1 rp1 s1 rx hr => ?_
  obtain ⟨c, rfl, hr⟩ := hr
  refine ⟨c, rp_bl_inv rx, ?_⟩
  by_cases e : c = true
  · rw [if_pos e] at hr ⊢
    exact q _ _ _ _ _ rp1 s1 rp_bl hr
  · rw [if_neg e] at hr ⊢
    exact h2 σ H1 F1 ρ1 _ _ rp1 hr fun v2 H2 F2 y ρ2 rp2 s2 ry hr2 => q _ _ _ _ _ rp2 (s1.trans s2) ry hr2
theorem sim_notV {K : PySem.W.Frag} {ta : TE} {da : DE} (h1 : SimE K C ta da) : SimE K C (tNotV ta) (dNotV da) := by
  intro σ H F ρ Q R rp hd q
  refine h1 σ H F ρ _ _ rp hd fun v H1 F1 x ρ1 rp1 s1 rx hr => ?_
  obtain ⟨c, rfl, hr⟩ := hr
  exact ⟨c, rp_bl_inv rx, q _ _ _ _ _ rp1 s1 rp_bl hr⟩
theorem pd_one {a : Expr} {da : DE} {op} {pos : Pos} (h : PD X C a da) : PD X C (.BoolOp op [a] pos) da := by
  obtain ⟨t, a1, a2⟩ := h
  exact ⟨_, pe_one a1, a2⟩
theorem pd_and {a b : Expr} {rest : List Expr} {da db : DE} {pos : Pos} (h : PD X C a da) (h2 : PD X C (.BoolOp .And (b :: rest) pos) db) : PD X C (.BoolOp .And (a :: b :: rest) pos) (dAndV da db) := by
  obtain ⟨t, a1, a2⟩ := h
  obtain ⟨u, b1, b2⟩ := h2
  exact ⟨_, pe_and a1 b1, sim_andV a2 b2⟩
theorem pd_or {a b : Expr} {rest : List Expr} {da db : DE} {pos : Pos} (h : PD X C a da) (h2 : PD X C (.BoolOp .Or (b :: rest) pos) db) : PD X C (.BoolOp .Or (a :: b :: rest) pos) (dOrV da db) := by
  obtain ⟨t, a1, a2⟩ := h
  obtain ⟨u, b1, b2⟩ := h2
  exact ⟨_, pe_or a1 b1, sim_orV a2 b2⟩
theorem pd_not {a : Expr} {da : DE} {pos : Pos} (h : PD X C a da) : PD X C (.UnaryOp .Not a pos) (dNotV da) := by
  obtain ⟨t, a1, a2⟩ := h
  exact ⟨_, pe_not a1, sim_notV a2⟩
/-- a if t else b -/
def dIfE (t : DT) (da db : DE) : DE := fun ρ R => t ρ fun c ρ1 => if c = true then da ρ1 R else db ρ1 R
theorem pd_ifE {c a b : Expr} {dt : DT} {da db : DE} {pos : Pos} (hc : PDT X C c dt) (ha : PD X C a da) (hb : PD X C b db) : PD X C (.IfExp c a b pos) (dIfE dt da db) := by
  obtain ⟨t, c1, c2⟩ := hc
  obtain ⟨ta, a1, a2⟩ := ha
  obtain ⟨tb, b1, b2⟩ := hb
  refine ⟨_, pe_ifExp c1 a1 b1, fun σ H F ρ Q R rp hd q => ?_⟩
  refine c2 σ H F ρ _ _ rp hd fun b H1 F1 ρ1 rp1 s1 hr => ?_
  by_cases e : b = true
  · rw [if_pos e] at hr ⊢
    exact a2 σ H1 F1 ρ1 _ _ rp1 hr fun v2 H2 F2 y ρ2 rp2 s2 ry hr2 => q _ _ _ _ _ rp2 (s1.trans s2) ry hr2
  · rw [if_neg e] at hr ⊢
    exact b2 σ H1 F1 ρ1 _ _ rp1 hr fun v2 H2 F2 y ρ2 rp2 s2 ry hr2 => q _ _ _ _ _ rp2 (s1.trans s2) ry hr2
/-- -x -/
def dNeg (da : DE) : DE := fun ρ R => da ρ fun x ρ1 => ∃ i, x = .int i ∧ R (.int (-i)) ρ1
theorem pd_neg {a : Expr} {da : DE} {pos : Pos} (ha : PD X C a da) : PD X C (.UnaryOp .USub a pos) (dNeg da) := by
  obtain ⟨ta, a1, a2⟩ := ha
  refine ⟨_, pe_un un_neg a1, fun σ H F ρ Q R rp hd q => ?_⟩
  refine a2 σ H F ρ _ _ rp hd fun v H1 F1 x ρ1 rp1 s1 rx hr => ?_
  obtain ⟨i, rfl, hr⟩ := hr
  exact ⟨i, rp_int_inv rx, q _ _ _ _ _ rp1 s1 rp_int hr⟩
end
end DL
namespace DL
open PySem PySem.Spec L2
section
variable {X : Cx} {C : Cd}
def addR : D → D → D → Prop
  | .int i, .int j, z => z = .int (i + j)
  | .str s, .str t, z => s.length + t.length ≤ 16777216 ∧ z = .str (s ++ t)
  | .tup xs, .tup ys, z => xs.length + ys.length ≤ 16777216 ∧ z = .tup (xs ++ ys)
  | .lst xs, .lst ys, z => xs.length + ys.length ≤ 16777216 ∧ z = .lst (xs ++ ys)
  | _, _, _ => False
theorem str_app (s t : List Nat) : (⟨s.toArray⟩ : Str) ++ ⟨t.toArray⟩ = ⟨(s ++ t).toArray⟩ := by
  apply TL.ext_tl
  rw [TL.tl_append]
theorem rp_str_inv' {K : PySem.W.Frag} {F : Hp} {s : List Nat} {v : V} (h : Rp K F (.str s) v) : ∃ z : Str, v = .str z ∧ z.cps.toList = s ∧ z.length = s.length := by
  refine ⟨⟨s.toArray⟩, rp_str_inv h, by simp, str_len⟩
theorem rp_tup_inv {K : PySem.W.Frag} {F : Hp} {xs : List D} {v : V} (h : Rp K F (.tup xs) v) : ∃ a vs, v = .ref a ∧ F a = some (.tup vs) ∧ Rps K F xs vs := by unfold Rp at h; exact h
theorem rp_lst_inv {K : PySem.W.Frag} {F : Hp} {xs : List D} {v : V} (h : Rp K F (.lst xs) v) : ∃ a vs, v = .ref a ∧ F a = some (.lst vs) ∧ Rps K F xs vs := by unfold Rp at h; exact h
theorem rp_ro_inv {K : PySem.W.Frag} {F : Hp} {xs : List Int} {v : V} (h : Rp K F (.ro xs) v) : ∃ a, v = .ref a ∧ SqL K F a (xs.map V.int) := by unfold Rp at h; exact h
theorem rp_tup {K : PySem.W.Frag} {F : Hp} {xs : List D} {a : Addr} {vs : List V} (h1 : F a = some (.tup vs)) (h2 : Rps K F xs vs) : Rp K F (.tup xs) (.ref a) := by unfold Rp; exact ⟨a, vs, rfl, h1, h2⟩
theorem rp_lst {K : PySem.W.Frag} {F : Hp} {xs : List D} {a : Addr} {vs : List V} (h1 : F a = some (.lst vs)) (h2 : Rps K F xs vs) : Rp K F (.lst xs) (.ref a) := by unfold Rp; exact ⟨a, vs, rfl, h1, h2⟩
theorem fz_tup {K : PySem.W.Frag} {σ : L2.St} {H F : Hp} {ρ : List S} (rp : Rep K C σ H F ρ) {vs : List V} {xs : List D} (h : Rps K F xs vs) {p : Addr} (hp : H p = none) :
    Rep K C σ (upd H p (.tup vs)) (upd F p (.tup vs)) ρ ∧ Step σ H F ρ (upd H p (.tup vs)) (upd F p (.tup vs)) ρ ∧ Rp K (upd F p (.tup vs)) (.tup xs) (.ref p) := by
  have sF : Same F (upd F p (.tup vs)) := same_new (rp.newF hp)
  exact ⟨rp.frozen hp, rp.stepN hp, rp_tup upd_same (h.mono sF)⟩
theorem fz_lst {K : PySem.W.Frag} {σ : L2.St} {H F : Hp} {ρ : List S} (rp : Rep K C σ H F ρ) {vs : List V} {xs : List D} (h : Rps K F xs vs) {p : Addr} (hp : H p = none) :
    Rep K C σ (upd H p (.lst vs)) (upd F p (.lst vs)) ρ ∧ Step σ H F ρ (upd H p (.lst vs)) (upd F p (.lst vs)) ρ ∧ Rp K (upd F p (.lst vs)) (.lst xs) (.ref p) := by
  have sF : Same F (upd F p (.lst vs)) := same_new (rp.newF hp)
  exact ⟨rp.frozen hp, rp.stepN hp, rp_lst upd_same (h.mono sF)⟩
/-- ints under a condition -/
def intR (c : Int → Int → Prop) (f : Int → Int → D) : D → D → D → Prop
  | .int i, .int j, z => c i j ∧ z = f i j
  | _, _, _ => False
theorem intD {f : Value → Value → Sem Value} {c : Int → Int → Prop} {g : Int → Int → V} {g' : Int → Int → D} (h : OpR X f (rI c g)) (e : ∀ F i j, Rp X.K F (g' i j) (g i j)) : OpD X C f (intR c g') := by
  refine ⟨_, h, fun σ H F ρ x y v u z Q rp rx ry hg k => ?_⟩
  cases x with
  | int i =>
    cases y with
    | int j =>
      obtain ⟨h1, rfl⟩ := hg
      cases rp_int_inv rx
      cases rp_int_inv ry
      exact ⟨i, j, rfl, rfl, h1, k _ _ _ rp Step.refl (e F i j)⟩
    | _ => exact hg.elim
  | _ => exact hg.elim
theorem intD0 {f : Value → Value → Sem Value} {g : Int → Int → V} {g' : Int → Int → D} (h : OpR X f (rI0 g)) (e : ∀ F i j, Rp X.K F (g' i j) (g i j)) : OpD X C f (intR (fun _ _ => True) g') := by
  refine ⟨_, h, fun σ H F ρ x y v u z Q rp rx ry hg k => ?_⟩
  cases x with
  | int i =>
    cases y with
    | int j =>
      obtain ⟨h1, rfl⟩ := hg
      cases rp_int_inv rx
      cases rp_int_inv ry
      exact ⟨i, j, rfl, rfl, k _ _ _ rp Step.refl (e F i j)⟩
    | _ => exact hg.elim
  | _ => exact hg.elim
/-- two texts -/
def strR (c : List Nat → List Nat → Prop) (f : List Nat → List Nat → D) : D → D → D → Prop
  | .str s, .str t, z => c s t ∧ z = f s t
  | _, _, _ => False
theorem add_strD : OpD X C (binaryOp .Add) (strR (fun s t => s.length + t.length ≤ 16777216) fun s t => .str (s ++ t)) := by
  refine ⟨_, op_add_str, fun σ H F ρ x y v u z Q rp rx ry hg k => ?_⟩
  cases x with
  | str i =>
    cases y with
    | str j =>
      obtain ⟨h1, rfl⟩ := hg
      cases rp_str_inv rx
      cases rp_str_inv ry
      refine ⟨_, _, rfl, rfl, line (by rw [str_len, str_len]; exact h1), k _ _ _ rp Step.refl ?_⟩
      rw [str_app]; exact rp_str
    | _ => exact hg.elim
  | _ => exact hg.elim
def tupR (f : List D → List D → D) : D → D → D → Prop
  | .tup xs, .tup ys, z => xs.length + ys.length ≤ 16777216 ∧ z = f xs ys
  | _, _, _ => False
def lstR (f : List D → List D → D) : D → D → D → Prop
  | .lst xs, .lst ys, z => xs.length + ys.length ≤ 16777216 ∧ z = f xs ys
  | _, _, _ => False
theorem rps_nilL {K : PySem.W.Frag} {F : Hp} {ds : List D} {vs : List V} (h : Rps K F ds vs) : vs = [] ↔ ds = [] := by
  have := h.len
  cases ds <;> cases vs <;> simp_all
theorem add_tupD : OpD X C (binaryOp .Add) (tupR fun s t => .tup (s ++ t)) := by
  refine ⟨_, op_catA, fun σ H F ρ x y v u z Q rp rx ry hg k => ?_⟩
  cases x with
  | tup i =>
    cases y with
    | tup j =>
      obtain ⟨h1, rfl⟩ := hg
      obtain ⟨a, vs, rfl, a1, a2⟩ := rp_tup_inv rx
      obtain ⟨b, us, rfl, b1, b2⟩ := rp_tup_inv ry
      refine ⟨a, b, vs, us, rfl, rfl, SqT.of (rp.sub _ _ a1), SqT.of (rp.sub _ _ b1), line (by rw [← a2.len, ← b2.len]; exact h1), fun e => ?_, fun _ e => ?_, fun _ _ p hp => ?_⟩
      · have e1 := (rps_nilL a2).mp e
        subst e1
        exact k _ _ _ rp Step.refl ry
      · have e1 := (rps_nilL b2).mp e
        subst e1
        refine k _ _ _ rp Step.refl ?_
        show Rp _ _ (.tup (i ++ [])) _
        rw [List.append_nil]; exact rx
      · obtain ⟨r1, r2, r3⟩ := fz_tup rp (a2.app b2) hp
        exact k _ _ _ r1 r2 r3
    | _ => exact hg.elim
  | _ => exact hg.elim
theorem add_lstD : OpD X C (binaryOp .Add) (lstR fun s t => .lst (s ++ t)) := by
  refine ⟨_, op_cat, fun σ H F ρ x y v u z Q rp rx ry hg k => ?_⟩
  cases x with
  | lst i =>
    cases y with
    | lst j =>
      obtain ⟨h1, rfl⟩ := hg
      obtain ⟨a, vs, rfl, a1, a2⟩ := rp_lst_inv rx
      obtain ⟨b, us, rfl, b1, b2⟩ := rp_lst_inv ry
      refine ⟨a, b, vs, us, rfl, rfl, rp.sub _ _ a1, rp.sub _ _ b1, line (by rw [← a2.len, ← b2.len]; exact h1), fun p hp => ?_⟩
      obtain ⟨r1, r2, r3⟩ := fz_lst rp (a2.app b2) hp
      exact k _ _ _ r1 r2 r3
    | _ => exact hg.elim
  | _ => exact hg.elim
theorem od_add : OpD X C (binaryOp .Add) addR := by
  refine OpD.imp (OpD.or (intD0 op_add (g' := fun i j => .int (i + j)) fun _ _ _ => rp_int) (OpD.or add_strD (OpD.or add_tupD add_lstD))) fun x y z h => ?_
  cases x <;> cases y <;> first
    | exact h.elim
    | exact Or.inl ⟨trivial, h⟩
    | exact Or.inr (Or.inl h)
    | exact Or.inr (Or.inr (Or.inl h))
    | exact Or.inr (Or.inr (Or.inr h))
def subR : D → D → D → Prop := intR (fun _ _ => True) fun i j => .int (i - j)
theorem od_sub : OpD X C (binaryOp .Sub) subR := intD0 op_sub fun _ _ _ => rp_int
def modR : D → D → D → Prop := intR (fun _ j => 0 < j) fun i j => .int (i % j)
theorem od_mod : OpD X C (binaryOp .Mod) modR := intD op_mod fun _ _ _ => rp_int
def fdivR : D → D → D → Prop := intR CDivW fun i j => .int (i / j)
theorem od_fdiv : OpD X C (binaryOp .FloorDiv) fdivR := intD op_fdivW fun _ _ _ => rp_int
def powR : D → D → D → Prop := intR CPow fun i j => .int (i ^ j.toNat)
theorem od_pow : OpD X C (binaryOp .Pow) powR := intD op_pow fun _ _ _ => rp_int
def shlR : D → D → D → Prop := intR CPow fun i j => .int (i * 2 ^ j.toNat)
theorem od_shl : OpD X C (binaryOp .LShift) shlR := intD op_shl fun _ _ _ => rp_int
def mulR : D → D → D → Prop
  | .int i, .int j, z => (CMul i j ∨ CMulW i j) ∧ z = .int (i * j)
  | .str s, .int j, z => s.length * j.toNat ≤ 16777216 ∧ j < 2 ^ 62 ∧ -(2 ^ 62) ≤ j ∧ z = .str (List.replicate j.toNat s).flatten
  | .lst xs, .int j, z => xs.length * j.toNat ≤ 16777216 ∧ j < 2 ^ 62 ∧ -(2 ^ 62) ≤ j ∧ z = .lst (List.replicate j.toNat xs).flatten
  | _, _, _ => False
theorem rps_flat {K : PySem.W.Frag} {F : Hp} {ds : List D} {vs : List V} (h : Rps K F ds vs) (n : Nat) : Rps K F (List.replicate n ds).flatten (List.replicate n vs).flatten := by
  induction n with
  | zero => exact rps_nil
  | succ n ih =>
    rw [List.replicate_succ, List.replicate_succ, List.flatten_cons, List.flatten_cons]
    exact h.app ih
theorem mul_lstD : OpD X C (binaryOp .Mult) (fun x y z => ∃ xs j, x = .lst xs ∧ y = .int j ∧ xs.length * j.toNat ≤ 16777216 ∧ j < 2 ^ 62 ∧ -(2 ^ 62) ≤ j ∧ z = .lst (List.replicate j.toNat xs).flatten) := by
  refine ⟨_, op_rep, fun σ H F ρ x y v u z Q rp rx ry hg k => ?_⟩
  obtain ⟨xs, j, rfl, rfl, h1, h2, h3, rfl⟩ := hg
  obtain ⟨a, vs, rfl, a1, a2⟩ := rp_lst_inv rx
  cases rp_int_inv ry
  refine ⟨a, j, vs, rfl, rfl, rp.sub _ _ a1, by omega, by omega, line (by rw [← a2.len]; exact h1), fun p hp => ?_⟩
  obtain ⟨r1, r2, r3⟩ := fz_lst rp (rps_flat a2 _) hp
  exact k _ _ _ r1 r2 r3
theorem foldl_cps (s : List Nat) : ∀ (n : Nat) (acc : List Nat), (List.replicate n s.toArray).foldl (fun x1 x2 => x1 ++ x2) acc.toArray = (acc ++ (List.replicate n s).flatten).toArray := by
  intro n
  induction n with
  | zero => intro acc; simp
  | succ n ih =>
    intro acc
    rw [List.replicate_succ, List.foldl_cons, List.append_toArray, ih, List.replicate_succ, List.flatten_cons, List.append_assoc]
/-- text * int -/
theorem op_mul_str : OpR X (binaryOp .Mult) (fun x y H Q => ∃ (s : List Nat) (j : Int), x = .str ⟨s.toArray⟩ ∧ y = .int j ∧ s.length * j.toNat ≤ 16777216 ∧ j < 2 ^ 62 ∧ -(2 ^ 62) ≤ j ∧ Q (.str ⟨(List.replicate j.toNat s).flatten.toArray⟩) H) := by
  intro pins s σ H x y v u Q I rx ry h
  obtain ⟨l, j, rfl, rfl, h1, h2, h3, q⟩ := h
  obtain ⟨t, rfl⟩ := rx
  obtain ⟨t', rfl⟩ := ry
  have hl : (⟨l.toArray⟩ : Str).length = l.length := str_len
  refine PySem.P.mul_str ?_ (fun hn hz => ?_) (fun hn hz => ?_) ?_
  · rw [Bool.or_eq_false_iff]
    exact ⟨decide_eq_false (by omega), decide_eq_false (by omega)⟩
  · rw [hl]
    have hj : (0 : Int) < j := by omega
    have e : (l.length : Int) * j ≤ 16777216 := by
      have : ((l.length * j.toNat : Nat) : Int) ≤ 16777216 := Int.ofNat_le.mpr h1
      rw [Int.natCast_mul, Int.toNat_of_nonneg (by omega)] at this
      exact this
    intro hc
    have h5 : (l.length : Int) ≤ (2 ^ 63 - 1) / j := by
      rw [Int.le_ediv_iff_mul_le hj]
      omega
    omega
  · rw [hl]
    have h6 := sizeLine_eq
    refine decide_eq_false ?_
    rw [h6]
    show ¬ (l.length * j.toNat > 16777216)
    omega
  · by_cases c1 : j < 1
    · rw [if_pos c1]
      have e : j.toNat = 0 := by omega
      rw [e] at q
      exact ⟨by rw [sizeLine_eq]; decide, .str ⟨#[]⟩, H, I.tok _, ⟨_, rfl⟩, q⟩
    · rw [if_neg c1]
      by_cases c2 : (j == 1 || (⟨l.toArray⟩ : Str).length == 0) = true
      · rw [if_pos c2]
        refine ⟨.str ⟨l.toArray⟩, H, I, ⟨_, rfl⟩, ?_⟩
        rw [hl] at c2
        have e : (List.replicate j.toNat l).flatten = l := by
          rcases Bool.or_eq_true_iff.mp c2 with c | c
          · have : j = 1 := by simpa using c
            subst this
            simp
          · have : l = [] := by simpa using c
            subst this
            simp
        rw [e] at q
        exact q
      · rw [if_neg c2]
        have e := foldl_cps l j.toNat []
        rw [List.nil_append] at e
        have e2 : (⟨(List.replicate j.toNat l.toArray).foldl (fun x1 x2 => x1 ++ x2) #[]⟩ : Str) = ⟨(List.replicate j.toNat l).flatten.toArray⟩ := by rw [e]
        show (Made.str ⟨(List.replicate j.toNat l.toArray).foldl (fun x1 x2 => x1 ++ x2) #[]⟩).post _ _
        rw [e2]
        refine ⟨?_, .str ⟨(List.replicate j.toNat l).flatten.toArray⟩, H, I.tok _, ⟨_, rfl⟩, q⟩
        rw [str_len, sizeLine_eq]
        simp only [List.length_flatten, List.map_replicate, List.sum_replicate_nat]
        rw [Nat.mul_comm]
        exact h1
theorem mul_strD : OpD X C (binaryOp .Mult) (fun x y z => ∃ xs j, x = .str xs ∧ y = .int j ∧ xs.length * j.toNat ≤ 16777216 ∧ j < 2 ^ 62 ∧ -(2 ^ 62) ≤ j ∧ z = .str (List.replicate j.toNat xs).flatten) := by
  refine ⟨_, op_mul_str, fun σ H F ρ x y v u z Q rp rx ry hg k => ?_⟩
  obtain ⟨xs, j, rfl, rfl, h1, h2, h3, rfl⟩ := hg
  cases rp_str_inv rx
  cases rp_int_inv ry
  exact ⟨xs, j, rfl, rfl, h1, h2, h3, k _ _ _ rp Step.refl rp_str⟩
theorem od_mul : OpD X C (binaryOp .Mult) mulR := by
  refine OpD.imp (OpD.or (OpD.or (intD op_mul (g' := fun i j => .int (i * j)) fun _ _ _ => rp_int) (intD op_mulW (g' := fun i j => .int (i * j)) fun _ _ _ => rp_int)) (OpD.or mul_strD mul_lstD)) fun x y z h => ?_
  cases x <;> cases y <;> first
    | exact h.elim
    | exact Or.inl (h.1.elim (fun c => Or.inl ⟨c, h.2⟩) fun c => Or.inr ⟨c, h.2⟩)
    | exact Or.inr (Or.inl ⟨_, _, rfl, rfl, h⟩)
    | exact Or.inr (Or.inr ⟨_, _, rfl, rfl, h⟩)
def ltR : D → D → D → Prop
  | .int i, .int j, z => z = .bl (decide (i < j))
  | .str s, .str t, z => z = .bl (decide (s < t))
  | _, _, _ => False
def leR : D → D → D → Prop
  | .int i, .int j, z => z = .bl (decide (i ≤ j))
  | .str s, .str t, z => z = .bl (!decide (t < s))
  | _, _, _ => False
def gtR : D → D → D → Prop
  | .int i, .int j, z => z = .bl (decide (j < i))
  | .str s, .str t, z => z = .bl (decide (t < s))
  | _, _, _ => False
def geR : D → D → D → Prop
  | .int i, .int j, z => z = .bl (decide (j ≤ i))
  | .str s, .str t, z => z = .bl (!decide (s < t))
  | _, _, _ => False
theorem cmp_strD {op : CmpOp} {g : List Nat → List Nat → Bool} (h : OpR X (compareOp op) (fun x y H Q => ∃ i j, x = .str i ∧ y = .str j ∧ Q (.bl (g i.cps.toList j.cps.toList)) H)) : OpD X C (compareOp op) (strR (fun _ _ => True) fun s t => .bl (g s t)) := by
  refine ⟨_, h, fun σ H F ρ x y v u z Q rp rx ry hg k => ?_⟩
  cases x with
  | str i =>
    cases y with
    | str j =>
      obtain ⟨h1, rfl⟩ := hg
      cases rp_str_inv rx
      cases rp_str_inv ry
      exact ⟨_, _, rfl, rfl, k _ _ _ rp Step.refl rp_bl⟩
    | _ => exact hg.elim
  | _ => exact hg.elim
theorem od_lt : OpD X C (compareOp .Lt) ltR := by
  refine OpD.imp (OpD.or (intD0 op_lt (g' := fun i j => .bl (decide (i < j))) fun _ _ _ => rp_bl) (cmp_strD (g := fun s t => decide (s < t)) op_lt_str)) fun x y z h => ?_
  cases x <;> cases y <;> first | exact h.elim | exact Or.inl ⟨trivial, h⟩ | exact Or.inr ⟨trivial, h⟩
theorem od_le : OpD X C (compareOp .LtE) leR := by
  refine OpD.imp (OpD.or (intD0 op_le (g' := fun i j => .bl (decide (i ≤ j))) fun _ _ _ => rp_bl) (cmp_strD (g := fun s t => !decide (t < s)) op_le_str)) fun x y z h => ?_
  cases x <;> cases y <;> first | exact h.elim | exact Or.inl ⟨trivial, h⟩ | exact Or.inr ⟨trivial, h⟩
theorem od_gt : OpD X C (compareOp .Gt) gtR := by
  refine OpD.imp (OpD.or (intD0 op_gt (g' := fun i j => .bl (decide (j < i))) fun _ _ _ => rp_bl) (cmp_strD (g := fun s t => decide (t < s)) op_gt_str)) fun x y z h => ?_
  cases x <;> cases y <;> first | exact h.elim | exact Or.inl ⟨trivial, h⟩ | exact Or.inr ⟨trivial, h⟩
theorem od_ge : OpD X C (compareOp .GtE) geR := by
  refine OpD.imp (OpD.or (intD0 op_ge (g' := fun i j => .bl (decide (j ≤ i))) fun _ _ _ => rp_bl) (cmp_strD (g := fun s t => !decide (s < t)) op_ge_str)) fun x y z h => ?_
  cases x <;> cases y <;> first | exact h.elim | exact Or.inl ⟨trivial, h⟩ | exact Or.inr ⟨trivial, h⟩
/-- == of scalars -/
def sc : D → Bool
  | .non => true | .bl _ => true | .int _ => true | .str _ => true | _ => false
def eqS : D → D → Option Bool
  | .non, .non => some true
  | .non, .int _ => some false
  | .int _, .non => some false
  | .non, .bl _ => some false
  | .bl _, .non => some false
  | .non, .str _ => some false
  | .str _, .non => some false
  | .int i, .int j => some (decide (i = j))
  | .bl i, .bl j => some (decide (i = j))
  | .str i, .str j => some (decide (i = j))
  | .int _, .str _ => some false
  | .str _, .int _ => some false
  | .bl _, .str _ => some false
  | .str _, .bl _ => some false
  | _, _ => none
theorem str_inj {s t : List Nat} : ((⟨s.toArray⟩ : Str) = ⟨t.toArray⟩) = (s = t) := by
  rw [Str.mk.injEq]
  simp
theorem eqS_ok {K : PySem.W.Frag} {F : Hp} {x y : D} {v u : V} {b : Bool} (rx : Rp K F x v) (ry : Rp K F y u) (h : eqS x y = some b) : scal v u = true ∧ decide (v = u) = b := by
  cases x <;> cases y <;> first
    | (unfold eqS at h; cases h; done)
    | skip
  all_goals unfold Rp at rx ry
  all_goals subst rx
  all_goals subst ry
  all_goals (unfold eqS at h; cases h; refine ⟨rfl, ?_⟩; simp [str_inj])
def eqR : D → D → D → Prop := fun x y z => ∃ b, eqS x y = some b ∧ z = .bl b
def neR : D → D → D → Prop := fun x y z => ∃ b, eqS x y = some b ∧ z = .bl (!b)
theorem od_eq : OpD X C (compareOp .Eq) eqR := by
  refine ⟨_, op_eq, fun σ H F ρ x y v u z Q rp rx ry hg k => ?_⟩
  obtain ⟨b, h1, rfl⟩ := hg
  obtain ⟨e1, e2⟩ := eqS_ok rx ry h1
  refine ⟨e1, ?_⟩
  rw [e2]
  exact k _ _ _ rp Step.refl rp_bl
theorem od_ne : OpD X C (compareOp .NotEq) neR := by
  refine ⟨_, op_ne, fun σ H F ρ x y v u z Q rp rx ry hg k => ?_⟩
  obtain ⟨b, h1, rfl⟩ := hg
  obtain ⟨e1, e2⟩ := eqS_ok rx ry h1
  refine ⟨e1, ?_⟩
  rw [e2]
  exact k _ _ _ rp Step.refl rp_bl
/-- is None -/
def isN : D → Bool
  | .non => true | _ => false
def isR : D → D → D → Prop := fun x y z => y = .non ∧ z = .bl (isN x)
def isntR : D → D → D → Prop := fun x y z => y = .non ∧ z = .bl (!isN x)
theorem isN_ok {K : PySem.W.Frag} {F : Hp} {x : D} {v : V} (rx : Rp K F x v) : decide (v = .non) = isN x := by
  cases x <;> unfold Rp at rx <;> first
    | (subst rx; rfl)
    | (obtain ⟨a, vs, rfl, _⟩ := rx; rfl)
    | (obtain ⟨a, rfl, _⟩ := rx; rfl)
theorem od_is : OpD X C (compareOp .Is) isR := by
  refine ⟨_, op_isN, fun σ H F ρ x y v u z Q rp rx ry hg k => ?_⟩
  obtain ⟨rfl, rfl⟩ := hg
  refine ⟨rp_non_inv ry, ?_⟩
  rw [isN_ok rx]
  exact k _ _ _ rp Step.refl rp_bl
theorem od_isnt : OpD X C (compareOp .IsNot) isntR := by
  refine ⟨_, op_notN, fun σ H F ρ x y v u z Q rp rx ry hg k => ?_⟩
  obtain ⟨rfl, rfl⟩ := hg
  refine ⟨rp_non_inv ry, ?_⟩
  rw [isN_ok rx]
  exact k _ _ _ rp Step.refl rp_bl
/-- one sign in a text -/
def inS : D → D → D → Prop := fun x y z => ∃ c s, x = .str [c] ∧ y = .str s ∧ z = .bl (decide (c ∈ s))
def ninS : D → D → D → Prop := fun x y z => ∃ c s, x = .str [c] ∧ y = .str s ∧ z = .bl (!decide (c ∈ s))
theorem od_inS : OpD X C (compareOp .In) inS := by
  refine ⟨_, op_in_sign, fun σ H F ρ x y v u z Q rp rx ry hg k => ?_⟩
  obtain ⟨c, s, rfl, rfl, rfl⟩ := hg
  cases rp_str_inv rx
  cases rp_str_inv ry
  refine ⟨c, _, rfl, rfl, ?_⟩
  exact k _ _ _ rp Step.refl rp_bl
theorem od_ninS : OpD X C (compareOp .NotIn) ninS := by
  refine ⟨_, op_notIn_sign, fun σ H F ρ x y v u z Q rp rx ry hg k => ?_⟩
  obtain ⟨c, s, rfl, rfl, rfl⟩ := hg
  cases rp_str_inv rx
  cases rp_str_inv ry
  refine ⟨c, _, rfl, rfl, ?_⟩
  exact k _ _ _ rp Step.refl rp_bl
end
end DL
namespace DL
open PySem PySem.Spec L2
theorem ixN_lt {n : Nat} {i : Int} {j : Nat} (h : ixN n i = some j) : j < n := (ixN_seq h).2.1
theorem rps_at {K : PySem.W.Frag} {F : Hp} {xs : List D} {vs : List V} (h : Rps K F xs vs) {i : Int} {z : D} (e : atI xs i = some z) : ∃ v, atI vs i = some v ∧ Rp K F z v := by
  unfold atI at e ⊢
  rw [← h.len]
  cases hj : ixN xs.length i with
  | none => rw [hj] at e; cases e
  | some j =>
    rw [hj] at e
    exact h.get e
def ixR : D → D → D → Prop
  | .tup xs, .int i, z => atI xs i = some z
  | .lst xs, .int i, z => atI xs i = some z
  | .ro ns, .int i, z => ∃ n, atI ns i = some n ∧ z = .int n
  | .str s, .int i, z => s.length ≤ 16777216 ∧ ∃ c, atI s i = some c ∧ z = .str [c]
  | _, _, _ => False
theorem atI_map {α β : Type} {f : α → β} {xs : List α} {i : Int} {z : α} (e : atI xs i = some z) : atI (xs.map f) i = some (f z) := by
  unfold atI at e ⊢
  rw [List.length_map]
  cases hj : ixN xs.length i with
  | none => rw [hj] at e; cases e
  | some j =>
    rw [hj] at e
    show (xs.map f)[j]? = some (f z)
    rw [List.getElem?_map, show xs[j]? = some z from e]
    rfl
theorem simR_ix {C : Cd} {K : PySem.W.Frag} : SimR K C (rIx K) ixR := by
  intro σ H F ρ x y v u z Q rp rx ry hg k
  cases x <;> cases y <;> first | exact hg.elim | skip
  case str.int s i =>
    obtain ⟨hl, c, h1, rfl⟩ := hg
    cases rp_str_inv rx
    cases rp_int_inv ry
    refine Or.inr (Or.inr ⟨_, i, c, rfl, rfl, line (by rw [str_len]; exact hl), ?_, k _ _ _ rp Step.refl ?_⟩)
    · exact h1
    · exact rp_str
  case tup.int xs i =>
    obtain ⟨a, vs, rfl, a1, a2⟩ := rp_tup_inv rx
    cases rp_int_inv ry
    obtain ⟨w, h1, h2⟩ := rps_at a2 hg
    exact Or.inr (Or.inl ⟨a, vs, i, w, rfl, rfl, SqT.of (rp.sub _ _ a1), h1, k _ _ _ rp Step.refl h2⟩)
  case lst.int xs i =>
    obtain ⟨a, vs, rfl, a1, a2⟩ := rp_lst_inv rx
    cases rp_int_inv ry
    obtain ⟨w, h1, h2⟩ := rps_at a2 hg
    exact Or.inl ⟨a, vs, i, w, rfl, rfl, SqL.of (rp.sub _ _ a1), h1, k _ _ _ rp Step.refl h2⟩
  case ro.int ns i =>
    obtain ⟨n, h1, rfl⟩ := hg
    obtain ⟨a, rfl, a1⟩ := rp_ro_inv rx
    cases rp_int_inv ry
    exact Or.inl ⟨a, _, i, _, rfl, rfl, Same.seq rp.sub a1, atI_map h1, k _ _ _ rp Step.refl rp_int⟩
section
variable {X : Cx} {C : Cd}
theorem pd_ix {a b : Expr} {pos : Pos} {da db : DE} (ha : PD X C a da) (hb : PD X C b db) (hs : PlainIx b := by exact fun _ _ => rfl) : PD X C (.Subscript a b pos) (dOp ixR da db) := by
  obtain ⟨ta, a1, a2⟩ := ha
  obtain ⟨tb, b1, b2⟩ := hb
  exact ⟨_, pe_ix ix_seq a1 b1 hs, sim_op a2 b2 simR_ix⟩
/-- a slot's list is looked at; a handed one is opened -/
def dOpen (ok : List D → Prop) (k : Nat) (ρ : List S) (q : List D → List S → Prop) : Prop := match ρ[k]? with
  | some (.own xs) => q xs ρ
  | some (.jo xs) => q xs ρ
  | some .jar => ∀ xs, ok xs → q xs (ρ.set k (.jo xs))
  | some (.d (.lst xs)) => q xs ρ
  | _ => False
theorem open_ok {K : PySem.W.Frag} {σ : L2.St} {H F : Hp} {ρ : List S} {k : Nat} {q : List D → List S → Prop} (rp : Rep K C σ H F ρ) (h : dOpen C.ok k ρ q) :
    ∃ p vs xs ρ', σ[k]? = some (some (.ref p)) ∧ H p = some (.lst vs) ∧ Rps K F xs vs ∧ Rep K C σ H F ρ' ∧ Step σ H F ρ H F ρ' ∧ q xs ρ' := by
  unfold dOpen at h
  split at h
  · rename_i xs e
    obtain ⟨p, vs, ys, a1, a2, a3, a4, a5, _⟩ := rp.own k _ e rfl
    cases a5
    exact ⟨p, vs, xs, ρ, a1, a3, a4, rp, Step.refl, h⟩
  · rename_i xs e
    obtain ⟨p, vs, ys, a1, a2, a3, a4, a5, _⟩ := rp.own k _ e rfl
    cases a5
    exact ⟨p, vs, xs, ρ, a1, a3, a4, rp, Step.refl, h⟩
  · rename_i e
    obtain ⟨xs, hx, rp2⟩ := rp.openJ e
    have li : k < ρ.length := (List.getElem?_eq_some_iff.mp e).1
    obtain ⟨p, vs, ys, a1, a2, a3, a4, a5, _⟩ := rp2.own k (.jo xs) (by rw [List.getElem?_set, if_pos rfl]; first | rw [if_pos li] | skip) rfl
    cases a5
    exact ⟨p, vs, xs, _, a1, a3, a4, rp2, Rep.stepS e (fun _ => rfl), h xs hx⟩
  · rename_i xs e
    obtain ⟨v, a1, a2⟩ := rp.dat k _ e
    obtain ⟨a, vs, rfl, b1, b2⟩ := rp_lst_inv a2
    exact ⟨a, vs, xs, ρ, a1, rp.sub _ _ b1, b2, rp, Step.refl, h⟩
  · exact h.elim
/-- xs[e], xs a name of a list that may change -/
def dIxN (ok : List D → Prop) (k : Nat) (db : DE) : DE := fun ρ R => db ρ fun i ρ1 => dOpen ok k ρ1 fun xs ρ2 => ∃ n z, i = .int n ∧ atI xs n = some z ∧ R z ρ2
/-- the slot holds a list from the start -/
def mtS (ρ : List S) (k : Nat) : Bool := match ρ[k]? with
  | some s => s.mt
  | none => false
theorem mtS_ok {ρ : List S} {k : Nat} (h : mtS ρ k = true) : ∃ s, ρ[k]? = some s ∧ s.mt = true := by
  unfold mtS at h
  split at h
  · rename_i s e
    exact ⟨s, e, h⟩
  · cases h
def dIxM (ok : List D → Prop) (k : Nat) (db : DE) : DE := fun ρ R => mtS ρ k = true ∧ dIxN ok k db ρ R
theorem pd_ixN (k : Nat) {x : Str} {b : Expr} {p pos : Pos} {db : DE} (hb : PD X C b db) (hN : X.N[k]? = some x := by rfl) (hv : Vis X.env.scope x := by first | exact Or.inl rfl | exact Or.inr (Or.inl rfl) | exact Or.inr (Or.inr rfl))
    (hs : PlainIx b := by exact fun _ _ => rfl) (hd : (x == ("__debug__" : Str)) = false := by decide) (hcd : (x == ("__classdict__" : Str)) = false := by decide) : PD X C (.Subscript (.Name x p) b pos) (dIxM C.ok k db) := by
  obtain ⟨tb, b1, b2⟩ := hb
  refine ⟨_, pe_ix ix_list (pe_var hN hv hd hcd) b1 hs, fun σ H F ρ Q R rp h q => ?_⟩
  obtain ⟨hm, h⟩ := h
  obtain ⟨s, e1, e2⟩ := mtS_ok hm
  obtain ⟨p, _, _, a1, _⟩ := rp.own k s e1 e2
  refine ⟨_, a1, ?_⟩
  refine b2 σ H F ρ _ _ rp h fun v H1 F1 i ρ1 rp1 s1 ri h1 => ?_
  obtain ⟨p', vs, xs, ρ2, c1, c2, c3, c4, c5, n, z, rfl, h2, h3⟩ := open_ok rp1 h1
  rw [a1] at c1
  cases c1
  cases rp_int_inv ri
  obtain ⟨w, h4, h5⟩ := rps_at c3 h2
  exact ⟨p, vs, n, w, rfl, rfl, SqL.of c2, h4, q _ _ _ _ _ c4 (s1.trans c5) h5 h3⟩
abbrev DO := List S → (Option Int → List S → Prop) → Prop
def SimO (K : PySem.W.Frag) (C : Cd) (to : TO) (d : DO) : Prop := ∀ (σ : L2.St) (H F : Hp) (ρ : List S) (Q : Option Int → Hp → Prop) (R : Option Int → List S → Prop), Rep K C σ H F ρ → d ρ R →
  (∀ o H' F' ρ', Rep K C σ H' F' ρ' → Step σ H F ρ H' F' ρ' → R o ρ' → Q o H') → to σ H Q
structure PDO (X : Cx) (C : Cd) (e : Option Expr) (d : DO) : Prop where
  ex : ∃ to, PO X e to ∧ SimO X.K C to d
def dNoP : DO := fun ρ R => R none ρ
def dP (de : DE) : DO := fun ρ R => de ρ fun x ρ1 => ∃ i, x = .int i ∧ R (some i) ρ1
theorem pdo_none : PDO X C none dNoP := ⟨_, po_none, fun _ _ _ _ _ _ rp h q => q _ _ _ _ rp Step.refl h⟩
theorem pdo_some {e : Expr} {de : DE} (h : PD X C e de) : PDO X C (some e) (dP de) := by
  obtain ⟨te, a1, a2⟩ := h
  refine ⟨_, po_some a1, fun σ H F ρ Q R rp h q => ?_⟩
  refine a2 σ H F ρ _ _ rp h fun v H1 F1 x ρ1 rp1 s1 rx hr => ?_
  obtain ⟨i, rfl, hr⟩ := hr
  exact ⟨i, rp_int_inv rx, q _ _ _ _ rp1 s1 hr⟩
def cut {α : Type} (xs : List α) (lo hi : Option Int) : List α := (xs.drop (HT.sIx xs.length 0 lo)).take (HT.sIx xs.length xs.length hi - HT.sIx xs.length 0 lo)
theorem rps_cut {K : PySem.W.Frag} {F : Hp} {xs : List D} {vs : List V} (h : Rps K F xs vs) (lo hi : Option Int) : Rps K F (cut xs lo hi) (cutV vs lo hi) := by
  unfold cut cutV
  rw [h.len]
  exact (h.drop _).take _
theorem cut_map {α β : Type} (f : α → β) (xs : List α) (lo hi : Option Int) : cut (xs.map f) lo hi = (cut xs lo hi).map f := by
  unfold cut
  rw [List.length_map, List.map_take, List.map_drop]
def slR : D → Option Int → Option Int → D → Prop
  | .str s, lo, hi, z => s.length ≤ 16777216 ∧ z = .str (cut s lo hi)
  | .tup xs, lo, hi, z => z = .tup (cut xs lo hi)
  | .lst xs, lo, hi, z => z = .lst (cut xs lo hi)
  | .ro xs, lo, hi, z => z = .lst ((cut xs lo hi).map .int)
  | _, _, _, _ => False
def dSl (da : DE) (dl dh : DO) : DE := fun ρ R => da ρ fun x ρ1 => dl ρ1 fun lo ρ2 => dh ρ2 fun hi ρ3 => ∃ z, slR x lo hi z ∧ R z ρ3
theorem cutS_list (s : List Nat) (lo hi : Option Int) : cutS ⟨s.toArray⟩ lo hi = ⟨(cut s lo hi).toArray⟩ := by
  unfold cutS cut
  rw [str_len]
theorem cut_whole {α : Type} {xs : List α} {lo hi : Option Int} (h : HT.sIx xs.length 0 lo = 0 ∧ HT.sIx xs.length xs.length hi = xs.length) : cut xs lo hi = xs := by
  unfold cut
  rw [h.1, h.2]
  simp
theorem pd_slice {e : Expr} {lo hi : Option Expr} {pos p2 : Pos} {da : DE} {dl dh : DO} (ha : PD X C e da) (hl : PDO X C lo dl) (hh : PDO X C hi dh) : PD X C (.Subscript e (.Slice lo hi none p2) pos) (dSl da dl dh) := by
  obtain ⟨ta, a1, a2⟩ := ha
  obtain ⟨tl, l1, l2⟩ := hl
  obtain ⟨th, h1, h2⟩ := hh
  refine ⟨_, pe_slice (SlR.or sl_list (SlR.or sl_tupA sl_str)) a1 l1 h1, fun σ H F ρ Q R rp h q => ?_⟩
  refine a2 σ H F ρ _ _ rp h fun v H1 F1 x ρ1 rp1 s1 rx hr => ?_
  refine l2 σ H1 F1 ρ1 _ _ rp1 hr fun lo H2 F2 ρ2 rp2 s2 hr => ?_
  refine h2 σ H2 F2 ρ2 _ _ rp2 hr fun hi H3 F3 ρ3 rp3 s3 hr => ?_
  obtain ⟨z, hz, hr⟩ := hr
  have rx3 := (rx.mono s2.sF).mono s3.sF
  have s13 := (s1.trans s2).trans s3
  cases x with
  | str s =>
    obtain ⟨hl, rfl⟩ := hz
    cases rp_str_inv rx3
    refine Or.inr (Or.inr ⟨_, rfl, line (by rw [str_len]; exact hl), ?_⟩)
    rw [cutS_list]
    exact q _ _ _ _ _ rp3 s13 rp_str hr
  | tup xs =>
    obtain rfl : z = _ := hz
    obtain ⟨a, vs, rfl, b1, b2⟩ := rp_tup_inv rx3
    refine Or.inr (Or.inl ⟨a, vs, rfl, SqT.of (rp3.sub _ _ b1), fun hw => ?_, fun hw p hp => ?_⟩)
    · refine q _ _ _ _ _ rp3 s13 ?_ hr
      rw [← b2.len] at hw
      rw [cut_whole hw]
      exact rx3
    · obtain ⟨r1, r2, r3⟩ := fz_tup rp3 (rps_cut b2 lo hi) hp
      exact q _ _ _ _ _ r1 (s13.trans r2) r3 hr
  | lst xs =>
    obtain rfl : z = _ := hz
    obtain ⟨a, vs, rfl, b1, b2⟩ := rp_lst_inv rx3
    refine Or.inl ⟨a, vs, rfl, SqL.of (rp3.sub _ _ b1), fun p hp => ?_⟩
    obtain ⟨r1, r2, r3⟩ := fz_lst rp3 (rps_cut b2 lo hi) hp
    exact q _ _ _ _ _ r1 (s13.trans r2) r3 hr
  | ro ns =>
    obtain rfl : z = _ := hz
    obtain ⟨a, rfl, b1⟩ := rp_ro_inv rx3
    refine Or.inl ⟨a, _, rfl, Same.seq rp3.sub b1, fun p hp => ?_⟩
    have : Rps X.K F3 ((cut ns lo hi).map D.int) (cutV (ns.map V.int) lo hi) := by
      have := rps_cut (rps_ints (K := X.K) (F := F3) ns) lo hi
      rw [cut_map] at this
      exact this
    obtain ⟨r1, r2, r3⟩ := fz_lst rp3 this hp
    exact q _ _ _ _ _ r1 (s13.trans r2) r3 hr
  | _ => exact hz.elim
def dCB (g : List D → D → Prop) (da : DA) : DE := fun ρ R => da ρ fun xs ρ1 => ∃ z, g xs z ∧ R z ρ1
theorem sim_cb {K : PySem.W.Frag} {ta : TA} {da : DA} {r : List V → Hp → VK → Prop} {g : List D → D → Prop} (ha : SimA K C ta da) (hr : SimC K C r g) : SimE K C (tCB r ta) (dCB g da) := by
  intro σ H F ρ Q R rp h q
  refine ha σ H F ρ _ _ rp h fun vs H1 F1 xs ρ1 rp1 s1 rx h1 => ?_
  obtain ⟨z, hz, h2⟩ := h1
  exact hr σ H1 F1 ρ1 xs vs z Q rp1 rx hz fun w H2 F2 rp2 s2 rz => q _ _ _ _ _ rp2 (s1.trans s2) rz h2
theorem pd_cb {x : Str} {p pos : Pos} {e : Expr} {es : List Expr} {id : String} {da : DA} {g : List D → D → Prop} (hc : CallD X C (.builtin id) g) (hg : Gl X x) (hm : X.mg x = none) (hv : bootBuiltins x = some (.builtin id)) (ha : PDA X C (e :: es) da)
    (hn : x ≠ "__name__" := by decide) (hdb : (x == ("__debug__" : Str)) = false := by decide)
    (he : starEach (e :: es) X.env = (false, eval e X.env) :: starEach es X.env := by rfl) (hpl : (backTo pos (starEach es X.env)).any (·.1) = false := by rfl) : PD X C (.Call (.Name x p) (e :: es) [] pos) (dCB g da) := by
  obtain ⟨ta, a1, a2⟩ := ha
  obtain ⟨r, r1, r2⟩ := hc
  exact ⟨_, pe_callB r1 hg hm hv a1 hn hdb he hpl, sim_cb a2 r2⟩
theorem pd_ct {x : Str} {p pos : Pos} {e : Expr} {es : List Expr} {T : String} {da : DA} {g : List D → D → Prop} (hc : CallD X C (.type T) g) (hg : Gl X x) (hm : X.mg x = none) (hv : bootBuiltins x = some (.type T)) (ha : PDA X C (e :: es) da)
    (hn : x ≠ "__name__" := by decide) (hdb : (x == ("__debug__" : Str)) = false := by decide)
    (he : starEach (e :: es) X.env = (false, eval e X.env) :: starEach es X.env := by rfl) (hpl : (backTo pos (starEach es X.env)).any (·.1) = false := by rfl) : PD X C (.Call (.Name x p) (e :: es) [] pos) (dCB g da) := by
  obtain ⟨ta, a1, a2⟩ := ha
  obtain ⟨r, r1, r2⟩ := hc
  exact ⟨_, pe_callTy r1 hg hm hv a1 hn hdb he hpl, sim_cb a2 r2⟩
theorem rps_one {K : PySem.W.Frag} {F : Hp} {x : D} {vs : List V} (h : Rps K F [x] vs) : ∃ v, vs = [v] ∧ Rp K F x v := by
  unfold Rps at h
  obtain ⟨v, r, rfl, h1, h2⟩ := h
  unfold Rps at h2
  subst h2
  exact ⟨v, rfl, h1⟩
theorem rps_two {K : PySem.W.Frag} {F : Hp} {x y : D} {vs : List V} (h : Rps K F [x, y] vs) : ∃ v u, vs = [v, u] ∧ Rp K F x v ∧ Rp K F y u := by
  unfold Rps at h
  obtain ⟨v, r, rfl, h1, h2⟩ := h
  obtain ⟨u, rfl, h3⟩ := rps_one h2
  exact ⟨v, u, rfl, h1, h3⟩
/-- len -/
def lenR : List D → D → Prop
  | [.str s], z => s.length ≤ 16777216 ∧ z = .int s.length
  | [.tup s], z => z = .int s.length
  | [.lst s], z => z = .int s.length
  | [.ro s], z => z = .int s.length
  | _, _ => False
theorem simC_len {K : PySem.W.Frag} : SimC K C (fun xs H Q => ∃ x n, xs = [x] ∧ LenV K x H n ∧ Q (.int n) H) lenR := by
  intro σ H F ρ xs vs z Q rp rx hg k
  unfold lenR at hg
  split at hg
  · obtain ⟨v, rfl, h⟩ := rps_one rx
    obtain ⟨hl, rfl⟩ := hg
    cases rp_str_inv h
    exact ⟨_, _, rfl, ⟨line (by rw [str_len]; exact hl), str_len.symm⟩, k _ _ _ rp Step.refl rp_int⟩
  · obtain ⟨v, rfl, h⟩ := rps_one rx
    obtain ⟨a, vs, rfl, b1, b2⟩ := rp_tup_inv h
    subst hg
    exact ⟨_, _, rfl, Or.inr ⟨vs, SqT.of (rp.sub _ _ b1), b2.len⟩, k _ _ _ rp Step.refl rp_int⟩
  · obtain ⟨v, rfl, h⟩ := rps_one rx
    obtain ⟨a, vs, rfl, b1, b2⟩ := rp_lst_inv h
    subst hg
    exact ⟨_, _, rfl, Or.inl ⟨vs, SqL.of (rp.sub _ _ b1), b2.len⟩, k _ _ _ rp Step.refl rp_int⟩
  · obtain ⟨v, rfl, h⟩ := rps_one rx
    obtain ⟨a, rfl, b1⟩ := rp_ro_inv h
    subst hg
    exact ⟨_, _, rfl, Or.inl ⟨_, Same.seq rp.sub b1, (List.length_map _).symm⟩, k _ _ _ rp Step.refl rp_int⟩
  · exact hg.elim
theorem cd_len : CallD X C (.builtin "len") lenR := ⟨_, call_len, simC_len⟩
/-- int of an int, of a bool -/
def intOfR : List D → D → Prop
  | [.int i], z => z = .int i
  | [.bl b], z => z = .int (if b then 1 else 0)
  | _, _ => False
theorem cd_int : CallD X C (.type "int") intOfR := by
  refine ⟨_, call_int1, fun σ H F ρ xs vs z Q rp rx hg k => ?_⟩
  unfold intOfR at hg
  split at hg
  · obtain ⟨v, rfl, h⟩ := rps_one rx
    subst hg
    cases rp_int_inv h
    exact Or.inl ⟨_, rfl, k _ _ _ rp Step.refl rp_int⟩
  · obtain ⟨v, rfl, h⟩ := rps_one rx
    subst hg
    cases rp_bl_inv h
    exact Or.inr ⟨_, rfl, k _ _ _ rp Step.refl rp_int⟩
  · exact hg.elim
/-- max, min, abs -/
def int2R (f : Int → Int → Int) : List D → D → Prop
  | [.int i, .int j], z => z = .int (f i j)
  | _, _ => False
theorem cd_int2 {id : String} {f : Int → Int → Int} (h : CallR X (.builtin id) (fun xs H Q => ∃ i j, xs = [.int i, .int j] ∧ Q (.int (f i j)) H)) : CallD X C (.builtin id) (int2R f) := by
  refine ⟨_, h, fun σ H F ρ xs vs z Q rp rx hg k => ?_⟩
  unfold int2R at hg
  split at hg
  · obtain ⟨v, u, rfl, h1, h2⟩ := rps_two rx
    subst hg
    cases rp_int_inv h1
    cases rp_int_inv h2
    exact ⟨_, _, rfl, k _ _ _ rp Step.refl rp_int⟩
  · exact hg.elim
theorem cd_max (hc : X.calm = true) : CallD X C (.builtin "max") (int2R fun i j => max i j) := by
  refine CallD.imp (cd_int2 (call_max2 hc)) fun xs z h => ?_
  unfold int2R at h ⊢
  split at h
  · rename_i i j
    subst h
    show D.int (max i j) = .int (if j > i then j else i)
    congr 1
    by_cases c : j > i
    · rw [if_pos c]; omega
    · rw [if_neg c]; omega
  · exact h.elim
theorem cd_min (hc : X.calm = true) : CallD X C (.builtin "min") (int2R fun i j => min i j) := by
  refine CallD.imp (cd_int2 (call_min2 hc)) fun xs z h => ?_
  unfold int2R at h ⊢
  split at h
  · rename_i i j
    subst h
    show D.int (min i j) = .int (if j < i then j else i)
    congr 1
    by_cases c : j < i
    · rw [if_pos c]; omega
    · rw [if_neg c]; omega
  · exact h.elim
def absR : List D → D → Prop
  | [.int i], z => z = .int (if i < 0 then -i else i)
  | _, _ => False
theorem cd_abs : CallD X C (.builtin "abs") absR := by
  refine ⟨_, call_abs, fun σ H F ρ xs vs z Q rp rx hg k => ?_⟩
  unfold absR at hg
  split at hg
  · obtain ⟨v, rfl, h⟩ := rps_one rx
    subst hg
    cases rp_int_inv h
    exact ⟨_, rfl, k _ _ _ rp Step.refl rp_int⟩
  · exact hg.elim
/-- tuple(xs), list(xs) of a list, a tuple -/
def tupOfR : List D → D → Prop
  | [.lst s], z => z = .tup s
  | [.tup s], z => z = .tup s
  | _, _ => False
theorem cd_tuple : CallD X C (.type "tuple") tupOfR := by
  refine ⟨_, call_tuple_of, fun σ H F ρ xs vs z Q rp rx hg k => ?_⟩
  unfold tupOfR at hg
  split at hg
  · obtain ⟨v, rfl, h⟩ := rps_one rx
    obtain ⟨a, vs, rfl, b1, b2⟩ := rp_lst_inv h
    subst hg
    refine ⟨_, _, rfl, Or.inl ⟨SqL.of (rp.sub _ _ b1), fun l hl => ?_⟩⟩
    obtain ⟨r1, r2, r3⟩ := fz_tup rp b2 hl
    exact k _ _ _ r1 r2 r3
  · obtain ⟨v, rfl, h⟩ := rps_one rx
    obtain ⟨a, vs, rfl, b1, b2⟩ := rp_tup_inv h
    subst hg
    exact ⟨_, _, rfl, Or.inr ⟨SqT.of (rp.sub _ _ b1), k _ _ _ rp Step.refl h⟩⟩
  · exact hg.elim
def lstOfR : List D → D → Prop
  | [.lst s], z => z = .lst s
  | [.tup s], z => z = .lst s
  | [.ro s], z => z = .lst (s.map .int)
  | _, _ => False
theorem cd_list : CallD X C (.type "list") lstOfR := by
  refine ⟨_, call_list_of, fun σ H F ρ xs vs z Q rp rx hg k => ?_⟩
  unfold lstOfR at hg
  split at hg
  · obtain ⟨v, rfl, h⟩ := rps_one rx
    obtain ⟨a, vs, rfl, b1, b2⟩ := rp_lst_inv h
    subst hg
    refine ⟨_, _, rfl, Or.inl (SqL.of (rp.sub _ _ b1)), fun l hl => ?_⟩
    obtain ⟨r1, r2, r3⟩ := fz_lst rp b2 hl
    exact k _ _ _ r1 r2 r3
  · obtain ⟨v, rfl, h⟩ := rps_one rx
    obtain ⟨a, vs, rfl, b1, b2⟩ := rp_tup_inv h
    subst hg
    refine ⟨_, _, rfl, Or.inr (SqT.of (rp.sub _ _ b1)), fun l hl => ?_⟩
    obtain ⟨r1, r2, r3⟩ := fz_lst rp b2 hl
    exact k _ _ _ r1 r2 r3
  · obtain ⟨v, rfl, h⟩ := rps_one rx
    obtain ⟨a, rfl, b1⟩ := rp_ro_inv h
    subst hg
    refine ⟨_, _, rfl, Or.inl (Same.seq rp.sub b1), fun l hl => ?_⟩
    obtain ⟨r1, r2, r3⟩ := fz_lst rp (rps_ints (K := X.K) (F := F) _) hl
    exact k _ _ _ r1 r2 r3
  · exact hg.elim
/-- str of an int -/
def strOfR : List D → D → Prop
  | [.int i], z => i.natAbs.log2 < 1920 ∧ z = .str ((toString i).toList.map Char.toNat)
  | _, _ => False
/-- isinstance(x, T), T a built-in type -/
def tyD : D → String
  | .non => "NoneType" | .bl _ => "bool" | .int _ => "int" | .str _ => "str" | .tup _ => "tuple" | .lst _ => "list" | .ro _ => "list"
def noRo : D → Bool
  | .ro _ => false | _ => true
def dNoRo (de : DE) : DE := fun ρ R => de ρ fun x ρ1 => noRo x = true ∧ R x ρ1
def dIsi (T : String) (de : DE) : DE := fun ρ R => de ρ fun x ρ1 => ∃ b, kitB (tyD x) T = some b ∧ R (.bl b) ρ1
theorem tyx_of {K : PySem.W.Frag} {σ : L2.St} {H F : Hp} {ρ : List S} (rp : Rep K C σ H F ρ) {x : D} {v : V} (h : Rp K F x v) (hro : noRo x = true) : TyX K H v (.type (tyD x)) := by
  cases x with
  | non => cases rp_non_inv h; exact .base .non
  | bl b => cases rp_bl_inv h; exact .base (.bl _)
  | int i => cases rp_int_inv h; exact .base (.int _)
  | str s => cases rp_str_inv h; exact .base (.str _)
  | tup xs =>
    obtain ⟨a, vs, rfl, b1, b2⟩ := rp_tup_inv h
    exact .base (.tup (rp.sub _ _ b1))
  | lst xs =>
    obtain ⟨a, vs, rfl, b1, b2⟩ := rp_lst_inv h
    exact .base (.lst (rp.sub _ _ b1))
  | ro ns => cases hro
theorem pd_isi (T : String) {tn : Str} {p p2 pos : Pos} {e : Expr} {de : DE} (he : PD X C e de) (hg : Gl X "isinstance") (hm : X.mg "isinstance" = none) (hg2 : Gl X tn) (hm2 : X.mg tn = none) (hv : bootBuiltins "isinstance" = some (.builtin "isinstance")) (hv2 : bootBuiltins tn = some (.type T))
    (hn : tn ≠ "__name__" := by decide) (hd : (tn == ("__debug__" : Str)) = false := by decide) (h1 : starEach [e, .Name tn p2] X.env = (false, eval e X.env) :: starEach [.Name tn p2] X.env := by rfl) (h2 : starEach [.Name tn p2] X.env = (false, eval (.Name tn p2) X.env) :: starEach [] X.env := by rfl)
    (hpl : (backTo pos (starEach [.Name tn p2] X.env)).any (·.1) = false := by rfl) : PD X C (.Call (.Name "isinstance" p) [e, .Name tn p2] [] pos) (dIsi T (dNoRo de)) := by
  obtain ⟨te, a1, a2⟩ := he
  refine ⟨_, pe_callB call_isi hg hm hv (pa_cons a1 (pa_cons (pe_bltn (v := .ty T) hg2 hm2 hv2 rfl hn hd) pa_nil h2) h1) (by decide) (by decide) h1 hpl, fun σ H F ρ Q R rp h q => ?_⟩
  refine a2 σ H F ρ _ _ rp h fun v H1 F1 x ρ1 rp1 s1 rx hr => ?_
  obtain ⟨hro, b, hb, hr⟩ := hr
  exact ⟨v, .ty T, _, _, b, rfl, ClsV.ty T, tyx_of rp1 rx hro, kit_ty hb, q _ _ _ _ _ rp1 s1 rp_bl hr⟩
end
end DL
namespace DL
open PySem PySem.Spec L2
/-- another view of the slots: at each place as before, or data (or nothing) anew -/
theorem Rep.mix {K : PySem.W.Frag} {C : Cd} {σ σ' : L2.St} {H F : Hp} {ρ ρ' : List S} (r : Rep K C σ H F ρ) (hl : ρ'.length = σ'.length)
    (h : ∀ i : Nat, (ρ'[i]? = ρ[i]? ∧ σ'[i]? = σ[i]?) ∨ ((∀ s : S, ρ'[i]? = some s → s.mt = false) ∧ (∀ x, ρ'[i]? = some (.d x) → ∃ v, σ'[i]? = some (some v) ∧ Rp K F x v) ∧ ∀ s : S, ρ[i]? = some s → s.pin = false)) :
    Rep K C σ' H F ρ' := by
  have nm : ∀ (i : Nat) (s : S), ρ'[i]? = some s → s.mt = true → ρ[i]? = some s ∧ σ'[i]? = σ[i]? := fun i s e m => by
    rcases h i with ⟨a, b⟩ | ⟨a, _⟩
    · exact ⟨a ▸ e, b⟩
    · rw [a s e] at m; cases m
  refine ⟨r.sub, r.sub0, r.keep, r.fresh, fun i x e => ?_, fun i s e m => ?_, fun i k s t p hn e1 e2 m1 m2 h1 h2 => ?_, fun q hq => ?_, hl⟩
  · rcases h i with ⟨a, b⟩ | ⟨_, b, _⟩
    · rw [b]; exact r.dat i x (a ▸ e)
    · exact b x e
  · obtain ⟨e2, e3⟩ := nm i s e m
    rw [e3]
    exact r.own i s e2 m
  · obtain ⟨a1, b1⟩ := nm i s e1 m1
    obtain ⟨a2, b2⟩ := nm k t e2 m2
    rw [b1] at h1
    rw [b2] at h2
    exact r.apart i k s t p hn a1 a2 m1 m2 h1 h2
  · obtain ⟨h1, s, h2, h3⟩ := r.pins q hq
    rcases h q.1 with ⟨a, b⟩ | ⟨_, _, b⟩
    · exact ⟨b ▸ h1, s, a ▸ h2, h3⟩
    · rw [b s h2] at h3; cases h3
structure DEn where
  nx : List S → Prop
  rt : D → List S → Prop
  bk : List S → Prop := fun _ => False
  ct : List S → Prop := fun _ => False
  ro : List D → List S → Prop := fun _ _ => False
abbrev DS := DEn → List S → Prop
abbrev DG := D → List S → (List S → Prop) → Prop
abbrev DGs := List D → List S → (List S → Prop) → Prop
structure Cov (K : PySem.W.Frag) (C : Cd) (F0 : Hp) (E : DEn) (D : Ends) : Prop where
  nx : ∀ σ H F ρ, Same F0 F → Rep K C σ H F ρ → E.nx ρ → D.nx σ H
  rt : ∀ σ H F ρ v x, Same F0 F → Rep K C σ H F ρ → Rp K F x v → E.rt x ρ → D.rt v H
  bk : ∀ σ H F ρ, Same F0 F → Rep K C σ H F ρ → E.bk ρ → D.bk σ H
  ct : ∀ σ H F ρ, Same F0 F → Rep K C σ H F ρ → E.ct ρ → D.ct σ H
  ro : ∀ σ H F ρ p vs xs, Same F0 F → Rep K C σ H F ρ → F p = none → C.H0 p = none → H p = some (.lst vs) → Rps K F xs vs → E.ro xs ρ → D.rt (.ref p) H
theorem Cov.up {K : PySem.W.Frag} {C : Cd} {F F1 : Hp} {E : DEn} {D : Ends} (c : Cov K C F E D) (h : Same F F1) : Cov K C F1 E D :=
  ⟨fun σ H F2 ρ s => c.nx σ H F2 ρ (h.trans s), fun σ H F2 ρ v x s => c.rt σ H F2 ρ v x (h.trans s), fun σ H F2 ρ s => c.bk σ H F2 ρ (h.trans s), fun σ H F2 ρ s => c.ct σ H F2 ρ (h.trans s), fun σ H F2 ρ p vs xs s => c.ro σ H F2 ρ p vs xs (h.trans s)⟩
def SimS (K : PySem.W.Frag) (C : Cd) (ts : TS) (ds : DS) : Prop := ∀ (σ : L2.St) (H F : Hp) (ρ : List S) (D : Ends) (E : DEn), Rep K C σ H F ρ → ds E ρ → Cov K C F E D → ts D σ H
def SimG (K : PySem.W.Frag) (C : Cd) (tg : TG) (dg : DG) (ks : List Nat) : Prop := ∀ (x : D) (v : V) (σ : L2.St) (H F : Hp) (ρ : List S) (Q : L2.St → Hp → Prop) (R : List S → Prop), Rep K C σ H F ρ → Rp K F x v → dg x ρ R →
  (∀ σ' ρ', Rep K C σ' H F ρ' → (σ'.length = σ.length ∧ ∀ i : Nat, i ∉ ks → σ'[i]? = σ[i]? ∧ ρ'[i]? = ρ[i]?) → R ρ' → Q σ' H) → tg v σ H Q
def SimGs (K : PySem.W.Frag) (C : Cd) (tg : TGs) (dg : DGs) (ks : List Nat) : Prop := ∀ (xs : List D) (vs : List V) (σ : L2.St) (H F : Hp) (ρ : List S) (Q : L2.St → Hp → Prop) (R : List S → Prop), Rep K C σ H F ρ → Rps K F xs vs → dg xs ρ R →
  (∀ σ' ρ', Rep K C σ' H F ρ' → (σ'.length = σ.length ∧ ∀ i : Nat, i ∉ ks → σ'[i]? = σ[i]? ∧ ρ'[i]? = ρ[i]?) → R ρ' → Q σ' H) → tg vs σ H Q
structure PDS (X : Cx) (C : Cd) (st : Stmt) (ds : DS) : Prop where
  ex : ∃ ts, PS X st ts ∧ SimS X.K C ts ds
structure PDSs (X : Cx) (C : Cd) (st : List Stmt) (ds : DS) : Prop where
  ex : ∃ ts, PSs X st ts ∧ SimS X.K C ts ds
structure PDG (X : Cx) (C : Cd) (tg : Expr) (dg : DG) (ks : List Nat) : Prop where
  ex : ∃ g, PG X tg g ∧ SimG X.K C g dg ks
structure PDGs (X : Cx) (C : Cd) (tg : List Expr) (dg : DGs) (ks : List Nat) : Prop where
  ex : ∃ g, PGs X tg g ∧ SimGs X.K C g dg ks
/-- a fresh list, no one's yet -/
def SimL (K : PySem.W.Frag) (C : Cd) (te : TE) (dl : DA) : Prop := ∀ (σ : L2.St) (H F : Hp) (ρ : List S) (Q : VK) (R : List D → List S → Prop), Rep K C σ H F ρ → dl ρ R →
  (∀ p vs H' F' xs ρ', Rep K C σ H' F' ρ' → Step σ H F ρ H' F' ρ' → H p = none → F' p = none → C.H0 p = none → H' p = some (.lst vs) → NotOwn σ ρ' p → Rps K F' xs vs → R xs ρ' → Q (.ref p) H') → te σ H Q
structure PDL (X : Cx) (C : Cd) (e : Expr) (dl : DA) : Prop where
  ex : ∃ te, PE X e te ∧ SimL X.K C te dl
def unp (ρ : List S) (k : Nat) : Bool := match ρ[k]? with
  | some s => !s.pin
  | none => true
theorem unp_ok {ρ : List S} {k : Nat} (h : unp ρ k = true) : ∀ s : S, ρ[k]? = some s → s.pin = false := fun s e => by
  unfold unp at h
  rw [e] at h
  simpa using h
section
variable {X : Cx} {C : Cd}
def dNext : DS := fun E ρ => E.nx ρ
def dSeq (s t : DS) : DS := fun E ρ => s { E with nx := t E } ρ
def dBrk : DS := fun E ρ => E.bk ρ
def dCnt : DS := fun E ρ => E.ct ρ
theorem pdss_nil : PDSs X C [] dNext := ⟨_, pss_nil, fun σ H F ρ D E rp h c => c.nx σ H F ρ (Same.refl _) rp h⟩
theorem pdss_cons {st : Stmt} {rest : List Stmt} {s t : DS} (h1 : PDS X C st s) (h2 : PDSs X C rest t) : PDSs X C (st :: rest) (dSeq s t) := by
  obtain ⟨a, a1, a2⟩ := h1
  obtain ⟨b, b1, b2⟩ := h2
  refine ⟨_, pss_cons a1 b1, fun σ H F ρ D E rp h c => ?_⟩
  exact a2 σ H F ρ { D with nx := b D } { E with nx := t E } rp h ⟨fun σ1 H1 F1 ρ1 s1 rp1 h1 => b2 σ1 H1 F1 ρ1 D E rp1 h1 (c.up s1), c.rt, c.bk, c.ct, c.ro⟩
theorem pdss_one {st : Stmt} {s : DS} (h1 : PDS X C st s) : PDSs X C [st] s := by
  obtain ⟨a, a1, a2⟩ := h1
  exact ⟨_, pss_one a1, a2⟩
theorem pds_pass {pos : Pos} : PDS X C (.Pass pos) dNext := ⟨_, ps_pass, fun σ H F ρ D E rp h c => c.nx σ H F ρ (Same.refl _) rp h⟩
theorem pds_brk {pos : Pos} : PDS X C (.Break pos) dBrk := ⟨_, ps_break, fun σ H F ρ D E rp h c => c.bk σ H F ρ (Same.refl _) rp h⟩
theorem pds_cnt {pos : Pos} : PDS X C (.Continue pos) dCnt := ⟨_, ps_continue, fun σ H F ρ D E rp h c => c.ct σ H F ρ (Same.refl _) rp h⟩
theorem pds_doc {x j} {pos pos' : Pos} : PDS X C (.Expr (.Constant (.str x) j pos) pos') dNext := ⟨_, ps_doc, fun σ H F ρ D E rp h c => c.nx σ H F ρ (Same.refl _) rp h⟩
def dDrop (de : DE) : DS := fun E ρ => de ρ fun _ ρ1 => E.nx ρ1
theorem pds_expr {e : Expr} {de : DE} {pos : Pos} (h : PD X C e de) (hs : swapsWith e none pos.line X.env = pure false := by rfl) : PDS X C (.Expr e pos) (dDrop de) := by
  obtain ⟨te, a1, a2⟩ := h
  exact ⟨_, ps_expr a1 hs, fun σ H F ρ D E rp h c => a2 σ H F ρ _ _ rp h fun v H1 F1 x ρ1 rp1 s1 _ hr => c.nx σ H1 F1 ρ1 s1.sF rp1 hr⟩
def dRet (de : DE) : DS := fun E ρ => de ρ E.rt
theorem pds_ret {e : Expr} {de : DE} {pos : Pos} (h : PD X C e de) : PDS X C (.Return (some e) pos) (dRet de) := by
  obtain ⟨te, a1, a2⟩ := h
  exact ⟨_, ps_ret a1, fun σ H F ρ D E rp h c => a2 σ H F ρ _ _ rp h fun v H1 F1 x ρ1 rp1 s1 rx hr => c.rt σ H1 F1 ρ1 v x s1.sF rp1 rx hr⟩
def dRetN : DS := fun E ρ => E.rt .non ρ
theorem pds_retN {pos : Pos} : PDS X C (.Return none pos) dRetN := ⟨_, ps_retN, fun σ H F ρ D E rp h c => c.rt σ H F ρ _ _ (Same.refl _) rp rp_non h⟩
def dIf (t : DT) (s u : DS) : DS := fun E ρ => t ρ fun b ρ1 => if b = true then s E ρ1 else u E ρ1
theorem pds_if {c : Expr} {a b : List Stmt} {pos : Pos} {t : DT} {s u : DS} (hc : PDT X C c t) (ha : PDSs X C a s) (hb : PDSs X C b u) : PDS X C (.If c a b pos) (dIf t s u) := by
  obtain ⟨tc, c1, c2⟩ := hc
  obtain ⟨ta, a1, a2⟩ := ha
  obtain ⟨tb, b1, b2⟩ := hb
  refine ⟨_, ps_if c1 a1 b1, fun σ H F ρ D E rp h c => ?_⟩
  refine c2 σ H F ρ _ _ rp h fun b H1 F1 ρ1 rp1 s1 hr => ?_
  by_cases e : b = true
  · rw [if_pos e] at hr ⊢
    exact a2 σ H1 F1 ρ1 D E rp1 hr (c.up s1.sF)
  · rw [if_neg e] at hr ⊢
    exact b2 σ H1 F1 ρ1 D E rp1 hr (c.up s1.sF)
def dgN (k : Nat) : DG := fun x ρ R => unp ρ k = true ∧ R (ρ.set k (.d x))
theorem simG_name {K : PySem.W.Frag} (k : Nat) : SimG K C (gName k) (dgN k) [k] := by
  intro x v σ H F ρ Q R rp rx h q
  refine q _ _ (rp.setD (unp_ok h.1) rx) ⟨List.length_set, fun i hi => ?_⟩ h.2
  have : k ≠ i := fun z => hi (by rw [z]; exact List.mem_singleton.mpr rfl)
  rw [List.getElem?_set, List.getElem?_set, if_neg this, if_neg this]
  exact ⟨rfl, rfl⟩
theorem pdg_name (k : Nat) {x : Str} {pos : Pos} (hN : X.N.Nodup) (hi : X.N[k]? = some x := by rfl) (hx : Loc X.env.scope x := by first | exact Or.inl rfl | exact Or.inr rfl) (hf : X.fn x = true ∨ X.env.scope.names.lookup x = some .local := by first | exact .inl rfl | exact .inr rfl | assumption) :
    PDG X C (.Name x pos) (dgN k) [k] := ⟨_, pg_name hN hi hx hf, simG_name k⟩
def dgNil : DGs := fun xs ρ R => xs = [] ∧ R ρ
def dgCons (g : DG) (gs : DGs) : DGs := fun xs ρ R => ∃ x r, xs = x :: r ∧ g x ρ fun ρ1 => gs r ρ1 R
theorem pdgs_nil : PDGs X C [] dgNil [] := ⟨_, pgs_nil, fun xs vs σ H F ρ Q R rp rx h q => by
  obtain ⟨rfl, h⟩ := h
  unfold Rps at rx
  subst rx
  exact ⟨rfl, q _ _ rp ⟨rfl, fun _ _ => ⟨rfl, rfl⟩⟩ h⟩⟩
theorem pdgs_cons {e : Expr} {es : List Expr} {g : DG} {gs : DGs} {k l : List Nat} (h1 : PDG X C e g k) (h2 : PDGs X C es gs l)
    (hs : (assignEach (e :: es) X.env).map (·.2) = assign e X.env :: (assignEach es X.env).map (·.2) := by rfl) : PDGs X C (e :: es) (dgCons g gs) (k ++ l) := by
  obtain ⟨a, a1, a2⟩ := h1
  obtain ⟨b, b1, b2⟩ := h2
  refine ⟨_, pgs_cons a1 b1 hs, fun xs vs σ H F ρ Q R rp rx h q => ?_⟩
  obtain ⟨x, r, rfl, h⟩ := h
  unfold Rps at rx
  obtain ⟨v, w, rfl, r1, r2⟩ := rx
  refine ⟨v, w, rfl, a2 x v σ H F ρ _ _ rp r1 h fun σ1 ρ1 rp1 f1 h1 => ?_⟩
  refine b2 r w σ1 H F ρ1 _ _ rp1 r2 h1 fun σ2 ρ2 rp2 f2 h2 => q σ2 ρ2 rp2 ⟨f2.1.trans f1.1, fun i hi => ?_⟩ h2
  have n1 : i ∉ k := fun z => hi (List.mem_append_left _ z)
  have n2 : i ∉ l := fun z => hi (List.mem_append_right _ z)
  exact ⟨(f2.2 i n2).1.trans (f1.2 i n1).1, (f2.2 i n2).2.trans (f1.2 i n1).2⟩
def dgTup (n : Nat) (gs : DGs) : DG := fun x ρ R => ∃ xs, x = .tup xs ∧ xs.length = n ∧ gs xs ρ R
theorem pdg_tup {es : List Expr} {k : Nat} {gs : DGs} {ks : List Nat} {pos : Pos} {n : Nat} (hc : X.calm = true) (h : PDGs X C es gs ks)
    (hn : (assignEach es X.env).length = n := by rfl) (hst : (assignEach es X.env).findIdx? (·.1) = none := by rfl) : PDG X C (.Tuple es k pos) (dgTup n gs) ks := by
  obtain ⟨a, a1, a2⟩ := h
  refine ⟨_, pg_tup hc a1 hn hst, fun x v σ H F ρ Q R rp rx h q => ?_⟩
  obtain ⟨xs, rfl, hl, h⟩ := h
  obtain ⟨b, vs, rfl, b1, b2⟩ := rp_tup_inv rx
  exact ⟨b, vs, rfl, SqT.of (rp.sub _ _ b1), b2.len ▸ hl, a2 xs vs σ H F ρ _ _ rp b2 h q⟩
def dAsg (de : DE) (g : DG) : DS := fun E ρ => de ρ fun x ρ1 => g x ρ1 E.nx
theorem sim_asg {K : PySem.W.Frag} {te : TE} {de : DE} {g : TG} {dg : DG} {ks : List Nat} (ha : SimE K C te de) (hg : SimG K C g dg ks) : SimS K C (tAsg te g) (dAsg de dg) := by
  intro σ H F ρ D E rp h c
  refine ha σ H F ρ _ _ rp h fun v H1 F1 x ρ1 rp1 s1 rx hr => ?_
  exact hg x v σ H1 F1 ρ1 _ _ rp1 rx hr fun σ2 ρ2 rp2 _ h2 => c.nx σ2 H1 F1 ρ2 s1.sF rp2 h2
theorem pds_set (k : Nat) {x : Str} {e : Expr} {de : DE} {pos pos' : Pos} (hN : X.N.Nodup) (he : PD X C e de) (hi : X.N[k]? = some x := by rfl) (hx : Loc X.env.scope x := by first | exact Or.inl rfl | exact Or.inr rfl)
    (hs : swapsWith e (some (.Name x pos')) pos.line X.env = pure false := by rfl) (hf : X.fn x = true ∨ X.env.scope.names.lookup x = some .local := by first | exact .inl rfl | exact .inr rfl | assumption) : PDS X C (.Assign [.Name x pos'] e pos) (dAsg de (dgN k)) := by
  obtain ⟨te, a1, a2⟩ := he
  exact ⟨_, ps_set hN hi hx a1 hs hf, sim_asg a2 (simG_name k)⟩
theorem pds_asg {tg e : Expr} {de : DE} {g : DG} {ks : List Nat} {pos : Pos} (he : PD X C e de) (hg : PDG X C tg g ks) (hs : swapsWithSole [tg] e pos.line X.env = pure false := by rfl) (hw : swappedStores [tg] e X.env = pure none := by rfl)
    (h1 : (assignEach [tg] X.env).map (·.2) = [assign tg X.env] := by rfl) : PDS X C (.Assign [tg] e pos) (dAsg de g) := by
  obtain ⟨te, a1, a2⟩ := he
  obtain ⟨g', b1, b2⟩ := hg
  exact ⟨_, ps_asg a1 b1 hs hw h1, sim_asg a2 b2⟩
/-- a, b = e1, e2 -/
def dPar (i j : Nat) (da : DA) : DS := fun E ρ => da ρ fun xs ρ1 => ∃ x y, xs = [x, y] ∧ unp ρ1 i = true ∧ unp (ρ1.set i (.d x)) j = true ∧ E.nx ((ρ1.set i (.d x)).set j (.d y))
theorem pds_par (i j : Nat) {x y : Str} {a b : Expr} {da : DA} {px py pt pos : Pos} {kt k2 pt2} (hc : X.calm = true) (hN : X.N.Nodup) (ha : PDA X C [a, b] da) (hi : X.N[i]? = some x := by rfl) (hj : X.N[j]? = some y := by rfl) (hij : i ≠ j := by decide)
    (hx : X.env.scope.names.lookup x = some .local := by rfl) (hy : X.env.scope.names.lookup y = some .local := by rfl)
    (hw : swappedStores [.Tuple [.Name x px, .Name y py] kt pt] (.Tuple [a, b] k2 pt2) X.env = pure (some [x, y]) := by rfl)
    (hs : swapsWithSole [.Tuple [.Name x px, .Name y py] kt pt] (.Tuple [a, b] k2 pt2) pos.line X.env = pure false := by rfl) :
    PDS X C (.Assign [.Tuple [.Name x px, .Name y py] kt pt] (.Tuple [a, b] k2 pt2) pos) (dPar i j da) := by
  obtain ⟨ta, a1, a2⟩ := ha
  refine ⟨_, ps_par hc hN hi hj hij hx hy a1 hw hs, fun σ H F ρ D E rp h c => ?_⟩
  refine a2 σ H F ρ _ _ rp h fun vs H1 F1 xs ρ1 rp1 s1 rx hr => ?_
  obtain ⟨u, w, rfl, u1, u2, hr⟩ := hr
  obtain ⟨v1, v2, rfl, r1, r2⟩ := rps_two rx
  exact ⟨v1, v2, rfl, c.nx _ _ _ _ s1.sF ((rp1.setD (unp_ok u1) r1).setD (unp_ok u2) r2) hr⟩
/-- a name of a fresh list -/
def dOwn (k : Nat) (dl : DA) : DS := fun E ρ => dl ρ fun xs ρ1 => unp ρ1 k = true ∧ E.nx (ρ1.set k (.own xs))
theorem sim_own {K : PySem.W.Frag} {te : TE} {dl : DA} (k : Nat) (h : SimL K C te dl) : SimS K C (tAsg te (gName k)) (dOwn k dl) := by
  intro σ H F ρ D E rp hd c
  refine h σ H F ρ _ _ rp hd fun p vs H1 F1 xs ρ1 rp1 s1 hp hF h0 hH hn rx hr => ?_
  exact c.nx _ _ _ _ s1.sF (rp1.setO (unp_ok hr.1) hF hH h0 hn rx) hr.2
theorem pds_own (k : Nat) {x : Str} {e : Expr} {dl : DA} {pos pos' : Pos} (hN : X.N.Nodup) (he : PDL X C e dl) (hi : X.N[k]? = some x := by rfl) (hx : Loc X.env.scope x := by first | exact Or.inl rfl | exact Or.inr rfl)
    (hs : swapsWith e (some (.Name x pos')) pos.line X.env = pure false := by rfl) (hf : X.fn x = true ∨ X.env.scope.names.lookup x = some .local := by first | exact .inl rfl | exact .inr rfl | assumption) : PDS X C (.Assign [.Name x pos'] e pos) (dOwn k dl) := by
  obtain ⟨te, a1, a2⟩ := he
  exact ⟨_, ps_set hN hi hx a1 hs hf, sim_own k a2⟩
/-- a fresh list as data -/
def dFz (dl : DA) : DE := fun ρ R => dl ρ fun xs ρ1 => R (.lst xs) ρ1
theorem pd_fz {e : Expr} {dl : DA} (h : PDL X C e dl) : PD X C e (dFz dl) := by
  obtain ⟨te, a1, a2⟩ := h
  refine ⟨_, a1, fun σ H F ρ Q R rp hd q => ?_⟩
  refine a2 σ H F ρ _ _ rp hd fun p vs H1 F1 xs ρ1 rp1 s1 hp hF h0 hH hn rx hr => ?_
  have sF : Same F1 (upd F1 p (.lst vs)) := same_new hF
  refine q _ _ (upd F1 p (.lst vs)) _ _ (rp1.freeze1 hH hF h0 hn) ?_ (rp_lst upd_same (rx.mono sF)) hr
  refine ⟨s1.sF.trans sF, fun b o e1 e2 e3 => ?_, s1.sh, s1.al⟩
  obtain ⟨e4, e5⟩ := s1.lo b o e1 e2 e3
  refine ⟨e4, ?_⟩
  rw [upd_ne (ne_of_none e1 hp)]; exact e5
end
end DL
namespace DL
open PySem PySem.Spec L2
section
variable {X : Cx} {C : Cd}
theorem loose_new {K : PySem.W.Frag} {σ : L2.St} {H F : Hp} {ρ : List S} (rp : Rep K C σ H F ρ) {p : Addr} (hp : H p = none) : NotOwn σ ρ p := fun i s e m z => by
  obtain ⟨q, vs, xs, h1, h2, h3, _⟩ := rp.own i s e m
  rw [z] at h1
  cases h1
  rw [hp] at h3
  cases h3
/-- the end of a rule that makes a list -/
theorem fl_end {K : PySem.W.Frag} {σ : L2.St} {H0 F0 H F : Hp} {ρ0 ρ : List S} (rp : Rep K C σ H F ρ) (s : Step σ H0 F0 ρ0 H F ρ) {p : Addr} (hp : H p = none) (vs : List V) {xs : List D} {Q : VK} (rx : Rps K F xs vs) {R : List D → List S → Prop} (hr : R xs ρ)
    (q : ∀ p vs H' F' xs ρ', Rep K C σ H' F' ρ' → Step σ H0 F0 ρ0 H' F' ρ' → H0 p = none → F' p = none → C.H0 p = none → H' p = some (.lst vs) → NotOwn σ ρ' p → Rps K F' xs vs → R xs ρ' → Q (.ref p) H') : Q (.ref p) (upd H p (.lst vs)) :=
  q p vs _ F xs ρ (rp.grown (same_new hp)) (s.trans (Rep.stepL hp)) (s.al p hp) (rp.newF hp) (rp.new0 hp) upd_same (loose_new rp hp) rx hr
def dlLst (da : DA) : DA := fun ρ R => da ρ fun xs ρ1 => xs.length ≤ 16777216 ∧ R xs ρ1
theorem pdl_lst {es : List Expr} {da : DA} {pos} (h : PDA X C es da) : PDL X C (.List es pos) (dlLst da) := by
  obtain ⟨ta, a1, a2⟩ := h
  refine ⟨_, pe_lst a1, fun σ H F ρ Q R rp hd q => ?_⟩
  refine a2 σ H F ρ _ _ rp hd fun vs H1 F1 xs ρ1 rp1 s1 rx hr => ?_
  exact ⟨line (rx.len ▸ hr.1), fun p hp => fl_end rp1 s1 hp vs rx hr.2 q⟩
/-- list(xs), xs[a:b], xs + ys: by the value's rule -/
def dlList (da : DE) : DA := fun ρ R => da ρ fun x ρ1 => ∃ ys, lstOfR [x] (.lst ys) ∧ R ys ρ1
theorem pdl_list {x : Str} {p pos : Pos} {e : Expr} {da : DE} (hg : Gl X x) (hm : X.mg x = none) (hv : bootBuiltins x = some (.type "list")) (ha : PD X C e da)
    (hn : x ≠ "__name__" := by decide) (hdb : (x == ("__debug__" : Str)) = false := by decide)
    (he : starEach [e] X.env = (false, eval e X.env) :: starEach [] X.env := by rfl) (hpl : (backTo pos (starEach [] X.env)).any (·.1) = false := by rfl) :
    PDL X C (.Call (.Name x p) [e] [] pos) (dlList da) := by
  obtain ⟨te, a1, a2⟩ := ha
  refine ⟨_, pe_callTy call_list_of hg hm hv (pa_cons a1 pa_nil he) hn hdb he hpl, fun σ H F ρ Q R rp hd q => ?_⟩
  refine a2 σ H F ρ _ _ rp hd fun v H1 F1 x ρ1 rp1 s1 rx hr => ?_
  obtain ⟨ys, hy, hr⟩ := hr
  cases x with
  | lst s =>
    obtain ⟨a, vs, rfl, b1, b2⟩ := rp_lst_inv rx
    cases hy
    exact ⟨_, _, rfl, Or.inl (SqL.of (rp1.sub _ _ b1)), fun l hl => fl_end rp1 s1 hl vs b2 hr q⟩
  | tup s =>
    obtain ⟨a, vs, rfl, b1, b2⟩ := rp_tup_inv rx
    cases hy
    exact ⟨_, _, rfl, Or.inr (SqT.of (rp1.sub _ _ b1)), fun l hl => fl_end rp1 s1 hl vs b2 hr q⟩
  | ro ns =>
    obtain ⟨a, rfl, b1⟩ := rp_ro_inv rx
    cases hy
    exact ⟨_, _, rfl, Or.inl (Same.seq rp1.sub b1), fun l hl => fl_end rp1 s1 hl _ (rps_ints _) hr q⟩
  | _ => exact hy.elim
/-- xs + ys of lists -/
def dlCat (da db : DE) : DA := fun ρ R => da ρ fun x ρ1 => db ρ1 fun y ρ2 => ∃ xs ys, x = .lst xs ∧ y = .lst ys ∧ xs.length + ys.length ≤ 16777216 ∧ R (xs ++ ys) ρ2
theorem pdl_cat {a b : Expr} {pos : Pos} {da db : DE} (ha : PD X C a da) (hb : PD X C b db) : PDL X C (.BinOp a .Add b pos) (dlCat da db) := by
  obtain ⟨ta, a1, a2⟩ := ha
  obtain ⟨tb, b1, b2⟩ := hb
  refine ⟨_, pe_op op_cat a1 b1, fun σ H F ρ Q R rp hd q => ?_⟩
  refine a2 σ H F ρ _ _ rp hd fun v H1 F1 x ρ1 rp1 s1 rx hr => ?_
  refine b2 σ H1 F1 ρ1 _ _ rp1 hr fun u H2 F2 y ρ2 rp2 s2 ry hr => ?_
  obtain ⟨xs, ys, rfl, rfl, hl, hr⟩ := hr
  obtain ⟨a, vs, rfl, c1, c2⟩ := rp_lst_inv (rx.mono s2.sF)
  obtain ⟨b, us, rfl, d1, d2⟩ := rp_lst_inv ry
  exact ⟨a, b, vs, us, rfl, rfl, rp2.sub _ _ c1, rp2.sub _ _ d1, line (by rw [← c2.len, ← d2.len]; exact hl), fun p hp => fl_end rp2 (s1.trans s2) hp _ (c2.app d2) hr q⟩
/-- what the slot is behind it -/
def S.with_ (s : S) (xs : List D) : S := match s with
  | .own _ => .own xs
  | .jo _ => .jo xs
  | s => s
/-- the list of slot k, and how to put another in its place -/
def dOpenW (ok : List D → Prop) (k : Nat) (ρ : List S) (q : List D → (List D → List S) → Prop) : Prop := match ρ[k]? with
  | some (.own xs) => q xs fun ys => ρ.set k (.own ys)
  | some (.jo xs) => q xs fun ys => ρ.set k (.jo ys)
  | some .jar => ∀ xs, ok xs → q xs fun ys => ρ.set k (.jo ys)
  | _ => False
theorem openW_ok {K : PySem.W.Frag} {σ : L2.St} {H F : Hp} {ρ : List S} {k : Nat} {q : List D → (List D → List S) → Prop} (rp : Rep K C σ H F ρ) (h : dOpenW C.ok k ρ q) :
    ∃ p vs xs put, σ[k]? = some (some (.ref p)) ∧ H p = some (.lst vs) ∧ Rps K F xs vs ∧ q xs put ∧ (∀ ys us, Rps K F ys us → Rep K C σ (upd H p (.lst us)) F (put ys) ∧ Step σ H F ρ (upd H p (.lst us)) F (put ys)) := by
  unfold dOpenW at h
  split at h
  · rename_i xs e
    obtain ⟨p, vs, zs, a1, a2, a3, a4, a5, _⟩ := rp.own k _ e rfl
    cases a5
    exact ⟨p, vs, xs, _, a1, a3, a4, h, fun ys us r => ⟨rp.write (s' := .own ys) e rfl rfl rfl a1 r rfl, Rep.stepW e rfl a1⟩⟩
  · rename_i xs e
    obtain ⟨p, vs, zs, a1, a2, a3, a4, a5, _⟩ := rp.own k _ e rfl
    cases a5
    exact ⟨p, vs, xs, _, a1, a3, a4, h, fun ys us r => ⟨rp.write (s' := .jo ys) e rfl rfl rfl a1 r rfl, Rep.stepW e rfl a1⟩⟩
  · rename_i e
    obtain ⟨p, vs, zs, a1, a2, a3, a4, a5, _⟩ := rp.own k _ e rfl
    exact ⟨p, vs, zs, _, a1, a3, a4, h zs a5, fun ys us r => ⟨rp.write (s' := .jo ys) e rfl rfl rfl a1 r rfl, Rep.stepW e rfl a1⟩⟩
  · exact h.elim
/-- xs[i] = e, xs a name -/
def dSetI (ok : List D → Prop) (k : Nat) (de di : DE) : DS := fun E ρ => de ρ fun x ρ1 => mtS ρ1 k = true ∧ di ρ1 fun i ρ2 => dOpenW ok k ρ2 fun xs put => ∃ n j, i = .int n ∧ ixN xs.length n = some j ∧ E.nx (put (xs.set j x))
theorem pds_seti (k : Nat) {x : Str} {e i : Expr} {de di : DE} {p pos pos' : Pos} (he : PD X C e de) (hi : PD X C i di) (hN : X.N[k]? = some x := by rfl) (hv : Vis X.env.scope x := by first | exact Or.inl rfl | exact Or.inr (Or.inl rfl) | exact Or.inr (Or.inr rfl))
    (hd : (x == ("__debug__" : Str)) = false := by decide) (hcd : (x == ("__classdict__" : Str)) = false := by decide)
    (ha : ∀ v, assign (.Subscript (.Name x p) i pos') X.env v = (do
      let ov ← holding [v] (eval (.Name x p) X.env)
      let iv ← holding [v, ov] (eval i X.env)
      standAt pos'
      holding [v, ov, iv] (setItem ov iv v)
      release [v, ov, iv] []) := by intro _; rfl)
    (hs : swapsWithSole [.Subscript (.Name x p) i pos'] e pos.line X.env = pure false := by rfl) (hw : swappedStores [.Subscript (.Name x p) i pos'] e X.env = pure none := by rfl)
    (h1 : (assignEach [.Subscript (.Name x p) i pos'] X.env).map (·.2) = [assign (.Subscript (.Name x p) i pos') X.env] := by rfl) : PDS X C (.Assign [.Subscript (.Name x p) i pos'] e pos) (dSetI C.ok k de di) := by
  obtain ⟨te, a1, a2⟩ := he
  obtain ⟨ti, b1, b2⟩ := hi
  refine ⟨_, ps_asg a1 (pg_sub (pe_var hN hv hd hcd) b1 set_list ha) hs hw h1, fun σ H F ρ D E rp h c => ?_⟩
  refine a2 σ H F ρ _ _ rp h fun v H1 F1 y ρ1 rp1 s1 ry hr => ?_
  obtain ⟨hm, hr⟩ := hr
  obtain ⟨s, e1, e2⟩ := mtS_ok hm
  obtain ⟨q, _, _, c1, _⟩ := rp1.own k s e1 e2
  refine ⟨_, c1, b2 σ H1 F1 ρ1 _ _ rp1 hr fun u H2 F2 z ρ2 rp2 s2 rz hr2 => ?_⟩
  obtain ⟨q', vs, xs, put, d1, d2, d3, ⟨n, j, rfl, h3, h4⟩, d5⟩ := openW_ok rp2 hr2
  rw [c1] at d1
  cases d1
  cases rp_int_inv rz
  obtain ⟨r1, r2⟩ := d5 _ _ (d3.set (ry.mono s2.sF) j)
  refine ⟨q, vs, n, j, rfl, rfl, d2, by rw [← d3.len]; exact h3, ?_⟩
  exact c.nx _ _ _ _ (s1.trans (s2.trans r2)).sF r1 h4
/-- o[i], by values, of a list, i at least 0 -/
def rIx0 (K : PySem.W.Frag) : V → V → Hp → VK → Prop := fun x y H Q => ∃ p xs i v, x = .ref p ∧ y = .int i ∧ 0 ≤ i ∧ SqL K H p xs ∧ xs[i.toNat]? = some v ∧ Q v H
theorem get_list0 : PGet X (rIx0 X.K) := by
  intro pins s σ H o i ov iv Q I ro ri h
  obtain ⟨p, xs, k, v, rfl, rfl, h0, hL, hv, q⟩ := h
  cases ro
  obtain ⟨t, rfl⟩ := ri
  obtain ⟨its, r, hl, hz⟩ := I.list hL
  obtain ⟨u, hu, ru⟩ := r.get hv
  have hk : k.toNat < xs.length := (List.getElem?_eq_some_iff.mp hv).1
  have hn := line63
  exact wpAny_getItem_list hl.isList h0 (by omega) (by simpa using hu) ⟨v, H, I, ru, q⟩
/-- the in-place operators of ints -/
def dIp (f : Int → Int → Int) (x y z : D) : Prop := ∃ i j, x = .int i ∧ y = .int j ∧ z = .int (f i j)
/-- xs[i] op= e -/
def dAugI (ok : List D → Prop) (f : Int → Int → Int) (k : Nat) (di de : DE) : DS := fun E ρ => mtS ρ k = true ∧ di ρ fun i ρ1 => dOpen ok k ρ1 fun xs ρ2 => ∃ n a, i = .int n ∧ 0 ≤ n ∧ xs[n.toNat]? = some (.int a) ∧
  de ρ2 fun y ρ3 => ∃ b, y = .int b ∧ dOpenW ok k ρ3 fun xs put => n.toNat < xs.length ∧ E.nx (put (xs.set n.toNat (.int (f a b))))
theorem pds_augi (k : Nat) {x : Str} {e i : Expr} {de di : DE} {p pos pos' : Pos} {op : Operator} {f : Int → Int → Int} (hp : PIp X op (ipI f)) (hi : PD X C i di) (he : PD X C e de) (hN : X.N[k]? = some x := by rfl) (hv : Vis X.env.scope x := by first | exact Or.inl rfl | exact Or.inr (Or.inl rfl) | exact Or.inr (Or.inr rfl))
    (hd : (x == ("__debug__" : Str)) = false := by decide) (hcd : (x == ("__classdict__" : Str)) = false := by decide)
    (ha : ∀ ov iv new, augStore i ov iv new = (do holding [new, ov, iv] (setItem ov iv new); release [new, ov, iv] []; pure .next) := by intros; rfl) : PDS X C (.AugAssign (.Subscript (.Name x p) i pos') op e pos) (dAugI C.ok f k di de) := by
  obtain ⟨te, a1, a2⟩ := he
  obtain ⟨ti, b1, b2⟩ := hi
  refine ⟨_, ps_augS (pe_var hN hv hd hcd) b1 get_list0 a1 hp set_list ha, fun σ H F ρ D E rp h c => ?_⟩
  obtain ⟨hm, h⟩ := h
  obtain ⟨s, e1, e2⟩ := mtS_ok hm
  obtain ⟨q, _, _, c1, _⟩ := rp.own k s e1 e2
  refine ⟨_, c1, b2 σ H F ρ _ _ rp h fun u H2 F2 z ρ2 rp2 s2 rz hr2 => ?_⟩
  obtain ⟨q', vs, xs, ρ3, d1, d2, d3, d4, d5, n, a, rfl, h0, h3, h4⟩ := open_ok rp2 hr2
  rw [c1] at d1
  cases d1
  cases rp_int_inv rz
  obtain ⟨w, h5, h6⟩ := d3.get h3
  cases rp_int_inv h6
  refine ⟨q, vs, n, _, rfl, rfl, h0, SqL.of d2, h5, ?_⟩
  refine a2 σ H2 F2 ρ3 _ _ d4 h4 fun v H3 F3 y ρ4 rp4 s4 ry hr4 => ?_
  obtain ⟨b, rfl, hr4⟩ := hr4
  cases rp_int_inv ry
  refine ⟨a, b, rfl, rfl, ?_⟩
  obtain ⟨q'', us, ys, put, f1, f2, f3, ⟨f4, f4'⟩, f5⟩ := openW_ok rp4 hr4
  rw [c1] at f1
  cases f1
  obtain ⟨r1, r2⟩ := f5 _ _ (f3.set (rp_int (i := f a b)) n.toNat)
  refine ⟨q, us, n, n.toNat, rfl, rfl, f2, ?_, c.nx _ _ _ _ ((s2.trans d5).trans (s4.trans r2)).sF r1 f4'⟩
  unfold ixN
  rw [if_pos h0, if_pos (by rw [← f3.len]; omega)]
/-- name op= e -/
def dAug (f : Int → Int → Int) (k : Nat) (de : DE) : DS := fun E ρ => ∃ a, ρ[k]? = some (.d (.int a)) ∧ de ρ fun y ρ1 => ∃ b, y = .int b ∧ unp ρ1 k = true ∧ E.nx (ρ1.set k (.d (.int (f a b))))
theorem pds_aug (k : Nat) {x : Str} {e : Expr} {op : Operator} {f : Int → Int → Int} {de : DE} {pos pos' : Pos} (hN : X.N.Nodup) (ho : PIp X op (ipI f)) (he : PD X C e de) (hi : X.N[k]? = some x := by rfl) (hx : Loc X.env.scope x := by first | exact Or.inl rfl | exact Or.inr rfl) (hf : X.fn x = true ∨ X.env.scope.names.lookup x = some .local := by first | exact .inl rfl | exact .inr rfl | assumption) :
    PDS X C (.AugAssign (.Name x pos') op e pos) (dAug f k de) := by
  obtain ⟨te, a1, a2⟩ := he
  refine ⟨_, ps_aug hN hi hx a1 ho hf, fun σ H F ρ D E rp h c => ?_⟩
  obtain ⟨a, e1, h⟩ := h
  obtain ⟨v, h1, h2⟩ := rp.dat k _ e1
  cases rp_int_inv h2
  refine ⟨_, h1, a2 σ H F ρ _ _ rp h fun u H1 F1 y ρ1 rp1 s1 ry hr => ?_⟩
  obtain ⟨b, rfl, hu, hr⟩ := hr
  cases rp_int_inv ry
  exact ⟨a, b, rfl, rfl, c.nx _ _ _ _ s1.sF (rp1.setD (unp_ok hu) rp_int) hr⟩
theorem tyv_lst {K : PySem.W.Frag} {p : Addr} {H : Hp} {xs : List V} (h : H p = some (.lst xs)) : tyV K "list" (.ref p) H := Or.inl ⟨rfl, xs, SqL.of h⟩
/-- xs.append(e) -/
def dApp (ok : List D → Prop) (k : Nat) (de : DE) : DS := fun E ρ => mtS ρ k = true ∧ de ρ fun x ρ1 => dOpenW ok k ρ1 fun xs put => xs.length < 16777216 ∧ E.nx (put (xs ++ [x]))
theorem pds_app (k : Nat) {x : Str} {e : Expr} {de : DE} {p apos cpos pos : Pos} (he : PD X C e de) (hN : X.N[k]? = some x := by rfl) (hv : Vis X.env.scope x := by first | exact Or.inl rfl | exact Or.inr (Or.inl rfl) | exact Or.inr (Or.inr rfl))
    (hd : (x == ("__debug__" : Str)) = false := by decide) (hcd : (x == ("__classdict__" : Str)) = false := by decide)
    (hs : swapsWith (.Call (.Attribute (.Name x p) "append" apos) [e] [] cpos) none pos.line X.env = pure false := by rfl)
    (hbase : attributeBase (.Name x p) "append" X.env (eval (.Name x p) X.env) = eval (.Name x p) X.env := by rfl)
    (hfew : ((backTo cpos (starEach [e] X.env)).all (fun x => !x.1) && (backToKw cpos (keywordEach [] X.env)).all (fun x => x.1.isSome)
      && decide ([e].length + ([] : List Keyword).length + (if ([] : List Keyword).isEmpty then 0 else 1) < 30)) = true := by rfl)
    (hline : (apos.endLine == cpos.line) = true := by rfl) (hst : starEach [e] X.env = (false, eval e X.env) :: starEach [] X.env := by rfl) (hplain : (backTo cpos (starEach [] X.env)).any (·.1) = false := by rfl) :
    PDS X C (.Expr (.Call (.Attribute (.Name x p) "append" apos) [e] [] cpos) pos) (dApp C.ok k de) := by
  obtain ⟨te, a1, a2⟩ := he
  refine ⟨_, ps_expr (pe_bm PySem.F.plainAttrs_list PySem.F.slot_list_append PySem.F.type_list_append mt_append (pe_var hN hv hd hcd) (pa_cons a1 pa_nil hst) hbase hfew hline hst hplain) hs, fun σ H F ρ D E rp h c => ?_⟩
  obtain ⟨hm, h⟩ := h
  obtain ⟨s, e1, e2⟩ := mtS_ok hm
  obtain ⟨q, ws, _, c1, _, c3, _⟩ := rp.own k s e1 e2
  refine ⟨_, c1, tyv_lst c3, a2 σ H F ρ _ _ rp h fun v H1 F1 y ρ1 rp1 s1 ry hr => ?_⟩
  obtain ⟨q', vs, xs, put, d1, d2, d3, ⟨d4, d4'⟩, d5⟩ := openW_ok rp1 hr
  rw [c1] at d1
  cases d1
  obtain ⟨r1, r2⟩ := d5 _ _ (d3.app (rps_cons ry rps_nil))
  exact ⟨q, vs, v, rfl, rfl, d2, line1 (by rw [← d3.len]; exact d4), c.nx _ _ _ _ (s1.trans r2).sF r1 d4'⟩
/-- xs.extend(ys), ys a list -/
def dExt (ok : List D → Prop) (k : Nat) (de : DE) : DS := fun E ρ => mtS ρ k = true ∧ de ρ fun x ρ1 => ∃ ys, x = .lst ys ∧ dOpenW ok k ρ1 fun xs put => xs.length + ys.length ≤ 16777216 ∧ E.nx (put (xs ++ ys))
theorem pds_ext (k : Nat) {x : Str} {e : Expr} {de : DE} {p apos cpos pos : Pos} (he : PD X C e de) (hN : X.N[k]? = some x := by rfl) (hv : Vis X.env.scope x := by first | exact Or.inl rfl | exact Or.inr (Or.inl rfl) | exact Or.inr (Or.inr rfl))
    (hd : (x == ("__debug__" : Str)) = false := by decide) (hcd : (x == ("__classdict__" : Str)) = false := by decide)
    (hs : swapsWith (.Call (.Attribute (.Name x p) "extend" apos) [e] [] cpos) none pos.line X.env = pure false := by rfl)
    (hbase : attributeBase (.Name x p) "extend" X.env (eval (.Name x p) X.env) = eval (.Name x p) X.env := by rfl)
    (hfew : ((backTo cpos (starEach [e] X.env)).all (fun x => !x.1) && (backToKw cpos (keywordEach [] X.env)).all (fun x => x.1.isSome)
      && decide ([e].length + ([] : List Keyword).length + (if ([] : List Keyword).isEmpty then 0 else 1) < 30)) = true := by rfl)
    (hline : (apos.endLine == cpos.line) = true := by rfl) (hst : starEach [e] X.env = (false, eval e X.env) :: starEach [] X.env := by rfl) (hplain : (backTo cpos (starEach [] X.env)).any (·.1) = false := by rfl) :
    PDS X C (.Expr (.Call (.Attribute (.Name x p) "extend" apos) [e] [] cpos) pos) (dExt C.ok k de) := by
  obtain ⟨te, a1, a2⟩ := he
  refine ⟨_, ps_expr (pe_bm PySem.F.plainAttrs_list PySem.F.slot_list_extend PySem.F.type_list_extend mt_extend (pe_var hN hv hd hcd) (pa_cons a1 pa_nil hst) hbase hfew hline hst hplain) hs, fun σ H F ρ D E rp h c => ?_⟩
  obtain ⟨hm, h⟩ := h
  obtain ⟨s, e1, e2⟩ := mtS_ok hm
  obtain ⟨q, ws, _, c1, _, c3, _⟩ := rp.own k s e1 e2
  refine ⟨_, c1, tyv_lst c3, a2 σ H F ρ _ _ rp h fun v H1 F1 y ρ1 rp1 s1 ry hr => ?_⟩
  obtain ⟨ys, rfl, hr⟩ := hr
  obtain ⟨b, us, rfl, b1, b2⟩ := rp_lst_inv ry
  obtain ⟨q', vs, xs, put, d1, d2, d3, ⟨d4, d4'⟩, d5⟩ := openW_ok rp1 hr
  rw [c1] at d1
  cases d1
  obtain ⟨r1, r2⟩ := d5 _ _ (d3.app b2)
  exact ⟨q, b, vs, us, rfl, rfl, d2, rp1.sub _ _ b1, line (by rw [← d3.len, ← b2.len]; exact d4), c.nx _ _ _ _ (s1.trans r2).sF r1 d4'⟩
/-- xs.pop() -/
def dPop (ok : List D → Prop) (k : Nat) : DE := fun ρ R => mtS ρ k = true ∧ dOpenW ok k ρ fun xs put => ∃ z, xs[xs.length - 1]? = some z ∧ R z (put xs.dropLast)
theorem pd_pop (k : Nat) {x : Str} {p apos cpos : Pos} (hN : X.N[k]? = some x := by rfl) (hv : Vis X.env.scope x := by first | exact Or.inl rfl | exact Or.inr (Or.inl rfl) | exact Or.inr (Or.inr rfl))
    (hd : (x == ("__debug__" : Str)) = false := by decide) (hcd : (x == ("__classdict__" : Str)) = false := by decide)
    (hbase : attributeBase (.Name x p) "pop" X.env (eval (.Name x p) X.env) = eval (.Name x p) X.env := by rfl) (hline : (apos.endLine == cpos.line) = true := by rfl) :
    PD X C (.Call (.Attribute (.Name x p) "pop" apos) [] [] cpos) (dPop C.ok k) := by
  refine ⟨_, pe_bm0 PySem.F.plainAttrs_list PySem.F.slot_list_pop PySem.F.type_list_pop mt_pop (pe_var hN hv hd hcd) hbase hline, fun σ H F ρ Q R rp h q => ?_⟩
  obtain ⟨hm, h⟩ := h
  obtain ⟨s, e1, e2⟩ := mtS_ok hm
  obtain ⟨a, ws, _, c1, _, c3, _⟩ := rp.own k s e1 e2
  refine ⟨_, c1, tyv_lst c3, ?_⟩
  obtain ⟨q', vs, xs, put, d1, d2, d3, ⟨z, d4, d4'⟩, d5⟩ := openW_ok rp h
  rw [c1] at d1
  cases d1
  obtain ⟨w, g1, g2⟩ := d3.get d4
  obtain ⟨r1, r2⟩ := d5 _ _ d3.dropLast
  refine ⟨a, vs, w, rfl, rfl, d2, by rw [← d3.len]; exact g1, ?_⟩
  exact q _ _ _ _ _ r1 r2 g2 d4'
/-- len(xs), not xs, xs[..] of a list that may change: looked at, not frozen -/
def dLenN (ok : List D → Prop) (k : Nat) : DE := fun ρ R => dOpen ok k ρ fun xs ρ1 => R (.int xs.length) ρ1
theorem pd_lenN (k : Nat) {x f : Str} {p p2 pos : Pos} (hN : X.N[k]? = some x := by rfl) (hg : Gl X f) (hm : X.mg f = none) (hb : bootBuiltins f = some (.builtin "len")) (hv : Vis X.env.scope x := by first | exact Or.inl rfl | exact Or.inr (Or.inl rfl) | exact Or.inr (Or.inr rfl))
    (hd : (x == ("__debug__" : Str)) = false := by decide) (hcd : (x == ("__classdict__" : Str)) = false := by decide) (hn : f ≠ "__name__" := by decide) (hdb : (f == ("__debug__" : Str)) = false := by decide)
    (he : starEach [.Name x p2] X.env = (false, eval (.Name x p2) X.env) :: starEach [] X.env := by rfl) (hpl : (backTo pos (starEach [] X.env)).any (·.1) = false := by rfl) :
    PD X C (.Call (.Name f p) [.Name x p2] [] pos) (dLenN C.ok k) := by
  refine ⟨_, pe_callB call_len_seq hg hm hb (pa_cons (pe_var hN hv hd hcd) pa_nil he) hn hdb he hpl, fun σ H F ρ Q R rp h q => ?_⟩
  obtain ⟨a, vs, xs, ρ1, c1, c2, c3, c4, c5, hr⟩ := open_ok rp h
  refine ⟨_, c1, a, vs, rfl, Or.inl (SqL.of c2), ?_⟩
  rw [← c3.len]
  exact q _ _ _ _ _ c4 c5 rp_int hr
/-- xs as a test, a list that may change -/
def dTruN (ok : List D → Prop) (k : Nat) : DT := fun ρ R => dOpen ok k ρ fun xs ρ1 => R (!xs.isEmpty) ρ1
theorem pdt_truN (k : Nat) {x : Str} {p : Pos} (hN : X.N[k]? = some x := by rfl) (hv : Vis X.env.scope x := by first | exact Or.inl rfl | exact Or.inr (Or.inl rfl) | exact Or.inr (Or.inr rfl))
    (hd : (x == ("__debug__" : Str)) = false := by decide) (hcd : (x == ("__classdict__" : Str)) = false := by decide)
    (he : ∀ whole, isTrue (.Name x p) X.env whole = (do let v ← whole; standAt (Expr.Name x p).pos; holding [v] (truthy v)) := by intro _; rfl) : PDT X C (.Name x p) (dTruN C.ok k) := by
  refine ⟨_, pt_truth (pe_var hN hv hd hcd) he, fun σ H F ρ Q R rp h q => ?_⟩
  obtain ⟨a, vs, xs, ρ1, c1, c2, c3, c4, c5, hr⟩ := open_ok rp h
  refine ⟨_, c1, !xs.isEmpty, Or.inl ⟨vs, SqL.of c2, by rw [rps_empty c3]⟩, q _ _ _ _ c4 c5 hr⟩
end
end DL
namespace DL
open PySem PySem.Spec L2
/-- what is walked yields these data, one by one, whatever the turns do meanwhile -/
structure ItOk (K : PySem.W.Frag) (C : Cd) (J : It) (F : Hp) (xs : List D) : Prop where
  go : ∀ (i : Nat) σ H F' ρ, i < xs.length → Rep K C σ H F' ρ → Same F F' → J.go i H
  stop : ∀ (i : Nat) σ H F' ρ, xs.length ≤ i → Rep K C σ H F' ρ → Same F F' → J.stop i H
  yld : ∀ (i : Nat) x σ H F' ρ v H2, xs[i]? = some x → Rep K C σ H F' ρ → Same F F' → J.yld i H v H2 → ∃ F2, Rep K C σ H2 F2 ρ ∧ Step σ H F' ρ H2 F2 ρ ∧ Rp K F2 x v
def SimI (K : PySem.W.Frag) (C : Cd) (ti : TI) (di : DA) : Prop := ∀ (σ : L2.St) (H F : Hp) (ρ : List S) (Q : It → Hp → Prop) (R : List D → List S → Prop), Rep K C σ H F ρ → di ρ R →
  (∀ J H' F' xs ρ', Rep K C σ H' F' ρ' → Step σ H F ρ H' F' ρ' → ItOk K C J F' xs → R xs ρ' → Q J H') → ti σ H Q
structure PDI (X : Cx) (C : Cd) (tg iter : Expr) (di : DA) : Prop where
  ex : ∃ ti, PI X tg iter ti ∧ SimI X.K C ti di
section
variable {X : Cx} {C : Cd}
theorem itok_list {K : PySem.W.Frag} {F : Hp} {a : Addr} {vs : List V} {xs : List D} (h : F a = some (.lst vs)) (hx : Rps K F xs vs) (inj : ∀ σ H F' ρ ys, Rep K C σ H F' ρ → Same F F' → SqL K H a ys → ys = vs) : ItOk K C (Itl K a) F xs :=
  ⟨fun i σ H F' ρ hi rp s => by
    obtain ⟨v, h1, _⟩ := hx.get (List.getElem?_eq_getElem hi)
    exact ⟨vs, v, SqL.of (rp.sub _ _ (s _ _ h)), h1⟩,
   fun i σ H F' ρ hi rp s => ⟨vs, SqL.of (rp.sub _ _ (s _ _ h)), by rw [← hx.len]; exact hi⟩,
   fun i x σ H F' ρ v H2 e rp s hy => by
    obtain ⟨rfl, hy⟩ := hy
    obtain ⟨w, h1, h2⟩ := hx.get e
    have := hy vs (SqL.of (rp.sub _ _ (s _ _ h)))
    rw [h1] at this
    cases this
    exact ⟨F', rp, Step.refl, h2.mono s⟩⟩
theorem itok_tup {K : PySem.W.Frag} {F : Hp} {a : Addr} {vs : List V} {xs : List D} (h : F a = some (.tup vs)) (hx : Rps K F xs vs) : ItOk K C (Itt K a) F xs :=
  ⟨fun i σ H F' ρ hi rp s => by
    obtain ⟨v, h1, _⟩ := hx.get (List.getElem?_eq_getElem hi)
    exact ⟨vs, v, SqT.of (rp.sub _ _ (s _ _ h)), h1⟩,
   fun i σ H F' ρ hi rp s => ⟨vs, SqT.of (rp.sub _ _ (s _ _ h)), by rw [← hx.len]; exact hi⟩,
   fun i x σ H F' ρ v H2 e rp s hy => by
    obtain ⟨rfl, hy⟩ := hy
    obtain ⟨w, h1, h2⟩ := hx.get e
    have := hy vs (SqT.of (rp.sub _ _ (s _ _ h)))
    rw [h1] at this
    cases this
    exact ⟨F', rp, Step.refl, h2.mono s⟩⟩
theorem itok_ro {K : PySem.W.Frag} {F : Hp} {a : Addr} {ns : List Int} (h : SqL K F a (ns.map V.int)) : ItOk K C (Itl K a) F (ns.map D.int) :=
  ⟨fun i σ H F' ρ hi rp s => by
    rw [List.length_map] at hi
    exact ⟨_, .int ns[i], Same.seq rp.sub (Same.seq s h), by rw [List.getElem?_map, List.getElem?_eq_getElem hi]; rfl⟩,
   fun i σ H F' ρ hi rp s => ⟨_, Same.seq rp.sub (Same.seq s h), by rw [List.length_map] at hi ⊢; exact hi⟩,
   fun i x σ H F' ρ v H2 e rp s hy => by
    obtain ⟨rfl, hy⟩ := hy
    have := hy _ (Same.seq rp.sub (Same.seq s h))
    rw [List.getElem?_map] at e this
    cases en : ns[i]? with
    | none => rw [en] at e; cases e
    | some n =>
      rw [en] at e this
      cases e; cases this
      exact ⟨F', rp, Step.refl, rp_int⟩⟩
/-- a text, sign by sign -/
theorem itok_str {K : PySem.W.Frag} {F : Hp} {s : List Nat} : ItOk K C (Its ⟨s.toArray⟩) F (s.map fun c => D.str [c]) :=
  ⟨fun i σ H F' ρ hi rp _ => by
    rw [List.length_map] at hi
    show i < (s.toArray).size
    simpa using hi,
   fun i σ H F' ρ hi rp _ => by
    rw [List.length_map] at hi
    show (s.toArray).size ≤ i
    simpa using hi,
   fun i x σ H F' ρ v H2 e rp _ hy => by
    obtain ⟨rfl, c, h1, rfl⟩ := hy
    have h2 : s[i]? = some c := by simpa using h1
    rw [List.getElem?_map, h2] at e
    cases e
    exact ⟨F', rp, Step.refl, rp_str⟩⟩
/-- lo, lo + 1, .. -/
def rgD (lo : Int) (n : Nat) : List D := (List.range n).map fun i => D.int (lo + (i : Nat))
theorem itok_rng {K : PySem.W.Frag} {F : Hp} {lo : Int} {n : Nat} : ItOk K C (Itr lo n) F (rgD lo n) :=
  ⟨fun i σ H F' ρ hi rp _ => by
    unfold rgD at hi
    rw [List.length_map, List.length_range] at hi
    exact hi,
   fun i σ H F' ρ hi rp _ => by
    unfold rgD at hi
    rw [List.length_map, List.length_range] at hi
    exact hi,
   fun i x σ H F' ρ v H2 e rp _ hy => by
    obtain ⟨rfl, rfl⟩ := hy
    unfold rgD at e
    rw [List.getElem?_map] at e
    cases e2 : (List.range n)[i]? with
    | none => rw [e2] at e; cases e
    | some j =>
      rw [e2] at e
      have : j = i := by
        obtain ⟨h1, h2⟩ := List.getElem?_eq_some_iff.mp e2
        rw [List.getElem_range] at h2
        exact h2.symm
      subst this
      cases e
      exact ⟨F', rp, Step.refl, rp_int⟩⟩
/-- the items of a list, a tuple, a text, the script -/
def itemsOf : D → Option (List D)
  | .lst xs => some xs
  | .tup xs => some xs
  | .ro ns => some (ns.map D.int)
  | .str s => some (s.map fun c => D.str [c])
  | _ => none
def diSeq (de : DE) (k : D → Bool) : DA := fun ρ R => de ρ fun x ρ1 => k x = true ∧ ∃ xs, itemsOf x = some xs ∧ R xs ρ1
def isL : D → Bool | .lst _ => true | .ro _ => true | _ => false
def isT : D → Bool | .tup _ => true | _ => false
def isS : D → Bool | .str _ => true | _ => false
theorem pdi_list {tg e : Expr} {de : DE} (h : PD X C e de) : PDI X C tg e (diSeq de isL) := by
  obtain ⟨te, a1, a2⟩ := h
  refine ⟨_, pi_list a1, fun σ H F ρ Q R rp hd q => ?_⟩
  refine a2 σ H F ρ _ _ rp hd fun v H1 F1 x ρ1 rp1 s1 rx hr => ?_
  obtain ⟨hk, xs, hx, hr⟩ := hr
  cases x with
  | lst ys =>
    cases hx
    obtain ⟨a, vs, rfl, b1, b2⟩ := rp_lst_inv rx
    refine ⟨a, rfl, ⟨vs, SqL.of (rp1.sub _ _ b1)⟩, q _ _ _ _ _ rp1 s1 ?_ hr⟩
    refine ⟨fun i σ H F' ρ hi rp s => ?_, fun i σ H F' ρ hi rp s => ⟨vs, SqL.of (rp.sub _ _ (s _ _ b1)), by rw [← b2.len]; exact hi⟩, fun i x σ H F' ρ v H2 e rp s hy => ?_⟩
    · obtain ⟨v, h1, _⟩ := b2.get (List.getElem?_eq_getElem hi)
      exact ⟨vs, v, SqL.of (rp.sub _ _ (s _ _ b1)), h1⟩
    · obtain ⟨rfl, hy⟩ := hy
      obtain ⟨w, h1, h2⟩ := b2.get e
      have := hy vs (SqL.of (rp.sub _ _ (s _ _ b1)))
      rw [h1] at this
      cases this
      exact ⟨F', rp, Step.refl, h2.mono s⟩
  | ro ns =>
    cases hx
    obtain ⟨a, rfl, b1⟩ := rp_ro_inv rx
    exact ⟨a, rfl, ⟨_, Same.seq rp1.sub b1⟩, q _ _ _ _ _ rp1 s1 (itok_ro b1) hr⟩
  | _ => cases hk
theorem pdi_tup {tg e : Expr} {de : DE} (h : PD X C e de) : PDI X C tg e (diSeq de isT) := by
  obtain ⟨te, a1, a2⟩ := h
  refine ⟨_, pi_tup a1, fun σ H F ρ Q R rp hd q => ?_⟩
  refine a2 σ H F ρ _ _ rp hd fun v H1 F1 x ρ1 rp1 s1 rx hr => ?_
  obtain ⟨hk, xs, hx, hr⟩ := hr
  cases x with
  | tup ys =>
    cases hx
    obtain ⟨a, vs, rfl, b1, b2⟩ := rp_tup_inv rx
    exact ⟨a, rfl, ⟨vs, SqT.of (rp1.sub _ _ b1)⟩, q _ _ _ _ _ rp1 s1 (itok_tup b1 b2) hr⟩
  | _ => cases hk
theorem pdi_str {tg e : Expr} {de : DE} (h : PD X C e de) : PDI X C tg e (diSeq de isS) := by
  obtain ⟨te, a1, a2⟩ := h
  refine ⟨_, pi_str a1, fun σ H F ρ Q R rp hd q => ?_⟩
  refine a2 σ H F ρ _ _ rp hd fun v H1 F1 x ρ1 rp1 s1 rx hr => ?_
  obtain ⟨hk, xs, hx, hr⟩ := hr
  cases x with
  | str s =>
    cases hx
    cases rp_str_inv rx
    exact ⟨_, rfl, q _ _ _ _ _ rp1 s1 itok_str hr⟩
  | _ => cases hk
def diR1 (de : DE) : DA := fun ρ R => de ρ fun x ρ1 => ∃ n, x = .int n ∧ n ≤ 16777216 ∧ -16777216 ≤ n ∧ R (rgD 0 n.toNat) ρ1
theorem pdi_rng1 {tg a : Expr} {p pos : Pos} {de : DE} (hg : Gl X "range") (hm : X.mg "range" = none) (h : PD X C a de) (hs : starEach [a] X.env = [(false, eval a X.env)] := by rfl) : PDI X C tg (.Call (.Name "range" p) [a] [] pos) (diR1 de) := by
  obtain ⟨te, a1, a2⟩ := h
  refine ⟨_, pi_range1 hg hm (pa_cons a1 pa_nil hs) hs, fun σ H F ρ Q R rp hd q => ?_⟩
  refine a2 σ H F ρ _ _ rp hd fun v H1 F1 x ρ1 rp1 s1 rx hr => ?_
  obtain ⟨n, rfl, h1, h2, hr⟩ := hr
  cases rp_int_inv rx
  exact ⟨n, rfl, by omega, by omega, q _ _ _ _ _ rp1 s1 itok_rng hr⟩
def diR2 (da : DA) : DA := fun ρ R => da ρ fun xs ρ1 => ∃ m n, xs = [.int m, .int n] ∧ (n ≤ 16777216 ∧ -16777216 ≤ n ∧ m ≤ 16777216 ∧ -16777216 ≤ m) ∧ R (rgD m (n - m).toNat) ρ1
theorem pdi_rng2 {tg a b : Expr} {p pos : Pos} {da : DA} (hg : Gl X "range") (hm : X.mg "range" = none) (ha : PDA X C [a, b] da) (hs : starEach [a, b] X.env = [(false, eval a X.env), (false, eval b X.env)] := by rfl) (hs2 : starEach [b] X.env = [(false, eval b X.env)] := by rfl) :
    PDI X C tg (.Call (.Name "range" p) [a, b] [] pos) (diR2 da) := by
  obtain ⟨te, a1, a2⟩ := ha
  refine ⟨_, pi_range2 hg hm a1 hs hs2, fun σ H F ρ Q R rp hd q => ?_⟩
  refine a2 σ H F ρ _ _ rp hd fun vs H1 F1 xs ρ1 rp1 s1 rx hr => ?_
  obtain ⟨m, n, rfl, h1, hr⟩ := hr
  obtain ⟨v, u, rfl, r1, r2⟩ := rps_two rx
  cases rp_int_inv r1
  cases rp_int_inv r2
  exact ⟨m, n, rfl, ⟨by omega, by omega, by omega, by omega⟩, q _ _ _ _ _ rp1 s1 itok_rng hr⟩
def dLoop (g : DG) (s : DS) (E : DEn) : List D → List S → Prop
  | [], ρ => E.nx ρ
  | x :: xs, ρ => g x ρ fun ρ1 => s { nx := dLoop g s E xs, rt := E.rt, bk := E.nx, ct := dLoop g s E xs, ro := E.ro } ρ1
def dFor (di : DA) (g : DG) (s : DS) : DS := fun E ρ => di ρ fun xs ρ1 => dLoop g s E xs ρ1
theorem pds_for {tg iter : Expr} {body : List Stmt} {di : DA} {g : DG} {ks : List Nat} {s : DS} {pos : Pos} (hp : PassesOwn (model X.prog X.w) X.A X.env X.xe) (hc : X.calm = true) (hi : PDI X C tg iter di) (hg : PDG X C tg g ks) (hb : PDSs X C body s)
    (hs : ∀ x, foldedSetIterable iter X.env x = pure x := by intro _; rfl) : PDS X C (.For tg iter body [] pos) (dFor di g s) := by
  obtain ⟨ti, i1, i2⟩ := hi
  obtain ⟨tg', g1, g2⟩ := hg
  obtain ⟨tb, b1, b2⟩ := hb
  refine ⟨_, ps_for hp hc i1 g1 b1 hs, fun σ H F ρ D E rp h c => ?_⟩
  refine i2 σ H F ρ _ _ rp h fun J H1 F1 xs ρ1 rp1 s1 it hl => ?_
  refine ⟨fun i m σ H => ∃ F' ρ', Rep X.K C σ H F' ρ' ∧ Same F1 F' ∧ i + m = xs.length ∧ dLoop g s E (xs.drop i) ρ', ⟨xs.length, F1, ρ1, rp1, Same.refl _, by omega, hl⟩, fun i m σ2 H2 hW => ?_⟩
  obtain ⟨F2, ρ2, rp2, s2, em, hl2⟩ := hW
  by_cases hi : i < xs.length
  · refine Or.inr ⟨it.go i σ2 H2 F2 ρ2 hi rp2 s2, fun σ' H' => ∃ m', m' < m ∧ ∃ F' ρ', Rep X.K C σ' H' F' ρ' ∧ Same F1 F' ∧ (i + 1) + m' = xs.length ∧ dLoop g s E (xs.drop (i + 1)) ρ', fun σ' H' hN => hN, fun v H3 hy => ?_⟩
    have ex : xs[i]? = some xs[i] := List.getElem?_eq_getElem hi
    obtain ⟨F3, rp3, s3, rv⟩ := it.yld i xs[i] σ2 H2 F2 ρ2 v H3 ex rp2 s2 hy
    rw [List.drop_eq_getElem_cons hi] at hl2
    refine g2 _ v σ2 H3 F3 ρ2 _ _ rp3 rv hl2 fun σ4 ρ4 rp4 _ h4 => ?_
    have nxt : ∀ σ' H' F' ρ', Same F3 F' → Rep X.K C σ' H' F' ρ' → dLoop g s E (xs.drop (i + 1)) ρ' → ∃ m', m' < m ∧ ∃ F' ρ', Rep X.K C σ' H' F' ρ' ∧ Same F1 F' ∧ (i + 1) + m' = xs.length ∧ dLoop g s E (xs.drop (i + 1)) ρ' :=
      fun σ' H' F' ρ' s' r' h' => ⟨m - 1, by omega, F', ρ', r', (s2.trans s3.sF).trans s', by omega, h'⟩
    have up := s1.sF.trans (s2.trans s3.sF)
    exact b2 σ4 H3 F3 ρ4 _ _ rp4 h4 ⟨nxt, fun σ' H' F' ρ' v x s' => c.rt σ' H' F' ρ' v x (up.trans s'), fun σ' H' F' ρ' s' => c.nx σ' H' F' ρ' (up.trans s'), nxt, fun σ' H' F' ρ' p vs xs s' => c.ro σ' H' F' ρ' p vs xs (up.trans s')⟩
  · refine Or.inl ⟨it.stop i σ2 H2 F2 ρ2 (by omega) rp2 s2, ?_⟩
    rw [List.drop_eq_nil_of_le (by omega)] at hl2
    exact c.nx σ2 H2 F2 ρ2 (s1.sF.trans s2) rp2 hl2
/-- a loop by what holds between the turns: P of the items that are still to come -/
theorem dLoop_inv {g : DG} {s : DS} {E : DEn} (P : List D → List S → Prop) {xs : List D} {ρ : List S} (h0 : P xs ρ) (hn : ∀ ρ, P [] ρ → E.nx ρ)
    (ht : ∀ x r ρ, P (x :: r) ρ → ∀ N : List S → Prop, (∀ ρ', P r ρ' → N ρ') → g x ρ fun ρ1 => s { nx := N, rt := E.rt, bk := E.nx, ct := N, ro := E.ro } ρ1) : dLoop g s E xs ρ := by
  induction xs generalizing ρ with
  | nil => exact hn ρ h0
  | cons x r ih =>
    unfold dLoop
    exact ht x r ρ h0 _ fun ρ' h => ih h
def dWhile (t : DT) (s : DS) : DS := fun E ρ => ∃ W : Nat → List S → Prop, (∃ m, W m ρ) ∧ ∀ m ρ, W m ρ → t ρ fun b ρ1 => if b = true then s { nx := fun ρ' => ∃ m', m' < m ∧ W m' ρ', rt := E.rt, bk := E.nx, ct := fun ρ' => ∃ m', m' < m ∧ W m' ρ', ro := E.ro } ρ1 else E.nx ρ1
theorem pds_while {c : Expr} {body : List Stmt} {t : DT} {s : DS} {pos : Pos} (hp : PassesOwn (model X.prog X.w) X.A X.env X.xe) (hc : PDT X C c t) (hb : PDSs X C body s) : PDS X C (.While c body [] pos) (dWhile t s) := by
  obtain ⟨tc, c1, c2⟩ := hc
  obtain ⟨tb, b1, b2⟩ := hb
  refine ⟨_, ps_while hp c1 b1, fun σ H F ρ D E rp h c => ?_⟩
  obtain ⟨W, ⟨m, hm⟩, h⟩ := h
  refine ⟨fun m σ H => ∃ F' ρ', Rep X.K C σ H F' ρ' ∧ Same F F' ∧ W m ρ', ⟨m, F, ρ, rp, Same.refl _, hm⟩, fun m σ1 H1 hW => ?_⟩
  obtain ⟨F1, ρ1, rp1, s1, w1⟩ := hW
  refine c2 σ1 H1 F1 ρ1 _ _ rp1 (h m ρ1 w1) fun b H2 F2 ρ2 rp2 s2 hr => ?_
  by_cases e : b = true
  · rw [if_pos e] at hr ⊢
    refine ⟨fun σ' H' => ∃ m', m' < m ∧ ∃ F' ρ', Rep X.K C σ' H' F' ρ' ∧ Same F F' ∧ W m' ρ', fun σ' H' hN => hN, ?_⟩
    have nxt : ∀ σ' H' F' ρ', Same F2 F' → Rep X.K C σ' H' F' ρ' → (∃ m', m' < m ∧ W m' ρ') → ∃ m', m' < m ∧ ∃ F' ρ', Rep X.K C σ' H' F' ρ' ∧ Same F F' ∧ W m' ρ' :=
      fun σ' H' F' ρ' s' r' ⟨m', h1, h2⟩ => ⟨m', h1, F', ρ', r', (s1.trans s2.sF).trans s', h2⟩
    have up := s1.trans s2.sF
    exact b2 σ1 H2 F2 ρ2 _ _ rp2 hr ⟨nxt, fun σ' H' F' ρ' v x s' => c.rt σ' H' F' ρ' v x (up.trans s'), fun σ' H' F' ρ' s' => c.nx σ' H' F' ρ' (up.trans s'), nxt, fun σ' H' F' ρ' p vs xs s' => c.ro σ' H' F' ρ' p vs xs (up.trans s')⟩
  · rw [if_neg e] at hr ⊢
    exact c.nx σ1 H2 F2 ρ2 (s1.trans s2.sF) rp2 hr
def wipeS (ρ : List S) : List Nat → List S
  | [] => ρ
  | v :: vs => (wipeS ρ vs).set v .un
def backS (ρ0 ρ : List S) : List Nat → List S
  | [] => ρ
  | v :: vs => match ρ0[v]? with
    | some s => (backS ρ0 ρ vs).set v s
    | none => backS ρ0 ρ vs
def noMt (ρ : List S) (vs : List Nat) : Bool := vs.all fun v => match ρ[v]? with
  | some s => !s.mt
  | none => true
theorem wipeS_len {ρ : List S} : ∀ {vs : List Nat}, (wipeS ρ vs).length = ρ.length
  | [] => rfl
  | v :: vs => by
    unfold wipeS
    rw [List.length_set, wipeS_len]
theorem wipeS_get {ρ : List S} : ∀ {vs : List Nat} {i : Nat}, (i ∉ vs → (wipeS ρ vs)[i]? = ρ[i]?) ∧ (i ∈ vs → ∀ s, (wipeS ρ vs)[i]? = some s → s = .un)
  | [], i => ⟨fun _ => rfl, fun h => nomatch h⟩
  | v :: vs, i => by
    obtain ⟨h1, h2⟩ := wipeS_get (ρ := ρ) (vs := vs) (i := i)
    unfold wipeS
    refine ⟨fun h => ?_, fun h s e => ?_⟩
    · rw [List.getElem?_set, if_neg (fun z => h (by rw [z]; exact List.mem_cons_self)), h1 (fun z => h (List.mem_cons_of_mem _ z))]
    · rw [List.getElem?_set] at e
      split at e
      · split at e
        · cases e; rfl
        · cases e
      · rename_i c
        rcases List.mem_cons.mp h with z | z
        · exact absurd z.symm c
        · exact h2 z s e
theorem wipe_get {σ : L2.St} : ∀ {vs : List Nat} {i : Nat}, i ∉ vs → (wipe σ vs)[i]? = σ[i]?
  | [], i => fun _ => rfl
  | v :: vs, i => fun h => by
    show ((wipe σ vs).set v none)[i]? = σ[i]?
    rw [List.getElem?_set, if_neg (fun z => h (by rw [z]; exact List.mem_cons_self)), wipe_get (fun z => h (List.mem_cons_of_mem _ z))]
theorem wipe_eq {σ σ' : L2.St} (hl : σ'.length = σ.length) : ∀ {vs : List Nat}, (∀ i : Nat, i ∉ vs → σ'[i]? = σ[i]?) → wipe σ' vs = wipe σ vs := by
  intro vs h
  refine List.ext_getElem? fun i => ?_
  by_cases hi : i ∈ vs
  · have : ∀ {τ : L2.St} {ws : List Nat}, i ∈ ws → τ.length = σ.length → (wipe τ ws)[i]? = if i < σ.length then some none else none := by
      intro τ ws
      induction ws with
      | nil => intro h; cases h
      | cons w ws ih =>
        intro h hτ
        show ((wipe τ ws).set w none)[i]? = _
        rw [List.getElem?_set, wipe_length, hτ]
        split
        · rename_i c; subst c; rfl
        · rename_i c
          rcases List.mem_cons.mp h with z | z
          · exact absurd z.symm c
          · exact ih z hτ
    rw [this hi hl, this hi rfl]
  · rw [wipe_get hi, wipe_get hi, h i hi]
theorem backS_len {ρ0 ρ : List S} : ∀ {vs : List Nat}, (backS ρ0 ρ vs).length = ρ.length
  | [] => rfl
  | v :: vs => by
    unfold backS
    split
    · rw [List.length_set, backS_len]
    · exact backS_len
theorem backS_get {ρ0 ρ : List S} (hl : ρ.length = ρ0.length) : ∀ {vs : List Nat} {i : Nat}, (i ∉ vs → (backS ρ0 ρ vs)[i]? = ρ[i]?) ∧ (i ∈ vs → (backS ρ0 ρ vs)[i]? = ρ0[i]?)
  | [], i => ⟨fun _ => rfl, fun h => nomatch h⟩
  | v :: vs, i => by
    obtain ⟨h1, h2⟩ := backS_get hl (vs := vs) (i := i)
    unfold backS
    refine ⟨fun h => ?_, fun h => ?_⟩
    · have n1 : ¬ v = i := fun z => h (by rw [z]; exact List.mem_cons_self)
      have n2 : i ∉ vs := fun z => h (List.mem_cons_of_mem _ z)
      split
      · rw [List.getElem?_set, if_neg n1, h1 n2]
      · exact h1 n2
    · by_cases c : v = i
      · subst c
        split
        · rename_i s e
          have hv : v < ρ0.length := (List.getElem?_eq_some_iff.mp e).1
          rw [List.getElem?_set, if_pos rfl, e, if_pos (by rw [backS_len, hl]; exact hv)]
        · rename_i e
          by_cases hm : v ∈ vs
          · exact h2 hm
          · rw [h1 hm]
            rw [e]
            exact List.getElem?_eq_none_iff.mpr (by rw [hl]; exact List.getElem?_eq_none_iff.mp e)
      · have hm : i ∈ vs := (List.mem_cons.mp h).resolve_left fun z => c z.symm
        split
        · rw [List.getElem?_set, if_neg c, h2 hm]
        · exact h2 hm
theorem noMt_ok {ρ : List S} {vs : List Nat} (h : noMt ρ vs = true) {i : Nat} (hi : i ∈ vs) {s : S} (e : ρ[i]? = some s) : s.mt = false := by
  unfold noMt at h
  have := List.all_eq_true.mp h i hi
  rw [e] at this
  simpa using this
theorem pin_mt {s : S} (h : s.mt = false) : s.pin = false := by cases s <;> first | rfl | cases h
/-- the list so far, the items still to come -/
def dLcL (g : DG) (t : DT) (de : DE) (vs : List Nat) : List D → List D → List S → (List D → List S → Prop) → Prop
  | [], acc, ρ, R => R acc ρ
  | x :: xs, acc, ρ, R => acc.length < 16777216 ∧ g x ρ fun ρ2 => noMt ρ2 vs = true ∧ t ρ2 fun b ρ3 => if b = true then de ρ3 fun y ρ4 => dLcL g t de vs xs (acc ++ [y]) (wipeS ρ4 vs) R else dLcL g t de vs xs acc (wipeS ρ3 vs) R
def dLc (di : DA) (g : DG) (t : DT) (de : DE) (vs : List Nat) : DA := fun ρ R => di ρ fun xs ρ1 => noMt ρ1 vs = true ∧ dLcL g t de vs xs [] (wipeS ρ1 vs) fun ys ρ2 => R ys (backS ρ1 ρ2 vs)
def dYes : DT := fun ρ R => R true ρ
theorem sim_yes {K : PySem.W.Frag} : SimT K C tYes dYes := fun σ H F ρ Q R rp h q => q _ _ _ _ rp Step.refl h
theorem wipeS_mt {ρ : List S} {vs : List Nat} {i : Nat} {s : S} (e : (wipeS ρ vs)[i]? = some s) (m : s.mt = true) : i ∉ vs ∧ ρ[i]? = some s := by
  have hi : i ∉ vs := fun z => by
    rw [(wipeS_get (i := i)).2 z s e] at m
    cases m
  exact ⟨hi, (wipeS_get (i := i)).1 hi ▸ e⟩
/-- a turn of a comprehension is a step of the block -/
theorem turnStep {τ σ2 : L2.St} {H F H2 F2 H4 F4 : Hp} {ρ ρ2 ρ4 : List S} {vs : List Nat} (a : Step τ H F ρ H2 F2 ρ) (hm : noMt ρ2 vs = true) (fr : ∀ i : Nat, i ∉ vs → σ2[i]? = τ[i]? ∧ ρ2[i]? = ρ[i]?) (b : Step σ2 H2 F2 ρ2 H4 F4 ρ4) :
    Step τ H F ρ H4 F4 (wipeS ρ4 vs) := by
  have back : ∀ (i : Nat) (s : S), ρ2[i]? = some s → s.mt = true → i ∉ vs := fun i s e m z => by
    rw [noMt_ok hm z e] at m
    cases m
  refine ⟨a.sF.trans b.sF, fun x o h1 h2 h3 => ?_, fun i s e m => ?_, fun x h => a.al x (b.al x h)⟩
  · obtain ⟨h4, h5⟩ := a.lo x o h1 h2 h3
    refine b.lo x o h4 h5 fun i s e m z => ?_
    have hi := back i s e m
    rw [(fr i hi).2] at e
    rw [(fr i hi).1] at z
    exact h3 i s e m z
  · obtain ⟨hi, e2⟩ := wipeS_mt e m
    obtain ⟨t, e3, m3⟩ := b.sh i s e2 m
    exact ⟨t, (fr i hi).2 ▸ e3, m3⟩
theorem Step.over {τ : L2.St} {H F H4 F4 : Hp} {ρ ρ4 : List S} {P : Addr} {o : HO} (a : Step τ H F ρ H4 F4 ρ4) (hP : H P = none) : Step τ H F ρ (upd H4 P o) F4 ρ4 :=
  ⟨a.sF, fun x u h1 h2 h3 => by
    obtain ⟨h4, h5⟩ := a.lo x u h1 h2 h3
    exact ⟨by rw [upd_ne (ne_of_none h1 hP)]; exact h4, h5⟩, a.sh, fun x h => a.al x (none_upd h)⟩
theorem sim_lc {K : PySem.W.Frag} {ti : TI} {di : DA} {tg : TG} {g : DG} {ks : List Nat} {tt : TT} {t : DT} {te : TE} {de : DE} (vs : List Nat) (hi : SimI K C ti di) (hg : SimG K C tg g ks) (ht : SimT K C tt t) (he : SimE K C te de) (hks : ∀ k ∈ ks, k ∈ vs) :
    SimL K C (tLc ti tg tt te vs) (dLc di g t de vs) := by
  intro σ H F ρ Q R rp hd q
  refine hi σ H F ρ _ _ rp hd fun J H1 F1 xs ρ1 rp1 s1 it hr => ?_
  obtain ⟨hm, hr⟩ := hr
  intro P hP
  have wl : (wipe σ vs).length = σ.length := wipe_length _ _
  have rw1 : Rep K C (wipe σ vs) H1 F1 (wipeS ρ1 vs) := by
    refine rp1.mix (by rw [wipeS_len, wl, rp1.len]) fun i => ?_
    by_cases hi : i ∈ vs
    · refine Or.inr ⟨fun s e => ?_, fun x e => ?_, fun s e => pin_mt (noMt_ok hm hi e)⟩
      · rw [(wipeS_get (i := i)).2 hi s e]; rfl
      · have := (wipeS_get (i := i)).2 hi _ e
        cases this
    · exact Or.inl ⟨(wipeS_get (i := i)).1 hi, wipe_get hi⟩
  have hPF : F1 P = none := rp1.newF hP
  have hP0 : C.H0 P = none := rp1.new0 hP
  refine ⟨fun i m H' => ∃ F' ρ' acc us, Rep K C (wipe σ vs) H' F' ρ' ∧ Step (wipe σ vs) H1 F1 (wipeS ρ1 vs) H' F' ρ' ∧ F' P = none ∧ H' P = some (.lst us) ∧ Rps K F' acc us ∧ i + m = xs.length ∧ dLcL g t de vs (xs.drop i) acc ρ' (fun ys ρ2 => R ys (backS ρ1 ρ2 vs)),
    ⟨xs.length, F1, _, [], [], rw1.grown (same_new hP), Rep.stepL hP, hPF, upd_same, rps_nil, by omega, hr⟩, fun i m H2 hW => ?_⟩
  obtain ⟨F2, ρ2, acc, us, rp2, st, nF, hHP, ra, em, hl⟩ := hW
  have nO : NotOwn (wipe σ vs) ρ2 P := (loose_new rw1 hP).back st
  by_cases hi : i < xs.length
  · refine Or.inr ⟨it.go i _ H2 F2 ρ2 hi rp2 st.sF, _, fun H' hN => hN, fun v H3 hy => ?_⟩
    have ex : xs[i]? = some xs[i] := List.getElem?_eq_getElem hi
    obtain ⟨F3, rp3, s3, rv⟩ := it.yld i xs[i] _ H2 F2 ρ2 v H3 ex rp2 st.sF hy
    rw [List.drop_eq_getElem_cons hi] at hl
    obtain ⟨hsz, hl⟩ := hl
    refine hg _ v _ H3 F3 ρ2 _ _ rp3 rv hl fun σ4 ρ4 rp4 fr h4 => ?_
    obtain ⟨hm4, h4⟩ := h4
    have fr2 : ∀ i : Nat, i ∉ vs → σ4[i]? = (wipe σ vs)[i]? ∧ ρ4[i]? = ρ2[i]? := fun i hi => fr.2 i fun z => hi (hks i z)
    have we : wipe σ4 vs = wipe σ vs := wipe_eq (fr.1.trans wl) fun i hi => (fr2 i hi).1.trans (wipe_get hi)
    refine ⟨we, ht σ4 H3 F3 ρ4 _ _ rp4 h4 fun b H5 F5 ρ5 rp5 s5 h5 => ?_⟩
    have shrink : ∀ {H6 F6 : Hp} {ρ6 : List S}, Step σ4 H3 F3 ρ4 H6 F6 ρ6 → Rep K C σ4 H6 F6 ρ6 → Rep K C (wipe σ vs) H6 F6 (wipeS ρ6 vs) := by
      intro H6 F6 ρ6 s6 r6
      refine r6.mix (by rw [wipeS_len, r6.len, fr.1]) fun i => ?_
      by_cases hi : i ∈ vs
      · refine Or.inr ⟨fun s e => ?_, fun x e => ?_, fun s e => ?_⟩
        · rw [(wipeS_get (i := i)).2 hi s e]; rfl
        · have := (wipeS_get (i := i)).2 hi _ e
          cases this
        · cases hp : s.pin with
          | false => rfl
          | true =>
            obtain ⟨t, e2, m2⟩ := s6.sh i s e (S.mt_of_pin hp)
            rw [noMt_ok hm4 hi e2] at m2
            cases m2
      · exact Or.inl ⟨(wipeS_get (i := i)).1 hi, (fr2 i hi).1.symm⟩
    by_cases c : b = true
    · rw [if_pos c] at h5 ⊢
      refine he σ4 H5 F5 ρ5 _ _ rp5 h5 fun y H6 F6 z ρ6 rp6 s6 ry h6 => ?_
      have sT : Step (wipe σ vs) H2 F2 ρ2 H6 F6 (wipeS ρ6 vs) := turnStep s3 hm4 fr2 (s5.trans s6)
      obtain ⟨k1, k2⟩ := sT.lo P _ hHP nF nO
      have rp7 := shrink (s5.trans s6) rp6
      have nO7 : NotOwn (wipe σ vs) (wipeS ρ6 vs) P := nO.back sT
      refine ⟨us, k1, line1 (by rw [← ra.len]; exact hsz), m - 1, by omega, F6, _, acc ++ [z], _, rp7.loose k2 hP0 nO7, (st.trans sT).over hP, k2, upd_same, (ra.mono sT.sF).app (rps_cons ry rps_nil), by omega, h6⟩
    · rw [if_neg c] at h5 ⊢
      have sT : Step (wipe σ vs) H2 F2 ρ2 H5 F5 (wipeS ρ5 vs) := turnStep s3 hm4 fr2 s5
      obtain ⟨k1, k2⟩ := sT.lo P _ hHP nF nO
      exact ⟨m - 1, by omega, F5, _, acc, us, shrink s5 rp5, st.trans sT, k2, k1, ra.mono sT.sF, by omega, h5⟩
  · refine Or.inl ⟨it.stop i _ H2 F2 ρ2 (by omega) rp2 st.sF, ?_⟩
    rw [List.drop_eq_nil_of_le (by omega)] at hl
    have hl' : R acc (backS ρ1 ρ2 vs) := hl
    have hlen : ρ2.length = ρ1.length := by rw [rp2.len, wl, ← rp1.len]
    have rpE : Rep K C σ H2 F2 (backS ρ1 ρ2 vs) := by
      refine rp2.mix (by rw [backS_len, rp2.len, wl]) fun i => ?_
      by_cases hi : i ∈ vs
      · have eb := (backS_get hlen (vs := vs) (i := i)).2 hi
        refine Or.inr ⟨fun s e => ?_, fun x e => ?_, fun s e => ?_⟩
        · rw [eb] at e; exact noMt_ok hm hi e
        · rw [eb] at e
          obtain ⟨v, e1, e2⟩ := rp1.dat i x e
          exact ⟨v, e1, e2.mono st.sF⟩
        · cases hp : s.pin with
          | false => rfl
          | true =>
            obtain ⟨t, e2, m2⟩ := st.sh i s e (S.mt_of_pin hp)
            exact absurd hi (wipeS_mt e2 m2).1
      · exact Or.inl ⟨(backS_get hlen (vs := vs) (i := i)).1 hi, (wipe_get hi).symm⟩
    have shE : ∀ (i : Nat) (s' : S), (backS ρ1 ρ2 vs)[i]? = some s' → s'.mt = true → i ∉ vs ∧ ρ2[i]? = some s' := fun i s' e m => by
      have hi : i ∉ vs := fun z => by
        rw [(backS_get hlen (vs := vs) (i := i)).2 z] at e
        rw [noMt_ok hm z e] at m
        cases m
      exact ⟨hi, (backS_get hlen (vs := vs) (i := i)).1 hi ▸ e⟩
    have stE : Step σ H1 F1 ρ1 H2 F2 (backS ρ1 ρ2 vs) := by
      refine ⟨st.sF, fun x o h1 h2 h3 => st.lo x o h1 h2 fun i s e m z => ?_, fun i s' e m => ?_, st.al⟩
      · obtain ⟨hi, e2⟩ := wipeS_mt e m
        rw [wipe_get hi] at z
        exact h3 i s e2 m z
      · obtain ⟨hi, e2⟩ := shE i s' e m
        obtain ⟨t, e3, m3⟩ := st.sh i s' e2 m
        exact ⟨t, (wipeS_mt e3 m3).2, m3⟩
    refine q P us H2 F2 acc _ rpE (s1.trans stE) (s1.al P hP) nF hP0 hHP (fun i s e m z => ?_) ra hl'
    obtain ⟨hi, e2⟩ := shE i s e m
    exact nO i s e2 m (by rw [wipe_get hi]; exact z)
end
section
variable {X : Cx} {C : Cd}
abbrev Blk := Shared × Hp × Addr × List (Str × Addr) × List Addr
abbrev blkX (X : Cx) (scope : Scope) (b : Blk) : Cx := X.blk b.1 b.2.1 scope (compEnvC scope b.2.2.2.1 b.2.2.1 X.env) b.2.2.2.2
theorem blkE {scope : Scope} {e : Expr} {de : DE} (h : ∀ b : Blk, PD (blkX X scope b) C e de) : ∃ te, (∀ b : Blk, PE (blkX X scope b) e te) ∧ SimE X.K C te de := by
  refine ⟨fun σ H Q => ∀ b : Blk, Classical.choose (h b).ex σ H Q, fun b => ⟨fun pins s σ H Q I q => (Classical.choose_spec (h b).ex).1.run pins s σ H Q I (q b)⟩, fun σ H F ρ Q R rp hd q b => ?_⟩
  exact (Classical.choose_spec (h b).ex).2 σ H F ρ Q R rp hd q
theorem blkT {scope : Scope} {e : Expr} {de : DT} (h : ∀ b : Blk, PDT (blkX X scope b) C e de) : ∃ te, (∀ b : Blk, PT (blkX X scope b) e te) ∧ SimT X.K C te de := by
  refine ⟨fun σ H Q => ∀ b : Blk, Classical.choose (h b).ex σ H Q, fun b => ⟨fun pins s σ H Q I q => (Classical.choose_spec (h b).ex).1.run pins s σ H Q I (q b)⟩, fun σ H F ρ Q R rp hd q b => ?_⟩
  exact (Classical.choose_spec (h b).ex).2 σ H F ρ Q R rp hd q
theorem blkG {scope : Scope} {e : Expr} {g : DG} {ks : List Nat} (h : ∀ b : Blk, PDG (blkX X scope b) C e g ks) : ∃ tg, (∀ b : Blk, PG (blkX X scope b) e tg) ∧ SimG X.K C tg g ks := by
  refine ⟨fun v σ H Q => ∀ b : Blk, Classical.choose (h b).ex v σ H Q, fun b => ⟨fun pins s σ H v u Q I r q => (Classical.choose_spec (h b).ex).1.run pins s σ H v u Q I r (q b)⟩, fun x v σ H F ρ Q R rp rx hd q b => ?_⟩
  exact (Classical.choose_spec (h b).ex).2 x v σ H F ρ Q R rp rx hd q
theorem pdl_lc (own : List (Str × Nat)) {elt tg iter : Expr} {scope : Scope} {pos : Pos} {di : DA} {g : DG} {ks : List Nat} {de : DE} (hc : X.calm = true) (hN : X.N.Nodup) (hi : PDI X C tg iter di) (ok : BlkOk X.N X.env.scope scope own)
    (hg : ∀ b : Blk, PDG (blkX X scope b) C tg g ks) (he : ∀ b : Blk, PD (blkX X scope b) C elt de) (hks : ∀ k ∈ ks, k ∈ own.map (·.2) := by decide) (hs : ∀ x, foldedSetIterable iter X.env x = pure x := by intro _; rfl) :
    PDL X C (.ListComp elt [⟨tg, iter, [], 0⟩] scope pos) (dLc di g dYes de (own.map (·.2))) := by
  obtain ⟨ti, i1, i2⟩ := hi
  obtain ⟨tg', g1, g2⟩ := blkG hg
  obtain ⟨te, e1, e2⟩ := blkE he
  exact ⟨_, pe_lc hc hN i1 ok (fun s H Cc cl fp => g1 (s, H, Cc, cl, fp)) (fun _ _ _ _ _ => pts_nil) (fun s H Cc cl fp => e1 (s, H, Cc, cl, fp)) hs, sim_lc _ i2 g2 sim_yes e2 hks⟩
theorem pdl_lcIf (own : List (Str × Nat)) {elt tg iter c : Expr} {scope : Scope} {pos : Pos} {di : DA} {g : DG} {ks : List Nat} {t : DT} {de : DE} (hc : X.calm = true) (hN : X.N.Nodup) (hi : PDI X C tg iter di) (ok : BlkOk X.N X.env.scope scope own)
    (hg : ∀ b : Blk, PDG (blkX X scope b) C tg g ks) (ht : ∀ b : Blk, PDT (blkX X scope b) C c t) (he : ∀ b : Blk, PD (blkX X scope b) C elt de) (hks : ∀ k ∈ ks, k ∈ own.map (·.2) := by decide) (hs : ∀ x, foldedSetIterable iter X.env x = pure x := by intro _; rfl) :
    PDL X C (.ListComp elt [⟨tg, iter, [c], 0⟩] scope pos) (dLc di g t de (own.map (·.2))) := by
  obtain ⟨ti, i1, i2⟩ := hi
  obtain ⟨tg', g1, g2⟩ := blkG hg
  obtain ⟨te, e1, e2⟩ := blkE he
  obtain ⟨tt, t1, t2⟩ := blkT ht
  exact ⟨_, pe_lc hc hN i1 ok (fun s H Cc cl fp => g1 (s, H, Cc, cl, fp)) (fun s H Cc cl fp => pts_one (t1 (s, H, Cc, cl, fp))) (fun s H Cc cl fp => e1 (s, H, Cc, cl, fp)) hs, sim_lc _ i2 g2 t2 e2 hks⟩
/-- name = [..] -/
theorem pds_setLc (k : Nat) (own : List (Str × Nat)) {y : Str} {py : Pos} {elt tg iter : Expr} {scope : Scope} {pos spos : Pos} {di : DA} {g : DG} {ks : List Nat} {de : DE} (hc : X.calm = true) (hN : X.N.Nodup) (hi : PDI X C tg iter di) (ok : BlkOk X.N X.env.scope scope own)
    (hg : ∀ b : Blk, PDG (blkX X scope b) C tg g ks) (he : ∀ b : Blk, PD (blkX X scope b) C elt de) (hsw : swapsWith (.ListComp elt [⟨tg, iter, [], 0⟩] scope pos) (some (.Name y py)) spos.line X.env = pure true)
    (hks : ∀ k ∈ ks, k ∈ own.map (·.2) := by decide) (hy : X.N[k]? = some y := by rfl) (hyl : X.env.scope.names.lookup y = some .local := by rfl) (hs : ∀ x, foldedSetIterable iter X.env x = pure x := by intro _; rfl) :
    PDS X C (.Assign [.Name y py] (.ListComp elt [⟨tg, iter, [], 0⟩] scope pos) spos) (dOwn k (dLc di g dYes de (own.map (·.2)))) := by
  obtain ⟨ti, i1, i2⟩ := hi
  obtain ⟨tg', g1, g2⟩ := blkG hg
  obtain ⟨te, e1, e2⟩ := blkE he
  exact ⟨_, ps_setLc hc hN hy hyl hsw i1 ok (fun s H Cc cl fp => g1 (s, H, Cc, cl, fp)) (fun _ _ _ _ _ => pts_nil) (fun s H Cc cl fp => e1 (s, H, Cc, cl, fp)) hs, sim_own k (sim_lc _ i2 g2 sim_yes e2 hks)⟩
theorem pds_setLcIf (k : Nat) (own : List (Str × Nat)) {y : Str} {py : Pos} {elt tg iter c : Expr} {scope : Scope} {pos spos : Pos} {di : DA} {g : DG} {ks : List Nat} {t : DT} {de : DE} (hc : X.calm = true) (hN : X.N.Nodup) (hi : PDI X C tg iter di) (ok : BlkOk X.N X.env.scope scope own)
    (hg : ∀ b : Blk, PDG (blkX X scope b) C tg g ks) (ht : ∀ b : Blk, PDT (blkX X scope b) C c t) (he : ∀ b : Blk, PD (blkX X scope b) C elt de) (hsw : swapsWith (.ListComp elt [⟨tg, iter, [c], 0⟩] scope pos) (some (.Name y py)) spos.line X.env = pure true)
    (hks : ∀ k ∈ ks, k ∈ own.map (·.2) := by decide) (hy : X.N[k]? = some y := by rfl) (hyl : X.env.scope.names.lookup y = some .local := by rfl) (hs : ∀ x, foldedSetIterable iter X.env x = pure x := by intro _; rfl) :
    PDS X C (.Assign [.Name y py] (.ListComp elt [⟨tg, iter, [c], 0⟩] scope pos) spos) (dOwn k (dLc di g t de (own.map (·.2)))) := by
  obtain ⟨ti, i1, i2⟩ := hi
  obtain ⟨tg', g1, g2⟩ := blkG hg
  obtain ⟨te, e1, e2⟩ := blkE he
  obtain ⟨tt, t1, t2⟩ := blkT ht
  exact ⟨_, ps_setLc hc hN hy hyl hsw i1 ok (fun s H Cc cl fp => g1 (s, H, Cc, cl, fp)) (fun s H Cc cl fp => pts_one (t1 (s, H, Cc, cl, fp))) (fun s H Cc cl fp => e1 (s, H, Cc, cl, fp)) hs, sim_own k (sim_lc _ i2 g2 t2 e2 hks)⟩
end
end DL
namespace DL
open PySem PySem.Spec L2
open PyProof.Rows (envOfC)
/-- an argument: data, or a slot's list handed on -/
inductive Ar where
  | v (x : D) | j (k : Nat)
abbrev DJ := List S → (List Ar → List S → Prop) → Prop
def RpA (K : PySem.W.Frag) (F : Hp) (σ : L2.St) : Ar → V → Prop
  | .v x, v => Rp K F x v
  | .j k, v => σ[k]? = some (some v)
inductive RpAs (K : PySem.W.Frag) (F : Hp) (σ : L2.St) : List Ar → List V → Prop where
  | nil : RpAs K F σ [] []
  | cons {a : Ar} {v : V} {as : List Ar} {vs : List V} (h : RpA K F σ a v) (t : RpAs K F σ as vs) : RpAs K F σ (a :: as) (v :: vs)
theorem RpA.mono {K : PySem.W.Frag} {F F' : Hp} {σ : L2.St} (e : Same F F') : ∀ {a : Ar} {v : V}, RpA K F σ a v → RpA K F' σ a v
  | .v _, _, h => Rp.mono e h
  | .j _, _, h => h
theorem RpAs.mono {K : PySem.W.Frag} {F F' : Hp} {σ : L2.St} (e : Same F F') {as : List Ar} {vs : List V} (h : RpAs K F σ as vs) : RpAs K F' σ as vs := by
  induction h with
  | nil => exact .nil
  | cons h _ ih => exact .cons (h.mono e) ih
def SimJ (K : PySem.W.Frag) (C : Cd) (ta : TA) (da : DJ) : Prop := ∀ (σ : L2.St) (H F : Hp) (ρ : List S) (Q : List V → Hp → Prop) (R : List Ar → List S → Prop), Rep K C σ H F ρ → da ρ R →
  (∀ vs H' F' as ρ', Rep K C σ H' F' ρ' → Step σ H F ρ H' F' ρ' → RpAs K F' σ as vs → R as ρ' → Q vs H') → ta σ H Q
structure PDJ (X : Cx) (C : Cd) (es : List Expr) (da : DJ) : Prop where
  ex : ∃ ta, PA X es ta ∧ SimJ X.K C ta da
section
variable {X : Cx} {C : Cd}
def djNil : DJ := fun ρ R => R [] ρ
def djV (de : DE) (dr : DJ) : DJ := fun ρ R => de ρ fun x ρ1 => dr ρ1 fun as ρ2 => R (.v x :: as) ρ2
def djJ (k : Nat) (dr : DJ) : DJ := fun ρ R => mtS ρ k = true ∧ dr ρ fun as ρ2 => R (.j k :: as) ρ2
theorem pdj_nil : PDJ X C [] djNil := ⟨_, pa_nil, fun _ _ _ _ _ _ rp h q => q _ _ _ _ _ rp Step.refl .nil h⟩
theorem pdj_v {e : Expr} {es : List Expr} {de : DE} {dr : DJ} (h1 : PD X C e de) (h2 : PDJ X C es dr) (hs : starEach (e :: es) X.env = (false, eval e X.env) :: starEach es X.env := by rfl) : PDJ X C (e :: es) (djV de dr) := by
  obtain ⟨te, a1, a2⟩ := h1
  obtain ⟨ta, b1, b2⟩ := h2
  refine ⟨_, pa_cons a1 b1 hs, fun σ H F ρ Q R rp h q => ?_⟩
  refine a2 σ H F ρ _ _ rp h fun v H1 F1 x ρ1 rp1 s1 rx hr => ?_
  exact b2 σ H1 F1 ρ1 _ _ rp1 hr fun vs H2 F2 xs ρ2 rp2 s2 rxs hr2 => q _ _ _ _ _ rp2 (s1.trans s2) (.cons (a := .v x) (rx.mono s2.sF) rxs) hr2
theorem pdj_j (k : Nat) {x : Str} {pos : Pos} {es : List Expr} {dr : DJ} (h2 : PDJ X C es dr) (hN : X.N[k]? = some x := by rfl) (hv : Vis X.env.scope x := by first | exact Or.inl rfl | exact Or.inr (Or.inl rfl) | exact Or.inr (Or.inr rfl)) (hd : (x == ("__debug__" : Str)) = false := by decide)
    (hcd : (x == ("__classdict__" : Str)) = false := by decide) (hs : starEach (.Name x pos :: es) X.env = (false, eval (.Name x pos) X.env) :: starEach es X.env := by rfl) : PDJ X C (.Name x pos :: es) (djJ k dr) := by
  obtain ⟨ta, b1, b2⟩ := h2
  refine ⟨_, pa_cons (pe_var hN hv hd hcd) b1 hs, fun σ H F ρ Q R rp h q => ?_⟩
  obtain ⟨hm, h⟩ := h
  obtain ⟨s, e1, e2⟩ := mtS_ok hm
  obtain ⟨p, _, _, c1, _⟩ := rp.own k s e1 e2
  refine ⟨_, c1, b2 σ H F ρ _ _ rp h fun vs H2 F2 xs ρ2 rp2 s2 rxs hr2 => q _ _ _ _ _ rp2 s2 (.cons (a := .j k) c1 rxs) hr2⟩
/-- the slot's list as a handed one -/
def dJar (ok : List D → Prop) (k : Nat) (ρ : List S) (q : List S → Prop) : Prop := match ρ[k]? with
  | some .jar => q ρ
  | some (.own xs) => ok xs ∧ q (ρ.set k .jar)
  | some (.jo xs) => ok xs ∧ q (ρ.set k .jar)
  | _ => False
def takeA (ok : List D → Prop) : List Ar → List S → (List S → List S → Prop) → Prop
  | [], ρ, q => q [] ρ
  | .v x :: r, ρ, q => takeA ok r ρ fun as ρ' => q (.d x :: as) ρ'
  | .j k :: r, ρ, q => dJar ok k ρ fun ρ1 => takeA ok r ρ1 fun as ρ' => q (.jar :: as) ρ'
def jarsOf : List Ar → List Nat
  | [] => []
  | .v _ :: r => jarsOf r
  | .j k :: r => k :: jarsOf r
/-- one argument's slot as the callee sees it -/
def ArgOk (K : PySem.W.Frag) (F : Hp) (σ : L2.St) (ρ : List S) (a : Ar) (s : S) (v : V) : Prop := match a, s with
  | .v x, .d y => x = y ∧ Rp K F x v
  | .j k, .jar => σ[k]? = some (some v) ∧ ρ[k]? = some .jar
  | _, _ => False
theorem dJar_ok {K : PySem.W.Frag} {σ : L2.St} {H F : Hp} {ρ : List S} {k : Nat} {q : List S → Prop} (rp : Rep K C σ H F ρ) (h : dJar C.ok k ρ q) :
    ∃ ρ', Rep K C σ H F ρ' ∧ Step σ H F ρ H F ρ' ∧ ρ'[k]? = some .jar ∧ (∀ i : Nat, ρ[i]? = some S.jar → ρ'[i]? = some S.jar) ∧ q ρ' := by
  have st : ∀ (s : S) (i : Nat), ρ[k]? = some s → ρ[i]? = some .jar → (ρ.set k S.jar)[i]? = some .jar := fun s i e h => by
    rw [List.getElem?_set]
    split
    · rename_i c
      have li : k < ρ.length := (List.getElem?_eq_some_iff.mp e).1
      first | rw [if_pos li] | rfl
    · exact h
  have st2 : ∀ s : S, ρ[k]? = some s → (ρ.set k S.jar)[k]? = some .jar := fun s e => by
    have li : k < ρ.length := (List.getElem?_eq_some_iff.mp e).1
    rw [List.getElem?_set, if_pos rfl]
    first | rw [if_pos li] | rfl
  unfold dJar at h
  split at h
  · rename_i e
    exact ⟨ρ, rp, Step.refl, e, fun _ h => h, h⟩
  · rename_i xs e
    exact ⟨_, rp.toJ e (Or.inl rfl) h.1, Rep.stepS e (fun _ => rfl), st2 _ e, fun i => st _ i e, h.2⟩
  · rename_i xs e
    exact ⟨_, rp.toJ e (Or.inr rfl) h.1, Rep.stepS e (fun _ => rfl), st2 _ e, fun i => st _ i e, h.2⟩
  · exact h.elim
theorem takeA_ok {K : PySem.W.Frag} {σ : L2.St} {H F : Hp} : ∀ {as : List Ar} {ρ : List S} {vs : List V} {q : List S → List S → Prop}, Rep K C σ H F ρ → RpAs K F σ as vs → takeA C.ok as ρ q →
    ∃ ss ρ', Rep K C σ H F ρ' ∧ Step σ H F ρ H F ρ' ∧ ss.length = as.length ∧ vs.length = as.length ∧ (∀ i : Nat, ρ[i]? = some S.jar → ρ'[i]? = some S.jar) ∧
      (∀ (i : Nat) (a : Ar), as[i]? = some a → ∃ s v, ss[i]? = some s ∧ vs[i]? = some v ∧ ArgOk K F σ ρ' a s v) ∧ q ss ρ'
  | [], ρ, vs, q, rp, h, ht => by
    cases h
    exact ⟨[], ρ, rp, Step.refl, rfl, rfl, fun _ h => h, fun i a e => by simp at e, ht⟩
  | .v x :: r, ρ, vs, q, rp, h, ht => by
    cases h with
    | cons h1 h2 =>
      rename_i v vs
      obtain ⟨ss, ρ', a1, a2, a3, a4, a5, a6, a7⟩ := takeA_ok rp h2 ht
      refine ⟨.d x :: ss, ρ', a1, a2, by simp [a3], by simp [a4], a5, fun i a e => ?_, a7⟩
      cases i with
      | zero => cases e; exact ⟨_, _, rfl, rfl, rfl, h1⟩
      | succ i => exact a6 i a e
  | .j k :: r, ρ, vs, q, rp, h, ht => by
    cases h with
    | cons h1 h2 =>
      rename_i v vs
      obtain ⟨ρ1, b1, b2, b3, b4, b5⟩ := dJar_ok rp ht
      obtain ⟨ss, ρ', a1, a2, a3, a4, a5, a6, a7⟩ := takeA_ok b1 h2 b5
      refine ⟨.jar :: ss, ρ', a1, b2.trans a2, by simp [a3], by simp [a4], fun i e => a5 i (b4 i e), fun i a e => ?_, a7⟩
      cases i with
      | zero => cases e; exact ⟨_, _, rfl, rfl, h1, a5 k b3⟩
      | succ i => exact a6 i a e
/-- a def's promise over plain data: of the arguments (data, handed lists) and what is wanted of the answer -/
abbrev DM := List S → (D → Prop) → Prop
def argS : S → Bool
  | .d _ => true | .jar => true | _ => false
def spM (K : PySem.W.Frag) (ok : List D → Prop) (m : DM) : Sp := fun vs H Q _ => ∃ (F : Hp) (J : List (Nat × Addr)) (as : List S) (R : D → Prop), Rep K ⟨H, F, J, ok⟩ (vs.map some) H F as ∧ as.all argS = true ∧
  (∀ (i : Nat) (p : Addr), as[i]? = some .jar → vs[i]? = some (.ref p) → (i, p) ∈ J) ∧ m as R ∧ ∀ v H' F' x, Rep K ⟨H, F, J, ok⟩ (vs.map some) H' F' as → Rp K F' x v → R x → Q v H'
def dCall (ok : List D → Prop) (m : DM) (da : DJ) : DE := fun ρ R => da ρ fun as ρ1 => (jarsOf as).Nodup ∧ takeA ok as ρ1 fun ss ρ2 => m ss fun x => R x ρ2
theorem jars_at : ∀ {as : List Ar} {i : Nat} {k : Nat}, as[i]? = some (.j k) → k ∈ jarsOf as
  | [], i, k, h => by simp at h
  | .v _ :: r, 0, k, h => by cases h
  | .v _ :: r, i + 1, k, h => jars_at (as := r) (i := i) h
  | .j l :: r, 0, k, h => by cases h; exact List.mem_cons_self
  | .j l :: r, i + 1, k, h => List.mem_cons_of_mem _ (jars_at (as := r) (i := i) h)
theorem jars_inj : ∀ {as : List Ar} {i i' : Nat} {k : Nat}, (jarsOf as).Nodup → as[i]? = some (.j k) → as[i']? = some (.j k) → i = i'
  | [], i, i', k, _, h, _ => by simp at h
  | .v _ :: r, 0, _, k, _, h, _ => by cases h
  | .v _ :: r, _, 0, k, _, _, h => by cases h
  | .v _ :: r, i + 1, i' + 1, k, hn, h, h' => by rw [jars_inj (as := r) hn h h']
  | .j l :: r, 0, 0, k, _, _, _ => rfl
  | .j l :: r, 0, i' + 1, k, hn, h, h' => by
    cases h
    exact absurd (jars_at (as := r) (i := i') h') (List.nodup_cons.mp hn).1
  | .j l :: r, i + 1, 0, k, hn, h, h' => by
    cases h'
    exact absurd (jars_at (as := r) (i := i) h) (List.nodup_cons.mp hn).1
  | .j l :: r, i + 1, i' + 1, k, hn, h, h' => by rw [jars_inj (as := r) (List.nodup_cons.mp hn).2 h h']
/-- the places of the handed lists -/
def jpl (ss : List S) (vs : List V) : List (Nat × Addr) := (List.range vs.length).filterMap fun (i : Nat) => match ss[i]?, vs[i]? with
  | some S.jar, some (V.ref p) => some (i, p)
  | _, _ => none
theorem mem_jpl {ss : List S} {vs : List V} {i : Nat} {p : Addr} : (i, p) ∈ jpl ss vs ↔ ss[i]? = some .jar ∧ vs[i]? = some (.ref p) := by
  unfold jpl
  rw [List.mem_filterMap]
  constructor
  · rintro ⟨j, _, h⟩
    split at h
    · rename_i h1 h2
      cases h
      exact ⟨h1, h2⟩
    · cases h
  · rintro ⟨h1, h2⟩
    refine ⟨i, List.mem_range.mpr (List.getElem?_eq_some_iff.mp h2).1, ?_⟩
    rw [h1, h2]
theorem map_some_get {vs : List V} {i : Nat} {v : V} : (vs.map some)[i]? = some (some v) ↔ vs[i]? = some v := by
  rw [List.getElem?_map]
  cases vs[i]? <;> simp
theorem sim_call {K : PySem.W.Frag} {ta : TA} {da : DJ} {m : DM} {E : XK} (ha : SimJ K C ta da) : SimE K C (tCall (spM K C.ok m) [] E ta) (dCall C.ok m da) := by
  intro σ H F ρ Q R rp hd q
  refine ha σ H F ρ _ _ rp hd fun vs H1 F1 as ρ1 rp1 s1 rx hr => ?_
  obtain ⟨hnd, ht⟩ := hr
  obtain ⟨ss, ρ2, rp2, s2, l1, l2, _, hA, hm⟩ := takeA_ok rp1 rx ht
  rw [List.append_nil]
  have lss : ss.length = vs.length := by omega
  -- a slot of the callee by its argument
  have hS : ∀ (i : Nat) (s : S), ss[i]? = some s → ∃ a v, as[i]? = some a ∧ vs[i]? = some v ∧ ArgOk K F1 σ ρ2 a s v := fun i s e => by
    have li : i < ss.length := (List.getElem?_eq_some_iff.mp e).1
    have ea : as[i]? = some (as[i]'(by omega)) := List.getElem?_eq_getElem (by omega)
    obtain ⟨s', v, h1, h2, h3⟩ := hA i _ ea
    rw [h1] at e
    cases e
    exact ⟨_, v, ea, h2, h3⟩
  have hJ : ∀ (i : Nat) (v : V), ss[i]? = some .jar → vs[i]? = some v → ∃ k p us xs, v = .ref p ∧ as[i]? = some (.j k) ∧ σ[k]? = some (some (.ref p)) ∧ ρ2[k]? = some .jar ∧ F1 p = none ∧ H1 p = some (.lst us) ∧ Rps K F1 xs us ∧ C.ok xs ∧ (C.H0 p = none ∨ (k, p) ∈ C.J) := fun i v e ev => by
    obtain ⟨a, v', h1, h2, h3⟩ := hS i _ e
    rw [ev] at h2
    cases h2
    cases a with
    | v x => exact h3.elim
    | j k =>
      obtain ⟨h4, h5⟩ := h3
      obtain ⟨p, us, xs, b1, b2, b3, b4, b5, b6⟩ := rp2.own k _ h5 rfl
      rw [h4] at b1
      cases b1
      exact ⟨k, p, us, xs, rfl, h1, h4, h5, b2, b3, b4, b5, b6.imp id fun z => z.2⟩
  have hc : ∀ (i : Nat) (s : S), ss[i]? = some s → argS s = true := fun i s e => by
    obtain ⟨a, v, _, _, h3⟩ := hS i s e
    cases a <;> cases s <;> first | rfl | exact h3.elim
  have rpC : Rep K ⟨H1, F1, jpl ss vs, C.ok⟩ (vs.map some) H1 F1 ss := by
    refine ⟨rp2.sub, Same.refl _, fun b o e _ => e, fun b _ e => e, fun i x e => ?_, fun i s e mt => ?_, fun i k s t p hn e1 e2 m1 m2 h1 h2 => ?_, fun w hw => ?_, by rw [List.length_map]; exact lss⟩
    · obtain ⟨a, v, h1, h2, h3⟩ := hS i _ e
      cases a with
      | v y =>
        obtain ⟨rfl, h4⟩ := h3
        exact ⟨v, map_some_get.mpr h2, h4⟩
      | j k => exact h3.elim
    · have := hc i s e
      cases s <;> first | cases mt; done | cases this; done | skip
      have li : i < vs.length := by rw [← lss]; exact (List.getElem?_eq_some_iff.mp e).1
      obtain ⟨k, p, us, xs, h1, h2, h3, h4, h5, h6, h7, h8, h9⟩ := hJ i _ e (List.getElem?_eq_getElem li)
      have ev : vs[i]? = some (.ref p) := by rw [List.getElem?_eq_getElem li, h1]
      exact ⟨p, us, xs, map_some_get.mpr ev, h5, h6, h7, h8, Or.inr ⟨rfl, mem_jpl.mpr ⟨e, ev⟩⟩⟩
    · have c1 := hc i s e1
      have c2 := hc k t e2
      cases s <;> first | cases m1; done | cases c1; done | skip
      cases t <;> first | cases m2; done | cases c2; done | skip
      obtain ⟨k1, p1, _, _, g1, g2, g3, g4, _⟩ := hJ i _ e1 (map_some_get.mp h1)
      obtain ⟨k2, p2, _, _, f1, f2, f3, f4, _⟩ := hJ k _ e2 (map_some_get.mp h2)
      cases g1
      cases f1
      by_cases ek : k1 = k2
      · subst ek
        exact hn (jars_inj hnd g2 f2)
      · exact rp2.apart k1 k2 _ _ p ek g4 f4 rfl rfl g3 f3
    · obtain ⟨i, p⟩ := w
      obtain ⟨h1, h2⟩ := mem_jpl.mp hw
      exact ⟨map_some_get.mpr h2, .jar, h1, rfl⟩
  refine ⟨F1, jpl ss vs, ss, fun x => R x ρ2, rpC, List.all_eq_true.mpr fun s hs => ?_, fun i p h1 h2 => mem_jpl.mpr ⟨h1, h2⟩, hm, fun v H' F' x r' rx' hR => ?_⟩
  · obtain ⟨i, hi, rfl⟩ := List.getElem_of_mem hs
    exact hc i _ (List.getElem?_eq_getElem hi)
  -- what the callee left
  have hJown : ∀ b, (∃ w ∈ jpl ss vs, w.2 = b) → ∃ k, σ[k]? = some (some (.ref b)) ∧ ρ2[k]? = some .jar ∧ (C.H0 b = none ∨ (k, b) ∈ C.J) := fun b hb => by
    obtain ⟨⟨i, p⟩, hw, rfl⟩ := hb
    obtain ⟨h1, h2⟩ := mem_jpl.mp hw
    obtain ⟨k, p', _, _, g1, _, g3, g4, _, _, _, _, g9⟩ := hJ i _ h1 h2
    cases g1
    exact ⟨k, g3, g4, g9⟩
  have keepN : ∀ b o, H1 b = some o → (¬ ∃ w ∈ jpl ss vs, w.2 = b) → H' b = some o := fun b o e hn => r'.keep b o e fun w hw z => hn ⟨w, hw, z⟩
  have freshN : ∀ b, H1 b ≠ none → F1 b = none → F' b = none := fun b e1 e2 => r'.fresh b e1 e2
  have st3 : Step σ H1 F1 ρ2 H' F' ρ2 := by
    refine ⟨r'.sub0, fun b o e1 e2 e3 => ⟨keepN b o e1 fun hb => ?_, freshN b (by rw [e1]; exact fun z => nomatch z) e2⟩, fun _ s e m => ⟨s, e, m⟩, fun b e => ?_⟩
    · obtain ⟨k, h1, h2, _⟩ := hJown b hb
      exact e3 k _ h2 rfl h1
    · cases e2 : H1 b with
      | none => rfl
      | some o => exact absurd e (r'.there (b := b) (by show H1 b ≠ none; rw [e2]; exact fun z => nomatch z))
  have rp3 : Rep K C σ H' F' ρ2 := by
    refine ⟨r'.sub, rp2.sub0.trans r'.sub0, fun b o e hb => ?_, fun b e1 e2 => ?_, fun i y e => ?_, fun i s e mt => ?_, rp2.apart, rp2.pins, rp2.len⟩
    · refine keepN b o (rp2.keep b o e hb) fun hw => ?_
      obtain ⟨k, _, _, h3⟩ := hJown b hw
      rcases h3 with h3 | h3
      · rw [h3] at e; cases e
      · exact hb _ h3 rfl
    · exact freshN b (rp2.there e1) (rp2.fresh b e1 e2)
    · obtain ⟨u, h1, h2⟩ := rp2.dat i y e
      exact ⟨u, h1, h2.mono r'.sub0⟩
    · obtain ⟨p, us, xs, b1, b2, b3, b4, b5, b6⟩ := rp2.own i s e mt
      by_cases hw : ∃ w ∈ jpl ss vs, w.2 = p
      · obtain ⟨k, h1, h2, _⟩ := hJown p hw
        obtain ⟨⟨i', p'⟩, hw', rfl⟩ := hw
        have ei : i = k := by
          apply Classical.byContradiction
          intro hne
          exact rp2.apart i k _ _ _ hne e h2 mt rfl b1 h1
        subst ei
        rw [h2] at e
        cases e
        obtain ⟨g1, g2⟩ := mem_jpl.mp hw'
        obtain ⟨p2, us', xs', c1, c2, c3, c4, c5, _⟩ := r'.own i' _ g1 rfl
        rw [map_some_get.mpr g2] at c1
        cases c1
        exact ⟨_, us', xs', b1, c2, c3, c4, c5, b6⟩
      · exact ⟨p, us, xs, b1, freshN p (by rw [b3]; exact fun z => nomatch z) b2, keepN p _ b3 hw, b4.mono r'.sub0, b5, b6⟩
  exact q _ _ _ _ _ rp3 ((s1.trans s2).trans st3) rx' hR
theorem pd_call {k : Nat} {f : Addr} {fd : FuncData} {ps : List Str} {m : DM} {x : Str} {p pos : Pos} {e : Expr} {es : List Expr} {da : DJ} (F : FnOk X.prog X.w X.K X.mg X.base CX0 k f fd ps (spM X.K C.ok m)) (hr : Room k X.A) (hg : Gl X x) (hm : X.mg x = some (.ref f))
    (hk : PySem.W.keepIn X.K (.ref f) = true) (hb : Binds X.K fd ps []) (ha : PDJ X C (e :: es) da) (hdb : (x == ("__debug__" : Str)) = false := by decide) (he : starEach (e :: es) X.env = (false, eval e X.env) :: starEach es X.env := by rfl) (hpl : (backTo pos (starEach es X.env)).any (·.1) = false := by rfl) :
    PD X C (.Call (.Name x p) (e :: es) [] pos) (dCall C.ok m da) := by
  obtain ⟨ta, a1, a2⟩ := ha
  exact ⟨_, pe_call F hr hg hm hk hb .nil pass0 a1 hdb he hpl, sim_call a2⟩
theorem pd_call0 {k : Nat} {f : Addr} {fd : FuncData} {ps : List Str} {m : DM} {x : Str} {p pos : Pos} (F : FnOk X.prog X.w X.K X.mg X.base CX0 k f fd ps (spM X.K C.ok m)) (hr : Room k X.A) (hg : Gl X x) (hm : X.mg x = some (.ref f))
    (hk : PySem.W.keepIn X.K (.ref f) = true) (hb : Binds X.K fd ps []) (hdb : (x == ("__debug__" : Str)) = false := by decide) : PD X C (.Call (.Name x p) [] [] pos) (dCall C.ok m djNil) :=
  ⟨_, pe_call0 F hr hg hm hk hb .nil pass0 hdb, sim_call (fun _ _ _ _ _ _ rp h q => q _ _ _ _ _ rp Step.refl .nil h)⟩
end
def backJ (ok : List D → Prop) : List S → List S → Prop
  | [], _ => True
  | .jar :: as, .jar :: ρ => backJ ok as ρ
  | .jar :: as, .jo xs :: ρ => ok xs ∧ backJ ok as ρ
  | .jar :: _, _ => False
  | _ :: as, _ :: ρ => backJ ok as ρ
  | _ :: as, [] => backJ ok as []
theorem backJ_at {ok : List D → Prop} : ∀ {as ρ : List S} {i : Nat}, backJ ok as ρ → as[i]? = some .jar → ρ[i]? = some .jar ∨ ∃ xs, ρ[i]? = some (.jo xs) ∧ ok xs
  | [], _, _, _, h => by simp at h
  | .jar :: as, .jar :: ρ, 0, _, _ => Or.inl rfl
  | .jar :: as, .jo xs :: ρ, 0, hb, _ => Or.inr ⟨xs, rfl, hb.1⟩
  | .jar :: as, .jar :: ρ, i + 1, hb, h => backJ_at (as := as) (ρ := ρ) (i := i) hb h
  | .jar :: as, .jo xs :: ρ, i + 1, hb, h => backJ_at (as := as) (ρ := ρ) (i := i) hb.2 h
  | .jar :: as, [], _, hb, _ => hb.elim
  | .jar :: as, .un :: ρ, _, hb, _ => hb.elim
  | .jar :: as, .d _ :: ρ, _, hb, _ => hb.elim
  | .jar :: as, .own _ :: ρ, _, hb, _ => hb.elim
  | .un :: as, ρ, 0, _, h => by cases h
  | .d _ :: as, ρ, 0, _, h => by cases h
  | .own _ :: as, ρ, 0, _, h => by cases h
  | .jo _ :: as, ρ, 0, _, h => by cases h
  | .un :: as, r :: ρ, i + 1, hb, h => backJ_at (as := as) (ρ := ρ) (i := i) hb h
  | .d _ :: as, r :: ρ, i + 1, hb, h => backJ_at (as := as) (ρ := ρ) (i := i) hb h
  | .own _ :: as, r :: ρ, i + 1, hb, h => backJ_at (as := as) (ρ := ρ) (i := i) hb h
  | .jo _ :: as, r :: ρ, i + 1, hb, h => backJ_at (as := as) (ρ := ρ) (i := i) hb h
  | .un :: as, [], i + 1, hb, h => (by
    have := backJ_at (ok := ok) (as := as) (ρ := []) (i := i) hb h
    simp at this)
  | .d _ :: as, [], i + 1, hb, h => (by
    have := backJ_at (ok := ok) (as := as) (ρ := []) (i := i) hb h
    simp at this)
  | .own _ :: as, [], i + 1, hb, h => (by
    have := backJ_at (ok := ok) (as := as) (ρ := []) (i := i) hb h
    simp at this)
  | .jo _ :: as, [], i + 1, hb, h => (by
    have := backJ_at (ok := ok) (as := as) (ρ := []) (i := i) hb h
    simp at this)
def startS (N : List Str) (as : List S) : List S := as ++ List.replicate (N.length - as.length) .un
def endsM (ok : List D → Prop) (as : List S) (R : D → Prop) : DEn := { nx := fun ρ => backJ ok as ρ ∧ R .non, rt := fun x ρ => backJ ok as ρ ∧ R x }
section
variable {P : Program} {w : World} {K : PySem.W.Frag} {mg : Str → Option Value} {base : Heap}
theorem rep_start {ok : List D → Prop} {H F : Hp} {J : List (Nat × Addr)} {vs : List V} {as : List S} {N : List Str} (r : Rep K ⟨H, F, J, ok⟩ (vs.map some) H F as) : Rep K ⟨H, F, J, ok⟩ (L2.start N vs) H F (startS N as) := by
  have hl : as.length = vs.length := by rw [r.len, List.length_map]
  have e1 : ∀ (i : Nat) (v : V), (vs.map some)[i]? = some (some v) → (L2.start N vs)[i]? = some (some v) := fun i v h => by
    unfold L2.start
    rw [List.getElem?_append_left (List.getElem?_eq_some_iff.mp h).1, h]
  have e2 : ∀ (i : Nat) (s : S), (startS N as)[i]? = some s → (as[i]? = some s ∧ i < as.length) ∨ s = .un := fun i s h => by
    unfold startS at h
    by_cases hi : i < as.length
    · rw [List.getElem?_append_left hi] at h
      exact Or.inl ⟨h, hi⟩
    · rw [List.getElem?_append_right (by omega)] at h
      right
      obtain ⟨h1, h2⟩ := List.getElem?_eq_some_iff.mp h
      rw [List.getElem_replicate] at h2
      exact h2.symm
  have e3 : ∀ (i : Nat) (s : S), as[i]? = some s → (startS N as)[i]? = some s := fun i s h => by
    unfold startS
    rw [List.getElem?_append_left (List.getElem?_eq_some_iff.mp h).1, h]
  have e4 : ∀ (i : Nat) (v : V), i < as.length → (L2.start N vs)[i]? = some (some v) → (vs.map some)[i]? = some (some v) := fun i v hi h => by
    unfold L2.start at h
    rw [List.getElem?_append_left (by rw [List.length_map, ← hl]; exact hi)] at h
    exact h
  refine ⟨r.sub, r.sub0, r.keep, r.fresh, fun i x e => ?_, fun i s e mt => ?_, fun i k s t p hn g1 g2 m1 m2 h1 h2 => ?_, fun q hq => ?_, ?_⟩
  · rcases e2 i _ e with ⟨h, _⟩ | h
    · obtain ⟨v, a, b⟩ := r.dat i x h
      exact ⟨v, e1 i v a, b⟩
    · cases h
  · rcases e2 i _ e with ⟨h, _⟩ | h
    · obtain ⟨p, us, xs, a, b⟩ := r.own i s h mt
      exact ⟨p, us, xs, e1 _ _ a, b⟩
    · subst h; cases mt
  · rcases e2 i _ g1 with ⟨g1, l1⟩ | g1
    · rcases e2 k _ g2 with ⟨g2, l2⟩ | g2
      · exact r.apart i k s t p hn g1 g2 m1 m2 (e4 _ _ l1 h1) (e4 _ _ l2 h2)
      · subst g2; cases m2
    · subst g1; cases m1
  · obtain ⟨h1, s, h2, h3⟩ := r.pins q hq
    exact ⟨e1 _ _ h1, s, e3 _ _ h2, h3⟩
  · unfold startS L2.start
    rw [List.length_append, List.length_append, List.length_replicate, List.length_replicate, List.length_map, hl]
theorem rep_end {ok : List D → Prop} {H F : Hp} {J : List (Nat × Addr)} {vs : List V} {as : List S} (r : Rep K ⟨H, F, J, ok⟩ (vs.map some) H F as) (hA : as.all argS = true) (hJ : ∀ (i : Nat) (p : Addr), as[i]? = some .jar → vs[i]? = some (.ref p) → (i, p) ∈ J)
    {σ' : L2.St} {H' F' : Hp} {ρ' : List S} (r' : Rep K ⟨H, F, J, ok⟩ σ' H' F' ρ') (hb : backJ ok as ρ') : Rep K ⟨H, F, J, ok⟩ (vs.map some) H' F' as := by
  have hc : ∀ (i : Nat) (s : S), as[i]? = some s → argS s = true := fun i s e => by
    obtain ⟨hi, rfl⟩ := List.getElem?_eq_some_iff.mp e
    exact List.all_eq_true.mp hA _ (List.getElem_mem hi)
  refine ⟨r'.sub, r'.sub0, r'.keep, r'.fresh, fun i x e => ?_, fun i s e mt => ?_, r.apart, r.pins, r.len⟩
  · obtain ⟨v, a, b⟩ := r.dat i x e
    exact ⟨v, a, b.mono r'.sub0⟩
  · have := hc i s e
    cases s <;> first | cases mt; done | cases this; done | skip
    obtain ⟨p, us, xs, a1, a2, a3, a4, a5, a6⟩ := r.own i _ e mt
    have hp := hJ i p e (map_some_get.mp a1)
    obtain ⟨h1, s, h2, h3⟩ := r'.pins _ hp
    rcases backJ_at hb e with h4 | ⟨ys, h4, h5⟩
    · obtain ⟨p', us', xs', b1, b2, b3, b4, b5, _⟩ := r'.own i _ h4 rfl
      rw [h1] at b1
      cases b1
      exact ⟨p, us', xs', a1, b2, b3, b4, b5, Or.inr ⟨rfl, hp⟩⟩
    · obtain ⟨p', us', xs', b1, b2, b3, b4, b5, _⟩ := r'.own i _ h4 rfl
      rw [h1] at b1
      cases b1
      cases b5
      exact ⟨p, us', ys, a1, b2, b3, b4, h5, Or.inr ⟨rfl, hp⟩⟩
/-- THE RULE of a def: its body as a term, the same for every entry; then plain data -/
theorem fn_ok {x qual : Str} {st : Stmt} {f : Addr} {fd : FuncData} {N ps : List Str} {k : Nat} {ok : List D → Prop} {m : DM} {ds : DS} (F : Fun K x qual st f fd) (S : FnScope N ps (defScope st))
    (hl : ∀ as R, m as R → as.length = ps.length)
    (hb : ∀ (cdv : Value) (A : Around) (outer : List Env) (s : Shared) (H : Hp) (E : XK) (H0 F0 : Hp) (J : List (Nat × Addr)), Room k (A.deeper (envOfC qual (defScope st) s.heap.objs.size f cdv)) →
      PDSs (cxOf CX0 P w K mg base N qual (defScope st) f cdv A outer s H E).nox ⟨H0, F0, J, ok⟩ (defBody st) ds)
    (hm : ∀ as R, m as R → ds (endsM ok as R) (startS N as)) : FnOk P w K mg base CX0 (k + 1) f fd ps (spM K ok m) := by
  refine F.ok S (fun vs H Q E h => ?_) (fun cdv A outer s H vs Q E hr h => ?_)
  · obtain ⟨F0, J, as, R, r, _, _, hm0, _⟩ := h
    rw [← hl as R hm0, r.len, List.length_map]
  · obtain ⟨F0, J, as, R, r, hA, hJ, hm0, hq⟩ := h
    obtain ⟨t, t1, t2⟩ := hb cdv A outer s H E H F0 J hr
    refine ⟨t, t1, t2 (L2.start N vs) H F0 (startS N as) _ _ (rep_start r) (hm as R hm0) ⟨fun σ H' F' ρ _ rp h => ?_, fun σ H' F' ρ v x _ rp rx h => ?_, fun _ _ _ _ _ _ h => h.elim, fun _ _ _ _ _ _ h => h.elim, fun _ _ _ _ _ _ _ _ _ _ _ _ _ h => h.elim⟩⟩
    · exact hq _ _ _ _ (rep_end r hA hJ rp h.1) rp_non h.2
    · exact hq _ _ _ _ (rep_end r hA hJ rp h.1) rx h.2
end
end DL
namespace DL
open PySem PySem.Spec L2
open PyProof.Rows (envOfC)
/-- a def of the text, where it stands -/
def BAll (fd : FuncData) (ps : List Str) : Prop := ∀ us : List Value, us.length = ps.length → bindArgs fd ⟨us, []⟩ = pure (ps.zip us)
/-- the function that stands there -/
def LkF (K : PySem.W.Frag) (f : Addr) (fd : FuncData) : Prop := ∃ oc od osl, K.lookup f = some ⟨oc, od, .func fd, osl⟩
def DefAt (K : PySem.W.Frag) (mg : Str → Option Value) (x : Str) (st : Stmt) (ps : List Str) : Prop := ∃ f fd, Fun K x x st f fd ∧ mg x = some (.ref f) ∧ BAll fd ps
/-- a def that keeps its promise -/
def Has (P : Program) (w : World) (K : PySem.W.Frag) (mg : Str → Option Value) (base : Heap) (k : Nat) (x : Str) (ps : List Str) (sp : Sp) : Prop :=
  ∃ f fd, mg x = some (.ref f) ∧ PySem.W.keepIn K (.ref f) = true ∧ (Binds K fd ps [] ∧ LkF K f fd) ∧ FnOk P w K mg base CX0 k f fd ps sp
theorem Has.mono {P : Program} {w : World} {K : PySem.W.Frag} {mg : Str → Option Value} {base : Heap} {j k : Nat} {x : Str} {ps : List Str} {sp : Sp} (h : Has P w K mg base j x ps sp) (e : j ≤ k) : Has P w K mg base k x ps sp := by
  obtain ⟨f, fd, h1, h2, h3, h4⟩ := h
  exact ⟨f, fd, h1, h2, h3, h4.mono e⟩
/-- a promise of a fresh list, no one's yet -/
def spO (K : PySem.W.Frag) (ok : List D → Prop) (m : List S → (List D → Prop) → Prop) : Sp := fun vs H Q _ => ∃ (F : Hp) (J : List (Nat × Addr)) (as : List S) (R : List D → Prop), Rep K ⟨H, F, J, ok⟩ (vs.map some) H F as ∧ as.all argS = true ∧
  (∀ (i : Nat) (p : Addr), as[i]? = some .jar → vs[i]? = some (.ref p) → (i, p) ∈ J) ∧ m as R ∧ ∀ p us H' F' xs, Rep K ⟨H, F, J, ok⟩ (vs.map some) H' F' as → F' p = none → H p = none → H' p = some (.lst us) → Rps K F' xs us → R xs → Q (.ref p) H'
def endsO (ok : List D → Prop) (as : List S) (R : List D → Prop) : DEn := { nx := fun _ => False, rt := fun _ _ => False, ro := fun xs ρ => backJ ok as ρ ∧ R xs }
section
variable {P : Program} {w : World} {K : PySem.W.Frag} {mg : Str → Option Value} {base : Heap}
theorem lkF_of {x qual : Str} {st : Stmt} {f : Addr} {fd : FuncData} (F : Fun K x qual st f fd) : LkF K f fd := by
  obtain ⟨oc, od, kV, doc, pm, an, cdv, ct, osl, rfl, lk, hcd⟩ := F.ex
  exact ⟨oc, od, osl, lk⟩
theorem fn_has {x : Str} {st : Stmt} {N ps : List Str} {k : Nat} {ok : List D → Prop} {m : DM} {ds : DS} (d : DefAt K mg x st ps) (S : FnScope N ps (defScope st))
    (hl : ∀ as R, m as R → as.length = ps.length)
    (hb : ∀ (f : Addr) (cdv : Value) (A : Around) (outer : List Env) (s : Shared) (H : Hp) (E : XK) (H0 F0 : Hp) (J : List (Nat × Addr)), Room k (A.deeper (envOfC x (defScope st) s.heap.objs.size f cdv)) →
      PDSs (cxOf CX0 P w K mg base N x (defScope st) f cdv A outer s H E).nox ⟨H0, F0, J, ok⟩ (defBody st) ds)
    (hm : ∀ as R, m as R → ds (endsM ok as R) (startS N as)) : Has P w K mg base (k + 1) x ps (spM K ok m) := by
  obtain ⟨f, fd, F, g, b⟩ := d
  exact ⟨f, fd, g, F.kp, ⟨.all b, lkF_of F⟩, fn_ok F S hl (fun cdv A outer s H E H0 F0 J hr => hb f cdv A outer s H E H0 F0 J hr) hm⟩
theorem fn_hasO {x : Str} {st : Stmt} {N ps : List Str} {k : Nat} {ok : List D → Prop} {m : List S → (List D → Prop) → Prop} {ds : DS} (d : DefAt K mg x st ps) (S : FnScope N ps (defScope st))
    (hl : ∀ as R, m as R → as.length = ps.length)
    (hb : ∀ (f : Addr) (cdv : Value) (A : Around) (outer : List Env) (s : Shared) (H : Hp) (E : XK) (H0 F0 : Hp) (J : List (Nat × Addr)), Room k (A.deeper (envOfC x (defScope st) s.heap.objs.size f cdv)) →
      PDSs (cxOf CX0 P w K mg base N x (defScope st) f cdv A outer s H E).nox ⟨H0, F0, J, ok⟩ (defBody st) ds)
    (hm : ∀ as R, m as R → ds (endsO ok as R) (startS N as)) : Has P w K mg base (k + 1) x ps (spO K ok m) := by
  obtain ⟨f, fd, F, g, b⟩ := d
  refine ⟨f, fd, g, F.kp, ⟨.all b, lkF_of F⟩, F.ok S (fun vs H Q E h => ?_) (fun cdv A outer s H vs Q E hr h => ?_)⟩
  · obtain ⟨F0, J, as, R, r, _, _, hm0, _⟩ := h
    rw [← hl as R hm0, r.len, List.length_map]
  · obtain ⟨F0, J, as, R, r, hA, hJ, hm0, hq⟩ := h
    obtain ⟨t, t1, t2⟩ := hb f cdv A outer s H E H F0 J hr
    refine ⟨t, t1, t2 (L2.start N vs) H F0 (startS N as) _ _ (rep_start r) (hm as R hm0) ⟨fun _ _ _ _ _ _ h => h.elim, fun _ _ _ _ _ _ _ _ _ h => h.elim, fun _ _ _ _ _ _ h => h.elim, fun _ _ _ _ _ _ h => h.elim, fun σ H' F' ρ p us xs _ rp e1 e2 e3 e4 h => ?_⟩⟩
    exact hq p us H' F' xs (rep_end r hA hJ rp h.1) e1 e2 e3 e4 h.2
end
section
variable {X : Cx} {C : Cd}
theorem pd_callH {j k : Nat} {ps : List Str} {m : DM} {x : Str} {p pos : Pos} {e : Expr} {es : List Expr} {da : DJ} (h : Has X.prog X.w X.K X.mg X.base k x ps (spM X.K C.ok m)) (hr : Room j X.A) (ha : PDJ X C (e :: es) da) (hj : k ≤ j := by decide) (hg : Gl X x := by rfl)
    (hdb : (x == ("__debug__" : Str)) = false := by decide) (he : starEach (e :: es) X.env = (false, eval e X.env) :: starEach es X.env := by rfl) (hpl : (backTo pos (starEach es X.env)).any (·.1) = false := by rfl) :
    PD X C (.Call (.Name x p) (e :: es) [] pos) (dCall C.ok m da) := by
  obtain ⟨f, fd, h1, h2, h3, h4⟩ := h
  exact pd_call h4 (hr.mono hj) hg h1 h2 h3.1 ha hdb he hpl
theorem pd_callH0 {j k : Nat} {ps : List Str} {m : DM} {x : Str} {p pos : Pos} (h : Has X.prog X.w X.K X.mg X.base k x ps (spM X.K C.ok m)) (hr : Room j X.A) (hj : k ≤ j := by decide) (hg : Gl X x := by rfl)
    (hdb : (x == ("__debug__" : Str)) = false := by decide) : PD X C (.Call (.Name x p) [] [] pos) (dCall C.ok m djNil) := by
  obtain ⟨f, fd, h1, h2, h3, h4⟩ := h
  exact pd_call0 h4 (hr.mono hj) hg h1 h2 h3.1 hdb
def dlCallO (m : List S → (List D → Prop) → Prop) (da : DA) : DA := fun ρ R => da ρ fun xs ρ1 => m (xs.map .d) fun ys => R ys ρ1
theorem pdl_callO {j k : Nat} {ps : List Str} {m : List S → (List D → Prop) → Prop} {x : Str} {p pos : Pos} {e : Expr} {es : List Expr} {da : DA} (h : Has X.prog X.w X.K X.mg X.base k x ps (spO X.K C.ok m)) (hr : Room j X.A) (ha : PDA X C (e :: es) da) (hj : k ≤ j := by decide) (hg : Gl X x := by rfl)
    (hdb : (x == ("__debug__" : Str)) = false := by decide) (he : starEach (e :: es) X.env = (false, eval e X.env) :: starEach es X.env := by rfl) (hpl : (backTo pos (starEach es X.env)).any (·.1) = false := by rfl) :
    PDL X C (.Call (.Name x p) (e :: es) [] pos) (dlCallO m da) := by
  obtain ⟨f, fd, h1, h2, h3, h4⟩ := h
  obtain ⟨ta, a1, a2⟩ := ha
  refine ⟨_, pe_call h4 (hr.mono hj) hg h1 h2 h3.1 .nil pass0 a1 hdb he hpl, fun σ H F ρ Q R rp hd q => ?_⟩
  refine a2 σ H F ρ _ _ rp hd fun vs H1 F1 xs ρ1 rp1 s1 rx hr => ?_
  rw [List.append_nil]
  have hx : ∀ (i : Nat) (s : S), (xs.map S.d)[i]? = some s → ∃ x v, s = .d x ∧ vs[i]? = some v ∧ Rp X.K F1 x v := fun i s e => by
    rw [List.getElem?_map] at e
    cases e2 : xs[i]? with
    | none => rw [e2] at e; cases e
    | some x =>
      rw [e2] at e
      cases e
      obtain ⟨v, h1, h2⟩ := rx.get e2
      exact ⟨x, v, rfl, h1, h2⟩
  have rpC : Rep X.K ⟨H1, F1, [], C.ok⟩ (vs.map some) H1 F1 (xs.map S.d) := by
    refine ⟨rp1.sub, Same.refl _, fun b o e _ => e, fun b _ e => e, fun i x e => ?_, fun i s e mt => ?_, fun i k s t p hn e1 e2 m1 m2 h1 h2 => ?_, fun w hw => (nomatch hw), by rw [List.length_map, List.length_map, rx.len]⟩
    · obtain ⟨y, v, h1, h2, h3⟩ := hx i _ e
      cases h1
      exact ⟨v, map_some_get.mpr h2, h3⟩
    · obtain ⟨y, v, rfl, _⟩ := hx i _ e
      cases mt
    · obtain ⟨y, v, rfl, _⟩ := hx i _ e1
      cases m1
  refine ⟨F1, [], xs.map S.d, fun ys => R ys ρ1, rpC, List.all_eq_true.mpr fun s hs => ?_, fun i p h1 h2 => ?_, hr, fun p us H' F' ys r' e1 e2 e3 e4 hR => ?_⟩
  · obtain ⟨x, _, rfl⟩ := List.mem_map.mp hs
    rfl
  · obtain ⟨y, v, h3, _⟩ := hx i _ h1
    cases h3
  have keepN : ∀ b o, H1 b = some o → H' b = some o := fun b o e => r'.keep b o e fun w hw => nomatch hw
  have st3 : Step σ H1 F1 ρ1 H' F' ρ1 :=
    ⟨r'.sub0, fun b o g1 g2 _ => ⟨keepN b o g1, r'.fresh b (by show H1 b ≠ none; rw [g1]; exact fun z => nomatch z) g2⟩, fun _ s e m => ⟨s, e, m⟩, fun b e => by
      cases g : H1 b with
      | none => rfl
      | some o => rw [keepN b o g] at e; cases e⟩
  have rp3 : Rep X.K C σ H' F' ρ1 := by
    refine ⟨r'.sub, rp1.sub0.trans r'.sub0, fun b o e hb => keepN b o (rp1.keep b o e hb), fun b g1 g2 => r'.fresh b (rp1.there g1) (rp1.fresh b g1 g2), fun i y e => ?_, fun i s e mt => ?_, rp1.apart, rp1.pins, rp1.len⟩
    · obtain ⟨u, h1, h2⟩ := rp1.dat i y e
      exact ⟨u, h1, h2.mono r'.sub0⟩
    · obtain ⟨p, us, xs, b1, b2, b3, b4, b5, b6⟩ := rp1.own i s e mt
      exact ⟨p, us, xs, b1, r'.fresh p (by show H1 p ≠ none; rw [b3]; exact fun z => nomatch z) b2, keepN p _ b3, b4.mono r'.sub0, b5, b6⟩
  exact q p us H' F' ys ρ1 rp3 (s1.trans st3) (s1.al p e2) e1 (rp1.new0 e2) e3 (loose_new rp1 e2) e4 hR
def dRetO (k : Nat) : DS := fun E ρ => ∃ xs, ρ[k]? = some (.own xs) ∧ E.ro xs ρ
theorem pds_retO (k : Nat) {x : Str} {p pos : Pos} (hN : X.N[k]? = some x := by rfl) (hv : Vis X.env.scope x := by first | exact Or.inl rfl | exact Or.inr (Or.inl rfl) | exact Or.inr (Or.inr rfl)) (hd : (x == ("__debug__" : Str)) = false := by decide)
    (hcd : (x == ("__classdict__" : Str)) = false := by decide) : PDS X C (.Return (some (.Name x p)) pos) (dRetO k) := by
  refine ⟨_, ps_ret (pe_var hN hv hd hcd), fun σ H F ρ D E rp h c => ?_⟩
  obtain ⟨xs, e, h⟩ := h
  obtain ⟨a, vs, ys, b1, b2, b3, b4, b5, b6⟩ := rp.own k _ e rfl
  cases b5
  exact ⟨_, b1, c.ro σ H F ρ a vs xs (Same.refl _) rp b2 (b6.resolve_right fun z => nomatch z.1) b3 b4 h⟩
def dRetL (dl : DA) : DS := fun E ρ => dl ρ E.ro
theorem pds_retL {e : Expr} {dl : DA} {pos : Pos} (h : PDL X C e dl) : PDS X C (.Return (some e) pos) (dRetL dl) := by
  obtain ⟨te, a1, a2⟩ := h
  exact ⟨_, ps_ret a1, fun σ H F ρ D E rp h c => a2 σ H F ρ _ _ rp h fun p vs H1 F1 xs ρ1 rp1 s1 _ e1 e2 e3 _ e4 hr => c.ro σ H1 F1 ρ1 p vs xs s1.sF rp1 e1 e2 e3 e4 hr⟩
theorem bt_len : bootBuiltins "len" = some (.builtin "len") := by decide +kernel
theorem bt_max : bootBuiltins "max" = some (.builtin "max") := by decide +kernel
theorem bt_min : bootBuiltins "min" = some (.builtin "min") := by decide +kernel
theorem bt_abs : bootBuiltins "abs" = some (.builtin "abs") := by decide +kernel
theorem bt_all : bootBuiltins "all" = some (.builtin "all") := by decide +kernel
theorem bt_any : bootBuiltins "any" = some (.builtin "any") := by decide +kernel
theorem bt_sum : bootBuiltins "sum" = some (.builtin "sum") := by decide +kernel
theorem bt_sorted : bootBuiltins "sorted" = some (.builtin "sorted") := by decide +kernel
theorem bt_isinstance : bootBuiltins "isinstance" = some (.builtin "isinstance") := by decide +kernel
theorem bt_int : bootBuiltins "int" = some (.type "int") := by decide +kernel
theorem bt_bool : bootBuiltins "bool" = some (.type "bool") := by decide +kernel
theorem bt_str : bootBuiltins "str" = some (.type "str") := by decide +kernel
theorem bt_list : bootBuiltins "list" = some (.type "list") := by decide +kernel
theorem bt_tuple : bootBuiltins "tuple" = some (.type "tuple") := by decide +kernel
def strsOf : List D → Option (List (List Nat))
  | [] => some []
  | .str s :: r => (strsOf r).map (s :: ·)
  | _ :: _ => none
theorem strsOf_map (ss : List (List Nat)) : strsOf (ss.map D.str) = some ss := by
  induction ss with
  | nil => rfl
  | cons s r ih =>
    show (strsOf (r.map D.str)).map (s :: ·) = _
    rw [ih]; rfl
theorem strsOf_ok {K : PySem.W.Frag} {F : Hp} : ∀ {ds : List D} {vs : List V} {ss : List (List Nat)}, strsOf ds = some ss → Rps K F ds vs → vs = (ss.map fun s => (⟨s.toArray⟩ : Str)).map V.str
  | [], vs, ss, h, r => by
    cases h
    unfold Rps at r
    exact r
  | .str s :: ds, vs, ss, h, r => by
    unfold Rps at r
    obtain ⟨v, us, rfl, r1, r2⟩ := r
    unfold strsOf at h
    cases e : strsOf ds with
    | none => rw [e] at h; cases h
    | some ts =>
      rw [e] at h
      cases h
      rw [strsOf_ok e r2, rp_str_inv r1]
      rfl
  | .non :: ds, vs, ss, h, r => by cases h
  | .bl _ :: ds, vs, ss, h, r => by cases h
  | .int _ :: ds, vs, ss, h, r => by cases h
  | .tup _ :: ds, vs, ss, h, r => by cases h
  | .lst _ :: ds, vs, ss, h, r => by cases h
  | .ro _ :: ds, vs, ss, h, r => by cases h
theorem rps_strs {K : PySem.W.Frag} {F : Hp} (ss : List (List Nat)) : Rps K F (ss.map D.str) ((ss.map fun s => (⟨s.toArray⟩ : Str)).map V.str) := by
  induction ss with
  | nil => exact rps_nil
  | cons s r ih => exact rps_cons rp_str ih
/-- a method of a text, with one argument -/
def MtD (X : Cx) (C : Cd) (id : String) (g : D → D → D → Prop) : Prop := ∃ r, MtR X id r ∧ SimR X.K C (fun x y H Q => r x [y] H Q) g
def dM1 (g : D → D → D → Prop) (ds da : DE) : DE := fun ρ R => ds ρ fun x ρ1 => (∃ s, x = .str s) ∧ da ρ1 fun y ρ2 => ∃ z, g x y z ∧ R z ρ2
theorem pd_m1 {id : String} {name : Str} {o e : Expr} {apos pos : Pos} {ds da : DE} {g : D → D → D → Prop} (slot : PySem.Slot "str" name id) (ty : typeOf (.builtin id) = pure (.type "method_descriptor")) (rule : MtD X C id g) (ho : PD X C o ds) (he : PD X C e da)
    (hs : starEach [e] X.env = [(false, eval e X.env)] := by rfl) (hbase : attributeBase o name X.env (eval o X.env) = eval o X.env := by rfl) (hline : (apos.endLine == pos.line) = true := by rfl) : PD X C (.Call (.Attribute o name apos) [e] [] pos) (dM1 g ds da) := by
  obtain ⟨to, o1, o2⟩ := ho
  obtain ⟨te, e1, e2⟩ := he
  obtain ⟨r, r1, r2⟩ := rule
  refine ⟨_, pe_m1 slot ty r1 o1 e1 hs hbase hline, fun σ H F ρ Q R rp hd q => ?_⟩
  refine o2 σ H F ρ _ _ rp hd fun v H1 F1 x ρ1 rp1 s1 rx hr => ?_
  obtain ⟨⟨s, rfl⟩, hr⟩ := hr
  refine ⟨⟨_, rp_str_inv rx⟩, e2 σ H1 F1 ρ1 _ _ rp1 hr fun u H2 F2 y ρ2 rp2 s2 ry hr2 => ?_⟩
  obtain ⟨z, hz, hr2⟩ := hr2
  exact r2 σ H2 F2 ρ2 _ y v u z Q rp2 (rx.mono s2.sF) ry hz fun w H3 F3 rp3 s3 rz => q _ _ _ _ _ rp3 ((s1.trans s2).trans s3) rz hr2
def joinR : D → D → D → Prop := fun x y z => ∃ sep xs ss, x = .str sep ∧ (y = .lst xs ∨ y = .tup xs) ∧ strsOf xs = some ss ∧ (ss.map (·.length)).sum + ss.length * sep.length ≤ 16777216 ∧ z = .str (TL.joinL sep ss)
def dJoin (ds da : DE) : DE := dM1 joinR ds da
theorem join_str (sep : List Nat) (ss : List (List Nat)) : Txt.join ⟨sep.toArray⟩ (ss.map fun s => (⟨s.toArray⟩ : Str)) = ⟨(TL.joinL sep ss).toArray⟩ := by
  rw [TL.join_eq]
  apply TL.ext_tl
  rw [TL.tl_join, TL.tl_mk, List.map_map]
  have : (TL.tl ∘ fun s : List Nat => (⟨s.toArray⟩ : Str)) = id := by
    funext s
    exact TL.tl_mk s
  rw [this, List.map_id, TL.tl_mk]
theorem lens_str (ss : List (List Nat)) : ((ss.map fun s => (⟨s.toArray⟩ : Str)).map (·.length)) = ss.map (·.length) := by
  rw [List.map_map]
  refine List.map_congr_left fun s _ => ?_
  exact str_len
theorem md_join : MtD X C "str.join" joinR := by
  refine ⟨_, mt_join, fun σ H F ρ x y v u z Q rp rx ry hg k => ?_⟩
  obtain ⟨sep, xs, ss, rfl, hy, hss, hl, rfl⟩ := hg
  cases rp_str_inv rx
  have go : ∀ (a : Addr) (vs : List V), u = .ref a → (SqL X.K H a vs ∨ SqT X.K H a vs) → Rps X.K F xs vs → ∃ a' p, ∃ ys : List Str, V.str ⟨sep.toArray⟩ = .str a' ∧ [u] = [V.ref p] ∧ (SqL X.K H p (ys.map V.str) ∨ SqT X.K H p (ys.map V.str)) ∧ (ys.map (·.length)).sum + ys.length * a'.length ≤ 16777216 ∧ Q (.str (Txt.join a' ys)) H := fun a vs e h r => by
    subst e
    have ev := strsOf_ok hss r
    refine ⟨⟨sep.toArray⟩, a, ss.map fun s => (⟨s.toArray⟩ : Str), rfl, rfl, ev ▸ h, ?_, ?_⟩
    · rw [lens_str, List.length_map, str_len]; exact hl
    · rw [join_str]
      exact k _ _ _ rp Step.refl rp_str
  rcases hy with rfl | rfl
  · obtain ⟨a, vs, e, b1, b2⟩ := rp_lst_inv ry
    exact go a vs e (Or.inl (SqL.of (rp.sub _ _ b1))) b2
  · obtain ⟨a, vs, e, b1, b2⟩ := rp_tup_inv ry
    exact go a vs e (Or.inr (SqT.of (rp.sub _ _ b1))) b2
theorem pd_join {o e : Expr} {apos pos : Pos} {ds da : DE} (ho : PD X C o ds) (he : PD X C e da) (hs : starEach [e] X.env = [(false, eval e X.env)] := by rfl) (hbase : attributeBase o "join" X.env (eval o X.env) = eval o X.env := by rfl) (hline : (apos.endLine == pos.line) = true := by rfl) :
    PD X C (.Call (.Attribute o "join" apos) [e] [] pos) (dJoin ds da) := pd_m1 PySem.F.slot_str_join PySem.F.type_str_join md_join ho he hs hbase hline
/-- s.index(c), c a sign of s -/
def indexR : D → D → D → Prop := fun x y z => ∃ s c, x = .str s ∧ y = .str [c] ∧ c ∈ s ∧ z = .int (s.idxOf c : Nat)
theorem idx_first {l : List Nat} {c i : Nat} (h : l[i]? = some c) (hn : ∀ k, k < i → l[k]? ≠ some c) : l.idxOf c = i := by
  induction l generalizing i with
  | nil => simp at h
  | cons x r ih =>
    rw [List.idxOf_cons]
    cases i with
    | zero =>
      have : x = c := by simpa using h
      subst this
      simp
    | succ i =>
      have hx : x ≠ c := fun e => hn 0 (by omega) (by rw [e]; rfl)
      have hb : (x == c) = false := by simpa using hx
      rw [hb, cond_false, ih (i := i) (by simpa using h) (fun k hk => by
        have := hn (k + 1) (by omega)
        simpa using this)]
theorem pre_one {l : List Nat} {c i : Nat} : TL.pre [c] (l.drop i) = true ↔ l[i]? = some c := by
  unfold TL.pre
  by_cases h : i < l.length
  · rw [List.drop_eq_getElem_cons h, List.getElem?_eq_getElem h]
    rw [show List.take ([c] : List Nat).length (l[i] :: List.drop (i + 1) l) = [l[i]] from rfl]
    simp
  · rw [List.drop_eq_nil_of_le (by omega), List.getElem?_eq_none (by omega)]
    simp
theorem occ_index {s : List Nat} {c : Nat} (h : c ∈ s) : ∃ rest, Builtin.Str.occurrences ⟨s.toArray⟩ ⟨#[c]⟩ 0 (⟨s.toArray⟩ : Str).length 1 = s.idxOf c :: rest := by
  have ne : TL.tl (⟨#[c]⟩ : Str) ≠ [] := by simp [TL.tl]
  have at_ : ∀ i, PySem.StrLaws.At ⟨s.toArray⟩ ⟨#[c]⟩ (⟨s.toArray⟩ : Str).length i ↔ s[i]? = some c := fun i => by
    rw [TL.at_iff ne i]
    rw [show TL.tl (⟨#[c]⟩ : Str) = [c] from rfl, TL.tl_mk]
    exact pre_one
  rcases PySem.StrLaws.occ_head ⟨s.toArray⟩ ⟨#[c]⟩ 1 (Nat.le_refl 1) with ⟨_, hn⟩ | ⟨i, r, h1, h2, h3⟩
  · obtain ⟨i, hi⟩ := List.mem_iff_getElem?.mp h
    exact absurd ((at_ i).mpr hi) (hn i)
  · refine ⟨r, ?_⟩
    rw [h1, idx_first ((at_ i).mp h2) fun k hk e => h3 k hk ((at_ k).mpr e)]
theorem md_index : MtD X C "str.index" indexR := by
  refine ⟨_, mt_sindex, fun σ H F ρ x y v u z Q rp rx ry hg k => ?_⟩
  obtain ⟨s, c, rfl, rfl, hc, rfl⟩ := hg
  cases rp_str_inv rx
  cases rp_str_inv ry
  obtain ⟨rest, hr⟩ := occ_index hc
  exact ⟨_, _, _, rest, rfl, rfl, hr, k _ _ _ rp Step.refl rp_int⟩
theorem pd_index {o e : Expr} {apos pos : Pos} {ds da : DE} (ho : PD X C o ds) (he : PD X C e da) (hs : starEach [e] X.env = [(false, eval e X.env)] := by rfl) (hbase : attributeBase o "index" X.env (eval o X.env) = eval o X.env := by rfl) (hline : (apos.endLine == pos.line) = true := by rfl) :
    PD X C (.Call (.Attribute o "index" apos) [e] [] pos) (dM1 indexR ds da) := pd_m1 PySem.F.slot_str_index PySem.F.type_str_index md_index ho he hs hbase hline
/-- str of an int -/
theorem cd_str : CallD X C (.type "str") strOfR := by
  refine ⟨_, call_str_int, fun σ H F ρ xs vs z Q rp rx hg k => ?_⟩
  unfold strOfR at hg
  split at hg
  · obtain ⟨v, rfl, h⟩ := rps_one rx
    obtain ⟨hl, rfl⟩ := hg
    cases rp_int_inv h
    refine ⟨_, rfl, hl, k _ _ _ rp Step.refl (rp_str' ?_)⟩
    exact TL.tl_ofString _
  · exact hg.elim
/-- sorted of texts -/
def dSortS (da : DE) : DA := fun ρ R => da ρ fun x ρ1 => ∃ xs ss, x = .lst xs ∧ strsOf xs = some ss ∧ ss.length < 64 ∧ ∀ ts : List (List Nat), ts.Perm ss → PyProof.Rows.sortedS (ts.map fun s => (⟨s.toArray⟩ : Str)) = true → R (ts.map D.str) ρ1
theorem perm_map_inv {α β : Type} {f : α → β} {l : List α} {m : List β} (h : m.Perm (l.map f)) : ∃ k : List α, k.Perm l ∧ m = k.map f := by
  obtain ⟨l2, h1, h2⟩ : ∃ k : List α, k.Perm l ∧ m = k.map f := by
    generalize e : l.map f = n at h
    induction h generalizing l with
    | nil =>
      have : l = [] := by simpa using e
      exact ⟨[], by rw [this], rfl⟩
    | cons x p ih =>
      cases l with
      | nil => cases e
      | cons a l =>
        rw [List.map_cons] at e
        injection e with e1 e2
        obtain ⟨k, k1, k2⟩ := ih e2
        exact ⟨a :: k, k1.cons a, by rw [List.map_cons, e1, k2]⟩
    | swap x y p =>
      cases l with
      | nil => cases e
      | cons a l =>
        cases l with
        | nil => cases e
        | cons b l =>
          rw [List.map_cons, List.map_cons] at e
          injection e with e1 e2
          injection e2 with e2 e3
          exact ⟨b :: a :: l, List.Perm.swap a b l, by rw [List.map_cons, List.map_cons, e1, e2, e3]⟩
    | trans p1 p2 ih1 ih2 =>
      obtain ⟨k, k1, k2⟩ := ih2 e
      obtain ⟨k', k1', k2'⟩ := ih1 k2.symm
      exact ⟨k', k1'.trans k1, k2'⟩
  exact ⟨l2, h1, h2⟩
theorem pdl_sortS {x : Str} {p pos : Pos} {e : Expr} {da : DE} (hg : Gl X x) (hm : X.mg x = none) (hv : bootBuiltins x = some (.builtin "sorted")) (ha : PD X C e da)
    (hn : x ≠ "__name__" := by decide) (hdb : (x == ("__debug__" : Str)) = false := by decide)
    (he : starEach [e] X.env = (false, eval e X.env) :: starEach [] X.env := by rfl) (hpl : (backTo pos (starEach [] X.env)).any (·.1) = false := by rfl) :
    PDL X C (.Call (.Name x p) [e] [] pos) (dSortS da) := by
  obtain ⟨te, a1, a2⟩ := ha
  refine ⟨_, pe_callB cr_sortedS hg hm hv (pa_cons a1 pa_nil he) hn hdb he hpl, fun σ H F ρ Q R rp hd q => ?_⟩
  refine a2 σ H F ρ _ _ rp hd fun v H1 F1 x ρ1 rp1 s1 rx hr => ?_
  obtain ⟨xs, ss, rfl, hss, hl, hr⟩ := hr
  obtain ⟨a, vs, rfl, b1, b2⟩ := rp_lst_inv rx
  have ev := strsOf_ok hss b2
  refine ⟨a, ss.map fun s => (⟨s.toArray⟩ : Str), rfl, SqL.of (by rw [← ev]; exact rp1.sub _ _ b1), by rw [List.length_map]; exact hl, fun ys p hp hs hnew => ?_⟩
  obtain ⟨ts, t1, rfl⟩ := perm_map_inv hp
  exact fl_end rp1 s1 hnew _ (rps_strs ts) (hr ts t1 hs) q
/-- range with a step -/
def rgC (lo c : Int) (n : Nat) : List D := (List.range n).map fun i => D.int (lo + (i : Nat) * c)
theorem itok_rngC {K : PySem.W.Frag} {F : Hp} {lo c : Int} {n : Nat} : ItOk K C (Itc lo c n) F (rgC lo c n) :=
  ⟨fun i σ H F' ρ hi rp _ => by
    unfold rgC at hi
    rw [List.length_map, List.length_range] at hi
    exact hi,
   fun i σ H F' ρ hi rp _ => by
    unfold rgC at hi
    rw [List.length_map, List.length_range] at hi
    exact hi,
   fun i x σ H F' ρ v H2 e rp _ hy => by
    obtain ⟨rfl, rfl⟩ := hy
    unfold rgC at e
    rw [List.getElem?_map] at e
    cases e2 : (List.range n)[i]? with
    | none => rw [e2] at e; cases e
    | some j =>
      rw [e2] at e
      have : j = i := by
        obtain ⟨h1, h2⟩ := List.getElem?_eq_some_iff.mp e2
        rw [List.getElem_range] at h2
        exact h2.symm
      subst this
      cases e
      exact ⟨F', rp, Step.refl, rp_int⟩⟩
def diR3 (da : DA) : DA := fun ρ R => da ρ fun xs ρ1 => ∃ i j c n, xs = [.int i, .int j, .int c] ∧ RgC i j c n ∧ R (rgC i c n) ρ1
theorem pdi_rng3 {tg a b c : Expr} {p pos : Pos} {da : DA} (hg : Gl X "range") (hm : X.mg "range" = none) (ha : PDA X C [a, b, c] da) (hs : starEach [a, b, c] X.env = (false, eval a X.env) :: starEach [b, c] X.env := by rfl) (hpl : (backTo pos (starEach [b, c] X.env)).any (·.1) = false := by rfl) :
    PDI X C tg (.Call (.Name "range" p) [a, b, c] [] pos) (diR3 da) := by
  obtain ⟨te, a1, a2⟩ := ha
  refine ⟨_, pi_range3 hg hm a1 hs hpl, fun σ H F ρ Q R rp hd q => ?_⟩
  refine a2 σ H F ρ _ _ rp hd fun vs H1 F1 xs ρ1 rp1 s1 rx hr => ?_
  obtain ⟨i, j, c, n, rfl, h1, hr⟩ := hr
  obtain ⟨v, r, rfl, r1, r2⟩ : ∃ v r, vs = v :: r ∧ Rp X.K F1 (.int i) v ∧ Rps X.K F1 [.int j, .int c] r := by
    unfold Rps at rx; exact rx
  obtain ⟨u, w, rfl, r3, r4⟩ := rps_two r2
  cases rp_int_inv r1
  cases rp_int_inv r3
  cases rp_int_inv r4
  exact ⟨i, j, c, n, rfl, h1, q _ _ _ _ _ rp1 s1 itok_rngC hr⟩
end
end DL
namespace PySem
namespace DLJ
open Sem (wp)
open Builtin Builtin.Str Builtin.Int
theorem join_tree_ref (sep : Str) (a : Addr) (t : Tok) : «str.join» ⟨[.str sep t, .ref a], []⟩ = (do
    let ty ← typeOf (.ref a)
    if (ty == .type "list" || ty == .type "tuple") = true then (do
      match ← seqItems? (.ref a) with
      | some xs => joinTail sep xs.toList
      | none => unsupported "internal:str.join")
    else (do
      let it ← (pyIter (.ref a)).tryCatch fun e => do
        if ← isInstance e (.type "TypeError") then rule "str.join.not-iterable"; raiseError "TypeError" "can only join an iterable" else throw e
      let items ← collect it
      joinTail sep items)) := rfl
theorem gives_join (x : PySem.Str) (l : List (PySem.Str × Tok)) (h : tooLong ((l.map (·.1)).toArray.foldl (· + ·.length + x.length) 0) = false) : Gives (joinTail x (strValues l)) (joinMade x l) := by
  have g0 := gives_joinTail x l h
  cases l with
  | nil => exact g0
  | cons p r => cases r with
    | nil => exact g0
    | cons q r' => exact g0
theorem strValues_rev (l : List (PySem.Str × Tok)) : strValues l.reverse = (strValues l).reverse := by
  unfold strValues
  rw [List.map_reverse]
section
variable {prog : Program} {w : World} {A : Around} {E : Value → Shared → Prop} {s : Shared} {x : PySem.Str} {t : Tok} {Q : Value → Shared → Prop}
theorem join_rev {it l : Addr} {items : Array Value} {ys : List PySem.Str} (hh : A.handled = none) (hit : s.heap.IsRevIter it l ((items.size : Int) - 1)) (hl : s.heap.IsList l items) (hne : l ≠ it) (hn : items.size ≤ sizeLine) (hi : PyProof.Rows.StrsAre items.toList ys)
    (hok : (ys.map (·.length)).sum + ys.length * x.length ≤ 16777216)
    (hq : ∀ h' k t', (∀ b o, b ≠ it → s.heap.get? b = some o → h'.get? b = some o) → Q (.str (Txt.join x ys.reverse) t') { s with heap := h', toks := k }) :
    wpAny (model prog w) A (call (.builtin "str.join") [.str x t, .ref it]) Q E s := by
  refine wpAny_call (codeAny_call_builtin F.slot_str_join.plain F.entry_str_join (F.slot_str_join.check _ _ _ _ _ _ _ _ (typeIs_str _ _ _) (F.args_str_join_2 _ _) ?_))
  rw [join_tree_ref]
  refine wpAny_bind (wpAny_typeOf hit.typeIs ?_)
  show wpAny _ _ ((pyIter (.ref it)).tryCatch _ >>= fun it => collect it >>= fun items => joinTail x items) _ _ s
  refine wpAny_bind (wpAny_tryCatch (wpAny_pyIter_revIter hit ?_))
  refine wpAny_bind (RT.collect_rev (A := A.in1) hh hit hl hne hn fun h' tk acc hk hacc => ?_)
  obtain ⟨l1, hv, ht⟩ := PyProof.Rows.strsAre_values hi
  have ea : acc.toList = strValues l1.reverse := by
    rw [strValues_rev, ← hv]
    refine List.ext_getElem? fun i => ?_
    have hsz : acc.size = items.size := hacc.1
    by_cases hlt : i < acc.size
    · have e1 : acc[i]? = some acc[i] := Array.getElem?_eq_getElem hlt
      have h2 := hacc.2 i _ e1
      rw [List.getElem?_reverse (by rw [Array.length_toList, ← hsz]; exact hlt), Array.getElem?_toList, e1, Array.length_toList, Array.getElem?_toList, ← h2]
    · rw [List.getElem?_eq_none (by rw [Array.length_toList]; omega), List.getElem?_eq_none (by rw [List.length_reverse, Array.length_toList]; omega)]
  rw [ea]
  have hrev : l1.reverse.map (·.1) = ys.reverse := by rw [List.map_reverse, ht]
  have hok' : JoinOk x (l1.reverse.map (·.1)) = true := by
    rw [hrev]
    refine PyProof.Rows.joinOk_of ?_
    rw [List.map_reverse, List.sum_reverse, List.length_reverse]
    exact hok
  have hok2 := hok'
  unfold JoinOk at hok'
  rw [Bool.not_eq_true'] at hok'
  have g : Gives (joinTail x (strValues l1.reverse)) (joinMade x l1.reverse) := gives_join x l1.reverse hok'
  exact g prog w A (wants Q E) _ (post_join l1.reverse ⟨joinFit_length hok', fun t' k => by rw [hrev]; exact hq h' k t' hk⟩)
end
end DLJ
end PySem
namespace DL
open PySem PySem.Spec L2
section
variable {X : Cx} {C : Cd}
def tJoinRev (K : PySem.W.Frag) (to : TE) (ta : TA) : TE := fun σ H Q => to σ H fun x H1 => ∃ z : Str, x = .str z ∧ ta σ H1 fun vs H2 => ∃ (a : Addr) (ys : List Str), vs = [.ref a] ∧ SqL K H2 a (ys.map V.str) ∧ (ys.map (·.length)).sum + ys.length * z.length ≤ 16777216 ∧ Q (.str (Txt.join z ys.reverse)) H2
open PyProof.Rows in
theorem pe_joinRev {o e : Expr} {apos pos p rpos : Pos} {to : TE} {ta : TA} (hc : X.calm = true) (ho : PE X o to) (he : PA X [e] ta) (hg : Gl X "reversed") (hm : X.mg "reversed" = none) (hs0 : starEach [e] X.env = [(false, eval e X.env)] := by rfl)
    (hs : starEach [.Call (.Name "reversed" p) [e] [] rpos] X.env = [(false, eval (.Call (.Name "reversed" p) [e] [] rpos) X.env)] := by rfl) (hbase : attributeBase o "join" X.env (eval o X.env) = eval o X.env := by rfl) (hline : (apos.endLine == pos.line) = true := by rfl) :
    PE X (.Call (.Attribute o "join" apos) [.Call (.Name "reversed" p) [e] [] rpos] [] pos) (tJoinRev X.K to ta) := by
  refine ⟨fun pins s σ H Q I h => ?_⟩
  refine PySem.Call_method1 hbase hs hline (thn (ho.run pins s σ H _ I h) fun v s1 ⟨x, H1, I1, r1, q1⟩ => ?_)
  obtain ⟨z, rfl, q1⟩ := q1
  obtain ⟨t, rfl⟩ := r1
  refine ⟨"str", _, PySem.F.plainAttrs_str, PySem.F.slot_str_join, PySem.F.type_str_join, PySem.typeIs_str _ _ _, (fun _ e => nomatch e), PySem.Calls.callWith_builtin rfl (PySem.Calls.evalArgs_plain (PySem.Calls.spliced_cons ?_))⟩
  refine Call_ (ld_blt I1 hg hm PyProof.Rows.boot_reversed (PyProof.Rows.callWith_type1 (thn (he.run rpos pins s1 σ H1 _ I1 q1) fun us s2 ⟨vs, H2, I2, r2, q2⟩ => ?_) hs0 rfl))
  obtain ⟨a, ys, rfl, hL, hl, q⟩ := q2
  cases r2 with
  | cons r rr =>
    cases rr
    cases r
    obtain ⟨its, rv, p', hz⟩ := I2.list hL
    have hlen := rv.length
    refine call_reversed_list p'.isList (PySem.Calls.spliced_nil ?_)
    obtain ⟨oa, hoa, _⟩ := id p'.isList
    have hne : a ≠ s2.heap.objs.size := Nat.ne_of_lt (Heap.lt_size hoa)
    have kp : ∀ b o, s2.heap.get? b = some o → (s2.heap.push (revObj a ((its.toArray.size : Int) - 1))).get? b = some o := fun b o e => Heap.get?_push_of_some _ e
    have hl2 : (s2.heap.push (revObj a ((its.toArray.size : Int) - 1))).IsList a its.toArray := by
      obtain ⟨o, h1, h2⟩ := p'.isList
      exact ⟨o, kp _ _ h1, h2⟩
    refine PySem.DLJ.join_rev (ys := ys) (I2.ok.hd hc) ⟨_, Heap.get?_push_size _ rfl, rfl, rfl⟩ hl2 hne (by rw [List.size_toArray]; omega) (by rw [List.toList_toArray]; exact strs_of_vals rv) hl fun h' k t' hk => ?_
    refine ⟨.str _, H2, I2.kept (t' := k) (h' := h') (fun b o e => hk b o (fun z => ?_) (kp b o e)), ⟨t', rfl⟩, q⟩
    rw [z] at e
    exact Nat.lt_irrefl _ (Heap.lt_size e)
def dJoinRev (ds da : DE) : DE := fun ρ R => ds ρ fun x ρ1 => ∃ sep, x = .str sep ∧ da ρ1 fun y ρ2 => ∃ xs ss, y = .lst xs ∧ strsOf xs = some ss ∧ (ss.map (·.length)).sum + ss.length * sep.length ≤ 16777216 ∧ R (.str (TL.joinL sep ss.reverse)) ρ2
theorem pd_joinRev {o e : Expr} {apos pos p rpos : Pos} {ds da : DE} (ho : PD X C o ds) (he : PD X C e da) (hg : Gl X "reversed") (hm : X.mg "reversed" = none) (hc : X.calm = true := by rfl) (hs0 : starEach [e] X.env = [(false, eval e X.env)] := by rfl)
    (hs : starEach [.Call (.Name "reversed" p) [e] [] rpos] X.env = [(false, eval (.Call (.Name "reversed" p) [e] [] rpos) X.env)] := by rfl) (hbase : attributeBase o "join" X.env (eval o X.env) = eval o X.env := by rfl) (hline : (apos.endLine == pos.line) = true := by rfl) :
    PD X C (.Call (.Attribute o "join" apos) [.Call (.Name "reversed" p) [e] [] rpos] [] pos) (dJoinRev ds da) := by
  obtain ⟨to, o1, o2⟩ := ho
  obtain ⟨te, e1, e2⟩ := he
  refine ⟨_, pe_joinRev hc o1 (pa_cons e1 pa_nil hs0) hg hm hs0 hs hbase hline, fun σ H F ρ Q R rp hd q => ?_⟩
  refine o2 σ H F ρ _ _ rp hd fun v H1 F1 x ρ1 rp1 s1 rx hr => ?_
  obtain ⟨sep, rfl, hr⟩ := hr
  refine ⟨_, rp_str_inv rx, e2 σ H1 F1 ρ1 _ _ rp1 hr fun u H2 F2 y ρ2 rp2 s2 ry hr2 => ?_⟩
  obtain ⟨xs, ss, rfl, hss, hl, hr2⟩ := hr2
  obtain ⟨a, vs, rfl, b1, b2⟩ := rp_lst_inv ry
  have ev := strsOf_ok hss b2
  refine ⟨a, ss.map fun s => (⟨s.toArray⟩ : Str), rfl, SqL.of (by rw [← ev]; exact rp2.sub _ _ b1), by rw [lens_str, List.length_map, str_len]; exact hl, ?_⟩
  rw [← List.map_reverse, join_str]
  exact q _ _ _ _ _ rp2 (s1.trans s2) rp_str hr2
end
end DL
namespace DL
open PySem PySem.Spec L2
/-- a hidden continuation: simp does not enter it -/
structure Hid {α : Type} (a : α) : Type where
  mk ::
/-- the comprehension's loop, its continuation hidden -/
def dLcR (g : DG) (t : DT) (de : DE) (vs : List Nat) (xs acc : List D) (ρ : List S) (RL : List D → List S → Prop) (_ : Hid RL) : Prop := dLcL g t de vs xs acc ρ RL
/-- a list that stands there sign by sign -/
def litS : List S → Bool
  | [] => false
  | _ :: _ => true
theorem litS_cons {a : S} {l : List S} : litS (a :: l) = true := rfl
theorem litS_set {l : List S} {i : Nat} {x : S} : litS (l.set i x) = litS l := by
  cases l with
  | nil => rfl
  | cons a l => cases i <;> rfl
def augR (xs : List D) (i : D) (Q : Int → Int → Prop) : Prop := ∃ n a, i = .int n ∧ 0 ≤ n ∧ xs[n.toNat]? = some (.int a) ∧ Q n a
section
variable {ok : List D → Prop} {ρ : List S} {E : DEn} {R : D → List S → Prop} {RL : List D → List S → Prop} {RB : Bool → List S → Prop} {RJ : List Ar → List S → Prop} {RO : Option Int → List S → Prop} {RS : List S → Prop}
theorem x_seq {s t : DS} : dSeq s t E ρ = s { E with nx := t E } ρ := rfl
theorem x_next : dNext E ρ = E.nx ρ := rfl
theorem x_brk : dBrk E ρ = E.bk ρ := rfl
theorem x_cnt : dCnt E ρ = E.ct ρ := rfl
theorem x_drop {de : DE} : dDrop de E ρ = de ρ fun _ ρ1 => E.nx ρ1 := rfl
theorem x_ret {de : DE} : dRet de E ρ = de ρ E.rt := rfl
theorem x_retN : dRetN E ρ = E.rt .non ρ := rfl
theorem x_retL {dl : DA} : dRetL dl E ρ = dl ρ E.ro := rfl
theorem x_retO {k : Nat} (hL : (litS ρ = true) = True) : dRetO k E ρ = match ρ[k]? with
  | some (.own xs) => E.ro xs ρ
  | _ => False := propext ⟨fun ⟨a, e, h⟩ => by rw [e]; exact h, fun h => by
    split at h
    · rename_i a e; exact ⟨a, e, h⟩
    · exact h.elim⟩
theorem x_if {t : DT} {s u : DS} : dIf t s u E ρ = t ρ fun b ρ1 => if b = true then s E ρ1 else u E ρ1 := rfl
theorem x_asg {de : DE} {g : DG} : dAsg de g E ρ = de ρ fun x ρ1 => g x ρ1 E.nx := rfl
theorem x_par {i j : Nat} {da : DA} : dPar i j da E ρ = da ρ fun xs ρ1 => ∃ x y, xs = [x, y] ∧ unp ρ1 i = true ∧ unp (ρ1.set i (.d x)) j = true ∧ E.nx ((ρ1.set i (.d x)).set j (.d y)) := rfl
theorem x_own {k : Nat} {dl : DA} : dOwn k dl E ρ = dl ρ fun xs ρ1 => unp ρ1 k = true ∧ E.nx (ρ1.set k (.own xs)) := rfl
theorem x_gN {k : Nat} {x : D} : dgN k x ρ RS = (unp ρ k = true ∧ RS (ρ.set k (.d x))) := rfl
theorem x_gT {n : Nat} {g : DGs} {x : D} : dgTup n g x ρ RS = ∃ xs, x = .tup xs ∧ xs.length = n ∧ g xs ρ RS := rfl
theorem x_gnil {xs : List D} : dgNil xs ρ RS = (xs = [] ∧ RS ρ) := rfl
theorem x_gcons {g : DG} {gs : DGs} {xs : List D} : dgCons g gs xs ρ RS = ∃ x r, xs = x :: r ∧ g x ρ fun ρ1 => gs r ρ1 RS := rfl
theorem x_var {k : Nat} (hL : (litS ρ = true) = True) : dVar k ρ R = match ρ[k]? with
  | some (.d x) => R x ρ
  | some (.own xs) => R (.lst xs) (ρ.set k (.d (.lst xs)))
  | _ => False := propext Iff.rfl
theorem x_C {x : D} : dC x ρ R = R x ρ := rfl
theorem x_nil : dNil ρ RL = RL [] ρ := rfl
theorem x_cons {de : DE} {dr : DA} : dCons de dr ρ RL = de ρ fun x ρ1 => dr ρ1 fun xs ρ2 => RL (x :: xs) ρ2 := rfl
theorem x_tup {da : DA} : dTup da ρ R = da ρ fun xs ρ1 => xs.length ≤ 16777216 ∧ R (.tup xs) ρ1 := rfl
theorem x_lst {da : DA} : dLst da ρ R = da ρ fun xs ρ1 => xs.length ≤ 16777216 ∧ R (.lst xs) ρ1 := rfl
theorem x_llst {da : DA} : dlLst da ρ RL = da ρ fun xs ρ1 => xs.length ≤ 16777216 ∧ RL xs ρ1 := rfl
theorem x_llist {da : DE} : dlList da ρ RL = da ρ fun x ρ1 => ∃ ys, lstOfR [x] (.lst ys) ∧ RL ys ρ1 := rfl
theorem x_lcat {da db : DE} : dlCat da db ρ RL = da ρ fun x ρ1 => db ρ1 fun y ρ2 => ∃ xs ys, x = .lst xs ∧ y = .lst ys ∧ xs.length + ys.length ≤ 16777216 ∧ RL (xs ++ ys) ρ2 := rfl
theorem x_fz {dl : DA} : dFz dl ρ R = dl ρ fun xs ρ1 => R (.lst xs) ρ1 := rfl
theorem x_op {g : D → D → D → Prop} {da db : DE} : dOp g da db ρ R = da ρ fun x ρ1 => db ρ1 fun y ρ2 => ∃ z, g x y z ∧ R z ρ2 := rfl
theorem x_tst {de : DE} : dTst de ρ RB = de ρ fun x ρ1 => ∃ b, x = .bl b ∧ RB b ρ1 := rfl
theorem x_tru {de : DE} : dTru de ρ RB = de ρ fun x ρ1 => ∃ b, truD x b ∧ RB b ρ1 := rfl
theorem x_chain {g g' : D → D → D → Prop} {da db dc : DE} : dChain g g' da db dc ρ R = da ρ fun x ρ1 => db ρ1 fun y ρ2 => ∃ b, g x y (.bl b) ∧ (if b = true then dc ρ2 fun z ρ3 => ∃ w, g' y z w ∧ R w ρ3 else R (.bl false) ρ2) := rfl
theorem x_and {s t : DT} : dAnd s t ρ RB = s ρ fun b ρ1 => if b = true then t ρ1 RB else RB false ρ1 := rfl
theorem x_or {s t : DT} : dOr s t ρ RB = s ρ fun b ρ1 => if b = true then RB true ρ1 else t ρ1 RB := rfl
theorem x_not {s : DT} : dNot s ρ RB = s ρ fun b ρ1 => RB (!b) ρ1 := rfl
theorem x_andV {da db : DE} : dAndV da db ρ R = da ρ fun x ρ1 => ∃ c, x = .bl c ∧ if c = true then db ρ1 R else R (.bl false) ρ1 := rfl
theorem x_orV {da db : DE} : dOrV da db ρ R = da ρ fun x ρ1 => ∃ c, x = .bl c ∧ if c = true then R (.bl true) ρ1 else db ρ1 R := rfl
theorem x_notV {da : DE} : dNotV da ρ R = da ρ fun x ρ1 => ∃ c, x = .bl c ∧ R (.bl (!c)) ρ1 := rfl
theorem x_ifE {t : DT} {da db : DE} : dIfE t da db ρ R = t ρ fun c ρ1 => if c = true then da ρ1 R else db ρ1 R := rfl
theorem x_neg {da : DE} : dNeg da ρ R = da ρ fun x ρ1 => ∃ i, x = .int i ∧ R (.int (-i)) ρ1 := rfl
theorem x_ixM {k : Nat} {db : DE} : dIxM ok k db ρ R = (mtS ρ k = true ∧ db ρ fun i ρ1 => dOpen ok k ρ1 fun xs ρ2 => ∃ n z, i = .int n ∧ atI xs n = some z ∧ R z ρ2) := rfl
theorem x_noP : dNoP ρ RO = RO none ρ := rfl
theorem x_P {de : DE} : dP de ρ RO = de ρ fun x ρ1 => ∃ i, x = .int i ∧ RO (some i) ρ1 := rfl
theorem x_sl {da : DE} {dl dh : DO} : dSl da dl dh ρ R = da ρ fun x ρ1 => dl ρ1 fun lo ρ2 => dh ρ2 fun hi ρ3 => ∃ z, slR x lo hi z ∧ R z ρ3 := rfl
theorem x_cb {g : List D → D → Prop} {da : DA} : dCB g da ρ R = da ρ fun xs ρ1 => ∃ z, g xs z ∧ R z ρ1 := rfl
theorem x_isi {T : String} {de : DE} : dIsi T de ρ R = de ρ fun x ρ1 => ∃ b, kitB (tyD x) T = some b ∧ R (.bl b) ρ1 := rfl
theorem x_noRo {de : DE} : dNoRo de ρ R = de ρ fun x ρ1 => noRo x = true ∧ R x ρ1 := rfl
theorem x_seti {k : Nat} {de di : DE} : dSetI ok k de di E ρ = de ρ fun x ρ1 => mtS ρ1 k = true ∧ di ρ1 fun i ρ2 => dOpenW ok k ρ2 fun xs put => ∃ n j, i = .int n ∧ ixN xs.length n = some j ∧ E.nx (put (xs.set j x)) := rfl
theorem x_augi {f : Int → Int → Int} {k : Nat} {di de : DE} : dAugI ok f k di de E ρ = (mtS ρ k = true ∧ di ρ fun i ρ1 => dOpen ok k ρ1 fun xs ρ2 => augR xs i fun n a => de ρ2 fun y ρ3 => ∃ b, y = .int b ∧ dOpenW ok k ρ3 fun xs put => n.toNat < xs.length ∧ E.nx (put (xs.set n.toNat (.int (f a b))))) := rfl
theorem x_aug2 {xs : List D} {n : Int} {Q : Int → Int → Prop} : augR xs (.int n) Q = (0 ≤ n ∧ match xs[n.toNat]? with
  | some (.int a) => Q n a
  | _ => False) := propext ⟨fun ⟨_, a, e, h0, e2, q⟩ => by cases e; rw [e2]; exact ⟨h0, q⟩, fun ⟨h0, q⟩ => by
    split at q
    · rename_i a e; exact ⟨n, a, rfl, h0, e, q⟩
    · exact q.elim⟩
theorem x_aug {f : Int → Int → Int} {k : Nat} {de : DE} (hL : (litS ρ = true) = True) : dAug f k de E ρ = match ρ[k]? with
  | some (.d (.int a)) => de ρ fun y ρ1 => ∃ b, y = .int b ∧ unp ρ1 k = true ∧ E.nx (ρ1.set k (.d (.int (f a b))))
  | _ => False := propext ⟨fun ⟨a, e, h⟩ => by rw [e]; exact h, fun h => by
    split at h
    · rename_i a e; exact ⟨a, e, h⟩
    · exact h.elim⟩
theorem x_app {k : Nat} {de : DE} : dApp ok k de E ρ = (mtS ρ k = true ∧ de ρ fun x ρ1 => dOpenW ok k ρ1 fun xs put => xs.length < 16777216 ∧ E.nx (put (xs ++ [x]))) := rfl
theorem x_ext {k : Nat} {de : DE} : dExt ok k de E ρ = (mtS ρ k = true ∧ de ρ fun x ρ1 => ∃ ys, x = .lst ys ∧ dOpenW ok k ρ1 fun xs put => xs.length + ys.length ≤ 16777216 ∧ E.nx (put (xs ++ ys))) := rfl
theorem x_pop {k : Nat} : dPop ok k ρ R = (mtS ρ k = true ∧ dOpenW ok k ρ fun xs put => ∃ z, xs[xs.length - 1]? = some z ∧ R z (put xs.dropLast)) := rfl
theorem x_lenN {k : Nat} : dLenN ok k ρ R = dOpen ok k ρ fun xs ρ1 => R (.int xs.length) ρ1 := rfl
theorem x_truN {k : Nat} : dTruN ok k ρ RB = dOpen ok k ρ fun xs ρ1 => RB (!xs.isEmpty) ρ1 := rfl
theorem x_open {k : Nat} {q : List D → List S → Prop} (hL : (litS ρ = true) = True) : dOpen ok k ρ q = match ρ[k]? with
  | some (.own xs) => q xs ρ
  | some (.jo xs) => q xs ρ
  | some .jar => ∀ xs, ok xs → q xs (ρ.set k (.jo xs))
  | some (.d (.lst xs)) => q xs ρ
  | _ => False := propext Iff.rfl
theorem x_openW {k : Nat} {q : List D → (List D → List S) → Prop} (hL : (litS ρ = true) = True) : dOpenW ok k ρ q = match ρ[k]? with
  | some (.own xs) => q xs fun ys => ρ.set k (.own ys)
  | some (.jo xs) => q xs fun ys => ρ.set k (.jo ys)
  | some .jar => ∀ xs, ok xs → q xs fun ys => ρ.set k (.jo ys)
  | _ => False := propext Iff.rfl
theorem x_for {di : DA} {g : DG} {s : DS} : dFor di g s E ρ = di ρ fun xs ρ1 => dLoop g s E xs ρ1 := rfl
theorem x_lnil {g : DG} {s : DS} : dLoop g s E [] ρ = E.nx ρ := rfl
theorem x_lcons {g : DG} {s : DS} {x : D} {xs : List D} : dLoop g s E (x :: xs) ρ = g x ρ fun ρ1 => s { nx := dLoop g s E xs, rt := E.rt, bk := E.nx, ct := dLoop g s E xs, ro := E.ro } ρ1 := rfl
theorem x_iseq {de : DE} {k : D → Bool} : diSeq de k ρ RL = de ρ fun x ρ1 => k x = true ∧ ∃ xs, itemsOf x = some xs ∧ RL xs ρ1 := rfl
theorem x_r1 {de : DE} : diR1 de ρ RL = de ρ fun x ρ1 => ∃ n, x = .int n ∧ n ≤ 16777216 ∧ -16777216 ≤ n ∧ RL (rgD 0 n.toNat) ρ1 := rfl
theorem x_r2 {da : DA} : diR2 da ρ RL = da ρ fun xs ρ1 => ∃ m n, xs = [.int m, .int n] ∧ (n ≤ 16777216 ∧ -16777216 ≤ n ∧ m ≤ 16777216 ∧ -16777216 ≤ m) ∧ RL (rgD m (n - m).toNat) ρ1 := rfl
theorem x_r3 {da : DA} : diR3 da ρ RL = da ρ fun xs ρ1 => ∃ i j c n, xs = [.int i, .int j, .int c] ∧ RgC i j c n ∧ RL (rgC i c n) ρ1 := rfl
theorem x_call {m : DM} {da : DJ} : dCall ok m da ρ R = da ρ fun as ρ1 => (jarsOf as).Nodup ∧ takeA ok as ρ1 fun ss ρ2 => m ss fun x => R x ρ2 := rfl
theorem x_jnil : djNil ρ RJ = RJ [] ρ := rfl
theorem x_jv {de : DE} {dr : DJ} : djV de dr ρ RJ = de ρ fun x ρ1 => dr ρ1 fun as ρ2 => RJ (.v x :: as) ρ2 := rfl
theorem x_jj {k : Nat} {dr : DJ} : djJ k dr ρ RJ = (mtS ρ k = true ∧ dr ρ fun as ρ2 => RJ (.j k :: as) ρ2) := rfl
theorem x_tnil {q : List S → List S → Prop} : takeA ok [] ρ q = q [] ρ := rfl
theorem x_tv {x : D} {r : List Ar} {q : List S → List S → Prop} : takeA ok (.v x :: r) ρ q = takeA ok r ρ fun as ρ' => q (.d x :: as) ρ' := rfl
theorem x_tj {k : Nat} {r : List Ar} {q : List S → List S → Prop} : takeA ok (.j k :: r) ρ q = dJar ok k ρ fun ρ1 => takeA ok r ρ1 fun as ρ' => q (.jar :: as) ρ' := rfl
theorem x_jar {k : Nat} {q : List S → Prop} (hL : (litS ρ = true) = True) : dJar ok k ρ q = match ρ[k]? with
  | some .jar => q ρ
  | some (.own xs) => ok xs ∧ q (ρ.set k .jar)
  | some (.jo xs) => ok xs ∧ q (ρ.set k .jar)
  | _ => False := propext Iff.rfl
theorem x_callO {m : List S → (List D → Prop) → Prop} {da : DA} : dlCallO m da ρ RL = da ρ fun xs ρ1 => m (xs.map .d) fun ys => RL ys ρ1 := rfl
theorem x_m1 {g : D → D → D → Prop} {ds da : DE} : dM1 g ds da ρ R = ds ρ fun x ρ1 => (∃ s, x = .str s) ∧ da ρ1 fun y ρ2 => ∃ z, g x y z ∧ R z ρ2 := rfl
theorem x_join {ds da : DE} : dJoin ds da ρ R = ds ρ fun x ρ1 => (∃ s, x = .str s) ∧ da ρ1 fun y ρ2 => ∃ z, joinR x y z ∧ R z ρ2 := rfl
theorem x_joinRev {ds da : DE} : dJoinRev ds da ρ R = ds ρ fun x ρ1 => ∃ sep, x = .str sep ∧ da ρ1 fun y ρ2 => ∃ xs ss, y = .lst xs ∧ strsOf xs = some ss ∧ (ss.map (·.length)).sum + ss.length * sep.length ≤ 16777216 ∧ R (.str (TL.joinL sep ss.reverse)) ρ2 := rfl
theorem x_sortS {da : DE} : dSortS da ρ RL = da ρ fun x ρ1 => ∃ xs ss, x = .lst xs ∧ strsOf xs = some ss ∧ ss.length < 64 ∧ ∀ ts : List (List Nat), ts.Perm ss → PyProof.Rows.sortedS (ts.map fun s => (⟨s.toArray⟩ : Str)) = true → RL (ts.map D.str) ρ1 := rfl
theorem x_lc {di : DA} {g : DG} {t : DT} {de : DE} {vs : List Nat} : dLc di g t de vs ρ RL = di ρ fun xs ρ1 => noMt ρ1 vs = true ∧ dLcR g t de vs xs [] (wipeS ρ1 vs) (fun ys ρ2 => RL ys (backS ρ1 ρ2 vs)) ⟨⟩ := rfl
theorem x_lcnil {g : DG} {t : DT} {de : DE} {vs : List Nat} {acc : List D} {hd : Hid RL} : dLcR g t de vs [] acc ρ RL hd = RL acc ρ := rfl
theorem x_lccons {g : DG} {t : DT} {de : DE} {vs : List Nat} {x : D} {xs acc : List D} {hd : Hid RL} : dLcR g t de vs (x :: xs) acc ρ RL hd = (acc.length < 16777216 ∧ g x ρ fun ρ2 => noMt ρ2 vs = true ∧ t ρ2 fun b ρ3 => if b = true then de ρ3 fun y ρ4 => dLcR g t de vs xs (acc ++ [y]) (wipeS ρ4 vs) RL hd else dLcR g t de vs xs acc (wipeS ρ3 vs) RL hd) := rfl
theorem x_yes : dYes ρ RB = RB true ρ := rfl
theorem x_nx {as : List S} {Q : D → Prop} : (endsM ok as Q).nx ρ = (backJ ok as ρ ∧ Q .non) := rfl
theorem x_rt {as : List S} {Q : D → Prop} {x : D} : (endsM ok as Q).rt x ρ = (backJ ok as ρ ∧ Q x) := rfl
theorem x_onx {as : List S} {Q : List D → Prop} : (endsO ok as Q).nx ρ = False := rfl
theorem x_oro {as : List S} {Q : List D → Prop} {xs : List D} : (endsO ok as Q).ro xs ρ = (backJ ok as ρ ∧ Q xs) := rfl
theorem x_unp {k : Nat} : unp ρ k = match ρ[k]? with
  | some s => !s.pin
  | none => true := rfl
theorem x_mt {k : Nat} : mtS ρ k = match ρ[k]? with
  | some s => s.mt
  | none => false := rfl
theorem lcR_inv {g : DG} {de : DE} {vs : List Nat} {hd : Hid RL} (P : List D → List D → Prop) {xs acc : List D} (h0 : P xs acc) (hn : ∀ acc, P [] acc → RL acc ρ)
    (ht : ∀ x r acc, P (x :: r) acc → ∀ N : List D → List S → Prop, (∀ acc', P r acc' → N acc' ρ) → acc.length < 16777216 ∧ g x ρ fun ρ2 => noMt ρ2 vs = true ∧ de ρ2 fun y ρ4 => N (acc ++ [y]) (wipeS ρ4 vs)) : dLcR g dYes de vs xs acc ρ RL hd := by
  induction xs generalizing acc with
  | nil => exact hn acc h0
  | cons x r ih => exact ht x r acc h0 (fun a σ => dLcR g dYes de vs r a σ RL hd) fun acc' h => ih h
end
theorem atI_ex {α β : Type} (f : α → β) {xs : List α} {i : Int} {P : β → Prop} : (∃ z, atI (xs.map f) i = some z ∧ P z) = (∃ n, atI xs i = some n ∧ P (f n)) := by
  have e : atI (xs.map f) i = (atI xs i).map f := by
    unfold atI
    rw [List.length_map]
    cases ixN xs.length i with
    | none => rfl
    | some j => exact List.getElem?_map
  rw [e]
  refine propext ⟨fun ⟨z, h, q⟩ => ?_, fun ⟨n, h, q⟩ => ⟨f n, by rw [h]; rfl, q⟩⟩
  cases h2 : atI xs i with
  | none => rw [h2] at h; cases h
  | some n => rw [h2] at h; cases h; exact ⟨n, rfl, q⟩
/-- an item at a place within -/
theorem atI_in {α : Type} {xs : List α} {i : Int} (h0 : 0 ≤ i) (h1 : i < xs.length) : atI xs i = some (xs[i.toNat]'(by omega)) := by
  unfold atI ixN
  rw [if_pos h0, if_pos h1]
  exact List.getElem?_eq_getElem (by omega)
theorem atI_neg1 {α : Type} {xs : List α} (h : xs ≠ []) : atI xs (-1) = some (xs.getLast h) := by
  have hl : 0 < xs.length := List.length_pos_iff.mpr h
  unfold atI ixN
  rw [if_neg (by decide), if_pos (by omega)]
  show xs[(-1 + (xs.length : Int)).toNat]? = _
  have : (-1 + (xs.length : Int)).toNat = xs.length - 1 := by omega
  rw [this, List.getLast_eq_getElem]
  exact List.getElem?_eq_getElem (by omega)
theorem cm_r {i j : Int} (h1 : -(2 ^ 64) < j) (h2 : j < 2 ^ 64) : CMul i j ∨ CMulW i j := Or.inl (Or.inr ⟨h1, h2⟩)
theorem cm_l {i j : Int} (h1 : -(2 ^ 64) < i) (h2 : i < 2 ^ 64) : CMul i j ∨ CMulW i j := Or.inl (Or.inl ⟨h1, h2⟩)
theorem cdiv_of {i j : Int} (h0 : 0 < j) (h : j < 2 ^ 300) : CDivW i j := wide_div (b := 300) h0 (by omega) (by decide) (by decide)
theorem cpow_of {i j : Int} (h0 : 0 ≤ j) (h1 : j ≤ 1000000) (h2 : i.natAbs < 2 ^ 64) : CPow i j := ⟨h0, h1, h2⟩
theorem e_add_int {i j : Int} {P : D → Prop} : (∃ z, addR (.int i) (.int j) z ∧ P z) = (P (.int (i + j))) := by simp [addR, subR, mulR, modR, fdivR, powR, shlR, intR, ltR, leR, gtR, geR, eqR, neR, eqS, isR, isntR, inS, ninS, lenR, intOfR, int2R, absR, tupOfR, lstOfR, strOfR, ixR, slR, truD, itemsOf, joinR, indexR, and_assoc]
theorem e_add_str {s t : List Nat} {P : D → Prop} : (∃ z, addR (.str s) (.str t) z ∧ P z) = (s.length + t.length ≤ 16777216 ∧ P (.str (s ++ t))) := by simp [addR, subR, mulR, modR, fdivR, powR, shlR, intR, ltR, leR, gtR, geR, eqR, neR, eqS, isR, isntR, inS, ninS, lenR, intOfR, int2R, absR, tupOfR, lstOfR, strOfR, ixR, slR, truD, itemsOf, joinR, indexR, and_assoc]
theorem e_add_tup {xs ys : List D} {P : D → Prop} : (∃ z, addR (.tup xs) (.tup ys) z ∧ P z) = (xs.length + ys.length ≤ 16777216 ∧ P (.tup (xs ++ ys))) := by simp [addR, subR, mulR, modR, fdivR, powR, shlR, intR, ltR, leR, gtR, geR, eqR, neR, eqS, isR, isntR, inS, ninS, lenR, intOfR, int2R, absR, tupOfR, lstOfR, strOfR, ixR, slR, truD, itemsOf, joinR, indexR, and_assoc]
theorem e_add_lst {xs ys : List D} {P : D → Prop} : (∃ z, addR (.lst xs) (.lst ys) z ∧ P z) = (xs.length + ys.length ≤ 16777216 ∧ P (.lst (xs ++ ys))) := by simp [addR, subR, mulR, modR, fdivR, powR, shlR, intR, ltR, leR, gtR, geR, eqR, neR, eqS, isR, isntR, inS, ninS, lenR, intOfR, int2R, absR, tupOfR, lstOfR, strOfR, ixR, slR, truD, itemsOf, joinR, indexR, and_assoc]
theorem e_sub {i j : Int} {P : D → Prop} : (∃ z, subR (.int i) (.int j) z ∧ P z) = (P (.int (i - j))) := by simp [addR, subR, mulR, modR, fdivR, powR, shlR, intR, ltR, leR, gtR, geR, eqR, neR, eqS, isR, isntR, inS, ninS, lenR, intOfR, int2R, absR, tupOfR, lstOfR, strOfR, ixR, slR, truD, itemsOf, joinR, indexR, and_assoc]
theorem e_mod {i j : Int} {P : D → Prop} : (∃ z, modR (.int i) (.int j) z ∧ P z) = (0 < j ∧ P (.int (i % j))) := by simp [addR, subR, mulR, modR, fdivR, powR, shlR, intR, ltR, leR, gtR, geR, eqR, neR, eqS, isR, isntR, inS, ninS, lenR, intOfR, int2R, absR, tupOfR, lstOfR, strOfR, ixR, slR, truD, itemsOf, joinR, indexR, and_assoc]
theorem e_fdiv {i j : Int} {P : D → Prop} : (∃ z, fdivR (.int i) (.int j) z ∧ P z) = (CDivW i j ∧ P (.int (i / j))) := by simp [addR, subR, mulR, modR, fdivR, powR, shlR, intR, ltR, leR, gtR, geR, eqR, neR, eqS, isR, isntR, inS, ninS, lenR, intOfR, int2R, absR, tupOfR, lstOfR, strOfR, ixR, slR, truD, itemsOf, joinR, indexR, and_assoc]
theorem e_pow {i j : Int} {P : D → Prop} : (∃ z, powR (.int i) (.int j) z ∧ P z) = (CPow i j ∧ P (.int (i ^ j.toNat))) := by simp [addR, subR, mulR, modR, fdivR, powR, shlR, intR, ltR, leR, gtR, geR, eqR, neR, eqS, isR, isntR, inS, ninS, lenR, intOfR, int2R, absR, tupOfR, lstOfR, strOfR, ixR, slR, truD, itemsOf, joinR, indexR, and_assoc]
theorem e_shl {i j : Int} {P : D → Prop} : (∃ z, shlR (.int i) (.int j) z ∧ P z) = (CPow i j ∧ P (.int (i * 2 ^ j.toNat))) := by simp [addR, subR, mulR, modR, fdivR, powR, shlR, intR, ltR, leR, gtR, geR, eqR, neR, eqS, isR, isntR, inS, ninS, lenR, intOfR, int2R, absR, tupOfR, lstOfR, strOfR, ixR, slR, truD, itemsOf, joinR, indexR, and_assoc]
theorem e_mul_int {i j : Int} {P : D → Prop} : (∃ z, mulR (.int i) (.int j) z ∧ P z) = ((CMul i j ∨ CMulW i j) ∧ P (.int (i * j))) := by simp [addR, subR, mulR, modR, fdivR, powR, shlR, intR, ltR, leR, gtR, geR, eqR, neR, eqS, isR, isntR, inS, ninS, lenR, intOfR, int2R, absR, tupOfR, lstOfR, strOfR, ixR, slR, truD, itemsOf, joinR, indexR, and_assoc]
theorem e_mul_str {s : List Nat} {j : Int} {P : D → Prop} : (∃ z, mulR (.str s) (.int j) z ∧ P z) = (s.length * j.toNat ≤ 16777216 ∧ j < 2 ^ 62 ∧ -(2 ^ 62) ≤ j ∧ P (.str (List.replicate j.toNat s).flatten)) := by simp [addR, subR, mulR, modR, fdivR, powR, shlR, intR, ltR, leR, gtR, geR, eqR, neR, eqS, isR, isntR, inS, ninS, lenR, intOfR, int2R, absR, tupOfR, lstOfR, strOfR, ixR, slR, truD, itemsOf, joinR, indexR, and_assoc]
theorem e_mul_lst {xs : List D} {j : Int} {P : D → Prop} : (∃ z, mulR (.lst xs) (.int j) z ∧ P z) = (xs.length * j.toNat ≤ 16777216 ∧ j < 2 ^ 62 ∧ -(2 ^ 62) ≤ j ∧ P (.lst (List.replicate j.toNat xs).flatten)) := by simp [addR, subR, mulR, modR, fdivR, powR, shlR, intR, ltR, leR, gtR, geR, eqR, neR, eqS, isR, isntR, inS, ninS, lenR, intOfR, int2R, absR, tupOfR, lstOfR, strOfR, ixR, slR, truD, itemsOf, joinR, indexR, and_assoc]
theorem e_lt_int {i j : Int} {P : D → Prop} : (∃ z, ltR (.int i) (.int j) z ∧ P z) = (P (.bl (decide (i < j)))) := by simp [addR, subR, mulR, modR, fdivR, powR, shlR, intR, ltR, leR, gtR, geR, eqR, neR, eqS, isR, isntR, inS, ninS, lenR, intOfR, int2R, absR, tupOfR, lstOfR, strOfR, ixR, slR, truD, itemsOf, joinR, indexR, and_assoc]
theorem e_lt_str {s t : List Nat} {P : D → Prop} : (∃ z, ltR (.str s) (.str t) z ∧ P z) = (P (.bl (decide (s < t)))) := by simp [addR, subR, mulR, modR, fdivR, powR, shlR, intR, ltR, leR, gtR, geR, eqR, neR, eqS, isR, isntR, inS, ninS, lenR, intOfR, int2R, absR, tupOfR, lstOfR, strOfR, ixR, slR, truD, itemsOf, joinR, indexR, and_assoc]
theorem e_le_int {i j : Int} {P : D → Prop} : (∃ z, leR (.int i) (.int j) z ∧ P z) = (P (.bl (decide (i ≤ j)))) := by simp [addR, subR, mulR, modR, fdivR, powR, shlR, intR, ltR, leR, gtR, geR, eqR, neR, eqS, isR, isntR, inS, ninS, lenR, intOfR, int2R, absR, tupOfR, lstOfR, strOfR, ixR, slR, truD, itemsOf, joinR, indexR, and_assoc]
theorem e_le_str {s t : List Nat} {P : D → Prop} : (∃ z, leR (.str s) (.str t) z ∧ P z) = (P (.bl (!decide (t < s)))) := by simp [addR, subR, mulR, modR, fdivR, powR, shlR, intR, ltR, leR, gtR, geR, eqR, neR, eqS, isR, isntR, inS, ninS, lenR, intOfR, int2R, absR, tupOfR, lstOfR, strOfR, ixR, slR, truD, itemsOf, joinR, indexR, and_assoc]
theorem e_gt_int {i j : Int} {P : D → Prop} : (∃ z, gtR (.int i) (.int j) z ∧ P z) = (P (.bl (decide (j < i)))) := by simp [addR, subR, mulR, modR, fdivR, powR, shlR, intR, ltR, leR, gtR, geR, eqR, neR, eqS, isR, isntR, inS, ninS, lenR, intOfR, int2R, absR, tupOfR, lstOfR, strOfR, ixR, slR, truD, itemsOf, joinR, indexR, and_assoc]
theorem e_gt_str {s t : List Nat} {P : D → Prop} : (∃ z, gtR (.str s) (.str t) z ∧ P z) = (P (.bl (decide (t < s)))) := by simp [addR, subR, mulR, modR, fdivR, powR, shlR, intR, ltR, leR, gtR, geR, eqR, neR, eqS, isR, isntR, inS, ninS, lenR, intOfR, int2R, absR, tupOfR, lstOfR, strOfR, ixR, slR, truD, itemsOf, joinR, indexR, and_assoc]
theorem e_ge_int {i j : Int} {P : D → Prop} : (∃ z, geR (.int i) (.int j) z ∧ P z) = (P (.bl (decide (j ≤ i)))) := by simp [addR, subR, mulR, modR, fdivR, powR, shlR, intR, ltR, leR, gtR, geR, eqR, neR, eqS, isR, isntR, inS, ninS, lenR, intOfR, int2R, absR, tupOfR, lstOfR, strOfR, ixR, slR, truD, itemsOf, joinR, indexR, and_assoc]
theorem e_ge_str {s t : List Nat} {P : D → Prop} : (∃ z, geR (.str s) (.str t) z ∧ P z) = (P (.bl (!decide (s < t)))) := by simp [addR, subR, mulR, modR, fdivR, powR, shlR, intR, ltR, leR, gtR, geR, eqR, neR, eqS, isR, isntR, inS, ninS, lenR, intOfR, int2R, absR, tupOfR, lstOfR, strOfR, ixR, slR, truD, itemsOf, joinR, indexR, and_assoc]
theorem e_eq_ii {i j : Int} {P : D → Prop} : (∃ z, eqR (.int i) (.int j) z ∧ P z) = (P (.bl (decide (i = j)))) := by simp [addR, subR, mulR, modR, fdivR, powR, shlR, intR, ltR, leR, gtR, geR, eqR, neR, eqS, isR, isntR, inS, ninS, lenR, intOfR, int2R, absR, tupOfR, lstOfR, strOfR, ixR, slR, truD, itemsOf, joinR, indexR, and_assoc]
theorem e_eq_ss {s t : List Nat} {P : D → Prop} : (∃ z, eqR (.str s) (.str t) z ∧ P z) = (P (.bl (decide (s = t)))) := by simp [addR, subR, mulR, modR, fdivR, powR, shlR, intR, ltR, leR, gtR, geR, eqR, neR, eqS, isR, isntR, inS, ninS, lenR, intOfR, int2R, absR, tupOfR, lstOfR, strOfR, ixR, slR, truD, itemsOf, joinR, indexR, and_assoc]
theorem e_eq_bb {a b : Bool} {P : D → Prop} : (∃ z, eqR (.bl a) (.bl b) z ∧ P z) = (P (.bl (decide (a = b)))) := by simp [addR, subR, mulR, modR, fdivR, powR, shlR, intR, ltR, leR, gtR, geR, eqR, neR, eqS, isR, isntR, inS, ninS, lenR, intOfR, int2R, absR, tupOfR, lstOfR, strOfR, ixR, slR, truD, itemsOf, joinR, indexR, and_assoc]
theorem e_eq_is {i : Int} {s : List Nat} {a : Bool} {P : D → Prop} : (∃ z, eqR (.int i) (.str s) z ∧ P z) = (P (.bl false)) := by simp [addR, subR, mulR, modR, fdivR, powR, shlR, intR, ltR, leR, gtR, geR, eqR, neR, eqS, isR, isntR, inS, ninS, lenR, intOfR, int2R, absR, tupOfR, lstOfR, strOfR, ixR, slR, truD, itemsOf, joinR, indexR, and_assoc]
theorem e_eq_si {i : Int} {s : List Nat} {a : Bool} {P : D → Prop} : (∃ z, eqR (.str s) (.int i) z ∧ P z) = (P (.bl false)) := by simp [addR, subR, mulR, modR, fdivR, powR, shlR, intR, ltR, leR, gtR, geR, eqR, neR, eqS, isR, isntR, inS, ninS, lenR, intOfR, int2R, absR, tupOfR, lstOfR, strOfR, ixR, slR, truD, itemsOf, joinR, indexR, and_assoc]
theorem e_eq_ni {i : Int} {s : List Nat} {a : Bool} {P : D → Prop} : (∃ z, eqR .non (.int i) z ∧ P z) = (P (.bl false)) := by simp [addR, subR, mulR, modR, fdivR, powR, shlR, intR, ltR, leR, gtR, geR, eqR, neR, eqS, isR, isntR, inS, ninS, lenR, intOfR, int2R, absR, tupOfR, lstOfR, strOfR, ixR, slR, truD, itemsOf, joinR, indexR, and_assoc]
theorem e_eq_in {i : Int} {s : List Nat} {a : Bool} {P : D → Prop} : (∃ z, eqR (.int i) .non z ∧ P z) = (P (.bl false)) := by simp [addR, subR, mulR, modR, fdivR, powR, shlR, intR, ltR, leR, gtR, geR, eqR, neR, eqS, isR, isntR, inS, ninS, lenR, intOfR, int2R, absR, tupOfR, lstOfR, strOfR, ixR, slR, truD, itemsOf, joinR, indexR, and_assoc]
theorem e_eq_ns {i : Int} {s : List Nat} {a : Bool} {P : D → Prop} : (∃ z, eqR .non (.str s) z ∧ P z) = (P (.bl false)) := by simp [addR, subR, mulR, modR, fdivR, powR, shlR, intR, ltR, leR, gtR, geR, eqR, neR, eqS, isR, isntR, inS, ninS, lenR, intOfR, int2R, absR, tupOfR, lstOfR, strOfR, ixR, slR, truD, itemsOf, joinR, indexR, and_assoc]
theorem e_eq_sn {i : Int} {s : List Nat} {a : Bool} {P : D → Prop} : (∃ z, eqR (.str s) .non z ∧ P z) = (P (.bl false)) := by simp [addR, subR, mulR, modR, fdivR, powR, shlR, intR, ltR, leR, gtR, geR, eqR, neR, eqS, isR, isntR, inS, ninS, lenR, intOfR, int2R, absR, tupOfR, lstOfR, strOfR, ixR, slR, truD, itemsOf, joinR, indexR, and_assoc]
theorem e_eq_bs {i : Int} {s : List Nat} {a : Bool} {P : D → Prop} : (∃ z, eqR (.bl a) (.str s) z ∧ P z) = (P (.bl false)) := by simp [addR, subR, mulR, modR, fdivR, powR, shlR, intR, ltR, leR, gtR, geR, eqR, neR, eqS, isR, isntR, inS, ninS, lenR, intOfR, int2R, absR, tupOfR, lstOfR, strOfR, ixR, slR, truD, itemsOf, joinR, indexR, and_assoc]
theorem e_eq_sb {i : Int} {s : List Nat} {a : Bool} {P : D → Prop} : (∃ z, eqR (.str s) (.bl a) z ∧ P z) = (P (.bl false)) := by simp [addR, subR, mulR, modR, fdivR, powR, shlR, intR, ltR, leR, gtR, geR, eqR, neR, eqS, isR, isntR, inS, ninS, lenR, intOfR, int2R, absR, tupOfR, lstOfR, strOfR, ixR, slR, truD, itemsOf, joinR, indexR, and_assoc]
theorem e_ne_ii {i j : Int} {P : D → Prop} : (∃ z, neR (.int i) (.int j) z ∧ P z) = (P (.bl (!decide (i = j)))) := by simp [addR, subR, mulR, modR, fdivR, powR, shlR, intR, ltR, leR, gtR, geR, eqR, neR, eqS, isR, isntR, inS, ninS, lenR, intOfR, int2R, absR, tupOfR, lstOfR, strOfR, ixR, slR, truD, itemsOf, joinR, indexR, and_assoc]
theorem e_ne_ss {s t : List Nat} {P : D → Prop} : (∃ z, neR (.str s) (.str t) z ∧ P z) = (P (.bl (!decide (s = t)))) := by simp [addR, subR, mulR, modR, fdivR, powR, shlR, intR, ltR, leR, gtR, geR, eqR, neR, eqS, isR, isntR, inS, ninS, lenR, intOfR, int2R, absR, tupOfR, lstOfR, strOfR, ixR, slR, truD, itemsOf, joinR, indexR, and_assoc]
theorem e_ne_bb {a b : Bool} {P : D → Prop} : (∃ z, neR (.bl a) (.bl b) z ∧ P z) = (P (.bl (!decide (a = b)))) := by simp [addR, subR, mulR, modR, fdivR, powR, shlR, intR, ltR, leR, gtR, geR, eqR, neR, eqS, isR, isntR, inS, ninS, lenR, intOfR, int2R, absR, tupOfR, lstOfR, strOfR, ixR, slR, truD, itemsOf, joinR, indexR, and_assoc]
theorem e_ne_is {i : Int} {s : List Nat} {a : Bool} {P : D → Prop} : (∃ z, neR (.int i) (.str s) z ∧ P z) = (P (.bl true)) := by simp [addR, subR, mulR, modR, fdivR, powR, shlR, intR, ltR, leR, gtR, geR, eqR, neR, eqS, isR, isntR, inS, ninS, lenR, intOfR, int2R, absR, tupOfR, lstOfR, strOfR, ixR, slR, truD, itemsOf, joinR, indexR, and_assoc]
theorem e_ne_si {i : Int} {s : List Nat} {a : Bool} {P : D → Prop} : (∃ z, neR (.str s) (.int i) z ∧ P z) = (P (.bl true)) := by simp [addR, subR, mulR, modR, fdivR, powR, shlR, intR, ltR, leR, gtR, geR, eqR, neR, eqS, isR, isntR, inS, ninS, lenR, intOfR, int2R, absR, tupOfR, lstOfR, strOfR, ixR, slR, truD, itemsOf, joinR, indexR, and_assoc]
theorem e_ne_ni {i : Int} {s : List Nat} {a : Bool} {P : D → Prop} : (∃ z, neR .non (.int i) z ∧ P z) = (P (.bl true)) := by simp [addR, subR, mulR, modR, fdivR, powR, shlR, intR, ltR, leR, gtR, geR, eqR, neR, eqS, isR, isntR, inS, ninS, lenR, intOfR, int2R, absR, tupOfR, lstOfR, strOfR, ixR, slR, truD, itemsOf, joinR, indexR, and_assoc]
theorem e_ne_in {i : Int} {s : List Nat} {a : Bool} {P : D → Prop} : (∃ z, neR (.int i) .non z ∧ P z) = (P (.bl true)) := by simp [addR, subR, mulR, modR, fdivR, powR, shlR, intR, ltR, leR, gtR, geR, eqR, neR, eqS, isR, isntR, inS, ninS, lenR, intOfR, int2R, absR, tupOfR, lstOfR, strOfR, ixR, slR, truD, itemsOf, joinR, indexR, and_assoc]
theorem e_ne_ns {i : Int} {s : List Nat} {a : Bool} {P : D → Prop} : (∃ z, neR .non (.str s) z ∧ P z) = (P (.bl true)) := by simp [addR, subR, mulR, modR, fdivR, powR, shlR, intR, ltR, leR, gtR, geR, eqR, neR, eqS, isR, isntR, inS, ninS, lenR, intOfR, int2R, absR, tupOfR, lstOfR, strOfR, ixR, slR, truD, itemsOf, joinR, indexR, and_assoc]
theorem e_ne_sn {i : Int} {s : List Nat} {a : Bool} {P : D → Prop} : (∃ z, neR (.str s) .non z ∧ P z) = (P (.bl true)) := by simp [addR, subR, mulR, modR, fdivR, powR, shlR, intR, ltR, leR, gtR, geR, eqR, neR, eqS, isR, isntR, inS, ninS, lenR, intOfR, int2R, absR, tupOfR, lstOfR, strOfR, ixR, slR, truD, itemsOf, joinR, indexR, and_assoc]
theorem e_ne_bs {i : Int} {s : List Nat} {a : Bool} {P : D → Prop} : (∃ z, neR (.bl a) (.str s) z ∧ P z) = (P (.bl true)) := by simp [addR, subR, mulR, modR, fdivR, powR, shlR, intR, ltR, leR, gtR, geR, eqR, neR, eqS, isR, isntR, inS, ninS, lenR, intOfR, int2R, absR, tupOfR, lstOfR, strOfR, ixR, slR, truD, itemsOf, joinR, indexR, and_assoc]
theorem e_ne_sb {i : Int} {s : List Nat} {a : Bool} {P : D → Prop} : (∃ z, neR (.str s) (.bl a) z ∧ P z) = (P (.bl true)) := by simp [addR, subR, mulR, modR, fdivR, powR, shlR, intR, ltR, leR, gtR, geR, eqR, neR, eqS, isR, isntR, inS, ninS, lenR, intOfR, int2R, absR, tupOfR, lstOfR, strOfR, ixR, slR, truD, itemsOf, joinR, indexR, and_assoc]
theorem e_is {x : D} {P : D → Prop} : (∃ z, isR x .non z ∧ P z) = (P (.bl (isN x))) := by simp [addR, subR, mulR, modR, fdivR, powR, shlR, intR, ltR, leR, gtR, geR, eqR, neR, eqS, isR, isntR, inS, ninS, lenR, intOfR, int2R, absR, tupOfR, lstOfR, strOfR, ixR, slR, truD, itemsOf, joinR, indexR, and_assoc]
theorem e_isnt {x : D} {P : D → Prop} : (∃ z, isntR x .non z ∧ P z) = (P (.bl (!isN x))) := by simp [addR, subR, mulR, modR, fdivR, powR, shlR, intR, ltR, leR, gtR, geR, eqR, neR, eqS, isR, isntR, inS, ninS, lenR, intOfR, int2R, absR, tupOfR, lstOfR, strOfR, ixR, slR, truD, itemsOf, joinR, indexR, and_assoc]
theorem e_inS {c : Nat} {s : List Nat} {P : D → Prop} : (∃ z, inS (.str [c]) (.str s) z ∧ P z) = (P (.bl (decide (c ∈ s)))) := by simp [addR, subR, mulR, modR, fdivR, powR, shlR, intR, ltR, leR, gtR, geR, eqR, neR, eqS, isR, isntR, inS, ninS, lenR, intOfR, int2R, absR, tupOfR, lstOfR, strOfR, ixR, slR, truD, itemsOf, joinR, indexR, and_assoc]
theorem e_ninS {c : Nat} {s : List Nat} {P : D → Prop} : (∃ z, ninS (.str [c]) (.str s) z ∧ P z) = (P (.bl (!decide (c ∈ s)))) := by simp [addR, subR, mulR, modR, fdivR, powR, shlR, intR, ltR, leR, gtR, geR, eqR, neR, eqS, isR, isntR, inS, ninS, lenR, intOfR, int2R, absR, tupOfR, lstOfR, strOfR, ixR, slR, truD, itemsOf, joinR, indexR, and_assoc]
theorem e_len_str {s : List Nat} {P : D → Prop} : (∃ z, lenR [.str s] z ∧ P z) = (s.length ≤ 16777216 ∧ P (.int s.length)) := by simp [addR, subR, mulR, modR, fdivR, powR, shlR, intR, ltR, leR, gtR, geR, eqR, neR, eqS, isR, isntR, inS, ninS, lenR, intOfR, int2R, absR, tupOfR, lstOfR, strOfR, ixR, slR, truD, itemsOf, joinR, indexR, and_assoc]
theorem e_len_tup {xs : List D} {P : D → Prop} : (∃ z, lenR [.tup xs] z ∧ P z) = (P (.int xs.length)) := by simp [addR, subR, mulR, modR, fdivR, powR, shlR, intR, ltR, leR, gtR, geR, eqR, neR, eqS, isR, isntR, inS, ninS, lenR, intOfR, int2R, absR, tupOfR, lstOfR, strOfR, ixR, slR, truD, itemsOf, joinR, indexR, and_assoc]
theorem e_len_lst {xs : List D} {P : D → Prop} : (∃ z, lenR [.lst xs] z ∧ P z) = (P (.int xs.length)) := by simp [addR, subR, mulR, modR, fdivR, powR, shlR, intR, ltR, leR, gtR, geR, eqR, neR, eqS, isR, isntR, inS, ninS, lenR, intOfR, int2R, absR, tupOfR, lstOfR, strOfR, ixR, slR, truD, itemsOf, joinR, indexR, and_assoc]
theorem e_len_ro {xs : List Int} {P : D → Prop} : (∃ z, lenR [.ro xs] z ∧ P z) = (P (.int xs.length)) := by simp [addR, subR, mulR, modR, fdivR, powR, shlR, intR, ltR, leR, gtR, geR, eqR, neR, eqS, isR, isntR, inS, ninS, lenR, intOfR, int2R, absR, tupOfR, lstOfR, strOfR, ixR, slR, truD, itemsOf, joinR, indexR, and_assoc]
theorem e_int_i {i : Int} {P : D → Prop} : (∃ z, intOfR [.int i] z ∧ P z) = (P (.int i)) := by simp [addR, subR, mulR, modR, fdivR, powR, shlR, intR, ltR, leR, gtR, geR, eqR, neR, eqS, isR, isntR, inS, ninS, lenR, intOfR, int2R, absR, tupOfR, lstOfR, strOfR, ixR, slR, truD, itemsOf, joinR, indexR, and_assoc]
theorem e_int_b {b : Bool} {P : D → Prop} : (∃ z, intOfR [.bl b] z ∧ P z) = (P (.int (if b then 1 else 0))) := by simp [addR, subR, mulR, modR, fdivR, powR, shlR, intR, ltR, leR, gtR, geR, eqR, neR, eqS, isR, isntR, inS, ninS, lenR, intOfR, int2R, absR, tupOfR, lstOfR, strOfR, ixR, slR, truD, itemsOf, joinR, indexR, and_assoc]
theorem e_int2 {f : Int → Int → Int} {i j : Int} {P : D → Prop} : (∃ z, int2R f [.int i, .int j] z ∧ P z) = (P (.int (f i j))) := by simp [addR, subR, mulR, modR, fdivR, powR, shlR, intR, ltR, leR, gtR, geR, eqR, neR, eqS, isR, isntR, inS, ninS, lenR, intOfR, int2R, absR, tupOfR, lstOfR, strOfR, ixR, slR, truD, itemsOf, joinR, indexR, and_assoc]
theorem e_abs {i : Int} {P : D → Prop} : (∃ z, absR [.int i] z ∧ P z) = (P (.int (if i < 0 then -i else i))) := by simp [addR, subR, mulR, modR, fdivR, powR, shlR, intR, ltR, leR, gtR, geR, eqR, neR, eqS, isR, isntR, inS, ninS, lenR, intOfR, int2R, absR, tupOfR, lstOfR, strOfR, ixR, slR, truD, itemsOf, joinR, indexR, and_assoc]
theorem e_tup_l {xs : List D} {P : D → Prop} : (∃ z, tupOfR [.lst xs] z ∧ P z) = (P (.tup xs)) := by simp [addR, subR, mulR, modR, fdivR, powR, shlR, intR, ltR, leR, gtR, geR, eqR, neR, eqS, isR, isntR, inS, ninS, lenR, intOfR, int2R, absR, tupOfR, lstOfR, strOfR, ixR, slR, truD, itemsOf, joinR, indexR, and_assoc]
theorem e_tup_t {xs : List D} {P : D → Prop} : (∃ z, tupOfR [.tup xs] z ∧ P z) = (P (.tup xs)) := by simp [addR, subR, mulR, modR, fdivR, powR, shlR, intR, ltR, leR, gtR, geR, eqR, neR, eqS, isR, isntR, inS, ninS, lenR, intOfR, int2R, absR, tupOfR, lstOfR, strOfR, ixR, slR, truD, itemsOf, joinR, indexR, and_assoc]
theorem e_lst_l {xs : List D} {P : D → Prop} : (∃ z, lstOfR [.lst xs] z ∧ P z) = (P (.lst xs)) := by simp [addR, subR, mulR, modR, fdivR, powR, shlR, intR, ltR, leR, gtR, geR, eqR, neR, eqS, isR, isntR, inS, ninS, lenR, intOfR, int2R, absR, tupOfR, lstOfR, strOfR, ixR, slR, truD, itemsOf, joinR, indexR, and_assoc]
theorem e_lst_t {xs : List D} {P : D → Prop} : (∃ z, lstOfR [.tup xs] z ∧ P z) = (P (.lst xs)) := by simp [addR, subR, mulR, modR, fdivR, powR, shlR, intR, ltR, leR, gtR, geR, eqR, neR, eqS, isR, isntR, inS, ninS, lenR, intOfR, int2R, absR, tupOfR, lstOfR, strOfR, ixR, slR, truD, itemsOf, joinR, indexR, and_assoc]
theorem e_lst_r {xs : List Int} {P : D → Prop} : (∃ z, lstOfR [.ro xs] z ∧ P z) = (P (.lst (xs.map .int))) := by simp [addR, subR, mulR, modR, fdivR, powR, shlR, intR, ltR, leR, gtR, geR, eqR, neR, eqS, isR, isntR, inS, ninS, lenR, intOfR, int2R, absR, tupOfR, lstOfR, strOfR, ixR, slR, truD, itemsOf, joinR, indexR, and_assoc]
theorem e_str {i : Int} {P : D → Prop} : (∃ z, strOfR [.int i] z ∧ P z) = (i.natAbs.log2 < 1920 ∧ P (.str ((toString i).toList.map Char.toNat))) := by simp [addR, subR, mulR, modR, fdivR, powR, shlR, intR, ltR, leR, gtR, geR, eqR, neR, eqS, isR, isntR, inS, ninS, lenR, intOfR, int2R, absR, tupOfR, lstOfR, strOfR, ixR, slR, truD, itemsOf, joinR, indexR, and_assoc]
theorem e_ix_str {s : List Nat} {i : Int} {P : D → Prop} : (∃ z, ixR (.str s) (.int i) z ∧ P z) = (s.length ≤ 16777216 ∧ ∃ c, atI s i = some c ∧ P (.str [c])) := propext ⟨fun ⟨_, ⟨h, c, e, rfl⟩, q⟩ => ⟨h, c, e, q⟩, fun ⟨h, c, e, q⟩ => ⟨_, ⟨h, c, e, rfl⟩, q⟩⟩
theorem e_ix_tup {xs : List D} {i : Int} {P : D → Prop} : (∃ z, ixR (.tup xs) (.int i) z ∧ P z) = (∃ z, atI xs i = some z ∧ P z) := by simp [addR, subR, mulR, modR, fdivR, powR, shlR, intR, ltR, leR, gtR, geR, eqR, neR, eqS, isR, isntR, inS, ninS, lenR, intOfR, int2R, absR, tupOfR, lstOfR, strOfR, ixR, slR, truD, itemsOf, joinR, indexR, and_assoc]
theorem e_ix_lst {xs : List D} {i : Int} {P : D → Prop} : (∃ z, ixR (.lst xs) (.int i) z ∧ P z) = (∃ z, atI xs i = some z ∧ P z) := by simp [addR, subR, mulR, modR, fdivR, powR, shlR, intR, ltR, leR, gtR, geR, eqR, neR, eqS, isR, isntR, inS, ninS, lenR, intOfR, int2R, absR, tupOfR, lstOfR, strOfR, ixR, slR, truD, itemsOf, joinR, indexR, and_assoc]
theorem e_ix_ro {xs : List Int} {i : Int} {P : D → Prop} : (∃ z, ixR (.ro xs) (.int i) z ∧ P z) = (∃ n, atI xs i = some n ∧ P (.int n)) := propext ⟨fun ⟨_, ⟨n, e, rfl⟩, q⟩ => ⟨n, e, q⟩, fun ⟨n, e, q⟩ => ⟨_, ⟨n, e, rfl⟩, q⟩⟩
theorem e_sl_str {s : List Nat} {lo hi : Option Int} {P : D → Prop} : (∃ z, slR (.str s) lo hi z ∧ P z) = (s.length ≤ 16777216 ∧ P (.str (cut s lo hi))) := by simp [addR, subR, mulR, modR, fdivR, powR, shlR, intR, ltR, leR, gtR, geR, eqR, neR, eqS, isR, isntR, inS, ninS, lenR, intOfR, int2R, absR, tupOfR, lstOfR, strOfR, ixR, slR, truD, itemsOf, joinR, indexR, and_assoc]
theorem e_sl_tup {s : List D} {lo hi : Option Int} {P : D → Prop} : (∃ z, slR (.tup s) lo hi z ∧ P z) = (P (.tup (cut s lo hi))) := by simp [addR, subR, mulR, modR, fdivR, powR, shlR, intR, ltR, leR, gtR, geR, eqR, neR, eqS, isR, isntR, inS, ninS, lenR, intOfR, int2R, absR, tupOfR, lstOfR, strOfR, ixR, slR, truD, itemsOf, joinR, indexR, and_assoc]
theorem e_sl_lst {s : List D} {lo hi : Option Int} {P : D → Prop} : (∃ z, slR (.lst s) lo hi z ∧ P z) = (P (.lst (cut s lo hi))) := by simp [addR, subR, mulR, modR, fdivR, powR, shlR, intR, ltR, leR, gtR, geR, eqR, neR, eqS, isR, isntR, inS, ninS, lenR, intOfR, int2R, absR, tupOfR, lstOfR, strOfR, ixR, slR, truD, itemsOf, joinR, indexR, and_assoc]
theorem e_sl_ro {s : List Int} {lo hi : Option Int} {P : D → Prop} : (∃ z, slR (.ro s) lo hi z ∧ P z) = (P (.lst ((cut s lo hi).map .int))) := by simp [addR, subR, mulR, modR, fdivR, powR, shlR, intR, ltR, leR, gtR, geR, eqR, neR, eqS, isR, isntR, inS, ninS, lenR, intOfR, int2R, absR, tupOfR, lstOfR, strOfR, ixR, slR, truD, itemsOf, joinR, indexR, and_assoc]
theorem e_bl {c : Bool} {P : Bool → Prop} : (∃ b, D.bl c = .bl b ∧ P b) = (P c) := by simp [truD, itemsOf, isL, isT, isS, lstOfR]
theorem e_i {c : Int} {P : Int → Prop} : (∃ b, D.int c = .int b ∧ P b) = (P c) := by simp [truD, itemsOf, isL, isT, isS, lstOfR]
theorem e_s {c : List Nat} {P : List Nat → Prop} : (∃ b, D.str c = .str b ∧ P b) = (P c) := by simp [truD, itemsOf, isL, isT, isS, lstOfR]
theorem e_t {c : List D} {P : List D → Prop} : (∃ b, D.tup c = .tup b ∧ P b) = (P c) := by simp [truD, itemsOf, isL, isT, isS, lstOfR]
theorem e_l {c : List D} {P : List D → Prop} : (∃ b, D.lst c = .lst b ∧ P b) = (P c) := by simp [truD, itemsOf, isL, isT, isS, lstOfR]
theorem e_sx {c : List Nat} : (∃ b, D.str c = .str b) = (True) := by simp [truD, itemsOf, isL, isT, isS, lstOfR]
theorem e_ll2 {a b : List D} {Q : Prop} {P : List D → List D → Prop} : (∃ xs ys, D.lst a = .lst xs ∧ D.lst b = .lst ys ∧ xs.length + ys.length ≤ 16777216 ∧ P xs ys) = (a.length + b.length ≤ 16777216 ∧ P a b) := by simp [truD, itemsOf, isL, isT, isS, lstOfR]
theorem e_two {a b : D} {P : D → D → Prop} : (∃ x y, [a, b] = [x, y] ∧ P x y) = (P a b) := propext ⟨fun ⟨_, _, e, q⟩ => by cases e; exact q, fun q => ⟨_, _, rfl, q⟩⟩
theorem e_hd {a : D} {l : List D} {P : D → List D → Prop} : (∃ x r, a :: l = x :: r ∧ P x r) = (P a l) := propext ⟨fun ⟨_, _, e, q⟩ => by cases e; exact q, fun q => ⟨_, _, rfl, q⟩⟩
theorem e_r2 {a b : Int} {P : Int → Int → Prop} : (∃ m n, [D.int a, D.int b] = [.int m, .int n] ∧ P m n) = (P a b) := propext ⟨fun ⟨_, _, e, q⟩ => by cases e; exact q, fun q => ⟨_, _, rfl, q⟩⟩
theorem e_r3 {a b c : Int} {P : Int → Int → Int → Nat → Prop} : (∃ i j k n, [D.int a, D.int b, D.int c] = [.int i, .int j, .int k] ∧ P i j k n) = (∃ n, P a b c n) := propext ⟨fun ⟨_, _, _, n, e, q⟩ => by cases e; exact ⟨n, q⟩, fun ⟨n, q⟩ => ⟨_, _, _, n, rfl, q⟩⟩
theorem e_ixm {k : Int} {xs : List D} {P : D → Prop} : (∃ n z, D.int k = .int n ∧ atI xs n = some z ∧ P z) = (∃ z, atI xs k = some z ∧ P z) := by simp [truD, itemsOf, isL, isT, isS, lstOfR]
theorem e_tru_b {c : Bool} {P : Bool → Prop} : (∃ b, truD (.bl c) b ∧ P b) = (P c) := by simp [truD, itemsOf, isL, isT, isS, lstOfR]
theorem e_tru_i {c : Int} {P : Bool → Prop} : (∃ b, truD (.int c) b ∧ P b) = (P (c != 0)) := by simp [truD, itemsOf, isL, isT, isS, lstOfR]
theorem e_tru_n {P : Bool → Prop} : (∃ b, truD .non b ∧ P b) = (P false) := by simp [truD, itemsOf, isL, isT, isS, lstOfR]
theorem e_tru_s {c : List Nat} {P : Bool → Prop} : (∃ b, truD (.str c) b ∧ P b) = (c.length ≤ 16777216 ∧ P (!c.isEmpty)) := by simp only [truD, and_assoc, exists_and_left, exists_eq_left]
theorem e_tru_t {c : List D} {P : Bool → Prop} : (∃ b, truD (.tup c) b ∧ P b) = (P (!c.isEmpty)) := by simp only [truD, exists_eq_left]
theorem e_tru_l {c : List D} {P : Bool → Prop} : (∃ b, truD (.lst c) b ∧ P b) = (P (!c.isEmpty)) := by simp only [truD, exists_eq_left]
theorem e_it_l {c : List D} {P : List D → Prop} : (isL (.lst c) = true ∧ ∃ xs, itemsOf (.lst c) = some xs ∧ P xs) = (P c) := by simp [truD, itemsOf, isL, isT, isS, lstOfR]
theorem e_it_r {c : List Int} {P : List D → Prop} : (isL (.ro c) = true ∧ ∃ xs, itemsOf (.ro c) = some xs ∧ P xs) = (P (c.map .int)) := by simp [truD, itemsOf, isL, isT, isS, lstOfR]
theorem e_it_t {c : List D} {P : List D → Prop} : (isT (.tup c) = true ∧ ∃ xs, itemsOf (.tup c) = some xs ∧ P xs) = (P c) := by simp [truD, itemsOf, isL, isT, isS, lstOfR]
theorem e_it_s {c : List Nat} {P : List D → Prop} : (isS (.str c) = true ∧ ∃ xs, itemsOf (.str c) = some xs ∧ P xs) = (P (c.map fun c => D.str [c])) := by simp [truD, itemsOf, isL, isT, isS, lstOfR]
theorem e_ll_l {c : List D} {P : List D → Prop} : (∃ ys, lstOfR [.lst c] (.lst ys) ∧ P ys) = (P c) := by simp [truD, itemsOf, isL, isT, isS, lstOfR]
theorem e_ll_t {c : List D} {P : List D → Prop} : (∃ ys, lstOfR [.tup c] (.lst ys) ∧ P ys) = (P c) := by simp [truD, itemsOf, isL, isT, isS, lstOfR]
theorem e_ll_r {c : List Int} {P : List D → Prop} : (∃ ys, lstOfR [.ro c] (.lst ys) ∧ P ys) = (P (c.map .int)) := by simp [truD, itemsOf, isL, isT, isS, lstOfR]
theorem e_join_l {sep : List Nat} {xs : List D} {P : D → Prop} : (∃ z, joinR (.str sep) (.lst xs) z ∧ P z) = (∃ ss, strsOf xs = some ss ∧ (ss.map (·.length)).sum + ss.length * sep.length ≤ 16777216 ∧ P (.str (TL.joinL sep ss))) := propext ⟨fun ⟨_, ⟨a, b, ss, e1, e2, e3, e4, rfl⟩, q⟩ => by cases e1; rcases e2 with e2 | e2 <;> cases e2; exact ⟨ss, e3, e4, q⟩, fun ⟨ss, e3, e4, q⟩ => ⟨_, ⟨_, _, ss, rfl, Or.inl rfl, e3, e4, rfl⟩, q⟩⟩
theorem e_join_t {sep : List Nat} {xs : List D} {P : D → Prop} : (∃ z, joinR (.str sep) (.tup xs) z ∧ P z) = (∃ ss, strsOf xs = some ss ∧ (ss.map (·.length)).sum + ss.length * sep.length ≤ 16777216 ∧ P (.str (TL.joinL sep ss))) := propext ⟨fun ⟨_, ⟨a, b, ss, e1, e2, e3, e4, rfl⟩, q⟩ => by cases e1; rcases e2 with e2 | e2 <;> cases e2; exact ⟨ss, e3, e4, q⟩, fun ⟨ss, e3, e4, q⟩ => ⟨_, ⟨_, _, ss, rfl, Or.inr rfl, e3, e4, rfl⟩, q⟩⟩
theorem e_joinRev {xs : List D} {sep : List Nat} {P : List (List Nat) → Prop} : (∃ ys ss, D.lst xs = .lst ys ∧ strsOf ys = some ss ∧ (ss.map (·.length)).sum + ss.length * sep.length ≤ 16777216 ∧ P ss) = (∃ ss, strsOf xs = some ss ∧ (ss.map (·.length)).sum + ss.length * sep.length ≤ 16777216 ∧ P ss) := by simp [truD, itemsOf, isL, isT, isS, lstOfR]
theorem e_sort {xs : List D} {P : List (List Nat) → Prop} : (∃ ys ss, D.lst xs = .lst ys ∧ strsOf ys = some ss ∧ P ss) = (∃ ss, strsOf xs = some ss ∧ P ss) := by simp [truD, itemsOf, isL, isT, isS, lstOfR]
theorem e_index {s : List Nat} {c : Nat} {P : D → Prop} : (∃ z, indexR (.str s) (.str [c]) z ∧ P z) = (c ∈ s ∧ P (.int (s.idxOf c : Nat))) := by simp [indexR, and_assoc]
theorem e_ati2 {a0 a1 i : Int} {P : D → Prop} : (∃ z, atI [D.int a0, D.int a1] i = some z ∧ P z) = (∃ n, atI [a0, a1] i = some n ∧ P (.int n)) := atI_ex D.int (xs := [a0, a1])
theorem e_ats2 {a0 a1 : List Nat} {i : Int} {P : D → Prop} : (∃ z, atI [D.str a0, D.str a1] i = some z ∧ P z) = (∃ n, atI [a0, a1] i = some n ∧ P (.str n)) := atI_ex D.str (xs := [a0, a1])
theorem e_ati3 {a0 a1 a2 i : Int} {P : D → Prop} : (∃ z, atI [D.int a0, D.int a1, D.int a2] i = some z ∧ P z) = (∃ n, atI [a0, a1, a2] i = some n ∧ P (.int n)) := atI_ex D.int (xs := [a0, a1, a2])
theorem e_ats3 {a0 a1 a2 : List Nat} {i : Int} {P : D → Prop} : (∃ z, atI [D.str a0, D.str a1, D.str a2] i = some z ∧ P z) = (∃ n, atI [a0, a1, a2] i = some n ∧ P (.str n)) := atI_ex D.str (xs := [a0, a1, a2])
theorem e_ati4 {a0 a1 a2 a3 i : Int} {P : D → Prop} : (∃ z, atI [D.int a0, D.int a1, D.int a2, D.int a3] i = some z ∧ P z) = (∃ n, atI [a0, a1, a2, a3] i = some n ∧ P (.int n)) := atI_ex D.int (xs := [a0, a1, a2, a3])
theorem e_ats4 {a0 a1 a2 a3 : List Nat} {i : Int} {P : D → Prop} : (∃ z, atI [D.str a0, D.str a1, D.str a2, D.str a3] i = some z ∧ P z) = (∃ n, atI [a0, a1, a2, a3] i = some n ∧ P (.str n)) := atI_ex D.str (xs := [a0, a1, a2, a3])
theorem e_ati5 {a0 a1 a2 a3 a4 i : Int} {P : D → Prop} : (∃ z, atI [D.int a0, D.int a1, D.int a2, D.int a3, D.int a4] i = some z ∧ P z) = (∃ n, atI [a0, a1, a2, a3, a4] i = some n ∧ P (.int n)) := atI_ex D.int (xs := [a0, a1, a2, a3, a4])
theorem e_ats5 {a0 a1 a2 a3 a4 : List Nat} {i : Int} {P : D → Prop} : (∃ z, atI [D.str a0, D.str a1, D.str a2, D.str a3, D.str a4] i = some z ∧ P z) = (∃ n, atI [a0, a1, a2, a3, a4] i = some n ∧ P (.str n)) := atI_ex D.str (xs := [a0, a1, a2, a3, a4])
theorem e_ati6 {a0 a1 a2 a3 a4 a5 i : Int} {P : D → Prop} : (∃ z, atI [D.int a0, D.int a1, D.int a2, D.int a3, D.int a4, D.int a5] i = some z ∧ P z) = (∃ n, atI [a0, a1, a2, a3, a4, a5] i = some n ∧ P (.int n)) := atI_ex D.int (xs := [a0, a1, a2, a3, a4, a5])
theorem e_ats6 {a0 a1 a2 a3 a4 a5 : List Nat} {i : Int} {P : D → Prop} : (∃ z, atI [D.str a0, D.str a1, D.str a2, D.str a3, D.str a4, D.str a5] i = some z ∧ P z) = (∃ n, atI [a0, a1, a2, a3, a4, a5] i = some n ∧ P (.str n)) := atI_ex D.str (xs := [a0, a1, a2, a3, a4, a5])
theorem e_ati7 {a0 a1 a2 a3 a4 a5 a6 i : Int} {P : D → Prop} : (∃ z, atI [D.int a0, D.int a1, D.int a2, D.int a3, D.int a4, D.int a5, D.int a6] i = some z ∧ P z) = (∃ n, atI [a0, a1, a2, a3, a4, a5, a6] i = some n ∧ P (.int n)) := atI_ex D.int (xs := [a0, a1, a2, a3, a4, a5, a6])
theorem e_ats7 {a0 a1 a2 a3 a4 a5 a6 : List Nat} {i : Int} {P : D → Prop} : (∃ z, atI [D.str a0, D.str a1, D.str a2, D.str a3, D.str a4, D.str a5, D.str a6] i = some z ∧ P z) = (∃ n, atI [a0, a1, a2, a3, a4, a5, a6] i = some n ∧ P (.str n)) := atI_ex D.str (xs := [a0, a1, a2, a3, a4, a5, a6])
theorem e_ati8 {a0 a1 a2 a3 a4 a5 a6 a7 i : Int} {P : D → Prop} : (∃ z, atI [D.int a0, D.int a1, D.int a2, D.int a3, D.int a4, D.int a5, D.int a6, D.int a7] i = some z ∧ P z) = (∃ n, atI [a0, a1, a2, a3, a4, a5, a6, a7] i = some n ∧ P (.int n)) := atI_ex D.int (xs := [a0, a1, a2, a3, a4, a5, a6, a7])
theorem e_ats8 {a0 a1 a2 a3 a4 a5 a6 a7 : List Nat} {i : Int} {P : D → Prop} : (∃ z, atI [D.str a0, D.str a1, D.str a2, D.str a3, D.str a4, D.str a5, D.str a6, D.str a7] i = some z ∧ P z) = (∃ n, atI [a0, a1, a2, a3, a4, a5, a6, a7] i = some n ∧ P (.str n)) := atI_ex D.str (xs := [a0, a1, a2, a3, a4, a5, a6, a7])
theorem e_ati9 {a0 a1 a2 a3 a4 a5 a6 a7 a8 i : Int} {P : D → Prop} : (∃ z, atI [D.int a0, D.int a1, D.int a2, D.int a3, D.int a4, D.int a5, D.int a6, D.int a7, D.int a8] i = some z ∧ P z) = (∃ n, atI [a0, a1, a2, a3, a4, a5, a6, a7, a8] i = some n ∧ P (.int n)) := atI_ex D.int (xs := [a0, a1, a2, a3, a4, a5, a6, a7, a8])
theorem e_ats9 {a0 a1 a2 a3 a4 a5 a6 a7 a8 : List Nat} {i : Int} {P : D → Prop} : (∃ z, atI [D.str a0, D.str a1, D.str a2, D.str a3, D.str a4, D.str a5, D.str a6, D.str a7, D.str a8] i = some z ∧ P z) = (∃ n, atI [a0, a1, a2, a3, a4, a5, a6, a7, a8] i = some n ∧ P (.str n)) := atI_ex D.str (xs := [a0, a1, a2, a3, a4, a5, a6, a7, a8])
theorem e_ati10 {a0 a1 a2 a3 a4 a5 a6 a7 a8 a9 i : Int} {P : D → Prop} : (∃ z, atI [D.int a0, D.int a1, D.int a2, D.int a3, D.int a4, D.int a5, D.int a6, D.int a7, D.int a8, D.int a9] i = some z ∧ P z) = (∃ n, atI [a0, a1, a2, a3, a4, a5, a6, a7, a8, a9] i = some n ∧ P (.int n)) := atI_ex D.int (xs := [a0, a1, a2, a3, a4, a5, a6, a7, a8, a9])
theorem e_ats10 {a0 a1 a2 a3 a4 a5 a6 a7 a8 a9 : List Nat} {i : Int} {P : D → Prop} : (∃ z, atI [D.str a0, D.str a1, D.str a2, D.str a3, D.str a4, D.str a5, D.str a6, D.str a7, D.str a8, D.str a9] i = some z ∧ P z) = (∃ n, atI [a0, a1, a2, a3, a4, a5, a6, a7, a8, a9] i = some n ∧ P (.str n)) := atI_ex D.str (xs := [a0, a1, a2, a3, a4, a5, a6, a7, a8, a9])
theorem e_ati11 {a0 a1 a2 a3 a4 a5 a6 a7 a8 a9 a10 i : Int} {P : D → Prop} : (∃ z, atI [D.int a0, D.int a1, D.int a2, D.int a3, D.int a4, D.int a5, D.int a6, D.int a7, D.int a8, D.int a9, D.int a10] i = some z ∧ P z) = (∃ n, atI [a0, a1, a2, a3, a4, a5, a6, a7, a8, a9, a10] i = some n ∧ P (.int n)) := atI_ex D.int (xs := [a0, a1, a2, a3, a4, a5, a6, a7, a8, a9, a10])
theorem e_ats11 {a0 a1 a2 a3 a4 a5 a6 a7 a8 a9 a10 : List Nat} {i : Int} {P : D → Prop} : (∃ z, atI [D.str a0, D.str a1, D.str a2, D.str a3, D.str a4, D.str a5, D.str a6, D.str a7, D.str a8, D.str a9, D.str a10] i = some z ∧ P z) = (∃ n, atI [a0, a1, a2, a3, a4, a5, a6, a7, a8, a9, a10] i = some n ∧ P (.str n)) := atI_ex D.str (xs := [a0, a1, a2, a3, a4, a5, a6, a7, a8, a9, a10])
theorem e_ati12 {a0 a1 a2 a3 a4 a5 a6 a7 a8 a9 a10 a11 i : Int} {P : D → Prop} : (∃ z, atI [D.int a0, D.int a1, D.int a2, D.int a3, D.int a4, D.int a5, D.int a6, D.int a7, D.int a8, D.int a9, D.int a10, D.int a11] i = some z ∧ P z) = (∃ n, atI [a0, a1, a2, a3, a4, a5, a6, a7, a8, a9, a10, a11] i = some n ∧ P (.int n)) := atI_ex D.int (xs := [a0, a1, a2, a3, a4, a5, a6, a7, a8, a9, a10, a11])
theorem e_ats12 {a0 a1 a2 a3 a4 a5 a6 a7 a8 a9 a10 a11 : List Nat} {i : Int} {P : D → Prop} : (∃ z, atI [D.str a0, D.str a1, D.str a2, D.str a3, D.str a4, D.str a5, D.str a6, D.str a7, D.str a8, D.str a9, D.str a10, D.str a11] i = some z ∧ P z) = (∃ n, atI [a0, a1, a2, a3, a4, a5, a6, a7, a8, a9, a10, a11] i = some n ∧ P (.str n)) := atI_ex D.str (xs := [a0, a1, a2, a3, a4, a5, a6, a7, a8, a9, a10, a11])
theorem e_ati13 {a0 a1 a2 a3 a4 a5 a6 a7 a8 a9 a10 a11 a12 i : Int} {P : D → Prop} : (∃ z, atI [D.int a0, D.int a1, D.int a2, D.int a3, D.int a4, D.int a5, D.int a6, D.int a7, D.int a8, D.int a9, D.int a10, D.int a11, D.int a12] i = some z ∧ P z) = (∃ n, atI [a0, a1, a2, a3, a4, a5, a6, a7, a8, a9, a10, a11, a12] i = some n ∧ P (.int n)) := atI_ex D.int (xs := [a0, a1, a2, a3, a4, a5, a6, a7, a8, a9, a10, a11, a12])
theorem e_ats13 {a0 a1 a2 a3 a4 a5 a6 a7 a8 a9 a10 a11 a12 : List Nat} {i : Int} {P : D → Prop} : (∃ z, atI [D.str a0, D.str a1, D.str a2, D.str a3, D.str a4, D.str a5, D.str a6, D.str a7, D.str a8, D.str a9, D.str a10, D.str a11, D.str a12] i = some z ∧ P z) = (∃ n, atI [a0, a1, a2, a3, a4, a5, a6, a7, a8, a9, a10, a11, a12] i = some n ∧ P (.str n)) := atI_ex D.str (xs := [a0, a1, a2, a3, a4, a5, a6, a7, a8, a9, a10, a11, a12])
theorem e_ati14 {a0 a1 a2 a3 a4 a5 a6 a7 a8 a9 a10 a11 a12 a13 i : Int} {P : D → Prop} : (∃ z, atI [D.int a0, D.int a1, D.int a2, D.int a3, D.int a4, D.int a5, D.int a6, D.int a7, D.int a8, D.int a9, D.int a10, D.int a11, D.int a12, D.int a13] i = some z ∧ P z) = (∃ n, atI [a0, a1, a2, a3, a4, a5, a6, a7, a8, a9, a10, a11, a12, a13] i = some n ∧ P (.int n)) := atI_ex D.int (xs := [a0, a1, a2, a3, a4, a5, a6, a7, a8, a9, a10, a11, a12, a13])
theorem e_ats14 {a0 a1 a2 a3 a4 a5 a6 a7 a8 a9 a10 a11 a12 a13 : List Nat} {i : Int} {P : D → Prop} : (∃ z, atI [D.str a0, D.str a1, D.str a2, D.str a3, D.str a4, D.str a5, D.str a6, D.str a7, D.str a8, D.str a9, D.str a10, D.str a11, D.str a12, D.str a13] i = some z ∧ P z) = (∃ n, atI [a0, a1, a2, a3, a4, a5, a6, a7, a8, a9, a10, a11, a12, a13] i = some n ∧ P (.str n)) := atI_ex D.str (xs := [a0, a1, a2, a3, a4, a5, a6, a7, a8, a9, a10, a11, a12, a13])
theorem e_ati15 {a0 a1 a2 a3 a4 a5 a6 a7 a8 a9 a10 a11 a12 a13 a14 i : Int} {P : D → Prop} : (∃ z, atI [D.int a0, D.int a1, D.int a2, D.int a3, D.int a4, D.int a5, D.int a6, D.int a7, D.int a8, D.int a9, D.int a10, D.int a11, D.int a12, D.int a13, D.int a14] i = some z ∧ P z) = (∃ n, atI [a0, a1, a2, a3, a4, a5, a6, a7, a8, a9, a10, a11, a12, a13, a14] i = some n ∧ P (.int n)) := atI_ex D.int (xs := [a0, a1, a2, a3, a4, a5, a6, a7, a8, a9, a10, a11, a12, a13, a14])
theorem e_ats15 {a0 a1 a2 a3 a4 a5 a6 a7 a8 a9 a10 a11 a12 a13 a14 : List Nat} {i : Int} {P : D → Prop} : (∃ z, atI [D.str a0, D.str a1, D.str a2, D.str a3, D.str a4, D.str a5, D.str a6, D.str a7, D.str a8, D.str a9, D.str a10, D.str a11, D.str a12, D.str a13, D.str a14] i = some z ∧ P z) = (∃ n, atI [a0, a1, a2, a3, a4, a5, a6, a7, a8, a9, a10, a11, a12, a13, a14] i = some n ∧ P (.str n)) := atI_ex D.str (xs := [a0, a1, a2, a3, a4, a5, a6, a7, a8, a9, a10, a11, a12, a13, a14])
theorem e_ati16 {a0 a1 a2 a3 a4 a5 a6 a7 a8 a9 a10 a11 a12 a13 a14 a15 i : Int} {P : D → Prop} : (∃ z, atI [D.int a0, D.int a1, D.int a2, D.int a3, D.int a4, D.int a5, D.int a6, D.int a7, D.int a8, D.int a9, D.int a10, D.int a11, D.int a12, D.int a13, D.int a14, D.int a15] i = some z ∧ P z) = (∃ n, atI [a0, a1, a2, a3, a4, a5, a6, a7, a8, a9, a10, a11, a12, a13, a14, a15] i = some n ∧ P (.int n)) := atI_ex D.int (xs := [a0, a1, a2, a3, a4, a5, a6, a7, a8, a9, a10, a11, a12, a13, a14, a15])
theorem e_ats16 {a0 a1 a2 a3 a4 a5 a6 a7 a8 a9 a10 a11 a12 a13 a14 a15 : List Nat} {i : Int} {P : D → Prop} : (∃ z, atI [D.str a0, D.str a1, D.str a2, D.str a3, D.str a4, D.str a5, D.str a6, D.str a7, D.str a8, D.str a9, D.str a10, D.str a11, D.str a12, D.str a13, D.str a14, D.str a15] i = some z ∧ P z) = (∃ n, atI [a0, a1, a2, a3, a4, a5, a6, a7, a8, a9, a10, a11, a12, a13, a14, a15] i = some n ∧ P (.str n)) := atI_ex D.str (xs := [a0, a1, a2, a3, a4, a5, a6, a7, a8, a9, a10, a11, a12, a13, a14, a15])
theorem e_atI {xs : List Int} {i : Int} {P : D → Prop} : (∃ z, atI (xs.map D.int) i = some z ∧ P z) = (∃ n, atI xs i = some n ∧ P (.int n)) := atI_ex D.int
theorem e_atS {xs : List (List Nat)} {i : Int} {P : D → Prop} : (∃ z, atI (xs.map D.str) i = some z ∧ P z) = (∃ n, atI xs i = some n ∧ P (.str n)) := atI_ex D.str
theorem kit_NoneType_int : kitB "NoneType" "int" = some false := by decide +kernel
theorem e_kit_NoneType_int {P : Bool → Prop} : (∃ b, kitB (tyD .non) "int" = some b ∧ P b) = (P false) := by simp only [tyD, kit_NoneType_int, Option.some.injEq, exists_eq_left']
theorem kit_NoneType_str : kitB "NoneType" "str" = some false := by decide +kernel
theorem e_kit_NoneType_str {P : Bool → Prop} : (∃ b, kitB (tyD .non) "str" = some b ∧ P b) = (P false) := by simp only [tyD, kit_NoneType_str, Option.some.injEq, exists_eq_left']
theorem kit_NoneType_bool : kitB "NoneType" "bool" = some false := by decide +kernel
theorem e_kit_NoneType_bool {P : Bool → Prop} : (∃ b, kitB (tyD .non) "bool" = some b ∧ P b) = (P false) := by simp only [tyD, kit_NoneType_bool, Option.some.injEq, exists_eq_left']
theorem kit_NoneType_tuple : kitB "NoneType" "tuple" = some false := by decide +kernel
theorem e_kit_NoneType_tuple {P : Bool → Prop} : (∃ b, kitB (tyD .non) "tuple" = some b ∧ P b) = (P false) := by simp only [tyD, kit_NoneType_tuple, Option.some.injEq, exists_eq_left']
theorem kit_NoneType_list : kitB "NoneType" "list" = some false := by decide +kernel
theorem e_kit_NoneType_list {P : Bool → Prop} : (∃ b, kitB (tyD .non) "list" = some b ∧ P b) = (P false) := by simp only [tyD, kit_NoneType_list, Option.some.injEq, exists_eq_left']
theorem kit_bool_int : kitB "bool" "int" = some true := by decide +kernel
theorem e_kit_bool_int {b : Bool} {P : Bool → Prop} : (∃ b, kitB (tyD (.bl b)) "int" = some b ∧ P b) = (P true) := by simp only [tyD, kit_bool_int, Option.some.injEq, exists_eq_left']
theorem kit_bool_str : kitB "bool" "str" = some false := by decide +kernel
theorem e_kit_bool_str {b : Bool} {P : Bool → Prop} : (∃ b, kitB (tyD (.bl b)) "str" = some b ∧ P b) = (P false) := by simp only [tyD, kit_bool_str, Option.some.injEq, exists_eq_left']
theorem kit_bool_bool : kitB "bool" "bool" = some true := by decide +kernel
theorem e_kit_bool_bool {b : Bool} {P : Bool → Prop} : (∃ b, kitB (tyD (.bl b)) "bool" = some b ∧ P b) = (P true) := by simp only [tyD, kit_bool_bool, Option.some.injEq, exists_eq_left']
theorem kit_bool_tuple : kitB "bool" "tuple" = some false := by decide +kernel
theorem e_kit_bool_tuple {b : Bool} {P : Bool → Prop} : (∃ b, kitB (tyD (.bl b)) "tuple" = some b ∧ P b) = (P false) := by simp only [tyD, kit_bool_tuple, Option.some.injEq, exists_eq_left']
theorem kit_bool_list : kitB "bool" "list" = some false := by decide +kernel
theorem e_kit_bool_list {b : Bool} {P : Bool → Prop} : (∃ b, kitB (tyD (.bl b)) "list" = some b ∧ P b) = (P false) := by simp only [tyD, kit_bool_list, Option.some.injEq, exists_eq_left']
theorem kit_int_int : kitB "int" "int" = some true := by decide +kernel
theorem e_kit_int_int {i : Int} {P : Bool → Prop} : (∃ b, kitB (tyD (.int i)) "int" = some b ∧ P b) = (P true) := by simp only [tyD, kit_int_int, Option.some.injEq, exists_eq_left']
theorem kit_int_str : kitB "int" "str" = some false := by decide +kernel
theorem e_kit_int_str {i : Int} {P : Bool → Prop} : (∃ b, kitB (tyD (.int i)) "str" = some b ∧ P b) = (P false) := by simp only [tyD, kit_int_str, Option.some.injEq, exists_eq_left']
theorem kit_int_bool : kitB "int" "bool" = some false := by decide +kernel
theorem e_kit_int_bool {i : Int} {P : Bool → Prop} : (∃ b, kitB (tyD (.int i)) "bool" = some b ∧ P b) = (P false) := by simp only [tyD, kit_int_bool, Option.some.injEq, exists_eq_left']
theorem kit_int_tuple : kitB "int" "tuple" = some false := by decide +kernel
theorem e_kit_int_tuple {i : Int} {P : Bool → Prop} : (∃ b, kitB (tyD (.int i)) "tuple" = some b ∧ P b) = (P false) := by simp only [tyD, kit_int_tuple, Option.some.injEq, exists_eq_left']
theorem kit_int_list : kitB "int" "list" = some false := by decide +kernel
theorem e_kit_int_list {i : Int} {P : Bool → Prop} : (∃ b, kitB (tyD (.int i)) "list" = some b ∧ P b) = (P false) := by simp only [tyD, kit_int_list, Option.some.injEq, exists_eq_left']
theorem kit_str_int : kitB "str" "int" = some false := by decide +kernel
theorem e_kit_str_int {s : List Nat} {P : Bool → Prop} : (∃ b, kitB (tyD (.str s)) "int" = some b ∧ P b) = (P false) := by simp only [tyD, kit_str_int, Option.some.injEq, exists_eq_left']
theorem kit_str_str : kitB "str" "str" = some true := by decide +kernel
theorem e_kit_str_str {s : List Nat} {P : Bool → Prop} : (∃ b, kitB (tyD (.str s)) "str" = some b ∧ P b) = (P true) := by simp only [tyD, kit_str_str, Option.some.injEq, exists_eq_left']
theorem kit_str_bool : kitB "str" "bool" = some false := by decide +kernel
theorem e_kit_str_bool {s : List Nat} {P : Bool → Prop} : (∃ b, kitB (tyD (.str s)) "bool" = some b ∧ P b) = (P false) := by simp only [tyD, kit_str_bool, Option.some.injEq, exists_eq_left']
theorem kit_str_tuple : kitB "str" "tuple" = some false := by decide +kernel
theorem e_kit_str_tuple {s : List Nat} {P : Bool → Prop} : (∃ b, kitB (tyD (.str s)) "tuple" = some b ∧ P b) = (P false) := by simp only [tyD, kit_str_tuple, Option.some.injEq, exists_eq_left']
theorem kit_str_list : kitB "str" "list" = some false := by decide +kernel
theorem e_kit_str_list {s : List Nat} {P : Bool → Prop} : (∃ b, kitB (tyD (.str s)) "list" = some b ∧ P b) = (P false) := by simp only [tyD, kit_str_list, Option.some.injEq, exists_eq_left']
theorem kit_tuple_int : kitB "tuple" "int" = some false := by decide +kernel
theorem e_kit_tuple_int {l : List D} {P : Bool → Prop} : (∃ b, kitB (tyD (.tup l)) "int" = some b ∧ P b) = (P false) := by simp only [tyD, kit_tuple_int, Option.some.injEq, exists_eq_left']
theorem kit_tuple_str : kitB "tuple" "str" = some false := by decide +kernel
theorem e_kit_tuple_str {l : List D} {P : Bool → Prop} : (∃ b, kitB (tyD (.tup l)) "str" = some b ∧ P b) = (P false) := by simp only [tyD, kit_tuple_str, Option.some.injEq, exists_eq_left']
theorem kit_tuple_bool : kitB "tuple" "bool" = some false := by decide +kernel
theorem e_kit_tuple_bool {l : List D} {P : Bool → Prop} : (∃ b, kitB (tyD (.tup l)) "bool" = some b ∧ P b) = (P false) := by simp only [tyD, kit_tuple_bool, Option.some.injEq, exists_eq_left']
theorem kit_tuple_tuple : kitB "tuple" "tuple" = some true := by decide +kernel
theorem e_kit_tuple_tuple {l : List D} {P : Bool → Prop} : (∃ b, kitB (tyD (.tup l)) "tuple" = some b ∧ P b) = (P true) := by simp only [tyD, kit_tuple_tuple, Option.some.injEq, exists_eq_left']
theorem kit_tuple_list : kitB "tuple" "list" = some false := by decide +kernel
theorem e_kit_tuple_list {l : List D} {P : Bool → Prop} : (∃ b, kitB (tyD (.tup l)) "list" = some b ∧ P b) = (P false) := by simp only [tyD, kit_tuple_list, Option.some.injEq, exists_eq_left']
theorem kit_list_int : kitB "list" "int" = some false := by decide +kernel
theorem e_kit_list_int {l : List D} {P : Bool → Prop} : (∃ b, kitB (tyD (.lst l)) "int" = some b ∧ P b) = (P false) := by simp only [tyD, kit_list_int, Option.some.injEq, exists_eq_left']
theorem kit_list_str : kitB "list" "str" = some false := by decide +kernel
theorem e_kit_list_str {l : List D} {P : Bool → Prop} : (∃ b, kitB (tyD (.lst l)) "str" = some b ∧ P b) = (P false) := by simp only [tyD, kit_list_str, Option.some.injEq, exists_eq_left']
theorem kit_list_bool : kitB "list" "bool" = some false := by decide +kernel
theorem e_kit_list_bool {l : List D} {P : Bool → Prop} : (∃ b, kitB (tyD (.lst l)) "bool" = some b ∧ P b) = (P false) := by simp only [tyD, kit_list_bool, Option.some.injEq, exists_eq_left']
theorem kit_list_tuple : kitB "list" "tuple" = some false := by decide +kernel
theorem e_kit_list_tuple {l : List D} {P : Bool → Prop} : (∃ b, kitB (tyD (.lst l)) "tuple" = some b ∧ P b) = (P false) := by simp only [tyD, kit_list_tuple, Option.some.injEq, exists_eq_left']
theorem kit_list_list : kitB "list" "list" = some true := by decide +kernel
theorem e_kit_list_list {l : List D} {P : Bool → Prop} : (∃ b, kitB (tyD (.lst l)) "list" = some b ∧ P b) = (P true) := by simp only [tyD, kit_list_list, Option.some.injEq, exists_eq_left']
theorem get0 {α : Type} {a0 : α} {l : List α} : (a0 :: l)[0]? = some a0 := rfl
theorem set0 {α : Type} {a0 x : α} {l : List α} : (a0 :: l).set 0 x = x :: l := rfl
theorem get1 {α : Type} {a0 a1 : α} {l : List α} : (a0 :: a1 :: l)[1]? = some a1 := rfl
theorem set1 {α : Type} {a0 a1 x : α} {l : List α} : (a0 :: a1 :: l).set 1 x = a0 :: x :: l := rfl
theorem get2 {α : Type} {a0 a1 a2 : α} {l : List α} : (a0 :: a1 :: a2 :: l)[2]? = some a2 := rfl
theorem set2 {α : Type} {a0 a1 a2 x : α} {l : List α} : (a0 :: a1 :: a2 :: l).set 2 x = a0 :: a1 :: x :: l := rfl
theorem get3 {α : Type} {a0 a1 a2 a3 : α} {l : List α} : (a0 :: a1 :: a2 :: a3 :: l)[3]? = some a3 := rfl
theorem set3 {α : Type} {a0 a1 a2 a3 x : α} {l : List α} : (a0 :: a1 :: a2 :: a3 :: l).set 3 x = a0 :: a1 :: a2 :: x :: l := rfl
theorem get4 {α : Type} {a0 a1 a2 a3 a4 : α} {l : List α} : (a0 :: a1 :: a2 :: a3 :: a4 :: l)[4]? = some a4 := rfl
theorem set4 {α : Type} {a0 a1 a2 a3 a4 x : α} {l : List α} : (a0 :: a1 :: a2 :: a3 :: a4 :: l).set 4 x = a0 :: a1 :: a2 :: a3 :: x :: l := rfl
theorem get5 {α : Type} {a0 a1 a2 a3 a4 a5 : α} {l : List α} : (a0 :: a1 :: a2 :: a3 :: a4 :: a5 :: l)[5]? = some a5 := rfl
theorem set5 {α : Type} {a0 a1 a2 a3 a4 a5 x : α} {l : List α} : (a0 :: a1 :: a2 :: a3 :: a4 :: a5 :: l).set 5 x = a0 :: a1 :: a2 :: a3 :: a4 :: x :: l := rfl
theorem get6 {α : Type} {a0 a1 a2 a3 a4 a5 a6 : α} {l : List α} : (a0 :: a1 :: a2 :: a3 :: a4 :: a5 :: a6 :: l)[6]? = some a6 := rfl
theorem set6 {α : Type} {a0 a1 a2 a3 a4 a5 a6 x : α} {l : List α} : (a0 :: a1 :: a2 :: a3 :: a4 :: a5 :: a6 :: l).set 6 x = a0 :: a1 :: a2 :: a3 :: a4 :: a5 :: x :: l := rfl
theorem get7 {α : Type} {a0 a1 a2 a3 a4 a5 a6 a7 : α} {l : List α} : (a0 :: a1 :: a2 :: a3 :: a4 :: a5 :: a6 :: a7 :: l)[7]? = some a7 := rfl
theorem set7 {α : Type} {a0 a1 a2 a3 a4 a5 a6 a7 x : α} {l : List α} : (a0 :: a1 :: a2 :: a3 :: a4 :: a5 :: a6 :: a7 :: l).set 7 x = a0 :: a1 :: a2 :: a3 :: a4 :: a5 :: a6 :: x :: l := rfl
theorem get8 {α : Type} {a0 a1 a2 a3 a4 a5 a6 a7 a8 : α} {l : List α} : (a0 :: a1 :: a2 :: a3 :: a4 :: a5 :: a6 :: a7 :: a8 :: l)[8]? = some a8 := rfl
theorem set8 {α : Type} {a0 a1 a2 a3 a4 a5 a6 a7 a8 x : α} {l : List α} : (a0 :: a1 :: a2 :: a3 :: a4 :: a5 :: a6 :: a7 :: a8 :: l).set 8 x = a0 :: a1 :: a2 :: a3 :: a4 :: a5 :: a6 :: a7 :: x :: l := rfl
theorem get9 {α : Type} {a0 a1 a2 a3 a4 a5 a6 a7 a8 a9 : α} {l : List α} : (a0 :: a1 :: a2 :: a3 :: a4 :: a5 :: a6 :: a7 :: a8 :: a9 :: l)[9]? = some a9 := rfl
theorem set9 {α : Type} {a0 a1 a2 a3 a4 a5 a6 a7 a8 a9 x : α} {l : List α} : (a0 :: a1 :: a2 :: a3 :: a4 :: a5 :: a6 :: a7 :: a8 :: a9 :: l).set 9 x = a0 :: a1 :: a2 :: a3 :: a4 :: a5 :: a6 :: a7 :: a8 :: x :: l := rfl
theorem get10 {α : Type} {a0 a1 a2 a3 a4 a5 a6 a7 a8 a9 a10 : α} {l : List α} : (a0 :: a1 :: a2 :: a3 :: a4 :: a5 :: a6 :: a7 :: a8 :: a9 :: a10 :: l)[10]? = some a10 := rfl
theorem set10 {α : Type} {a0 a1 a2 a3 a4 a5 a6 a7 a8 a9 a10 x : α} {l : List α} : (a0 :: a1 :: a2 :: a3 :: a4 :: a5 :: a6 :: a7 :: a8 :: a9 :: a10 :: l).set 10 x = a0 :: a1 :: a2 :: a3 :: a4 :: a5 :: a6 :: a7 :: a8 :: a9 :: x :: l := rfl
theorem get11 {α : Type} {a0 a1 a2 a3 a4 a5 a6 a7 a8 a9 a10 a11 : α} {l : List α} : (a0 :: a1 :: a2 :: a3 :: a4 :: a5 :: a6 :: a7 :: a8 :: a9 :: a10 :: a11 :: l)[11]? = some a11 := rfl
theorem set11 {α : Type} {a0 a1 a2 a3 a4 a5 a6 a7 a8 a9 a10 a11 x : α} {l : List α} : (a0 :: a1 :: a2 :: a3 :: a4 :: a5 :: a6 :: a7 :: a8 :: a9 :: a10 :: a11 :: l).set 11 x = a0 :: a1 :: a2 :: a3 :: a4 :: a5 :: a6 :: a7 :: a8 :: a9 :: a10 :: x :: l := rfl
theorem get12 {α : Type} {a0 a1 a2 a3 a4 a5 a6 a7 a8 a9 a10 a11 a12 : α} {l : List α} : (a0 :: a1 :: a2 :: a3 :: a4 :: a5 :: a6 :: a7 :: a8 :: a9 :: a10 :: a11 :: a12 :: l)[12]? = some a12 := rfl
theorem set12 {α : Type} {a0 a1 a2 a3 a4 a5 a6 a7 a8 a9 a10 a11 a12 x : α} {l : List α} : (a0 :: a1 :: a2 :: a3 :: a4 :: a5 :: a6 :: a7 :: a8 :: a9 :: a10 :: a11 :: a12 :: l).set 12 x = a0 :: a1 :: a2 :: a3 :: a4 :: a5 :: a6 :: a7 :: a8 :: a9 :: a10 :: a11 :: x :: l := rfl
theorem get13 {α : Type} {a0 a1 a2 a3 a4 a5 a6 a7 a8 a9 a10 a11 a12 a13 : α} {l : List α} : (a0 :: a1 :: a2 :: a3 :: a4 :: a5 :: a6 :: a7 :: a8 :: a9 :: a10 :: a11 :: a12 :: a13 :: l)[13]? = some a13 := rfl
theorem set13 {α : Type} {a0 a1 a2 a3 a4 a5 a6 a7 a8 a9 a10 a11 a12 a13 x : α} {l : List α} : (a0 :: a1 :: a2 :: a3 :: a4 :: a5 :: a6 :: a7 :: a8 :: a9 :: a10 :: a11 :: a12 :: a13 :: l).set 13 x = a0 :: a1 :: a2 :: a3 :: a4 :: a5 :: a6 :: a7 :: a8 :: a9 :: a10 :: a11 :: a12 :: x :: l := rfl
theorem get14 {α : Type} {a0 a1 a2 a3 a4 a5 a6 a7 a8 a9 a10 a11 a12 a13 a14 : α} {l : List α} : (a0 :: a1 :: a2 :: a3 :: a4 :: a5 :: a6 :: a7 :: a8 :: a9 :: a10 :: a11 :: a12 :: a13 :: a14 :: l)[14]? = some a14 := rfl
theorem set14 {α : Type} {a0 a1 a2 a3 a4 a5 a6 a7 a8 a9 a10 a11 a12 a13 a14 x : α} {l : List α} : (a0 :: a1 :: a2 :: a3 :: a4 :: a5 :: a6 :: a7 :: a8 :: a9 :: a10 :: a11 :: a12 :: a13 :: a14 :: l).set 14 x = a0 :: a1 :: a2 :: a3 :: a4 :: a5 :: a6 :: a7 :: a8 :: a9 :: a10 :: a11 :: a12 :: a13 :: x :: l := rfl
theorem get15 {α : Type} {a0 a1 a2 a3 a4 a5 a6 a7 a8 a9 a10 a11 a12 a13 a14 a15 : α} {l : List α} : (a0 :: a1 :: a2 :: a3 :: a4 :: a5 :: a6 :: a7 :: a8 :: a9 :: a10 :: a11 :: a12 :: a13 :: a14 :: a15 :: l)[15]? = some a15 := rfl
theorem set15 {α : Type} {a0 a1 a2 a3 a4 a5 a6 a7 a8 a9 a10 a11 a12 a13 a14 a15 x : α} {l : List α} : (a0 :: a1 :: a2 :: a3 :: a4 :: a5 :: a6 :: a7 :: a8 :: a9 :: a10 :: a11 :: a12 :: a13 :: a14 :: a15 :: l).set 15 x = a0 :: a1 :: a2 :: a3 :: a4 :: a5 :: a6 :: a7 :: a8 :: a9 :: a10 :: a11 :: a12 :: a13 :: a14 :: x :: l := rfl
theorem get16 {α : Type} {a0 a1 a2 a3 a4 a5 a6 a7 a8 a9 a10 a11 a12 a13 a14 a15 a16 : α} {l : List α} : (a0 :: a1 :: a2 :: a3 :: a4 :: a5 :: a6 :: a7 :: a8 :: a9 :: a10 :: a11 :: a12 :: a13 :: a14 :: a15 :: a16 :: l)[16]? = some a16 := rfl
theorem set16 {α : Type} {a0 a1 a2 a3 a4 a5 a6 a7 a8 a9 a10 a11 a12 a13 a14 a15 a16 x : α} {l : List α} : (a0 :: a1 :: a2 :: a3 :: a4 :: a5 :: a6 :: a7 :: a8 :: a9 :: a10 :: a11 :: a12 :: a13 :: a14 :: a15 :: a16 :: l).set 16 x = a0 :: a1 :: a2 :: a3 :: a4 :: a5 :: a6 :: a7 :: a8 :: a9 :: a10 :: a11 :: a12 :: a13 :: a14 :: a15 :: x :: l := rfl
theorem get17 {α : Type} {a0 a1 a2 a3 a4 a5 a6 a7 a8 a9 a10 a11 a12 a13 a14 a15 a16 a17 : α} {l : List α} : (a0 :: a1 :: a2 :: a3 :: a4 :: a5 :: a6 :: a7 :: a8 :: a9 :: a10 :: a11 :: a12 :: a13 :: a14 :: a15 :: a16 :: a17 :: l)[17]? = some a17 := rfl
theorem set17 {α : Type} {a0 a1 a2 a3 a4 a5 a6 a7 a8 a9 a10 a11 a12 a13 a14 a15 a16 a17 x : α} {l : List α} : (a0 :: a1 :: a2 :: a3 :: a4 :: a5 :: a6 :: a7 :: a8 :: a9 :: a10 :: a11 :: a12 :: a13 :: a14 :: a15 :: a16 :: a17 :: l).set 17 x = a0 :: a1 :: a2 :: a3 :: a4 :: a5 :: a6 :: a7 :: a8 :: a9 :: a10 :: a11 :: a12 :: a13 :: a14 :: a15 :: a16 :: x :: l := rfl
theorem get18 {α : Type} {a0 a1 a2 a3 a4 a5 a6 a7 a8 a9 a10 a11 a12 a13 a14 a15 a16 a17 a18 : α} {l : List α} : (a0 :: a1 :: a2 :: a3 :: a4 :: a5 :: a6 :: a7 :: a8 :: a9 :: a10 :: a11 :: a12 :: a13 :: a14 :: a15 :: a16 :: a17 :: a18 :: l)[18]? = some a18 := rfl
theorem set18 {α : Type} {a0 a1 a2 a3 a4 a5 a6 a7 a8 a9 a10 a11 a12 a13 a14 a15 a16 a17 a18 x : α} {l : List α} : (a0 :: a1 :: a2 :: a3 :: a4 :: a5 :: a6 :: a7 :: a8 :: a9 :: a10 :: a11 :: a12 :: a13 :: a14 :: a15 :: a16 :: a17 :: a18 :: l).set 18 x = a0 :: a1 :: a2 :: a3 :: a4 :: a5 :: a6 :: a7 :: a8 :: a9 :: a10 :: a11 :: a12 :: a13 :: a14 :: a15 :: a16 :: a17 :: x :: l := rfl
theorem get19 {α : Type} {a0 a1 a2 a3 a4 a5 a6 a7 a8 a9 a10 a11 a12 a13 a14 a15 a16 a17 a18 a19 : α} {l : List α} : (a0 :: a1 :: a2 :: a3 :: a4 :: a5 :: a6 :: a7 :: a8 :: a9 :: a10 :: a11 :: a12 :: a13 :: a14 :: a15 :: a16 :: a17 :: a18 :: a19 :: l)[19]? = some a19 := rfl
theorem set19 {α : Type} {a0 a1 a2 a3 a4 a5 a6 a7 a8 a9 a10 a11 a12 a13 a14 a15 a16 a17 a18 a19 x : α} {l : List α} : (a0 :: a1 :: a2 :: a3 :: a4 :: a5 :: a6 :: a7 :: a8 :: a9 :: a10 :: a11 :: a12 :: a13 :: a14 :: a15 :: a16 :: a17 :: a18 :: a19 :: l).set 19 x = a0 :: a1 :: a2 :: a3 :: a4 :: a5 :: a6 :: a7 :: a8 :: a9 :: a10 :: a11 :: a12 :: a13 :: a14 :: a15 :: a16 :: a17 :: a18 :: x :: l := rfl
theorem get20 {α : Type} {a0 a1 a2 a3 a4 a5 a6 a7 a8 a9 a10 a11 a12 a13 a14 a15 a16 a17 a18 a19 a20 : α} {l : List α} : (a0 :: a1 :: a2 :: a3 :: a4 :: a5 :: a6 :: a7 :: a8 :: a9 :: a10 :: a11 :: a12 :: a13 :: a14 :: a15 :: a16 :: a17 :: a18 :: a19 :: a20 :: l)[20]? = some a20 := rfl
theorem set20 {α : Type} {a0 a1 a2 a3 a4 a5 a6 a7 a8 a9 a10 a11 a12 a13 a14 a15 a16 a17 a18 a19 a20 x : α} {l : List α} : (a0 :: a1 :: a2 :: a3 :: a4 :: a5 :: a6 :: a7 :: a8 :: a9 :: a10 :: a11 :: a12 :: a13 :: a14 :: a15 :: a16 :: a17 :: a18 :: a19 :: a20 :: l).set 20 x = a0 :: a1 :: a2 :: a3 :: a4 :: a5 :: a6 :: a7 :: a8 :: a9 :: a10 :: a11 :: a12 :: a13 :: a14 :: a15 :: a16 :: a17 :: a18 :: a19 :: x :: l := rfl
theorem get21 {α : Type} {a0 a1 a2 a3 a4 a5 a6 a7 a8 a9 a10 a11 a12 a13 a14 a15 a16 a17 a18 a19 a20 a21 : α} {l : List α} : (a0 :: a1 :: a2 :: a3 :: a4 :: a5 :: a6 :: a7 :: a8 :: a9 :: a10 :: a11 :: a12 :: a13 :: a14 :: a15 :: a16 :: a17 :: a18 :: a19 :: a20 :: a21 :: l)[21]? = some a21 := rfl
theorem set21 {α : Type} {a0 a1 a2 a3 a4 a5 a6 a7 a8 a9 a10 a11 a12 a13 a14 a15 a16 a17 a18 a19 a20 a21 x : α} {l : List α} : (a0 :: a1 :: a2 :: a3 :: a4 :: a5 :: a6 :: a7 :: a8 :: a9 :: a10 :: a11 :: a12 :: a13 :: a14 :: a15 :: a16 :: a17 :: a18 :: a19 :: a20 :: a21 :: l).set 21 x = a0 :: a1 :: a2 :: a3 :: a4 :: a5 :: a6 :: a7 :: a8 :: a9 :: a10 :: a11 :: a12 :: a13 :: a14 :: a15 :: a16 :: a17 :: a18 :: a19 :: a20 :: x :: l := rfl
theorem get22 {α : Type} {a0 a1 a2 a3 a4 a5 a6 a7 a8 a9 a10 a11 a12 a13 a14 a15 a16 a17 a18 a19 a20 a21 a22 : α} {l : List α} : (a0 :: a1 :: a2 :: a3 :: a4 :: a5 :: a6 :: a7 :: a8 :: a9 :: a10 :: a11 :: a12 :: a13 :: a14 :: a15 :: a16 :: a17 :: a18 :: a19 :: a20 :: a21 :: a22 :: l)[22]? = some a22 := rfl
theorem set22 {α : Type} {a0 a1 a2 a3 a4 a5 a6 a7 a8 a9 a10 a11 a12 a13 a14 a15 a16 a17 a18 a19 a20 a21 a22 x : α} {l : List α} : (a0 :: a1 :: a2 :: a3 :: a4 :: a5 :: a6 :: a7 :: a8 :: a9 :: a10 :: a11 :: a12 :: a13 :: a14 :: a15 :: a16 :: a17 :: a18 :: a19 :: a20 :: a21 :: a22 :: l).set 22 x = a0 :: a1 :: a2 :: a3 :: a4 :: a5 :: a6 :: a7 :: a8 :: a9 :: a10 :: a11 :: a12 :: a13 :: a14 :: a15 :: a16 :: a17 :: a18 :: a19 :: a20 :: a21 :: x :: l := rfl
theorem get23 {α : Type} {a0 a1 a2 a3 a4 a5 a6 a7 a8 a9 a10 a11 a12 a13 a14 a15 a16 a17 a18 a19 a20 a21 a22 a23 : α} {l : List α} : (a0 :: a1 :: a2 :: a3 :: a4 :: a5 :: a6 :: a7 :: a8 :: a9 :: a10 :: a11 :: a12 :: a13 :: a14 :: a15 :: a16 :: a17 :: a18 :: a19 :: a20 :: a21 :: a22 :: a23 :: l)[23]? = some a23 := rfl
theorem set23 {α : Type} {a0 a1 a2 a3 a4 a5 a6 a7 a8 a9 a10 a11 a12 a13 a14 a15 a16 a17 a18 a19 a20 a21 a22 a23 x : α} {l : List α} : (a0 :: a1 :: a2 :: a3 :: a4 :: a5 :: a6 :: a7 :: a8 :: a9 :: a10 :: a11 :: a12 :: a13 :: a14 :: a15 :: a16 :: a17 :: a18 :: a19 :: a20 :: a21 :: a22 :: a23 :: l).set 23 x = a0 :: a1 :: a2 :: a3 :: a4 :: a5 :: a6 :: a7 :: a8 :: a9 :: a10 :: a11 :: a12 :: a13 :: a14 :: a15 :: a16 :: a17 :: a18 :: a19 :: a20 :: a21 :: a22 :: x :: l := rfl
theorem get24 {α : Type} {a0 a1 a2 a3 a4 a5 a6 a7 a8 a9 a10 a11 a12 a13 a14 a15 a16 a17 a18 a19 a20 a21 a22 a23 a24 : α} {l : List α} : (a0 :: a1 :: a2 :: a3 :: a4 :: a5 :: a6 :: a7 :: a8 :: a9 :: a10 :: a11 :: a12 :: a13 :: a14 :: a15 :: a16 :: a17 :: a18 :: a19 :: a20 :: a21 :: a22 :: a23 :: a24 :: l)[24]? = some a24 := rfl
theorem set24 {α : Type} {a0 a1 a2 a3 a4 a5 a6 a7 a8 a9 a10 a11 a12 a13 a14 a15 a16 a17 a18 a19 a20 a21 a22 a23 a24 x : α} {l : List α} : (a0 :: a1 :: a2 :: a3 :: a4 :: a5 :: a6 :: a7 :: a8 :: a9 :: a10 :: a11 :: a12 :: a13 :: a14 :: a15 :: a16 :: a17 :: a18 :: a19 :: a20 :: a21 :: a22 :: a23 :: a24 :: l).set 24 x = a0 :: a1 :: a2 :: a3 :: a4 :: a5 :: a6 :: a7 :: a8 :: a9 :: a10 :: a11 :: a12 :: a13 :: a14 :: a15 :: a16 :: a17 :: a18 :: a19 :: a20 :: a21 :: a22 :: a23 :: x :: l := rfl
theorem get25 {α : Type} {a0 a1 a2 a3 a4 a5 a6 a7 a8 a9 a10 a11 a12 a13 a14 a15 a16 a17 a18 a19 a20 a21 a22 a23 a24 a25 : α} {l : List α} : (a0 :: a1 :: a2 :: a3 :: a4 :: a5 :: a6 :: a7 :: a8 :: a9 :: a10 :: a11 :: a12 :: a13 :: a14 :: a15 :: a16 :: a17 :: a18 :: a19 :: a20 :: a21 :: a22 :: a23 :: a24 :: a25 :: l)[25]? = some a25 := rfl
theorem set25 {α : Type} {a0 a1 a2 a3 a4 a5 a6 a7 a8 a9 a10 a11 a12 a13 a14 a15 a16 a17 a18 a19 a20 a21 a22 a23 a24 a25 x : α} {l : List α} : (a0 :: a1 :: a2 :: a3 :: a4 :: a5 :: a6 :: a7 :: a8 :: a9 :: a10 :: a11 :: a12 :: a13 :: a14 :: a15 :: a16 :: a17 :: a18 :: a19 :: a20 :: a21 :: a22 :: a23 :: a24 :: a25 :: l).set 25 x = a0 :: a1 :: a2 :: a3 :: a4 :: a5 :: a6 :: a7 :: a8 :: a9 :: a10 :: a11 :: a12 :: a13 :: a14 :: a15 :: a16 :: a17 :: a18 :: a19 :: a20 :: a21 :: a22 :: a23 :: a24 :: x :: l := rfl
theorem ixn0 {α : Type} {a0 : α} {l : List α} : ixN (a0 :: l).length 0 = some 0 := by
  unfold ixN
  simp only [List.length_cons]
  rw [if_pos (by decide), if_pos (by omega)]
  rfl
theorem at0 {α : Type} {a0 : α} {l : List α} : atI (a0 :: l) 0 = some a0 := by
  unfold atI
  rw [ixn0]; rfl
theorem e_at0 {α : Type} {a0 : α} {l : List α} {P : α → Prop} : (∃ z, atI (a0 :: l) 0 = some z ∧ P z) = P a0 := by
  rw [at0]; simp
theorem e_ixn0 {α : Type} {a0 : α} {l : List α} {P : Nat → Prop} : (∃ n j, D.int 0 = .int n ∧ ixN (a0 :: l).length n = some j ∧ P j) = P 0 := by
  refine propext ⟨fun ⟨n, j, e, h, q⟩ => ?_, fun q => ⟨0, 0, rfl, ixn0, q⟩⟩
  cases e
  rw [ixn0] at h
  cases h; exact q
theorem ixn1 {α : Type} {a0 a1 : α} {l : List α} : ixN (a0 :: a1 :: l).length 1 = some 1 := by
  unfold ixN
  simp only [List.length_cons]
  rw [if_pos (by decide), if_pos (by omega)]
  rfl
theorem at1 {α : Type} {a0 a1 : α} {l : List α} : atI (a0 :: a1 :: l) 1 = some a1 := by
  unfold atI
  rw [ixn1]; rfl
theorem e_at1 {α : Type} {a0 a1 : α} {l : List α} {P : α → Prop} : (∃ z, atI (a0 :: a1 :: l) 1 = some z ∧ P z) = P a1 := by
  rw [at1]; simp
theorem e_ixn1 {α : Type} {a0 a1 : α} {l : List α} {P : Nat → Prop} : (∃ n j, D.int 1 = .int n ∧ ixN (a0 :: a1 :: l).length n = some j ∧ P j) = P 1 := by
  refine propext ⟨fun ⟨n, j, e, h, q⟩ => ?_, fun q => ⟨1, 1, rfl, ixn1, q⟩⟩
  cases e
  rw [ixn1] at h
  cases h; exact q
theorem ixn2 {α : Type} {a0 a1 a2 : α} {l : List α} : ixN (a0 :: a1 :: a2 :: l).length 2 = some 2 := by
  unfold ixN
  simp only [List.length_cons]
  rw [if_pos (by decide), if_pos (by omega)]
  rfl
theorem at2 {α : Type} {a0 a1 a2 : α} {l : List α} : atI (a0 :: a1 :: a2 :: l) 2 = some a2 := by
  unfold atI
  rw [ixn2]; rfl
theorem e_at2 {α : Type} {a0 a1 a2 : α} {l : List α} {P : α → Prop} : (∃ z, atI (a0 :: a1 :: a2 :: l) 2 = some z ∧ P z) = P a2 := by
  rw [at2]; simp
theorem e_ixn2 {α : Type} {a0 a1 a2 : α} {l : List α} {P : Nat → Prop} : (∃ n j, D.int 2 = .int n ∧ ixN (a0 :: a1 :: a2 :: l).length n = some j ∧ P j) = P 2 := by
  refine propext ⟨fun ⟨n, j, e, h, q⟩ => ?_, fun q => ⟨2, 2, rfl, ixn2, q⟩⟩
  cases e
  rw [ixn2] at h
  cases h; exact q
theorem ixn3 {α : Type} {a0 a1 a2 a3 : α} {l : List α} : ixN (a0 :: a1 :: a2 :: a3 :: l).length 3 = some 3 := by
  unfold ixN
  simp only [List.length_cons]
  rw [if_pos (by decide), if_pos (by omega)]
  rfl
theorem at3 {α : Type} {a0 a1 a2 a3 : α} {l : List α} : atI (a0 :: a1 :: a2 :: a3 :: l) 3 = some a3 := by
  unfold atI
  rw [ixn3]; rfl
theorem e_at3 {α : Type} {a0 a1 a2 a3 : α} {l : List α} {P : α → Prop} : (∃ z, atI (a0 :: a1 :: a2 :: a3 :: l) 3 = some z ∧ P z) = P a3 := by
  rw [at3]; simp
theorem e_ixn3 {α : Type} {a0 a1 a2 a3 : α} {l : List α} {P : Nat → Prop} : (∃ n j, D.int 3 = .int n ∧ ixN (a0 :: a1 :: a2 :: a3 :: l).length n = some j ∧ P j) = P 3 := by
  refine propext ⟨fun ⟨n, j, e, h, q⟩ => ?_, fun q => ⟨3, 3, rfl, ixn3, q⟩⟩
  cases e
  rw [ixn3] at h
  cases h; exact q
theorem ixn4 {α : Type} {a0 a1 a2 a3 a4 : α} {l : List α} : ixN (a0 :: a1 :: a2 :: a3 :: a4 :: l).length 4 = some 4 := by
  unfold ixN
  simp only [List.length_cons]
  rw [if_pos (by decide), if_pos (by omega)]
  rfl
theorem at4 {α : Type} {a0 a1 a2 a3 a4 : α} {l : List α} : atI (a0 :: a1 :: a2 :: a3 :: a4 :: l) 4 = some a4 := by
  unfold atI
  rw [ixn4]; rfl
theorem e_at4 {α : Type} {a0 a1 a2 a3 a4 : α} {l : List α} {P : α → Prop} : (∃ z, atI (a0 :: a1 :: a2 :: a3 :: a4 :: l) 4 = some z ∧ P z) = P a4 := by
  rw [at4]; simp
theorem e_ixn4 {α : Type} {a0 a1 a2 a3 a4 : α} {l : List α} {P : Nat → Prop} : (∃ n j, D.int 4 = .int n ∧ ixN (a0 :: a1 :: a2 :: a3 :: a4 :: l).length n = some j ∧ P j) = P 4 := by
  refine propext ⟨fun ⟨n, j, e, h, q⟩ => ?_, fun q => ⟨4, 4, rfl, ixn4, q⟩⟩
  cases e
  rw [ixn4] at h
  cases h; exact q
theorem ixn5 {α : Type} {a0 a1 a2 a3 a4 a5 : α} {l : List α} : ixN (a0 :: a1 :: a2 :: a3 :: a4 :: a5 :: l).length 5 = some 5 := by
  unfold ixN
  simp only [List.length_cons]
  rw [if_pos (by decide), if_pos (by omega)]
  rfl
theorem at5 {α : Type} {a0 a1 a2 a3 a4 a5 : α} {l : List α} : atI (a0 :: a1 :: a2 :: a3 :: a4 :: a5 :: l) 5 = some a5 := by
  unfold atI
  rw [ixn5]; rfl
theorem e_at5 {α : Type} {a0 a1 a2 a3 a4 a5 : α} {l : List α} {P : α → Prop} : (∃ z, atI (a0 :: a1 :: a2 :: a3 :: a4 :: a5 :: l) 5 = some z ∧ P z) = P a5 := by
  rw [at5]; simp
theorem e_ixn5 {α : Type} {a0 a1 a2 a3 a4 a5 : α} {l : List α} {P : Nat → Prop} : (∃ n j, D.int 5 = .int n ∧ ixN (a0 :: a1 :: a2 :: a3 :: a4 :: a5 :: l).length n = some j ∧ P j) = P 5 := by
  refine propext ⟨fun ⟨n, j, e, h, q⟩ => ?_, fun q => ⟨5, 5, rfl, ixn5, q⟩⟩
  cases e
  rw [ixn5] at h
  cases h; exact q
theorem ixn6 {α : Type} {a0 a1 a2 a3 a4 a5 a6 : α} {l : List α} : ixN (a0 :: a1 :: a2 :: a3 :: a4 :: a5 :: a6 :: l).length 6 = some 6 := by
  unfold ixN
  simp only [List.length_cons]
  rw [if_pos (by decide), if_pos (by omega)]
  rfl
theorem at6 {α : Type} {a0 a1 a2 a3 a4 a5 a6 : α} {l : List α} : atI (a0 :: a1 :: a2 :: a3 :: a4 :: a5 :: a6 :: l) 6 = some a6 := by
  unfold atI
  rw [ixn6]; rfl
theorem e_at6 {α : Type} {a0 a1 a2 a3 a4 a5 a6 : α} {l : List α} {P : α → Prop} : (∃ z, atI (a0 :: a1 :: a2 :: a3 :: a4 :: a5 :: a6 :: l) 6 = some z ∧ P z) = P a6 := by
  rw [at6]; simp
theorem e_ixn6 {α : Type} {a0 a1 a2 a3 a4 a5 a6 : α} {l : List α} {P : Nat → Prop} : (∃ n j, D.int 6 = .int n ∧ ixN (a0 :: a1 :: a2 :: a3 :: a4 :: a5 :: a6 :: l).length n = some j ∧ P j) = P 6 := by
  refine propext ⟨fun ⟨n, j, e, h, q⟩ => ?_, fun q => ⟨6, 6, rfl, ixn6, q⟩⟩
  cases e
  rw [ixn6] at h
  cases h; exact q
theorem ixn7 {α : Type} {a0 a1 a2 a3 a4 a5 a6 a7 : α} {l : List α} : ixN (a0 :: a1 :: a2 :: a3 :: a4 :: a5 :: a6 :: a7 :: l).length 7 = some 7 := by
  unfold ixN
  simp only [List.length_cons]
  rw [if_pos (by decide), if_pos (by omega)]
  rfl
theorem at7 {α : Type} {a0 a1 a2 a3 a4 a5 a6 a7 : α} {l : List α} : atI (a0 :: a1 :: a2 :: a3 :: a4 :: a5 :: a6 :: a7 :: l) 7 = some a7 := by
  unfold atI
  rw [ixn7]; rfl
theorem e_at7 {α : Type} {a0 a1 a2 a3 a4 a5 a6 a7 : α} {l : List α} {P : α → Prop} : (∃ z, atI (a0 :: a1 :: a2 :: a3 :: a4 :: a5 :: a6 :: a7 :: l) 7 = some z ∧ P z) = P a7 := by
  rw [at7]; simp
theorem e_ixn7 {α : Type} {a0 a1 a2 a3 a4 a5 a6 a7 : α} {l : List α} {P : Nat → Prop} : (∃ n j, D.int 7 = .int n ∧ ixN (a0 :: a1 :: a2 :: a3 :: a4 :: a5 :: a6 :: a7 :: l).length n = some j ∧ P j) = P 7 := by
  refine propext ⟨fun ⟨n, j, e, h, q⟩ => ?_, fun q => ⟨7, 7, rfl, ixn7, q⟩⟩
  cases e
  rw [ixn7] at h
  cases h; exact q
theorem ixn8 {α : Type} {a0 a1 a2 a3 a4 a5 a6 a7 a8 : α} {l : List α} : ixN (a0 :: a1 :: a2 :: a3 :: a4 :: a5 :: a6 :: a7 :: a8 :: l).length 8 = some 8 := by
  unfold ixN
  simp only [List.length_cons]
  rw [if_pos (by decide), if_pos (by omega)]
  rfl
theorem at8 {α : Type} {a0 a1 a2 a3 a4 a5 a6 a7 a8 : α} {l : List α} : atI (a0 :: a1 :: a2 :: a3 :: a4 :: a5 :: a6 :: a7 :: a8 :: l) 8 = some a8 := by
  unfold atI
  rw [ixn8]; rfl
theorem e_at8 {α : Type} {a0 a1 a2 a3 a4 a5 a6 a7 a8 : α} {l : List α} {P : α → Prop} : (∃ z, atI (a0 :: a1 :: a2 :: a3 :: a4 :: a5 :: a6 :: a7 :: a8 :: l) 8 = some z ∧ P z) = P a8 := by
  rw [at8]; simp
theorem e_ixn8 {α : Type} {a0 a1 a2 a3 a4 a5 a6 a7 a8 : α} {l : List α} {P : Nat → Prop} : (∃ n j, D.int 8 = .int n ∧ ixN (a0 :: a1 :: a2 :: a3 :: a4 :: a5 :: a6 :: a7 :: a8 :: l).length n = some j ∧ P j) = P 8 := by
  refine propext ⟨fun ⟨n, j, e, h, q⟩ => ?_, fun q => ⟨8, 8, rfl, ixn8, q⟩⟩
  cases e
  rw [ixn8] at h
  cases h; exact q
theorem ixn9 {α : Type} {a0 a1 a2 a3 a4 a5 a6 a7 a8 a9 : α} {l : List α} : ixN (a0 :: a1 :: a2 :: a3 :: a4 :: a5 :: a6 :: a7 :: a8 :: a9 :: l).length 9 = some 9 := by
  unfold ixN
  simp only [List.length_cons]
  rw [if_pos (by decide), if_pos (by omega)]
  rfl
theorem at9 {α : Type} {a0 a1 a2 a3 a4 a5 a6 a7 a8 a9 : α} {l : List α} : atI (a0 :: a1 :: a2 :: a3 :: a4 :: a5 :: a6 :: a7 :: a8 :: a9 :: l) 9 = some a9 := by
  unfold atI
  rw [ixn9]; rfl
theorem e_at9 {α : Type} {a0 a1 a2 a3 a4 a5 a6 a7 a8 a9 : α} {l : List α} {P : α → Prop} : (∃ z, atI (a0 :: a1 :: a2 :: a3 :: a4 :: a5 :: a6 :: a7 :: a8 :: a9 :: l) 9 = some z ∧ P z) = P a9 := by
  rw [at9]; simp
theorem e_ixn9 {α : Type} {a0 a1 a2 a3 a4 a5 a6 a7 a8 a9 : α} {l : List α} {P : Nat → Prop} : (∃ n j, D.int 9 = .int n ∧ ixN (a0 :: a1 :: a2 :: a3 :: a4 :: a5 :: a6 :: a7 :: a8 :: a9 :: l).length n = some j ∧ P j) = P 9 := by
  refine propext ⟨fun ⟨n, j, e, h, q⟩ => ?_, fun q => ⟨9, 9, rfl, ixn9, q⟩⟩
  cases e
  rw [ixn9] at h
  cases h; exact q
theorem rg0 : rgD 0 0 = [] := rfl
theorem rg1 : rgD 0 1 = [.int 0] := rfl
theorem rg2 : rgD 0 2 = [.int 0, .int 1] := rfl
theorem rg3 : rgD 0 3 = [.int 0, .int 1, .int 2] := rfl
theorem rg4 : rgD 0 4 = [.int 0, .int 1, .int 2, .int 3] := rfl
theorem rg5 : rgD 0 5 = [.int 0, .int 1, .int 2, .int 3, .int 4] := rfl
theorem rg6 : rgD 0 6 = [.int 0, .int 1, .int 2, .int 3, .int 4, .int 5] := rfl
theorem rg7 : rgD 0 7 = [.int 0, .int 1, .int 2, .int 3, .int 4, .int 5, .int 6] := rfl
theorem rg8 : rgD 0 8 = [.int 0, .int 1, .int 2, .int 3, .int 4, .int 5, .int 6, .int 7] := rfl
end DL
namespace DL
open PySem PySem.Spec L2
section
variable {K : PySem.W.Frag} {mg : Str → Option Value} {h : Heap}
theorem defat_mk {x : Str} {st : Stmt} {ps : List Str} {f : Addr} {oc : Value} {od an : Option Addr} {osl : Array (Option Value)} {kV doc pm cdv ct : Value} (X : K.In h) (G : h.Ns mainGlobals mg)
    (b : ∀ (kV doc pm : Value) (an : Option Addr) (cdv ct : Value), BAll (PySem.W.fnOf x x (defArgs st) (defBody st) (defScope st) .none kV doc pm an cdv ct) ps)
    (a : PySem.W.nsIn K mainGlobals x = some (some (.ref f))) (l : K.lookup f = some ⟨oc, od, .func (PySem.W.fnOf x x (defArgs st) (defBody st) (defScope st) .none kV doc pm an cdv ct), osl⟩)
    (c : PySem.W.codeIn K cdv x = true) (k : PySem.W.keepIn K (.ref f) = true) : DefAt K mg x st ps :=
  ⟨f, _, fun_mk l c k, PySem.W.mg_of X G a, b kV doc pm an cdv ct⟩
theorem LkF.uniq {f : Addr} {fd fd' : FuncData} (a : LkF K f fd) (b : LkF K f fd') : fd = fd' := by
  obtain ⟨_, _, _, e⟩ := a
  obtain ⟨_, _, _, e'⟩ := b
  have := Option.some.inj (e.symm.trans e')
  injection this with _ _ h3 _
  injection h3
theorem law_end {P : Program} {w : World} {k : Nat} {x p : Str} {st : Stmt} {fa : Addr} {sp : Sp} (d : DefAt K mg x st [p]) (hfa : mg x = some (.ref fa))
    (H : ∀ base : Heap, K.In base → base.Ns mainGlobals mg → Has P w K mg base k x [p] sp) :
    ∃ fd : FuncData, (∀ (s : Shared) (u : Value), BindsTo s fd ⟨[u], []⟩ [(p, u)]) ∧ ∀ base : Heap, K.In base → base.Ns mainGlobals mg → FnOk P w K mg base CX0 k fa fd [p] sp := by
  obtain ⟨f, fd, F, g, b⟩ := d
  refine ⟨fd, fun s u => .of_eq (b [u] rfl), fun base X G => ?_⟩
  obtain ⟨f', fd', g', _, ⟨_, lk⟩, ok⟩ := H base X G
  have e1 : f' = f := by
    have := g'.symm.trans g
    injection this with this
    injection this
  have e2 : fa = f := by
    have := hfa.symm.trans g
    injection this with this
    injection this
  subst e1; subst e2
  rw [(lkF_of F).uniq lk]
  exact ok
theorem sp_ro {ok : List D → Prop} {m : DM} {H : Hp} {a : Addr} {ns : List Int} (hS : SqL K H a (ns.map V.int)) (hm : ∀ R : D → Prop, R (.bl true) → m [.d (.ro ns)] R) : spM K ok m [.ref a] H (fun v _ => v = .bl true) fun _ _ _ => False := by
  refine ⟨H, [], [.d (.ro ns)], fun x => x = .bl true, ⟨Same.refl _, Same.refl _, fun b o e _ => e, fun b h1 h2 => h2, fun i x e => ?_, fun i s e hm => ?_, fun i k s t p hne e1 e2 h1 => ?_, fun q hq => (by cases hq), rfl⟩, rfl, fun i p e => ?_, hm _ rfl, fun v H' F' x _ rx e => ?_⟩
  · match i with
    | 0 => cases e; exact ⟨_, rfl, a, rfl, hS⟩
    | i + 1 => simp at e
  · match i with
    | 0 => cases e; cases hm
    | i + 1 => simp at e
  · match i with
    | 0 => cases e1; cases h1
    | i + 1 => simp at e1
  · match i with
    | 0 => cases e
    | i + 1 => simp at e
  · subst e
    exact rx
end
end DL
namespace DL
open PySem PySem.Spec L2
section
variable {X : Cx} {C : Cd}
/-- all of a list of truths -/
def allR : List D → D → Prop
  | [.lst xs], z => ∃ bs : List Bool, xs = bs.map .bl ∧ z = .bl (bs.all id)
  | _, _ => False
theorem rps_bls {K : PySem.W.Frag} {F : Hp} : ∀ {bs : List Bool} {vs : List V}, Rps K F (bs.map .bl) vs → vs = bs.map V.bl
  | [], vs, h => by
    unfold Rps at h
    exact h
  | b :: bs, vs, h => by
    rw [List.map_cons] at h
    unfold Rps at h
    obtain ⟨v, r, rfl, h1, h2⟩ := h
    have h1 : v = .bl b := by unfold Rp at h1; exact h1
    rw [h1, rps_bls h2]
    rfl
theorem cd_all (hc : X.calm = true) : CallD X C (.builtin "all") allR := by
  refine ⟨_, cr_all hc, fun σ H F ρ xs vs z Q rp rx hg k => ?_⟩
  unfold allR at hg
  split at hg
  · obtain ⟨v, rfl, h⟩ := rps_one rx
    obtain ⟨a, us, rfl, b1, b2⟩ := rp_lst_inv h
    obtain ⟨bs, rfl, rfl⟩ := hg
    cases rps_bls b2
    exact ⟨_, bs, rfl, SqL.of (rp.sub _ _ b1), k _ _ _ rp Step.refl (by unfold Rp; rfl)⟩
  · exact hg.elim
/-- f(k = e) -/
theorem pe_callK0 {CX : CXT} {k : Nat} {f : Addr} {fd : FuncData} {ps ks : List Str} {sp : Sp} {E : XK} {x : Str} {p pos : Pos} {kws : List Keyword} {tk : TA} {g : List Value → List Value → List Value} {gV : List V → List V → List V}
    (F : FnOk X.prog X.w X.K X.mg X.base CX k f fd ps sp) (hr : Room k X.A) (hg : Gl X x) (hm : X.mg x = some (.ref f)) (hk : PySem.W.keepIn X.K (.ref f) = true) (hb : KBinds X.K fd ps ks g gV) (hx : Passes CX X E) (hkw : PK X kws tk)
    (hall : (backToKw pos (keywordEach kws X.env)).all (·.1.isSome) = true := by rfl) (hks : (backToKw pos (keywordEach kws X.env)).filterMap (·.1) = ks := by rfl) (hdb : (x == ("__debug__" : Str)) = false := by decide)
    (hpl : ((backTo pos (starEach [] X.env)).any (·.1) || (backToKw pos (keywordEach kws X.env)).any (·.1.isNone)) = false := by rfl) : PE X (.Call (.Name x p) [] kws pos) (fun σ H Q => tk σ H fun zs H2 => sp (gV [] zs) H2 Q E) :=
  ⟨fun pins s σ H Q I h => wpAny_Call_Name_kw (ld_glob I hg hm (PySem.W.callWith_KW0 (h₀ := X.base) I.ok.mod.kin hk hall (thn (hkw.run pos pins s σ H _ I h) fun ws s2 ⟨zs, H2, I2, rz, q2⟩ => ⟨I2.kIn, by
    rw [hks]
    exact run_fnk (us := []) (vs := []) F hr hb hx I2 .nil rz q2⟩) hpl) hdb)⟩
theorem pd_callKw {k j : Nat} {x y : Str} {st : Stmt} {m : DM} {p pos kpos : Pos} {e : Expr} {de : DE} (d : DefAt X.K X.mg x st [y]) (h : Has X.prog X.w X.K X.mg X.base k x [y] (spM X.K C.ok m))
    (kb : ∀ (kV doc pm : Value) (an : Option Addr) (cdv ct v : Value), bindArgs (PySem.W.fnOf x x (defArgs st) (defBody st) (defScope st) .none kV doc pm an cdv ct) ⟨[], [(y, v)]⟩ = pure [(y, v)])
    (hr : Room j X.A) (he : PD X C e de) (hj : k ≤ j := by decide) (hg : Gl X x := by rfl) (hdb : (x == ("__debug__" : Str)) = false := by decide)
    (hall : (backToKw pos (keywordEach [⟨some y, e, kpos⟩] X.env)).all (·.1.isSome) = true := by rfl) (hks : (backToKw pos (keywordEach [⟨some y, e, kpos⟩] X.env)).filterMap (·.1) = [y] := by rfl)
    (hpl : ((backTo pos (starEach [] X.env)).any (·.1) || (backToKw pos (keywordEach [⟨some y, e, kpos⟩] X.env)).any (·.1.isNone)) = false := by rfl) : PD X C (.Call (.Name x p) [] [⟨some y, e, kpos⟩] pos) (dCall C.ok m (djV de djNil)) := by
  obtain ⟨f, fd, F, g, b⟩ := d
  obtain ⟨f', fd', g', hk, ⟨_, lk⟩, ok⟩ := h
  have e1 : f' = f := by
    have := g'.symm.trans g
    injection this with this
    injection this
  subst e1
  have e2 : fd' = fd := lk.uniq (lkF_of F)
  subst e2
  obtain ⟨te, h1, h2⟩ := he
  have B : KBinds X.K fd' [y] [y] (fun us ws => us ++ ws) (fun vs zs => (vs ++ zs) ++ []) := {
    to := fun s us ws _ hl => by
      obtain ⟨oc, od, kV, doc, pm, an, cdv, ct, osl, rfl, _, _⟩ := F.ex
      match us, ws, hl with
      | [], [w], _ => exact .of_eq (kb kV doc pm an cdv ct w)
      | [u], [], _ => exact .of_eq (b [u] rfl)
    rel := fun {vs us zs ws} h1 h => by rw [List.append_nil]; exact h1.append h }
  refine ⟨_, pe_callK0 ok (hr.mono hj) hg g' hk B pass0 (pk_cons h1 pk_nil) hall hks hdb hpl, ?_⟩
  have hj : SimJ X.K C (tCons te tNil) (djV de djNil) := by
    intro σ H F ρ Q R rp h q
    exact h2 σ H F ρ _ _ rp h fun v H1 F1 z ρ1 rp1 s1 rx hr => q _ _ _ _ _ rp1 s1 (.cons (a := .v z) rx .nil) hr
  exact sim_call (m := m) hj
/-- s.rstrip(t) -/
def rstr (t s : List Nat) : List Nat := s.take (s.length - (s.reverse.takeWhile t.contains).length)
def rstripR : D → D → D → Prop := fun x y z => ∃ s t, x = .str s ∧ y = .str t ∧ s.length ≤ 16777216 ∧ z = .str (rstr t s)
theorem rstr_is (s t : List Nat) : Txt.rstripChars ⟨s.toArray⟩ ⟨t.toArray⟩ = ⟨(rstr t s).toArray⟩ := by
  unfold Txt.rstripChars
  rw [PySem.W.stripBy_eq]
  apply TL.ext_tl
  show (PySem.W.stripped _ false true _).cps.toList = _
  unfold PySem.W.stripped rstr Builtin.Str.strSub
  simp [Str.length]
  rw [show t.toArray.contains = t.contains from funext fun c => by simp, TL.tl_mk]
theorem md_rstrip : MtD X C "str.rstrip" rstripR := by
  refine ⟨_, mt_rstripChars, fun σ H F ρ x y v u z Q rp rx ry hg k => ?_⟩
  obtain ⟨s, t, rfl, rfl, hl, rfl⟩ := hg
  cases rp_str_inv rx
  cases rp_str_inv ry
  exact ⟨_, _, rfl, rfl, line (by rw [str_len]; exact hl), k _ _ _ rp Step.refl (by rw [rstr_is]; exact rp_str)⟩
theorem pd_rstrip {o e : Expr} {apos pos : Pos} {ds da : DE} (ho : PD X C o ds) (he : PD X C e da) (hs : starEach [e] X.env = [(false, eval e X.env)] := by rfl) (hbase : attributeBase o "rstrip" X.env (eval o X.env) = eval o X.env := by rfl) (hline : (apos.endLine == pos.line) = true := by rfl) :
    PD X C (.Call (.Attribute o "rstrip" apos) [e] [] pos) (dM1 rstripR ds da) := pd_m1 PySem.F.slot_str_rstrip PySem.F.type_str_rstrip md_rstrip ho he hs hbase hline
/-- s[::-1] -/
def tRevS (te : TE) : TE := fun σ H Q => te σ H fun x H1 => ∃ z : Str, x = .str z ∧ z.length ≤ sizeLine ∧ Q (.str ⟨z.cps.toList.reverse.toArray⟩) H1
theorem rev_is (z : Str) (u : Tok) : Txt.sliceBy z none none (-1, u) = ⟨z.cps.toList.reverse.toArray⟩ := by
  obtain ⟨⟨l⟩⟩ := z
  have h := PyProof.Rows.step_rev_list ⟨⟨l⟩⟩ u
  generalize Txt.sliceBy ⟨⟨l⟩⟩ none none (-1, u) = y at h
  obtain ⟨⟨m⟩⟩ := y
  have e : m = l.reverse := by
    refine Eq.trans h ?_
    refine List.ext_getElem (by simp [Str.length]) fun i h1 h2 => ?_
    have hi : i < l.length := by simpa using h2
    simp [Array.getD, Str.length]
    exact dif_pos (by omega)
  rw [e]
open PyProof.Rows in
theorem pe_revS {e : Expr} {te : TE} {k : Nat} {p1 p2 p3 pos : Pos} (he : PE X e te) : PE X (.Subscript e (.Slice none none (some (.UnaryOp .USub (.Constant (.int 1) k p1) p2)) p3) pos) (tRevS te) := by
  refine ⟨fun pins s σ H Q I h => Subscript_ (thn (he.run pins s σ H _ I h) fun v s1 ⟨x, H1, I1, r1, z, ex, hz, q⟩ => ?_)⟩
  subst ex
  obtain ⟨t, rfl⟩ := r1
  have part : PO X (some (.UnaryOp .USub (.Constant (.int 1) k p1) p2)) (tPart (tUn (rU fun i => .int (-i)) (tC (.int 1)))) := po_some (pe_un un_neg pe_int)
  refine wpAny_Slice (thn (po_none.run pins s1 σ H1 (fun o G => o = none ∧ G = H1) I1 ⟨rfl, rfl⟩) fun a1 s2 ⟨o1, G1, I2, b1, c1, d1⟩ => ?_)
  subst c1 d1
  refine thn (po_none.run pins s2 σ _ (fun o G => o = none ∧ G = G1) I2 ⟨rfl, rfl⟩) fun a2 s3 ⟨o2, G2, I3, b2, c2, d2⟩ => ?_
  subst c2 d2
  refine thn (part.run pins s3 σ _ (fun o G => o = some (-1) ∧ G = G2) I3 ⟨1, rfl, -1, rfl, rfl, rfl⟩) fun a3 s4 ⟨o3, G3, I4, b3, c3, d3⟩ => ?_
  subst c3 d3
  obtain ⟨l, rfl, e1⟩ := IsPart.raw b1
  obtain ⟨u, rfl, e2⟩ := IsPart.raw b2
  obtain ⟨st, rfl, e3⟩ := IsPart.raw b3
  obtain rfl : l = none := by
    cases l with
    | none => rfl
    | some _ => cases e1
  obtain rfl : u = none := by
    cases u with
    | none => rfl
    | some _ => cases e2
  obtain ⟨kt, rfl⟩ : ∃ kt, st = some (-1, kt) := by
    cases st with
    | none => cases e3
    | some y => exact ⟨y.2, by cases y; cases e3; rfl⟩
  have I5 : Inv X pins σ G3 { s4 with heap := s4.heap.push { cls := .type "slice", data := .fields #[partValue none, partValue none, partValue (some (-1, kt))] } } := I4.kept (t' := s4.toks) fun b ob q => Heap.get?_push_of_some _ q
  show wpAny (model X.prog X.w) X.A (subscriptTail e (.Slice none none (some (.UnaryOp .USub (.Constant (.int 1) k p1) p2)) p3) (.str z t) (.ref s4.heap.objs.size)) (EP X pins σ Q) X.xe { s4 with heap := s4.heap.push { cls := .type "slice", data := .fields #[partValue none, partValue none, partValue (some (-1, kt))] } }
  refine tail_any (ops := [.str z t, .ref s4.heap.objs.size]) (typeIs_str _ _ _) F.slot_str_getitem.lookup ?_ (by with_unfolding_all rfl)
  refine wpAny_getItem_str_slice (l := none) (u := none) (st := some (-1, kt)) ⟨_, Heap.get?_push_size _ rfl, rfl, rfl⟩ rfl ?_
  have hr : (Txt.sliceBy z none none (-1, kt)) = ⟨z.cps.toList.reverse.toArray⟩ := rev_is z kt
  have hp : sliceMade z t none none (some (-1, kt)) = .str (Txt.sliceBy z none none (-1, kt)) := by
    unfold sliceMade Txt.sliceBy
    rw [if_neg (by simp), if_neg (by simp)]
  rw [hp, hr]
  refine ⟨?_, .str ⟨z.cps.toList.reverse.toArray⟩, G3, I5.tok _, ⟨_, rfl⟩, q⟩
  show z.cps.toList.reverse.toArray.size ≤ sizeLine
  rw [List.size_toArray, List.length_reverse]
  exact hz
def dRev (de : DE) : DE := fun ρ R => de ρ fun x ρ1 => ∃ s, x = .str s ∧ s.length ≤ 16777216 ∧ R (.str s.reverse) ρ1
theorem pd_rev {e : Expr} {de : DE} {k : Nat} {p1 p2 p3 pos : Pos} (he : PD X C e de) : PD X C (.Subscript e (.Slice none none (some (.UnaryOp .USub (.Constant (.int 1) k p1) p2)) p3) pos) (dRev de) := by
  obtain ⟨te, h1, h2⟩ := he
  refine ⟨_, pe_revS h1, fun σ H F ρ Q R rp hd q => ?_⟩
  refine h2 σ H F ρ _ _ rp hd fun v H1 F1 x ρ1 rp1 s1 rx hr => ?_
  obtain ⟨s, rfl, hl, hr⟩ := hr
  cases rp_str_inv rx
  exact ⟨_, rfl, line (by rw [str_len]; exact hl), q _ _ _ _ _ rp1 s1 rp_str hr⟩
end
end DL
namespace DL
open PySem PySem.Spec L2 PyProof.Rows
abbrev tIt (t : Addr) : Obj := { cls := .type "tuple_iterator", data := .fields #[.ref t, .int 0 0] }
abbrev eOb (a : Addr) : Obj := { cls := .type "enumerate", data := .fields #[.none, .bool false, .ref a, rawInt 0, .none, .none] }
set_option maxHeartbeats 4000000 in
theorem meets_enumT (t : Addr) (its : Array Value) : Meets (Builtin.«enumerate.__new__» ⟨[.type "enumerate", .ref t], []⟩) (fun _ R s => s.heap.IsTuple t its ∧
    R (.ok (.ret (.ref (s.heap.push (tIt t)).objs.size))) { s with heap := (s.heap.push (tIt t)).push (eOb s.heap.objs.size) }) := .of_wp fun prog w A R s h => by
  obtain ⟨hp, g, d, tk, os⟩ := s
  obtain ⟨ht, hR⟩ := h
  have sub := sub_enumerate
  have road : ∀ {B : Around} {E : Value → Shared → Prop} {Q : Value → Shared → Prop}, Q (.ref hp.objs.size) ⟨hp.push (tIt t), g, d, tk, os⟩ → wpAny (model prog w) B (pyIter (.ref t)) Q E ⟨hp, g, d, tk, os⟩ :=
    fun q => (begins_tuple t its).iter prog w _ _ ⟨hp, g, d, tk, os⟩ _ ht q
  wp_walk using road
  refine wpAny_stack_any fun _ => wpAny_pure ?_
  split
  · rename_i c _ _ _ _ _
    cases (c == Value.type "enumerate") <;> (wp_walk using road; exact ⟨_, rfl, hR⟩)
  · (wp_walk using road; exact ⟨_, rfl, hR⟩)
section
variable {prog : Program} {w : World} {A : Around} {E : Value → Shared → Prop} {s : Shared}
theorem call_enumT {t : Addr} {its : Array Value} {Q : Value → Shared → Prop} (hT : s.heap.IsTuple t its)
    (h : ∀ g : Heap, IsEnum g (s.heap.objs.size + 1) s.heap.objs.size 0 .none → g.IsTupleIter s.heap.objs.size t 0 → g.objs.size = s.heap.objs.size + 2 → (∀ b o, s.heap.get? b = some o → g.get? b = some o) → Q (.ref (s.heap.objs.size + 1)) { s with heap := g }) :
    wpAny (model prog w) A (call (.type "enumerate") [.ref t]) Q E s := by
  have sz : (s.heap.push (tIt t)).objs.size = s.heap.objs.size + 1 := Heap.size_push ..
  have isE : IsEnum ((s.heap.push (tIt t)).push (eOb s.heap.objs.size)) (s.heap.objs.size + 1) s.heap.objs.size 0 .none := by
    have q := Heap.get?_push_size (s.heap.push (tIt t)) (o := eOb s.heap.objs.size) rfl
    rwa [sz] at q
  refine callType_new F.called_enumerate (by decide) (F.typeCall_enumerate_1 _) (F.newCall_enumerate_1 _) (fun obj => F.args_object_init_2 obj _) F.entry_enumerate_new (meets_enumT t its) ⟨hT, ?_⟩
  rw [sz]
  exact ⟨⟨_, isE, rfl⟩, h _ isE ⟨_, Heap.get?_push_of_some _ (Heap.get?_push_size _ rfl), rfl, rfl⟩ (by rw [Heap.size_push, sz]) fun b o q => Heap.get?_push_of_some _ (Heap.get?_push_of_some _ q)⟩
end
/-- the tuple at a, each item in a new pair with its place -/
def IteT (K : PySem.W.Frag) (a : Addr) : It :=
  ⟨fun i H => ∃ (xs : List V) (x : V), SqT K H a xs ∧ xs[i]? = some x, fun i H v G => ∃ T x, v = .ref T ∧ H T = none ∧ G = upd H T (.tup [.int (i : Nat), x]) ∧ ∀ xs, SqT K H a xs → xs[i]? = some x, fun i H => ∃ xs : List V, SqT K H a xs ∧ xs.length ≤ i⟩
theorem turn_enumT {P : Program} {w : World} {K : PySem.W.Frag} {elts : List Expr} {kk : Nat} {tpos : Pos} (a e it : Addr) (hai : a ≠ it) (hae : a ≠ e) :
    Turn P w K (.Tuple elts kk tpos) (IteT K a) [e, it] e (fun i h => (∃ old, IsEnum h e it ((i : Nat) : Int) old) ∧ h.IsTupleIter it a i ∧ e ≠ it) where
  mem := List.mem_cons_self ..
  obj := fun i h st b hb => by
    obtain ⟨⟨old, he⟩, ⟨o, ho, hc, hd⟩, _⟩ := st
    rcases List.mem_cons.mp hb with q | q
    · subst q
      exact ⟨_, he, fun v z => nomatch z⟩
    · cases List.mem_singleton.mp q
      exact ⟨o, ho, fun v z => by rw [hd] at z; cases z⟩
  keep := fun i h g st k => ⟨let ⟨old, he⟩ := st.1; ⟨old, k e (List.mem_cons_self ..) _ he⟩, st.2.1.at fun o q => k it (by simp) o q, st.2.2⟩
  item := by
    intro X hP hw hK hc i pins s σ H E I hf st hg
    subst hP; subst hw; subst hK
    obtain ⟨⟨old, he⟩, hit, hne⟩ := st
    obtain ⟨xs, x, hq, hx⟩ := hg
    obtain ⟨its, rv, p, hz⟩ := I.tuple hq
    obtain ⟨u, hu, ru⟩ := rv.get hx
    have ele : e < s.heap.objs.size := Heap.lt_size he
    have lti : it < s.heap.objs.size := let ⟨_, q, _⟩ := hit; Heap.lt_size q
    have hiu : i < its.toArray.size := by
      rw [List.size_toArray]; exact (List.getElem?_eq_some_iff.mp hu).1
    refine wpAny_pyNext_enum_itemD (Draws.tuple (A := X.A.in1) (I.ok.hd hc) it a hai its.toArray) he ⟨hit, p⟩ hiu hne (by simp [hne, Ne.symm hae]) fun y g tk hy ho st2 hT hsz hk => ?_
    have hyu : y = u := by
      have : its[i]? = some y := by simpa using hy
      rw [hu] at this
      exact (Option.some.inj this).symm
    subst hyu
    refine ⟨_, rfl, wpAny_letOwnedTupleGo_enum (s := { s with heap := g, toks := tk + 1 }) ho fun g2 he2 sb => ?_⟩
    have hT2 : g2.get? s.heap.objs.size = some { cls := .type "tuple", data := .seq #[.int (i : Nat) tk, y] } := by rw [sb.2 _ (Nat.ne_of_gt ele)]; exact hT
    have ob : ObjOk X.prog X.w (upd H s.heap.objs.size (.tup [.int (i : Nat), x])) g2 s.heap.objs.size (.tup [.int (i : Nat), x]) :=
      ⟨(by decide : 2 ≤ sizeLine), [.int (i : Nat) tk, y], .cons ⟨_, rfl⟩ (.cons ru .nil), ⟨_, hT2, rfl, _, rfl⟩⟩
    have J : Inv X pins σ (upd H s.heap.objs.size (.tup [.int (i : Nat), x])) { s with heap := g2, toks := tk + 1 } := I.turnedNew (ch := [e, it]) (fun b o hb z => by
      have b1 : b ≠ e := fun q => hb (by rw [q]; exact List.mem_cons_self ..)
      have b2 : b ≠ it := fun q => hb (by rw [q]; simp)
      rw [sb.2 b b1]; exact hk b o b1 b2 z) hf (Nat.le_refl _) ob
    refine ⟨.ref s.heap.objs.size, _, J, rfl, ⟨_, x, rfl, I.hok.fresh (Nat.le_refl _), rfl, fun zs hz => (I.tuple_inj hz hq).symm ▸ hx⟩, ⟨⟨y, ?_⟩, st2.1.at fun o z => by rw [sb.2 it (Ne.symm hne)]; exact z, hne⟩, fun b hb => ?_⟩
    · rw [show ((i + 1 : Nat) : Int) = (i : Int) + 1 from rfl]
      exact he2
    · have lb : b < s.heap.objs.size := by
        rcases List.mem_cons.mp hb with q | q
        · rw [q]; exact ele
        · rw [List.mem_singleton.mp q]; exact lti
      rw [upd_ne (Nat.ne_of_lt lb)]
      exact (hf b hb).1
  done := by
    intro X hP hw hK hc i pins s σ H E I hf st hg
    subst hP; subst hw; subst hK
    obtain ⟨⟨old, he⟩, hit, hne⟩ := st
    obtain ⟨xs, hq, hx⟩ := hg
    obtain ⟨its, rv, p, hz⟩ := I.tuple hq
    have hl := rv.length
    have D : Draws X.prog X.w X.A.in1 it [it, a] i (fun _ _ => False) (fun j h => j = i ∧ h.IsTupleIter it a i ∧ h.IsTuple a its.toArray) := {
      live := fun _ _ st => let ⟨o, ho, _⟩ := st.2.1; ⟨o, ho⟩
      frame := fun _ _ _ st k => ⟨st.1, st.2.1.at fun o z => k it (List.mem_cons_self ..) o z, st.2.2.at fun o z => k a (by simp) o z⟩
      item := fun j _ _ _ lt st => absurd st.1 (Nat.ne_of_lt lt)
      done := fun s Q E st hE => wpAny_nextOf_tuple_end (A := X.A.in1) (I.ok.hd hc) st.2.1 st.2.2 (by rw [List.getElem?_toArray]; exact List.getElem?_eq_none (by omega)) hE }
    exact wpAny_pyNext_enum_endD D he ⟨rfl, hit, p⟩ fun g k => ⟨rfl, I.turnedL (t' := s.toks) (ch := [e, it]) (fun b o hb z => k b o (fun q => hb (by rw [q]; simp)) z) hf⟩
  self := fun A i s Q E st h => let ⟨⟨_, he⟩, _⟩ := st; wpAny_pyIter_enum he h
def iEnumT (K : PySem.W.Frag) (ta : TA) : TI := fun σ H R => ta σ H fun vs G => ∃ a xs, vs = [.ref a] ∧ SqT K G a xs ∧ R (IteT K a) G
theorem pi_enumT {X : Cx} {e : Expr} {ta : TA} {p pos tpos : Pos} {elts : List Expr} {kk : Nat} (hg : Gl X "enumerate") (hm : X.mg "enumerate" = none) (ha : PA X [e] ta) (hs : starEach [e] X.env = [(false, eval e X.env)] := by rfl) :
    PI X (.Tuple elts kk tpos) (.Call (.Name "enumerate" p) [e] [] pos) (iEnumT X.K ta) :=
  ⟨fun pins s σ H R I h => Call_ (ld_blt I hg hm boot_enumerate (PyProof.Rows.callWith_type1 (thn (ha.run pos pins s σ H _ I h) fun us s1 ⟨vs, G, I1, r1, a, xs, ex, hq, q⟩ => by
    subst ex
    cases r1 with
    | cons r rr =>
      cases rr; cases r
      obtain ⟨its, rv, p', hz⟩ := I1.tuple hq
      have la : a < s1.heap.objs.size := by obtain ⟨o, ho, _⟩ := id p'; exact Heap.lt_size ho
      refine call_enumT (show s1.heap.IsTuple a its.toArray from p') fun g he hit hsz hk => wpAny_pyIter_enum he ?_
      refine ⟨s1.heap.objs.size + 1, [s1.heap.objs.size + 1, s1.heap.objs.size], _, _, G, rfl, I1.kept (t' := s1.toks) hk, turn_enumT a (s1.heap.objs.size + 1) s1.heap.objs.size (Nat.ne_of_lt la) (Nat.ne_of_lt (Nat.lt_succ_of_lt la)), ⟨⟨.none, he⟩, hit, Nat.succ_ne_self _⟩, fun b hb => ?_, q⟩
      have lb : s1.heap.objs.size ≤ b := by
        rcases List.mem_cons.mp hb with z | z
        · rw [z]; exact Nat.le_succ _
        · rw [List.mem_singleton.mp z]; exact Nat.le_refl _
      exact I1.fpOk lb (I1.hok.fresh lb)) hs rfl))⟩
section
variable {X : Cx} {C : Cd}
/-- places and items -/
def enD (i : Nat) : List D → List D
  | [] => []
  | x :: xs => .tup [.int i, x] :: enD (i + 1) xs
theorem enD_get : ∀ (xs : List D) (j i : Nat), (enD j xs)[i]? = xs[i]?.map fun x => .tup [.int ((j + i : Nat) : Int), x]
  | [], j, i => by simp [enD]
  | x :: xs, j, 0 => rfl
  | x :: xs, j, i + 1 => by
    show (enD (j + 1) xs)[i]? = _
    rw [enD_get xs (j + 1) i, List.getElem?_cons_succ, show j + 1 + i = j + (i + 1) by omega]
theorem enD_len : ∀ (xs : List D) (j : Nat), (enD j xs).length = xs.length
  | [], _ => rfl
  | x :: xs, j => congrArg (· + 1) (enD_len xs (j + 1))
theorem rps_pair {K : PySem.W.Frag} {F : Hp} {x y : D} {v u : V} (h1 : Rp K F x v) (h2 : Rp K F y u) : Rps K F [x, y] [v, u] := by
  unfold Rps
  refine ⟨v, [u], rfl, h1, ?_⟩
  unfold Rps
  refine ⟨u, [], rfl, h2, ?_⟩
  unfold Rps
  rfl
theorem itok_enumT {K : PySem.W.Frag} {F : Hp} {a : Addr} {vs : List V} {xs : List D} (h : F a = some (.tup vs)) (hx : Rps K F xs vs) : ItOk K C (IteT K a) F (enD 0 xs) :=
  ⟨fun i σ H F' ρ hi rp s => by
    rw [enD_len] at hi
    obtain ⟨v, h1, _⟩ := hx.get (List.getElem?_eq_getElem hi)
    exact ⟨vs, v, SqT.of (rp.sub _ _ (s _ _ h)), h1⟩,
   fun i σ H F' ρ hi rp s => ⟨vs, SqT.of (rp.sub _ _ (s _ _ h)), by rw [enD_len] at hi; rw [← hx.len]; exact hi⟩,
   fun i x σ H F' ρ v G e rp s hy => by
    obtain ⟨T, y, rfl, hT, rfl, hy⟩ := hy
    rw [enD_get] at e
    cases ex : xs[i]? with
    | none => rw [ex] at e; cases e
    | some z =>
      rw [ex] at e
      cases e
      obtain ⟨w, h1, h2⟩ := hx.get ex
      have := hy vs (SqT.of (rp.sub _ _ (s _ _ h)))
      rw [h1] at this
      cases this
      obtain ⟨r1, r2, r3⟩ := fz_tup rp (rps_pair (x := .int ((0 + i : Nat) : Int)) (v := .int ((i : Nat) : Int)) (by unfold Rp; rw [Nat.zero_add]) (h2.mono s)) hT
      exact ⟨_, r1, r2, r3⟩⟩
def diEnT (de : DE) : DA := fun ρ R => de ρ fun x ρ1 => ∃ xs, x = .tup xs ∧ R (enD 0 xs) ρ1
theorem pdi_enumT {elts : List Expr} {kk : Nat} {tpos : Pos} {e : Expr} {p pos : Pos} {de : DE} (hg : Gl X "enumerate") (hm : X.mg "enumerate" = none) (h : PD X C e de) (hs : starEach [e] X.env = [(false, eval e X.env)] := by rfl) :
    PDI X C (.Tuple elts kk tpos) (.Call (.Name "enumerate" p) [e] [] pos) (diEnT de) := by
  obtain ⟨te, a1, a2⟩ := h
  refine ⟨_, pi_enumT hg hm (pa_cons a1 pa_nil hs) hs, fun σ H F ρ Q R rp hd q => ?_⟩
  refine a2 σ H F ρ _ _ rp hd fun v H1 F1 x ρ1 rp1 s1 rx hr => ?_
  obtain ⟨xs, rfl, hr⟩ := hr
  obtain ⟨a, vs, rfl, b1, b2⟩ := rp_tup_inv rx
  exact ⟨a, vs, rfl, SqT.of (rp1.sub _ _ b1), q _ _ _ _ _ rp1 s1 (itok_enumT b1 b2) hr⟩
/-- pairs -/
def zpD : List D → List D → List D
  | x :: xs, y :: ys => .tup [x, y] :: zpD xs ys
  | _, _ => []
theorem zpD_get : ∀ (xs ys : List D) (i : Nat) (z : D), (zpD xs ys)[i]? = some z → ∃ x y, xs[i]? = some x ∧ ys[i]? = some y ∧ z = .tup [x, y]
  | [], ys, i, z, h => by simp [zpD] at h
  | x :: xs, [], i, z, h => by simp [zpD] at h
  | x :: xs, y :: ys, 0, z, h => ⟨x, y, rfl, rfl, by cases h; rfl⟩
  | x :: xs, y :: ys, i + 1, z, h => zpD_get xs ys i z h
theorem zpD_len : ∀ (xs ys : List D), (zpD xs ys).length = min xs.length ys.length
  | [], ys => by simp [zpD]
  | x :: xs, [] => by simp [zpD]
  | x :: xs, y :: ys => by
    show (zpD xs ys).length + 1 = _
    rw [zpD_len xs ys, List.length_cons, List.length_cons]
    omega
theorem itok_zipT {K : PySem.W.Frag} {F : Hp} {a b : Addr} {vs us : List V} {xs ys : List D} (h : F a = some (.tup vs)) (hx : Rps K F xs vs) (h' : F b = some (.tup us)) (hy : Rps K F ys us) : ItOk K C (RZ.ItzT K a b) F (zpD xs ys) :=
  ⟨fun i σ H F' ρ hi rp s => by
    rw [zpD_len] at hi
    obtain ⟨v, h1, _⟩ := hx.get (List.getElem?_eq_getElem (by omega : i < xs.length))
    obtain ⟨u, h2, _⟩ := hy.get (List.getElem?_eq_getElem (by omega : i < ys.length))
    exact ⟨vs, us, v, u, SqT.of (rp.sub _ _ (s _ _ h)), SqT.of (rp.sub _ _ (s _ _ h')), h1, h2⟩,
   fun i σ H F' ρ hi rp s => ⟨vs, us, SqT.of (rp.sub _ _ (s _ _ h)), SqT.of (rp.sub _ _ (s _ _ h')), by rw [zpD_len] at hi; rw [← hx.len, ← hy.len]; omega⟩,
   fun i x σ H F' ρ v G e rp s hq => by
    obtain ⟨T, v1, v2, rfl, hT, rfl, q1, q2⟩ := hq
    obtain ⟨x1, y1, e1, e2, rfl⟩ := zpD_get _ _ _ _ e
    obtain ⟨w1, g1, r1⟩ := hx.get e1
    obtain ⟨w2, g2, r2⟩ := hy.get e2
    have t1 := q1 vs (SqT.of (rp.sub _ _ (s _ _ h)))
    have t2 := q2 us (SqT.of (rp.sub _ _ (s _ _ h')))
    rw [g1] at t1
    rw [g2] at t2
    cases t1
    cases t2
    obtain ⟨r1, r2, r3⟩ := fz_tup rp (rps_pair (r1.mono s) (r2.mono s)) hT
    exact ⟨_, r1, r2, r3⟩⟩
def diZpT (da : DA) : DA := fun ρ R => da ρ fun zs ρ1 => ∃ xs ys, zs = [.tup xs, .tup ys] ∧ R (zpD xs ys) ρ1
theorem pdi_zipT {elts : List Expr} {kk : Nat} {tpos : Pos} {e e2 : Expr} {p pos : Pos} {da : DA} (hg : Gl X "zip") (hm : X.mg "zip" = none) (h : PDA X C [e, e2] da)
    (hs : starEach [e, e2] X.env = (false, eval e X.env) :: starEach [e2] X.env := by rfl) (hpl : (backTo pos (starEach [e2] X.env)).any (·.1) = false := by rfl) : PDI X C (.Tuple elts kk tpos) (.Call (.Name "zip" p) [e, e2] [] pos) (diZpT da) := by
  obtain ⟨ta, a1, a2⟩ := h
  refine ⟨_, RZ.pi_zipA hg hm a1 hs hpl, fun σ H F ρ Q R rp hd q => ?_⟩
  refine a2 σ H F ρ _ _ rp hd fun vs H1 F1 x ρ1 rp1 s1 rx hr => ?_
  obtain ⟨xs, ys, rfl, hr⟩ := hr
  obtain ⟨v, u, rfl, r1, r2⟩ := rps_two rx
  obtain ⟨a, us1, rfl, b1, b2⟩ := rp_tup_inv r1
  obtain ⟨b, us2, rfl, c1, c2⟩ := rp_tup_inv r2
  exact ⟨a, b, us1, us2, rfl, Or.inr ⟨SqT.of (rp1.sub _ _ b1), SqT.of (rp1.sub _ _ c1), q _ _ _ _ _ rp1 s1 (itok_zipT b1 b2 c1 c2) hr⟩⟩
end
end DL
namespace DL
open PySem PySem.Spec L2
theorem has_never {P : Program} {w : World} {K : PySem.W.Frag} {mg : Str → Option Value} {base : Heap} {k : Nat} {x : Str} {st : Stmt} {ps : List Str} {ok : List D → Prop} (d : DefAt K mg x st ps) : Has P w K mg base k x ps (spM K ok fun _ _ => False) := by
  obtain ⟨f, fd, F, g, b⟩ := d
  exact ⟨f, fd, g, F.kp, ⟨.all b, lkF_of F⟩, ⟨fun vs H Q E ⟨_, _, _, _, _, _, _, h, _⟩ => h.elim, fun _ _ _ _ _ _ _ _ _ _ _ _ _ ⟨_, _, _, _, _, _, _, h, _⟩ => h.elim⟩⟩
end DL
namespace K10
open PySem PySem.Spec L2 DL
/-- the law's fount -/
def jok : List D → Prop := fun xs => ∃ a b c : Int, xs = [.int a, .int b, .int c] ∧ 0 ≤ a
def Ls (s : List Nat) : Prop := 2 ≤ s.length ∧ s.length ≤ 4 ∧ ∀ c ∈ s, 97 ≤ c ∧ c ≤ 122
def Over (s w : List Nat) : Prop := ∀ c ∈ w, c ∈ s
def pr (p : Nat × Nat) : D := .str [p.1, p.2]
def okR (r : List (Nat × Nat)) : Prop := ∀ p ∈ r, p ≠ (46, 46)
/-- the row of two words -/
def rowL (a b : List Nat) : List (Nat × Nat) := (List.range (max a.length b.length)).map fun i => (a.getD i 46, b.getD i 46)
/-- side letters -/
def sideL (s : List Nat) : List (Nat × Nat) := (s.map fun c => (46, c)) ++ (s.map fun c => (c, 46) :: s.map fun d => (c, d)).flatten
/-- up to the first dot -/
def nd (l : List Nat) : List Nat := l.takeWhile fun c => c != 46
def good (l : List Nat) : Bool := (l.dropWhile fun c => c != 46).all fun c => c == 46
def wd (r : List (Nat × Nat)) : D := if good (r.map (·.1)) && good (r.map (·.2)) then .tup [.str (nd (r.map (·.1))), .str (nd (r.map (·.2)))] else .non
def leaf : D → Bool
  | .non => true
  | .str _ => true
  | _ => false
def m_side_letters : DM
  | [.d (.str s)], R => Ls s ∧ R (.tup ((sideL s).map pr))
  | _, _ => False
def m_law_side_letters : DM
  | [.d (.str s)], R => Ls s ∧ R (.tup ((sideL s).map pr))
  | _, _ => False
def m_side_row : DM
  | [.d (.str a), .d (.str b)], R => a.length ≤ 100 ∧ b.length ≤ 100 ∧ R (.tup ((rowL a b).map pr))
  | _, _ => False
def m_law_row : DM
  | [.d (.str a), .d (.str b)], R => a.length ≤ 100 ∧ b.length ≤ 100 ∧ R (.tup ((rowL a b).map pr))
  | _, _ => False
def m_rows_words : DM
  | [.d (.tup xs)], R => ∃ r : List (Nat × Nat), xs = r.map pr ∧ okR r ∧ r.length ≤ 200 ∧ R (wd r)
  | _, _ => False
def m_law_words : DM
  | [.d (.tup xs)], R => ∃ r : List (Nat × Nat), xs = r.map pr ∧ r.length ≤ 200 ∧ R (wd r)
  | _, _ => False
def m_law_same0 : DM
  | [.d a, .d b], R => a = b ∧ leaf a = true ∧ R (.bl true)
  | _, _ => False
def m_law_same : DM
  | [.d a, .d b], R => a = b ∧ (leaf a = true ∨ ∃ ss : List (List Nat), a = .tup (ss.map .str) ∧ ss.length ≤ 1000) ∧ R (.bl true)
  | _, _ => False
def m_law_fount : List S → (List D → Prop) → Prop
  | [.d (.ro _)], R => ∀ xs, jok xs → R xs
  | _, _ => False
def m_law_sort : DM
  | [.jar, .d (.int many)], R => 0 < many ∧ many < 2 ^ 300 ∧ ∀ v, 0 ≤ v → v < many → R (.int v)
  | _, _ => False
def m_law_letters : DM
  | [.jar], R => ∀ s : List Nat, Ls s → R (.str s)
  | _, _ => False
def m_law_word : DM
  | [.jar, .d (.str s), .d (.int n)], R => Ls s ∧ 0 ≤ n ∧ n ≤ 60 ∧ ∀ w : List Nat, Over s w → (w.length : Int) = n → R (.str w)
  | _, _ => False
def m_law_pair : DM
  | [.jar, .d (.str s)], R => Ls s ∧ ∀ a b : List Nat, Over s a → Over s b → a.length ≤ 60 → b.length ≤ 60 → R (.tup [.str a, .str b])
  | _, _ => False
def m_law_bent : DM
  | [.jar, .d (.str s), .d (.tup xs)], R => Ls s ∧ ∃ r : List (Nat × Nat), xs = r.map pr ∧ okR r ∧ r.length ≤ 60 ∧ ∀ r' : List (Nat × Nat), okR r' → r'.length ≤ 61 → R (.tup (r'.map pr))
  | _, _ => False
def m_law_by_hand : DM
  | [], R => R (.bl true)
  | _, _ => False
def m_law : DM
  | [.d (.ro _)], R => R (.bl true)
  | _, _ => False
section
variable {P : D → Prop} {s w a b : List Nat} {n m many : Int} {xs : List D} {x y : D}
theorem c_side_letters : m_side_letters [.d (.str s)] P = (Ls s ∧ P (.tup ((sideL s).map pr))) := rfl
theorem c_lside_letters : m_law_side_letters [.d (.str s)] P = (Ls s ∧ P (.tup ((sideL s).map pr))) := rfl
theorem c_side_row : m_side_row [.d (.str a), .d (.str b)] P = (a.length ≤ 100 ∧ b.length ≤ 100 ∧ P (.tup ((rowL a b).map pr))) := rfl
theorem c_law_row : m_law_row [.d (.str a), .d (.str b)] P = (a.length ≤ 100 ∧ b.length ≤ 100 ∧ P (.tup ((rowL a b).map pr))) := rfl
theorem pr_inj {r r' : List (Nat × Nat)} (h : r.map pr = r'.map pr) : r = r' := by
  refine (List.map_inj_right fun p q e => ?_).mp h
  obtain ⟨p1, p2⟩ := p
  obtain ⟨q1, q2⟩ := q
  unfold pr at e
  injection e with e
  injection e with e1 e
  injection e with e2 e
  cases e1; cases e2; rfl
theorem c_rows_words {r : List (Nat × Nat)} : m_rows_words [.d (.tup (r.map pr))] P = (okR r ∧ r.length ≤ 200 ∧ P (wd r)) := propext ⟨fun ⟨r', e, h⟩ => by cases pr_inj e; exact h, fun h => ⟨r, rfl, h⟩⟩
theorem c_law_words {r : List (Nat × Nat)} : m_law_words [.d (.tup (r.map pr))] P = (r.length ≤ 200 ∧ P (wd r)) := propext ⟨fun ⟨r', e, h⟩ => by cases pr_inj e; exact h, fun h => ⟨r, rfl, h⟩⟩
theorem c_same0 : m_law_same0 [.d x, .d y] P = (x = y ∧ leaf x = true ∧ P (.bl true)) := rfl
theorem c_same : m_law_same [.d x, .d y] P = (x = y ∧ (leaf x = true ∨ ∃ ss : List (List Nat), x = .tup (ss.map .str) ∧ ss.length ≤ 1000) ∧ P (.bl true)) := rfl
theorem c_fount {ns : List Int} {P : List D → Prop} : m_law_fount [.d (.ro ns)] P = ∀ xs, jok xs → P xs := rfl
theorem c_sort : m_law_sort [.jar, .d (.int many)] P = (0 < many ∧ many < 2 ^ 300 ∧ ∀ v, 0 ≤ v → v < many → P (.int v)) := rfl
theorem c_letters : m_law_letters [.jar] P = ∀ s : List Nat, Ls s → P (.str s) := rfl
theorem c_word : m_law_word [.jar, .d (.str s), .d (.int n)] P = (Ls s ∧ 0 ≤ n ∧ n ≤ 60 ∧ ∀ w : List Nat, Over s w → (w.length : Int) = n → P (.str w)) := rfl
theorem c_pair : m_law_pair [.jar, .d (.str s)] P = (Ls s ∧ ∀ a b : List Nat, Over s a → Over s b → a.length ≤ 60 → b.length ≤ 60 → P (.tup [.str a, .str b])) := rfl
theorem c_bent {r : List (Nat × Nat)} : m_law_bent [.jar, .d (.str s), .d (.tup (r.map pr))] P = (Ls s ∧ okR r ∧ r.length ≤ 60 ∧ ∀ r' : List (Nat × Nat), okR r' → r'.length ≤ 61 → P (.tup (r'.map pr))) :=
  propext ⟨fun ⟨h, r', e, h'⟩ => by cases pr_inj e; exact ⟨h, h'⟩, fun ⟨h, h'⟩ => ⟨h, r, rfl, h'⟩⟩
theorem c_by_hand : m_law_by_hand [] P = P (.bl true) := rfl
theorem all_jok {P : List D → Prop} : (∀ xs, jok xs → P xs) = (∀ a b c : Int, 0 ≤ a → P [.int a, .int b, .int c]) :=
  propext ⟨fun h a b c hc => h _ ⟨a, b, c, rfl, hc⟩, fun h xs ⟨a, b, c, e, hc⟩ => e ▸ h a b c hc⟩
theorem jok_is {a b c : Int} {Q : Prop} : (jok [.int a, .int b, .int c] ∧ Q) = (0 ≤ a ∧ Q) :=
  propext ⟨fun ⟨⟨_, _, _, e, h⟩, q⟩ => ⟨by injection e with e; injection e with e; rw [e]; exact h, q⟩, fun ⟨h, q⟩ => ⟨⟨a, b, c, rfl, h⟩, q⟩⟩
end
section
variable {ρ : List S} {R : D → List S → Prop} {RL : List D → List S → Prop}
theorem x_rev {de : DE} : dRev de ρ R = de ρ fun x ρ1 => ∃ s, x = .str s ∧ s.length ≤ 16777216 ∧ R (.str s.reverse) ρ1 := rfl
theorem e_rev {s : List Nat} {P : List Nat → Prop} : (∃ t, D.str s = .str t ∧ P t) = P s := propext ⟨fun ⟨_, e, q⟩ => by cases e; exact q, fun q => ⟨_, rfl, q⟩⟩
theorem x_enT {de : DE} : diEnT de ρ RL = de ρ fun x ρ1 => ∃ xs, x = .tup xs ∧ RL (enD 0 xs) ρ1 := rfl
theorem e_tup1 {xs : List D} {P : List D → Prop} : (∃ ys, D.tup xs = .tup ys ∧ P ys) = P xs := propext ⟨fun ⟨_, e, q⟩ => by cases e; exact q, fun q => ⟨_, rfl, q⟩⟩
theorem x_zpT {da : DA} : diZpT da ρ RL = da ρ fun zs ρ1 => ∃ xs ys, zs = [.tup xs, .tup ys] ∧ RL (zpD xs ys) ρ1 := rfl
theorem e_tup2 {xs ys : List D} {P : List D → List D → Prop} : (∃ us vs, [D.tup xs, D.tup ys] = [.tup us, .tup vs] ∧ P us vs) = P xs ys := propext ⟨fun ⟨_, _, e, q⟩ => by cases e; exact q, fun q => ⟨_, _, rfl, q⟩⟩
theorem e_all {xs : List D} {P : D → Prop} : (∃ z, allR [.lst xs] z ∧ P z) = (∃ bs : List Bool, xs = bs.map .bl ∧ P (.bl (bs.all id))) := propext ⟨fun ⟨_, ⟨bs, e, e2⟩, q⟩ => ⟨bs, e, e2 ▸ q⟩, fun ⟨bs, e, q⟩ => ⟨_, ⟨bs, e, rfl⟩, q⟩⟩
theorem e_rstrip {s t : List Nat} {P : D → Prop} : (∃ z, rstripR (.str s) (.str t) z ∧ P z) = (s.length ≤ 16777216 ∧ P (.str (rstr t s))) := propext ⟨fun ⟨_, ⟨_, _, e1, e2, h, e3⟩, q⟩ => by cases e1; cases e2; cases e3; exact ⟨h, q⟩, fun ⟨h, q⟩ => ⟨_, ⟨_, _, rfl, rfl, h, rfl⟩, q⟩⟩
end
end K10
namespace K10
open PySem PySem.Spec L2 DL
def topS (i : Nat) : Stmt := PySem.Challenge.pw_tornenough_k10_side_letters.main.body.getD i (.Pass ⟨0, 0, 0, 0⟩)
abbrev s_side_letters : Stmt := topS 1
theorem sc_side_letters : FnScope ["letters", "signs", "pairs", "one", "other"] ["letters"] (defScope s_side_letters) := ⟨rfl, rfl, rfl, by decide +kernel, rfl, by decide +kernel, by decide +kernel⟩
abbrev s_side_row : Stmt := topS 2
theorem sc_side_row : FnScope ["one", "other", "row", "at", "upper", "lower"] ["one", "other"] (defScope s_side_row) := ⟨rfl, rfl, rfl, by decide +kernel, rfl, by decide +kernel, by decide +kernel⟩
abbrev s_rows_words : Stmt := topS 3
theorem sc_rows_words : FnScope ["row", "one", "other", "first", "second", "pair"] ["row"] (defScope s_rows_words) := ⟨rfl, rfl, rfl, by decide +kernel, rfl, by decide +kernel, by decide +kernel⟩
abbrev s_law_fount : Stmt := topS 5
theorem sc_law_fount : FnScope ["script", "fount", "cell"] ["script"] (defScope s_law_fount) := ⟨rfl, rfl, rfl, by decide +kernel, rfl, by decide +kernel, by decide +kernel⟩
abbrev s_law_sort : Stmt := topS 6
theorem sc_law_sort : FnScope ["fount", "many", "told"] ["fount", "many"] (defScope s_law_sort) := ⟨rfl, rfl, rfl, by decide +kernel, rfl, by decide +kernel, by decide +kernel⟩
abbrev s_law_letters : Stmt := topS 7
theorem sc_law_letters : FnScope ["fount", "kind", "every", "told", "turn"] ["fount"] (defScope s_law_letters) := ⟨rfl, rfl, rfl, by decide +kernel, rfl, by decide +kernel, by decide +kernel⟩
abbrev s_law_word : Stmt := topS 8
theorem sc_law_word : FnScope ["fount", "letters", "length", "turn"] ["fount", "letters", "length"] (defScope s_law_word) := ⟨rfl, rfl, rfl, by decide +kernel, rfl, by decide +kernel, by decide +kernel⟩
abbrev s_law_side_letters : Stmt := topS 9
theorem sc_law_side_letters : FnScope ["letters", "told", "letter", "other"] ["letters"] (defScope s_law_side_letters) := ⟨rfl, rfl, rfl, by decide +kernel, rfl, by decide +kernel, by decide +kernel⟩
abbrev s_law_row : Stmt := topS 10
theorem sc_law_row : FnScope ["one", "other", "told", "at"] ["one", "other"] (defScope s_law_row) := ⟨rfl, rfl, rfl, by decide +kernel, rfl, by decide +kernel, by decide +kernel⟩
abbrev s_law_words : Stmt := topS 11
theorem sc_law_words : FnScope ["row", "told", "at", "letter", "side"] ["row"] (defScope s_law_words) := ⟨rfl, rfl, rfl, by decide +kernel, rfl, by decide +kernel, by decide +kernel⟩
abbrev s_law_same : Stmt := topS 12
theorem sc_law_same : FnScope ["one", "two", "part", "due"] ["one", "two"] (defScope s_law_same) := ⟨rfl, rfl, rfl, by decide +kernel, rfl, by decide +kernel, by decide +kernel⟩
abbrev s_law_pair : Stmt := topS 13
theorem sc_law_pair : FnScope ["fount", "letters", "long", "first", "kind"] ["fount", "letters"] (defScope s_law_pair) := ⟨rfl, rfl, rfl, by decide +kernel, rfl, by decide +kernel, by decide +kernel⟩
abbrev s_law_bent : Stmt := topS 14
theorem sc_law_bent : FnScope ["fount", "letters", "row", "sides", "at", "kind", "letter"] ["fount", "letters", "row"] (defScope s_law_bent) := ⟨rfl, rfl, rfl, by decide +kernel, rfl, by decide +kernel, by decide +kernel⟩
abbrev s_law_by_hand : Stmt := topS 15
theorem sc_law_by_hand : FnScope ["row"] [] (defScope s_law_by_hand) := ⟨rfl, rfl, rfl, by decide +kernel, rfl, by decide +kernel, by decide +kernel⟩
abbrev s_law : Stmt := topS 16
theorem sc_law : FnScope ["script", "fount", "lap", "letters", "one", "other", "row", "turn", "bent"] ["script"] (defScope s_law) := ⟨rfl, rfl, rfl, by decide +kernel, rfl, by decide +kernel, by decide +kernel⟩
/-- what the top leaves -/
structure Facts (K : PySem.W.Frag) (mg : Str → Option Value) : Prop where
  d_side_letters : DefAt K mg "side_letters" s_side_letters ["letters"]
  d_side_row : DefAt K mg "side_row" s_side_row ["one", "other"]
  d_rows_words : DefAt K mg "rows_words" s_rows_words ["row"]
  d_law_fount : DefAt K mg "_law_fount" s_law_fount ["script"]
  d_law_sort : DefAt K mg "_law_sort" s_law_sort ["fount", "many"]
  d_law_letters : DefAt K mg "_law_letters" s_law_letters ["fount"]
  d_law_word : DefAt K mg "_law_word" s_law_word ["fount", "letters", "length"]
  d_law_side_letters : DefAt K mg "_law_side_letters" s_law_side_letters ["letters"]
  d_law_row : DefAt K mg "_law_row" s_law_row ["one", "other"]
  d_law_words : DefAt K mg "_law_words" s_law_words ["row"]
  d_law_same : DefAt K mg "_law_same" s_law_same ["one", "two"]
  d_law_pair : DefAt K mg "_law_pair" s_law_pair ["fount", "letters"]
  d_law_bent : DefAt K mg "_law_bent" s_law_bent ["fount", "letters", "row"]
  d_law_by_hand : DefAt K mg "_law_by_hand" s_law_by_hand []
  d_law : DefAt K mg "law" s_law ["script"]
  b_all : mg "all" = none
  b_enumerate : mg "enumerate" = none
  b_int : mg "int" = none
  b_isinstance : mg "isinstance" = none
  b_len : mg "len" = none
  b_max : mg "max" = none
  b_range : mg "range" = none
  b_str : mg "str" = none
  b_tuple : mg "tuple" = none
  b_zip : mg "zip" = none
theorem kb_rows_words : ∀ (kV doc pm : Value) (an : Option Addr) (cdv ct v : Value), bindArgs (PySem.W.fnOf "rows_words" "rows_words" (defArgs s_rows_words) (defBody s_rows_words) (defScope s_rows_words) .none kV doc pm an cdv ct) ⟨[], [(("row" : Str), v)]⟩ = pure [(("row" : Str), v)] := fun _ _ _ _ _ _ _ => rfl
end K10
namespace K10
open PySem PySem.Spec L2 DL
def ds_side_letters : DS := (dSeq (dAsg (dOp addR (dC (.str [46])) (dVar 0)) (dgN 1))
    (dSeq (dOwn 2 (dlLst dNil))
    (dSeq (dFor (diSeq (dVar 1) isS) (dgN 3) (dFor (diSeq (dVar 1) isS) (dgN 4) (dIf (dTst (dOp neR (dOp addR (dVar 3) (dVar 4)) (dC (.str [46, 46])))) (dApp jok 2 (dOp addR (dVar 3) (dVar 4))) dNext)))
    (dRet (dCB tupOfR (dCons (dVar 2) dNil))))))
def ds_side_row : DS := (dSeq (dOwn 2 (dlLst dNil))
    (dSeq (dFor (diR1 (dCB (int2R fun i j => max i j) (dCons (dCB lenR (dCons (dVar 0) dNil)) (dCons (dCB lenR (dCons (dVar 1) dNil)) dNil)))) (dgN 3) (dSeq (dAsg (dIfE (dTst (dOp ltR (dVar 3) (dCB lenR (dCons (dVar 0) dNil)))) (dOp ixR (dVar 0) (dVar 3)) (dC (.str [46]))) (dgN 4))
    (dSeq (dAsg (dIfE (dTst (dOp ltR (dVar 3) (dCB lenR (dCons (dVar 1) dNil)))) (dOp ixR (dVar 1) (dVar 3)) (dC (.str [46]))) (dgN 5))
    (dApp jok 2 (dOp addR (dVar 4) (dVar 5))))))
    (dRet (dCB tupOfR (dCons (dVar 2) dNil)))))
def ds_rows_words : DS := (dSeq (dAsg (dJoin (dC (.str [])) (dFz (dLc (diSeq (dVar 0) isT) (dgN 5) dYes (dOp ixR (dVar 5) (dC (.int 0))) [5]))) (dgN 1))
    (dSeq (dAsg (dJoin (dC (.str [])) (dFz (dLc (diSeq (dVar 0) isT) (dgN 5) dYes (dOp ixR (dVar 5) (dC (.int 1))) [5]))) (dgN 2))
    (dSeq (dPar 3 4 (dCons (dM1 rstripR (dVar 1) (dC (.str [46]))) (dCons (dM1 rstripR (dVar 2) (dC (.str [46]))) dNil)))
    (dSeq (dIf (dOr (dTst (dOp inS (dC (.str [46])) (dVar 3))) (dOr (dTst (dOp inS (dC (.str [46])) (dVar 4))) (dTst (dOp neR (dCB (int2R fun i j => max i j) (dCons (dCB lenR (dCons (dVar 3) dNil)) (dCons (dCB lenR (dCons (dVar 4) dNil)) dNil))) (dCB lenR (dCons (dVar 0) dNil)))))) (dRet (dC .non)) dNext)
    (dRet (dTup (dCons (dVar 3) (dCons (dVar 4) dNil))))))))
def ds_law_fount : DS := (dSeq (dOwn 1 (dlLst (dCons (dC (.int 0)) (dCons (dC (.int 131)) (dCons (dC (.int 5)) dNil)))))
    (dSeq (dFor (diSeq (dSl (dVar 0) dNoP (dP (dC (.int 63)))) isL) (dgN 2) (dSeq (dAugI jok (fun i j => i + j) 1 (dC (.int 2)) (dC (.int 17)))
    (dSeq (dSetI jok 1 (dOp modR (dCB intOfR (dCons (dOp addR (dOp addR (dOp mulR (dIxM jok 1 (dC (.int 1))) (dC (.int 12211))) (dOp mulR (dCB intOfR (dCons (dVar 2) dNil)) (dC (.int 31)))) (dIxM jok 1 (dC (.int 2)))) dNil)) (dC (.int 2147483269))) (dC (.int 1)))
    (dIf (dAnd (dTst (dOp geR (dVar 2) (dC (.int 1000000000000000000)))) (dTst (dOp eqR (dIxM jok 1 (dC (.int 0))) (dC (.int 0))))) (dSetI jok 1 (dOp modR (dCB intOfR (dCons (dVar 2) dNil)) (dOp shlR (dC (.int 1)) (dC (.int 660)))) (dC (.int 0))) dNext))))
    (dRetO 1)))
def ds_law_sort : DS := (dSeq (dAugI jok (fun i j => i + j) 0 (dC (.int 2)) (dC (.int 1)))
    (dSeq (dIf (dTst (dOp gtR (dIxM jok 0 (dC (.int 0))) (dC (.int 0)))) (dSeq (dAsg (dOp modR (dCB intOfR (dCons (dIxM jok 0 (dC (.int 0))) dNil)) (dVar 1)) (dgN 2))
    (dSeq (dSetI jok 0 (dOp fdivR (dIxM jok 0 (dC (.int 0))) (dVar 1)) (dC (.int 0)))
    (dRet (dVar 2)))) dNext)
    (dSeq (dSetI jok 0 (dOp modR (dCB intOfR (dCons (dOp addR (dOp addR (dOp mulR (dIxM jok 0 (dC (.int 1))) (dC (.int 70207))) (dOp mulR (dIxM jok 0 (dC (.int 2))) (dC (.int 401)))) (dC (.int 3))) dNil)) (dC (.int 2147483269))) (dC (.int 1)))
    (dRet (dOp modR (dCB intOfR (dCons (dOp fdivR (dIxM jok 0 (dC (.int 1))) (dC (.int 31))) dNil)) (dVar 1))))))
def ds_law_letters : DS := (dSeq (dAsg (dCall jok m_law_sort (djJ 0 (djV (dC (.int 4)) djNil))) (dgN 1))
    (dSeq (dIf (dTst (dOp ltR (dVar 1) (dC (.int 2)))) (dRet (dOp ixR (dTup (dCons (dC (.str [97, 98])) (dCons (dC (.str [97, 98, 99])) (dCons (dC (.str [97, 98, 99, 100])) (dCons (dC (.str [97, 122])) dNil))))) (dCall jok m_law_sort (djJ 0 (djV (dC (.int 4)) djNil))))) dNext)
    (dSeq (dAsg (dC (.str [97, 98, 99, 100, 101, 102, 103, 104, 105, 106, 107, 108, 109, 110, 111, 112, 113, 114, 115, 116, 117, 118, 119, 120, 121, 122])) (dgN 2))
    (dSeq (dAsg (dC (.str [])) (dgN 3))
    (dSeq (dFor (diR1 (dOp addR (dC (.int 2)) (dCall jok m_law_sort (djJ 0 (djV (dC (.int 3)) djNil))))) (dgN 4) (dAsg (dOp addR (dVar 3) (dOp ixR (dVar 2) (dOp addR (dOp mulR (dC (.int 6)) (dVar 4)) (dCall jok m_law_sort (djJ 0 (djV (dC (.int 6)) djNil)))))) (dgN 3)))
    (dRet (dVar 3)))))))
def ds_law_word : DS := (dRet (dJoin (dC (.str [])) (dFz (dLc (diR1 (dVar 2)) (dgN 3) dYes (dOp ixR (dVar 1) (dCall jok m_law_sort (djJ 0 (djV (dCB lenR (dCons (dVar 1) dNil)) djNil)))) [3]))))
def ds_law_side_letters : DS := (dSeq (dOwn 1 (dLc (diSeq (dVar 0) isS) (dgN 2) dYes (dOp addR (dC (.str [46])) (dVar 2)) [2]))
    (dSeq (dFor (diSeq (dVar 0) isS) (dgN 2) (dSeq (dApp jok 1 (dOp addR (dVar 2) (dC (.str [46]))))
    (dExt jok 1 (dFz (dLc (diSeq (dVar 0) isS) (dgN 3) dYes (dOp addR (dVar 2) (dVar 3)) [3])))))
    (dRet (dCB tupOfR (dCons (dVar 1) dNil)))))
def ds_law_row : DS := (dSeq (dOwn 2 (dlLst dNil))
    (dSeq (dFor (diR1 (dCB (int2R fun i j => max i j) (dCons (dCB lenR (dCons (dVar 0) dNil)) (dCons (dCB lenR (dCons (dVar 1) dNil)) dNil)))) (dgN 3) (dApp jok 2 (dOp addR (dIfE (dTst (dOp ltR (dVar 3) (dCB lenR (dCons (dVar 0) dNil)))) (dOp ixR (dVar 0) (dVar 3)) (dC (.str [46]))) (dIfE (dTst (dOp ltR (dVar 3) (dCB lenR (dCons (dVar 1) dNil)))) (dOp ixR (dVar 1) (dVar 3)) (dC (.str [46]))))))
    (dRet (dCB tupOfR (dCons (dVar 2) dNil)))))
def ds_law_words : DS := (dSeq (dOwn 1 (dlLst (dCons (dC (.str [])) (dCons (dC (.str [])) dNil))))
    (dSeq (dFor (diEnT (dVar 0)) (dgTup 2 (dgCons (dgN 2) (dgCons (dgN 3) dgNil))) (dFor (diR1 (dC (.int 2))) (dgN 4) (dIf (dTst (dOp neR (dOp ixR (dVar 3) (dVar 4)) (dC (.str [46])))) (dSeq (dIf (dTst (dOp ltR (dCB lenR (dCons (dIxM jok 1 (dVar 4)) dNil)) (dVar 2))) (dRet (dC .non)) dNext)
    (dSetI jok 1 (dOp addR (dIxM jok 1 (dVar 4)) (dOp ixR (dVar 3) (dVar 4))) (dVar 4))) dNext)))
    (dRet (dCB tupOfR (dCons (dVar 1) dNil)))))
def ds_law_same (mi : DM) : DS := (dSeq (dIf (dTst (dOp isR (dVar 1) (dC .non))) (dRet (dOp isR (dVar 0) (dC .non))) dNext)
    (dSeq (dIf (dTru (dIsi "tuple" (dNoRo (dVar 1)))) (dSeq (dIf (dOr (dNot (dTru (dIsi "tuple" (dNoRo (dVar 0))))) (dTst (dOp neR (dCB lenR (dCons (dVar 0) dNil)) (dCB lenR (dCons (dVar 1) dNil))))) (dRet (dC (.bl false))) dNext)
    (dRet (dCB allR (dCons (dFz (dLc (diZpT (dCons (dVar 0) (dCons (dVar 1) dNil))) (dgTup 2 (dgCons (dgN 2) (dgCons (dgN 3) dgNil))) dYes (dCall jok mi (djV (dVar 2) (djV (dVar 3) djNil))) [2, 3])) dNil)))) dNext)
    (dRet (dAndV (dIsi "str" (dNoRo (dVar 0))) (dOp eqR (dVar 0) (dVar 1))))))
def ds_law_pair : DS := (dSeq (dAsg (dOp eqR (dCall jok m_law_sort (djJ 0 (djV (dC (.int 7)) djNil))) (dC (.int 3))) (dgN 2))
    (dSeq (dAsg (dCall jok m_law_word (djJ 0 (djV (dVar 1) (djV (dIfE (dTru (dVar 2)) (dOp addR (dC (.int 40)) (dCall jok m_law_sort (djJ 0 (djV (dC (.int 20)) djNil)))) (dCall jok m_law_sort (djJ 0 (djV (dC (.int 9)) djNil)))) djNil)))) (dgN 3))
    (dSeq (dAsg (dCall jok m_law_sort (djJ 0 (djV (dC (.int 5)) djNil))) (dgN 4))
    (dSeq (dIf (dTst (dOp eqR (dVar 4) (dC (.int 0)))) (dRet (dTup (dCons (dVar 3) (dCons (dVar 3) dNil)))) dNext)
    (dSeq (dIf (dTst (dOp eqR (dVar 4) (dC (.int 1)))) (dRet (dTup (dCons (dVar 3) (dCons (dSl (dVar 3) dNoP (dP (dCall jok m_law_sort (djJ 0 (djV (dOp addR (dCB lenR (dCons (dVar 3) dNil)) (dC (.int 1))) djNil))))) dNil)))) dNext)
    (dSeq (dIf (dTst (dOp eqR (dVar 4) (dC (.int 2)))) (dRet (dTup (dCons (dSl (dVar 3) (dP (dCall jok m_law_sort (djJ 0 (djV (dOp addR (dCB lenR (dCons (dVar 3) dNil)) (dC (.int 1))) djNil)))) dNoP) (dCons (dVar 3) dNil)))) dNext)
    (dSeq (dIf (dTst (dOp eqR (dVar 4) (dC (.int 3)))) (dRet (dTup (dCons (dVar 3) (dCons (dCall jok m_law_word (djJ 0 (djV (dVar 1) (djV (dCB lenR (dCons (dVar 3) dNil)) djNil)))) dNil)))) dNext)
    (dRet (dTup (dCons (dVar 3) (dCons (dCall jok m_law_word (djJ 0 (djV (dVar 1) (djV (dCall jok m_law_sort (djJ 0 (djV (dC (.int 9)) djNil))) djNil)))) dNil)))))))))))
def ds_law_bent : DS := (dSeq (dAsg (dCall jok m_law_side_letters (djV (dVar 1) djNil)) (dgN 3))
    (dSeq (dAsg (dCall jok m_law_sort (djJ 0 (djV (dOp addR (dCB lenR (dCons (dVar 2) dNil)) (dC (.int 1))) djNil))) (dgN 4))
    (dSeq (dAsg (dCall jok m_law_sort (djJ 0 (djV (dC (.int 5)) djNil))) (dgN 5))
    (dSeq (dIf (dTst (dOp eqR (dVar 5) (dC (.int 0)))) (dRet (dOp addR (dOp addR (dSl (dVar 2) dNoP (dP (dVar 4))) (dTup (dCons (dOp ixR (dVar 3) (dCall jok m_law_sort (djJ 0 (djV (dCB lenR (dCons (dVar 3) dNil)) djNil)))) dNil))) (dSl (dVar 2) (dP (dVar 4)) dNoP))) dNext)
    (dSeq (dIf (dTst (dOp eqR (dVar 5) (dC (.int 1)))) (dRet (dOp addR (dOp addR (dSl (dVar 2) dNoP (dP (dVar 4))) (dTup (dCons (dOp ixR (dVar 3) (dCall jok m_law_sort (djJ 0 (djV (dCB lenR (dCons (dVar 3) dNil)) djNil)))) dNil))) (dSl (dVar 2) (dP (dOp addR (dVar 4) (dC (.int 1)))) dNoP))) dNext)
    (dSeq (dIf (dTst (dOp eqR (dVar 5) (dC (.int 2)))) (dRet (dOp addR (dVar 2) (dTup (dCons (dOp ixR (dVar 3) (dCall jok m_law_sort (djJ 0 (djV (dCB lenR (dCons (dVar 3) dNil)) djNil)))) dNil)))) dNext)
    (dSeq (dIf (dTst (dOp eqR (dVar 5) (dC (.int 3)))) (dRet (dOp addR (dCB tupOfR (dCons (dFz (dLc (diSeq (dSl (dVar 2) dNoP (dP (dVar 4))) isT) (dgN 6) dYes (dRev (dVar 6)) [6])) dNil)) (dSl (dVar 2) (dP (dVar 4)) dNoP))) dNext)
    (dRet (dOp addR (dSl (dVar 2) (dP (dVar 4)) dNoP) (dSl (dVar 2) dNoP (dP (dVar 4))))))))))))
def ds_law_by_hand : DS := (dSeq (dIf (dOr (dNot (dTru (dCall jok m_law_same (djV (dCall jok m_side_row (djV (dC (.str [100, 99, 100])) (djV (dC (.str [100])) djNil))) (djV (dTup (dCons (dC (.str [100, 100])) (dCons (dC (.str [99, 46])) (dCons (dC (.str [100, 46])) dNil)))) djNil))))) (dNot (dTru (dCall jok m_law_same (djV (dCall jok m_side_row (djV (dC (.str [])) (djV (dC (.str [99, 99])) djNil))) (djV (dTup (dCons (dC (.str [46, 99])) (dCons (dC (.str [46, 99])) dNil))) djNil)))))) (dRet (dC (.bl false))) dNext)
    (dSeq (dIf (dOr (dNot (dTru (dCall jok m_law_same (djV (dCall jok m_rows_words (djV (dTup (dCons (dC (.str [100, 100])) (dCons (dC (.str [46, 99])) (dCons (dC (.str [46, 100])) dNil)))) djNil)) (djV (dTup (dCons (dC (.str [100])) (dCons (dC (.str [100, 99, 100])) dNil))) djNil))))) (dNot (dTru (dCall jok m_law_same (djV (dCall jok m_rows_words (djV (dTup dNil) djNil)) (djV (dTup (dCons (dC (.str [])) (dCons (dC (.str [])) dNil))) djNil)))))) (dRet (dC (.bl false))) dNext)
    (dSeq (dFor (diSeq (dTup (dCons (dTup (dCons (dC (.str [46, 99])) (dCons (dC (.str [99, 99])) dNil))) (dCons (dTup (dCons (dC (.str [100, 46])) (dCons (dC (.str [46, 100])) dNil))) (dCons (dTup (dCons (dC (.str [99, 100])) (dCons (dC (.str [100, 46])) (dCons (dC (.str [100, 100])) dNil)))) (dCons (dTup (dCons (dC (.str [46, 99])) (dCons (dC (.str [99, 46])) dNil))) dNil))))) isT) (dgN 0) (dIf (dNot (dTru (dCall jok m_law_same (djV (dCall jok m_rows_words (djV (dVar 0) djNil)) (djV (dC .non) djNil))))) (dRet (dC (.bl false))) dNext))
    (dRet (dCall jok m_law_same (djV (dCall jok m_side_letters (djV (dC (.str [99, 120])) djNil)) (djV (dTup (dCons (dC (.str [46, 99])) (dCons (dC (.str [46, 120])) (dCons (dC (.str [99, 46])) (dCons (dC (.str [99, 99])) (dCons (dC (.str [99, 120])) (dCons (dC (.str [120, 46])) (dCons (dC (.str [120, 99])) (dCons (dC (.str [120, 120])) dNil))))))))) djNil)))))))
def ds_law : DS := (dSeq (dOwn 1 (dlCallO m_law_fount (dCons (dVar 0) dNil)))
    (dSeq (dFor (diR1 (dC (.int 4))) (dgN 2) (dSeq (dAsg (dCall jok m_law_letters (djJ 1 djNil)) (dgN 3))
    (dSeq (dIf (dNot (dTru (dCall jok m_law_same (djV (dCall jok m_side_letters (djV (dVar 3) djNil)) (djV (dCall jok m_law_side_letters (djV (dVar 3) djNil)) djNil))))) (dRet (dC (.bl false))) dNext)
    (dSeq (dAsg (dCall jok m_law_pair (djJ 1 (djV (dVar 3) djNil))) (dgTup 2 (dgCons (dgN 4) (dgCons (dgN 5) dgNil))))
    (dSeq (dAsg (dCall jok m_law_row (djV (dVar 4) (djV (dVar 5) djNil))) (dgN 6))
    (dSeq (dIf (dOr (dNot (dTru (dCall jok m_law_same (djV (dCall jok m_side_row (djV (dVar 4) (djV (dVar 5) djNil))) (djV (dVar 6) djNil))))) (dNot (dTru (dCall jok m_law_same (djV (dCall jok m_rows_words (djV (dVar 6) djNil)) (djV (dTup (dCons (dVar 4) (dCons (dVar 5) dNil))) djNil)))))) (dRet (dC (.bl false))) dNext)
    (dFor (diR1 (dC (.int 4))) (dgN 7) (dSeq (dAsg (dCall jok m_law_bent (djJ 1 (djV (dVar 3) (djV (dVar 6) djNil)))) (dgN 8))
    (dIf (dNot (dTru (dCall jok m_law_same (djV (dCall jok m_rows_words (djV (dVar 8) djNil)) (djV (dCall jok m_law_words (djV (dVar 8) djNil)) djNil))))) (dRet (dC (.bl false))) dNext)))))))))
    (dRet (dCall jok m_law_by_hand djNil))))
end K10
namespace K10
open PySem PySem.Spec L2 DL
theorem td_side_letters {P : Program} {w : World} {K : PySem.W.Frag} {mg : Str → Option Value} {base : Heap} (T : Facts K mg) 
    (hl : ∀ as R, m_side_letters as R → as.length = 1) (hm : ∀ as R, m_side_letters as R → ds_side_letters (endsM jok as R) (startS ["letters", "signs", "pairs", "one", "other"] as)) : Has P w K mg base 1 "side_letters" ["letters"] (spM K jok m_side_letters) := by
  refine fn_has (ok := jok) (ds := ds_side_letters) T.d_side_letters sc_side_letters hl (fun f cdv A outer s H E H0 F0 J hr => ?_) hm
  exact (pdss_cons (pds_set 1 sc_side_letters.nd (pd_op od_add (pd_str [46] (by decide +kernel)) (pd_var 0)))
    (pdss_cons (pds_own 2 sc_side_letters.nd (pdl_lst pda_nil))
    (pdss_cons (pds_for PassesOwn.never rfl (pdi_str (pd_var 1)) (pdg_name 3 sc_side_letters.nd) (pdss_one (pds_for PassesOwn.never rfl (pdi_str (pd_var 1)) (pdg_name 4 sc_side_letters.nd) (pdss_one (pds_if (pdt_cmp od_ne (pd_op od_add (pd_var 3) (pd_var 4)) (pd_str [46, 46] (by decide +kernel)) (nomark _)) (pdss_one (pds_app 2 (pd_op od_add (pd_var 3) (pd_var 4)))) pdss_nil)))))
    (pdss_one (pds_ret (pd_ct cd_tuple (by rfl) T.b_tuple bt_tuple (pda_cons (pd_var 2) pda_nil)))))))
theorem td_side_row {P : Program} {w : World} {K : PySem.W.Frag} {mg : Str → Option Value} {base : Heap} (T : Facts K mg) 
    (hl : ∀ as R, m_side_row as R → as.length = 2) (hm : ∀ as R, m_side_row as R → ds_side_row (endsM jok as R) (startS ["one", "other", "row", "at", "upper", "lower"] as)) : Has P w K mg base 1 "side_row" ["one", "other"] (spM K jok m_side_row) := by
  refine fn_has (ok := jok) (ds := ds_side_row) T.d_side_row sc_side_row hl (fun f cdv A outer s H E H0 F0 J hr => ?_) hm
  exact (pdss_cons (pds_own 2 sc_side_row.nd (pdl_lst pda_nil))
    (pdss_cons (pds_for PassesOwn.never rfl (pdi_rng1 (by rfl) T.b_range (pd_cb (cd_max rfl) (by rfl) T.b_max bt_max (pda_cons (pd_cb cd_len (by rfl) T.b_len bt_len (pda_cons (pd_var 0) pda_nil)) (pda_cons (pd_cb cd_len (by rfl) T.b_len bt_len (pda_cons (pd_var 1) pda_nil)) pda_nil)))) (pdg_name 3 sc_side_row.nd) (pdss_cons (pds_set 4 sc_side_row.nd (pd_ifE (pdt_cmp od_lt (pd_var 3) (pd_cb cd_len (by rfl) T.b_len bt_len (pda_cons (pd_var 0) pda_nil)) (nomark _)) (pd_ix (pd_var 0) (pd_var 3)) (pd_str [46] (by decide +kernel))))
    (pdss_cons (pds_set 5 sc_side_row.nd (pd_ifE (pdt_cmp od_lt (pd_var 3) (pd_cb cd_len (by rfl) T.b_len bt_len (pda_cons (pd_var 1) pda_nil)) (nomark _)) (pd_ix (pd_var 1) (pd_var 3)) (pd_str [46] (by decide +kernel))))
    (pdss_one (pds_app 2 (pd_op od_add (pd_var 4) (pd_var 5)))))))
    (pdss_one (pds_ret (pd_ct cd_tuple (by rfl) T.b_tuple bt_tuple (pda_cons (pd_var 2) pda_nil))))))
theorem td_rows_words {P : Program} {w : World} {K : PySem.W.Frag} {mg : Str → Option Value} {base : Heap} (T : Facts K mg) 
    (hl : ∀ as R, m_rows_words as R → as.length = 1) (hm : ∀ as R, m_rows_words as R → ds_rows_words (endsM jok as R) (startS ["row", "one", "other", "first", "second", "pair"] as)) : Has P w K mg base 1 "rows_words" ["row"] (spM K jok m_rows_words) := by
  refine fn_has (ok := jok) (ds := ds_rows_words) T.d_rows_words sc_rows_words hl (fun f cdv A outer s H E H0 F0 J hr => ?_) hm
  exact (pdss_cons (pds_set 1 sc_rows_words.nd (pd_join (pd_str [] (by decide +kernel)) (pd_fz (pdl_lc [("pair", 5)] rfl sc_rows_words.nd (pdi_tup (pd_var 0)) (blkOk_by (N := ["row", "one", "other", "first", "second", "pair"]) (sc := defScope s_rows_words) (by decide +kernel)) (fun _ => (pdg_name 5 sc_rows_words.nd)) (fun _ => (pd_ix (pd_var 5) pd_int))))))
    (pdss_cons (pds_set 2 sc_rows_words.nd (pd_join (pd_str [] (by decide +kernel)) (pd_fz (pdl_lc [("pair", 5)] rfl sc_rows_words.nd (pdi_tup (pd_var 0)) (blkOk_by (N := ["row", "one", "other", "first", "second", "pair"]) (sc := defScope s_rows_words) (by decide +kernel)) (fun _ => (pdg_name 5 sc_rows_words.nd)) (fun _ => (pd_ix (pd_var 5) pd_int))))))
    (pdss_cons (pds_par 3 4 rfl sc_rows_words.nd (pda_cons (pd_rstrip (pd_var 1) (pd_str [46] (by decide +kernel))) (pda_cons (pd_rstrip (pd_var 2) (pd_str [46] (by decide +kernel))) pda_nil)))
    (pdss_cons (pds_if (pdw_pt (pdw_or (pdt_cmp od_inS (pd_str [46] (by decide +kernel)) (pd_var 3) (by rfl)) (pdw_or (pdt_cmp od_inS (pd_str [46] (by decide +kernel)) (pd_var 4) (by rfl)) (pdw_or1 (pdt_cmp od_ne (pd_cb (cd_max rfl) (by rfl) T.b_max bt_max (pda_cons (pd_cb cd_len (by rfl) T.b_len bt_len (pda_cons (pd_var 3) pda_nil)) (pda_cons (pd_cb cd_len (by rfl) T.b_len bt_len (pda_cons (pd_var 4) pda_nil)) pda_nil))) (pd_cb cd_len (by rfl) T.b_len bt_len (pda_cons (pd_var 0) pda_nil)) (nomark _)))))) (pdss_one (pds_ret pd_non)) pdss_nil)
    (pdss_one (pds_ret (pd_tup (pda_cons (pd_var 3) (pda_cons (pd_var 4) pda_nil)))))))))
theorem td_law_fount {P : Program} {w : World} {K : PySem.W.Frag} {mg : Str → Option Value} {base : Heap} (T : Facts K mg) 
    (hl : ∀ as R, m_law_fount as R → as.length = 1) (hm : ∀ as R, m_law_fount as R → ds_law_fount (endsO jok as R) (startS ["script", "fount", "cell"] as)) : Has P w K mg base 1 "_law_fount" ["script"] (spO K jok m_law_fount) := by
  refine fn_hasO (ok := jok) (ds := ds_law_fount) T.d_law_fount sc_law_fount hl (fun f cdv A outer s H E H0 F0 J hr => ?_) hm
  exact (pdss_cons (pds_own 1 sc_law_fount.nd (pdl_lst (pda_cons pd_int (pda_cons pd_int (pda_cons pd_int pda_nil)))))
    (pdss_cons (pds_for PassesOwn.never rfl (pdi_list (pd_slice (pd_var 0) pdo_none (pdo_some pd_int))) (pdg_name 2 sc_law_fount.nd) (pdss_cons (pds_augi 1 ip_add pd_int pd_int)
    (pdss_cons (pds_seti 1 (pd_op od_mod (pd_ct cd_int (by rfl) T.b_int bt_int (pda_cons (pd_op od_add (pd_op od_add (pd_op od_mul (pd_ixN 1 pd_int) pd_int) (pd_op od_mul (pd_ct cd_int (by rfl) T.b_int bt_int (pda_cons (pd_var 2) pda_nil)) pd_int)) (pd_ixN 1 pd_int)) pda_nil)) pd_int) pd_int)
    (pdss_one (pds_if (pdw_pt (pdw_and (pdt_cmp od_ge (pd_var 2) pd_int (nomark _)) (pdw_and1 (pdt_cmp od_eq (pd_ixN 1 pd_int) pd_int (nomark _))))) (pdss_one (pds_seti 1 (pd_op od_mod (pd_ct cd_int (by rfl) T.b_int bt_int (pda_cons (pd_var 2) pda_nil)) (pd_op od_shl pd_int pd_int)) pd_int)) pdss_nil)))))
    (pdss_one (pds_retO 1))))
theorem td_law_sort {P : Program} {w : World} {K : PySem.W.Frag} {mg : Str → Option Value} {base : Heap} (T : Facts K mg) 
    (hl : ∀ as R, m_law_sort as R → as.length = 2) (hm : ∀ as R, m_law_sort as R → ds_law_sort (endsM jok as R) (startS ["fount", "many", "told"] as)) : Has P w K mg base 1 "_law_sort" ["fount", "many"] (spM K jok m_law_sort) := by
  refine fn_has (ok := jok) (ds := ds_law_sort) T.d_law_sort sc_law_sort hl (fun f cdv A outer s H E H0 F0 J hr => ?_) hm
  exact (pdss_cons (pds_augi 0 ip_add pd_int pd_int)
    (pdss_cons (pds_if (pdt_cmp od_gt (pd_ixN 0 pd_int) pd_int (nomark _)) (pdss_cons (pds_set 2 sc_law_sort.nd (pd_op od_mod (pd_ct cd_int (by rfl) T.b_int bt_int (pda_cons (pd_ixN 0 pd_int) pda_nil)) (pd_var 1)))
    (pdss_cons (pds_seti 0 (pd_op od_fdiv (pd_ixN 0 pd_int) (pd_var 1)) pd_int)
    (pdss_one (pds_ret (pd_var 2))))) pdss_nil)
    (pdss_cons (pds_seti 0 (pd_op od_mod (pd_ct cd_int (by rfl) T.b_int bt_int (pda_cons (pd_op od_add (pd_op od_add (pd_op od_mul (pd_ixN 0 pd_int) pd_int) (pd_op od_mul (pd_ixN 0 pd_int) pd_int)) pd_int) pda_nil)) pd_int) pd_int)
    (pdss_one (pds_ret (pd_op od_mod (pd_ct cd_int (by rfl) T.b_int bt_int (pda_cons (pd_op od_fdiv (pd_ixN 0 pd_int) pd_int) pda_nil)) (pd_var 1)))))))
theorem td_law_letters {P : Program} {w : World} {K : PySem.W.Frag} {mg : Str → Option Value} {base : Heap} (T : Facts K mg) (h_law_sort : Has P w K mg base 1 "_law_sort" ["fount", "many"] (spM K jok m_law_sort))
    (hl : ∀ as R, m_law_letters as R → as.length = 1) (hm : ∀ as R, m_law_letters as R → ds_law_letters (endsM jok as R) (startS ["fount", "kind", "every", "told", "turn"] as)) : Has P w K mg base 2 "_law_letters" ["fount"] (spM K jok m_law_letters) := by
  refine fn_has (ok := jok) (ds := ds_law_letters) T.d_law_letters sc_law_letters hl (fun f cdv A outer s H E H0 F0 J hr => ?_) hm
  exact (pdss_cons (pds_set 1 sc_law_letters.nd (pd_callH h_law_sort hr (pdj_j 0 (pdj_v pd_int pdj_nil))))
    (pdss_cons (pds_if (pdt_cmp od_lt (pd_var 1) pd_int (nomark _)) (pdss_one (pds_ret (pd_ix (pd_tup (pda_cons (pd_str [97, 98] (by decide +kernel)) (pda_cons (pd_str [97, 98, 99] (by decide +kernel)) (pda_cons (pd_str [97, 98, 99, 100] (by decide +kernel)) (pda_cons (pd_str [97, 122] (by decide +kernel)) pda_nil))))) (pd_callH h_law_sort hr (pdj_j 0 (pdj_v pd_int pdj_nil)))))) pdss_nil)
    (pdss_cons (pds_set 2 sc_law_letters.nd (pd_str [97, 98, 99, 100, 101, 102, 103, 104, 105, 106, 107, 108, 109, 110, 111, 112, 113, 114, 115, 116, 117, 118, 119, 120, 121, 122] (by decide +kernel)))
    (pdss_cons (pds_set 3 sc_law_letters.nd (pd_str [] (by decide +kernel)))
    (pdss_cons (pds_for PassesOwn.never rfl (pdi_rng1 (by rfl) T.b_range (pd_op od_add pd_int (pd_callH h_law_sort hr (pdj_j 0 (pdj_v pd_int pdj_nil))))) (pdg_name 4 sc_law_letters.nd) (pdss_one (pds_set 3 sc_law_letters.nd (pd_op od_add (pd_var 3) (pd_ix (pd_var 2) (pd_op od_add (pd_op od_mul pd_int (pd_var 4)) (pd_callH h_law_sort hr (pdj_j 0 (pdj_v pd_int pdj_nil)))))))))
    (pdss_one (pds_ret (pd_var 3))))))))
theorem td_law_word {P : Program} {w : World} {K : PySem.W.Frag} {mg : Str → Option Value} {base : Heap} (T : Facts K mg) (h_law_sort : Has P w K mg base 1 "_law_sort" ["fount", "many"] (spM K jok m_law_sort))
    (hl : ∀ as R, m_law_word as R → as.length = 3) (hm : ∀ as R, m_law_word as R → ds_law_word (endsM jok as R) (startS ["fount", "letters", "length", "turn"] as)) : Has P w K mg base 2 "_law_word" ["fount", "letters", "length"] (spM K jok m_law_word) := by
  refine fn_has (ok := jok) (ds := ds_law_word) T.d_law_word sc_law_word hl (fun f cdv A outer s H E H0 F0 J hr => ?_) hm
  exact (pdss_one (pds_ret (pd_join (pd_str [] (by decide +kernel)) (pd_fz (pdl_lc [("turn", 3)] rfl sc_law_word.nd (pdi_rng1 (by rfl) T.b_range (pd_var 2)) (blkOk_by (N := ["fount", "letters", "length", "turn"]) (sc := defScope s_law_word) (by decide +kernel)) (fun _ => (pdg_name 3 sc_law_word.nd)) (fun _ => (pd_ix (pd_var 1) (pd_callH h_law_sort hr (pdj_j 0 (pdj_v (pd_cb cd_len (by rfl) T.b_len bt_len (pda_cons (pd_var 1) pda_nil)) pdj_nil))))))))))
theorem td_law_side_letters {P : Program} {w : World} {K : PySem.W.Frag} {mg : Str → Option Value} {base : Heap} (T : Facts K mg) 
    (hl : ∀ as R, m_law_side_letters as R → as.length = 1) (hm : ∀ as R, m_law_side_letters as R → ds_law_side_letters (endsM jok as R) (startS ["letters", "told", "letter", "other"] as)) : Has P w K mg base 1 "_law_side_letters" ["letters"] (spM K jok m_law_side_letters) := by
  refine fn_has (ok := jok) (ds := ds_law_side_letters) T.d_law_side_letters sc_law_side_letters hl (fun f cdv A outer s H E H0 F0 J hr => ?_) hm
  exact (pdss_cons (pds_setLc 1 [("letter", 2)] rfl sc_law_side_letters.nd (pdi_str (pd_var 0)) (blkOk_by (N := ["letters", "told", "letter", "other"]) (sc := defScope s_law_side_letters) (by decide +kernel)) (fun _ => (pdg_name 2 sc_law_side_letters.nd)) (fun _ => (pd_op od_add (pd_str [46] (by decide +kernel)) (pd_var 2))) (sw_true rfl rfl rfl (by decide +kernel)))
    (pdss_cons (pds_for PassesOwn.never rfl (pdi_str (pd_var 0)) (pdg_name 2 sc_law_side_letters.nd) (pdss_cons (pds_app 1 (pd_op od_add (pd_var 2) (pd_str [46] (by decide +kernel))))
    (pdss_one (pds_ext 1 (pd_fz (pdl_lc [("other", 3)] rfl sc_law_side_letters.nd (pdi_str (pd_var 0)) (blkOk_by (N := ["letters", "told", "letter", "other"]) (sc := defScope s_law_side_letters) (by decide +kernel)) (fun _ => (pdg_name 3 sc_law_side_letters.nd)) (fun _ => (pd_op od_add (pd_var 2) (pd_var 3)))))))))
    (pdss_one (pds_ret (pd_ct cd_tuple (by rfl) T.b_tuple bt_tuple (pda_cons (pd_var 1) pda_nil))))))
theorem td_law_row {P : Program} {w : World} {K : PySem.W.Frag} {mg : Str → Option Value} {base : Heap} (T : Facts K mg) 
    (hl : ∀ as R, m_law_row as R → as.length = 2) (hm : ∀ as R, m_law_row as R → ds_law_row (endsM jok as R) (startS ["one", "other", "told", "at"] as)) : Has P w K mg base 1 "_law_row" ["one", "other"] (spM K jok m_law_row) := by
  refine fn_has (ok := jok) (ds := ds_law_row) T.d_law_row sc_law_row hl (fun f cdv A outer s H E H0 F0 J hr => ?_) hm
  exact (pdss_cons (pds_own 2 sc_law_row.nd (pdl_lst pda_nil))
    (pdss_cons (pds_for PassesOwn.never rfl (pdi_rng1 (by rfl) T.b_range (pd_cb (cd_max rfl) (by rfl) T.b_max bt_max (pda_cons (pd_cb cd_len (by rfl) T.b_len bt_len (pda_cons (pd_var 0) pda_nil)) (pda_cons (pd_cb cd_len (by rfl) T.b_len bt_len (pda_cons (pd_var 1) pda_nil)) pda_nil)))) (pdg_name 3 sc_law_row.nd) (pdss_one (pds_app 2 (pd_op od_add (pd_ifE (pdt_cmp od_lt (pd_var 3) (pd_cb cd_len (by rfl) T.b_len bt_len (pda_cons (pd_var 0) pda_nil)) (nomark _)) (pd_ix (pd_var 0) (pd_var 3)) (pd_str [46] (by decide +kernel))) (pd_ifE (pdt_cmp od_lt (pd_var 3) (pd_cb cd_len (by rfl) T.b_len bt_len (pda_cons (pd_var 1) pda_nil)) (nomark _)) (pd_ix (pd_var 1) (pd_var 3)) (pd_str [46] (by decide +kernel)))))))
    (pdss_one (pds_ret (pd_ct cd_tuple (by rfl) T.b_tuple bt_tuple (pda_cons (pd_var 2) pda_nil))))))
theorem td_law_words {P : Program} {w : World} {K : PySem.W.Frag} {mg : Str → Option Value} {base : Heap} (T : Facts K mg) 
    (hl : ∀ as R, m_law_words as R → as.length = 1) (hm : ∀ as R, m_law_words as R → ds_law_words (endsM jok as R) (startS ["row", "told", "at", "letter", "side"] as)) : Has P w K mg base 1 "_law_words" ["row"] (spM K jok m_law_words) := by
  refine fn_has (ok := jok) (ds := ds_law_words) T.d_law_words sc_law_words hl (fun f cdv A outer s H E H0 F0 J hr => ?_) hm
  exact (pdss_cons (pds_own 1 sc_law_words.nd (pdl_lst (pda_cons (pd_str [] (by decide +kernel)) (pda_cons (pd_str [] (by decide +kernel)) pda_nil))))
    (pdss_cons (pds_for PassesOwn.never rfl (pdi_enumT (by rfl) T.b_enumerate (pd_var 0)) (pdg_tup rfl (pdgs_cons (pdg_name 2 sc_law_words.nd) (pdgs_cons (pdg_name 3 sc_law_words.nd) pdgs_nil))) (pdss_one (pds_for PassesOwn.never rfl (pdi_rng1 (by rfl) T.b_range pd_int) (pdg_name 4 sc_law_words.nd) (pdss_one (pds_if (pdt_cmp od_ne (pd_ix (pd_var 3) (pd_var 4)) (pd_str [46] (by decide +kernel)) (nomark _)) (pdss_cons (pds_if (pdt_cmp od_lt (pd_cb cd_len (by rfl) T.b_len bt_len (pda_cons (pd_ixN 1 (pd_var 4)) pda_nil)) (pd_var 2) (nomark _)) (pdss_one (pds_ret pd_non)) pdss_nil)
    (pdss_one (pds_seti 1 (pd_op od_add (pd_ixN 1 (pd_var 4)) (pd_ix (pd_var 3) (pd_var 4))) (pd_var 4)))) pdss_nil)))))
    (pdss_one (pds_ret (pd_ct cd_tuple (by rfl) T.b_tuple bt_tuple (pda_cons (pd_var 1) pda_nil))))))
theorem td_law_same {P : Program} {w : World} {K : PySem.W.Frag} {mg : Str → Option Value} {base : Heap} (T : Facts K mg) {mi m : DM} {lv : Nat} (hlv : 0 ≤ lv) (h_law_same : Has P w K mg base lv "_law_same" ["one", "two"] (spM K jok mi))
    (hl : ∀ as R, m as R → as.length = 2) (hm : ∀ as R, m as R → (ds_law_same mi) (endsM jok as R) (startS ["one", "two", "part", "due"] as)) : Has P w K mg base (lv + 1) "_law_same" ["one", "two"] (spM K jok m) := by
  refine fn_has (ok := jok) (ds := (ds_law_same mi)) T.d_law_same sc_law_same hl (fun f cdv A outer s H E H0 F0 J hr => ?_) hm
  exact (pdss_cons (pds_if (pdt_cmp od_is (pd_var 1) pd_non (nomark _)) (pdss_one (pds_ret (pd_cmp od_is (pd_var 0) pd_non (nomark _)))) pdss_nil)
    (pdss_cons (pds_if (pdt_tru (pd_isi "tuple" (pd_var 1) (by rfl) T.b_isinstance (by rfl) T.b_tuple bt_isinstance bt_tuple)) (pdss_cons (pds_if (pdw_pt (pdw_or (pdt_not (pdt_tru (pd_isi "tuple" (pd_var 0) (by rfl) T.b_isinstance (by rfl) T.b_tuple bt_isinstance bt_tuple))) (pdw_or1 (pdt_cmp od_ne (pd_cb cd_len (by rfl) T.b_len bt_len (pda_cons (pd_var 0) pda_nil)) (pd_cb cd_len (by rfl) T.b_len bt_len (pda_cons (pd_var 1) pda_nil)) (nomark _))))) (pdss_one (pds_ret pd_bl)) pdss_nil)
    (pdss_one (pds_ret (pd_cb (cd_all rfl) (by rfl) T.b_all bt_all (pda_cons (pd_fz (pdl_lc [("part", 2), ("due", 3)] rfl sc_law_same.nd (pdi_zipT (by rfl) T.b_zip (pda_cons (pd_var 0) (pda_cons (pd_var 1) pda_nil))) (blkOk_by (N := ["one", "two", "part", "due"]) (sc := defScope s_law_same) (by decide +kernel)) (fun _ => (pdg_tup rfl (pdgs_cons (pdg_name 2 sc_law_same.nd) (pdgs_cons (pdg_name 3 sc_law_same.nd) pdgs_nil)))) (fun _ => (pd_callH h_law_same hr (pdj_v (pd_var 2) (pdj_v (pd_var 3) pdj_nil)) (hj := Nat.le_refl _))))) pda_nil))))) pdss_nil)
    (pdss_one (pds_ret (pd_and (pd_isi "str" (pd_var 0) (by rfl) T.b_isinstance (by rfl) T.b_str bt_isinstance bt_str) (pd_one (pd_cmp od_eq (pd_var 0) (pd_var 1) (nomark _))))))))
theorem td_law_pair {P : Program} {w : World} {K : PySem.W.Frag} {mg : Str → Option Value} {base : Heap} (T : Facts K mg) (h_law_word : Has P w K mg base 2 "_law_word" ["fount", "letters", "length"] (spM K jok m_law_word)) (h_law_sort : Has P w K mg base 1 "_law_sort" ["fount", "many"] (spM K jok m_law_sort))
    (hl : ∀ as R, m_law_pair as R → as.length = 2) (hm : ∀ as R, m_law_pair as R → ds_law_pair (endsM jok as R) (startS ["fount", "letters", "long", "first", "kind"] as)) : Has P w K mg base 3 "_law_pair" ["fount", "letters"] (spM K jok m_law_pair) := by
  refine fn_has (ok := jok) (ds := ds_law_pair) T.d_law_pair sc_law_pair hl (fun f cdv A outer s H E H0 F0 J hr => ?_) hm
  exact (pdss_cons (pds_set 2 sc_law_pair.nd (pd_cmp od_eq (pd_callH h_law_sort hr (pdj_j 0 (pdj_v pd_int pdj_nil))) pd_int (nomark _)))
    (pdss_cons (pds_set 3 sc_law_pair.nd (pd_callH h_law_word hr (pdj_j 0 (pdj_v (pd_var 1) (pdj_v (pd_ifE (pdt_tru (pd_var 2)) (pd_op od_add pd_int (pd_callH h_law_sort hr (pdj_j 0 (pdj_v pd_int pdj_nil)))) (pd_callH h_law_sort hr (pdj_j 0 (pdj_v pd_int pdj_nil)))) pdj_nil)))))
    (pdss_cons (pds_set 4 sc_law_pair.nd (pd_callH h_law_sort hr (pdj_j 0 (pdj_v pd_int pdj_nil))))
    (pdss_cons (pds_if (pdt_cmp od_eq (pd_var 4) pd_int (nomark _)) (pdss_one (pds_ret (pd_tup (pda_cons (pd_var 3) (pda_cons (pd_var 3) pda_nil))))) pdss_nil)
    (pdss_cons (pds_if (pdt_cmp od_eq (pd_var 4) pd_int (nomark _)) (pdss_one (pds_ret (pd_tup (pda_cons (pd_var 3) (pda_cons (pd_slice (pd_var 3) pdo_none (pdo_some (pd_callH h_law_sort hr (pdj_j 0 (pdj_v (pd_op od_add (pd_cb cd_len (by rfl) T.b_len bt_len (pda_cons (pd_var 3) pda_nil)) pd_int) pdj_nil))))) pda_nil))))) pdss_nil)
    (pdss_cons (pds_if (pdt_cmp od_eq (pd_var 4) pd_int (nomark _)) (pdss_one (pds_ret (pd_tup (pda_cons (pd_slice (pd_var 3) (pdo_some (pd_callH h_law_sort hr (pdj_j 0 (pdj_v (pd_op od_add (pd_cb cd_len (by rfl) T.b_len bt_len (pda_cons (pd_var 3) pda_nil)) pd_int) pdj_nil)))) pdo_none) (pda_cons (pd_var 3) pda_nil))))) pdss_nil)
    (pdss_cons (pds_if (pdt_cmp od_eq (pd_var 4) pd_int (nomark _)) (pdss_one (pds_ret (pd_tup (pda_cons (pd_var 3) (pda_cons (pd_callH h_law_word hr (pdj_j 0 (pdj_v (pd_var 1) (pdj_v (pd_cb cd_len (by rfl) T.b_len bt_len (pda_cons (pd_var 3) pda_nil)) pdj_nil)))) pda_nil))))) pdss_nil)
    (pdss_one (pds_ret (pd_tup (pda_cons (pd_var 3) (pda_cons (pd_callH h_law_word hr (pdj_j 0 (pdj_v (pd_var 1) (pdj_v (pd_callH h_law_sort hr (pdj_j 0 (pdj_v pd_int pdj_nil))) pdj_nil)))) pda_nil))))))))))))
theorem td_law_bent {P : Program} {w : World} {K : PySem.W.Frag} {mg : Str → Option Value} {base : Heap} (T : Facts K mg) (h_law_side_letters : Has P w K mg base 1 "_law_side_letters" ["letters"] (spM K jok m_law_side_letters)) (h_law_sort : Has P w K mg base 1 "_law_sort" ["fount", "many"] (spM K jok m_law_sort))
    (hl : ∀ as R, m_law_bent as R → as.length = 3) (hm : ∀ as R, m_law_bent as R → ds_law_bent (endsM jok as R) (startS ["fount", "letters", "row", "sides", "at", "kind", "letter"] as)) : Has P w K mg base 2 "_law_bent" ["fount", "letters", "row"] (spM K jok m_law_bent) := by
  refine fn_has (ok := jok) (ds := ds_law_bent) T.d_law_bent sc_law_bent hl (fun f cdv A outer s H E H0 F0 J hr => ?_) hm
  exact (pdss_cons (pds_set 3 sc_law_bent.nd (pd_callH h_law_side_letters hr (pdj_v (pd_var 1) pdj_nil)))
    (pdss_cons (pds_set 4 sc_law_bent.nd (pd_callH h_law_sort hr (pdj_j 0 (pdj_v (pd_op od_add (pd_cb cd_len (by rfl) T.b_len bt_len (pda_cons (pd_var 2) pda_nil)) pd_int) pdj_nil))))
    (pdss_cons (pds_set 5 sc_law_bent.nd (pd_callH h_law_sort hr (pdj_j 0 (pdj_v pd_int pdj_nil))))
    (pdss_cons (pds_if (pdt_cmp od_eq (pd_var 5) pd_int (nomark _)) (pdss_one (pds_ret (pd_op od_add (pd_op od_add (pd_slice (pd_var 2) pdo_none (pdo_some (pd_var 4))) (pd_tup (pda_cons (pd_ix (pd_var 3) (pd_callH h_law_sort hr (pdj_j 0 (pdj_v (pd_cb cd_len (by rfl) T.b_len bt_len (pda_cons (pd_var 3) pda_nil)) pdj_nil)))) pda_nil))) (pd_slice (pd_var 2) (pdo_some (pd_var 4)) pdo_none)))) pdss_nil)
    (pdss_cons (pds_if (pdt_cmp od_eq (pd_var 5) pd_int (nomark _)) (pdss_one (pds_ret (pd_op od_add (pd_op od_add (pd_slice (pd_var 2) pdo_none (pdo_some (pd_var 4))) (pd_tup (pda_cons (pd_ix (pd_var 3) (pd_callH h_law_sort hr (pdj_j 0 (pdj_v (pd_cb cd_len (by rfl) T.b_len bt_len (pda_cons (pd_var 3) pda_nil)) pdj_nil)))) pda_nil))) (pd_slice (pd_var 2) (pdo_some (pd_op od_add (pd_var 4) pd_int)) pdo_none)))) pdss_nil)
    (pdss_cons (pds_if (pdt_cmp od_eq (pd_var 5) pd_int (nomark _)) (pdss_one (pds_ret (pd_op od_add (pd_var 2) (pd_tup (pda_cons (pd_ix (pd_var 3) (pd_callH h_law_sort hr (pdj_j 0 (pdj_v (pd_cb cd_len (by rfl) T.b_len bt_len (pda_cons (pd_var 3) pda_nil)) pdj_nil)))) pda_nil))))) pdss_nil)
    (pdss_cons (pds_if (pdt_cmp od_eq (pd_var 5) pd_int (nomark _)) (pdss_one (pds_ret (pd_op od_add (pd_ct cd_tuple (by rfl) T.b_tuple bt_tuple (pda_cons (pd_fz (pdl_lc [("letter", 6)] rfl sc_law_bent.nd (pdi_tup (pd_slice (pd_var 2) pdo_none (pdo_some (pd_var 4)))) (blkOk_by (N := ["fount", "letters", "row", "sides", "at", "kind", "letter"]) (sc := defScope s_law_bent) (by decide +kernel)) (fun _ => (pdg_name 6 sc_law_bent.nd)) (fun _ => (pd_rev (pd_var 6))))) pda_nil)) (pd_slice (pd_var 2) (pdo_some (pd_var 4)) pdo_none)))) pdss_nil)
    (pdss_one (pds_ret (pd_op od_add (pd_slice (pd_var 2) (pdo_some (pd_var 4)) pdo_none) (pd_slice (pd_var 2) pdo_none (pdo_some (pd_var 4)))))))))))))
theorem td_law_by_hand {P : Program} {w : World} {K : PySem.W.Frag} {mg : Str → Option Value} {base : Heap} (T : Facts K mg) (h_law_same : Has P w K mg base 2 "_law_same" ["one", "two"] (spM K jok m_law_same)) (h_side_letters : Has P w K mg base 1 "side_letters" ["letters"] (spM K jok m_side_letters)) (h_side_row : Has P w K mg base 1 "side_row" ["one", "other"] (spM K jok m_side_row)) (h_rows_words : Has P w K mg base 1 "rows_words" ["row"] (spM K jok m_rows_words))
    (hl : ∀ as R, m_law_by_hand as R → as.length = 0) (hm : ∀ as R, m_law_by_hand as R → ds_law_by_hand (endsM jok as R) (startS ["row"] as)) : Has P w K mg base 3 "_law_by_hand" [] (spM K jok m_law_by_hand) := by
  refine fn_has (ok := jok) (ds := ds_law_by_hand) T.d_law_by_hand sc_law_by_hand hl (fun f cdv A outer s H E H0 F0 J hr => ?_) hm
  exact (pdss_cons (pds_if (pdw_pt (pdw_or (pdt_not (pdt_tru (pd_callH h_law_same hr (pdj_v (pd_callH h_side_row hr (pdj_v (pd_str [100, 99, 100] (by decide +kernel)) (pdj_v (pd_str [100] (by decide +kernel)) pdj_nil))) (pdj_v (pd_tup (pda_cons (pd_str [100, 100] (by decide +kernel)) (pda_cons (pd_str [99, 46] (by decide +kernel)) (pda_cons (pd_str [100, 46] (by decide +kernel)) pda_nil)))) pdj_nil))))) (pdw_or1 (pdt_not (pdt_tru (pd_callH h_law_same hr (pdj_v (pd_callH h_side_row hr (pdj_v (pd_str [] (by decide +kernel)) (pdj_v (pd_str [99, 99] (by decide +kernel)) pdj_nil))) (pdj_v (pd_tup (pda_cons (pd_str [46, 99] (by decide +kernel)) (pda_cons (pd_str [46, 99] (by decide +kernel)) pda_nil))) pdj_nil)))))))) (pdss_one (pds_ret pd_bl)) pdss_nil)
    (pdss_cons (pds_if (pdw_pt (pdw_or (pdt_not (pdt_tru (pd_callH h_law_same hr (pdj_v (pd_callH h_rows_words hr (pdj_v (pd_tup (pda_cons (pd_str [100, 100] (by decide +kernel)) (pda_cons (pd_str [46, 99] (by decide +kernel)) (pda_cons (pd_str [46, 100] (by decide +kernel)) pda_nil)))) pdj_nil)) (pdj_v (pd_tup (pda_cons (pd_str [100] (by decide +kernel)) (pda_cons (pd_str [100, 99, 100] (by decide +kernel)) pda_nil))) pdj_nil))))) (pdw_or1 (pdt_not (pdt_tru (pd_callH h_law_same hr (pdj_v (pd_callH h_rows_words hr (pdj_v (pd_tup pda_nil) pdj_nil)) (pdj_v (pd_tup (pda_cons (pd_str [] (by decide +kernel)) (pda_cons (pd_str [] (by decide +kernel)) pda_nil))) pdj_nil)))))))) (pdss_one (pds_ret pd_bl)) pdss_nil)
    (pdss_cons (pds_for PassesOwn.never rfl (pdi_tup (pd_tup (pda_cons (pd_tup (pda_cons (pd_str [46, 99] (by decide +kernel)) (pda_cons (pd_str [99, 99] (by decide +kernel)) pda_nil))) (pda_cons (pd_tup (pda_cons (pd_str [100, 46] (by decide +kernel)) (pda_cons (pd_str [46, 100] (by decide +kernel)) pda_nil))) (pda_cons (pd_tup (pda_cons (pd_str [99, 100] (by decide +kernel)) (pda_cons (pd_str [100, 46] (by decide +kernel)) (pda_cons (pd_str [100, 100] (by decide +kernel)) pda_nil)))) (pda_cons (pd_tup (pda_cons (pd_str [46, 99] (by decide +kernel)) (pda_cons (pd_str [99, 46] (by decide +kernel)) pda_nil))) pda_nil)))))) (pdg_name 0 sc_law_by_hand.nd) (pdss_one (pds_if (pdt_not (pdt_tru (pd_callH h_law_same hr (pdj_v (pd_callH h_rows_words hr (pdj_v (pd_var 0) pdj_nil)) (pdj_v pd_non pdj_nil))))) (pdss_one (pds_ret pd_bl)) pdss_nil)))
    (pdss_one (pds_ret (pd_callH h_law_same hr (pdj_v (pd_callH h_side_letters hr (pdj_v (pd_str [99, 120] (by decide +kernel)) pdj_nil)) (pdj_v (pd_tup (pda_cons (pd_str [46, 99] (by decide +kernel)) (pda_cons (pd_str [46, 120] (by decide +kernel)) (pda_cons (pd_str [99, 46] (by decide +kernel)) (pda_cons (pd_str [99, 99] (by decide +kernel)) (pda_cons (pd_str [99, 120] (by decide +kernel)) (pda_cons (pd_str [120, 46] (by decide +kernel)) (pda_cons (pd_str [120, 99] (by decide +kernel)) (pda_cons (pd_str [120, 120] (by decide +kernel)) pda_nil))))))))) pdj_nil))))))))
theorem td_law {P : Program} {w : World} {K : PySem.W.Frag} {mg : Str → Option Value} {base : Heap} (T : Facts K mg) (h_law_fount : Has P w K mg base 1 "_law_fount" ["script"] (spO K jok m_law_fount)) (h_law_by_hand : Has P w K mg base 3 "_law_by_hand" [] (spM K jok m_law_by_hand)) (h_law_letters : Has P w K mg base 2 "_law_letters" ["fount"] (spM K jok m_law_letters)) (h_law_pair : Has P w K mg base 3 "_law_pair" ["fount", "letters"] (spM K jok m_law_pair)) (h_law_row : Has P w K mg base 1 "_law_row" ["one", "other"] (spM K jok m_law_row)) (h_law_same : Has P w K mg base 2 "_law_same" ["one", "two"] (spM K jok m_law_same)) (h_law_bent : Has P w K mg base 2 "_law_bent" ["fount", "letters", "row"] (spM K jok m_law_bent)) (h_side_letters : Has P w K mg base 1 "side_letters" ["letters"] (spM K jok m_side_letters)) (h_law_side_letters : Has P w K mg base 1 "_law_side_letters" ["letters"] (spM K jok m_law_side_letters)) (h_side_row : Has P w K mg base 1 "side_row" ["one", "other"] (spM K jok m_side_row)) (h_rows_words : Has P w K mg base 1 "rows_words" ["row"] (spM K jok m_rows_words)) (h_law_words : Has P w K mg base 1 "_law_words" ["row"] (spM K jok m_law_words))
    (hl : ∀ as R, m_law as R → as.length = 1) (hm : ∀ as R, m_law as R → ds_law (endsM jok as R) (startS ["script", "fount", "lap", "letters", "one", "other", "row", "turn", "bent"] as)) : Has P w K mg base 4 "law" ["script"] (spM K jok m_law) := by
  refine fn_has (ok := jok) (ds := ds_law) T.d_law sc_law hl (fun f cdv A outer s H E H0 F0 J hr => ?_) hm
  exact (pdss_cons (pds_own 1 sc_law.nd (pdl_callO h_law_fount hr (pda_cons (pd_var 0) pda_nil)))
    (pdss_cons (pds_for PassesOwn.never rfl (pdi_rng1 (by rfl) T.b_range pd_int) (pdg_name 2 sc_law.nd) (pdss_cons (pds_set 3 sc_law.nd (pd_callH h_law_letters hr (pdj_j 1 pdj_nil)))
    (pdss_cons (pds_if (pdt_not (pdt_tru (pd_callH h_law_same hr (pdj_v (pd_callH h_side_letters hr (pdj_v (pd_var 3) pdj_nil)) (pdj_v (pd_callH h_law_side_letters hr (pdj_v (pd_var 3) pdj_nil)) pdj_nil))))) (pdss_one (pds_ret pd_bl)) pdss_nil)
    (pdss_cons (pds_asg (pd_callH h_law_pair hr (pdj_j 1 (pdj_v (pd_var 3) pdj_nil))) (pdg_tup rfl (pdgs_cons (pdg_name 4 sc_law.nd) (pdgs_cons (pdg_name 5 sc_law.nd) pdgs_nil))))
    (pdss_cons (pds_set 6 sc_law.nd (pd_callH h_law_row hr (pdj_v (pd_var 4) (pdj_v (pd_var 5) pdj_nil))))
    (pdss_cons (pds_if (pdw_pt (pdw_or (pdt_not (pdt_tru (pd_callH h_law_same hr (pdj_v (pd_callH h_side_row hr (pdj_v (pd_var 4) (pdj_v (pd_var 5) pdj_nil))) (pdj_v (pd_var 6) pdj_nil))))) (pdw_or1 (pdt_not (pdt_tru (pd_callH h_law_same hr (pdj_v (pd_callH h_rows_words hr (pdj_v (pd_var 6) pdj_nil)) (pdj_v (pd_tup (pda_cons (pd_var 4) (pda_cons (pd_var 5) pda_nil))) pdj_nil)))))))) (pdss_one (pds_ret pd_bl)) pdss_nil)
    (pdss_one (pds_for PassesOwn.never rfl (pdi_rng1 (by rfl) T.b_range pd_int) (pdg_name 7 sc_law.nd) (pdss_cons (pds_set 8 sc_law.nd (pd_callH h_law_bent hr (pdj_j 1 (pdj_v (pd_var 3) (pdj_v (pd_var 6) pdj_nil)))))
    (pdss_one (pds_if (pdt_not (pdt_tru (pd_callH h_law_same hr (pdj_v (pd_callKw T.d_rows_words h_rows_words kb_rows_words hr (pd_var 8)) (pdj_v (pd_callH h_law_words hr (pdj_v (pd_var 8) pdj_nil)) pdj_nil))))) (pdss_one (pds_ret pd_bl)) pdss_nil)))))))))))
    (pdss_one (pds_ret (pd_callH0 h_law_by_hand hr)))))
end K10
namespace K10
open PySem PySem.Spec L2 DL
local macro_rules | `(tactic| walk_at "vc") => `(tactic| simp (maxSteps := 600000) only [↓all_jok, ↓jok_is, ↓c_side_letters, ↓c_lside_letters, ↓c_side_row, ↓c_law_row, ↓c_rows_words, ↓c_law_words, ↓c_same0, ↓c_same, ↓c_fount, ↓c_sort, ↓c_letters, ↓c_word, ↓c_pair, ↓c_bent, ↓c_by_hand, ↓x_rev, ↓e_rev, ↓x_enT, ↓e_tup1, ↓x_zpT, ↓e_tup2, ↓e_all, ↓e_rstrip, ↓x_seq, ↓x_next, ↓x_brk, ↓x_cnt, ↓x_drop, ↓x_ret, ↓x_retN, ↓x_retL, ↓x_retO, ↓x_if, ↓x_asg, ↓x_par, ↓x_own, ↓x_gN, ↓x_gT, ↓x_gnil, ↓x_gcons, ↓x_var, ↓x_C, ↓x_nil, ↓x_cons, ↓x_tup, ↓x_lst, ↓x_llst, ↓x_llist, ↓x_lcat, ↓x_fz, ↓x_op, ↓x_tst, ↓x_tru, ↓x_chain, ↓x_and, ↓x_or, ↓x_not, ↓x_andV, ↓x_orV, ↓x_notV, ↓x_ifE, ↓x_neg, ↓x_ixM, ↓x_noP, ↓x_P, ↓x_sl, ↓x_cb, ↓x_isi, ↓x_noRo, ↓x_seti, ↓x_augi, ↓x_aug2, ↓x_aug, ↓x_app, ↓x_ext, ↓x_pop, ↓x_lenN, ↓x_truN, ↓x_open, ↓x_openW, ↓x_for, ↓x_lnil, ↓x_lcons, ↓x_iseq, ↓x_r1, ↓x_r2, ↓x_r3, ↓x_call, ↓x_jnil, ↓x_jv, ↓x_jj, ↓x_tnil, ↓x_tv, ↓x_tj, ↓x_jar, ↓x_callO, ↓x_m1, ↓x_join, ↓x_joinRev, ↓x_sortS, ↓x_lc, ↓x_lcnil, ↓x_lccons, ↓x_yes, ↓x_nx, ↓x_rt, ↓x_onx, ↓x_oro, ↓x_unp, ↓x_mt, ↓e_add_int, ↓e_add_str, ↓e_add_tup, ↓e_add_lst, ↓e_sub, ↓e_mod, ↓e_fdiv, ↓e_pow, ↓e_shl, ↓e_mul_int, ↓e_mul_str, ↓e_mul_lst, ↓e_lt_int, ↓e_lt_str, ↓e_le_int, ↓e_le_str, ↓e_gt_int, ↓e_gt_str, ↓e_ge_int, ↓e_ge_str, ↓e_eq_ii, ↓e_eq_ss, ↓e_eq_bb, ↓e_eq_is, ↓e_eq_si, ↓e_eq_ni, ↓e_eq_in, ↓e_eq_ns, ↓e_eq_sn, ↓e_eq_bs, ↓e_eq_sb, ↓e_ne_ii, ↓e_ne_ss, ↓e_ne_bb, ↓e_ne_is, ↓e_ne_si, ↓e_ne_ni, ↓e_ne_in, ↓e_ne_ns, ↓e_ne_sn, ↓e_ne_bs, ↓e_ne_sb, ↓e_is, ↓e_isnt, ↓e_inS, ↓e_ninS, ↓e_len_str, ↓e_len_tup, ↓e_len_lst, ↓e_len_ro, ↓e_int_i, ↓e_int_b, ↓e_int2, ↓e_abs, ↓e_tup_l, ↓e_tup_t, ↓e_lst_l, ↓e_lst_t, ↓e_lst_r, ↓e_str, ↓e_ix_str, ↓e_ix_tup, ↓e_ix_lst, ↓e_ix_ro, ↓e_sl_str, ↓e_sl_tup, ↓e_sl_lst, ↓e_sl_ro, ↓e_bl, ↓e_i, ↓e_s, ↓e_t, ↓e_l, ↓e_sx, ↓e_ll2, ↓e_two, ↓e_hd, ↓e_r2, ↓e_r3, ↓e_ixm, ↓e_tru_b, ↓e_tru_i, ↓e_tru_n, ↓e_tru_s, ↓e_tru_t, ↓e_tru_l, ↓e_it_l, ↓e_it_r, ↓e_it_t, ↓e_it_s, ↓e_ll_l, ↓e_ll_t, ↓e_ll_r, ↓e_join_l, ↓e_join_t, ↓e_joinRev, ↓e_sort, ↓e_index, ↓e_ati2, ↓e_ats2, ↓e_ati3, ↓e_ats3, ↓e_ati4, ↓e_ats4, ↓e_ati5, ↓e_ats5, ↓e_ati6, ↓e_ats6, ↓e_ati7, ↓e_ats7, ↓e_ati8, ↓e_ats8, ↓e_ati9, ↓e_ats9, ↓e_ati10, ↓e_ats10, ↓e_ati11, ↓e_ats11, ↓e_ati12, ↓e_ats12, ↓e_ati13, ↓e_ats13, ↓e_ati14, ↓e_ats14, ↓e_ati15, ↓e_ats15, ↓e_ati16, ↓e_ats16, ↓e_atI, ↓e_atS, ↓e_kit_NoneType_int, ↓e_kit_NoneType_str, ↓e_kit_NoneType_bool, ↓e_kit_NoneType_tuple, ↓e_kit_NoneType_list, ↓e_kit_bool_int, ↓e_kit_bool_str, ↓e_kit_bool_bool, ↓e_kit_bool_tuple, ↓e_kit_bool_list, ↓e_kit_int_int, ↓e_kit_int_str, ↓e_kit_int_bool, ↓e_kit_int_tuple, ↓e_kit_int_list, ↓e_kit_str_int, ↓e_kit_str_str, ↓e_kit_str_bool, ↓e_kit_str_tuple, ↓e_kit_str_list, ↓e_kit_tuple_int, ↓e_kit_tuple_str, ↓e_kit_tuple_bool, ↓e_kit_tuple_tuple, ↓e_kit_tuple_list, ↓e_kit_list_int, ↓e_kit_list_str, ↓e_kit_list_bool, ↓e_kit_list_tuple, ↓e_kit_list_list, ↓e_at0, ↓e_ixn0, ↓e_at1, ↓e_ixn1, ↓e_at2, ↓e_ixn2, ↓e_at3, ↓e_ixn3, ↓e_at4, ↓e_ixn4, ↓e_at5, ↓e_ixn5, ↓e_at6, ↓e_ixn6, ↓e_at7, ↓e_ixn7, ↓e_at8, ↓e_ixn8, ↓e_at9, ↓e_ixn9, ↓get0, ↓set0, ↓get1, ↓set1, ↓get2, ↓set2, ↓get3, ↓set3, ↓get4, ↓set4, ↓get5, ↓set5, ↓get6, ↓set6, ↓get7, ↓set7, ↓get8, ↓set8, ↓get9, ↓set9, ↓get10, ↓set10, ↓get11, ↓set11, ↓get12, ↓set12, ↓get13, ↓set13, ↓get14, ↓set14, ↓get15, ↓set15, ↓get16, ↓set16, ↓get17, ↓set17, ↓get18, ↓set18, ↓get19, ↓set19, ↓get20, ↓set20, ↓get21, ↓set21, ↓get22, ↓set22, ↓get23, ↓set23, ↓get24, ↓set24, ↓get25, ↓set25, ↓rg0, ↓rg1, ↓rg2, ↓rg3, ↓rg4, ↓rg5, ↓rg6, ↓rg7, ↓rg8, litS_cons, litS_set, S.pin, S.mt, isN, noRo, jarsOf, backJ, wipeS, backS, noMt, List.all_cons, List.all_nil, List.map_cons, List.map_nil, Bool.not_true, Bool.not_false, Bool.and_true, Bool.true_and, Bool.and_self, Bool.false_eq_true, Bool.not_eq_true, Bool.not_eq_true', Bool.not_not, Bool.not_eq_false, decide_eq_true_eq, decide_eq_false_iff_not, if_true, if_false, true_and, and_true, false_and, and_false, List.nodup_cons, List.not_mem_nil, List.nodup_nil, not_false_eq_true, not_true_eq_false, eq_self, reduceCtorEq, List.length_cons, List.length_nil, Nat.reduceAdd, Nat.reduceLeDiff, Int.reduceToNat, Int.reduceLE, Int.reduceNeg, implies_true, ite_self])
local macro_rules | `(tactic| walk_at "vs") => `(tactic| repeat' (first
  | assumption
  | exact trivial
  | exact cm_r (by decide) (by decide)
  | exact cm_l (by decide) (by decide)
  | exact cpow_of (by decide) (by decide) (by decide)
  | omega
  | (refine And.intro ?_ ?_)
  | (intro)
  | split))
theorem abc_at {v : Int} (h0 : 0 ≤ v) (h1 : v < 26) : atI [97, 98, 99, 100, 101, 102, 103, 104, 105, 106, 107, 108, 109, 110, 111, 112, 113, 114, 115, 116, 117, 118, 119, 120, 121, 122] v = some (97 + v.toNat) := by
  obtain ⟨k, rfl⟩ := Int.eq_ofNat_of_zero_le h0
  have : ∀ k : Fin 26, atI [97, 98, 99, 100, 101, 102, 103, 104, 105, 106, 107, 108, 109, 110, 111, 112, 113, 114, 115, 116, 117, 118, 119, 120, 121, 122] ((k.val : Nat) : Int) = some (97 + ((k.val : Nat) : Int).toNat) := by decide
  exact this ⟨k, by omega⟩
theorem four_at {v : Int} (h0 : 0 ≤ v) (h1 : v < 4) : ∃ s, atI [[97, 98], [97, 98, 99], [97, 98, 99, 100], [97, 122]] v = some s ∧ Ls s := by
  obtain ⟨k, rfl⟩ := Int.eq_ofNat_of_zero_le h0
  match k, h1 with
  | 0, _ => exact ⟨[97, 98], rfl, by decide, by decide, by decide⟩
  | 1, _ => exact ⟨[97, 98, 99], rfl, by decide, by decide, by decide⟩
  | 2, _ => exact ⟨[97, 98, 99, 100], rfl, by decide, by decide, by decide⟩
  | 3, _ => exact ⟨[97, 122], rfl, by decide, by decide, by decide⟩
  | k + 4, h => omega
theorem rgD_succ (i : Int) (j : Nat) : rgD i (j + 1) = .int i :: rgD (i + 1) j := by
  unfold rgD
  rw [List.range_succ_eq_map, List.map_cons, List.map_map]
  congr 1
  · congr 1; omega
  · refine List.map_congr_left fun k _ => ?_
    show D.int _ = D.int _
    congr 1
    rw [show ((Nat.succ k : Nat) : Int) = (k : Int) + 1 from rfl]
    omega
theorem rgD_int (lo : Int) (n : Nat) : ∀ y ∈ rgD lo n, ∃ i, y = D.int i := fun y hy => by
  unfold rgD at hy
  obtain ⟨i, _, rfl⟩ := List.mem_map.mp hy
  exact ⟨_, rfl⟩
theorem rgD_len (lo : Int) (n : Nat) : (rgD lo n).length = n := by
  unfold rgD
  rw [List.length_map, List.length_range]
theorem joinE : ∀ ls : List (List Nat), TL.joinL [] ls = ls.flatten
  | [] => rfl
  | [p] => (List.append_nil p).symm
  | p :: q :: r => by
    show p ++ ([] ++ TL.joinL [] (q :: r)) = _
    rw [joinE (q :: r)]; rfl
theorem strs1 (acc : List Nat) : strsOf (acc.map fun c => D.str [c]) = some (acc.map fun c => [c]) := by
  have := strsOf_map (acc.map fun c => [c])
  rwa [List.map_map] at this
theorem flat1 (acc : List Nat) : (acc.map fun c => [c]).flatten = acc := by
  induction acc with
  | nil => rfl
  | cons c r ih => rw [List.map_cons, List.flatten_cons, ih]; rfl
theorem sum1 (acc : List Nat) : ((acc.map fun c => [c]).map fun x => x.length).sum = acc.length := by
  induction acc with
  | nil => rfl
  | cons c r ih => rw [List.map_cons, List.map_cons, List.sum_cons, ih, List.length_cons, List.length_cons, List.length_nil]; omega
theorem over_add {s w : List Nat} {c : Nat} (h : Over s w) (hc : c ∈ s) : Over s (w ++ [c]) := fun x hx => by
  rcases List.mem_append.mp hx with hx | hx
  · exact h x hx
  · rw [List.mem_singleton.mp hx]; exact hc
theorem mm_law_sort : ∀ as R, m_law_sort as R → ds_law_sort (endsM jok as R) (startS ["fount", "many", "told"] as) := by
  intro as R h
  unfold m_law_sort at h
  split at h
  · show ds_law_sort _ [.jar, .d (.int _), .un]
    unfold ds_law_sort
    walk_at "vc"
    obtain ⟨h0, h1, h⟩ := h
    have go : ∀ a : Int, R (D.int (a % _)) := fun a => h _ (Int.emod_nonneg a (by omega)) (Int.emod_lt_of_pos a h0)
    have cd := fun a : Int => cdiv_of (i := a) h0 h1
    intro a b c hc
    refine ⟨by decide, ?_⟩
    split
    · exact ⟨h0, cd _, Int.ediv_nonneg hc (by omega), go _⟩
    · exact ⟨cm_r (by decide) (by decide), cm_r (by decide) (by decide), by decide, cdiv_of (by decide) (by decide), h0, hc, go _⟩
  · exact h.elim
theorem mm_law_fount : ∀ as R, m_law_fount as R → ds_law_fount (endsO jok as R) (startS ["script", "fount", "cell"] as) := by
  intro as R h
  unfold m_law_fount at h
  split at h
  · show ds_law_fount _ [.d (.ro _), .un, .un]
    unfold ds_law_fount
    walk_at "vc"
    refine dLoop_inv (fun xs ρ => (∃ ns : List Int, xs = ns.map .int) ∧ ∃ (a b c : Int) (x : S), ρ = [.d (.ro _), .own [.int a, .int b, .int c], x] ∧ x.pin = false ∧ 0 ≤ a) ⟨⟨_, rfl⟩, 0, 131, 5, .un, rfl, rfl, by decide⟩ (fun ρ hP => ?_) (fun x r ρ hP N hN => ?_)
    · obtain ⟨_, a, b, c, x, rfl, hx, ha⟩ := hP
      walk_at "vc"
      exact h _ ⟨a, b, c, rfl, ha⟩
    · obtain ⟨⟨ns, e⟩, a, b, c, y, rfl, hy, ha⟩ := hP
      cases ns with
      | nil => cases e
      | cons n ns =>
        rw [List.map_cons] at e
        cases e
        have hN := fun a b c ha => hN [.d (.ro _), .own [.int a, .int b, .int c], .d (.int n)] ⟨⟨ns, rfl⟩, a, b, c, _, rfl, rfl, ha⟩
        walk_at "vc"
        refine ⟨hy, by decide, cm_r (by decide) (by decide), cm_r (by decide) (by decide), by decide, ?_⟩
        split
        · split
          · exact ⟨cpow_of (by decide) (by decide) (by decide), by decide, hN _ _ _ (Int.emod_nonneg _ (by decide))⟩
          · exact hN _ _ _ ha
        · exact hN _ _ _ ha
  · exact h.elim
theorem mm_law_letters : ∀ as R, m_law_letters as R → ds_law_letters (endsM jok as R) (startS ["fount", "kind", "every", "told", "turn"] as) := by
  intro as R h
  unfold m_law_letters at h
  split at h
  · show ds_law_letters _ [.jar, .un, .un, .un, .un]
    unfold ds_law_letters
    walk_at "vc"
    refine ⟨by decide, by decide, fun v v0 v1 => ?_⟩
    split
    · refine ⟨by decide, by decide, fun u u0 u1 => ?_⟩
      obtain ⟨s, e, hs⟩ := four_at u0 u1
      exact ⟨s, e, h s hs⟩
    · refine ⟨by decide, by decide, fun u u0 u1 => ⟨by omega, by omega, ?_⟩⟩
      refine dLoop_inv (fun xs ρ => ∃ (j m : Nat) (w : List Nat) (x : S), xs = rgD j m ∧ ρ = [.jar, .d (.int v), .d (.str _), .d (.str w), x] ∧ x.pin = false ∧ j + m ≤ 4 ∧ 2 ≤ w.length + m ∧ w.length = j ∧ ∀ c ∈ w, 97 ≤ c ∧ c ≤ 122) ⟨0, (2 + u).toNat, [], .un, rfl, rfl, rfl, by omega, by rw [List.length_nil]; omega, rfl, fun c hc => by cases hc⟩ (fun ρ hP => ?_) (fun y r ρ hP N hN => ?_)
      · obtain ⟨j, m, w, x, e, rfl, hx, h1, h2, h3, h4⟩ := hP
        have hm : m = 0 := by
          have := congrArg List.length e
          unfold rgD at this
          rw [List.length_map, List.length_range] at this
          exact this.symm
        walk_at "vc"
        exact h w ⟨by omega, by omega, h4⟩
      · obtain ⟨j, m, w, x, e, rfl, hx, h1, h2, h3, h4⟩ := hP
        cases m with
        | zero => cases e
        | succ m =>
          rw [rgD_succ] at e
          cases e
          have hN := fun c (hc : 97 ≤ c ∧ c ≤ 122) => hN [.jar, .d (.int v), .d (.str [97, 98, 99, 100, 101, 102, 103, 104, 105, 106, 107, 108, 109, 110, 111, 112, 113, 114, 115, 116, 117, 118, 119, 120, 121, 122]), .d (.str (w ++ [c])), .d (.int j)] ⟨j + 1, m, w ++ [c], _, rfl, rfl, rfl, by omega, by rw [List.length_append, List.length_singleton]; omega, by rw [List.length_append, List.length_singleton]; omega, fun d hd => by
            rcases List.mem_append.mp hd with hd | hd
            · exact h4 d hd
            · rw [List.mem_singleton.mp hd]; exact hc⟩
          walk_at "vc"
          refine ⟨hx, cm_l (by decide) (by decide), by decide, by decide, fun k k0 k1 => ⟨_, abc_at (v := 6 * (j : Int) + k) (by omega) (by omega), by omega, ?_⟩⟩
          exact hN _ (by omega)
  · exact h.elim
theorem mm_law_word : ∀ as R, m_law_word as R → ds_law_word (endsM jok as R) (startS ["fount", "letters", "length", "turn"] as) := by
  intro as R h
  unfold m_law_word at h
  split at h
  · rename_i s n
    show ds_law_word _ [.jar, .d (.str _), .d (.int _), .un]
    unfold ds_law_word
    walk_at "vc"
    obtain ⟨h1, h2, h3, h⟩ := h
    refine ⟨by omega, by omega, ?_⟩
    refine lcR_inv (fun xs acc => ∃ w : List Nat, acc = (w.map fun c => .str [c]) ∧ Over s w ∧ ((w.length + xs.length : Nat) : Int) = n ∧ ∀ x ∈ xs, ∃ i, x = D.int i) ⟨[], rfl, (fun c hc => by cases hc), by rw [List.length_nil, rgD_len]; omega, rgD_int _ _⟩ (fun acc hP => ?_) (fun x r acc hP N hN => ?_)
    · obtain ⟨w, rfl, ho, hl, _⟩ := hP
      walk_at "vc"
      rw [List.length_nil] at hl
      refine ⟨_, strs1 w, by rw [sum1]; omega, ?_⟩
      rw [joinE, flat1]
      exact h w ho hl
    · obtain ⟨w, rfl, ho, hl, hx⟩ := hP
      obtain ⟨i, rfl⟩ := hx _ (List.mem_cons_self ..)
      rw [List.length_cons] at hl
      have h1l := h1.2.1
      have h1p := h1.1
      have hN := fun c hc => hN ((w.map fun c => D.str [c]) ++ [.str [c]]) ⟨w ++ [c], (by rw [List.map_append]; rfl), over_add ho hc, by rw [List.length_append, List.length_singleton]; omega, fun x h => hx x (List.mem_cons_of_mem _ h)⟩
      rw [List.length_map]
      walk_at "vc"
      refine ⟨by omega, by omega, by omega, by omega, fun v v0 v1 => ⟨by omega, _, atI_in v0 v1, ?_⟩⟩
      exact hN _ (List.getElem_mem _)
  · exact h.elim
end K10
namespace K10
open PySem PySem.Spec L2 DL
local macro_rules | `(tactic| walk_at "vc") => `(tactic| simp (maxSteps := 600000) only [↓all_jok, ↓jok_is, ↓c_side_letters, ↓c_lside_letters, ↓c_side_row, ↓c_law_row, ↓c_rows_words, ↓c_law_words, ↓c_same0, ↓c_same, ↓c_fount, ↓c_sort, ↓c_letters, ↓c_word, ↓c_pair, ↓c_bent, ↓c_by_hand, ↓x_rev, ↓e_rev, ↓x_enT, ↓e_tup1, ↓x_zpT, ↓e_tup2, ↓e_all, ↓e_rstrip, ↓x_seq, ↓x_next, ↓x_brk, ↓x_cnt, ↓x_drop, ↓x_ret, ↓x_retN, ↓x_retL, ↓x_retO, ↓x_if, ↓x_asg, ↓x_par, ↓x_own, ↓x_gN, ↓x_gT, ↓x_gnil, ↓x_gcons, ↓x_var, ↓x_C, ↓x_nil, ↓x_cons, ↓x_tup, ↓x_lst, ↓x_llst, ↓x_llist, ↓x_lcat, ↓x_fz, ↓x_op, ↓x_tst, ↓x_tru, ↓x_chain, ↓x_and, ↓x_or, ↓x_not, ↓x_andV, ↓x_orV, ↓x_notV, ↓x_ifE, ↓x_neg, ↓x_ixM, ↓x_noP, ↓x_P, ↓x_sl, ↓x_cb, ↓x_isi, ↓x_noRo, ↓x_seti, ↓x_augi, ↓x_aug2, ↓x_aug, ↓x_app, ↓x_ext, ↓x_pop, ↓x_lenN, ↓x_truN, ↓x_open, ↓x_openW, ↓x_for, ↓x_lnil, ↓x_lcons, ↓x_iseq, ↓x_r1, ↓x_r2, ↓x_r3, ↓x_call, ↓x_jnil, ↓x_jv, ↓x_jj, ↓x_tnil, ↓x_tv, ↓x_tj, ↓x_jar, ↓x_callO, ↓x_m1, ↓x_join, ↓x_joinRev, ↓x_sortS, ↓x_lc, ↓x_lcnil, ↓x_lccons, ↓x_yes, ↓x_nx, ↓x_rt, ↓x_onx, ↓x_oro, ↓x_unp, ↓x_mt, ↓e_add_int, ↓e_add_str, ↓e_add_tup, ↓e_add_lst, ↓e_sub, ↓e_mod, ↓e_fdiv, ↓e_pow, ↓e_shl, ↓e_mul_int, ↓e_mul_str, ↓e_mul_lst, ↓e_lt_int, ↓e_lt_str, ↓e_le_int, ↓e_le_str, ↓e_gt_int, ↓e_gt_str, ↓e_ge_int, ↓e_ge_str, ↓e_eq_ii, ↓e_eq_ss, ↓e_eq_bb, ↓e_eq_is, ↓e_eq_si, ↓e_eq_ni, ↓e_eq_in, ↓e_eq_ns, ↓e_eq_sn, ↓e_eq_bs, ↓e_eq_sb, ↓e_ne_ii, ↓e_ne_ss, ↓e_ne_bb, ↓e_ne_is, ↓e_ne_si, ↓e_ne_ni, ↓e_ne_in, ↓e_ne_ns, ↓e_ne_sn, ↓e_ne_bs, ↓e_ne_sb, ↓e_is, ↓e_isnt, ↓e_inS, ↓e_ninS, ↓e_len_str, ↓e_len_tup, ↓e_len_lst, ↓e_len_ro, ↓e_int_i, ↓e_int_b, ↓e_int2, ↓e_abs, ↓e_tup_l, ↓e_tup_t, ↓e_lst_l, ↓e_lst_t, ↓e_lst_r, ↓e_str, ↓e_ix_str, ↓e_ix_tup, ↓e_ix_lst, ↓e_ix_ro, ↓e_sl_str, ↓e_sl_tup, ↓e_sl_lst, ↓e_sl_ro, ↓e_bl, ↓e_i, ↓e_s, ↓e_t, ↓e_l, ↓e_sx, ↓e_ll2, ↓e_two, ↓e_hd, ↓e_r2, ↓e_r3, ↓e_ixm, ↓e_tru_b, ↓e_tru_i, ↓e_tru_n, ↓e_tru_s, ↓e_tru_t, ↓e_tru_l, ↓e_it_l, ↓e_it_r, ↓e_it_t, ↓e_it_s, ↓e_ll_l, ↓e_ll_t, ↓e_ll_r, ↓e_join_l, ↓e_join_t, ↓e_joinRev, ↓e_sort, ↓e_index, ↓e_ati2, ↓e_ats2, ↓e_ati3, ↓e_ats3, ↓e_ati4, ↓e_ats4, ↓e_ati5, ↓e_ats5, ↓e_ati6, ↓e_ats6, ↓e_ati7, ↓e_ats7, ↓e_ati8, ↓e_ats8, ↓e_ati9, ↓e_ats9, ↓e_ati10, ↓e_ats10, ↓e_ati11, ↓e_ats11, ↓e_ati12, ↓e_ats12, ↓e_ati13, ↓e_ats13, ↓e_ati14, ↓e_ats14, ↓e_ati15, ↓e_ats15, ↓e_ati16, ↓e_ats16, ↓e_atI, ↓e_atS, ↓e_kit_NoneType_int, ↓e_kit_NoneType_str, ↓e_kit_NoneType_bool, ↓e_kit_NoneType_tuple, ↓e_kit_NoneType_list, ↓e_kit_bool_int, ↓e_kit_bool_str, ↓e_kit_bool_bool, ↓e_kit_bool_tuple, ↓e_kit_bool_list, ↓e_kit_int_int, ↓e_kit_int_str, ↓e_kit_int_bool, ↓e_kit_int_tuple, ↓e_kit_int_list, ↓e_kit_str_int, ↓e_kit_str_str, ↓e_kit_str_bool, ↓e_kit_str_tuple, ↓e_kit_str_list, ↓e_kit_tuple_int, ↓e_kit_tuple_str, ↓e_kit_tuple_bool, ↓e_kit_tuple_tuple, ↓e_kit_tuple_list, ↓e_kit_list_int, ↓e_kit_list_str, ↓e_kit_list_bool, ↓e_kit_list_tuple, ↓e_kit_list_list, ↓e_at0, ↓e_ixn0, ↓e_at1, ↓e_ixn1, ↓e_at2, ↓e_ixn2, ↓e_at3, ↓e_ixn3, ↓e_at4, ↓e_ixn4, ↓e_at5, ↓e_ixn5, ↓e_at6, ↓e_ixn6, ↓e_at7, ↓e_ixn7, ↓e_at8, ↓e_ixn8, ↓e_at9, ↓e_ixn9, ↓get0, ↓set0, ↓get1, ↓set1, ↓get2, ↓set2, ↓get3, ↓set3, ↓get4, ↓set4, ↓get5, ↓set5, ↓get6, ↓set6, ↓get7, ↓set7, ↓get8, ↓set8, ↓get9, ↓set9, ↓get10, ↓set10, ↓get11, ↓set11, ↓get12, ↓set12, ↓get13, ↓set13, ↓get14, ↓set14, ↓get15, ↓set15, ↓get16, ↓set16, ↓get17, ↓set17, ↓get18, ↓set18, ↓get19, ↓set19, ↓get20, ↓set20, ↓get21, ↓set21, ↓get22, ↓set22, ↓get23, ↓set23, ↓get24, ↓set24, ↓get25, ↓set25, ↓rg0, ↓rg1, ↓rg2, ↓rg3, ↓rg4, ↓rg5, ↓rg6, ↓rg7, ↓rg8, litS_cons, litS_set, S.pin, S.mt, isN, noRo, jarsOf, backJ, wipeS, backS, noMt, List.all_cons, List.all_nil, List.map_cons, List.map_nil, Bool.not_true, Bool.not_false, Bool.and_true, Bool.true_and, Bool.and_self, Bool.false_eq_true, Bool.not_eq_true, Bool.not_eq_true', Bool.not_not, Bool.not_eq_false, decide_eq_true_eq, decide_eq_false_iff_not, if_true, if_false, true_and, and_true, false_and, and_false, List.nodup_cons, List.not_mem_nil, List.nodup_nil, not_false_eq_true, not_true_eq_false, eq_self, reduceCtorEq, List.length_cons, List.length_nil, Nat.reduceAdd, Nat.reduceLeDiff, Int.reduceToNat, Int.reduceLE, Int.reduceNeg, implies_true, ite_self])
local macro_rules | `(tactic| walk_at "vs") => `(tactic| repeat' (first
  | assumption
  | exact trivial
  | exact cm_r (by decide) (by decide)
  | exact cm_l (by decide) (by decide)
  | exact cpow_of (by decide) (by decide) (by decide)
  | omega
  | (refine And.intro ?_ ?_)
  | (intro)
  | split))
def isD (p : Nat × Nat) : Bool := !(p.1 == 46 && p.2 == 46)
def rowsOf (g : List Nat) (u : List Nat) : List (Nat × Nat) := (u.map fun c => (g.map fun d => (c, d)).filter isD).flatten
theorem rowsOf_all {s : List Nat} (hs : Ls s) : rowsOf (46 :: s) (46 :: s) = sideL s := by
  have e1 : ∀ c : Nat, c ≠ 46 → (((46 :: s).map fun d => (c, d)).filter isD) = (c, 46) :: s.map fun d => (c, d) := fun c hc => by
    rw [List.filter_eq_self.mpr]
    · rfl
    · intro p hp
      obtain ⟨d, _, rfl⟩ := List.mem_map.mp hp
      simp [isD, hc]
  have e2 : (((46 :: s).map fun d => (46, d)).filter isD) = s.map fun d => (46, d) := by
    rw [List.map_cons, List.filter_cons_of_neg (by decide), List.filter_eq_self.mpr]
    intro p hp
    obtain ⟨d, hd, rfl⟩ := List.mem_map.mp hp
    have := (hs.2.2 d hd).1
    simp [isD]; omega
  unfold rowsOf sideL
  rw [List.map_cons, List.flatten_cons, e2]
  congr 2
  exact List.map_congr_left fun c hc => e1 c (by have := (hs.2.2 c hc).1; omega)
theorem sideL_len {s : List Nat} (hs : Ls s) : (sideL s).length ≤ 24 := by
  have e : (sideL s).length = s.length + s.length * (s.length + 1) := by
    unfold sideL
    rw [List.length_append, List.length_map, List.length_flatten, List.map_map]
    have : (List.length ∘ fun c => (c, 46) :: s.map fun d => (c, d)) = fun _ : Nat => s.length + 1 := by
      funext c; simp
    rw [this, List.map_const', List.sum_replicate_nat]
  rw [e]
  have := hs.2.1
  have h2 : s.length * (s.length + 1) ≤ 4 * 5 := Nat.mul_le_mul (by omega) (by omega)
  omega
theorem sl_inner {s0 s1 : D} {c : Nat} {E : DEn} {body : DS} (hb : body = (dIf (dTst (dOp neR (dOp addR (dVar 3) (dVar 4)) (dC (.str [46, 46])))) (dApp jok 2 (dOp addR (dVar 3) (dVar 4))) dNext)) :
    ∀ (w : List Nat) (acc : List (Nat × Nat)) (x : S), x.pin = false → acc.length + w.length ≤ 1000 → (∀ x : S, x.pin = false → E.nx [.d s0, .d s1, .own ((acc ++ (w.map fun d => (c, d)).filter isD).map pr), .d (.str [c]), x]) →
    dLoop (dgN 4) body E (w.map fun c => D.str [c]) [.d s0, .d s1, .own (acc.map pr), .d (.str [c]), x]
  | [], acc, x, hx, hl, h => by
    have := h x hx
    rw [List.map_nil, List.filter_nil, List.append_nil] at this
    exact this
  | d :: w, acc, x, hx, hl, h => by
    rw [List.length_cons] at hl
    have ih := fun a : List (Nat × Nat) => sl_inner (s0 := s0) (s1 := s1) (c := c) (E := E) hb w a (.d (.str [d])) rfl
    rw [List.map_cons]
    have e : ([c] ++ [d] = [46, 46]) ↔ isD (c, d) = false := by simp [isD]
    by_cases hd : isD (c, d) = true
    · rw [List.map_cons, List.filter_cons_of_pos hd] at h
      have ih := ih (acc ++ [(c, d)]) (by rw [List.length_append, List.length_singleton]; omega) (fun x hx => by
        have := h x hx
        rw [List.append_assoc]; exact this)
      rw [List.map_append] at ih
      subst hb
      walk_at "vc"
      refine ⟨hx, ?_⟩
      rw [if_pos (by rw [e, hd]; decide)]
      exact ⟨by rw [List.length_map]; omega, ih⟩
    · have hd : isD (c, d) = false := by simpa using hd
      rw [List.map_cons, List.filter_cons_of_neg (by rw [hd]; decide)] at h
      have ih := ih acc (by omega) h
      subst hb
      walk_at "vc"
      refine ⟨hx, ?_⟩
      rw [if_neg (by rw [e, hd]; decide)]
      exact ih
theorem mm_side_letters : ∀ as R, m_side_letters as R → ds_side_letters (endsM jok as R) (startS ["letters", "signs", "pairs", "one", "other"] as) := by
  intro as R h
  unfold m_side_letters at h
  split at h
  · rename_i s
    show ds_side_letters _ [.d (.str _), .un, .un, .un, .un]
    unfold ds_side_letters
    obtain ⟨hs, h⟩ := h
    have hl := hs.2.1
    have hL := sideL_len hs
    walk_at "vc"
    refine ⟨by omega, ?_⟩
    refine dLoop_inv (fun xs ρ => ∃ (u : List Nat) (acc : List (Nat × Nat)) (x y : S), xs = (u.map fun c => .str [c]) ∧ ρ = [.d (.str s), .d (.str ([46] ++ s)), .own (acc.map pr), x, y] ∧ x.pin = false ∧ y.pin = false ∧ acc ++ rowsOf (46 :: s) u = sideL s) ⟨_, [], .un, .un, rfl, rfl, rfl, rfl, rowsOf_all hs⟩ (fun ρ hP => ?_) (fun z r ρ hP N hN => ?_)
    · obtain ⟨u, acc, x, y, e, rfl, hx, hy, e2⟩ := hP
      have hu : u = [] := by
        cases u with
        | nil => rfl
        | cons c u => cases e
      subst hu
      have e3 : acc = sideL s := by rw [← e2]; exact (List.append_nil _).symm
      subst e3
      walk_at "vc"
      exact h
    · obtain ⟨u, acc, x, y, e, rfl, hx, hy, e2⟩ := hP
      cases u with
      | nil => cases e
      | cons c u =>
        rw [List.map_cons] at e
        cases e
        have ha : acc.length ≤ 24 := by
          have := congrArg List.length e2
          rw [List.length_append] at this
          omega
        walk_at "vc"
        refine ⟨hx, ?_⟩
        refine sl_inner rfl _ acc y hy (by rw [List.length_append, List.length_singleton]; omega) fun y hy => ?_
        refine hN _ ⟨u, _, _, y, rfl, rfl, rfl, hy, ?_⟩
        rw [← e2, List.append_assoc]
        rfl
  · exact h.elim
theorem mm_law_side_letters : ∀ as R, m_law_side_letters as R → ds_law_side_letters (endsM jok as R) (startS ["letters", "told", "letter", "other"] as) := by
  intro as R h
  unfold m_law_side_letters at h
  split at h
  · rename_i s
    show ds_law_side_letters _ [.d (.str _), .un, .un, .un]
    unfold ds_law_side_letters
    obtain ⟨hs, h⟩ := h
    have hl := hs.2.1
    have hL := sideL_len hs
    walk_at "vc"
    refine lcR_inv (fun xs acc => ∃ (u : List Nat) (b : List (Nat × Nat)), xs = (u.map fun c => .str [c]) ∧ acc = b.map pr ∧ b ++ (u.map fun c => (46, c)) = s.map fun c => (46, c)) ⟨s, [], rfl, rfl, rfl⟩ (fun acc hP => ?_) (fun x r acc hP N hN => ?_)
    · obtain ⟨u, b, e, rfl, e2⟩ := hP
      have hu : u = [] := by
        cases u with
        | nil => rfl
        | cons c u => cases e
      subst hu
      rw [List.map_nil, List.append_nil] at e2
      subst e2
      walk_at "vc"
      refine dLoop_inv (fun xs ρ => ∃ (u : List Nat) (acc : List (Nat × Nat)) (x : S), xs = (u.map fun c => .str [c]) ∧ ρ = [.d (.str s), .own (acc.map pr), x, .un] ∧ x.pin = false ∧ acc ++ (u.map fun c => (c, 46) :: s.map fun d => (c, d)).flatten = sideL s) ⟨s, (s.map fun c => (46, c)), .un, rfl, rfl, rfl, rfl⟩ (fun ρ hP => ?_) (fun z r ρ hP N hN => ?_)
      · obtain ⟨u, acc, x, e, rfl, hx, e2⟩ := hP
        have hu : u = [] := by
          cases u with
          | nil => rfl
          | cons c u => cases e
        subst hu
        have e3 : acc = sideL s := by rw [← e2]; exact (List.append_nil _).symm
        subst e3
        walk_at "vc"
        exact h
      · obtain ⟨u, acc, x, e, rfl, hx, e2⟩ := hP
        cases u with
        | nil => cases e
        | cons c u =>
          rw [List.map_cons] at e
          cases e
          have ha : acc.length ≤ 24 := by
            have := congrArg List.length e2
            rw [List.length_append] at this
            omega
          walk_at "vc"
          refine ⟨hx, by rw [List.length_map]; omega, ?_⟩
          refine lcR_inv (fun xs b => ∃ (w v : List Nat), xs = (w.map fun c => .str [c]) ∧ b = (v.map fun d => (c, d)).map pr ∧ v ++ w = s) ⟨s, [], rfl, rfl, rfl⟩ (fun b hb => ?_) (fun y q b hb M hM => ?_)
          · obtain ⟨w, v, e, rfl, e4⟩ := hb
            have hw : w = [] := by
              cases w with
              | nil => rfl
              | cons c w => cases e
            subst hw
            rw [List.append_nil] at e4
            subst e4
            walk_at "vc"
            refine ⟨by rw [List.length_append, List.length_map, List.length_map, List.length_map, List.length_singleton]; omega, ?_⟩
            refine hN _ ⟨u, acc ++ (c, 46) :: v.map fun d => (c, d), .d (.str [c]), rfl, ?_, rfl, ?_⟩
            · rw [List.map_append, List.append_assoc]; rfl
            · rw [← e2, List.append_assoc]; rfl
          · obtain ⟨w, v, e, rfl, e4⟩ := hb
            cases w with
            | nil => cases e
            | cons d w =>
              rw [List.map_cons] at e
              cases e
              have hM := hM ((v.map fun d => (c, d)).map pr ++ [.str [c, d]]) ⟨w, v ++ [d], rfl, by rw [List.map_append, List.map_append]; rfl, by rw [← e4, List.append_assoc]; rfl⟩
              have hv : v.length ≤ 4 := by
                have := congrArg List.length e4
                rw [List.length_append] at this
                omega
              walk_at "vc"
              exact ⟨by rw [List.length_map, List.length_map]; omega, hM⟩
    · obtain ⟨u, b, e, rfl, e2⟩ := hP
      cases u with
      | nil => cases e
      | cons c u =>
        rw [List.map_cons] at e
        cases e
        have hb : b.length ≤ 4 := by
          have := congrArg List.length e2
          rw [List.length_append, List.length_map, List.length_map] at this
          omega
        have hN := hN (b.map pr ++ [.str [46, c]]) ⟨u, b ++ [(46, c)], rfl, by rw [List.map_append]; rfl, by rw [← e2, List.append_assoc]; rfl⟩
        walk_at "vc"
        refine ⟨by rw [List.length_map]; omega, ?_⟩
        exact hN
  · exact h.elim
theorem at_or (a : List Nat) (j : Nat) : (((j : Nat) : Int) < (a.length : Int) ∧ atI a ((j : Nat) : Int) = some (a.getD j 46)) ∨ (¬ ((j : Nat) : Int) < (a.length : Int) ∧ a.getD j 46 = 46) := by
  by_cases h : j < a.length
  · refine Or.inl ⟨by omega, ?_⟩
    rw [atI_in (by omega) (by omega), List.getD_eq_getElem?_getD, List.getElem?_eq_getElem h]
    rfl
  · refine Or.inr ⟨by omega, ?_⟩
    rw [List.getD_eq_getElem?_getD, List.getElem?_eq_none (by omega)]
    rfl
def rowF (a b : List Nat) (i : Nat) : Nat × Nat := (a.getD i 46, b.getD i 46)
theorem rowF_succ (a b : List Nat) (j : Nat) : ((List.range (j + 1)).map (rowF a b)).map pr = ((List.range j).map (rowF a b)).map pr ++ [.str [a.getD j 46, b.getD j 46]] := by
  rw [List.range_succ, List.map_append, List.map_append]
  rfl
theorem rgD_nil {j m : Nat} (e : [] = rgD j m) : m = 0 := by
  have := congrArg List.length e
  rw [rgD_len] at this
  exact this.symm
theorem mm_side_row : ∀ as R, m_side_row as R → ds_side_row (endsM jok as R) (startS ["one", "other", "row", "at", "upper", "lower"] as) := by
  intro as R h
  unfold m_side_row at h
  split at h
  · rename_i a b
    show ds_side_row _ [.d (.str _), .d (.str _), .un, .un, .un, .un]
    unfold ds_side_row
    obtain ⟨ha, hb, h⟩ := h
    walk_at "vc"
    refine ⟨by omega, by omega, by omega, by omega, ?_⟩
    have em : (max (a.length : Int) (b.length : Int)).toNat = max a.length b.length := by omega
    rw [em]
    refine dLoop_inv (fun xs ρ => ∃ (j m : Nat) (x y z : S), xs = rgD j m ∧ ρ = [.d (.str a), .d (.str b), .own (((List.range j).map (rowF a b)).map pr), x, y, z] ∧ x.pin = false ∧ y.pin = false ∧ z.pin = false ∧ j + m = max a.length b.length) ⟨0, _, .un, .un, .un, rfl, rfl, rfl, rfl, rfl, Nat.zero_add _⟩ (fun ρ hP => ?_) (fun u r ρ hP N hN => ?_)
    · obtain ⟨j, m, x, y, z, e, rfl, hx, hy, hz, e2⟩ := hP
      have hm := rgD_nil e
      subst hm
      have ej : j = max a.length b.length := e2
      subst ej
      walk_at "vc"
      exact h
    · obtain ⟨j, m, x, y, z, e, rfl, hx, hy, hz, e2⟩ := hP
      cases m with
      | zero => cases e
      | succ m =>
        rw [rgD_succ] at e
        cases e
        have hN := hN [.d (.str a), .d (.str b), .own (((List.range j).map (rowF a b)).map pr ++ [.str [a.getD j 46, b.getD j 46]]), .d (.int j), .d (.str [a.getD j 46]), .d (.str [b.getD j 46])] ⟨j + 1, m, _, _, _, rfl, by rw [rowF_succ], rfl, rfl, rfl, by omega⟩
        have hlen : (((List.range j).map (rowF a b)).map pr).length < 16777216 := by
          rw [List.length_map, List.length_map, List.length_range]; omega
        walk_at "vc"
        rcases at_or a j with ⟨a1, a2⟩ | ⟨a1, a2⟩ <;> rcases at_or b j with ⟨b1, b2⟩ | ⟨b1, b2⟩
        all_goals
          (try simp only [a2, b2] at hN)
          simp only [a1, a2, b1, b2, if_true, if_false, Option.some.injEq, exists_eq_left']
          repeat' (first | exact hx | exact hy | exact hz | exact hlen | exact hN | omega | refine And.intro ?_ ?_)
  · exact h.elim
theorem mm_law_row : ∀ as R, m_law_row as R → ds_law_row (endsM jok as R) (startS ["one", "other", "told", "at"] as) := by
  intro as R h
  unfold m_law_row at h
  split at h
  · rename_i a b
    show ds_law_row _ [.d (.str _), .d (.str _), .un, .un]
    unfold ds_law_row
    obtain ⟨ha, hb, h⟩ := h
    walk_at "vc"
    refine ⟨by omega, by omega, by omega, by omega, ?_⟩
    have em : (max (a.length : Int) (b.length : Int)).toNat = max a.length b.length := by omega
    rw [em]
    refine dLoop_inv (fun xs ρ => ∃ (j m : Nat) (x : S), xs = rgD j m ∧ ρ = [.d (.str a), .d (.str b), .own (((List.range j).map (rowF a b)).map pr), x] ∧ x.pin = false ∧ j + m = max a.length b.length) ⟨0, _, .un, rfl, rfl, rfl, Nat.zero_add _⟩ (fun ρ hP => ?_) (fun u r ρ hP N hN => ?_)
    · obtain ⟨j, m, x, e, rfl, hx, e2⟩ := hP
      have hm := rgD_nil e
      subst hm
      have ej : j = max a.length b.length := e2
      subst ej
      walk_at "vc"
      exact h
    · obtain ⟨j, m, x, e, rfl, hx, e2⟩ := hP
      cases m with
      | zero => cases e
      | succ m =>
        rw [rgD_succ] at e
        cases e
        have hN := hN [.d (.str a), .d (.str b), .own (((List.range j).map (rowF a b)).map pr ++ [.str [a.getD j 46, b.getD j 46]]), .d (.int j)] ⟨j + 1, m, _, rfl, by rw [rowF_succ], rfl, by omega⟩
        have hlen : (((List.range j).map (rowF a b)).map pr).length < 16777216 := by
          rw [List.length_map, List.length_map, List.length_range]; omega
        walk_at "vc"
        rcases at_or a j with ⟨a1, a2⟩ | ⟨a1, a2⟩ <;> rcases at_or b j with ⟨b1, b2⟩ | ⟨b1, b2⟩
        all_goals
          (try simp only [a2, b2] at hN)
          simp only [a1, a2, b1, b2, if_true, if_false, Option.some.injEq, exists_eq_left']
          repeat' (first | exact hx | exact hlen | exact hN | omega | refine And.intro ?_ ?_)
  · exact h.elim
end K10
namespace K10
open PySem PySem.Spec L2 DL
theorem snoc_ind {α : Type} {P : List α → Prop} (h0 : P []) (h1 : ∀ w c, P w → P (w ++ [c])) (w : List α) : P w := by
  have : ∀ r : List α, P r.reverse := by
    intro r
    induction r with
    | nil => exact h0
    | cons c r ih => rw [List.reverse_cons]; exact h1 _ c ih
  have := this w.reverse
  rwa [List.reverse_reverse] at this
theorem split46 (l : List Nat) : ∃ m k, l = m ++ List.replicate k 46 ∧ ∀ q z, m = q ++ [z] → z ≠ 46 := by
  refine snoc_ind (P := fun l => ∃ m k, l = m ++ List.replicate k 46 ∧ ∀ q z, m = q ++ [z] → z ≠ 46) ⟨[], 0, rfl, fun q z h => by simp at h⟩ (fun w c ih => ?_) l
  obtain ⟨m, k, e, h⟩ := ih
  by_cases hc : c = 46
  · refine ⟨m, k + 1, ?_, h⟩
    rw [e, hc, List.append_assoc, List.replicate_succ']
  · refine ⟨w ++ [c], 0, by simp, fun q z e2 => ?_⟩
    have := (List.append_inj' e2 rfl).2
    cases this
    exact hc
theorem rstr_split {m : List Nat} {k : Nat} (h : ∀ q z, m = q ++ [z] → z ≠ 46) : rstr [46] (m ++ List.replicate k 46) = m := by
  have e : ((m ++ List.replicate k 46).reverse.takeWhile [46].contains).length = k := by
    rw [List.reverse_append, List.reverse_replicate, List.takeWhile_append_of_pos (by intro a ha; rw [(List.mem_replicate.mp ha).2]; decide), List.length_append, List.length_replicate]
    have : m.reverse.takeWhile [46].contains = [] := by
      cases hm : m.reverse with
      | nil => rfl
      | cons z q =>
        have : m = q.reverse ++ [z] := by rw [← List.reverse_cons, ← hm, List.reverse_reverse]
        have hz := h _ _ this
        rw [List.takeWhile_cons_of_neg]
        simp [hz]
    rw [this]; rfl
  unfold rstr
  rw [e, List.length_append, List.length_replicate, Nat.add_sub_cancel, List.take_left]
theorem nd_pos {m : List Nat} {k : Nat} (h : 46 ∉ m) : nd (m ++ List.replicate k 46) = m ∧ good (m ++ List.replicate k 46) = true := by
  have hp : ∀ a ∈ m, (a != 46) = true := fun a ha => by simp; intro e; exact h (e ▸ ha)
  constructor
  · unfold nd
    rw [List.takeWhile_append_of_pos hp]
    cases k with
    | zero => simp
    | succ k => rw [List.replicate_succ, List.takeWhile_cons_of_neg (by decide), List.append_nil]
  · unfold good
    rw [List.dropWhile_append_of_pos hp]
    cases k with
    | zero => rfl
    | succ k =>
      rw [List.replicate_succ, List.dropWhile_cons_of_neg (by decide), List.all_eq_true]
      intro x hx
      rcases List.mem_cons.mp hx with hx | hx
      · rw [hx]; decide
      · rw [(List.mem_replicate.mp hx).2]; decide
/-- a dot with something behind -/
theorem not_good {a b : List Nat} {z : Nat} (hz : z ≠ 46) (hb : z ∈ b) (ha : 46 ∈ a) : good (a ++ b) = false := by
  obtain ⟨p, q, e, hp⟩ := List.eq_append_cons_of_mem ha
  rw [e]
  unfold good
  have hp2 : ∀ x ∈ p, (x != 46) = true := fun x hx => by simp; intro e; exact hp (e ▸ hx)
  rw [List.append_assoc, List.dropWhile_append_of_pos hp2, List.cons_append, List.dropWhile_cons_of_neg (by decide)]
  rw [List.all_eq_false]
  exact ⟨z, List.mem_cons_of_mem _ (List.mem_append_right _ hb), by simp [hz]⟩
theorem rstr_good {l : List Nat} (h : good l = true) : rstr [46] l = nd l ∧ 46 ∉ nd l := by
  obtain ⟨m, k, e, hm⟩ := split46 l
  subst e
  rw [rstr_split hm]
  by_cases h4 : 46 ∈ m
  · exfalso
    rcases List.eq_nil_or_concat m with h0 | ⟨q, z, e⟩
    · rw [h0] at h4; cases h4
    · rw [List.concat_eq_append] at e
      have hz := hm q z e
      have hq : 46 ∈ q := by
        rw [e] at h4
        rcases List.mem_append.mp h4 with h4 | h4
        · exact h4
        · exact absurd (List.mem_singleton.mp h4).symm hz
      have := not_good (a := q) (b := [z] ++ List.replicate k 46) hz (by simp) hq
      rw [← List.append_assoc, ← e] at this
      rw [this] at h
      cases h
  · rw [(nd_pos h4).1]; exact ⟨rfl, h4⟩
theorem rstr_bad {l : List Nat} (h : good l = false) : 46 ∈ rstr [46] l := by
  obtain ⟨m, k, e, hm⟩ := split46 l
  subst e
  rw [rstr_split hm]
  by_cases h4 : 46 ∈ m
  · exact h4
  · rw [(nd_pos h4).2] at h; cases h
theorem nd_len_le (l : List Nat) : (nd l).length ≤ l.length := by unfold nd; exact (List.takeWhile_sublist _).length_le
theorem nd_full {l : List Nat} (h : good l = true) : (nd l).length = l.length ∨ ∃ q, l = q ++ [46] := by
  obtain ⟨m, k, e, hm⟩ := split46 l
  cases k with
  | zero =>
    rw [List.replicate_zero, List.append_nil] at e
    subst e
    have h2 := rstr_good h
    have e3 : rstr [46] l = l := by
      have := rstr_split (k := 0) hm
      rwa [List.replicate_zero, List.append_nil] at this
    rw [e3] at h2
    rw [← h2.1]; exact Or.inl rfl
  | succ k => exact Or.inr ⟨m ++ List.replicate k 46, by rw [e, List.replicate_succ', List.append_assoc]⟩
theorem max_full {r : List (Nat × Nat)} (ho : okR r) (h1 : good (r.map (·.1)) = true) (h2 : good (r.map (·.2)) = true) : max (nd (r.map (·.1))).length (nd (r.map (·.2))).length = r.length := by
  have l1 := nd_len_le (r.map (·.1))
  have l2 := nd_len_le (r.map (·.2))
  rw [List.length_map] at l1 l2
  rcases nd_full h1 with e1 | ⟨q1, e1⟩
  · rw [List.length_map] at e1; omega
  · rcases nd_full h2 with e2 | ⟨q2, e2⟩
    · rw [List.length_map] at e2; omega
    · exfalso
      rcases List.eq_nil_or_concat r with h0 | ⟨q, p, e⟩
      · rw [h0] at e1; simp at e1
      · rw [List.concat_eq_append] at e
        rw [e, List.map_append] at e1 e2
        have a1 := (List.append_inj' e1 rfl).2
        have a2 := (List.append_inj' e2 rfl).2
        have b1 : p.1 = 46 := by injection a1
        have b2 : p.2 = 46 := by injection a2
        refine ho p (by rw [e]; simp) ?_
        obtain ⟨p1, p2⟩ := p
        cases b1; cases b2; rfl
theorem lt_iff {f : List Nat} : (nd f).length < f.length ↔ 46 ∈ f := by
  constructor
  · intro h
    by_cases h4 : 46 ∈ f
    · exact h4
    · have := (nd_pos (k := 0) h4).1
      rw [List.replicate_zero, List.append_nil] at this
      rw [this] at h
      exact absurd h (Nat.lt_irrefl _)
  · intro h
    obtain ⟨p, q, e, hp⟩ := List.eq_append_cons_of_mem h
    have hp2 : ∀ x ∈ p, (x != 46) = true := fun x hx => by simp; intro e; exact hp (e ▸ hx)
    have : nd f = p := by
      unfold nd
      rw [e, List.takeWhile_append_of_pos hp2, List.takeWhile_cons_of_neg (by decide), List.append_nil]
    rw [this, e, List.length_append, List.length_cons]
    omega
theorem step_dot {f : List Nat} (h : good f = true) : nd (f ++ [46]) = nd f ∧ good (f ++ [46]) = true := by
  obtain ⟨m, k, e, hm⟩ := split46 f
  have h2 := rstr_good h
  rw [e, rstr_split hm] at h2
  rw [← e] at h2
  have h4 : 46 ∉ m := by rw [h2.1]; exact h2.2
  have := nd_pos (k := k + 1) h4
  rw [List.replicate_succ', ← List.append_assoc, ← e] at this
  exact ⟨this.1.trans h2.1, this.2⟩
theorem step_add {f : List Nat} {c : Nat} (h : ¬ (nd f).length < f.length) (hc : c ≠ 46) : nd (f ++ [c]) = nd f ++ [c] ∧ good (f ++ [c]) = true := by
  have h4 : 46 ∉ f := fun h' => h (lt_iff.mpr h')
  have e := (nd_pos (k := 0) h4).1
  rw [List.replicate_zero, List.append_nil] at e
  have h5 : 46 ∉ f ++ [c] := fun h' => by
    rcases List.mem_append.mp h' with h' | h'
    · exact h4 h'
    · exact hc (List.mem_singleton.mp h').symm
  have e2 := nd_pos (k := 0) h5
  rw [List.replicate_zero, List.append_nil] at e2
  rw [e]; exact e2
theorem step_bad {f t : List Nat} {c : Nat} (h : (nd f).length < f.length) (hc : c ≠ 46) : good (f ++ c :: t) = false := not_good hc (List.mem_cons_self ..) (lt_iff.mp h)
theorem wd_row {s a b : List Nat} (hs : Ls s) (ha : Over s a) (hb : Over s b) : wd (rowL a b) = .tup [.str a, .str b] ∧ okR (rowL a b) ∧ (rowL a b).length = max a.length b.length := by
  have na : ∀ w : List Nat, Over s w → 46 ∉ w := fun w hw h => by have := hs.2.2 _ (hw _ h); omega
  have key : ∀ (w : List Nat) (n : Nat), w.length ≤ n → (List.range n).map (fun i => w.getD i 46) = w ++ List.replicate (n - w.length) 46 := fun w n hn => by
    refine List.ext_getElem (by simp; omega) fun i h1 h2 => ?_
    rw [List.getElem_map, List.getElem_range, List.getElem_append]
    split
    · rename_i h
      rw [List.getD_eq_getElem?_getD, List.getElem?_eq_getElem h]; rfl
    · rename_i h
      rw [List.getD_eq_getElem?_getD, List.getElem?_eq_none (by omega), List.getElem_replicate]; rfl
  have e1 : (rowL a b).map (·.1) = a ++ List.replicate (max a.length b.length - a.length) 46 := by
    unfold rowL
    rw [List.map_map, ← key a _ (Nat.le_max_left _ _)]
    rfl
  have e2 : (rowL a b).map (·.2) = b ++ List.replicate (max a.length b.length - b.length) 46 := by
    unfold rowL
    rw [List.map_map, ← key b _ (Nat.le_max_right _ _)]
    rfl
  refine ⟨?_, fun p hp => ?_, by unfold rowL; rw [List.length_map, List.length_range]⟩
  · unfold wd
    rw [e1, e2, (nd_pos (na a ha)).1, (nd_pos (na a ha)).2, (nd_pos (na b hb)).1, (nd_pos (na b hb)).2]
    rfl
  · unfold rowL at hp
    obtain ⟨i, hi, rfl⟩ := List.mem_map.mp hp
    have hi := List.mem_range.mp hi
    intro e
    have f1 : a.getD i 46 = 46 := congrArg Prod.fst e
    have f2 : b.getD i 46 = 46 := congrArg Prod.snd e
    by_cases h : i < a.length
    · rw [List.getD_eq_getElem?_getD, List.getElem?_eq_getElem h] at f1
      exact na a ha (by rw [← f1]; exact List.getElem_mem h)
    · have h' : i < b.length := by omega
      rw [List.getD_eq_getElem?_getD, List.getElem?_eq_getElem h'] at f2
      exact na b hb (by rw [← f2]; exact List.getElem_mem h')
theorem okR_side {s : List Nat} (hs : Ls s) : okR (sideL s) := fun p hp => by
  unfold sideL at hp
  rcases List.mem_append.mp hp with hp | hp
  · obtain ⟨c, hc, rfl⟩ := List.mem_map.mp hp
    intro e
    have : c = 46 := congrArg Prod.snd e
    have := (hs.2.2 c hc).1
    omega
  · obtain ⟨l, hl, hp⟩ := List.mem_flatten.mp hp
    obtain ⟨c, hc, rfl⟩ := List.mem_map.mp hl
    have h1 := (hs.2.2 c hc).1
    rcases List.mem_cons.mp hp with hp | hp
    · rw [hp]; intro e; have : c = 46 := congrArg Prod.fst e; omega
    · obtain ⟨d, _, rfl⟩ := List.mem_map.mp hp
      intro e; have : c = 46 := congrArg Prod.fst e; omega
theorem cut_mem {α : Type} {xs : List α} {lo hi : Option Int} {x : α} (h : x ∈ cut xs lo hi) : x ∈ xs := by
  unfold cut at h
  exact List.mem_of_mem_drop (List.mem_of_mem_take h)
theorem cut_len {α : Type} (xs : List α) (lo hi : Option Int) : (cut xs lo hi).length ≤ xs.length := by
  unfold cut
  rw [List.length_take, List.length_drop]
  omega
theorem cut_two {α : Type} (xs : List α) {v : Int} (h0 : 0 ≤ v) : (cut xs none (some v)).length + (cut xs (some v) none).length ≤ xs.length := by
  obtain ⟨k, rfl⟩ := Int.eq_ofNat_of_zero_le h0
  unfold cut
  rw [HT.sIx_nat, HT.sIx_none, HT.sIx_none, HT.sIx_nat, List.length_take, List.length_take, List.length_drop, List.length_drop]
  omega
end K10
namespace K10
open PySem PySem.Spec L2 DL
local macro_rules | `(tactic| walk_at "vc") => `(tactic| simp (maxSteps := 600000) only [↓all_jok, ↓jok_is, ↓c_side_letters, ↓c_lside_letters, ↓c_side_row, ↓c_law_row, ↓c_rows_words, ↓c_law_words, ↓c_same0, ↓c_same, ↓c_fount, ↓c_sort, ↓c_letters, ↓c_word, ↓c_pair, ↓c_bent, ↓c_by_hand, ↓x_rev, ↓e_rev, ↓x_enT, ↓e_tup1, ↓x_zpT, ↓e_tup2, ↓e_all, ↓e_rstrip, ↓x_seq, ↓x_next, ↓x_brk, ↓x_cnt, ↓x_drop, ↓x_ret, ↓x_retN, ↓x_retL, ↓x_retO, ↓x_if, ↓x_asg, ↓x_par, ↓x_own, ↓x_gN, ↓x_gT, ↓x_gnil, ↓x_gcons, ↓x_var, ↓x_C, ↓x_nil, ↓x_cons, ↓x_tup, ↓x_lst, ↓x_llst, ↓x_llist, ↓x_lcat, ↓x_fz, ↓x_op, ↓x_tst, ↓x_tru, ↓x_chain, ↓x_and, ↓x_or, ↓x_not, ↓x_andV, ↓x_orV, ↓x_notV, ↓x_ifE, ↓x_neg, ↓x_ixM, ↓x_noP, ↓x_P, ↓x_sl, ↓x_cb, ↓x_isi, ↓x_noRo, ↓x_seti, ↓x_augi, ↓x_aug2, ↓x_aug, ↓x_app, ↓x_ext, ↓x_pop, ↓x_lenN, ↓x_truN, ↓x_open, ↓x_openW, ↓x_for, ↓x_lnil, ↓x_lcons, ↓x_iseq, ↓x_r1, ↓x_r2, ↓x_r3, ↓x_call, ↓x_jnil, ↓x_jv, ↓x_jj, ↓x_tnil, ↓x_tv, ↓x_tj, ↓x_jar, ↓x_callO, ↓x_m1, ↓x_join, ↓x_joinRev, ↓x_sortS, ↓x_lc, ↓x_lcnil, ↓x_lccons, ↓x_yes, ↓x_nx, ↓x_rt, ↓x_onx, ↓x_oro, ↓x_unp, ↓x_mt, ↓e_add_int, ↓e_add_str, ↓e_add_tup, ↓e_add_lst, ↓e_sub, ↓e_mod, ↓e_fdiv, ↓e_pow, ↓e_shl, ↓e_mul_int, ↓e_mul_str, ↓e_mul_lst, ↓e_lt_int, ↓e_lt_str, ↓e_le_int, ↓e_le_str, ↓e_gt_int, ↓e_gt_str, ↓e_ge_int, ↓e_ge_str, ↓e_eq_ii, ↓e_eq_ss, ↓e_eq_bb, ↓e_eq_is, ↓e_eq_si, ↓e_eq_ni, ↓e_eq_in, ↓e_eq_ns, ↓e_eq_sn, ↓e_eq_bs, ↓e_eq_sb, ↓e_ne_ii, ↓e_ne_ss, ↓e_ne_bb, ↓e_ne_is, ↓e_ne_si, ↓e_ne_ni, ↓e_ne_in, ↓e_ne_ns, ↓e_ne_sn, ↓e_ne_bs, ↓e_ne_sb, ↓e_is, ↓e_isnt, ↓e_inS, ↓e_ninS, ↓e_len_str, ↓e_len_tup, ↓e_len_lst, ↓e_len_ro, ↓e_int_i, ↓e_int_b, ↓e_int2, ↓e_abs, ↓e_tup_l, ↓e_tup_t, ↓e_lst_l, ↓e_lst_t, ↓e_lst_r, ↓e_str, ↓e_ix_str, ↓e_ix_tup, ↓e_ix_lst, ↓e_ix_ro, ↓e_sl_str, ↓e_sl_tup, ↓e_sl_lst, ↓e_sl_ro, ↓e_bl, ↓e_i, ↓e_s, ↓e_t, ↓e_l, ↓e_sx, ↓e_ll2, ↓e_two, ↓e_hd, ↓e_r2, ↓e_r3, ↓e_ixm, ↓e_tru_b, ↓e_tru_i, ↓e_tru_n, ↓e_tru_s, ↓e_tru_t, ↓e_tru_l, ↓e_it_l, ↓e_it_r, ↓e_it_t, ↓e_it_s, ↓e_ll_l, ↓e_ll_t, ↓e_ll_r, ↓e_join_l, ↓e_join_t, ↓e_joinRev, ↓e_sort, ↓e_index, ↓e_ati2, ↓e_ats2, ↓e_ati3, ↓e_ats3, ↓e_ati4, ↓e_ats4, ↓e_ati5, ↓e_ats5, ↓e_ati6, ↓e_ats6, ↓e_ati7, ↓e_ats7, ↓e_ati8, ↓e_ats8, ↓e_ati9, ↓e_ats9, ↓e_ati10, ↓e_ats10, ↓e_ati11, ↓e_ats11, ↓e_ati12, ↓e_ats12, ↓e_ati13, ↓e_ats13, ↓e_ati14, ↓e_ats14, ↓e_ati15, ↓e_ats15, ↓e_ati16, ↓e_ats16, ↓e_atI, ↓e_atS, ↓e_kit_NoneType_int, ↓e_kit_NoneType_str, ↓e_kit_NoneType_bool, ↓e_kit_NoneType_tuple, ↓e_kit_NoneType_list, ↓e_kit_bool_int, ↓e_kit_bool_str, ↓e_kit_bool_bool, ↓e_kit_bool_tuple, ↓e_kit_bool_list, ↓e_kit_int_int, ↓e_kit_int_str, ↓e_kit_int_bool, ↓e_kit_int_tuple, ↓e_kit_int_list, ↓e_kit_str_int, ↓e_kit_str_str, ↓e_kit_str_bool, ↓e_kit_str_tuple, ↓e_kit_str_list, ↓e_kit_tuple_int, ↓e_kit_tuple_str, ↓e_kit_tuple_bool, ↓e_kit_tuple_tuple, ↓e_kit_tuple_list, ↓e_kit_list_int, ↓e_kit_list_str, ↓e_kit_list_bool, ↓e_kit_list_tuple, ↓e_kit_list_list, ↓e_at0, ↓e_ixn0, ↓e_at1, ↓e_ixn1, ↓e_at2, ↓e_ixn2, ↓e_at3, ↓e_ixn3, ↓e_at4, ↓e_ixn4, ↓e_at5, ↓e_ixn5, ↓e_at6, ↓e_ixn6, ↓e_at7, ↓e_ixn7, ↓e_at8, ↓e_ixn8, ↓e_at9, ↓e_ixn9, ↓get0, ↓set0, ↓get1, ↓set1, ↓get2, ↓set2, ↓get3, ↓set3, ↓get4, ↓set4, ↓get5, ↓set5, ↓get6, ↓set6, ↓get7, ↓set7, ↓get8, ↓set8, ↓get9, ↓set9, ↓get10, ↓set10, ↓get11, ↓set11, ↓get12, ↓set12, ↓get13, ↓set13, ↓get14, ↓set14, ↓get15, ↓set15, ↓get16, ↓set16, ↓get17, ↓set17, ↓get18, ↓set18, ↓get19, ↓set19, ↓get20, ↓set20, ↓get21, ↓set21, ↓get22, ↓set22, ↓get23, ↓set23, ↓get24, ↓set24, ↓get25, ↓set25, ↓rg0, ↓rg1, ↓rg2, ↓rg3, ↓rg4, ↓rg5, ↓rg6, ↓rg7, ↓rg8, litS_cons, litS_set, S.pin, S.mt, isN, noRo, jarsOf, backJ, wipeS, backS, noMt, List.all_cons, List.all_nil, List.map_cons, List.map_nil, Bool.not_true, Bool.not_false, Bool.and_true, Bool.true_and, Bool.and_self, Bool.false_eq_true, Bool.not_eq_true, Bool.not_eq_true', Bool.not_not, Bool.not_eq_false, decide_eq_true_eq, decide_eq_false_iff_not, if_true, if_false, true_and, and_true, false_and, and_false, List.nodup_cons, List.not_mem_nil, List.nodup_nil, not_false_eq_true, not_true_eq_false, eq_self, reduceCtorEq, List.length_cons, List.length_nil, Nat.reduceAdd, Nat.reduceLeDiff, Int.reduceToNat, Int.reduceLE, Int.reduceNeg, implies_true, ite_self])
local macro_rules | `(tactic| walk_at "vs") => `(tactic| repeat' (first
  | assumption
  | exact trivial
  | exact cm_r (by decide) (by decide)
  | exact cm_l (by decide) (by decide)
  | exact cpow_of (by decide) (by decide) (by decide)
  | omega
  | (refine And.intro ?_ ?_)
  | (intro)
  | split))
theorem mm_rows_words : ∀ as R, m_rows_words as R → ds_rows_words (endsM jok as R) (startS ["row", "one", "other", "first", "second", "pair"] as) := by
  intro as R h
  unfold m_rows_words at h
  split at h
  · obtain ⟨r, rfl, h1, h2, h⟩ := h
    show ds_rows_words _ [.d (.tup _), .un, .un, .un, .un, .un]
    unfold ds_rows_words
    walk_at "vc"
    refine lcR_inv (fun xs acc => ∃ u v, xs = List.map pr u ∧ acc = ((v.map (·.1)).map fun c => D.str [c]) ∧ v ++ u = r) ⟨r, [], rfl, rfl, rfl⟩ (fun acc hP => ?_) (fun x q acc hP N hN => ?_)
    · obtain ⟨u, v, e, rfl, e2⟩ := hP
      cases u with
      | cons _ _ => cases e
      | nil =>
      rw [List.append_nil] at e2
      subst e2
      walk_at "vc"
      refine ⟨_, strs1 _, by rw [sum1, List.length_map]; omega, ?_⟩
      rw [joinE, flat1]
      refine lcR_inv (fun xs acc => ∃ u w, xs = List.map pr u ∧ acc = ((w.map (·.2)).map fun c => D.str [c]) ∧ w ++ u = v) ⟨v, [], rfl, rfl, rfl⟩ (fun acc hP => ?_) (fun x q acc hP N hN => ?_)
      · obtain ⟨u, w, e, rfl, e2⟩ := hP
        cases u with
        | cons _ _ => cases e
        | nil =>
        rw [List.append_nil] at e2
        subst e2
        walk_at "vc"
        refine ⟨_, strs1 _, by rw [sum1, List.length_map]; omega, ?_⟩
        rw [joinE, flat1]
        have rl : ∀ l : List Nat, (rstr [46] l).length ≤ l.length := fun l => by unfold rstr; rw [List.length_take]; omega
        have r1 := rl (w.map (·.1))
        have r2 := rl (w.map (·.2))
        rw [List.length_map] at r1 r2
        have hwd : wd w = if good (w.map (·.1)) && good (w.map (·.2)) then .tup [.str (nd (w.map (·.1))), .str (nd (w.map (·.2)))] else .non := rfl
        refine ⟨by rw [List.length_map]; omega, by rw [List.length_map]; omega, ?_⟩
        cases g1 : good (w.map (·.1)) with
        | false =>
          rw [if_pos (rstr_bad g1)]
          rw [hwd, g1] at h
          exact h
        | true =>
          cases g2 : good (w.map (·.2)) with
          | false =>
            rw [if_neg (by rw [(rstr_good g1).1]; exact (rstr_good g1).2), if_pos (rstr_bad g2)]
            rw [hwd, g1, g2] at h
            exact h
          | true =>
            have mx := max_full h1 g1 g2
            rw [hwd, g1, g2] at h
            rw [if_neg (by rw [(rstr_good g1).1]; exact (rstr_good g1).2), if_neg (by rw [(rstr_good g2).1]; exact (rstr_good g2).2)]
            refine ⟨by omega, by omega, ?_⟩
            rw [(rstr_good g1).1, (rstr_good g2).1, if_neg (fun hne => hne (by rw [List.length_map]; omega))]
            exact h
      · obtain ⟨u, w, e, rfl, e2⟩ := hP
        cases u with
        | nil => cases e
        | cons p u =>
        rw [List.map_cons] at e
        cases e
        have hl : w.length ≤ 200 := by
          have := congrArg List.length e2
          rw [List.length_append] at this
          omega
        have hN := hN (((w.map (·.2)).map fun c => D.str [c]) ++ [.str [p.2]]) ⟨u, w ++ [p], rfl, by rw [List.map_append, List.map_append]; rfl, by rw [← e2, List.append_assoc]; rfl⟩
        have ep : pr p = D.str [p.1, p.2] := rfl
        rw [ep]
        walk_at "vc"
        exact ⟨by rw [List.length_map, List.length_map]; omega, hN⟩
    · obtain ⟨u, v, e, rfl, e2⟩ := hP
      cases u with
      | nil => cases e
      | cons p u =>
      rw [List.map_cons] at e
      cases e
      have hl : v.length ≤ 200 := by
        have := congrArg List.length e2
        rw [List.length_append] at this
        omega
      have hN := hN (((v.map (·.1)).map fun c => D.str [c]) ++ [.str [p.1]]) ⟨u, v ++ [p], rfl, by rw [List.map_append, List.map_append]; rfl, by rw [← e2, List.append_assoc]; rfl⟩
      have ep : pr p = D.str [p.1, p.2] := rfl
      rw [ep]
      walk_at "vc"
      exact ⟨by rw [List.length_map, List.length_map]; omega, hN⟩
  · exact h.elim
theorem mm_law_words : ∀ as R, m_law_words as R → ds_law_words (endsM jok as R) (startS ["row", "told", "at", "letter", "side"] as) := by
  intro as R h
  unfold m_law_words at h
  split at h
  · obtain ⟨r, rfl, h2, h⟩ := h
    show ds_law_words _ [.d (.tup _), .un, .un, .un, .un]
    unfold ds_law_words
    walk_at "vc"
    refine dLoop_inv (fun xs ρ => ∃ (q u : List (Nat × Nat)) (x y z : S), q ++ u = r ∧ xs = enD q.length (u.map pr) ∧ ρ = [.d (.tup (r.map pr)), .own [.str (nd (q.map (·.1))), .str (nd (q.map (·.2)))], x, y, z] ∧ x.pin = false ∧ y.pin = false ∧ z.pin = false ∧ good (q.map (·.1)) = true ∧ good (q.map (·.2)) = true) ⟨[], r, .un, .un, .un, rfl, rfl, rfl, rfl, rfl, rfl, rfl, rfl⟩ (fun ρ hP => ?_) (fun x0 r0 ρ hP N hN => ?_)
    · obtain ⟨q, u, x, y, z, e, e2, rfl, hx, hy, hz, g1, g2⟩ := hP
      cases u with
      | cons _ _ => cases e2
      | nil =>
      rw [List.append_nil] at e
      subst e
      walk_at "vc"
      unfold wd at h
      rw [g1, g2] at h
      exact h
    · obtain ⟨q, u, x, y, z, e, e2, rfl, hx, hy, hz, g1, g2⟩ := hP
      cases u with
      | nil => cases e2
      | cons p u =>
      rw [List.map_cons] at e2
      cases e2
      have l1 := nd_len_le (q.map (·.1))
      have l2 := nd_len_le (q.map (·.2))
      rw [List.length_map] at l1 l2
      have hq : q.length ≤ 200 := by
        have := congrArg List.length e
        rw [List.length_append] at this
        omega
      have hN := hN [.d (.tup (r.map pr)), .own [.str (nd ((q ++ [p]).map (·.1))), .str (nd ((q ++ [p]).map (·.2)))], .d (.int q.length), .d (pr p), .d (.int 1)]
      have nb : (good (r.map (·.1)) = false ∨ good (r.map (·.2)) = false) → wd r = .non := fun hb => by
        unfold wd
        rcases hb with hb | hb
        · rw [hb]; rfl
        · rw [hb, Bool.and_false]; rfl
      have ep : pr p = D.str [p.1, p.2] := rfl
      have A : ∀ f : Nat × Nat → Nat, good (q.map f) = true → (f p = 46 → nd ((q ++ [p]).map f) = nd (q.map f) ∧ good ((q ++ [p]).map f) = true) ∧ (f p ≠ 46 → ¬ (nd (q.map f)).length < q.length → nd ((q ++ [p]).map f) = nd (q.map f) ++ [f p] ∧ good ((q ++ [p]).map f) = true) ∧ (f p ≠ 46 → (nd (q.map f)).length < q.length → good (r.map f) = false) := fun f gf => by
        rw [List.map_append, List.map_cons, List.map_nil]
        refine ⟨fun h => by rw [h]; exact step_dot gf, fun h h' => step_add (by rw [List.length_map]; exact h') h, fun h h' => ?_⟩
        rw [← e, List.map_append, List.map_cons]
        exact step_bad (by rw [List.length_map]; exact h') h
      obtain ⟨A1, A2, A3⟩ := A (·.1) g1
      obtain ⟨B1, B2, B3⟩ := A (·.2) g2
      have hN := fun k1 k2 => hN ⟨q ++ [p], u, _, _, _, by rw [← e, List.append_assoc]; rfl, by rw [List.length_append]; rfl, rfl, rfl, rfl, rfl, k1, k2⟩
      rw [ep] at hN
      rw [ep]
      walk_at "vc"
      refine ⟨hx, hy, hz, ?_⟩
      have ne1 : p.1 ≠ 46 → ¬ [p.1] = [46] := fun h e => h (List.cons.inj e).1
      have ne2 : p.2 ≠ 46 → ¬ [p.2] = [46] := fun h e => h (List.cons.inj e).1
      by_cases c1 : p.1 = 46
      · obtain ⟨k1, k2⟩ := A1 c1
        rw [if_neg (fun hh => hh (by rw [c1]))]
        by_cases c2 : p.2 = 46
        · obtain ⟨m1, m2⟩ := B1 c2
          rw [if_neg (fun hh => hh (by rw [c2]))]
          have := hN k2 m2
          rw [k1, m1] at this
          exact this
        · rw [if_pos (ne2 c2)]
          refine ⟨by omega, ?_⟩
          by_cases b2 : (nd (q.map (·.2))).length < q.length
          · rw [if_pos (by omega)]
            rw [nb (Or.inr (B3 c2 b2))] at h
            exact h
          · obtain ⟨m1, m2⟩ := B2 c2 b2
            rw [if_neg (by omega)]
            have := hN k2 m2
            rw [k1, m1] at this
            exact ⟨by omega, this⟩
      · rw [if_pos (ne1 c1)]
        refine ⟨by omega, ?_⟩
        by_cases b1 : (nd (q.map (·.1))).length < q.length
        · rw [if_pos (by omega)]
          rw [nb (Or.inl (A3 c1 b1))] at h
          exact h
        · obtain ⟨k1, k2⟩ := A2 c1 b1
          rw [if_neg (by omega)]
          refine ⟨by omega, ?_⟩
          by_cases c2 : p.2 = 46
          · obtain ⟨m1, m2⟩ := B1 c2
            rw [if_neg (fun hh => hh (by rw [c2]))]
            have := hN k2 m2
            rw [k1, m1] at this
            exact this
          · rw [if_pos (ne2 c2)]
            refine ⟨by omega, ?_⟩
            by_cases b2 : (nd (q.map (·.2))).length < q.length
            · rw [if_pos (by omega)]
              rw [nb (Or.inr (B3 c2 b2))] at h
              exact h
            · obtain ⟨m1, m2⟩ := B2 c2 b2
              rw [if_neg (by omega)]
              have := hN k2 m2
              rw [k1, m1] at this
              exact ⟨by omega, this⟩
  · exact h.elim
theorem mm_law_same0 : ∀ as R, m_law_same0 as R → ds_law_same (fun _ _ => False) (endsM jok as R) (startS ["one", "two", "part", "due"] as) := by
  intro as R h
  unfold m_law_same0 at h
  split at h
  · rename_i x y
    obtain ⟨rfl, h1, h⟩ := h
    show ds_law_same _ _ [.d _, .d _, .un, .un]
    unfold ds_law_same
    cases x with
    | non =>
      walk_at "vc"
      exact h
    | str s =>
      walk_at "vc"
      rw [decide_eq_true trivial]; exact h
    | _ => cases h1
  · exact h.elim
theorem mm_law_same : ∀ as R, m_law_same as R → ds_law_same m_law_same0 (endsM jok as R) (startS ["one", "two", "part", "due"] as) := by
  intro as R h
  unfold m_law_same at h
  split at h
  · rename_i x y
    obtain ⟨rfl, h1, h⟩ := h
    show ds_law_same _ _ [.d _, .d _, .un, .un]
    unfold ds_law_same
    rcases h1 with h1 | ⟨ss, rfl, hl⟩
    · cases x with
      | non =>
        walk_at "vc"
        exact h
      | str s =>
        walk_at "vc"
        rw [decide_eq_true trivial]; exact h
      | _ => cases h1
    · walk_at "vc"
      refine lcR_inv (fun xs acc => ∃ (u : List (List Nat)) (n : Nat), xs = zpD (u.map .str) (u.map .str) ∧ acc = List.replicate n (.bl true) ∧ n + u.length = ss.length) ⟨ss, 0, rfl, rfl, Nat.zero_add _⟩ (fun acc hP => ?_) (fun x q acc hP N hN => ?_)
      · obtain ⟨u, n, e, rfl, e2⟩ := hP
        walk_at "vc"
        refine ⟨List.replicate n true, by rw [List.map_replicate], ?_⟩
        have : (List.replicate n true).all id = true := by
          rw [List.all_eq_true]
          intro b hb
          rw [(List.mem_replicate.mp hb).2]; rfl
        rw [this]; exact h
      · obtain ⟨u, n, e, rfl, e2⟩ := hP
        cases u with
        | nil => cases e
        | cons w u =>
        rw [List.length_cons] at e2
        have e : x :: q = .tup [.str w, .str w] :: zpD (u.map .str) (u.map .str) := e
        cases e
        have hN := hN (List.replicate n (.bl true) ++ [.bl true]) ⟨u, n + 1, rfl, by rw [List.replicate_succ'], by omega⟩
        rw [List.length_replicate]
        walk_at "vc"
        exact ⟨by omega, rfl, hN⟩
  · exact h.elim
end K10
namespace K10
open PySem PySem.Spec L2 DL
local macro_rules | `(tactic| walk_at "vc") => `(tactic| simp (maxSteps := 600000) only [↓all_jok, ↓jok_is, ↓c_side_letters, ↓c_lside_letters, ↓c_side_row, ↓c_law_row, ↓c_rows_words, ↓c_law_words, ↓c_same0, ↓c_same, ↓c_fount, ↓c_sort, ↓c_letters, ↓c_word, ↓c_pair, ↓c_bent, ↓c_by_hand, ↓x_rev, ↓e_rev, ↓x_enT, ↓e_tup1, ↓x_zpT, ↓e_tup2, ↓e_all, ↓e_rstrip, ↓x_seq, ↓x_next, ↓x_brk, ↓x_cnt, ↓x_drop, ↓x_ret, ↓x_retN, ↓x_retL, ↓x_retO, ↓x_if, ↓x_asg, ↓x_par, ↓x_own, ↓x_gN, ↓x_gT, ↓x_gnil, ↓x_gcons, ↓x_var, ↓x_C, ↓x_nil, ↓x_cons, ↓x_tup, ↓x_lst, ↓x_llst, ↓x_llist, ↓x_lcat, ↓x_fz, ↓x_op, ↓x_tst, ↓x_tru, ↓x_chain, ↓x_and, ↓x_or, ↓x_not, ↓x_andV, ↓x_orV, ↓x_notV, ↓x_ifE, ↓x_neg, ↓x_ixM, ↓x_noP, ↓x_P, ↓x_sl, ↓x_cb, ↓x_isi, ↓x_noRo, ↓x_seti, ↓x_augi, ↓x_aug2, ↓x_aug, ↓x_app, ↓x_ext, ↓x_pop, ↓x_lenN, ↓x_truN, ↓x_open, ↓x_openW, ↓x_for, ↓x_lnil, ↓x_lcons, ↓x_iseq, ↓x_r1, ↓x_r2, ↓x_r3, ↓x_call, ↓x_jnil, ↓x_jv, ↓x_jj, ↓x_tnil, ↓x_tv, ↓x_tj, ↓x_jar, ↓x_callO, ↓x_m1, ↓x_join, ↓x_joinRev, ↓x_sortS, ↓x_lc, ↓x_lcnil, ↓x_lccons, ↓x_yes, ↓x_nx, ↓x_rt, ↓x_onx, ↓x_oro, ↓x_unp, ↓x_mt, ↓e_add_int, ↓e_add_str, ↓e_add_tup, ↓e_add_lst, ↓e_sub, ↓e_mod, ↓e_fdiv, ↓e_pow, ↓e_shl, ↓e_mul_int, ↓e_mul_str, ↓e_mul_lst, ↓e_lt_int, ↓e_lt_str, ↓e_le_int, ↓e_le_str, ↓e_gt_int, ↓e_gt_str, ↓e_ge_int, ↓e_ge_str, ↓e_eq_ii, ↓e_eq_ss, ↓e_eq_bb, ↓e_eq_is, ↓e_eq_si, ↓e_eq_ni, ↓e_eq_in, ↓e_eq_ns, ↓e_eq_sn, ↓e_eq_bs, ↓e_eq_sb, ↓e_ne_ii, ↓e_ne_ss, ↓e_ne_bb, ↓e_ne_is, ↓e_ne_si, ↓e_ne_ni, ↓e_ne_in, ↓e_ne_ns, ↓e_ne_sn, ↓e_ne_bs, ↓e_ne_sb, ↓e_is, ↓e_isnt, ↓e_inS, ↓e_ninS, ↓e_len_str, ↓e_len_tup, ↓e_len_lst, ↓e_len_ro, ↓e_int_i, ↓e_int_b, ↓e_int2, ↓e_abs, ↓e_tup_l, ↓e_tup_t, ↓e_lst_l, ↓e_lst_t, ↓e_lst_r, ↓e_str, ↓e_ix_str, ↓e_ix_tup, ↓e_ix_lst, ↓e_ix_ro, ↓e_sl_str, ↓e_sl_tup, ↓e_sl_lst, ↓e_sl_ro, ↓e_bl, ↓e_i, ↓e_s, ↓e_t, ↓e_l, ↓e_sx, ↓e_ll2, ↓e_two, ↓e_hd, ↓e_r2, ↓e_r3, ↓e_ixm, ↓e_tru_b, ↓e_tru_i, ↓e_tru_n, ↓e_tru_s, ↓e_tru_t, ↓e_tru_l, ↓e_it_l, ↓e_it_r, ↓e_it_t, ↓e_it_s, ↓e_ll_l, ↓e_ll_t, ↓e_ll_r, ↓e_join_l, ↓e_join_t, ↓e_joinRev, ↓e_sort, ↓e_index, ↓e_ati2, ↓e_ats2, ↓e_ati3, ↓e_ats3, ↓e_ati4, ↓e_ats4, ↓e_ati5, ↓e_ats5, ↓e_ati6, ↓e_ats6, ↓e_ati7, ↓e_ats7, ↓e_ati8, ↓e_ats8, ↓e_ati9, ↓e_ats9, ↓e_ati10, ↓e_ats10, ↓e_ati11, ↓e_ats11, ↓e_ati12, ↓e_ats12, ↓e_ati13, ↓e_ats13, ↓e_ati14, ↓e_ats14, ↓e_ati15, ↓e_ats15, ↓e_ati16, ↓e_ats16, ↓e_atI, ↓e_atS, ↓e_kit_NoneType_int, ↓e_kit_NoneType_str, ↓e_kit_NoneType_bool, ↓e_kit_NoneType_tuple, ↓e_kit_NoneType_list, ↓e_kit_bool_int, ↓e_kit_bool_str, ↓e_kit_bool_bool, ↓e_kit_bool_tuple, ↓e_kit_bool_list, ↓e_kit_int_int, ↓e_kit_int_str, ↓e_kit_int_bool, ↓e_kit_int_tuple, ↓e_kit_int_list, ↓e_kit_str_int, ↓e_kit_str_str, ↓e_kit_str_bool, ↓e_kit_str_tuple, ↓e_kit_str_list, ↓e_kit_tuple_int, ↓e_kit_tuple_str, ↓e_kit_tuple_bool, ↓e_kit_tuple_tuple, ↓e_kit_tuple_list, ↓e_kit_list_int, ↓e_kit_list_str, ↓e_kit_list_bool, ↓e_kit_list_tuple, ↓e_kit_list_list, ↓e_at0, ↓e_ixn0, ↓e_at1, ↓e_ixn1, ↓e_at2, ↓e_ixn2, ↓e_at3, ↓e_ixn3, ↓e_at4, ↓e_ixn4, ↓e_at5, ↓e_ixn5, ↓e_at6, ↓e_ixn6, ↓e_at7, ↓e_ixn7, ↓e_at8, ↓e_ixn8, ↓e_at9, ↓e_ixn9, ↓get0, ↓set0, ↓get1, ↓set1, ↓get2, ↓set2, ↓get3, ↓set3, ↓get4, ↓set4, ↓get5, ↓set5, ↓get6, ↓set6, ↓get7, ↓set7, ↓get8, ↓set8, ↓get9, ↓set9, ↓get10, ↓set10, ↓get11, ↓set11, ↓get12, ↓set12, ↓get13, ↓set13, ↓get14, ↓set14, ↓get15, ↓set15, ↓get16, ↓set16, ↓get17, ↓set17, ↓get18, ↓set18, ↓get19, ↓set19, ↓get20, ↓set20, ↓get21, ↓set21, ↓get22, ↓set22, ↓get23, ↓set23, ↓get24, ↓set24, ↓get25, ↓set25, ↓rg0, ↓rg1, ↓rg2, ↓rg3, ↓rg4, ↓rg5, ↓rg6, ↓rg7, ↓rg8, litS_cons, litS_set, S.pin, S.mt, isN, noRo, jarsOf, backJ, wipeS, backS, noMt, List.all_cons, List.all_nil, List.map_cons, List.map_nil, Bool.not_true, Bool.not_false, Bool.and_true, Bool.true_and, Bool.and_self, Bool.false_eq_true, Bool.not_eq_true, Bool.not_eq_true', Bool.not_not, Bool.not_eq_false, decide_eq_true_eq, decide_eq_false_iff_not, if_true, if_false, true_and, and_true, false_and, and_false, List.nodup_cons, List.not_mem_nil, List.nodup_nil, not_false_eq_true, not_true_eq_false, eq_self, reduceCtorEq, List.length_cons, List.length_nil, Nat.reduceAdd, Nat.reduceLeDiff, Int.reduceToNat, Int.reduceLE, Int.reduceNeg, implies_true, ite_self])
local macro_rules | `(tactic| walk_at "vs") => `(tactic| repeat' (first
  | assumption
  | exact trivial
  | exact cm_r (by decide) (by decide)
  | exact cm_l (by decide) (by decide)
  | exact cpow_of (by decide) (by decide) (by decide)
  | omega
  | (refine And.intro ?_ ?_)
  | (intro)
  | split))
theorem e_prI {xs : List (Nat × Nat)} {i : Int} {P : D → Prop} : (∃ z, atI (xs.map pr) i = some z ∧ P z) = (∃ p, atI xs i = some p ∧ P (pr p)) := atI_ex pr
theorem mm_law_pair : ∀ as R, m_law_pair as R → ds_law_pair (endsM jok as R) (startS ["fount", "letters", "long", "first", "kind"] as) := by
  intro as R h
  unfold m_law_pair at h
  split at h
  · rename_i s
    obtain ⟨hs, h⟩ := h
    show ds_law_pair _ [.jar, .d (.str _), .un, .un, .un]
    unfold ds_law_pair
    walk_at "vc"
    have oc : ∀ (w : List Nat) (lo hi : Option Int), Over s w → Over s (cut w lo hi) := fun w lo hi ho c hc => ho c (cut_mem hc)
    have lc : ∀ (w : List Nat) (lo hi : Option Int), w.length ≤ 60 → (cut w lo hi).length ≤ 60 := fun w lo hi h => Nat.le_trans (cut_len w lo hi) h
    repeat' (first | exact hs | decide | omega | assumption | (refine oc _ _ _ ?_) | (refine lc _ _ _ ?_) | (refine h _ _ ?_ ?_ ?_ ?_) | (refine And.intro ?_ ?_) | (intro) | split)
  · exact h.elim
theorem mm_law_bent : ∀ as R, m_law_bent as R → ds_law_bent (endsM jok as R) (startS ["fount", "letters", "row", "sides", "at", "kind", "letter"] as) := by
  intro as R h
  unfold m_law_bent at h
  split at h
  · rename_i s xs
    obtain ⟨hs, r, rfl, h1, h2, h⟩ := h
    show ds_law_bent _ [.jar, .d (.str _), .d (.tup _), .un, .un, .un, .un]
    unfold ds_law_bent
    walk_at "vc"
    simp only [cut_map, e_prI, List.length_map]
    have sl := sideL_len hs
    have so := okR_side hs
    have s0 : 0 < (sideL s).length := by
      have e := hs.1
      unfold sideL
      rw [List.length_append, List.length_map]
      omega
    have oc : ∀ lo hi : Option Int, okR (cut r lo hi) := fun lo hi p hp => h1 p (cut_mem hp)
    have lc := fun lo hi : Option Int => cut_len r lo hi
    have oa : ∀ a b : List (Nat × Nat), okR a → okR b → okR (a ++ b) := fun a b ha hb p hp => (List.mem_append.mp hp).elim (ha p) (hb p)
    have o1 : ∀ p, p ∈ sideL s → okR [p] := fun p hp q hq => by rw [List.mem_singleton.mp hq]; exact so p hp
    have lm : ∀ l : List (Nat × Nat), (l.map pr).length = l.length := fun l => List.length_map _
    have at' : ∀ i : Int, 0 ≤ i → i < (sideL s).length → ∃ p, atI (sideL s) i = some p ∧ p ∈ sideL s := fun i i0 i1 => ⟨_, atI_in i0 i1, List.getElem_mem _⟩
    refine ⟨hs, by omega, by omega, fun v v0 v1 => ⟨by decide, by decide, fun k k0 k1 => ?_⟩⟩
    have c2 := cut_two r v0
    have c3 : (cut r none (some v)).length + (cut r (some (v + 1)) none).length ≤ r.length := by
      have := cut_two r v0
      have h5 : (cut r (some (v + 1)) none).length ≤ (cut r (some v) none).length := by
        obtain ⟨j, rfl⟩ := Int.eq_ofNat_of_zero_le v0
        unfold cut
        rw [show ((j : Int) + 1) = ((j + 1 : Nat) : Int) from rfl, HT.sIx_nat, HT.sIx_none, HT.sIx_nat, List.length_take, List.length_take, List.length_drop, List.length_drop]
        omega
      omega
    have q1 := lc none (some v)
    have q2 := lc (some v) none
    have mk : ∀ l : List D, ∀ r' : List (Nat × Nat), l = r'.map pr → okR r' → r'.length ≤ 61 → R (.tup l) := fun l r' e a b => by rw [e]; exact h r' a b
    split
    · refine ⟨by omega, by omega, fun u u0 u1 => ?_⟩
      obtain ⟨p, e, hp⟩ := at' u u0 u1
      refine ⟨p, e, by omega, by rw [List.length_append, List.length_map, List.length_singleton]; omega, mk _ (cut r none (some v) ++ [p] ++ cut r (some v) none) (by rw [List.map_append, List.map_append]; rfl) (oa _ _ (oa _ _ (oc _ _) (o1 p hp)) (oc _ _)) (by rw [List.length_append, List.length_append, List.length_singleton]; omega)⟩
    · split
      · refine ⟨by omega, by omega, fun u u0 u1 => ?_⟩
        obtain ⟨p, e, hp⟩ := at' u u0 u1
        refine ⟨p, e, by omega, by rw [List.length_append, List.length_map, List.length_singleton]; omega, mk _ (cut r none (some v) ++ [p] ++ cut r (some (v + 1)) none) (by rw [List.map_append, List.map_append]; rfl) (oa _ _ (oa _ _ (oc _ _) (o1 p hp)) (oc _ _)) (by rw [List.length_append, List.length_append, List.length_singleton]; omega)⟩
      · split
        · refine ⟨by omega, by omega, fun u u0 u1 => ?_⟩
          obtain ⟨p, e, hp⟩ := at' u u0 u1
          exact ⟨p, e, by omega, mk _ (r ++ [p]) (by rw [List.map_append]; rfl) (oa _ _ h1 (o1 p hp)) (by rw [List.length_append, List.length_singleton]; omega)⟩
        · split
          · refine lcR_inv (fun xs acc => ∃ u w, xs = List.map pr u ∧ acc = (w.map fun p => (p.2, p.1)).map pr ∧ w ++ u = cut r none (some v)) ⟨_, [], rfl, rfl, rfl⟩ (fun acc hP => ?_) (fun x q acc hP N hN => ?_)
            · obtain ⟨u, w, e, rfl, e2⟩ := hP
              cases u with
              | cons _ _ => cases e
              | nil =>
              rw [List.append_nil] at e2
              subst e2
              walk_at "vc"
              simp only [cut_map, List.length_map]
              refine ⟨by omega, mk _ (((cut r none (some v)).map fun p => (p.2, p.1)) ++ cut r (some v) none) (by rw [List.map_append]) (oa _ _ (fun p hp => ?_) (oc _ _)) (by rw [List.length_append, List.length_map]; omega)⟩
              obtain ⟨q, hq, rfl⟩ := List.mem_map.mp hp
              intro e
              refine oc _ _ q hq ?_
              obtain ⟨a, b⟩ := q
              have e1 : b = 46 := congrArg Prod.fst e
              have e2 : a = 46 := congrArg Prod.snd e
              rw [e1, e2]
            · obtain ⟨u, w, e, rfl, e2⟩ := hP
              cases u with
              | nil => cases e
              | cons p u =>
              rw [List.map_cons] at e
              cases e
              have hl : w.length ≤ 60 := by
                have := congrArg List.length e2
                rw [List.length_append] at this
                omega
              have hN := hN (((w.map fun p => (p.2, p.1)).map pr) ++ [.str [p.2, p.1]]) ⟨u, w ++ [p], rfl, by rw [List.map_append, List.map_append]; rfl, by rw [← e2, List.append_assoc]; rfl⟩
              have ep : pr p = D.str [p.1, p.2] := rfl
              rw [ep]
              walk_at "vc"
              exact ⟨by rw [List.length_map, List.length_map]; omega, hN⟩
          · exact ⟨by omega, mk _ (cut r (some v) none ++ cut r none (some v)) (by rw [List.map_append]) (oa _ _ (oc _ _) (oc _ _)) (by rw [List.length_append]; omega)⟩
  · exact h.elim
end K10
namespace K10
open PySem PySem.Spec L2 DL
local macro_rules | `(tactic| walk_at "vc") => `(tactic| simp (maxSteps := 600000) only [↓all_jok, ↓jok_is, ↓c_side_letters, ↓c_lside_letters, ↓c_side_row, ↓c_law_row, ↓c_rows_words, ↓c_law_words, ↓c_same0, ↓c_same, ↓c_fount, ↓c_sort, ↓c_letters, ↓c_word, ↓c_pair, ↓c_bent, ↓c_by_hand, ↓x_rev, ↓e_rev, ↓x_enT, ↓e_tup1, ↓x_zpT, ↓e_tup2, ↓e_all, ↓e_rstrip, ↓x_seq, ↓x_next, ↓x_brk, ↓x_cnt, ↓x_drop, ↓x_ret, ↓x_retN, ↓x_retL, ↓x_retO, ↓x_if, ↓x_asg, ↓x_par, ↓x_own, ↓x_gN, ↓x_gT, ↓x_gnil, ↓x_gcons, ↓x_var, ↓x_C, ↓x_nil, ↓x_cons, ↓x_tup, ↓x_lst, ↓x_llst, ↓x_llist, ↓x_lcat, ↓x_fz, ↓x_op, ↓x_tst, ↓x_tru, ↓x_chain, ↓x_and, ↓x_or, ↓x_not, ↓x_andV, ↓x_orV, ↓x_notV, ↓x_ifE, ↓x_neg, ↓x_ixM, ↓x_noP, ↓x_P, ↓x_sl, ↓x_cb, ↓x_isi, ↓x_noRo, ↓x_seti, ↓x_augi, ↓x_aug2, ↓x_aug, ↓x_app, ↓x_ext, ↓x_pop, ↓x_lenN, ↓x_truN, ↓x_open, ↓x_openW, ↓x_for, ↓x_lnil, ↓x_lcons, ↓x_iseq, ↓x_r1, ↓x_r2, ↓x_r3, ↓x_call, ↓x_jnil, ↓x_jv, ↓x_jj, ↓x_tnil, ↓x_tv, ↓x_tj, ↓x_jar, ↓x_callO, ↓x_m1, ↓x_join, ↓x_joinRev, ↓x_sortS, ↓x_lc, ↓x_lcnil, ↓x_lccons, ↓x_yes, ↓x_nx, ↓x_rt, ↓x_onx, ↓x_oro, ↓x_unp, ↓x_mt, ↓e_add_int, ↓e_add_str, ↓e_add_tup, ↓e_add_lst, ↓e_sub, ↓e_mod, ↓e_fdiv, ↓e_pow, ↓e_shl, ↓e_mul_int, ↓e_mul_str, ↓e_mul_lst, ↓e_lt_int, ↓e_lt_str, ↓e_le_int, ↓e_le_str, ↓e_gt_int, ↓e_gt_str, ↓e_ge_int, ↓e_ge_str, ↓e_eq_ii, ↓e_eq_ss, ↓e_eq_bb, ↓e_eq_is, ↓e_eq_si, ↓e_eq_ni, ↓e_eq_in, ↓e_eq_ns, ↓e_eq_sn, ↓e_eq_bs, ↓e_eq_sb, ↓e_ne_ii, ↓e_ne_ss, ↓e_ne_bb, ↓e_ne_is, ↓e_ne_si, ↓e_ne_ni, ↓e_ne_in, ↓e_ne_ns, ↓e_ne_sn, ↓e_ne_bs, ↓e_ne_sb, ↓e_is, ↓e_isnt, ↓e_inS, ↓e_ninS, ↓e_len_str, ↓e_len_tup, ↓e_len_lst, ↓e_len_ro, ↓e_int_i, ↓e_int_b, ↓e_int2, ↓e_abs, ↓e_tup_l, ↓e_tup_t, ↓e_lst_l, ↓e_lst_t, ↓e_lst_r, ↓e_str, ↓e_ix_str, ↓e_ix_tup, ↓e_ix_lst, ↓e_ix_ro, ↓e_sl_str, ↓e_sl_tup, ↓e_sl_lst, ↓e_sl_ro, ↓e_bl, ↓e_i, ↓e_s, ↓e_t, ↓e_l, ↓e_sx, ↓e_ll2, ↓e_two, ↓e_hd, ↓e_r2, ↓e_r3, ↓e_ixm, ↓e_tru_b, ↓e_tru_i, ↓e_tru_n, ↓e_tru_s, ↓e_tru_t, ↓e_tru_l, ↓e_it_l, ↓e_it_r, ↓e_it_t, ↓e_it_s, ↓e_ll_l, ↓e_ll_t, ↓e_ll_r, ↓e_join_l, ↓e_join_t, ↓e_joinRev, ↓e_sort, ↓e_index, ↓e_ati2, ↓e_ats2, ↓e_ati3, ↓e_ats3, ↓e_ati4, ↓e_ats4, ↓e_ati5, ↓e_ats5, ↓e_ati6, ↓e_ats6, ↓e_ati7, ↓e_ats7, ↓e_ati8, ↓e_ats8, ↓e_ati9, ↓e_ats9, ↓e_ati10, ↓e_ats10, ↓e_ati11, ↓e_ats11, ↓e_ati12, ↓e_ats12, ↓e_ati13, ↓e_ats13, ↓e_ati14, ↓e_ats14, ↓e_ati15, ↓e_ats15, ↓e_ati16, ↓e_ats16, ↓e_atI, ↓e_atS, ↓e_kit_NoneType_int, ↓e_kit_NoneType_str, ↓e_kit_NoneType_bool, ↓e_kit_NoneType_tuple, ↓e_kit_NoneType_list, ↓e_kit_bool_int, ↓e_kit_bool_str, ↓e_kit_bool_bool, ↓e_kit_bool_tuple, ↓e_kit_bool_list, ↓e_kit_int_int, ↓e_kit_int_str, ↓e_kit_int_bool, ↓e_kit_int_tuple, ↓e_kit_int_list, ↓e_kit_str_int, ↓e_kit_str_str, ↓e_kit_str_bool, ↓e_kit_str_tuple, ↓e_kit_str_list, ↓e_kit_tuple_int, ↓e_kit_tuple_str, ↓e_kit_tuple_bool, ↓e_kit_tuple_tuple, ↓e_kit_tuple_list, ↓e_kit_list_int, ↓e_kit_list_str, ↓e_kit_list_bool, ↓e_kit_list_tuple, ↓e_kit_list_list, ↓e_at0, ↓e_ixn0, ↓e_at1, ↓e_ixn1, ↓e_at2, ↓e_ixn2, ↓e_at3, ↓e_ixn3, ↓e_at4, ↓e_ixn4, ↓e_at5, ↓e_ixn5, ↓e_at6, ↓e_ixn6, ↓e_at7, ↓e_ixn7, ↓e_at8, ↓e_ixn8, ↓e_at9, ↓e_ixn9, ↓get0, ↓set0, ↓get1, ↓set1, ↓get2, ↓set2, ↓get3, ↓set3, ↓get4, ↓set4, ↓get5, ↓set5, ↓get6, ↓set6, ↓get7, ↓set7, ↓get8, ↓set8, ↓get9, ↓set9, ↓get10, ↓set10, ↓get11, ↓set11, ↓get12, ↓set12, ↓get13, ↓set13, ↓get14, ↓set14, ↓get15, ↓set15, ↓get16, ↓set16, ↓get17, ↓set17, ↓get18, ↓set18, ↓get19, ↓set19, ↓get20, ↓set20, ↓get21, ↓set21, ↓get22, ↓set22, ↓get23, ↓set23, ↓get24, ↓set24, ↓get25, ↓set25, ↓rg0, ↓rg1, ↓rg2, ↓rg3, ↓rg4, ↓rg5, ↓rg6, ↓rg7, ↓rg8, litS_cons, litS_set, S.pin, S.mt, isN, noRo, jarsOf, backJ, wipeS, backS, noMt, List.all_cons, List.all_nil, List.map_cons, List.map_nil, Bool.not_true, Bool.not_false, Bool.and_true, Bool.true_and, Bool.and_self, Bool.false_eq_true, Bool.not_eq_true, Bool.not_eq_true', Bool.not_not, Bool.not_eq_false, decide_eq_true_eq, decide_eq_false_iff_not, if_true, if_false, true_and, and_true, false_and, and_false, List.nodup_cons, List.not_mem_nil, List.nodup_nil, not_false_eq_true, not_true_eq_false, eq_self, reduceCtorEq, List.length_cons, List.length_nil, Nat.reduceAdd, Nat.reduceLeDiff, Int.reduceToNat, Int.reduceLE, Int.reduceNeg, implies_true, ite_self])
local macro_rules | `(tactic| walk_at "vs") => `(tactic| repeat' (first
  | assumption
  | exact trivial
  | exact cm_r (by decide) (by decide)
  | exact cm_l (by decide) (by decide)
  | exact cpow_of (by decide) (by decide) (by decide)
  | omega
  | (refine And.intro ?_ ?_)
  | (intro)
  | split))
theorem ts (r : List (Nat × Nat)) (h : r.length ≤ 1000) : leaf (D.tup (r.map pr)) = true ∨ ∃ ss : List (List Nat), D.tup (r.map pr) = D.tup (ss.map D.str) ∧ ss.length ≤ 1000 := Or.inr ⟨r.map fun p => [p.1, p.2], by rw [List.map_map]; rfl, by rw [List.length_map]; exact h⟩
theorem wdS (r : List (Nat × Nat)) : leaf (wd r) = true ∨ ∃ ss : List (List Nat), wd r = D.tup (ss.map D.str) ∧ ss.length ≤ 1000 := by
  unfold wd
  split
  · exact Or.inr ⟨[nd (r.map (·.1)), nd (r.map (·.2))], rfl, by show 2 ≤ 1000; decide⟩
  · exact Or.inl rfl
theorem rowL_len (a b : List Nat) : (rowL a b).length = max a.length b.length := by
  unfold rowL
  rw [List.length_map, List.length_range]
theorem row_wd {s a b : List Nat} (ha : Over s a) (hb : Over s b) (hs : Ls s) : wd (rowL a b) = .tup [.str a, .str b] := (wd_row hs ha hb).1
theorem row_ok {s a b : List Nat} (ha : Over s a) (hb : Over s b) (hs : Ls s) : okR (rowL a b) := (wd_row hs ha hb).2.1
theorem mm_law_by_hand : ∀ as R, m_law_by_hand as R → ds_law_by_hand (endsM jok as R) (startS ["row"] as) := by
  intro as R h
  unfold m_law_by_hand at h
  split at h
  · show ds_law_by_hand _ [.un]
    unfold ds_law_by_hand
    walk_at "vc"
    have hl : Ls [99, 120] := ⟨by decide, by decide, by decide⟩
    refine ⟨rfl, ts _ (by decide), rfl, ts _ (by decide), ⟨[(100, 100), (46, 99), (46, 100)], rfl, by unfold okR; decide, by decide, rfl, wdS _, ?_⟩⟩
    refine ⟨[], rfl, by unfold okR; decide, by decide, rfl, wdS _, ?_⟩
    refine ⟨[(46, 99), (99, 99)], rfl, by unfold okR; decide, by decide, rfl, wdS _, ?_⟩
    refine ⟨[(100, 46), (46, 100)], rfl, by unfold okR; decide, by decide, rfl, wdS _, ?_⟩
    refine ⟨[(99, 100), (100, 46), (100, 100)], rfl, by unfold okR; decide, by decide, rfl, wdS _, ?_⟩
    refine ⟨[(46, 99), (99, 46)], rfl, by unfold okR; decide, by decide, rfl, wdS _, ?_⟩
    exact ⟨hl, rfl, ts _ (by decide), h⟩
  · exact h.elim
theorem mm_law : ∀ as R, m_law as R → ds_law (endsM jok as R) (startS ["script", "fount", "lap", "letters", "one", "other", "row", "turn", "bent"] as) := by
  intro as R h
  unfold m_law at h
  split at h
  · show ds_law _ [.d (.ro _), .un, .un, .un, .un, .un, .un, .un, .un]
    unfold ds_law
    walk_at "vc"
    intro a b c hc
    refine ⟨hc, ?_⟩
    simp only [rowL_len]
    repeat' (first
      | exact h
      | assumption
      | exact wdS _
      | exact ts _ (Nat.le_trans (sideL_len (by assumption)) (by decide))
      | exact ts _ (by rw [rowL_len]; omega)
      | exact row_wd (by assumption) (by assumption) (by assumption)
      | exact row_ok (by assumption) (by assumption) (by assumption)
      | omega
      | (refine And.intro ?_ ?_)
      | (intro))
  · exact h.elim
end K10
namespace K10
open PySem PySem.Spec L2 DL
theorem len_side_letters : ∀ as R, m_side_letters as R → as.length = 1 := by
  intro as R h
  unfold m_side_letters at h
  split at h
  · rfl
  · exact h.elim
theorem len_side_row : ∀ as R, m_side_row as R → as.length = 2 := by
  intro as R h
  unfold m_side_row at h
  split at h
  · rfl
  · exact h.elim
theorem len_rows_words : ∀ as R, m_rows_words as R → as.length = 1 := by
  intro as R h
  unfold m_rows_words at h
  split at h
  · rfl
  · exact h.elim
theorem len_law_fount : ∀ as R, m_law_fount as R → as.length = 1 := by
  intro as R h
  unfold m_law_fount at h
  split at h
  · rfl
  · exact h.elim
theorem len_law_sort : ∀ as R, m_law_sort as R → as.length = 2 := by
  intro as R h
  unfold m_law_sort at h
  split at h
  · rfl
  · exact h.elim
theorem len_law_letters : ∀ as R, m_law_letters as R → as.length = 1 := by
  intro as R h
  unfold m_law_letters at h
  split at h
  · rfl
  · exact h.elim
theorem len_law_word : ∀ as R, m_law_word as R → as.length = 3 := by
  intro as R h
  unfold m_law_word at h
  split at h
  · rfl
  · exact h.elim
theorem len_law_side_letters : ∀ as R, m_law_side_letters as R → as.length = 1 := by
  intro as R h
  unfold m_law_side_letters at h
  split at h
  · rfl
  · exact h.elim
theorem len_law_row : ∀ as R, m_law_row as R → as.length = 2 := by
  intro as R h
  unfold m_law_row at h
  split at h
  · rfl
  · exact h.elim
theorem len_law_words : ∀ as R, m_law_words as R → as.length = 1 := by
  intro as R h
  unfold m_law_words at h
  split at h
  · rfl
  · exact h.elim
theorem len_law_same0 : ∀ as R, m_law_same0 as R → as.length = 2 := by
  intro as R h
  unfold m_law_same0 at h
  split at h
  · rfl
  · exact h.elim
theorem len_law_same : ∀ as R, m_law_same as R → as.length = 2 := by
  intro as R h
  unfold m_law_same at h
  split at h
  · rfl
  · exact h.elim
theorem len_law_pair : ∀ as R, m_law_pair as R → as.length = 2 := by
  intro as R h
  unfold m_law_pair at h
  split at h
  · rfl
  · exact h.elim
theorem len_law_bent : ∀ as R, m_law_bent as R → as.length = 3 := by
  intro as R h
  unfold m_law_bent at h
  split at h
  · rfl
  · exact h.elim
theorem len_law_by_hand : ∀ as R, m_law_by_hand as R → as.length = 0 := by
  intro as R h
  unfold m_law_by_hand at h
  split at h
  · rfl
  · exact h.elim
theorem len_law : ∀ as R, m_law as R → as.length = 1 := by
  intro as R h
  unfold m_law at h
  split at h
  · rfl
  · exact h.elim
theorem bd_side_letters : ∀ (kV doc pm : Value) (an : Option Addr) (cdv ct : Value), BAll (PySem.W.fnOf "side_letters" "side_letters" (defArgs s_side_letters) (defBody s_side_letters) (defScope s_side_letters) .none kV doc pm an cdv ct) ["letters"] := fun _ _ _ _ _ _ us hl => match us, hl with | [_], _ => rfl
theorem bd_side_row : ∀ (kV doc pm : Value) (an : Option Addr) (cdv ct : Value), BAll (PySem.W.fnOf "side_row" "side_row" (defArgs s_side_row) (defBody s_side_row) (defScope s_side_row) .none kV doc pm an cdv ct) ["one", "other"] := fun _ _ _ _ _ _ us hl => match us, hl with | [_, _], _ => rfl
theorem bd_rows_words : ∀ (kV doc pm : Value) (an : Option Addr) (cdv ct : Value), BAll (PySem.W.fnOf "rows_words" "rows_words" (defArgs s_rows_words) (defBody s_rows_words) (defScope s_rows_words) .none kV doc pm an cdv ct) ["row"] := fun _ _ _ _ _ _ us hl => match us, hl with | [_], _ => rfl
theorem bd_law_fount : ∀ (kV doc pm : Value) (an : Option Addr) (cdv ct : Value), BAll (PySem.W.fnOf "_law_fount" "_law_fount" (defArgs s_law_fount) (defBody s_law_fount) (defScope s_law_fount) .none kV doc pm an cdv ct) ["script"] := fun _ _ _ _ _ _ us hl => match us, hl with | [_], _ => rfl
theorem bd_law_sort : ∀ (kV doc pm : Value) (an : Option Addr) (cdv ct : Value), BAll (PySem.W.fnOf "_law_sort" "_law_sort" (defArgs s_law_sort) (defBody s_law_sort) (defScope s_law_sort) .none kV doc pm an cdv ct) ["fount", "many"] := fun _ _ _ _ _ _ us hl => match us, hl with | [_, _], _ => rfl
theorem bd_law_letters : ∀ (kV doc pm : Value) (an : Option Addr) (cdv ct : Value), BAll (PySem.W.fnOf "_law_letters" "_law_letters" (defArgs s_law_letters) (defBody s_law_letters) (defScope s_law_letters) .none kV doc pm an cdv ct) ["fount"] := fun _ _ _ _ _ _ us hl => match us, hl with | [_], _ => rfl
theorem bd_law_word : ∀ (kV doc pm : Value) (an : Option Addr) (cdv ct : Value), BAll (PySem.W.fnOf "_law_word" "_law_word" (defArgs s_law_word) (defBody s_law_word) (defScope s_law_word) .none kV doc pm an cdv ct) ["fount", "letters", "length"] := fun _ _ _ _ _ _ us hl => match us, hl with | [_, _, _], _ => rfl
theorem bd_law_side_letters : ∀ (kV doc pm : Value) (an : Option Addr) (cdv ct : Value), BAll (PySem.W.fnOf "_law_side_letters" "_law_side_letters" (defArgs s_law_side_letters) (defBody s_law_side_letters) (defScope s_law_side_letters) .none kV doc pm an cdv ct) ["letters"] := fun _ _ _ _ _ _ us hl => match us, hl with | [_], _ => rfl
theorem bd_law_row : ∀ (kV doc pm : Value) (an : Option Addr) (cdv ct : Value), BAll (PySem.W.fnOf "_law_row" "_law_row" (defArgs s_law_row) (defBody s_law_row) (defScope s_law_row) .none kV doc pm an cdv ct) ["one", "other"] := fun _ _ _ _ _ _ us hl => match us, hl with | [_, _], _ => rfl
theorem bd_law_words : ∀ (kV doc pm : Value) (an : Option Addr) (cdv ct : Value), BAll (PySem.W.fnOf "_law_words" "_law_words" (defArgs s_law_words) (defBody s_law_words) (defScope s_law_words) .none kV doc pm an cdv ct) ["row"] := fun _ _ _ _ _ _ us hl => match us, hl with | [_], _ => rfl
theorem bd_law_same : ∀ (kV doc pm : Value) (an : Option Addr) (cdv ct : Value), BAll (PySem.W.fnOf "_law_same" "_law_same" (defArgs s_law_same) (defBody s_law_same) (defScope s_law_same) .none kV doc pm an cdv ct) ["one", "two"] := fun _ _ _ _ _ _ us hl => match us, hl with | [_, _], _ => rfl
theorem bd_law_pair : ∀ (kV doc pm : Value) (an : Option Addr) (cdv ct : Value), BAll (PySem.W.fnOf "_law_pair" "_law_pair" (defArgs s_law_pair) (defBody s_law_pair) (defScope s_law_pair) .none kV doc pm an cdv ct) ["fount", "letters"] := fun _ _ _ _ _ _ us hl => match us, hl with | [_, _], _ => rfl
theorem bd_law_bent : ∀ (kV doc pm : Value) (an : Option Addr) (cdv ct : Value), BAll (PySem.W.fnOf "_law_bent" "_law_bent" (defArgs s_law_bent) (defBody s_law_bent) (defScope s_law_bent) .none kV doc pm an cdv ct) ["fount", "letters", "row"] := fun _ _ _ _ _ _ us hl => match us, hl with | [_, _, _], _ => rfl
theorem bd_law_by_hand : ∀ (kV doc pm : Value) (an : Option Addr) (cdv ct : Value), BAll (PySem.W.fnOf "_law_by_hand" "_law_by_hand" (defArgs s_law_by_hand) (defBody s_law_by_hand) (defScope s_law_by_hand) .none kV doc pm an cdv ct) [] := fun _ _ _ _ _ _ us hl => match us, hl with | [], _ => rfl
theorem bd_law : ∀ (kV doc pm : Value) (an : Option Addr) (cdv ct : Value), BAll (PySem.W.fnOf "law" "law" (defArgs s_law) (defBody s_law) (defScope s_law) .none kV doc pm an cdv ct) ["script"] := fun _ _ _ _ _ _ us hl => match us, hl with | [_], _ => rfl
theorem law_has {P : Program} {w : World} {K : PySem.W.Frag} {mg : Str → Option Value} {base : Heap} (T : Facts K mg) : Has P w K mg base 4 "law" ["script"] (spM K jok m_law) := by
  have h_side_letters := td_side_letters (P := P) (w := w) (base := base) T  len_side_letters mm_side_letters
  have h_side_row := td_side_row (P := P) (w := w) (base := base) T  len_side_row mm_side_row
  have h_rows_words := td_rows_words (P := P) (w := w) (base := base) T  len_rows_words mm_rows_words
  have h_law_fount := td_law_fount (P := P) (w := w) (base := base) T  len_law_fount mm_law_fount
  have h_law_sort := td_law_sort (P := P) (w := w) (base := base) T  len_law_sort mm_law_sort
  have h_law_letters := td_law_letters (P := P) (w := w) (base := base) T h_law_sort len_law_letters mm_law_letters
  have h_law_word := td_law_word (P := P) (w := w) (base := base) T h_law_sort len_law_word mm_law_word
  have h_law_side_letters := td_law_side_letters (P := P) (w := w) (base := base) T  len_law_side_letters mm_law_side_letters
  have h_law_row := td_law_row (P := P) (w := w) (base := base) T  len_law_row mm_law_row
  have h_law_words := td_law_words (P := P) (w := w) (base := base) T  len_law_words mm_law_words
  have r0 := has_never (P := P) (w := w) (base := base) (k := 0) (ok := jok) T.d_law_same
  have r1 := td_law_same (P := P) (w := w) (base := base) T (lv := 0) (by decide) r0 len_law_same0 mm_law_same0
  have r2 := td_law_same (P := P) (w := w) (base := base) T (lv := 1) (by decide) r1 len_law_same mm_law_same
  have h_law_same := r2
  have h_law_pair := td_law_pair (P := P) (w := w) (base := base) T h_law_word h_law_sort len_law_pair mm_law_pair
  have h_law_bent := td_law_bent (P := P) (w := w) (base := base) T h_law_side_letters h_law_sort len_law_bent mm_law_bent
  have h_law_by_hand := td_law_by_hand (P := P) (w := w) (base := base) T h_law_same h_side_letters h_side_row h_rows_words len_law_by_hand mm_law_by_hand
  have h_law := td_law (P := P) (w := w) (base := base) T h_law_fount h_law_by_hand h_law_letters h_law_pair h_law_row h_law_same h_law_bent h_side_letters h_law_side_letters h_side_row h_rows_words h_law_words len_law mm_law
  exact h_law
theorem end_mk {P : Program} {w : World} {K : PySem.W.Frag} {mg : Str → Option Value} {fa : Addr} (hfa : mg "law" = some (.ref fa)) (T : Facts K mg) :
    ∃ fd : FuncData, (∀ (s : Shared) (u : Value), BindsTo s fd ⟨[u], []⟩ [("script", u)]) ∧ ∀ base : Heap, K.In base → base.Ns mainGlobals mg → FnOk P w K mg base CX0 4 fa fd ["script"] (spM K jok m_law) :=
  law_end T.d_law hfa fun base _ _ => law_has T
end K10
open PySem PySem.W PyProof.Rows
set_option maxHeartbeats 0 in
theorem PySem.Challenge.cw_tornenough_k10_side_letters_holds : PySem.Challenge.rw_tornenough_k10_side_letters.Holds := by
  w_on; o_law; k_head; (case hw => w_witness2)
  k_fill
  refine L2.walk_of (l := PySem.Challenge.rw_tornenough_k10_side_letters) (n := 63) (k := 4) (x := "script") (CX := fun _ => L2.CX0) (sp := fun w => DL.spM _ K10.jok K10.m_law) rfl (by decide) rfl ⟨rfl, by decide, by decide⟩ (fun w h Y => PySem.W.kIn_of Y) ?F (fun _ _ a ns hl _ hS => DL.sp_ro hS fun R r => r) (fun _ _ _ _ _ h => h)
  case F =>
    intro w mg fa h KX G hmg
    refine' K10.end_mk hmg (K10.Facts.mk (DL.defat_mk KX G K10.bd_side_letters ?a0 ?l0 ?c0 ?k0) (DL.defat_mk KX G K10.bd_side_row ?a1 ?l1 ?c1 ?k1) (DL.defat_mk KX G K10.bd_rows_words ?a2 ?l2 ?c2 ?k2) (DL.defat_mk KX G K10.bd_law_fount ?a3 ?l3 ?c3 ?k3) (DL.defat_mk KX G K10.bd_law_sort ?a4 ?l4 ?c4 ?k4) (DL.defat_mk KX G K10.bd_law_letters ?a5 ?l5 ?c5 ?k5) (DL.defat_mk KX G K10.bd_law_word ?a6 ?l6 ?c6 ?k6) (DL.defat_mk KX G K10.bd_law_side_letters ?a7 ?l7 ?c7 ?k7) (DL.defat_mk KX G K10.bd_law_row ?a8 ?l8 ?c8 ?k8) (DL.defat_mk KX G K10.bd_law_words ?a9 ?l9 ?c9 ?k9) (DL.defat_mk KX G K10.bd_law_same ?a10 ?l10 ?c10 ?k10) (DL.defat_mk KX G K10.bd_law_pair ?a11 ?l11 ?c11 ?k11) (DL.defat_mk KX G K10.bd_law_bent ?a12 ?l12 ?c12 ?k12) (DL.defat_mk KX G K10.bd_law_by_hand ?a13 ?l13 ?c13 ?k13) (DL.defat_mk KX G K10.bd_law ?a14 ?l14 ?c14 ?k14) (PySem.W.mg_none_of KX G ?z15) (PySem.W.mg_none_of KX G ?z16) (PySem.W.mg_none_of KX G ?z17) (PySem.W.mg_none_of KX G ?z18) (PySem.W.mg_none_of KX G ?z19) (PySem.W.mg_none_of KX G ?z20) (PySem.W.mg_none_of KX G ?z21) (PySem.W.mg_none_of KX G ?z22) (PySem.W.mg_none_of KX G ?z23) (PySem.W.mg_none_of KX G ?z24))
    (case a0 => k_is); (case l0 => k_is); (case c0 => k_is); (case k0 => k_is); (case a1 => k_is); (case l1 => k_is); (case c1 => k_is); (case k1 => k_is); (case a2 => k_is); (case l2 => k_is); (case c2 => k_is); (case k2 => k_is); (case a3 => k_is); (case l3 => k_is); (case c3 => k_is); (case k3 => k_is); (case a4 => k_is); (case l4 => k_is); (case c4 => k_is); (case k4 => k_is); (case a5 => k_is); (case l5 => k_is); (case c5 => k_is); (case k5 => k_is); (case a6 => k_is); (case l6 => k_is); (case c6 => k_is); (case k6 => k_is); (case a7 => k_is); (case l7 => k_is); (case c7 => k_is); (case k7 => k_is); (case a8 => k_is); (case l8 => k_is); (case c8 => k_is); (case k8 => k_is); (case a9 => k_is); (case l9 => k_is); (case c9 => k_is); (case k9 => k_is); (case a10 => k_is); (case l10 => k_is); (case c10 => k_is); (case k10 => k_is); (case a11 => k_is); (case l11 => k_is); (case c11 => k_is); (case k11 => k_is); (case a12 => k_is); (case l12 => k_is); (case c12 => k_is); (case k12 => k_is); (case a13 => k_is); (case l13 => k_is); (case c13 => k_is); (case k13 => k_is); (case a14 => k_is); (case l14 => k_is); (case c14 => k_is); (case k14 => k_is); (case z15 => k_is); (case z16 => k_is); (case z17 => k_is); (case z18 => k_is); (case z19 => k_is); (case z20 => k_is); (case z21 => k_is); (case z22 => k_is); (case z23 => k_is); (case z24 => k_is)
