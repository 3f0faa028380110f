import PyProof.Rows.All
import Wide.All
import OpenK.AllK
import Wide.FinOn
import HandS.ForMost
import HandS.Walk
import HandS.Wide
import HandS.IsInst
import HandS.Style
import KE.GoesEnum
import PyProof.SumWalk
import PyProof.SumWalkG
import HandS.Ends
import PySem.Challenge.RW_holeslides_k03_pieces
set_option Elab.async false
set_option linter.all false
set_option maxRecDepth 100000
set_option maxHeartbeats 1000000
/-! values as data, objects of one's own as data too: what a state means by plain data -/
namespace Vl
open PySem PySem.Spec PyProof.Rows L2

inductive D where
  | non | bl (b : Bool) | int (i : Int) | str (s : Str) | lst (xs : List D) | tup (xs : List D) | op (v : V) | rol (ns : List Int)
instance : Inhabited D := ⟨.non⟩
inductive OD where
  | fz (d : D) | own (a : Addr) (xs : List OD) | vol (a : Addr) (φ : HO → Prop)
instance : Inhabited OD := ⟨.fz .non⟩
abbrev En := List (Option OD)

section
variable (K : PySem.W.Frag)
mutual
def Rep (G : Hp) : D → V → Prop
  | .non, v => v = .non
  | .bl b, v => v = .bl b
  | .int i, v => v = .int i
  | .str s, v => v = .str s
  | .lst ds, v => ∃ a vs, v = .ref a ∧ G a = some (.lst vs) ∧ Reps G ds vs
  | .tup ds, v => ∃ a vs, v = .ref a ∧ G a = some (.tup vs) ∧ Reps G ds vs
  | .op w, v => v = w
  | .rol ns, v => ∃ a, v = .ref a ∧ SqL K G a (ns.map V.int)
def Reps (G : Hp) : List D → List V → Prop
  | [], vs => vs = []
  | d :: ds, vs => ∃ v r, vs = v :: r ∧ Rep G d v ∧ Reps G ds r
end
mutual
def RepO (G H : Hp) : OD → V → Prop
  | .fz d, v => Rep K G d v
  | .own a xs, v => v = .ref a ∧ ∃ vs, H a = some (.lst vs) ∧ RepOs G H xs vs
  | .vol a φ, v => v = .ref a ∧ ∃ o, H a = some o ∧ φ o
def RepOs (G H : Hp) : List OD → List V → Prop
  | [], vs => vs = []
  | d :: ds, vs => ∃ v r, vs = v :: r ∧ RepO G H d v ∧ RepOs G H ds r
end
end
mutual
def foot : OD → List Addr
  | .fz _ => []
  | .own a xs => a :: foots xs
  | .vol a _ => [a]
def foots : List OD → List Addr
  | [] => []
  | x :: xs => foot x ++ foots xs
end
mutual
def dat : OD → D
  | .fz d => d
  | .own _ xs => .lst (dats xs)
  | .vol a _ => .op (.ref a)
def dats : List OD → List D
  | [] => []
  | x :: xs => dat x :: dats xs
end
def feet : En → List Addr
  | [] => []
  | none :: r => feet r
  | some x :: r => foot x ++ feet r
def thaw (δ : En) : En := δ.map fun o => o.map fun x => .fz (dat x)

section
variable {K : PySem.W.Frag} {G G' H H' : Hp}
theorem Same.tup (e : Same H H') {a : Addr} {xs : List V} (h : SqT K H a xs) : SqT K H' a xs := by
  rcases h with (h | ⟨o, h⟩) | h
  · exact .inl (.inl (e _ _ h))
  · exact .inl (.inr ⟨o, e _ _ h⟩)
  · exact .inr h
mutual
theorem Rep.mono (e : Same G G') : ∀ (d : D) (v : V), Rep K G d v → Rep K G' d v
  | .non, _, h => h
  | .bl _, _, h => h
  | .int _, _, h => h
  | .str _, _, h => h
  | .op _, _, h => h
  | .lst ds, v, h => by
    unfold Rep at h ⊢
    obtain ⟨a, vs, e1, h1, h2⟩ := h
    exact ⟨a, vs, e1, e _ _ h1, Reps.mono e ds vs h2⟩
  | .tup ds, v, h => by
    unfold Rep at h ⊢
    obtain ⟨a, vs, e1, h1, h2⟩ := h
    exact ⟨a, vs, e1, e _ _ h1, Reps.mono e ds vs h2⟩
  | .rol ns, v, h => by
    unfold Rep at h ⊢
    obtain ⟨a, e1, h1⟩ := h
    exact ⟨a, e1, e.seq h1⟩
theorem Reps.mono (e : Same G G') : ∀ (ds : List D) (vs : List V), Reps K G ds vs → Reps K G' ds vs
  | [], _, h => h
  | d :: ds, vs, h => by
    unfold Reps at h ⊢
    obtain ⟨v, r, e1, h1, h2⟩ := h
    exact ⟨v, r, e1, Rep.mono e d v h1, Reps.mono e ds r h2⟩
end
mutual
/-- the frozen part grows, the own objects stand -/
theorem RepO.mono (e : Same G G') : ∀ (d : OD) (v : V), (∀ a ∈ foot d, ∀ o, H a = some o → H' a = some o) → RepO K G H d v → RepO K G' H' d v
  | .fz d, v, _, h => by
    unfold RepO at h ⊢
    exact Rep.mono e d v h
  | .own a xs, v, k, h => by
    unfold RepO at h ⊢
    obtain ⟨e1, vs, h1, h2⟩ := h
    refine ⟨e1, vs, k a ?_ _ h1, RepOs.mono e xs vs (fun b hb => k b ?_) h2⟩
    · unfold foot; exact List.mem_cons_self
    · unfold foot; exact List.mem_cons_of_mem _ hb
  | .vol a φ, v, k, h => by
    unfold RepO at h ⊢
    obtain ⟨e1, o, h1, h2⟩ := h
    exact ⟨e1, o, k a (by unfold foot; exact List.mem_cons_self) _ h1, h2⟩
theorem RepOs.mono (e : Same G G') : ∀ (ds : List OD) (vs : List V), (∀ a ∈ foots ds, ∀ o, H a = some o → H' a = some o) → RepOs K G H ds vs → RepOs K G' H' ds vs
  | [], _, _, h => h
  | d :: ds, vs, k, h => by
    unfold RepOs at h ⊢
    obtain ⟨v, r, e1, h1, h2⟩ := h
    refine ⟨v, r, e1, RepO.mono e d v (fun b hb => k b ?_) h1, RepOs.mono e ds r (fun b hb => k b ?_) h2⟩
    · unfold foots; exact List.mem_append_left _ hb
    · unfold foots; exact List.mem_append_right _ hb
end
mutual
/-- the whole heap as the frozen part -/
theorem RepO.dat (e : Same G H) : ∀ (d : OD) (v : V), RepO K G H d v → Rep K H (dat d) v
  | .fz d, v, h => by
    unfold RepO at h
    unfold Vl.dat
    exact Rep.mono e d v h
  | .own a xs, v, h => by
    unfold RepO at h
    unfold Vl.dat Rep
    obtain ⟨e1, vs, h1, h2⟩ := h
    exact ⟨a, vs, e1, h1, RepOs.dat e xs vs h2⟩
  | .vol a φ, v, h => by
    unfold RepO at h
    unfold Vl.dat Rep
    exact h.1
theorem RepOs.dat (e : Same G H) : ∀ (ds : List OD) (vs : List V), RepOs K G H ds vs → Reps K H (dats ds) vs
  | [], _, h => by
    unfold RepOs at h
    unfold Vl.dats Reps
    exact h
  | d :: ds, vs, h => by
    unfold RepOs at h
    unfold Vl.dats Reps
    obtain ⟨v, r, e1, h1, h2⟩ := h
    exact ⟨v, r, e1, RepO.dat e d v h1, RepOs.dat e ds r h2⟩
end
theorem Reps.length : ∀ {ds : List D} {vs : List V}, Reps K G ds vs → vs.length = ds.length
  | [], _, h => by unfold Reps at h; subst h; rfl
  | d :: ds, vs, h => by
    unfold Reps at h
    obtain ⟨v, r, e1, _, h2⟩ := h
    rw [e1, List.length_cons, List.length_cons, Reps.length h2]
theorem Reps.get : ∀ {ds : List D} {vs : List V} {i : Nat} {d : D}, Reps K G ds vs → ds[i]? = some d → ∃ v, vs[i]? = some v ∧ Rep K G d v
  | [], _, _, _, _, e => by simp at e
  | d :: ds, vs, i, x, h, e => by
    unfold Reps at h
    obtain ⟨v, r, e1, h1, h2⟩ := h
    subst e1
    cases i with
    | zero => simp at e; subst e; exact ⟨v, rfl, h1⟩
    | succ i => simpa using Reps.get (i := i) h2 (by simpa using e)
theorem Reps.of_get : ∀ {ds : List D} {vs : List V}, vs.length = ds.length → (∀ (i : Nat) (d : D) (v : V), ds[i]? = some d → vs[i]? = some v → Rep K G d v) → Reps K G ds vs
  | [], vs, hl, _ => by
    unfold Reps
    exact List.eq_nil_of_length_eq_zero hl
  | d :: ds, [], hl, _ => by simp at hl
  | d :: ds, v :: vs, hl, h => by
    unfold Reps
    exact ⟨v, vs, rfl, h 0 d v rfl rfl, Reps.of_get (by simpa using hl) fun i x y e1 e2 => h (i + 1) x y (by simpa using e1) (by simpa using e2)⟩
theorem Reps.app : ∀ {ds es : List D} {vs us : List V}, Reps K G ds vs → Reps K G es us → Reps K G (ds ++ es) (vs ++ us)
  | [], es, vs, us, h, h' => by
    unfold Reps at h
    subst h
    exact h'
  | d :: ds, es, vs, us, h, h' => by
    unfold Reps at h
    obtain ⟨v, r, e1, h1, h2⟩ := h
    subst e1
    show Reps K G (d :: (ds ++ es)) (v :: (r ++ us))
    unfold Reps
    exact ⟨v, _, rfl, h1, Reps.app h2 h'⟩
theorem Reps.cons {d : D} {ds : List D} {v : V} {vs : List V} (h : Rep K G d v) (h' : Reps K G ds vs) : Reps K G (d :: ds) (v :: vs) := by
  unfold Reps
  exact ⟨v, vs, rfl, h, h'⟩
theorem Reps.nil : Reps K G [] [] := by unfold Reps; rfl
end

/-- what a step may do: the frozen part grows by new objects (or by own ones), all but the own objects stand -/
structure Grow (F : List Addr) (G H G' H' : Hp) : Prop where
  g : Same G G'
  h : ∀ a o, a ∉ F → H a = some o → H' a = some o
  new : ∀ a, G' a ≠ none → G a ≠ none ∨ H a = none ∨ a ∈ F
  there : ∀ a, H a ≠ none → H' a ≠ none
theorem Grow.refl {F : List Addr} {G H : Hp} : Grow F G H G H := ⟨Same.refl G, fun _ _ _ h => h, fun _ h => .inl h, fun _ h => h⟩
theorem Grow.trans {F F' : List Addr} {G H G1 H1 G2 H2 : Hp} (a : Grow F G H G1 H1) (b : Grow F' G1 H1 G2 H2) (hF : ∀ x ∈ F', x ∈ F ∨ H x = none) : Grow F G H G2 H2 where
  g := a.g.trans b.g
  h := fun x o hx e => b.h x o (fun z => (hF x z).elim hx fun q => by rw [q] at e; cases e) (a.h x o hx e)
  new := fun x hx => by
    rcases b.new x hx with q | q | q
    · exact a.new x q
    · refine .inr (.inl ?_)
      cases e : H x with
      | none => rfl
      | some o => exact absurd q (a.there x (by rw [e]; simp))
    · rcases hF x q with q | q
      · exact .inr (.inr q)
      · exact .inr (.inl q)
  there := fun x hx => b.there x (a.there x hx)

/-- the state as data: G the frozen part of H; the slots' values; own objects stand apart -/
structure Stt (K : PySem.W.Frag) (G H : Hp) (σ : L2.St) (δ : En) : Prop where
  ex : Same G H
  len : δ.length = σ.length
  rep : ∀ (i : Nat) (x : OD), δ[i]? = some (some x) → ∃ v, σ[i]? = some (some v) ∧ RepO K G H x v
  nd : (feet δ).Nodup
  off : ∀ a ∈ feet δ, G a = none ∧ H a ≠ none
theorem foot_in_feet : ∀ {δ : En} {i : Nat} {x : OD}, δ[i]? = some (some x) → ∀ a ∈ foot x, a ∈ feet δ
  | [], _, _, h => by simp at h
  | y :: r, 0, x, h => fun a ha => by
    simp at h
    subst h
    unfold feet
    exact List.mem_append_left _ ha
  | none :: r, i + 1, x, h => fun a ha => by
    unfold feet
    exact foot_in_feet (δ := r) (i := i) (by simpa using h) a ha
  | some y :: r, i + 1, x, h => fun a ha => by
    unfold feet
    exact List.mem_append_right _ (foot_in_feet (δ := r) (i := i) (by simpa using h) a ha)
theorem feet_set_mem : ∀ {δ : En} {i : Nat} {x : OD}, ∀ a ∈ feet (δ.set i (some x)), a ∈ foot x ∨ a ∈ feet δ
  | [], _, _ => fun a h => by simp [feet] at h
  | none :: r, 0, x => fun a h => by
    simp only [List.set_cons_zero, feet, List.mem_append] at h ⊢
    exact h
  | some y :: r, 0, x => fun a h => by
    simp only [List.set_cons_zero, feet, List.mem_append] at h ⊢
    rcases h with h | h
    · exact .inl h
    · exact .inr (.inr h)
  | none :: r, i + 1, x => fun a h => by
    simp only [List.set_cons_succ, feet] at h ⊢
    exact feet_set_mem a h
  | some y :: r, i + 1, x => fun a h => by
    simp only [List.set_cons_succ, feet, List.mem_append] at h ⊢
    rcases h with h | h
    · exact .inr (.inl h)
    · rcases feet_set_mem a h with h | h
      · exact .inl h
      · exact .inr (.inr h)
theorem feet_set_nd : ∀ {δ : En} {i : Nat} {x : OD}, (foot x ++ feet δ).Nodup → (feet (δ.set i (some x))).Nodup
  | [], _, _, h => by simp [feet]
  | none :: r, 0, x, h => by
    simpa only [List.set_cons_zero, feet] using h
  | some y :: r, 0, x, h => by
    simp only [List.set_cons_zero, feet] at h ⊢
    refine List.Nodup.sublist ?_ h
    exact List.Sublist.append (List.Sublist.refl _) (List.sublist_append_right _ _)
  | none :: r, i + 1, x, h => by
    simp only [List.set_cons_succ, feet] at h ⊢
    exact feet_set_nd h
  | some y :: r, i + 1, x, h => by
    simp only [List.set_cons_succ, feet] at h ⊢
    rw [List.nodup_append] at h ⊢
    obtain ⟨h1, h2, h3⟩ := h
    rw [List.nodup_append] at h2
    obtain ⟨h4, h5, h6⟩ := h2
    refine ⟨h4, feet_set_nd (List.nodup_append.mpr ⟨h1, h5, fun a ha b hb => h3 a ha b (List.mem_append_right _ hb)⟩), fun a ha b hb => ?_⟩
    rcases feet_set_mem b hb with q | q
    · exact fun e => h3 b q a (List.mem_append_left _ ha) e.symm
    · exact h6 a ha b q
theorem feet_none_sub : ∀ {δ : En} {i : Nat}, List.Sublist (feet (δ.set i none)) (feet δ)
  | [], _ => by simp
  | none :: r, 0 => by simp [feet]
  | some y :: r, 0 => by simp [feet]
  | none :: r, i + 1 => by
    simp only [List.set_cons_succ, feet]
    exact feet_none_sub
  | some y :: r, i + 1 => by
    simp only [List.set_cons_succ, feet]
    exact List.Sublist.append (List.Sublist.refl _) feet_none_sub
section
variable {K : PySem.W.Frag} {G H G' H' G1 H1 G2 H2 : Hp} {σ σ' σ1 σ2 : L2.St} {δ δ' δ1 δ2 : En} {v : V} {x : OD} {i : Nat}
/-- a step from state to state -/
structure Step (K : PySem.W.Frag) (G H : Hp) (δ : En) (G' H' : Hp) (σ' : L2.St) (δ' : En) : Prop where
  st : Stt K G' H' σ' δ'
  gr : Grow (feet δ) G H G' H'
  ft : ∀ a ∈ feet δ', a ∈ feet δ ∨ H a = none
theorem Stt.step (s : Stt K G H σ δ) : Step K G H δ G H σ δ := ⟨s, Grow.refl, fun _ h => .inl h⟩
theorem Step.trans (a : Step K G H δ G1 H1 σ1 δ1) (b : Step K G1 H1 δ1 G2 H2 σ2 δ2) : Step K G H δ G2 H2 σ2 δ2 where
  st := b.st
  gr := a.gr.trans b.gr a.ft
  ft := fun x hx => by
    rcases b.ft x hx with q | q
    · exact a.ft x q
    · refine .inr ?_
      cases e : H x with
      | none => rfl
      | some o => exact absurd q (a.gr.there x (by rw [e]; simp))
/-- frozen grows while own objects stand -/
theorem Stt.keep (s : Stt K G H σ δ) (g : Same G G') (e : Same G' H') (h : ∀ a ∈ feet δ, ∀ o, H a = some o → H' a = some o) (n : ∀ a ∈ feet δ, G' a = none) : Stt K G' H' σ δ where
  ex := e
  len := s.len
  rep := fun i x hx => by
    obtain ⟨v, hv, r⟩ := s.rep i x hx
    exact ⟨v, hv, RepO.mono g x v (fun a ha o ho => h a (foot_in_feet hx a ha) o ho) r⟩
  nd := s.nd
  off := fun a ha => ⟨n a ha, by
    have := (s.off a ha).2
    cases e : H a with
    | none => exact absurd e this
    | some o => rw [h a ha o e]; simp⟩
theorem Stt.push (s : Stt K G H σ δ) (r : RepO K G H x v) (nd : (foot x).Nodup) (off : ∀ a ∈ foot x, G a = none ∧ H a ≠ none ∧ a ∉ feet δ) : Stt K G H (some v :: σ) (some x :: δ) where
  ex := s.ex
  len := by rw [List.length_cons, List.length_cons, s.len]
  rep := fun i y hy => by
    cases i with
    | zero => simp at hy; subst hy; exact ⟨v, rfl, r⟩
    | succ i => simpa using s.rep i y (by simpa using hy)
  nd := by
    unfold feet
    exact List.nodup_append.mpr ⟨nd, s.nd, fun a ha b hb e => (off a ha).2.2 (e ▸ hb)⟩
  off := fun a ha => by
    unfold feet at ha
    rcases List.mem_append.mp ha with h | h
    · exact ⟨(off a h).1, (off a h).2.1⟩
    · exact s.off a h
theorem Stt.pushF {d : D} (s : Stt K G H σ δ) (r : Rep K G d v) : Stt K G H (some v :: σ) (some (.fz d) :: δ) :=
  s.push (by unfold RepO; exact r) (by unfold foot; exact List.nodup_nil) fun a h => by unfold foot at h; cases h
theorem Stt.top (s : Stt K G H (some v :: σ) (some x :: δ)) : RepO K G H x v := by
  obtain ⟨u, e, r⟩ := s.rep 0 x rfl
  simp at e
  subst e
  exact r
theorem Stt.pop {y : Option V} {z : Option OD} (s : Stt K G H (y :: σ) (z :: δ)) : Stt K G H σ δ where
  ex := s.ex
  len := by have := s.len; simpa using this
  rep := fun i y hy => by simpa using s.rep (i + 1) y (by simpa using hy)
  nd := by
    have := s.nd
    cases z with
    | none => simpa only [feet] using this
    | some z => unfold feet at this; exact (List.nodup_append.mp this).2.1
  off := fun a ha => s.off a (by
    cases z with
    | none => simpa only [feet] using ha
    | some z => unfold feet; exact List.mem_append_right _ ha)
/-- the value goes into the slot -/
theorem Stt.set (s : Stt K G H (some v :: σ) (some x :: δ)) (hi : i < δ.length) : Stt K G H (σ.set i (some v)) (δ.set i (some x)) where
  ex := s.ex
  len := by have := s.pop.len; simpa using this
  rep := fun j y hy => by
    have hl := s.pop.len
    by_cases e : j = i
    · subst e
      rw [List.getElem?_set_self hi] at hy
      cases hy
      exact ⟨v, by rw [List.getElem?_set_self (by omega)], s.top⟩
    · rw [List.getElem?_set_ne (Ne.symm e)] at hy
      obtain ⟨u, e1, r⟩ := s.pop.rep j y hy
      exact ⟨u, by rw [List.getElem?_set_ne (Ne.symm e)]; exact e1, r⟩
  nd := feet_set_nd (by have := s.nd; simpa only [feet] using this)
  off := fun a ha => s.off a (by
    unfold feet
    rcases feet_set_mem a ha with h | h
    · exact List.mem_append_left _ h
    · exact List.mem_append_right _ h)
theorem Step.set (s : Step K G H δ G' H' (some v :: σ') (some x :: δ')) (hi : i < δ'.length) : Step K G H δ G' H' (σ'.set i (some v)) (δ'.set i (some x)) :=
  ⟨s.st.set hi, s.gr, fun a ha => s.ft a (by
    unfold feet
    rcases feet_set_mem a ha with h | h
    · exact List.mem_append_left _ h
    · exact List.mem_append_right _ h)⟩
theorem Step.pop {y : Option V} {z : Option OD} (s : Step K G H δ G' H' (y :: σ') (z :: δ')) : Step K G H δ G' H' σ' δ' :=
  ⟨s.st.pop, s.gr, fun a ha => s.ft a (by
    cases z with
    | none => simpa only [feet] using ha
    | some z => unfold feet; exact List.mem_append_right _ ha)⟩
end
end Vl

namespace Vl
open PySem PySem.Spec PyProof.Rows L2

/-! ### the weakest readings -/
section
variable (X : Cx)
def wE (e : Expr) : TE := fun σ H Q => ∀ pins s, Inv X pins σ H s → wpAny (model X.prog X.w) X.A (eval e X.env) (EP X pins σ Q) X.xe s
def wT (e : Expr) : TT := fun σ H Q => ∀ pins s, Inv X pins σ H s → wpAny (model X.prog X.w) X.A (isTrue e X.env (eval e X.env)) (TP X pins σ Q) X.xe s
def wW (e : Expr) : TT := fun σ H Q => ∀ whole pins s, Inv X pins σ H s → wpAny (model X.prog X.w) X.A (isTrue e X.env whole) (TP X pins σ Q) X.xe s
def wA (es : List Expr) : TA := fun σ H Q => ∀ pos pins s, Inv X pins σ H s → wpAny (model X.prog X.w) X.A (spliced (backTo pos (starEach es X.env))) (AP X pins σ Q) X.xe s
def wS (st : Stmt) : TS := fun D σ H => ∀ pins s, Inv X pins σ H s → wpAny (model X.prog X.w) X.A (exec st X.env) (SP X pins D) X.xe s
def wB (st : List Stmt) : TS := fun D σ H => ∀ pins s, Inv X pins σ H s → wpAny (model X.prog X.w) X.A (execs st X.env) (SP X pins D) X.xe s
def wG (tg : Expr) : TG := fun v σ H Q => ∀ pins s u, Inv X pins σ H s → RelV v u → wpAny (model X.prog X.w) X.A (assign tg X.env u) (fun _ s' => ∃ σ' H', Inv X pins σ' H' s' ∧ Q σ' H') X.xe s
def wGs (ts : List Expr) : TGs := fun vs σ H Q => ∀ pins s us, Inv X pins σ H s → Vals vs us → wpAny (model X.prog X.w) X.A (assignInOrder ((assignEach ts X.env).map (·.2)) us) (fun _ s' => ∃ σ' H', Inv X pins σ' H' s' ∧ Q σ' H') X.xe s
end
section
variable {X : Cx} {e : Expr} {es : List Expr} {st : Stmt} {sts : List Stmt} {σ : L2.St} {H : Hp}
theorem wE_pe : PE X e (wE X e) := ⟨fun pins s _ _ _ I h => h pins s I⟩
theorem wT_pt : PT X e (wT X e) := ⟨fun pins s _ _ _ I h => h pins s I⟩
theorem wW_pw : PW X e (wW X e) := ⟨fun wh pins s _ _ _ I h => h wh pins s I⟩
theorem wA_pa : PA X es (wA X es) := ⟨fun pos pins s _ _ _ I h => h pos pins s I⟩
theorem wS_ps : PS X st (wS X st) := ⟨fun pins s _ _ _ I h => h pins s I⟩
theorem wB_ps : PSs X sts (wB X sts) := ⟨fun pins s _ _ _ I h => h pins s I⟩
theorem wG_pg : PG X e (wG X e) := ⟨fun pins s _ _ _ u _ I r h => h pins s u I r⟩
theorem wGs_pg : PGs X es (wGs X es) := ⟨fun pins s _ _ _ us _ I r h => h pins s us I r⟩
theorem wE_of {t : TE} {Q : VK} (h : PE X e t) (q : t σ H Q) : wE X e σ H Q := fun pins s I => h.run pins s σ H Q I q
theorem wT_of {t : TT} {Q : Bool → Hp → Prop} (h : PT X e t) (q : t σ H Q) : wT X e σ H Q := fun pins s I => h.run pins s σ H Q I q
theorem wW_of {t : TT} {Q : Bool → Hp → Prop} (h : PW X e t) (q : t σ H Q) : wW X e σ H Q := fun wh pins s I => h.run wh pins s σ H Q I q
theorem wA_of {t : TA} {Q : List V → Hp → Prop} (h : PA X es t) (q : t σ H Q) : wA X es σ H Q := fun pos pins s I => h.run pos pins s σ H Q I q
theorem wS_of {t : TS} {D : Ends} (h : PS X st t) (q : t D σ H) : wS X st D σ H := fun pins s I => h.run pins s σ H D I q
theorem wB_of {t : TS} {D : Ends} (h : PSs X sts t) (q : t D σ H) : wB X sts D σ H := fun pins s I => h.run pins s σ H D I q
theorem wG_of {t : TG} {v : V} {Q : L2.St → Hp → Prop} (h : PG X e t) (q : t v σ H Q) : wG X e v σ H Q := fun pins s u I r => h.run pins s σ H v u Q I r q
theorem wGs_of {t : TGs} {vs : List V} {Q : L2.St → Hp → Prop} (h : PGs X es t) (q : t vs σ H Q) : wGs X es vs σ H Q := fun pins s us I r => h.run pins s σ H vs us Q I r q
theorem wE.imp {Q Q' : VK} (h : wE X e σ H Q) (q : ∀ v H', Q v H' → Q' v H') : wE X e σ H Q' := fun pins s I =>
  thn (h pins s I) fun _ _ ⟨v, H', I', r, z⟩ => ⟨v, H', I', r, q v H' z⟩
theorem wT.imp {Q Q' : Bool → Hp → Prop} (h : wT X e σ H Q) (q : ∀ b H', Q b H' → Q' b H') : wT X e σ H Q' := fun pins s I =>
  thn (h pins s I) fun _ _ ⟨H', I', z⟩ => ⟨H', I', q _ H' z⟩
theorem wW.imp {Q Q' : Bool → Hp → Prop} (h : wW X e σ H Q) (q : ∀ b H', Q b H' → Q' b H') : wW X e σ H Q' := fun wh pins s I =>
  thn (h wh pins s I) fun _ _ ⟨H', I', z⟩ => ⟨H', I', q _ H' z⟩
theorem wA.imp {Q Q' : List V → Hp → Prop} (h : wA X es σ H Q) (q : ∀ v H', Q v H' → Q' v H') : wA X es σ H Q' := fun pos pins s I =>
  thn (h pos pins s I) fun _ _ ⟨v, H', I', r, z⟩ => ⟨v, H', I', r, q v H' z⟩
theorem wG.imp {v : V} {Q Q' : L2.St → Hp → Prop} (h : wG X e v σ H Q) (q : ∀ σ' H', Q σ' H' → Q' σ' H') : wG X e v σ H Q' := fun pins s u I r =>
  thn (h pins s u I r) fun _ _ ⟨σ', H', I', z⟩ => ⟨σ', H', I', q σ' H' z⟩
theorem wGs.imp {vs : List V} {Q Q' : L2.St → Hp → Prop} (h : wGs X es vs σ H Q) (q : ∀ σ' H', Q σ' H' → Q' σ' H') : wGs X es vs σ H Q' := fun pins s us I r =>
  thn (h pins s us I r) fun _ _ ⟨σ', H', I', z⟩ => ⟨σ', H', I', q σ' H' z⟩
structure EndsLe (D D' : Ends) : Prop where
  nx : ∀ σ H, D.nx σ H → D'.nx σ H
  rt : ∀ v H, D.rt v H → D'.rt v H
  bk : ∀ σ H, D.bk σ H → D'.bk σ H
  ct : ∀ σ H, D.ct σ H → D'.ct σ H
theorem SP.imp {pins : List (Addr × Obj)} {D D' : Ends} {f : Flow} {s : Shared} (l : EndsLe D D') (h : SP X pins D f s) : SP X pins D' f s := by
  cases f with
  | next => obtain ⟨σ', H', I, q⟩ := h; exact ⟨σ', H', I, l.nx _ _ q⟩
  | brk => obtain ⟨σ', H', I, q⟩ := h; exact ⟨σ', H', I, l.bk _ _ q⟩
  | cont => obtain ⟨σ', H', I, q⟩ := h; exact ⟨σ', H', I, l.ct _ _ q⟩
  | ret u => obtain ⟨v, σ', H', I, r, q⟩ := h; exact ⟨v, σ', H', I, r, l.rt _ _ q⟩
theorem wB.imp {D D' : Ends} (h : wB X sts D σ H) (l : EndsLe D D') : wB X sts D' σ H := fun pins s I => thn (h pins s I) fun _ _ q => SP.imp l q
theorem wS.imp {D D' : Ends} (h : wS X st D σ H) (l : EndsLe D D') : wS X st D' σ H := fun pins s I => thn (h pins s I) fun _ _ q => SP.imp l q
end

/-! ### the judgements over data -/
/-- what is wanted of a value: x the data; the state as it then is -/
def Post (K : PySem.W.Frag) (G H : Hp) (σ : L2.St) (δ : En) (Q : OD → En → Prop) : VK := fun v H' => ∃ x G' δ', Step K G H δ G' H' (some v :: σ) (some x :: δ') ∧ Q x δ'
def PostB (K : PySem.W.Frag) (G H : Hp) (σ : L2.St) (δ : En) (Q : Bool → En → Prop) : Bool → Hp → Prop := fun b H' => ∃ G' δ', Step K G H δ G' H' σ δ' ∧ Q b δ'
def Ev (X : Cx) (e : Expr) (δ : En) (Q : OD → En → Prop) : Prop := ∀ G H σ, Stt X.K G H σ δ → wE X e σ H (Post X.K G H σ δ Q)
def Et (X : Cx) (e : Expr) (δ : En) (Q : Bool → En → Prop) : Prop := ∀ G H σ, Stt X.K G H σ δ → wT X e σ H (PostB X.K G H σ δ Q)
def Ew (X : Cx) (e : Expr) (δ : En) (Q : Bool → En → Prop) : Prop := ∀ G H σ, Stt X.K G H σ δ → wW X e σ H (PostB X.K G H σ δ Q)
/-- an argument: frozen data, or a slot's object -/
inductive AR where
  | d (d : D) | s (i : Nat)
def RepA (K : PySem.W.Frag) (G : Hp) (σ : L2.St) : AR → V → Prop
  | .d d, v => Rep K G d v
  | .s i, v => σ[i]? = some (some v)
def RepAs (K : PySem.W.Frag) (G : Hp) (σ : L2.St) : List AR → List V → Prop
  | [], vs => vs = []
  | a :: as, vs => ∃ v r, vs = v :: r ∧ RepA K G σ a v ∧ RepAs K G σ as r
/-- arguments: frozen data, or slots' objects as they stand -/
def PostA (K : PySem.W.Frag) (G H : Hp) (σ : L2.St) (δ : En) (Q : List AR → En → Prop) : List V → Hp → Prop := fun vs H' => ∃ xs G' δ', Step K G H δ G' H' σ δ' ∧ RepAs K G' σ xs vs ∧ Q xs δ'
def Ea (X : Cx) (es : List Expr) (δ : En) (Q : List AR → En → Prop) : Prop := ∀ G H σ, Stt X.K G H σ δ → wA X es σ H (PostA X.K G H σ δ Q)
/-- what is wanted behind a statement -/
structure DE where
  nx : En → Prop
  rt : OD → En → Prop
  bk : En → Prop := fun _ => False
  ct : En → Prop := fun _ => False
def DE.at (P : DE) (K : PySem.W.Frag) (G H : Hp) (δ : En) : Ends where
  nx := fun σ' H' => ∃ G' δ', Step K G H δ G' H' σ' δ' ∧ P.nx δ'
  rt := fun v H' => ∃ x G' σ' δ', Step K G H δ G' H' (some v :: σ') (some x :: δ') ∧ P.rt x δ'
  bk := fun σ' H' => ∃ G' δ', Step K G H δ G' H' σ' δ' ∧ P.bk δ'
  ct := fun σ' H' => ∃ G' δ', Step K G H δ G' H' σ' δ' ∧ P.ct δ'
def Es (X : Cx) (st : Stmt) (δ : En) (P : DE) : Prop := ∀ G H σ, Stt X.K G H σ δ → wS X st (P.at X.K G H δ) σ H
def Eb (X : Cx) (sts : List Stmt) (δ : En) (P : DE) : Prop := ∀ G H σ, Stt X.K G H σ δ → wB X sts (P.at X.K G H δ) σ H
/-- a target takes data -/
def Eg (X : Cx) (tg : Expr) (x : OD) (δ : En) (Q : En → Prop) : Prop :=
  ∀ G H σ v, Stt X.K G H (some v :: σ) (some x :: δ) → wG X tg v σ H fun σ' H' => ∃ G' δ', Step X.K G H (some x :: δ) G' H' σ' δ' ∧ Q δ'

section
variable {X : Cx} {e a b c : Expr} {es : List Expr} {st : Stmt} {sts : List Stmt} {δ : En} {Q Q' : OD → En → Prop} {R R' : Bool → En → Prop} {P P' : DE} {pos p : Pos}
theorem DE.le {K : PySem.W.Frag} {G H G1 H1 : Hp} {δ1 : En} {σ1 : L2.St} (s : Step K G H δ G1 H1 σ1 δ1) (nx : ∀ δ', P.nx δ' → P'.nx δ') (rt : ∀ x δ', P.rt x δ' → P'.rt x δ') (bk : ∀ δ', P.bk δ' → P'.bk δ') (ct : ∀ δ', P.ct δ' → P'.ct δ') :
    EndsLe (P.at K G1 H1 δ1) (P'.at K G H δ) where
  nx := fun _ _ ⟨G', δ', s', q⟩ => ⟨G', δ', s.trans s', nx _ q⟩
  rt := fun _ _ ⟨x, G', σ', δ', s', q⟩ => ⟨x, G', σ', δ', s.trans s', rt _ _ q⟩
  bk := fun _ _ ⟨G', δ', s', q⟩ => ⟨G', δ', s.trans s', bk _ q⟩
  ct := fun _ _ ⟨G', δ', s', q⟩ => ⟨G', δ', s.trans s', ct _ q⟩
theorem Ev.imp (h : Ev X e δ Q) (q : ∀ x δ', Q x δ' → Q' x δ') : Ev X e δ Q' := fun G H σ s => (h G H σ s).imp fun _ _ ⟨x, G', δ', s', z⟩ => ⟨x, G', δ', s', q x δ' z⟩
theorem Et.imp (h : Et X e δ R) (q : ∀ x δ', R x δ' → R' x δ') : Et X e δ R' := fun G H σ s => (h G H σ s).imp fun _ _ ⟨G', δ', s', z⟩ => ⟨G', δ', s', q _ δ' z⟩
theorem Eb.imp (h : Eb X sts δ P) (nx : ∀ δ', P.nx δ' → P'.nx δ') (rt : ∀ x δ', P.rt x δ' → P'.rt x δ') (bk : ∀ δ', P.bk δ' → P'.bk δ') (ct : ∀ δ', P.ct δ' → P'.ct δ') : Eb X sts δ P' :=
  fun G H σ s => (h G H σ s).imp (DE.le s.step nx rt bk ct)

/-! ### names and constants -/
theorem ev_var (i : Nat) {x : Str} {d : D} (hN : X.N[i]? = some x) (hv : Vis X.env.scope x) (hδ : δ[i]? = some (some (.fz d))) (q : Q (.fz d) δ) (hd : (x == ("__debug__" : Str)) = false := by decide) (hcd : (x == ("__classdict__" : Str)) = false := by decide) :
    Ev X (.Name x pos) δ Q := fun G H σ s => by
  obtain ⟨v, e1, r⟩ := s.rep i _ hδ
  unfold RepO at r
  exact wE_of (pe_var hN hv hd hcd) ⟨v, e1, _, G, δ, ⟨s.pushF r, Grow.refl, fun a ha => .inl (by simpa only [feet, foot, List.nil_append] using ha)⟩, q⟩
theorem Stt.stepF {K : PySem.W.Frag} {G H : Hp} {σ : L2.St} {v : V} {d : D} (s : Stt K G H σ δ) (r : Rep K G d v) : Step K G H δ G H (some v :: σ) (some (.fz d) :: δ) :=
  ⟨s.pushF r, Grow.refl, fun a ha => .inl (by simpa only [feet, foot, List.nil_append] using ha)⟩
theorem Step.pushF {K : PySem.W.Frag} {G H G' H' : Hp} {σ : L2.St} {v : V} {d : D} {δ' : En} (s : Step K G H δ G' H' σ δ') (r : Rep K G' d v) : Step K G H δ G' H' (some v :: σ) (some (.fz d) :: δ') :=
  s.trans (s.st.stepF r)
theorem ev_int {i : Int} {j} (q : Q (.fz (.int i)) δ) : Ev X (.Constant (.int i) j pos) δ Q := fun G H σ s => wE_of pe_int ⟨_, G, δ, s.stepF (by unfold Rep; rfl), q⟩
theorem ev_bl {i : Bool} {j} (q : Q (.fz (.bl i)) δ) : Ev X (.Constant (.bool i) j pos) δ Q := fun G H σ s => wE_of pe_bl ⟨_, G, δ, s.stepF (by unfold Rep; rfl), q⟩
theorem ev_non {j} (q : Q (.fz .non) δ) : Ev X (.Constant .none j pos) δ Q := fun G H σ s => wE_of pe_non ⟨_, G, δ, s.stepF (by unfold Rep; rfl), q⟩
theorem ev_str {i : Str} {j} (q : Q (.fz (.str i)) δ) : Ev X (.Constant (.str i) j pos) δ Q := fun G H σ s => wE_of pe_str ⟨_, G, δ, s.stepF (by unfold Rep; rfl), q⟩
theorem ev_globI {x : Str} {i : Int} {t : Tok} (hg : Gl X x) (hm : X.mg x = some (.int i t)) (q : Q (.fz (.int i)) δ) (hd : (x == ("__debug__" : Str)) = false := by decide) : Ev X (.Name x pos) δ Q := fun G H σ s =>
  wE_of (pe_glob hg hm (v := .int i) ⟨t, rfl⟩ hd) ⟨_, G, δ, s.stepF (by unfold Rep; rfl), q⟩
theorem ev_globR {x : Str} {i : Addr} (hg : Gl X x) (hm : X.mg x = some (.ref i)) (q : Q (.fz (.op (.ref i))) δ) (hd : (x == ("__debug__" : Str)) = false := by decide) : Ev X (.Name x pos) δ Q := fun G H σ s =>
  wE_of (pe_glob hg hm (v := .ref i) rfl hd) ⟨_, G, δ, s.stepF (by unfold Rep; rfl), q⟩
theorem ev_bltn {x : Str} {v : V} {u : Value} (hg : Gl X x) (hm : X.mg x = none) (hv : bootBuiltins x = some u) (r : RelV v u) (q : Q (.fz (.op v)) δ) (hn : x ≠ "__name__" := by decide) (hd : (x == ("__debug__" : Str)) = false := by decide) : Ev X (.Name x pos) δ Q := fun G H σ s =>
  wE_of (pe_bltn hg hm hv r hn hd) ⟨_, G, δ, s.stepF (by unfold Rep; rfl), q⟩

/-! ### operators -/
/-- f by its reading r does this: of d1 and d2 it makes d, perhaps a new object -/
def OpD (K : PySem.W.Frag) (r : R2) (d1 d2 : D) (W : D → Prop) : Prop :=
  ∀ G H v1 v2 (k : VK), Same G H → Rep K G d1 v1 → Rep K G d2 v2 → (∀ d v G' H', W d → Same G G' → Same H H' → Same G' H' → (∀ a, G' a ≠ none → G a ≠ none ∨ H a = none) → Rep K G' d v → k v H') → r v1 v2 H k
theorem grow_same {F : List Addr} {G H G' H' : Hp} (g : Same G G') (h : Same H H') (n : ∀ a, G' a ≠ none → G a ≠ none ∨ H a = none) : Grow F G H G' H' where
  g := g
  h := fun a o _ e => h a o e
  new := fun a ha => (n a ha).elim .inl fun z => .inr (.inl z)
  there := fun a ha => by
    cases e : H a with
    | none => exact absurd e ha
    | some o => rw [h a o e]; simp
theorem Step.grow {K : PySem.W.Frag} {G H G1 H1 G' H' : Hp} {σ : L2.St} {δ1 : En} (s : Step K G H δ G1 H1 σ δ1) (g : Same G1 G') (h : Same H1 H') (e : Same G' H') (n : ∀ a, G' a ≠ none → G1 a ≠ none ∨ H1 a = none) : Step K G H δ G' H' σ δ1 :=
  s.trans ⟨s.st.keep g e (fun a _ o ho => h a o ho) (fun a ha => by
    have q := s.st.off a ha
    cases z : G' a with
    | none => rfl
    | some o => exact ((n a (by rw [z]; simp)).elim (fun w => w q.1) fun w => q.2 w).elim), grow_same g h n, fun _ ha => .inl ha⟩
end
end Vl

namespace Vl
open PySem PySem.Spec PyProof.Rows L2
section
variable {K : PySem.W.Frag} {G H G' H' G1 H1 G2 H2 : Hp} {σ σ' σ1 σ2 : L2.St} {δ δ' δ1 δ2 : En} {v : V} {x : OD}
/-- a value that waits while something else is done -/
theorem Stt.frame (s : Stt K G1 H1 (some v :: σ) (some x :: δ)) (b : Step K G1 H1 δ G2 H2 σ2 δ2) : Stt K G2 H2 (some v :: σ2) (some x :: δ2) := by
  have nd := s.nd
  unfold feet at nd
  obtain ⟨n1, n2, n3⟩ := List.nodup_append.mp nd
  have inx : ∀ a ∈ foot x, a ∈ feet (some x :: δ) := fun a ha => by unfold feet; exact List.mem_append_left _ ha
  have out : ∀ a ∈ foot x, a ∉ feet δ := fun a ha hb => n3 a ha a hb rfl
  refine b.st.push (RepO.mono b.gr.g x v (fun a ha o ho => b.gr.h a o (out a ha) ho) s.top) n1 fun a ha => ⟨?_, b.gr.there a (s.off a (inx a ha)).2, fun hb => ?_⟩
  · cases z : G2 a with
    | none => rfl
    | some o =>
      rcases b.gr.new a (by rw [z]; simp) with q | q | q
      · exact (q (s.off a (inx a ha)).1).elim
      · exact ((s.off a (inx a ha)).2 q).elim
      · exact (out a ha q).elim
  · rcases b.ft a hb with q | q
    · exact out a ha q
    · exact (s.off a (inx a ha)).2 q
end
section
variable {X : Cx} {e a b c : Expr} {es : List Expr} {δ δ' δ1 δ2 : En} {Q Q' : OD → En → Prop} {S : OD → Prop} {R R' : Bool → En → Prop} {pos p : Pos}
/-- f by a rule does this: of x and y it makes what S wants -/
def RD (X : Cx) (f : Value → Value → Sem Value) (x y : OD) (S : OD → Prop) : Prop :=
  ∃ r, OpR X f r ∧ ∃ d1 d2, x = .fz d1 ∧ y = .fz d2 ∧ OpD X.K r d1 d2 fun d => S (.fz d)
def PostO (K : PySem.W.Frag) (G H : Hp) (σ : L2.St) (δ : En) (S : OD → Prop) : VK := fun v H' => ∃ x G', Step K G H δ G' H' (some v :: σ) (some x :: δ) ∧ S x
theorem rd_run {r : R2} {G H : Hp} {σ : L2.St} {v1 v2 : V} {d1 d2 : D} (s : Stt X.K G H σ δ) (r1 : Rep X.K G d1 v1) (r2 : Rep X.K G d2 v2) (h : OpD X.K r d1 d2 fun d => S (.fz d)) : r v1 v2 H (PostO X.K G H σ δ S) :=
  h G H v1 v2 _ s.ex r1 r2 fun d v G' H' hq g h e n rd => ⟨_, G', (s.step.grow g h e n).pushF rd, hq⟩
theorem PostO.back {K : PySem.W.Frag} {G H G2 H2 H' : Hp} {σ : L2.St} {v : V} (s : Step K G H δ G2 H2 σ δ2) (h : PostO K G2 H2 σ δ2 (fun z => Q z δ2) v H') : Post K G H σ δ Q v H' := by
  obtain ⟨x, G', s', q⟩ := h
  exact ⟨x, G', _, s.trans s', q⟩
theorem EPO.back {pins : List (Addr × Obj)} {G H G2 H2 : Hp} {σ : L2.St} {u : Value} {s' : Shared} (s : Step X.K G H δ G2 H2 σ δ2) (h : EP X pins σ (PostO X.K G2 H2 σ δ2 fun z => Q z δ2) u s') : EP X pins σ (Post X.K G H σ δ Q) u s' := by
  obtain ⟨v, H', I, r, z⟩ := h
  exact ⟨v, H', I, r, PostO.back s z⟩
theorem Post.back {K : PySem.W.Frag} {G H G2 H2 H' : Hp} {σ : L2.St} {v : V} (s : Step K G H δ G2 H2 σ δ2) (h : Post K G2 H2 σ δ2 Q v H') : Post K G H σ δ Q v H' := by
  obtain ⟨x, G', d', s', q⟩ := h
  exact ⟨x, G', d', s.trans s', q⟩
theorem top_fz {K : PySem.W.Frag} {G H : Hp} {σ : L2.St} {v : V} {d : D} {x : OD} (s : Stt K G H (some v :: σ) (some x :: δ)) (e : x = .fz d) : Rep K G d v := by
  subst e
  have r := s.top
  unfold RepO at r
  exact r
/-- two operands -/
theorem two_run {f : Value → Value → Sem Value} {pins : List (Addr × Obj)} {s2 : Shared} {G1 H1 G2 H2 : Hp} {σ : L2.St} {v1 v2 : V} {v u : Value} {x1 x2 : OD} (I2 : Inv X pins σ H2 s2) (r1 : RelV v1 v) (r2 : RelV v2 u)
    (t1 : Stt X.K G1 H1 (some v1 :: σ) (some x1 :: δ1)) (t2 : Step X.K G1 H1 δ1 G2 H2 (some v2 :: σ) (some x2 :: δ2)) (h : RD X f x1 x2 S) : wpAny (model X.prog X.w) X.A (f v u) (EP X pins σ (PostO X.K G2 H2 σ δ2 S)) X.xe s2 := by
  obtain ⟨r, ho, d1, d2, e1, e2, od⟩ := h
  exact ho pins s2 σ H2 v1 v2 v u _ I2 r1 r2 (rd_run t2.st.pop (top_fz (t1.frame t2.pop) e1) (top_fz t2.st e2) od)
theorem ev_bin {op : Operator} (h : Ev X a δ fun x δ1 => Ev X b δ1 fun y δ2 => RD X (binaryOp op) x y fun z => Q z δ2) : Ev X (.BinOp a op b pos) δ Q := fun G H σ s => by
  intro pins s0 I
  refine wpAny_BinOp (thn (h G H σ s pins s0 I) fun v s1 ⟨v1, H1, I1, r1, x1, G1, d1, t1, h1⟩ => ?_)
  refine thn (h1 G1 H1 σ t1.st.pop pins s1 I1) fun u s2 ⟨v2, H2, I2, r2, x2, G2, d2, t2, h2⟩ => ?_
  exact thn (two_run I2 r1 r2 t1.st t2 h2) fun w s3 z => EPO.back (t1.pop.trans t2.pop) z
theorem ev_cmp1 {op : CmpOp} (h : Ev X a δ fun x δ1 => Ev X b δ1 fun y δ2 => RD X (compareOp op) x y fun z => Q z δ2) (hm : behindInMarks op b = false := by first | rfl | with_unfolding_all rfl) : Ev X (.Compare a [op] [b] pos) δ Q := fun G H σ s => by
  intro pins s0 I
  refine wpAny_Compare1 (thn (h G H σ s pins s0 I) fun v s1 ⟨v1, H1, I1, r1, x1, G1, d1, t1, h1⟩ => ?_) hm
  refine thn (h1 G1 H1 σ t1.st.pop pins s1 I1) fun u s2 ⟨v2, H2, I2, r2, x2, G2, d2, t2, h2⟩ => ?_
  exact thn (two_run I2 r1 r2 t1.st t2 h2) fun w s3 z => EPO.back (t1.pop.trans t2.pop) z
/-- a bool as a test's answer -/
def isB (R : Bool → Prop) : OD → Prop := fun x => ∃ k, x = .fz (.bl k) ∧ R k
theorem Stt.isBl {K : PySem.W.Frag} {G H : Hp} {σ : L2.St} {v : V} {k : Bool} (s : Stt K G H (some v :: σ) (some (.fz (.bl k)) :: δ)) : v = .bl k := by
  have r := s.top
  unfold RepO Rep at r
  exact r
theorem et_cmp1 {op : CmpOp} (h : Ev X a δ fun x δ1 => Ev X b δ1 fun y δ2 => RD X (compareOp op) x y (isB fun k => R k δ2)) (hm : behindInMarks op b = false := by first | rfl | with_unfolding_all rfl) : Et X (.Compare a [op] [b] pos) δ R := fun G H σ s => by
  intro pins s0 I
  refine wpAny_isTrue_Compare1 (thn (h G H σ s pins s0 I) fun v s1 ⟨v1, H1, I1, r1, x1, G1, d1, t1, h1⟩ => ?_) hm
  refine thn (h1 G1 H1 σ t1.st.pop pins s1 I1) fun u s2 ⟨v2, H2, I2, r2, x2, G2, d2, t2, h2⟩ => ?_
  refine thn (two_run I2 r1 r2 t1.st t2 h2) fun w s3 ⟨v3, H3, I3, r3, x3, G3, t3, k, e3, q⟩ => ?_
  subst e3
  cases t3.st.isBl
  cases r3
  exact wpAny_truthy_bool ⟨H3, I3, G3, d2, ((t1.pop.trans t2.pop).trans t3.pop), q⟩
theorem et_val (h : Ev X e δ fun x δ' => isB (fun k => R k δ') x) (he : ∀ whole, isTrue e X.env whole = (do let v ← whole; standAt e.pos; holding [v] (truthy v)) := by intro _; rfl) : Et X e δ R := fun G H σ s =>
  wT_of (pt_val wE_pe he) ((h G H σ s).imp fun v H1 ⟨x, G1, d1, s1, k, e1, q⟩ => by
    subst e1
    exact ⟨k, s1.st.isBl, G1, d1, s1.pop, q⟩)
/-- a <= b <= c as a test -/
theorem et_chain {op op' : CmpOp} (h : Ev X a δ fun x δ1 => Ev X b δ1 fun y δ2 => RD X (compareOp op) x y fun z => ∃ k, z = .fz (.bl k) ∧
    (k = true → Ev X c δ2 fun w δ3 => RD X (compareOp op') y w (isB fun k => R k δ3)) ∧ (k = false → R false δ2)) (hm : lastMarks [op, op'] [b, c] = false := by with_unfolding_all rfl) : Et X (.Compare a [op, op'] [b, c] pos) δ R := fun G H σ s => by
  intro pins s0 I
  refine isTrue_chain (thn (h G H σ s pins s0 I) fun v s1 ⟨v1, H1, I1, r1, x1, G1, d1, t1, h1⟩ => test_link (thn (h1 G1 H1 σ t1.st.pop pins s1 I1) fun u s2 ⟨v2, H2, I2, r2, x2, G2, d2, t2, h2⟩ => ?_)) hm
  refine thn (two_run I2 r1 r2 t1.st t2 h2) fun w s3 ⟨v3, H3, I3, r3, x3, G3, t3, k, e3, q1, q2⟩ => ?_
  subst e3
  cases t3.st.isBl
  cases r3
  have t := (t1.pop.trans t2.pop).trans t3.pop
  refine wpAny_truthy_bool ?_
  cases k with
  | false => exact ite_ff ⟨H3, I3, G3, d2, t, q2 rfl⟩
  | true =>
    refine ite_tt (test_last (thn (q1 rfl G3 H3 σ t3.st.pop pins s3 I3) fun w' s4 ⟨v4, H4, I4, r4, x4, G4, d4, t4, h4⟩ => ?_))
    refine thn (two_run I4 r2 r4 (t2.st.frame t3.pop) t4 h4) fun w5 s5 ⟨v5, H5, I5, r5, x5, G5, t5, k5, e5, q5⟩ => ?_
    subst e5
    cases t5.st.isBl
    cases r5
    exact wpAny_truthy_bool ⟨H5, I5, G5, d4, (t.trans t4.pop).trans t5.pop, q5⟩

/-! ### and, or, not, a if t else b -/
variable {rest : List Expr}
theorem ew_and1 (h : Et X a δ R) : Ew X (.BoolOp .And [a] pos) δ R := fun G H σ s => wW_of (pw_and1 wT_pt) (h G H σ s)
theorem ew_or1 (h : Et X a δ R) : Ew X (.BoolOp .Or [a] pos) δ R := fun G H σ s => wW_of (pw_or1 wT_pt) (h G H σ s)
theorem PostB.back {K : PySem.W.Frag} {G H G2 H2 H' : Hp} {σ : L2.St} {k : Bool} (s : Step K G H δ G2 H2 σ δ2) (h : PostB K G2 H2 σ δ2 R k H') : PostB K G H σ δ R k H' := by
  obtain ⟨G', d', s', q⟩ := h
  exact ⟨G', d', s.trans s', q⟩
theorem ew_and (h : Et X a δ fun k δ1 => (k = true → Ew X (.BoolOp .And (b :: rest) pos) δ1 R) ∧ (k = false → R false δ1)) : Ew X (.BoolOp .And (a :: b :: rest) pos) δ R := fun G H σ s =>
  wW_of (pw_and wT_pt wW_pw) ((h G H σ s).imp fun k H1 ⟨G1, d1, s1, h1, h2⟩ => by
    cases k with
    | true => exact (h1 rfl G1 H1 σ s1.st).imp fun _ _ z => PostB.back s1 z
    | false => exact ⟨G1, d1, s1, h2 rfl⟩)
theorem ew_or (h : Et X a δ fun k δ1 => (k = false → Ew X (.BoolOp .Or (b :: rest) pos) δ1 R) ∧ (k = true → R true δ1)) : Ew X (.BoolOp .Or (a :: b :: rest) pos) δ R := fun G H σ s =>
  wW_of (pw_or wT_pt wW_pw) ((h G H σ s).imp fun k H1 ⟨G1, d1, s1, h1, h2⟩ => by
    cases k with
    | false => exact (h1 rfl G1 H1 σ s1.st).imp fun _ _ z => PostB.back s1 z
    | true => exact ⟨G1, d1, s1, h2 rfl⟩)
theorem et_w (h : Ew X e δ R) : Et X e δ R := fun G H σ s => wT_of wW_pw.pt (h G H σ s)
theorem et_not (h : Et X a δ fun k δ1 => R (!k) δ1) : Et X (.UnaryOp .Not a pos) δ R := fun G H σ s => wT_of (pt_not wT_pt) (h G H σ s)
theorem ev_one {op : BoolOp} (h : Ev X a δ Q) : Ev X (.BoolOp op [a] pos) δ Q := fun G H σ s => wE_of (pe_one wE_pe) (h G H σ s)
theorem ev_and (h : Ev X a δ fun x δ1 => ∃ k, x = .fz (.bl k) ∧ (k = true → Ev X (.BoolOp .And (b :: rest) pos) δ1 Q) ∧ (k = false → Q (.fz (.bl false)) δ1)) : Ev X (.BoolOp .And (a :: b :: rest) pos) δ Q := fun G H σ s =>
  wE_of (pe_and wE_pe wE_pe) ((h G H σ s).imp fun v H1 ⟨x, G1, d1, s1, k, e1, h1, h2⟩ => by
    subst e1
    refine ⟨k, s1.st.isBl, ?_⟩
    cases k with
    | true => exact (h1 rfl G1 H1 σ s1.st.pop).imp fun _ _ z => Post.back s1.pop z
    | false => exact ⟨_, G1, d1, s1.pop.pushF (by unfold Rep; rfl), h2 rfl⟩)
theorem ev_or (h : Ev X a δ fun x δ1 => ∃ k, x = .fz (.bl k) ∧ (k = false → Ev X (.BoolOp .Or (b :: rest) pos) δ1 Q) ∧ (k = true → Q (.fz (.bl true)) δ1)) : Ev X (.BoolOp .Or (a :: b :: rest) pos) δ Q := fun G H σ s =>
  wE_of (pe_or wE_pe wE_pe) ((h G H σ s).imp fun v H1 ⟨x, G1, d1, s1, k, e1, h1, h2⟩ => by
    subst e1
    refine ⟨k, s1.st.isBl, ?_⟩
    cases k with
    | false => exact (h1 rfl G1 H1 σ s1.st.pop).imp fun _ _ z => Post.back s1.pop z
    | true => exact ⟨_, G1, d1, s1.pop.pushF (by unfold Rep; rfl), h2 rfl⟩)
theorem ev_not (h : Ev X a δ fun x δ1 => ∃ k, x = .fz (.bl k) ∧ Q (.fz (.bl (!k))) δ1) : Ev X (.UnaryOp .Not a pos) δ Q := fun G H σ s =>
  wE_of (pe_not wE_pe) ((h G H σ s).imp fun v H1 ⟨x, G1, d1, s1, k, e1, h1⟩ => by
    subst e1
    exact ⟨k, s1.st.isBl, _, G1, d1, s1.pop.pushF (by unfold Rep; rfl), h1⟩)
theorem ev_if (h : Et X c δ fun k δ1 => (k = true → Ev X a δ1 Q) ∧ (k = false → Ev X b δ1 Q)) : Ev X (.IfExp c a b pos) δ Q := fun G H σ s =>
  wE_of (pe_ifExp wT_pt wE_pe wE_pe) ((h G H σ s).imp fun k H1 ⟨G1, d1, s1, h1, h2⟩ => by
    cases k with
    | true => exact (h1 rfl G1 H1 σ s1.st).imp fun _ _ z => Post.back s1 z
    | false => exact (h2 rfl G1 H1 σ s1.st).imp fun _ _ z => Post.back s1 z)

/-! ### ints -/
theorem rd_I {f : Value → Value → Sem Value} {C : Int → Int → Prop} {g : Int → Int → V} {d : D} {i j : Int} (ho : OpR X f (rI C g)) (hr : ∀ G, Rep X.K G d (g i j)) (hc : C i j) (q : S (.fz d)) : RD X f (.fz (.int i)) (.fz (.int j)) S :=
  ⟨_, ho, _, _, rfl, rfl, fun G H v1 v2 k s r1 r2 z => by
    unfold Rep at r1 r2
    exact ⟨i, j, r1, r2, hc, z d _ G H q (Same.refl _) (Same.refl _) s (fun _ h => .inl h) (hr G)⟩⟩
theorem rd_I0 {f : Value → Value → Sem Value} {g : Int → Int → V} {d : D} {i j : Int} (ho : OpR X f (rI0 g)) (hr : ∀ G, Rep X.K G d (g i j)) (q : S (.fz d)) : RD X f (.fz (.int i)) (.fz (.int j)) S :=
  ⟨_, ho, _, _, rfl, rfl, fun G H v1 v2 k s r1 r2 z => by
    unfold Rep at r1 r2
    exact ⟨i, j, r1, r2, z d _ G H q (Same.refl _) (Same.refl _) s (fun _ h => .inl h) (hr G)⟩⟩
variable {i j : Int}
theorem add_I (q : S (.fz (.int (i + j)))) : RD X (binaryOp .Add) (.fz (.int i)) (.fz (.int j)) S := rd_I0 op_add (fun _ => by unfold Rep; rfl) q
theorem sub_I (q : S (.fz (.int (i - j)))) : RD X (binaryOp .Sub) (.fz (.int i)) (.fz (.int j)) S := rd_I0 op_sub (fun _ => by unfold Rep; rfl) q
theorem mul_I (hc : CMulW i j) (q : S (.fz (.int (i * j)))) : RD X (binaryOp .Mult) (.fz (.int i)) (.fz (.int j)) S := rd_I op_mulW (fun _ => by unfold Rep; rfl) hc q
theorem mul_Is (hc : CMul i j) (q : S (.fz (.int (i * j)))) : RD X (binaryOp .Mult) (.fz (.int i)) (.fz (.int j)) S := rd_I op_mul (fun _ => by unfold Rep; rfl) hc q
theorem div_I (hc : CDivW i j) (q : S (.fz (.int (i / j)))) : RD X (binaryOp .FloorDiv) (.fz (.int i)) (.fz (.int j)) S := rd_I op_fdivW (fun _ => by unfold Rep; rfl) hc q
theorem mod_I (hc : 0 < j) (q : S (.fz (.int (i % j)))) : RD X (binaryOp .Mod) (.fz (.int i)) (.fz (.int j)) S := rd_I op_mod (fun _ => by unfold Rep; rfl) hc q
theorem pow_I (hc : CPow i j) (q : S (.fz (.int (i ^ j.toNat)))) : RD X (binaryOp .Pow) (.fz (.int i)) (.fz (.int j)) S := rd_I op_pow (fun _ => by unfold Rep; rfl) hc q
theorem lt_I (q : S (.fz (.bl (decide (i < j))))) : RD X (compareOp .Lt) (.fz (.int i)) (.fz (.int j)) S := rd_I0 op_lt (fun _ => by unfold Rep; rfl) q
theorem le_I (q : S (.fz (.bl (decide (i ≤ j))))) : RD X (compareOp .LtE) (.fz (.int i)) (.fz (.int j)) S := rd_I0 op_le (fun _ => by unfold Rep; rfl) q
theorem gt_I (q : S (.fz (.bl (decide (j < i))))) : RD X (compareOp .Gt) (.fz (.int i)) (.fz (.int j)) S := rd_I0 op_gt (fun _ => by unfold Rep; rfl) q
theorem ge_I (q : S (.fz (.bl (decide (j ≤ i))))) : RD X (compareOp .GtE) (.fz (.int i)) (.fz (.int j)) S := rd_I0 op_ge (fun _ => by unfold Rep; rfl) q
theorem eq_I (q : S (.fz (.bl (decide (i = j))))) : RD X (compareOp .Eq) (.fz (.int i)) (.fz (.int j)) S := ⟨_, op_eq, _, _, rfl, rfl, fun G H v1 v2 k s r1 r2 z => by
  unfold Rep at r1 r2
  subst r1
  subst r2
  refine ⟨rfl, z (.bl (decide (i = j))) _ G H q (Same.refl _) (Same.refl _) s (fun _ h => .inl h) ?_⟩
  unfold Rep
  rw [show decide (V.int i = V.int j) = decide (i = j) by simp]⟩
theorem ne_I (q : S (.fz (.bl (!decide (i = j))))) : RD X (compareOp .NotEq) (.fz (.int i)) (.fz (.int j)) S := ⟨_, op_ne, _, _, rfl, rfl, fun G H v1 v2 k s r1 r2 z => by
  unfold Rep at r1 r2
  subst r1
  subst r2
  refine ⟨rfl, z (.bl (!decide (i = j))) _ G H q (Same.refl _) (Same.refl _) s (fun _ h => .inl h) ?_⟩
  unfold Rep
  rw [show decide (V.int i = V.int j) = decide (i = j) by simp]⟩
theorem isN_non (q : S (.fz (.bl true))) : RD X (compareOp .Is) (.fz .non) (.fz .non) S := ⟨_, op_isN, _, _, rfl, rfl, fun G H v1 v2 k s r1 r2 z => by
  unfold Rep at r1 r2
  subst r1
  exact ⟨r2, z (.bl true) _ G H q (Same.refl _) (Same.refl _) s (fun _ h => .inl h) (by unfold Rep; rfl)⟩⟩
theorem notN_non (q : S (.fz (.bl false))) : RD X (compareOp .IsNot) (.fz .non) (.fz .non) S := ⟨_, op_notN, _, _, rfl, rfl, fun G H v1 v2 k s r1 r2 z => by
  unfold Rep at r1 r2
  subst r1
  exact ⟨r2, z (.bl false) _ G H q (Same.refl _) (Same.refl _) s (fun _ h => .inl h) (by unfold Rep; rfl)⟩⟩
theorem isN_int (q : S (.fz (.bl false))) : RD X (compareOp .Is) (.fz (.int i)) (.fz .non) S := ⟨_, op_isN, _, _, rfl, rfl, fun G H v1 v2 k s r1 r2 z => by
  unfold Rep at r1 r2
  subst r1
  exact ⟨r2, z (.bl false) _ G H q (Same.refl _) (Same.refl _) s (fun _ h => .inl h) (by unfold Rep; rfl)⟩⟩
theorem notN_int (q : S (.fz (.bl true))) : RD X (compareOp .IsNot) (.fz (.int i)) (.fz .non) S := ⟨_, op_notN, _, _, rfl, rfl, fun G H v1 v2 k s r1 r2 z => by
  unfold Rep at r1 r2
  subst r1
  exact ⟨r2, z (.bl true) _ G H q (Same.refl _) (Same.refl _) s (fun _ h => .inl h) (by unfold Rep; rfl)⟩⟩
end
end Vl

namespace Vl
open PySem PySem.Spec PyProof.Rows L2
/-! ### a new object -/
section
variable {K : PySem.W.Frag} {G H G' H' : Hp} {o : HO} {q : Addr}
theorem new_g (s : Same G H) (n : H q = none) : Same G (upd G q o) := fun b u e => by
  rw [upd_ne (ne_of_none (s b u e) n)]
  exact e
theorem new_h (n : H q = none) : Same H (upd H q o) := fun b u e => by
  rw [upd_ne (ne_of_none e n)]
  exact e
theorem new_gh (s : Same G H) : Same (upd G q o) (upd H q o) := fun b u e => by
  by_cases z : b = q
  · subst z
    rw [upd_same] at e ⊢
    exact e
  · rw [upd_ne z] at e ⊢
    exact s b u e
theorem new_n (n : H q = none) : ∀ a, upd G q o a ≠ none → G a ≠ none ∨ H a = none := fun a h => by
  by_cases z : a = q
  · subst z
    exact .inr n
  · rw [upd_ne z] at h
    exact .inl h
end
section
variable {X : Cx} {e a b c : Expr} {es : List Expr} {δ : En} {Q Q' : OD → En → Prop} {S : OD → Prop} {R R' : Bool → En → Prop} {pos p p2 : Pos}
/-- a new list as a value that is wanted frozen -/
theorem new_lst {K : PySem.W.Frag} {G H : Hp} {ds : List D} {vs : List V} {k : VK} {q : Addr} {W : D → Prop} (s : Same G H) (r : Reps K G ds vs) (w : W (.lst ds)) (n : H q = none)
    (z : ∀ d v G' H', W d → Same G G' → Same H H' → Same G' H' → (∀ a, G' a ≠ none → G a ≠ none ∨ H a = none) → Rep K G' d v → k v H') : k (.ref q) (upd H q (.lst vs)) :=
  z (.lst ds) _ (upd G q (.lst vs)) _ w (new_g s n) (new_h n) (new_gh s) (new_n n) (by unfold Rep; exact ⟨q, vs, rfl, upd_same, Reps.mono (new_g s n) _ _ r⟩)
theorem new_tup {K : PySem.W.Frag} {G H : Hp} {ds : List D} {vs : List V} {k : VK} {q : Addr} {W : D → Prop} (s : Same G H) (r : Reps K G ds vs) (w : W (.tup ds)) (n : H q = none)
    (z : ∀ d v G' H', W d → Same G G' → Same H H' → Same G' H' → (∀ a, G' a ≠ none → G a ≠ none ∨ H a = none) → Rep K G' d v → k v H') : k (.ref q) (upd H q (.tup vs)) :=
  z (.tup ds) _ (upd G q (.tup vs)) _ w (new_g s n) (new_h n) (new_gh s) (new_n n) (by unfold Rep; exact ⟨q, vs, rfl, upd_same, Reps.mono (new_g s n) _ _ r⟩)
theorem add_L {ds es : List D} (hl : ds.length + es.length ≤ 100000) (q : S (.fz (.lst (ds ++ es)))) : RD X (binaryOp .Add) (.fz (.lst ds)) (.fz (.lst es)) S :=
  ⟨_, op_cat, _, _, rfl, rfl, fun G H v1 v2 k s r1 r2 z => by
    unfold Rep at r1 r2
    obtain ⟨a1, w1, rfl, g1, rs1⟩ := r1
    obtain ⟨a2, w2, rfl, g2, rs2⟩ := r2
    have l1 := rs1.length
    have l2 := rs2.length
    exact ⟨a1, a2, w1, w2, rfl, rfl, s _ _ g1, s _ _ g2, by rw [sizeLine_eq]; omega, fun p n => new_lst s (Reps.app rs1 rs2) q n z⟩⟩
theorem Reps.flat {K : PySem.W.Frag} {G : Hp} {ds : List D} {vs : List V} (r : Reps K G ds vs) : ∀ n, Reps K G (List.replicate n ds).flatten (List.replicate n vs).flatten
  | 0 => Reps.nil
  | n + 1 => by
    rw [List.replicate_succ, List.replicate_succ, List.flatten_cons, List.flatten_cons]
    exact Reps.app r (Reps.flat r n)
theorem mul_L {ds : List D} {n : Int} (h1 : -(2 ^ 63) ≤ n) (h2 : n < 2 ^ 63) (hl : ds.length * n.toNat ≤ 100000) (q : S (.fz (.lst (List.replicate n.toNat ds).flatten))) : RD X (binaryOp .Mult) (.fz (.lst ds)) (.fz (.int n)) S :=
  ⟨_, op_rep, _, _, rfl, rfl, fun G H v1 v2 k s r1 r2 z => by
    unfold Rep at r1 r2
    obtain ⟨a1, w1, rfl, g1, rs1⟩ := r1
    have l1 := rs1.length
    exact ⟨a1, n, w1, rfl, r2, s _ _ g1, h1, h2, by rw [l1, sizeLine_eq]; omega, fun p m => new_lst s (Reps.flat rs1 _) q m z⟩⟩
/-! ### == of data -/
mutual
def py : D → Option PyData
  | .non => some .none
  | .bl b => some (.bool b)
  | .int i => some (.int i)
  | .str s => some (.str s)
  | .lst ds => (pys ds).map .list
  | .tup ds => (pys ds).map .tuple
  | .op _ => none
  | .rol _ => none
def pys : List D → Option (List PyData)
  | [] => some []
  | d :: ds => (py d).bind fun x => (pys ds).map fun xs => x :: xs
end
mutual
theorem Rep.dp {K : PySem.W.Frag} {G H : Hp} (s : Same G H) : ∀ (d : D) (v : V) (x : PyData), Rep K G d v → py d = some x → Dp K H v x
  | .non, v, x, h, e => by
    unfold Rep at h; unfold py at e
    cases e; subst h
    exact .non
  | .bl _, v, x, h, e => by
    unfold Rep at h; unfold py at e
    cases e; subst h
    exact .bl _
  | .int _, v, x, h, e => by
    unfold Rep at h; unfold py at e
    cases e; subst h
    exact .int _
  | .str _, v, x, h, e => by
    unfold Rep at h; unfold py at e
    cases e; subst h
    exact .str _
  | .lst ds, v, x, h, e => by
    unfold Rep at h; unfold py at e
    obtain ⟨a, vs, rfl, g, rs⟩ := h
    cases q : pys ds with
    | none => rw [q] at e; cases e
    | some xs =>
      rw [q] at e
      cases e
      exact .lst (.of (s _ _ g)) (Reps.dp s ds vs xs rs q)
  | .tup ds, v, x, h, e => by
    unfold Rep at h; unfold py at e
    obtain ⟨a, vs, rfl, g, rs⟩ := h
    cases q : pys ds with
    | none => rw [q] at e; cases e
    | some xs =>
      rw [q] at e
      cases e
      exact .tup (.of (s _ _ g)) (Reps.dp s ds vs xs rs q)
  | .op _, _, _, _, e => by unfold py at e; cases e
  | .rol _, _, _, _, e => by unfold py at e; cases e
theorem Reps.dp {K : PySem.W.Frag} {G H : Hp} (s : Same G H) : ∀ (ds : List D) (vs : List V) (xs : List PyData), Reps K G ds vs → pys ds = some xs → DpAll K H vs xs
  | [], vs, xs, h, e => by
    unfold Reps at h; unfold pys at e
    cases e; subst h
    exact .nil
  | d :: ds, vs, xs, h, e => by
    unfold Reps at h; unfold pys at e
    obtain ⟨v, r, rfl, r1, r2⟩ := h
    cases q : py d with
    | none => rw [q] at e; cases e
    | some x =>
      cases q2 : pys ds with
      | none => rw [q, q2] at e; cases e
      | some ys =>
        rw [q, q2] at e
        cases e
        exact .cons (Rep.dp s d v x r1 q) (Reps.dp s ds r ys r2 q2)
end
theorem eq_D {d1 d2 : D} {x y : PyData} (hu : X.A.units + 64 < cLine) (h1 : py d1 = some x) (h2 : py d2 = some y) (s1 : SeqAt.shaped x = true) (s2 : SeqAt.shaped y = true) (q : S (.fz (.bl (PyData.eqv x y)))) : RD X (compareOp .Eq) (.fz d1) (.fz d2) S :=
  ⟨_, op_eqD hu, _, _, rfl, rfl, fun G H v1 v2 k s r1 r2 z => ⟨x, y, Rep.dp s _ _ _ r1 h1, Rep.dp s _ _ _ r2 h2, s1, s2, z (.bl (PyData.eqv x y)) _ G H q (Same.refl _) (Same.refl _) s (fun _ h => .inl h) (by unfold Rep; rfl)⟩⟩
theorem ne_D {d1 d2 : D} {x y : PyData} (hu : X.A.units + 64 < cLine) (h1 : py d1 = some x) (h2 : py d2 = some y) (s1 : SeqAt.shaped x = true) (s2 : SeqAt.shaped y = true) (q : S (.fz (.bl (!PyData.eqv x y)))) : RD X (compareOp .NotEq) (.fz d1) (.fz d2) S :=
  ⟨_, op_neD hu, _, _, rfl, rfl, fun G H v1 v2 k s r1 r2 z => ⟨x, y, Rep.dp s _ _ _ r1 h1, Rep.dp s _ _ _ r2 h2, s1, s2, z (.bl (!PyData.eqv x y)) _ G H q (Same.refl _) (Same.refl _) s (fun _ h => .inl h) (by unfold Rep; rfl)⟩⟩

/-! ### subscripts -/
/-- x[y] -/
def IxD (X : Cx) (x y : OD) (S : OD → Prop) : Prop := ∃ r, IxR X r ∧ ∃ d1 d2, x = .fz d1 ∧ y = .fz d2 ∧ OpD X.K r d1 d2 fun d => S (.fz d)
theorem ev_ix (h : Ev X a δ fun x δ1 => Ev X b δ1 fun y δ2 => IxD X x y fun z => Q z δ2) (hs : PlainIx b := by exact fun _ _ => rfl) : Ev X (.Subscript a b pos) δ Q := fun G H σ s => by
  intro pins s0 I
  refine Subscript_ (thn (h G H σ s pins s0 I) fun v s1 ⟨v1, H1, I1, r1, x1, G1, d1', t1, h1⟩ => ?_)
  refine thn (h1 G1 H1 σ t1.st.pop pins s1 I1) fun u s2 ⟨v2, H2, I2, r2, x2, G2, d2', t2, r, ho, d1, d2, e1, e2, od⟩ => ?_
  refine thn (ho a b pins s2 σ H2 v1 v2 v u _ I2 r1 r2 (rd_run (S := fun z => Q z d2') t2.st.pop (top_fz (t1.st.frame t2.pop) e1) (top_fz t2.st e2) od) (hs _ _)) fun w s3 z => EPO.back (t1.pop.trans t2.pop) z
theorem atI_len {α β : Type} {xs : List α} {ys : List β} {i : Int} {x : α} (h : atI xs i = some x) (l : ys.length = xs.length) : ∃ (j : Nat) (y : β), xs[j]? = some x ∧ ys[j]? = some y ∧ atI ys i = some y := by
  unfold atI at h ⊢
  rw [l]
  cases e : ixN xs.length i with
  | none => rw [e] at h; cases h
  | some j =>
    rw [e] at h
    have h : xs[j]? = some x := h
    have hj := (List.getElem?_eq_some_iff.mp h).1
    exact ⟨j, ys[j]'(by omega), h, by simp [l, hj], by simp [l, hj]⟩
theorem ix_L {ds : List D} {i : Int} {d : D} (h : atI ds i = some d) (q : S (.fz d)) : IxD X (.fz (.lst ds)) (.fz (.int i)) S :=
  ⟨_, ix_list, _, _, rfl, rfl, fun G H v1 v2 k s r1 r2 z => by
    unfold Rep at r1 r2
    obtain ⟨a1, w1, rfl, g1, rs1⟩ := r1
    obtain ⟨j, v, e1, e2, e3⟩ := atI_len h rs1.length
    obtain ⟨v', e4, r⟩ := rs1.get e1
    rw [e2] at e4
    cases e4
    exact ⟨a1, w1, i, v, rfl, r2, .of (s _ _ g1), e3, z d _ G H q (Same.refl _) (Same.refl _) s (fun _ h => .inl h) r⟩⟩
theorem ix_T {ds : List D} {i : Int} {d : D} (h : atI ds i = some d) (q : S (.fz d)) : IxD X (.fz (.tup ds)) (.fz (.int i)) S :=
  ⟨_, ix_tup, _, _, rfl, rfl, fun G H v1 v2 k s r1 r2 z => by
    unfold Rep at r1 r2
    obtain ⟨a1, w1, rfl, g1, rs1⟩ := r1
    obtain ⟨j, v, e1, e2, e3⟩ := atI_len h rs1.length
    obtain ⟨v', e4, r⟩ := rs1.get e1
    rw [e2] at e4
    cases e4
    exact ⟨a1, w1, i, v, rfl, r2, .of (s _ _ g1), e3, z d _ G H q (Same.refl _) (Same.refl _) s (fun _ h => .inl h) r⟩⟩
/-- a part of a slice -/
def Ep (X : Cx) (o : Option Expr) (δ : En) (R : Option Int → Prop) : Prop := ∃ i0 : Option Int, R i0 ∧ ∀ G H σ, Stt X.K G H σ δ → ∃ t : TO, PO X o t ∧ t σ H fun i H' => ∃ G', Step X.K G H δ G' H' σ δ ∧ i = i0
theorem ep_none {R : Option Int → Prop} (q : R none) : Ep X none δ R := ⟨none, q, fun G H σ s => ⟨_, po_none, G, s.step, rfl⟩⟩
theorem ep_some {R : Option Int → Prop} {i : Int} (h : Ev X e δ fun x δ' => x = .fz (.int i) ∧ δ' = δ) (q : R (some i)) : Ep X (some e) δ R := ⟨some i, q, fun G H σ s =>
  ⟨_, po_some wE_pe, (h G H σ s).imp fun v H1 ⟨x, G1, d1, s1, e1, e2⟩ => by
    subst e2
    have r := top_fz s1.st e1
    unfold Rep at r
    exact ⟨i, r, G1, s1.pop, rfl⟩⟩⟩
def SlD (X : Cx) (x : OD) (l u : Option Int) (S : OD → Prop) : Prop := ∃ r, SlR X r ∧ ∃ d1, x = .fz d1 ∧ ∀ G H v1 (k : VK), Same G H → Rep X.K G d1 v1 →
  (∀ d v G' H', S (.fz d) → Same G G' → Same H H' → Same G' H' → (∀ a, G' a ≠ none → G a ≠ none ∨ H a = none) → Rep X.K G' d v → k v H') → r v1 l u H k
/-- x[l:u] with its parts known to be ints -/
theorem ev_sl {lo hi : Option Expr} (h : Ev X e δ fun x δ1 => Ep X lo δ1 fun l => Ep X hi δ1 fun u => SlD X x l u fun z => Q z δ1) : Ev X (.Subscript e (.Slice lo hi none p2) pos) δ Q := fun G H σ s => by
  intro pins s0 I
  refine Subscript_ (thn (h G H σ s pins s0 I) fun v s1 ⟨v1, H1, I1, r1, x1, G1, δ1, t1, h1⟩ => ?_)
  obtain ⟨l0, h2, h1⟩ := h1
  obtain ⟨u0, ⟨r, ho, d1, e1, h3⟩, h2⟩ := h2
  obtain ⟨tl, pl, q1⟩ := h1 G1 H1 σ t1.st.pop
  refine wpAny_Slice (thn (pl.run pins s1 σ H1 _ I1 q1) fun vl s2 ⟨l, H2, I2, ql, G2, t2, el⟩ => ?_)
  obtain ⟨th, ph, q2⟩ := h2 G2 H2 σ t2.st
  refine thn (ph.run pins s2 σ H2 _ I2 q2) fun vu s3 ⟨u, H3, I3, qu, G3, t3, eu⟩ => ?_
  subst el eu
  rw [evalPart_none]
  refine wpAny_pure ?_
  have I4 : Inv X pins σ H3 { s3 with heap := s3.heap.push { cls := .type "slice", data := .fields #[vl, vu, .none] } } := I3.kept (t' := s3.toks) fun b ob q => Heap.get?_push_of_some _ q
  have rr := top_fz (t1.st.frame (t2.trans t3)) e1
  have run : r v1 l u H3 (Post X.K G H σ δ Q) := h3 G3 H3 v1 _ t3.st.ex rr fun d v G' H' hq g h e n rd => ⟨_, G', δ1, ((((t1.pop.trans t2).trans t3)).grow g h e n).pushF rd, hq⟩
  obtain ⟨T, id, hT, ht, hg⟩ := ho pins { s3 with heap := s3.heap.push { cls := .type "slice", data := .fields #[vl, vu, .none] } } σ H3 v1 v vl vu l u s3.heap.objs.size _ I4 r1 (Heap.IsSliceOf.new ..) ql qu run
  exact tail_any (s := { s3 with heap := s3.heap.push { cls := .type "slice", data := .fields #[vl, vu, .none] } }) (ops := [.ref s3.heap.objs.size, v]) ht hT hg (by with_unfolding_all rfl)
def cutD (ds : List D) (lo hi : Option Int) : List D := (ds.drop (HT.sIx ds.length 0 lo)).take (HT.sIx ds.length ds.length hi - HT.sIx ds.length 0 lo)
theorem Reps.take {K : PySem.W.Frag} {G : Hp} : ∀ {ds : List D} {vs : List V} (n : Nat), Reps K G ds vs → Reps K G (ds.take n) (vs.take n)
  | _, _, 0, _ => by simpa using Reps.nil
  | [], vs, n + 1, h => by
    unfold Reps at h
    subst h
    simpa using Reps.nil
  | d :: ds, vs, n + 1, h => by
    unfold Reps at h
    obtain ⟨v, r, rfl, h1, h2⟩ := h
    exact Reps.cons h1 (Reps.take n h2)
theorem Reps.drop {K : PySem.W.Frag} {G : Hp} : ∀ {ds : List D} {vs : List V} (n : Nat), Reps K G ds vs → Reps K G (ds.drop n) (vs.drop n)
  | _, _, 0, h => h
  | [], vs, n + 1, h => by
    unfold Reps at h
    subst h
    simpa using Reps.nil
  | d :: ds, vs, n + 1, h => by
    unfold Reps at h
    obtain ⟨v, r, rfl, h1, h2⟩ := h
    exact Reps.drop n h2
theorem sl_L {ds : List D} {l u : Option Int} (q : S (.fz (.lst (cutD ds l u)))) : SlD X (.fz (.lst ds)) l u S := ⟨_, sl_list, _, rfl, fun G H v1 k s r1 z => by
  unfold Rep at r1
  obtain ⟨a1, w1, rfl, g1, rs1⟩ := r1
  refine ⟨a1, w1, rfl, .of (s _ _ g1), fun p n => new_lst s (ds := cutD ds l u) ?_ q n z⟩
  unfold cutD cutV
  rw [rs1.length]
  exact (rs1.drop _).take _⟩
theorem reps_ints {K : PySem.W.Frag} {G : Hp} : ∀ ns : List Int, Reps K G (ns.map D.int) (ns.map V.int)
  | [] => Reps.nil
  | n :: ns => Reps.cons (by unfold Rep; rfl) (reps_ints ns)
theorem sl_R {ns : List Int} {l u : Option Int} (q : S (.fz (.lst (cutD (ns.map D.int) l u)))) : SlD X (.fz (.rol ns)) l u S := ⟨_, sl_list, _, rfl, fun G H v1 k s r1 z => by
  unfold Rep at r1
  obtain ⟨a1, rfl, g1⟩ := r1
  refine ⟨a1, _, rfl, s.seq g1, fun p n => new_lst s (ds := cutD (ns.map D.int) l u) ?_ q n z⟩
  unfold cutD cutV
  rw [List.length_map, List.length_map]
  exact ((reps_ints ns).drop _).take _⟩

/-! ### arguments, displays -/
theorem RepAs.mono {K : PySem.W.Frag} {G G' : Hp} {σ : L2.St} (g : Same G G') : ∀ {xs : List AR} {vs : List V}, RepAs K G σ xs vs → RepAs K G' σ xs vs
  | [], _, h => h
  | .d d :: xs, vs, h => by
    unfold RepAs at h ⊢
    obtain ⟨v, r, e, h1, h2⟩ := h
    exact ⟨v, r, e, Rep.mono g d v h1, RepAs.mono g h2⟩
  | .s i :: xs, vs, h => by
    unfold RepAs at h ⊢
    obtain ⟨v, r, e, h1, h2⟩ := h
    exact ⟨v, r, e, h1, RepAs.mono g h2⟩
theorem repAs_d {K : PySem.W.Frag} {G : Hp} {σ : L2.St} : ∀ {ds : List D} {vs : List V}, RepAs K G σ (ds.map .d) vs → Reps K G ds vs
  | [], vs, h => by unfold List.map RepAs at h; unfold Reps; exact h
  | d :: ds, vs, h => by
    rw [List.map_cons] at h
    unfold RepAs RepA at h
    unfold Reps
    obtain ⟨v, r, e, h1, h2⟩ := h
    exact ⟨v, r, e, h1, repAs_d h2⟩
theorem ea_nil {Q : List AR → En → Prop} (q : Q [] δ) : Ea X [] δ Q := fun G H σ s => wA_of pa_nil ⟨[], G, δ, s.step, by unfold RepAs; rfl, q⟩
theorem ea_cons {Q : List AR → En → Prop} (h : Ev X e δ fun x δ1 => ∃ d, x = .fz d ∧ Ea X es δ1 fun xs => Q (.d d :: xs)) (hs : starEach (e :: es) X.env = (false, eval e X.env) :: starEach es X.env := by rfl) : Ea X (e :: es) δ Q := fun G H σ s =>
  wA_of (pa_cons wE_pe wA_pa hs) ((h G H σ s).imp fun v H1 ⟨x, G1, d1, s1, d, e1, h2⟩ => by
    have r := top_fz s1.st e1
    refine (h2 G1 H1 σ s1.st.pop).imp fun vs H2 ⟨xs, G2, d2, s2, rs, q⟩ => ?_
    exact ⟨_, G2, d2, s1.pop.trans s2, by unfold RepAs; exact ⟨v, vs, rfl, Rep.mono s2.gr.g _ _ r, rs⟩, q⟩)
/-- an argument that is an object of a slot, handed on as it is -/
theorem ea_slot (i : Nat) {x : Str} {y : OD} {Q : List AR → En → Prop} (hN : X.N[i]? = some x) (hv : Vis X.env.scope x) (hδ : δ[i]? = some (some y)) (h : Ea X es δ fun xs => Q (.s i :: xs)) (hs : starEach (.Name x pos :: es) X.env = (false, eval (.Name x pos) X.env) :: starEach es X.env := by rfl)
    (hd : (x == ("__debug__" : Str)) = false := by decide) (hcd : (x == ("__classdict__" : Str)) = false := by decide) : Ea X (.Name x pos :: es) δ Q := fun G H σ s => by
  obtain ⟨v, e1, r⟩ := s.rep i _ hδ
  refine wA_of (pa_cons (pe_var hN hv hd hcd) wA_pa hs) ⟨v, e1, (h G H σ s).imp fun vs H2 ⟨xs, G2, d2, s2, rs, q⟩ => ?_⟩
  exact ⟨_, G2, d2, s2, by unfold RepAs; exact ⟨v, vs, rfl, e1, rs⟩, q⟩
theorem ev_lst (h : Ea X es δ fun xs δ1 => ∃ ds : List D, xs = ds.map .d ∧ ds.length ≤ 100000 ∧ Q (.fz (.lst ds)) δ1) : Ev X (.List es pos) δ Q := fun G H σ s =>
  wE_of (pe_lst wA_pa) ((h G H σ s).imp fun vs H1 ⟨xs, G1, d1, s1, rs, ds, e1, hl, q⟩ => by
    subst e1
    have rr := repAs_d rs
    refine ⟨by rw [rr.length, sizeLine_eq]; omega, fun p n => ?_⟩
    exact new_lst (W := fun d => Q (.fz d) d1) (k := Post X.K G H σ δ Q) s1.st.ex rr q n fun d v G' H' hq g h e n rd => ⟨_, G', d1, (s1.grow g h e n).pushF rd, hq⟩)
theorem ev_tup {kk : Nat} (h : Ea X es δ fun xs δ1 => ∃ ds : List D, xs = ds.map .d ∧ ds.length ≤ 100000 ∧ Q (.fz (.tup ds)) δ1) : Ev X (.Tuple es kk pos) δ Q := fun G H σ s =>
  wE_of (pe_tup wA_pa) ((h G H σ s).imp fun vs H1 ⟨xs, G1, d1, s1, rs, ds, e1, hl, q⟩ => by
    subst e1
    have rr := repAs_d rs
    refine ⟨by rw [rr.length, sizeLine_eq]; omega, fun p n => ?_⟩
    exact new_tup (W := fun d => Q (.fz d) d1) (k := Post X.K G H σ δ Q) s1.st.ex rr q n fun d v G' H' hq g h e n rd => ⟨_, G', d1, (s1.grow g h e n).pushF rd, hq⟩)
theorem repOs_fz {K : PySem.W.Frag} {G H : Hp} : ∀ {ds : List D} {vs : List V}, RepOs K G H (ds.map .fz) vs → Reps K G ds vs
  | [], vs, h => by unfold RepOs at h; unfold Reps; exact h
  | d :: ds, vs, h => by
    rw [List.map_cons] at h
    unfold RepOs RepO at h
    unfold Reps
    obtain ⟨v, r, e, h1, h2⟩ := h
    exact ⟨v, r, e, h1, repOs_fz h2⟩
theorem foots_fz : ∀ ds : List D, foots (ds.map OD.fz) = []
  | [] => by unfold List.map foots; rfl
  | d :: ds => by
    rw [List.map_cons]
    unfold foots foot
    rw [foots_fz ds]
    rfl
theorem repOs_of {K : PySem.W.Frag} {G H : Hp} : ∀ {ds : List D} {vs : List V}, Reps K G ds vs → RepOs K G H (ds.map .fz) vs
  | [], vs, h => by unfold Reps at h; unfold List.map RepOs; exact h
  | d :: ds, vs, h => by
    rw [List.map_cons]
    unfold Reps at h
    unfold RepOs RepO
    obtain ⟨v, r, e, h1, h2⟩ := h
    exact ⟨v, r, e, h1, repOs_of h2⟩
theorem g_none {G H : Hp} {q : Addr} (s : Same G H) (n : H q = none) : G q = none := by
  cases z : G q with
  | none => rfl
  | some o => rw [s _ _ z] at n; cases n
/-- a new list of frozen things as an object of one's own -/
theorem Step.newOwn {K : PySem.W.Frag} {G H G1 H1 : Hp} {σ : L2.St} {δ1 : En} {ds : List D} {vs : List V} {q : Addr} (s : Step K G H δ G1 H1 σ δ1) (r : Reps K G1 ds vs) (n : H1 q = none) :
    Step K G H δ G1 (upd H1 q (.lst vs)) (some (.ref q) :: σ) (some (.own q (ds.map .fz)) :: δ1) := by
  have gp : G1 q = none := g_none s.st.ex n
  have np : q ∉ feet δ1 := fun z => (s.st.off q z).2 n
  have s2 : Stt K G1 (upd H1 q (.lst vs)) σ δ1 := s.st.keep (Same.refl _) (s.st.ex.trans (new_h n)) (fun a ha o ho => new_h n a o ho) fun a ha => (s.st.off a ha).1
  refine s.trans ⟨s2.push ?_ ?_ fun a ha => ?_, grow_same (Same.refl _) (new_h n) (fun _ h => .inl h), fun a ha => ?_⟩
  · unfold RepO
    exact ⟨rfl, vs, upd_same, repOs_of r⟩
  · unfold foot
    rw [foots_fz]
    simp
  · unfold foot at ha
    rw [foots_fz] at ha
    simp at ha
    subst ha
    exact ⟨gp, by rw [upd_same]; simp, np⟩
  · unfold feet foot at ha
    rw [foots_fz] at ha
    simp at ha
    rcases ha with h | h
    · subst h; exact .inr n
    · exact .inl h
/-- .. as an object of one's own -/
theorem ev_lstO (h : Ea X es δ fun xs δ1 => ∃ ds : List D, xs = ds.map .d ∧ ds.length ≤ 100000 ∧ ∀ a, Q (.own a (ds.map .fz)) δ1) : Ev X (.List es pos) δ Q := fun G H σ s =>
  wE_of (pe_lst wA_pa) ((h G H σ s).imp fun vs H1 ⟨xs, G1, d1, s1, rs, ds, e1, hl, q⟩ => by
    subst e1
    have rr := repAs_d rs
    exact ⟨by rw [rr.length, sizeLine_eq]; omega, fun p n => ⟨_, G1, d1, s1.newOwn rr n, q p⟩⟩)
/-! ### an own object is frozen -/
def frost (G H : Hp) (F : List Addr) : Hp := fun a => if a ∈ F then H a else G a
mutual
theorem RepO.frost {K : PySem.W.Frag} {G G' H : Hp} (s : Same G G') : ∀ (x : OD) (v : V), (∀ a ∈ foot x, G' a = H a) → RepO K G H x v → Rep K G' (dat x) v
  | .fz d, v, _, r => by
    unfold RepO at r
    unfold Vl.dat
    exact Rep.mono s d v r
  | .own a xs, v, h, r => by
    unfold RepO at r
    unfold Vl.dat Rep
    obtain ⟨e1, vs, h1, h2⟩ := r
    refine ⟨a, vs, e1, (h a ?_).trans h1, RepOs.frost s xs vs (fun b hb => h b ?_) h2⟩
    · unfold foot; exact List.mem_cons_self
    · unfold foot; exact List.mem_cons_of_mem _ hb
  | .vol a φ, v, _, r => by
    unfold RepO at r
    unfold Vl.dat Rep
    exact r.1
theorem RepOs.frost {K : PySem.W.Frag} {G G' H : Hp} (s : Same G G') : ∀ (xs : List OD) (vs : List V), (∀ a ∈ foots xs, G' a = H a) → RepOs K G H xs vs → Reps K G' (dats xs) vs
  | [], vs, _, r => by
    unfold RepOs at r
    unfold dats Reps
    exact r
  | x :: xs, vs, h, r => by
    unfold RepOs at r
    unfold dats Reps
    obtain ⟨v, w, e, r1, r2⟩ := r
    refine ⟨v, w, e, RepO.frost s x v (fun a ha => h a ?_) r1, RepOs.frost s xs w (fun a ha => h a ?_) r2⟩
    · unfold foots; exact List.mem_append_left _ ha
    · unfold foots; exact List.mem_append_right _ ha
end
theorem Stt.frost {K : PySem.W.Frag} {G H : Hp} {σ : L2.St} {v : V} {x : OD} (s : Stt K G H (some v :: σ) (some x :: δ)) : Stt K (frost G H (foot x)) H (some v :: σ) (some (.fz (dat x)) :: δ) ∧ Same G (Vl.frost G H (foot x)) := by
  have nd := s.nd
  unfold feet at nd
  obtain ⟨n1, n2, n3⟩ := List.nodup_append.mp nd
  have inx : ∀ a ∈ foot x, a ∈ feet (some x :: δ) := fun a ha => by unfold feet; exact List.mem_append_left _ ha
  have g : Same G (Vl.frost G H (foot x)) := fun a o e => by
    unfold Vl.frost
    by_cases z : a ∈ foot x
    · rw [(s.off a (inx a z)).1] at e; cases e
    · rw [if_neg z]; exact e
  refine ⟨(s.pop.keep g (fun a o e => ?_) (fun _ _ _ h => h) fun a ha => ?_).pushF (RepO.frost g x v (fun a ha => if_pos ha) s.top), g⟩
  · unfold Vl.frost at e
    by_cases z : a ∈ foot x
    · rw [if_pos z] at e; exact e
    · rw [if_neg z] at e; exact s.ex a o e
  · show (if a ∈ foot x then H a else G a) = none
    rw [if_neg fun z => n3 a z a ha rfl]
    exact (s.pop.off a ha).1
theorem Step.frost {K : PySem.W.Frag} {G H G1 H1 : Hp} {σ : L2.St} {v : V} {x : OD} {δ' : En} (s : Step K G H δ G1 H1 (some v :: σ) (some x :: δ')) : ∃ G2, Step K G H δ G2 H1 (some v :: σ) (some (.fz (dat x)) :: δ') := by
  obtain ⟨t, g⟩ := s.st.frost
  refine ⟨_, t, ⟨s.gr.g.trans g, s.gr.h, fun a ha => ?_, s.gr.there⟩, fun a ha => s.ft a ?_⟩
  · unfold Vl.frost at ha
    by_cases z : a ∈ foot x
    · rcases s.ft a (by unfold feet; exact List.mem_append_left _ z) with w | w
      · exact .inr (.inr w)
      · exact .inr (.inl w)
    · rw [if_neg z] at ha
      exact s.gr.new a ha
  · unfold feet at ha ⊢
    unfold foot at ha
    exact List.mem_append_right _ (by simpa using ha)
theorem ev_frz (h : Ev X e δ fun x δ1 => Q (.fz (dat x)) δ1) : Ev X e δ Q := fun G H σ s => (h G H σ s).imp fun v H1 ⟨x, G1, d1, s1, q⟩ => by
  obtain ⟨G2, s2⟩ := s1.frost
  exact ⟨_, G2, d1, s2, q⟩
theorem dats_fz : ∀ ds : List D, dats (ds.map OD.fz) = ds
  | [] => by unfold List.map dats; rfl
  | d :: ds => by
    rw [List.map_cons]
    unfold dats dat
    rw [dats_fz ds]

/-! ### calls of built-ins -/
def CD (X : Cx) (f : Value) (ds : List D) (S : OD → Prop) : Prop := ∃ r, CallR X f r ∧ ∀ G H vs (k : VK), Same G H → Reps X.K G ds vs →
  (∀ d v G' H', S (.fz d) → Same G G' → Same H H' → Same G' H' → (∀ a, G' a ≠ none → G a ≠ none ∨ H a = none) → Rep X.K G' d v → k v H') → r vs H k
variable {x : Str}
theorem ev_callB {id : String} (hg : Gl X x) (hm : X.mg x = none) (hv : bootBuiltins x = some (.builtin id)) (h : Ea X (e :: es) δ fun xs δ1 => ∃ ds : List D, xs = ds.map .d ∧ CD X (.builtin id) ds fun z => Q z δ1) (hn : x ≠ "__name__" := by decide) (hdb : (x == ("__debug__" : Str)) = false := by decide)
    (he : starEach (e :: es) X.env = (false, eval e X.env) :: starEach es X.env := by rfl) (hpl : (backTo pos (starEach es X.env)).any (·.1) = false := by rfl) : Ev X (.Call (.Name x p) (e :: es) [] pos) δ Q := fun G H σ s => by
  intro pins s0 I
  refine wpAny_Call_Name_kw (ld_blt I hg hm hv ?_ hn hdb)
  refine PyProof.Rows.callWith_builtin1 (thn (h G H σ s pos pins s0 I) fun us s1 ⟨vs, H1, I1, r1, xs, G1, d1, t1, rs, ds, e1, r, hc, od⟩ => ?_) he hpl
  subst e1
  exact hc pins s1 σ H1 vs us _ I1 r1 (od G1 H1 vs _ t1.st.ex (repAs_d rs) fun d v G' H' hq g h e n rd => ⟨_, G', d1, (t1.grow g h e n).pushF rd, hq⟩)
theorem ev_callT {T : String} (hg : Gl X x) (hm : X.mg x = none) (hv : bootBuiltins x = some (.type T)) (h : Ea X (e :: es) δ fun xs δ1 => ∃ ds : List D, xs = ds.map .d ∧ CD X (.type T) ds fun z => Q z δ1) (hn : x ≠ "__name__" := by decide) (hdb : (x == ("__debug__" : Str)) = false := by decide)
    (he : starEach (e :: es) X.env = (false, eval e X.env) :: starEach es X.env := by rfl) (hpl : (backTo pos (starEach es X.env)).any (·.1) = false := by rfl) : Ev X (.Call (.Name x p) (e :: es) [] pos) δ Q := fun G H σ s => by
  intro pins s0 I
  refine wpAny_Call_Name_kw (ld_blt I hg hm hv ?_ hn hdb)
  refine PyProof.Rows.callWith_type1 (thn (h G H σ s pos pins s0 I) fun us s1 ⟨vs, H1, I1, r1, xs, G1, d1, t1, rs, ds, e1, r, hc, od⟩ => ?_) he hpl
  subst e1
  exact hc pins s1 σ H1 vs us _ I1 r1 (od G1 H1 vs _ t1.st.ex (repAs_d rs) fun d v G' H' hq g h e n rd => ⟨_, G', d1, (t1.grow g h e n).pushF rd, hq⟩)
theorem cd_len {ds : List D} (q : S (.fz (.int ds.length))) : CD X (.builtin "len") [.lst ds] S := ⟨_, call_len_seq, fun G H vs k s rs z => by
  unfold Reps Rep at rs
  obtain ⟨v, r, rfl, ⟨a, ws, rfl, g, rs⟩, rn⟩ := rs
  unfold Reps at rn
  subst rn
  refine ⟨a, ws, rfl, .inl (.of (s _ _ g)), z (.int ds.length) _ G H q (Same.refl _) (Same.refl _) s (fun _ h => .inl h) ?_⟩
  unfold Rep
  rw [rs.length]⟩
theorem cd_int {i : Int} (q : S (.fz (.int i))) : CD X (.type "int") [.int i] S := ⟨_, call_int1, fun G H vs k s rs z => by
  unfold Reps Rep at rs
  obtain ⟨v, r, rfl, rfl, rn⟩ := rs
  unfold Reps at rn
  subst rn
  exact .inl ⟨i, rfl, z (.int i) _ G H q (Same.refl _) (Same.refl _) s (fun _ h => .inl h) (by unfold Rep; rfl)⟩⟩
/-- the name of a thing's type -/
def tyD : D → String
  | .non => "NoneType"
  | .bl _ => "bool"
  | .int _ => "int"
  | .str _ => "str"
  | .lst _ => "list"
  | .tup _ => "tuple"
  | .op _ => ""
  | .rol _ => ""
theorem tyOf_D {K : PySem.W.Frag} {G H : Hp} (s : Same G H) : ∀ {d : D} {v : V}, Rep K G d v → tyD d ≠ "" → TyX K H v (.type (tyD d))
  | .non, v, r, _ => by unfold Rep at r; subst r; exact .base .non
  | .bl _, v, r, _ => by unfold Rep at r; subst r; exact .base (.bl _)
  | .int _, v, r, _ => by unfold Rep at r; subst r; exact .base (.int _)
  | .str _, v, r, _ => by unfold Rep at r; subst r; exact .base (.str _)
  | .lst _, v, r, _ => by
    unfold Rep at r
    obtain ⟨a, vs, rfl, g, _⟩ := r
    exact .base (.lst (s _ _ g))
  | .tup _, v, r, _ => by
    unfold Rep at r
    obtain ⟨a, vs, rfl, g, _⟩ := r
    exact .base (.tup (s _ _ g))
  | .op _, _, _, h => absurd rfl h
  | .rol _, _, _, h => absurd rfl h
theorem cd_isi {d : D} {t : String} {r : Bool} (ht : tyD d ≠ "") (hk : kitB (tyD d) t = some r) (q : S (.fz (.bl r))) : CD X (.builtin "isinstance") [d, .op (.ty t)] S := ⟨_, call_isi, fun G H vs k s rs z => by
  unfold Reps at rs
  obtain ⟨v, r1, rfl, rv, rn⟩ := rs
  unfold Reps Rep at rn
  obtain ⟨v2, r2, rfl, rfl, rn⟩ := rn
  unfold Reps at rn
  subst rn
  exact ⟨v, .ty t, _, _, r, rfl, .ty t, tyOf_D s rv ht, kit_ty hk, z (.bl r) _ G H q (Same.refl _) (Same.refl _) s (fun _ h => .inl h) (by unfold Rep; rfl)⟩⟩
theorem cd_list {ds : List D} (q : S (.fz (.lst ds))) : CD X (.type "list") [.lst ds] S := ⟨_, call_list_of, fun G H vs k s rs z => by
  unfold Reps Rep at rs
  obtain ⟨v, r, rfl, ⟨a, ws, rfl, g, rs⟩, rn⟩ := rs
  unfold Reps at rn
  subst rn
  exact ⟨a, ws, rfl, .inl (.of (s _ _ g)), fun l n => new_lst (W := fun d => S (.fz d)) s rs q n z⟩⟩
theorem reps_bls {K : PySem.W.Frag} {G : Hp} : ∀ {bs : List Bool} {vs : List V}, Reps K G (bs.map D.bl) vs → vs = bs.map V.bl
  | [], _, h => by unfold Reps at h; exact h
  | b :: bs, vs, h => by
    rw [List.map_cons] at h
    unfold Reps Rep at h
    obtain ⟨v, r, rfl, rfl, h2⟩ := h
    rw [reps_bls h2, List.map_cons]
theorem reps_intsV {K : PySem.W.Frag} {G : Hp} : ∀ {bs : List Int} {vs : List V}, Reps K G (bs.map D.int) vs → vs = bs.map V.int
  | [], _, h => by unfold Reps at h; exact h
  | b :: bs, vs, h => by
    rw [List.map_cons] at h
    unfold Reps Rep at h
    obtain ⟨v, r, rfl, rfl, h2⟩ := h
    rw [reps_intsV h2, List.map_cons]
theorem one_lst {K : PySem.W.Frag} {G : Hp} {ds : List D} {vs : List V} (rs : Reps K G [.lst ds] vs) : ∃ a ws, vs = [.ref a] ∧ G a = some (.lst ws) ∧ Reps K G ds ws := by
  unfold Reps Rep at rs
  obtain ⟨v, r, rfl, ⟨a, ws, rfl, g, rs⟩, rn⟩ := rs
  unfold Reps at rn
  subst rn
  exact ⟨a, ws, rfl, g, rs⟩
theorem cd_all (hc : X.calm = true) {bs : List Bool} (q : S (.fz (.bl (bs.all id)))) : CD X (.builtin "all") [.lst (bs.map .bl)] S := ⟨_, cr_all hc, fun G H vs k s rs z => by
  obtain ⟨a, ws, rfl, g, rs⟩ := one_lst rs
  cases reps_bls rs
  exact ⟨a, bs, rfl, .of (s _ _ g), z (.bl _) _ G H q (Same.refl _) (Same.refl _) s (fun _ h => .inl h) (by unfold Rep; rfl)⟩⟩
theorem cd_any (hc : X.calm = true) {bs : List Bool} (q : S (.fz (.bl (bs.any id)))) : CD X (.builtin "any") [.lst (bs.map .bl)] S := ⟨_, cr_any hc, fun G H vs k s rs z => by
  obtain ⟨a, ws, rfl, g, rs⟩ := one_lst rs
  cases reps_bls rs
  exact ⟨a, bs, rfl, .of (s _ _ g), z (.bl _) _ G H q (Same.refl _) (Same.refl _) s (fun _ h => .inl h) (by unfold Rep; rfl)⟩⟩
theorem cd_sum (hc : X.calm = true) {ns : List Int} (q : S (.fz (.int ns.sum))) : CD X (.builtin "sum") [.lst (ns.map .int)] S := ⟨_, cr_sum hc, fun G H vs k s rs z => by
  obtain ⟨a, ws, rfl, g, rs⟩ := one_lst rs
  cases reps_intsV rs
  exact ⟨a, ns, rfl, .of (s _ _ g), z (.int _) _ G H q (Same.refl _) (Same.refl _) s (fun _ h => .inl h) (by unfold Rep; rfl)⟩⟩
theorem cd_maxL (hc : X.calm = true) {ns : List Int} (hl : 0 < ns.length) (q : ∀ m, m ∈ ns → (∀ y, y ∈ ns → y ≤ m) → S (.fz (.int m))) : CD X (.builtin "max") [.lst (ns.map .int)] S := ⟨_, cr_max hc, fun G H vs k s rs z => by
  obtain ⟨a, ws, rfl, g, rs⟩ := one_lst rs
  cases reps_intsV rs
  exact ⟨a, ns, rfl, .of (s _ _ g), hl, fun m h1 h2 => z (.int m) _ G H (q m h1 h2) (Same.refl _) (Same.refl _) s (fun _ h => .inl h) (by unfold Rep; rfl)⟩⟩
theorem two_int {K : PySem.W.Frag} {G : Hp} {i j : Int} {vs : List V} (rs : Reps K G [.int i, .int j] vs) : vs = [.int i, .int j] := by
  unfold Reps Rep at rs
  obtain ⟨v, r, rfl, rfl, rn⟩ := rs
  unfold Reps Rep at rn
  obtain ⟨v2, r2, rfl, rfl, rn⟩ := rn
  unfold Reps at rn
  subst rn
  rfl
theorem cd_max2 (hc : X.calm = true) {i j : Int} (q : S (.fz (.int (if j > i then j else i)))) : CD X (.builtin "max") [.int i, .int j] S := ⟨_, call_max2 hc, fun G H vs k s rs z => by
  cases two_int rs
  exact ⟨i, j, rfl, z (.int _) _ G H q (Same.refl _) (Same.refl _) s (fun _ h => .inl h) (by unfold Rep; rfl)⟩⟩
theorem cd_min2 (hc : X.calm = true) {i j : Int} (q : S (.fz (.int (if j < i then j else i)))) : CD X (.builtin "min") [.int i, .int j] S := ⟨_, call_min2 hc, fun G H vs k s rs z => by
  cases two_int rs
  exact ⟨i, j, rfl, z (.int _) _ G H q (Same.refl _) (Same.refl _) s (fun _ h => .inl h) (by unfold Rep; rfl)⟩⟩
end
end Vl

namespace Vl
open PySem PySem.Spec PyProof.Rows L2
/-- a list of frozen things as an object of one's own -/
abbrev ol (a : Addr) (ds : List D) : OD := .own a (ds.map .fz)
section
variable {X : Cx} {e a b c tg : Expr} {es ts : List Expr} {st : Stmt} {sts bd orelse : List Stmt} {δ : En} {Q Q' : OD → En → Prop} {R R' : Bool → En → Prop} {P P' : DE} {pos p p2 p3 : Pos} {x y : Str}
/-! ### blocks -/
theorem eb_nil (q : P.nx δ) : Eb X [] δ P := fun G H σ s => wB_of pss_nil ⟨G, δ, s.step, q⟩
theorem eb_cons (h : Es X st δ { P with nx := fun δ' => Eb X sts δ' P }) : Eb X (st :: sts) δ P := fun G H σ s =>
  wB_of (pss_cons wS_ps wB_ps) ((h G H σ s).imp ⟨fun σ' H' ⟨G', δ', s', q⟩ => (q G' H' σ' s'.st).imp (DE.le s' (fun _ z => z) (fun _ _ z => z) (fun _ z => z) fun _ z => z), fun _ _ z => z, fun _ _ z => z, fun _ _ z => z⟩)
theorem eb_one (h : Es X st δ P) : Eb X [st] δ P := fun G H σ s => wB_of (pss_one wS_ps) (h G H σ s)
theorem es_pass (q : P.nx δ) : Es X (.Pass pos) δ P := fun G H σ s => wS_of ps_pass ⟨G, δ, s.step, q⟩
theorem es_break (q : P.bk δ) : Es X (.Break pos) δ P := fun G H σ s => wS_of ps_break ⟨G, δ, s.step, q⟩
theorem es_cont (q : P.ct δ) : Es X (.Continue pos) δ P := fun G H σ s => wS_of ps_continue ⟨G, δ, s.step, q⟩
theorem es_expr (h : Ev X e δ fun _ δ1 => P.nx δ1) (hs : swapsWith e none pos.line X.env = pure false := by rfl) : Es X (.Expr e pos) δ P := fun G H σ s =>
  wS_of (ps_expr wE_pe hs) ((h G H σ s).imp fun v H1 ⟨x, G1, d1, s1, q⟩ => ⟨G1, d1, s1.pop, q⟩)
theorem es_ret (h : Ev X e δ fun x δ1 => P.rt x δ1) : Es X (.Return (some e) pos) δ P := fun G H σ s =>
  wS_of (ps_ret wE_pe) ((h G H σ s).imp fun v H1 ⟨x, G1, d1, s1, q⟩ => ⟨x, G1, σ, d1, s1, q⟩)
theorem es_retN (h : P.rt (.fz .non) δ) : Es X (.Return none pos) δ P := fun G H σ s =>
  wS_of ps_retN ⟨_, G, σ, δ, s.stepF (by unfold Rep; rfl), h⟩
theorem es_if (h : Et X c δ fun k δ1 => (k = true → Eb X sts δ1 P) ∧ (k = false → Eb X bd δ1 P)) : Es X (.If c sts bd pos) δ P := fun G H σ s =>
  wS_of (ps_if wT_pt wB_ps wB_ps) ((h G H σ s).imp fun k H1 ⟨G1, d1, s1, h1, h2⟩ => by
    cases k with
    | true => exact (h1 rfl G1 H1 σ s1.st).imp (DE.le s1 (fun _ z => z) (fun _ _ z => z) (fun _ z => z) fun _ z => z)
    | false => exact (h2 rfl G1 H1 σ s1.st).imp (DE.le s1 (fun _ z => z) (fun _ _ z => z) (fun _ z => z) fun _ z => z))
/-! ### targets -/
theorem eg_name (i : Nat) {z : OD} {T : En → Prop} (hN : X.N.Nodup) (hi : X.N[i]? = some x) (hx : Loc X.env.scope x) (hl : i < δ.length) (q : T (δ.set i (some z))) (hf : X.fn x = true ∨ X.env.scope.names.lookup x = some .local := by first | exact .inl rfl | exact .inr rfl | assumption) :
    Eg X (.Name x pos) z δ T := fun G H σ v s => wG_of (pg_name hN hi hx hf) ⟨G, _, ⟨s.set hl, Grow.refl, fun a ha => .inl (by
      unfold feet
      rcases feet_set_mem a ha with h | h
      · exact List.mem_append_left _ h
      · exact List.mem_append_right _ h)⟩, q⟩
/-- several targets take frozen data -/
def Egs (X : Cx) (ts : List Expr) (ds : List D) (δ : En) (T : En → Prop) : Prop :=
  ∀ G H σ vs, Stt X.K G H σ δ → Reps X.K G ds vs → wGs X ts vs σ H fun σ' H' => ∃ G' δ', Step X.K G H δ G' H' σ' δ' ∧ T δ'
theorem feet_fz {d : D} {δ : En} : feet (some (.fz d) :: δ) = feet δ := by
  rw [show feet (some (.fz d) :: δ) = foot (.fz d) ++ feet δ from by rw [feet], show foot (.fz d) = [] from by rw [foot]]
  rfl
theorem Step.unfz {K : PySem.W.Frag} {G H G' H' : Hp} {σ' : L2.St} {δ' : En} {d : D} (s : Step K G H (some (.fz d) :: δ) G' H' σ' δ') : Step K G H δ G' H' σ' δ' := ⟨s.st, by have := s.gr; rw [feet_fz] at this; exact this, by have := s.ft; rw [feet_fz] at this; exact this⟩
theorem Step.tofz {K : PySem.W.Frag} {G H G' H' : Hp} {σ' : L2.St} {δ' : En} {d : D} (s : Step K G H δ G' H' σ' δ') : Step K G H (some (.fz d) :: δ) G' H' σ' δ' := ⟨s.st, by have := s.gr; rw [feet_fz]; exact this, by have := s.ft; rw [feet_fz]; exact this⟩
theorem egs_nil {T : En → Prop} (q : T δ) : Egs X [] [] δ T := fun G H σ vs s r => wGs_of pgs_nil ⟨by unfold Reps at r; exact r, G, δ, s.step, q⟩
theorem egs_cons {d : D} {ds : List D} {T : En → Prop} (h : Eg X tg (.fz d) δ fun δ' => Egs X ts ds δ' T) (hs : (assignEach (tg :: ts) X.env).map (·.2) = assign tg X.env :: (assignEach ts X.env).map (·.2) := by rfl) : Egs X (tg :: ts) (d :: ds) δ T := fun G H σ vs s r => by
  unfold Reps at r
  obtain ⟨v, w, e1, r1, r2⟩ := r
  refine wGs_of (pgs_cons wG_pg wGs_pg hs) ⟨v, w, e1, (h G H σ v (s.pushF r1)).imp fun σ1 H1 ⟨G1, δ1, s1, h1⟩ => ?_⟩
  exact (h1 G1 H1 σ1 w s1.st (Reps.mono s1.gr.g _ _ r2)).imp fun σ2 H2 ⟨G2, δ2, s2, q⟩ => ⟨G2, δ2, s1.unfz.trans s2, q⟩
theorem eg_tup {ds : List D} {kk : Nat} {T : En → Prop} (hc : X.calm = true) (h : Egs X ts ds δ T) (hl : ds.length = ts.length) (hn : (assignEach ts X.env).length = ts.length := by rfl) (hst : (assignEach ts X.env).findIdx? (·.1) = none := by rfl) : Eg X (.Tuple ts kk pos) (.fz (.tup ds)) δ T := fun G H σ v s => by
  have r := top_fz s rfl
  unfold Rep at r
  obtain ⟨a, vs, e1, g, rs⟩ := r
  exact wG_of (pg_tup (n := ts.length) hc wGs_pg hn hst) ⟨a, vs, e1, .of (s.ex _ _ g), rs.length.trans hl, (h G H σ vs s.pop rs).imp fun σ' H' ⟨G', δ', s', q⟩ => ⟨G', δ', s'.tofz, q⟩⟩
/-! ### assignments -/
theorem es_set (i : Nat) (hN : X.N.Nodup) (hi : X.N[i]? = some x) (hx : Loc X.env.scope x) (h : Ev X e δ fun z δ1 => i < δ1.length ∧ P.nx (δ1.set i (some z))) (hs : swapsWith e (some (.Name x p)) pos.line X.env = pure false := by rfl)
    (hf : X.fn x = true ∨ X.env.scope.names.lookup x = some .local := by first | exact .inl rfl | exact .inr rfl | assumption) : Es X (.Assign [.Name x p] e pos) δ P := fun G H σ s =>
  wS_of (ps_set hN hi hx wE_pe hs hf) ((h G H σ s).imp fun v H1 ⟨z, G1, d1, s1, hl, q⟩ => ⟨G1, _, s1.set hl, q⟩)
theorem es_asg (h : Ev X e δ fun z δ1 => Eg X tg z δ1 P.nx) (hs : swapsWithSole [tg] e pos.line X.env = pure false := by rfl) (hw : swappedStores [tg] e X.env = pure none := by rfl) (h1 : (assignEach [tg] X.env).map (·.2) = [assign tg X.env] := by rfl) : Es X (.Assign [tg] e pos) δ P := fun G H σ s =>
  wS_of (ps_asg wE_pe wG_pg hs hw h1) ((h G H σ s).imp fun v H1 ⟨z, G1, d1, s1, q⟩ => (q G1 H1 σ v s1.st).imp fun σ2 H2 ⟨G2, δ2, s2, q2⟩ => ⟨G2, δ2, s1.trans s2, q2⟩)
theorem es_par (i j : Nat) {px py pt : Pos} {kt k2 pt2} (hc : X.calm = true) (hN : X.N.Nodup) (hi : X.N[i]? = some x) (hj : X.N[j]? = some y) (hij : i ≠ j) (hx : X.env.scope.names.lookup x = some .local) (hy : X.env.scope.names.lookup y = some .local)
    (h : Ev X a δ fun u δ1 => Ev X b δ1 fun w δ2 => i < δ2.length ∧ j < δ2.length ∧ P.nx ((δ2.set i (some u)).set j (some w)))
    (hw : swappedStores [.Tuple [.Name x px, .Name y py] kt pt] (.Tuple [a, b] k2 pt2) X.env = pure (some [x, y]) := by rfl)
    (hs : swapsWithSole [.Tuple [.Name x px, .Name y py] kt pt] (.Tuple [a, b] k2 pt2) pos.line X.env = pure false := by rfl)
    (h1 : starEach [a, b] X.env = (false, eval a X.env) :: starEach [b] X.env := by rfl) (h2 : starEach [b] X.env = (false, eval b X.env) :: starEach [] X.env := by rfl) :
    Es X (.Assign [.Tuple [.Name x px, .Name y py] kt pt] (.Tuple [a, b] k2 pt2) pos) δ P := fun G H σ s =>
  wS_of (ps_par hc hN hi hj hij hx hy (pa_cons wE_pe (pa_cons wE_pe pa_nil h2) h1) hw hs) ((h G H σ s).imp fun v H1 ⟨u, G1, d1, s1, q⟩ => (q G1 H1 σ s1.st.pop).imp fun w H2 ⟨z, G2, d2, s2, hl, hm, q2⟩ => by
    refine ⟨v, w, rfl, G2, _, ?_, q2⟩
    -- both wait at the top: the first under the second
    have t1 : Stt X.K G2 H2 (some v :: some w :: σ) (some u :: some z :: d2) := s1.st.frame s2
    have f1 : ∀ a ∈ feet (some u :: some z :: d2), a ∈ feet δ ∨ H a = none := fun a ha => by
      unfold feet at ha
      rcases List.mem_append.mp ha with h | h
      · exact s1.ft a (by unfold feet; exact List.mem_append_left _ h)
      · rcases s2.ft a h with h | h
        · exact s1.pop.ft a h
        · refine .inr ?_
          cases e : H a with
          | none => rfl
          | some o => exact absurd h (s1.gr.there a (by rw [e]; simp))
    have big : Step X.K G H δ G2 H2 (some v :: some w :: σ) (some u :: some z :: d2) := ⟨t1, s1.gr.trans s2.gr s1.pop.ft, f1⟩
    have big2 := (big.set (i := i + 1) (by simp; omega))
    simp only [List.set_cons_succ] at big2
    have big3 := (big2.set (i := j) (by simpa using hm))
    exact big3)
/-! ### own lists -/
theorem own_run {K : PySem.W.Frag} {G H : Hp} {σ : L2.St} {i : Nat} {l : Addr} {ds : List D} (s : Stt K G H σ δ) (hδ : δ[i]? = some (some (ol l ds))) : σ[i]? = some (some (.ref l)) ∧ ∃ vs, H l = some (.lst vs) ∧ Reps K G ds vs := by
  obtain ⟨v, e1, r⟩ := s.rep i _ hδ
  unfold ol RepO at r
  obtain ⟨e2, vs, h1, h2⟩ := r
  exact ⟨by rw [e1, e2], vs, h1, repOs_fz h2⟩
/-- an own list's new content -/
theorem Step.own {K : PySem.W.Frag} {G H : Hp} {σ : L2.St} {i : Nat} {l : Addr} {ds es : List D} {vs : List V} (s : Stt K G H σ δ) (hδ : δ[i]? = some (some (ol l ds))) (r : Reps K G es vs) :
    Step K G H δ G (upd H l (.lst vs)) σ (δ.set i (some (ol l es))) := by
  have hi : i < δ.length := (List.getElem?_eq_some_iff.mp hδ).1
  have lf : l ∈ foot (ol l ds) := by unfold ol foot; exact List.mem_cons_self
  have lin : l ∈ feet δ := foot_in_feet hδ l lf
  have f0 : ∀ es : List D, foot (ol l es) = [l] := fun es => by unfold ol foot; rw [foots_fz]
  have ex : Same G (upd H l (.lst vs)) := fun b o e => by
    rw [upd_ne (fun z => by rw [z, (s.off l lin).1] at e; cases e)]
    exact s.ex b o e
  -- no other slot knows l
  have apart : ∀ (δ : En) (i j : Nat) (y z : OD), (feet δ).Nodup → δ[i]? = some (some y) → δ[j]? = some (some z) → i ≠ j → ∀ b ∈ foot y, b ∉ foot z := by
    intro δ
    induction δ with
    | nil => intro i j y z _ h; simp at h
    | cons w r ih =>
      intro i j y z nd h1 h2 hij b hb hz
      have ndr : (feet r).Nodup := by
        cases w with
        | none => simpa only [feet] using nd
        | some w => unfold feet at nd; exact (List.nodup_append.mp nd).2.1
      cases i with
      | zero =>
        cases j with
        | zero => exact hij rfl
        | succ j =>
          simp at h1 h2
          subst h1
          unfold feet at nd
          exact (List.nodup_append.mp nd).2.2 b hb b (foot_in_feet h2 b hz) rfl
      | succ i =>
        cases j with
        | zero =>
          simp at h1 h2
          subst h2
          unfold feet at nd
          exact (List.nodup_append.mp nd).2.2 b hz b (foot_in_feet h1 b hb) rfl
        | succ j => exact ih i j y z ndr (by simpa using h1) (by simpa using h2) (fun q => hij (by rw [q])) b hb hz
  have memS : ∀ a ∈ feet (δ.set i (some (ol l es))), a ∈ feet δ := fun a ha => by
    rcases feet_set_mem a ha with h | h
    · rw [f0] at h
      simp at h
      subst h
      exact lin
    · exact h
  refine ⟨⟨ex, by rw [List.length_set]; exact s.len, fun j y hy => ?_, ?_, fun a ha => ?_⟩, ⟨Same.refl _, fun a o ha e => ?_, fun a h => .inl h, fun a h => ?_⟩, fun a ha => .inl (memS a ha)⟩
  · by_cases e : j = i
    · subst e
      rw [List.getElem?_set_self hi] at hy
      cases hy
      refine ⟨.ref l, (own_run s hδ).1, ?_⟩
      unfold ol RepO
      exact ⟨rfl, vs, upd_same, repOs_of r⟩
    · rw [List.getElem?_set_ne (Ne.symm e)] at hy
      obtain ⟨v, e1, r1⟩ := s.rep j y hy
      refine ⟨v, e1, RepO.mono (Same.refl _) y v (fun b hb o ho => ?_) r1⟩
      rw [upd_ne]
      · exact ho
      · intro z
        subst z
        exact apart δ i j _ _ s.nd hδ hy (Ne.symm e) b lf hb
  · -- feet of a set slot with the same foot
    have same : ∀ (δ : En) (i : Nat) (y z : OD), δ[i]? = some (some y) → foot z = foot y → feet (δ.set i (some z)) = feet δ := by
      intro δ
      induction δ with
      | nil => intro i y z h; simp at h
      | cons w r ih =>
        intro i y z h hz
        cases i with
        | zero => simp at h; subst h; simp only [List.set_cons_zero, feet, hz]
        | succ i =>
          have := ih i y z (by simpa using h) hz
          cases w <;> simp only [List.set_cons_succ, feet, this]
    rw [same δ i _ _ hδ ((f0 es).trans (f0 ds).symm)]
    exact s.nd
  · have q := s.off a (memS a ha)
    refine ⟨q.1, ?_⟩
    by_cases z : a = l
    · subst z; rw [upd_same]; simp
    · rw [upd_ne z]; exact q.2
  · rw [upd_ne (fun z => ha (by rw [z]; exact lin))]
    exact e
  · by_cases z : a = l
    · subst z; rw [upd_same]; simp
    · rw [upd_ne z]; exact h
/-- x.append(e) -/
theorem es_app (i : Nat) {l : Addr} {ds : List D} {apos cpos : Pos} (hN : X.N[i]? = some x) (hv : Vis X.env.scope x) (hδ0 : δ[i]? = some (some (ol l ds))) (hz : ds.length < 100000)
    (h : Ev X e δ fun y δ1 => ∃ d, y = .fz d ∧ δ1[i]? = some (some (ol l ds)) ∧ P.nx (δ1.set i (some (ol l (ds ++ [d]))))) (hd : (x == ("__debug__" : Str)) = false := by decide) (hcd : (x == ("__classdict__" : Str)) = false := by decide)
    (hbase : attributeBase (.Name x p) "append" X.env (eval (.Name x p) X.env) = eval (.Name x p) X.env := by rfl)
    (hfew : ((backTo cpos (starEach (e :: []) X.env)).all (fun x => !x.1) && (backToKw cpos (keywordEach [] X.env)).all (fun x => x.1.isSome)
      && decide ((e :: ([] : List Expr)).length + ([] : List Keyword).length + (if ([] : List Keyword).isEmpty then 0 else 1) < 30)) = true := by rfl)
    (hline : (apos.endLine == cpos.line) = true := by rfl) (hs : starEach (e :: []) X.env = (false, eval e X.env) :: starEach [] X.env := by rfl) (hplain : (backTo cpos (starEach [] X.env)).any (·.1) = false := by rfl)
    (hsw : swapsWith (.Call (.Attribute (.Name x p) "append" apos) [e] [] cpos) none pos.line X.env = pure false := by rfl) : Es X (.Expr (.Call (.Attribute (.Name x p) "append" apos) [e] [] cpos) pos) δ P := fun G H σ s => by
  obtain ⟨e1, vs, hl, rs⟩ := own_run s hδ0
  refine wS_of (ps_expr (pe_bm PySem.F.plainAttrs_list PySem.F.slot_list_append PySem.F.type_list_append mt_append (pe_var hN hv hd hcd) (pa_cons wE_pe pa_nil hs) hbase hfew hline hs hplain) hsw) ?_
  refine ⟨.ref l, e1, .inl ⟨rfl, vs, .of hl⟩, (h G H σ s).imp fun v H1 ⟨y, G1, d1, s1, d, ey, hδ, q⟩ => ?_⟩
  have r := top_fz s1.st ey
  obtain ⟨_, ws, hl1, rs1⟩ := own_run s1.st.pop hδ
  refine ⟨l, ws, v, rfl, rfl, hl1, by rw [rs1.length, sizeLine_eq]; omega, G1, _, s1.pop.trans (Step.own (es := ds ++ [d]) s1.st.pop hδ (Reps.app rs1 (Reps.cons r Reps.nil))), q⟩
/-- own objects are looked at, what comes of it is no object -/
def scalD : D → Bool
  | .non | .bl _ | .int _ | .str _ => true
  | _ => false
theorem rep_scal {K : PySem.W.Frag} {G G' : Hp} : ∀ {d : D} {v : V}, scalD d = true → Rep K G d v → Rep K G' d v
  | .non, _, _, r => by unfold Rep at r ⊢; exact r
  | .bl _, _, _, r => by unfold Rep at r ⊢; exact r
  | .int _, _, _, r => by unfold Rep at r ⊢; exact r
  | .str _, _, _, r => by unfold Rep at r ⊢; exact r
  | .lst _, _, h, _ => by cases h
  | .tup _, _, h, _ => by cases h
  | .op _, _, h, _ => by cases h
  | .rol _, _, h, _ => by cases h
theorem feet_thaw : ∀ δ : En, feet (thaw δ) = []
  | [] => rfl
  | none :: r => by show feet (none :: thaw r) = []; unfold feet; exact feet_thaw r
  | some x :: r => by show feet (some (.fz (dat x)) :: thaw r) = []; unfold feet foot; rw [feet_thaw r]; rfl
theorem Stt.thaw {K : PySem.W.Frag} {G H : Hp} {σ : L2.St} (s : Stt K G H σ δ) : Stt K H H σ (thaw δ) where
  ex := Same.refl _
  len := by rw [← s.len]; unfold Vl.thaw; rw [List.length_map]
  rep := fun i x hx => by
    unfold Vl.thaw at hx
    rw [List.getElem?_map] at hx
    cases q : δ[i]? with
    | none => rw [q] at hx; cases hx
    | some o =>
      rw [q] at hx
      cases o with
      | none => cases hx
      | some y =>
        simp at hx
        subst hx
        obtain ⟨v, e1, r⟩ := s.rep i y q
        refine ⟨v, e1, ?_⟩
        unfold RepO
        exact RepO.dat s.ex y v r
  nd := by rw [feet_thaw]; exact List.nodup_nil
  off := fun a ha => by rw [feet_thaw] at ha; cases ha
theorem unthaw {K : PySem.W.Frag} {G H G' H' : Hp} {σ : L2.St} (s : Stt K G H σ δ) (t : Step K H H (thaw δ) G' H' σ (thaw δ)) : Step K G H δ G H' σ δ := by
  have k : Same H H' := fun a o e => t.gr.h a o (by rw [feet_thaw]; simp) e
  exact ⟨s.keep (Same.refl _) (s.ex.trans k) (fun a _ o e => k a o e) (fun a ha => (s.off a ha).1), ⟨Same.refl _, fun a o _ e => k a o e, fun _ h => .inl h, t.gr.there⟩, fun a ha => .inl ha⟩
theorem ev_look (h : Ev X e (thaw δ) fun x δ1 => δ1 = thaw δ ∧ ∃ d, x = .fz d ∧ scalD d = true ∧ Q (.fz d) δ) : Ev X e δ Q := fun G H σ s => (h H H σ s.thaw).imp fun v H1 ⟨x, G1, d1, s1, e2, d, e1, hs, q⟩ => by
  subst e2
  exact ⟨_, G, δ, (unthaw s s1.pop).pushF (rep_scal hs (top_fz s1.st e1)), q⟩
theorem et_look (h : Et X e (thaw δ) fun k δ1 => δ1 = thaw δ ∧ R k δ) : Et X e δ R := fun G H σ s => (h H H σ s.thaw).imp fun k H1 ⟨G1, d1, s1, e2, q⟩ => by
  subst e2
  exact ⟨G, δ, unthaw s s1, q⟩
end
end Vl

namespace Vl
open PySem PySem.Spec PyProof.Rows L2
/-! ### what is walked -/
/-- the iterator J gives the data ds, whatever grows meanwhile -/
def ItOk (K : PySem.W.Frag) (J : It) (G1 : Hp) (ds : List D) : Prop := ∃ (Gd : Hp → Prop) (Y : Nat → Hp → V → Hp → Prop), Walk J ds.length Gd Y ∧ (∀ H2, Same G1 H2 → Gd H2) ∧
  ∀ (i : Nat) (H2 : Hp) (v : V) (H3 : Hp) (G2 : Hp) (d : D), Same G1 G2 → Same G2 H2 → Y i H2 v H3 → ds[i]? = some d →
    ∃ G3, Same G2 G3 ∧ Same H2 H3 ∧ Same G3 H3 ∧ (∀ a, G3 a ≠ none → G2 a ≠ none ∨ H2 a = none) ∧ Rep K G3 d v
def wI (X : Cx) (tg iter : Expr) : TI := fun σ H R => ∀ pins s, Inv X pins σ H s → wpAny (model X.prog X.w) X.A (eval iter X.env) (fun v s1 => wpAny (model X.prog X.w) X.A (pyIter v) (PIE X pins σ tg R) X.xe s1) X.xe s
theorem wI_pi {X : Cx} {tg iter : Expr} : PI X tg iter (wI X tg iter) := ⟨fun pins s _ _ _ I h => h pins s I⟩
theorem wI_of {X : Cx} {tg iter : Expr} {wi : TI} {σ : L2.St} {H : Hp} {R : It → Hp → Prop} (h : PI X tg iter wi) (q : wi σ H R) : wI X tg iter σ H R := fun pins s I => h.run pins s σ H R I q
theorem wI.imp {X : Cx} {tg iter : Expr} {σ : L2.St} {H : Hp} {R R' : It → Hp → Prop} (h : wI X tg iter σ H R) (q : ∀ J H', R J H' → R' J H') : wI X tg iter σ H R' := fun pins s I =>
  thn (h pins s I) fun v s1 z => thn z fun itv s2 ⟨it, fp, tn, J, H', e1, I', T, t0, f, r⟩ => ⟨it, fp, tn, J, H', e1, I', T, t0, f, q J H' r⟩
def Ei (X : Cx) (tg iter : Expr) (δ : En) (R : List D → En → Prop) : Prop := ∀ G H σ, Stt X.K G H σ δ → wI X tg iter σ H fun J H1 => ∃ G1 ds δ1, Step X.K G H δ G1 H1 σ δ1 ∧ R ds δ1 ∧ ItOk X.K J G1 ds
section
variable {X : Cx} {e a b c tg iter : Expr} {es ts : List Expr} {st : Stmt} {sts bd orelse : List Stmt} {δ : En} {Q Q' : OD → En → Prop} {R : List D → En → Prop} {P P' : DE} {pos p p2 p3 : Pos} {x y : Str}
theorem itok_list {K : PySem.W.Frag} {G : Hp} {l : Addr} {ds : List D} {vs : List V} (g : G l = some (.lst vs)) (r : Reps K G ds vs) : ItOk K (Itl K l) G ds := by
  refine ⟨fun H => SqL K H l vs, YAt vs, by rw [← r.length]; exact walk_list, fun H2 s => .of (s _ _ g), fun i H2 v H3 G2 d s1 s2 y hd => ?_⟩
  obtain ⟨e1, e2⟩ := y
  subst e1
  obtain ⟨v', e3, rv⟩ := r.get hd
  rw [e2] at e3
  cases e3
  exact ⟨G2, Same.refl _, Same.refl _, s2, fun _ h => .inl h, Rep.mono s1 _ _ rv⟩
theorem ei_list (h : Ev X iter δ fun x δ1 => ∃ ds, x = .fz (.lst ds) ∧ R ds δ1) : Ei X tg iter δ R := fun G H σ s => wI_of (pi_list wE_pe) ((h G H σ s).imp fun v H1 ⟨x, G1, δ1, s1, ds, e1, q⟩ => by
  have r := top_fz s1.st e1
  unfold Rep at r
  obtain ⟨l, vs, rfl, g, rs⟩ := r
  exact ⟨l, rfl, ⟨vs, .of (s1.st.ex _ _ g)⟩, G1, ds, δ1, s1.pop, q, itok_list g rs⟩)
theorem ei_rol (h : Ev X iter δ fun x δ1 => ∃ ns, x = .fz (.rol ns) ∧ R (ns.map .int) δ1) : Ei X tg iter δ R := fun G H σ s => wI_of (pi_list wE_pe) ((h G H σ s).imp fun v H1 ⟨x, G1, δ1, s1, ns, e1, q⟩ => by
  have r := top_fz s1.st e1
  unfold Rep at r
  obtain ⟨l, rfl, g⟩ := r
  refine ⟨l, rfl, ⟨_, s1.st.ex.seq g⟩, G1, _, δ1, s1.pop, q, fun H => SqL X.K H l (ns.map V.int), YAt (ns.map V.int), by rw [List.length_map, ← List.length_map (f := V.int)]; exact walk_list, fun H2 s => s.seq g, fun i H2 v H3 G2 d t1 t2 y hd => ?_⟩
  obtain ⟨e3, e2⟩ := y
  subst e3
  refine ⟨G2, Same.refl _, Same.refl _, t2, fun _ h => .inl h, ?_⟩
  rw [List.getElem?_map] at e2 hd
  cases z : ns[i]? with
  | none => rw [z] at hd; cases hd
  | some n =>
    rw [z] at e2 hd
    simp at e2 hd
    subst e2
    subst hd
    unfold Rep
    rfl)
theorem itok_range {K : PySem.W.Frag} {G : Hp} {lo : Int} {n : Nat} : ItOk K (Itr lo n) G ((List.range n).map fun (i : Nat) => D.int (lo + i)) := by
  refine ⟨fun _ => True, YFn fun i => .int (lo + i), by rw [List.length_map, List.length_range]; exact walk_range, fun _ _ => trivial, fun i H2 v H3 G2 d s1 s2 y hd => ?_⟩
  obtain ⟨e1, e2⟩ := y
  subst e1
  refine ⟨G2, Same.refl _, Same.refl _, s2, fun _ h => .inl h, ?_⟩
  rw [List.getElem?_map] at hd
  cases z : (List.range n)[i]? with
  | none => rw [z] at hd; cases hd
  | some m =>
    have hm : m = i := by
      obtain ⟨h1, h2⟩ := List.getElem?_eq_some_iff.mp z
      simpa using h2.symm
    rw [z] at hd
    simp at hd
    subst hd
    subst hm
    subst e2
    unfold Rep
    rfl
theorem one_int {K : PySem.W.Frag} {G : Hp} {i : Int} {vs : List V} (rs : Reps K G [.int i] vs) : vs = [.int i] := by
  unfold Reps Rep at rs
  obtain ⟨v, r, rfl, rfl, rn⟩ := rs
  unfold Reps at rn
  subst rn
  rfl
theorem ei_range1 (hg : Gl X "range") (hm : X.mg "range" = none) (h : Ea X [a] δ fun xs δ1 => ∃ j : Int, xs = [.d (.int j)] ∧ -(2 ^ 62) ≤ j ∧ j < 2 ^ 62 ∧ R ((List.range j.toNat).map fun (i : Nat) => D.int (0 + i)) δ1) (hs : starEach [a] X.env = [(false, eval a X.env)] := by rfl) :
    Ei X tg (.Call (.Name "range" p) [a] [] pos) δ R := fun G H σ s => wI_of (pi_range1 hg hm wA_pa hs) ((h G H σ s).imp fun vs H1 ⟨xs, G1, δ1, s1, rs, j, e1, h1, h2, q⟩ => by
  subst e1
  have r := one_int (repAs_d (ds := [.int j]) rs)
  exact ⟨j, r, h1, h2, G1, _, δ1, s1, q, itok_range⟩)
theorem ei_range2 (hg : Gl X "range") (hm : X.mg "range" = none) (h : Ea X [a, b] δ fun xs δ1 => ∃ i j : Int, xs = [.d (.int i), .d (.int j)] ∧ (-(2 ^ 62) ≤ i ∧ i < 2 ^ 62 ∧ -(2 ^ 62) ≤ j ∧ j < 2 ^ 62) ∧ R ((List.range (j - i).toNat).map fun (k : Nat) => D.int (i + k)) δ1)
    (hs : starEach [a, b] X.env = [(false, eval a X.env), (false, eval b X.env)] := by rfl) (hs2 : starEach [b] X.env = [(false, eval b X.env)] := by rfl) :
    Ei X tg (.Call (.Name "range" p) [a, b] [] pos) δ R := fun G H σ s => wI_of (pi_range2 hg hm wA_pa hs hs2) ((h G H σ s).imp fun vs H1 ⟨xs, G1, δ1, s1, rs, i, j, e1, h1, q⟩ => by
  subst e1
  have r := two_int (repAs_d (ds := [.int i, .int j]) rs)
  exact ⟨i, j, r, h1, G1, _, δ1, s1, q, itok_range⟩)
/-- a new pair at each turn -/
theorem pair_new {K : PySem.W.Frag} {G2 H2 H3 : Hp} {v : V} {f g : Nat → Option V} {i : Nat} {d1 d2 : D} (s2 : Same G2 H2) (y : YPair f g i H2 v H3) (r1 : ∀ x, f i = some x → Rep K G2 d1 x) (r2 : ∀ x, g i = some x → Rep K G2 d2 x) :
    ∃ G3, Same G2 G3 ∧ Same H2 H3 ∧ Same G3 H3 ∧ (∀ a, G3 a ≠ none → G2 a ≠ none ∨ H2 a = none) ∧ Rep K G3 (.tup [d1, d2]) v := by
  obtain ⟨T, x, z, rfl, n, rfl, e1, e2⟩ := y
  refine ⟨_, new_g s2 n, new_h n, new_gh s2, new_n n, ?_⟩
  unfold Rep
  exact ⟨T, [x, z], rfl, upd_same, Reps.mono (new_g s2 n) _ _ (Reps.cons (r1 x e1) (Reps.cons (r2 z e2) Reps.nil))⟩
def enD (k : Nat) (ds : List D) : List D := ds.mapIdx fun i d => .tup [.int ((i + k : Nat) : Int), d]
theorem ei_enum {elts : List Expr} {kk : Nat} {tpos : Pos} (hg : Gl X "enumerate") (hm : X.mg "enumerate" = none) (h : Ea X [e] δ fun xs δ1 => ∃ ds, xs = [.d (.lst ds)] ∧ R (enD 0 ds) δ1) (hs : starEach [e] X.env = [(false, eval e X.env)] := by rfl) :
    Ei X (.Tuple elts kk tpos) (.Call (.Name "enumerate" p) [e] [] pos) δ R := fun G H σ s => wI_of (pi_enum hg hm wA_pa hs) ((h G H σ s).imp fun vs H1 ⟨xs, G1, δ1, s1, rs, ds, e1, q⟩ => by
  subst e1
  obtain ⟨l, ws, rfl, g, rr⟩ := one_lst (repAs_d (ds := [.lst ds]) rs)
  refine ⟨l, ws, rfl, .of (s1.st.ex _ _ g), G1, _, δ1, s1, q, fun H => SqL X.K H l ws, _, by unfold enD; rw [List.length_mapIdx, ← rr.length]; exact walk_enum, fun H2 s => .of (s _ _ g), fun i H2 v H3 G2 d t1 t2 y hd => ?_⟩
  unfold enD at hd
  rw [List.getElem?_mapIdx] at hd
  cases z : ds[i]? with
  | none => rw [z] at hd; cases hd
  | some d' =>
    rw [z] at hd
    simp at hd
    subst hd
    obtain ⟨v', e3, rv⟩ := rr.get z
    refine pair_new t2 y (fun x ex => ?_) fun x ex => ?_
    · cases ex
      unfold Rep
      rfl
    · rw [e3] at ex
      cases ex
      exact Rep.mono t1 _ _ rv)
theorem two_lst {K : PySem.W.Frag} {G : Hp} {ds es : List D} {vs : List V} (rs : Reps K G [.lst ds, .lst es] vs) : ∃ a b ws us, vs = [.ref a, .ref b] ∧ G a = some (.lst ws) ∧ G b = some (.lst us) ∧ Reps K G ds ws ∧ Reps K G es us := by
  unfold Reps Rep at rs
  obtain ⟨v, r, rfl, ⟨a, ws, rfl, g, r1⟩, rn⟩ := rs
  obtain ⟨b, us, e, g2, r2⟩ := one_lst rn
  subst e
  exact ⟨a, b, ws, us, rfl, g, g2, r1, r2⟩
theorem ei_zip {e2 : Expr} {elts : List Expr} {kk : Nat} {tpos : Pos} (hg : Gl X "zip") (hm : X.mg "zip" = none) (h : Ea X [e, e2] δ fun xs δ1 => ∃ ds es, xs = [.d (.lst ds), .d (.lst es)] ∧ R (List.zipWith (fun d c => .tup [d, c]) ds es) δ1)
    (hs : starEach (e :: [e2]) X.env = (false, eval e X.env) :: starEach [e2] X.env := by rfl) (hs2 : (backTo pos (starEach [e2] X.env)).any (·.1) = false := by rfl) : Ei X (.Tuple elts kk tpos) (.Call (.Name "zip" p) [e, e2] [] pos) δ R := fun G H σ s => wI_of (pi_zip hg hm wA_pa hs hs2) ((h G H σ s).imp fun vs H1 ⟨xs, G1, δ1, s1, rs, ds, es, e1, q⟩ => by
  subst e1
  obtain ⟨l, m, ws, us, rfl, g, g2, rr, r2⟩ := two_lst (repAs_d (ds := [.lst ds, .lst es]) rs)
  refine ⟨l, m, ws, us, rfl, .of (s1.st.ex _ _ g), .of (s1.st.ex _ _ g2), G1, _, δ1, s1, q, fun H => SqL X.K H l ws ∧ SqL X.K H m us, _, walk_zip (by rw [List.length_zipWith, rr.length, r2.length]), fun H2 s => ⟨.of (s _ _ g), .of (s _ _ g2)⟩, fun i H2 v H3 G2 d t1 t2 y hd => ?_⟩
  rw [List.getElem?_zipWith] at hd
  cases z : ds[i]? with
  | none => rw [z] at hd; simp at hd
  | some d1 =>
    cases z2 : es[i]? with
    | none => rw [z, z2] at hd; simp at hd
    | some d2 =>
      rw [z, z2] at hd
      simp at hd
      subst hd
      obtain ⟨v1, e3, rv⟩ := rr.get z
      obtain ⟨v2, e4, rw2⟩ := r2.get z2
      refine pair_new t2 y (fun x ex => ?_) fun x ex => ?_
      · rw [e3] at ex
        cases ex
        exact Rep.mono t1 _ _ rv
      · rw [e4] at ex
        cases ex
        exact Rep.mono t1 _ _ rw2)
/-! ### for -/
theorem Step.item {K : PySem.W.Frag} {G H G' H' H3 G3 : Hp} {σ : L2.St} {δ1 : En} {v : V} {d : D} (s : Step K G H δ G' H' σ δ1) (g : Same G' G3) (h : Same H' H3) (e : Same G3 H3) (n : ∀ a, G3 a ≠ none → G' a ≠ none ∨ H' a = none) (r : Rep K G3 d v) : Step K G H δ G3 H3 (some v :: σ) (some (.fz d) :: δ1) :=
  (s.grow g h e n).pushF r
theorem es_for {ds : List D} (hp : PassesOwn (model X.prog X.w) X.A X.env X.xe) (hc : X.calm = true) (I : Nat → En → Prop) (hi : Ei X tg iter δ fun r δ1 => r = ds ∧ I 0 δ1)
    (step : ∀ i d δ1, ds[i]? = some d → I i δ1 → Eg X tg (.fz d) δ1 fun δ2 => Eb X bd δ2 { P with nx := I (i + 1), ct := I (i + 1), bk := P.nx }) (hd : ∀ δ', I ds.length δ' → P.nx δ') (hs : ∀ x, foldedSetIterable iter X.env x = pure x := by intro _; rfl) : Es X (.For tg iter bd [] pos) δ P := fun G H σ s => by
  refine wS_of (ps_for hp hc wI_pi wG_pg wB_ps hs) ((hi G H σ s).imp fun J H1 ⟨G1, ds', δ0, s1, ⟨e1, h0⟩, Gd, Y, W, hG, hY⟩ => ?_)
  subst e1
  refine for_it W (fun i σ' H' => ∃ Gi δi, Step X.K G1 H1 δ0 Gi H' σ' δi ∧ I i δi) ⟨G1, δ0, s1.st.step, h0⟩ (fun i σ' H' _ ⟨Gi, δi, si, _⟩ => hG H' (si.gr.g.trans si.st.ex)) (fun i v σ' H' H3 hlt ⟨Gi, δi, si, hI⟩ y => ?_) fun σ' H' ⟨Gi, δi, si, hI⟩ => ⟨Gi, δi, s1.trans si, hd _ hI⟩
  obtain ⟨G3, g1, g2, g3, g4, rv⟩ := hY i H' v H3 Gi ds'[i] si.gr.g si.st.ex y (by simp [hlt])
  have t := si.item g1 g2 g3 g4 rv
  refine (step i ds'[i] δi (by simp [hlt]) hI G3 H3 σ' v t.st).imp fun σ2 H2 ⟨G2, δ2, s2, hb⟩ => ?_
  have t2 := t.trans s2
  refine (hb G2 H2 σ2 s2.st).imp ⟨fun σ4 H4 ⟨G4, δ4, s4, q⟩ => ⟨G4, δ4, t2.trans s4, q⟩, fun v4 H4 ⟨x4, G4, σ4, δ4, s4, q⟩ => ⟨x4, G4, σ4, δ4, (s1.trans t2).trans s4, q⟩, fun σ4 H4 ⟨G4, δ4, s4, q⟩ => ⟨G4, δ4, (s1.trans t2).trans s4, q⟩, fun σ4 H4 ⟨G4, δ4, s4, q⟩ => ⟨G4, δ4, t2.trans s4, q⟩⟩
end
end Vl

namespace Vl
open PySem PySem.Spec PyProof.Rows L2
/-! ### comprehensions -/
def wipeE (δ : En) : List Nat → En
  | [] => δ
  | v :: vs => (wipeE δ vs).set v none
/-- Y is a context of a block of X -/
def Blk (X : Cx) (scope : Scope) (Y : Cx) : Prop := ∃ s H C cl fp, Y = X.blk s H scope (compEnvC scope cl C X.env) fp
def wTs (X : Cx) (ifs : List Expr) : TT := fun σ H Q => ∀ pins s, Inv X pins σ H s →
  wpAny (model X.prog X.w) X.A (forIn ifs true fun c r => if r = true then do let ok ← isTrue c X.env (eval c X.env); pure (ForInStep.yield ok) else pure (ForInStep.yield r)) (TP X pins σ Q) X.xe s
theorem wTs_pt {X : Cx} {ifs : List Expr} : PTs X ifs (wTs X ifs) := ⟨fun pins s _ _ _ I h => h pins s I⟩
theorem wTs_of {X : Cx} {ifs : List Expr} {t : TT} {σ : L2.St} {H : Hp} {Q : Bool → Hp → Prop} (h : PTs X ifs t) (q : t σ H Q) : wTs X ifs σ H Q := fun pins s I => h.run pins s σ H Q I q
theorem wTs.imp {X : Cx} {ifs : List Expr} {σ : L2.St} {H : Hp} {Q Q' : Bool → Hp → Prop} (h : wTs X ifs σ H Q) (q : ∀ b H', Q b H' → Q' b H') : wTs X ifs σ H Q' := fun pins s I =>
  thn (h pins s I) fun _ _ ⟨H', I', z⟩ => ⟨H', I', q _ H' z⟩
def Ets (X : Cx) (ifs : List Expr) (δ : En) (R : Bool → En → Prop) : Prop := ∀ G H σ, Stt X.K G H σ δ → wTs X ifs σ H (PostB X.K G H σ δ R)
def Egb (X : Cx) (tg : Expr) (vs : List Nat) (d : D) (δ : En) (T : En → Prop) : Prop :=
  ∀ G H σ v, Stt X.K G H σ δ → Rep X.K G d v → wG X tg v σ H fun σ' H' => wipe σ' vs = wipe σ vs ∧ ∃ G' δ', Step X.K G H δ G' H' σ' δ' ∧ T δ'
def Egbs (X : Cx) (ts : List Expr) (vs : List Nat) (ds : List D) (δ : En) (T : En → Prop) : Prop :=
  ∀ G H σ us, Stt X.K G H σ δ → Reps X.K G ds us → wGs X ts us σ H fun σ' H' => wipe σ' vs = wipe σ vs ∧ ∃ G' δ', Step X.K G H δ G' H' σ' δ' ∧ T δ'
theorem wipe_get {σ : L2.St} : ∀ {vs : List Nat} {j : Nat}, (wipe σ vs)[j]? = if j ∈ vs ∧ j < σ.length then some none else σ[j]?
  | [], j => by simp [wipe]
  | v :: vs, j => by
    unfold wipe
    by_cases hv : v = j
    · subst hv
      by_cases hl : v < σ.length
      · rw [List.getElem?_set_self (by rw [wipe_length]; exact hl), if_pos ⟨List.mem_cons_self, hl⟩]
      · rw [if_neg (fun h => hl h.2), List.getElem?_eq_none (by rw [List.length_set, wipe_length]; omega), List.getElem?_eq_none (by omega)]
    · rw [List.getElem?_set_ne hv, wipe_get]
      by_cases h : j ∈ vs ∧ j < σ.length
      · rw [if_pos h, if_pos ⟨List.mem_cons_of_mem _ h.1, h.2⟩]
      · rw [if_neg h, if_neg (fun q => h ⟨(List.mem_cons.mp q.1).resolve_left (fun e => hv e.symm), q.2⟩)]
theorem wipeE_get {δ : En} : ∀ {vs : List Nat} {j : Nat}, (wipeE δ vs)[j]? = if j ∈ vs ∧ j < δ.length then some none else δ[j]?
  | [], j => by simp [wipeE]
  | v :: vs, j => by
    have hl' : (wipeE δ vs).length = δ.length := by
      clear wipeE_get
      induction vs with
      | nil => rfl
      | cons w ws ih => unfold wipeE; rw [List.length_set, ih]
    unfold wipeE
    by_cases hv : v = j
    · subst hv
      by_cases hl : v < δ.length
      · rw [List.getElem?_set_self (by rw [hl']; exact hl), if_pos ⟨List.mem_cons_self, hl⟩]
      · rw [if_neg (fun h => hl h.2), List.getElem?_eq_none (by rw [List.length_set, hl']; omega), List.getElem?_eq_none (by omega)]
    · rw [List.getElem?_set_ne hv, wipeE_get]
      by_cases h : j ∈ vs ∧ j < δ.length
      · rw [if_pos h, if_pos ⟨List.mem_cons_of_mem _ h.1, h.2⟩]
      · rw [if_neg h, if_neg (fun q => h ⟨(List.mem_cons.mp q.1).resolve_left (fun e => hv e.symm), q.2⟩)]
theorem wipeE_length {δ : En} : ∀ {vs : List Nat}, (wipeE δ vs).length = δ.length
  | [] => rfl
  | v :: vs => by unfold wipeE; rw [List.length_set, wipeE_length]
theorem wipe_set {σ : L2.St} {vs : List Nat} {i : Nat} {v : Option V} (h : i ∈ vs) : wipe (σ.set i v) vs = wipe σ vs := by
  apply List.ext_getElem?
  intro j
  rw [wipe_get, wipe_get, List.length_set]
  by_cases e : j ∈ vs ∧ j < σ.length
  · rw [if_pos e, if_pos e]
  · rw [if_neg e, if_neg e]
    by_cases z : i = j
    · subst z
      have : ¬ i < σ.length := fun q => e ⟨h, q⟩
      rw [List.getElem?_eq_none (by rw [List.length_set]; omega), List.getElem?_eq_none (by omega)]
    · rw [List.getElem?_set_ne z]
theorem wipe_wipe {σ : L2.St} {vs : List Nat} : wipe (wipe σ vs) vs = wipe σ vs := by
  apply List.ext_getElem?
  intro j
  simp only [wipe_get, wipe_length]
  by_cases z : j ∈ vs ∧ j < σ.length
  · simp only [if_pos z]
  · simp only [if_neg z]
section
variable {K : PySem.W.Frag} {G H G' H' : Hp} {σ σ' : L2.St} {δ δ' : En} {vs : List Nat}
theorem feet_wipe_sub : ∀ {vs : List Nat}, List.Sublist (feet (wipeE δ vs)) (feet δ)
  | [] => by unfold wipeE; exact List.Sublist.refl _
  | v :: vs => by
    unfold wipeE
    exact feet_none_sub.trans feet_wipe_sub
theorem Stt.wiped (s : Stt K G H σ δ) : Stt K G H (wipe σ vs) (wipeE δ vs) where
  ex := s.ex
  len := by rw [wipeE_length, wipe_length, s.len]
  rep := fun i x hx => by
    rw [wipeE_get] at hx
    by_cases h : i ∈ vs ∧ i < δ.length
    · rw [if_pos h] at hx; cases hx
    · rw [if_neg h] at hx
      obtain ⟨v, e, r⟩ := s.rep i x hx
      refine ⟨v, ?_, r⟩
      rw [wipe_get, if_neg (by rw [← s.len]; exact h)]
      exact e
  nd := s.nd.sublist feet_wipe_sub
  off := fun a ha => s.off a (feet_wipe_sub.subset ha)
theorem rep_fz (g : Same G G') {x : OD} {v : V} (h : foot x = []) (r : RepO K G H x v) : RepO K G' H' x v := RepO.mono g x v (fun a ha => by rw [h] at ha; cases ha) r
/-- a value waits while a step is done -/
theorem Step.frame {G0 H0 : Hp} {δ0 : En} {v : V} {x : OD} {σ1 : L2.St} {δ1 : En} (si : Step K G0 H0 δ0 G H (some v :: σ) (some x :: δ)) (u : Step K G H δ G' H' σ1 δ1) : Step K G0 H0 δ0 G' H' (some v :: σ1) (some x :: δ1) := by
  refine ⟨si.st.frame u, si.gr.trans u.gr si.pop.ft, fun a ha => ?_⟩
  unfold feet at ha
  rcases List.mem_append.mp ha with h | h
  · exact si.ft a (by unfold feet; exact List.mem_append_left _ h)
  · rcases u.ft a h with h | h
    · exact si.pop.ft a h
    · refine .inr ?_
      cases e : H0 a with
      | none => rfl
      | some o => exact absurd h (si.gr.there a (by rw [e]; simp))
theorem slot_of : ∀ {δ : En} {a : Addr}, a ∈ feet δ → ∃ (j : Nat) (y : OD), δ[j]? = some (some y) ∧ a ∈ foot y
  | [], a, h => by simp [feet] at h
  | none :: r, a, h => by
    simp only [feet] at h
    obtain ⟨j, y, q1, q2⟩ := slot_of h
    exact ⟨j + 1, y, by simpa using q1, q2⟩
  | some z :: r, a, h => by
    simp only [feet, List.mem_append] at h
    rcases h with h | h
    · exact ⟨0, z, rfl, h⟩
    · obtain ⟨j, y, q1, q2⟩ := slot_of h
      exact ⟨j + 1, y, by simpa using q1, q2⟩
theorem one_slot : ∀ {δ : En} {i j : Nat} {x y : OD} {a : Addr}, (feet δ).Nodup → δ[i]? = some (some x) → δ[j]? = some (some y) → a ∈ foot x → a ∈ foot y → i = j
  | [], _, _, _, _, _, _, h, _, _, _ => by simp at h
  | z :: r, i, j, x, y, a, nd, h1, h2, hx, hy => by
    have ndr : (feet r).Nodup := by
      cases z with
      | none => simpa only [feet] using nd
      | some z => unfold feet at nd; exact (List.nodup_append.mp nd).2.1
    cases i with
    | zero =>
      cases j with
      | zero => rfl
      | succ j =>
        simp at h1 h2
        subst h1
        unfold feet at nd
        exact ((List.nodup_append.mp nd).2.2 a hx a (foot_in_feet h2 a hy) rfl).elim
    | succ i =>
      cases j with
      | zero =>
        simp at h1 h2
        subst h2
        unfold feet at nd
        exact ((List.nodup_append.mp nd).2.2 a hy a (foot_in_feet h1 a hx) rfl).elim
      | succ j => exact congrArg (· + 1) (one_slot ndr (by simpa using h1) (by simpa using h2) hx hy)
/-- a wiped slot held no object -/
theorem wiped_fz {i : Nat} {x : OD} (hw : feet (wipeE δ vs) = feet δ) (hi : i ∈ vs) (hx : δ[i]? = some (some x)) (nd : (feet δ).Nodup) : foot x = [] := by
  cases hf : foot x with
  | nil => rfl
  | cons a r =>
    have ha : a ∈ foot x := by rw [hf]; exact List.mem_cons_self
    have hin := foot_in_feet hx a ha
    rw [← hw] at hin
    obtain ⟨j, y, q1, q2⟩ := slot_of hin
    rw [wipeE_get] at q1
    by_cases hj : j ∈ vs ∧ j < δ.length
    · rw [if_pos hj] at q1; cases q1
    · rw [if_neg hj] at q1
      have e := one_slot nd hx q1 ha q2
      exact absurd ⟨e ▸ hi, (List.getElem?_eq_some_iff.mp q1).1⟩ hj
/-- the block's end, seen from outside -/
theorem Stt.unwipe {δ3 : En} (s : Stt K G H σ δ) (t : Step K G H (wipeE δ vs) G' H' σ' δ') (e1 : wipe σ' vs = wipe σ vs) (e2 : wipeE δ' vs = wipeE δ3 vs) (h3 : ∀ j ∈ vs, δ3[j]? = δ[j]?) (hl : δ3.length = δ.length) (hw : feet (wipeE δ vs) = feet δ) (hw3 : feet (wipeE δ3 vs) = feet δ3) : Step K G H δ G' H' σ δ3 := by
  have gr : Grow (feet δ) G H G' H' := by rw [← hw]; exact t.gr
  have tw : Stt K G' H' (wipe σ vs) (wipeE δ3 vs) := by rw [← e1, ← e2]; exact t.st.wiped
  refine ⟨⟨t.st.ex, hl.trans s.len, fun i x hx => ?_, ?_, fun a ha => ?_⟩, gr, fun a ha => ?_⟩
  · by_cases hi : i ∈ vs
    · rw [h3 i hi] at hx
      obtain ⟨v, e, r⟩ := s.rep i x hx
      exact ⟨v, e, rep_fz t.gr.g (wiped_fz hw hi hx s.nd) r⟩
    · obtain ⟨v, e, r⟩ := tw.rep i x (by rw [wipeE_get, if_neg (fun h => hi h.1)]; exact hx)
      rw [wipe_get, if_neg (fun h => hi h.1)] at e
      exact ⟨v, e, r⟩
  · rw [← hw3]
    exact tw.nd
  · exact tw.off a (by rw [hw3]; exact ha)
  · rw [← hw3, ← e2] at ha
    have := t.ft a (feet_wipe_sub.subset ha)
    rw [hw] at this
    exact this
end
section
variable {X : Cx} {e a b c tg iter elt : Expr} {es ts ifs : List Expr} {st : Stmt} {sts bd : List Stmt} {δ : En} {Q Q' : OD → En → Prop} {P P' : DE} {pos p p2 p3 : Pos} {x y : Str} {scope : Scope} {vs : List Nat}
theorem ets_nil {R : Bool → En → Prop} (q : R true δ) : Ets X [] δ R := fun G H σ s => wTs_of pts_nil ⟨G, δ, s.step, q⟩
theorem ets_one {R : Bool → En → Prop} (h : Et X c δ R) : Ets X [c] δ R := fun G H σ s => wTs_of (pts_one wT_pt) (h G H σ s)
theorem egb_name (i : Nat) {d : D} {T : En → Prop} (hN : X.N.Nodup) (hi : X.N[i]? = some x) (hx : Loc X.env.scope x) (hl : i < δ.length) (hv : i ∈ vs) (q : T (δ.set i (some (.fz d)))) (hf : X.fn x = true ∨ X.env.scope.names.lookup x = some .local := by first | exact .inl rfl | exact .inr rfl | assumption) :
    Egb X (.Name x pos) vs d δ T := fun G H σ v s r => wG_of (pg_name hN hi hx hf) ⟨wipe_set hv, G, _, (s.stepF r).set hl, q⟩
theorem egbs_nil {T : En → Prop} (q : T δ) : Egbs X [] vs [] δ T := fun G H σ us s r => wGs_of pgs_nil ⟨by unfold Reps at r; exact r, rfl, G, δ, s.step, q⟩
theorem egbs_cons {d : D} {ds : List D} {T : En → Prop} (h : Egb X tg vs d δ fun δ' => Egbs X ts vs ds δ' T) (hs : (assignEach (tg :: ts) X.env).map (·.2) = assign tg X.env :: (assignEach ts X.env).map (·.2) := by rfl) : Egbs X (tg :: ts) vs (d :: ds) δ T := fun G H σ us s r => by
  unfold Reps at r
  obtain ⟨v, w, e1, r1, r2⟩ := r
  refine wGs_of (pgs_cons wG_pg wGs_pg hs) ⟨v, w, e1, (h G H σ v s r1).imp fun σ1 H1 ⟨q1, G1, δ1, s1, h1⟩ => ?_⟩
  exact (h1 G1 H1 σ1 w s1.st (Reps.mono s1.gr.g _ _ r2)).imp fun σ2 H2 ⟨q2, G2, δ2, s2, q⟩ => ⟨q2.trans q1, G2, δ2, s1.trans s2, q⟩
theorem egb_tup {ds : List D} {kk : Nat} {T : En → Prop} (hc : X.calm = true) (h : Egbs X ts vs ds δ T) (hl : ds.length = ts.length) (hn : (assignEach ts X.env).length = ts.length := by rfl) (hst : (assignEach ts X.env).findIdx? (·.1) = none := by rfl) : Egb X (.Tuple ts kk pos) vs (.tup ds) δ T := fun G H σ v s r => by
  unfold Rep at r
  obtain ⟨a, us, e1, g, rs⟩ := r
  exact wG_of (pg_tup (n := ts.length) hc wGs_pg hn hst) ⟨a, us, e1, .of (s.ex _ _ g), rs.length.trans hl, h G H σ us s rs⟩
def gBk (X : Cx) (scope : Scope) (tg : Expr) : TG := fun v σ H Q => ∀ Y, Blk X scope Y → wG Y tg v σ H Q
def tBk (X : Cx) (scope : Scope) (ifs : List Expr) : TT := fun σ H Q => ∀ Y, Blk X scope Y → wTs Y ifs σ H Q
def eBk (X : Cx) (scope : Scope) (elt : Expr) : TE := fun σ H Q => ∀ Y, Blk X scope Y → wE Y elt σ H Q
/-- the reading of a comprehension: I i acc δ' by the turn, what is made so far, the slots (the block's own wiped) -/
theorem lc_read {ds : List D} {own : List (Str × Nat)} (I : Nat → List D → En → Prop) (hi : Ei X tg iter δ fun r δ1 => r = ds ∧ I 0 [] δ1) (hz : ds.length ≤ 100000)
    (step : ∀ i d acc δ1, ds[i]? = some d → I i acc δ1 → feet (wipeE δ1 (own.map (·.2))) = feet δ1 ∧ ∃ t : En, wipeE t (own.map (·.2)) = wipeE δ1 (own.map (·.2)) ∧
      (∀ Y, Blk X scope Y → Egb Y tg (own.map (·.2)) d (wipeE δ1 (own.map (·.2))) fun δ2 => δ2 = t) ∧
      ∃ k : Bool, (∀ Y, Blk X scope Y → Ets Y ifs t fun r δ' => r = k ∧ δ' = t) ∧
        (k = false → I (i + 1) acc δ1) ∧
        (k = true → ∃ δ3, feet (wipeE δ3 (own.map (·.2))) = feet δ3 ∧ δ3.length = δ1.length ∧ (∀ j ∈ own.map (·.2), δ3[j]? = δ1[j]?) ∧ ∀ Y, Blk X scope Y → Ev Y elt t fun z δ' => wipeE δ' (own.map (·.2)) = wipeE δ3 (own.map (·.2)) ∧ ∃ d', z = .fz d' ∧ I (i + 1) (acc ++ [d']) δ3)) {G H : Hp} {σ : L2.St} (s : Stt X.K G H σ δ) :
    tLc (wI X tg iter) (gBk X scope tg) (tBk X scope ifs) (eBk X scope elt) (own.map (·.2)) σ H
      (fun v H' => ∃ l G' acc δ', v = .ref l ∧ Step X.K G H δ G' H' (some (.ref l) :: σ) (some (ol l acc) :: δ') ∧ I ds.length acc δ') := by
  refine (hi G H σ s).imp fun J H1 ⟨G1, ds', δ0, s1, ⟨e1, h0⟩, Gd, Y, W, hG, hY⟩ => ?_
  subst e1
  intro l nl
  refine lc_it (g := gBk X scope tg) (tt := tBk X scope ifs) (te := eBk X scope elt) (vs := own.map (·.2)) (σ := σ) (Qd := fun H' => ∃ l_1 G' acc δ', V.ref l = .ref l_1 ∧ Step X.K G H δ G' H' (some (.ref l_1) :: σ) (some (ol l_1 acc) :: δ') ∧ I ds'.length acc δ') W (fun i H' => ∃ Gi acc δi, Step X.K G1 H1 δ0 Gi H' (some (.ref l) :: σ) (some (ol l acc) :: δi) ∧ acc.length ≤ i ∧ I i acc δi) ⟨G1, [], δ0, s1.st.step.newOwn (ds := []) Reps.nil nl, Nat.le_refl _, h0⟩
    (fun i H' _ ⟨Gi, acc, δi, si, _⟩ => hG H' (si.gr.g.trans si.st.ex)) (fun i v H' H3 hlt ⟨Gi, acc, δi, si, hla, hI⟩ y => ?_) fun H' ⟨Gi, acc, δi, si, _, hI⟩ => ⟨l, Gi, acc, δi, rfl, s1.trans si, hI⟩
  have hd : ds'[i]? = some ds'[i] := by simp [hlt]
  obtain ⟨hw, t, et, hg, k, ht, hn, he⟩ := step i ds'[i] acc δi hd hI
  obtain ⟨G3, g1, g2, g3, g4, rv⟩ := hY i H' v H3 Gi ds'[i] si.gr.g si.st.ex y hd
  have sp := si.st.pop
  have t3 : Step X.K Gi H' (wipeE δi (own.map (·.2))) G3 H3 (wipe σ (own.map (·.2))) (wipeE δi (own.map (·.2))) := sp.wiped.step.grow g1 g2 g3 g4
  intro B hB
  obtain ⟨sB, HB, CB, clB, fpB, rfl⟩ := hB
  refine (hg _ ⟨sB, HB, CB, clB, fpB, rfl⟩ G3 H3 _ v t3.st rv).imp fun σ2 H2 ⟨q1, G2, δ2, s2, e2⟩ => ?_
  subst e2
  have w1 : wipe σ2 (own.map (·.2)) = wipe σ (own.map (·.2)) := q1.trans wipe_wipe
  have t2 := t3.trans s2
  refine ⟨w1, fun B hB => ?_⟩
  obtain ⟨sB, HB, CB, clB, fpB, rfl⟩ := hB
  refine (ht _ ⟨sB, HB, CB, clB, fpB, rfl⟩ G2 H2 σ2 s2.st).imp fun r H4 ⟨G4, δ4, s4, er, e4⟩ => ?_
  subst er
  subst e4
  have t4 := t2.trans s4
  cases hk : r with
  | false =>
    rw [if_neg Bool.false_ne_true]
    have u := sp.unwipe t4 w1 et (fun _ _ => rfl) rfl hw hw
    exact ⟨G4, acc, δi, si.frame u, by omega, hn hk⟩
  | true =>
    rw [if_pos rfl]
    obtain ⟨δ3, hw3, hl3, h3, he⟩ := he hk
    intro B hB
    obtain ⟨sB, HB, CB, clB, fpB, rfl⟩ := hB
    refine (he _ ⟨sB, HB, CB, clB, fpB, rfl⟩ G4 H4 σ2 s4.st).imp fun v5 H5 ⟨z, G5, δ5, s5, e5, d', ez, hI'⟩ => ?_
    have rz := top_fz s5.st ez
    have u := sp.unwipe (t4.trans s5.pop) w1 e5 h3 hl3 hw hw3
    have fr := si.frame u
    obtain ⟨_, ws, hl1, rs1⟩ := own_run (i := 0) fr.st rfl
    have fin := Step.own (i := 0) (es := acc ++ [d']) fr.st rfl (Reps.app rs1 (Reps.cons rz Reps.nil))
    exact ⟨ws, hl1, by rw [rs1.length, sizeLine_eq]; omega, G5, acc ++ [d'], δ3, fr.trans fin, by rw [List.length_append, List.length_singleton]; omega, hI'⟩
variable {own : List (Str × Nat)}
theorem gBk_pg (s : Shared) (H : Hp) (C : Addr) (cl : List (Str × Addr)) (fp : List Addr) : PG (X.blk s H scope (compEnvC scope cl C X.env) fp) tg (gBk X scope tg) := ⟨fun pins s0 _ _ _ u _ I r h => h _ ⟨s, H, C, cl, fp, rfl⟩ pins s0 u I r⟩
theorem tBk_pt (s : Shared) (H : Hp) (C : Addr) (cl : List (Str × Addr)) (fp : List Addr) : PTs (X.blk s H scope (compEnvC scope cl C X.env) fp) ifs (tBk X scope ifs) := ⟨fun pins s0 _ _ _ I h => h _ ⟨s, H, C, cl, fp, rfl⟩ pins s0 I⟩
theorem eBk_pe (s : Shared) (H : Hp) (C : Addr) (cl : List (Str × Addr)) (fp : List Addr) : PE (X.blk s H scope (compEnvC scope cl C X.env) fp) elt (eBk X scope elt) := ⟨fun pins s0 _ _ _ I h => h _ ⟨s, H, C, cl, fp, rfl⟩ pins s0 I⟩
/-- what a comprehension does, in one piece -/
structure LcOk (X : Cx) (elt tg iter : Expr) (ifs : List Expr) (scope : Scope) (own : List (Str × Nat)) (δ : En) (Q : Addr → List D → En → Prop) : Prop where
  ok : BlkOk X.N X.env.scope scope own
  run : ∃ (ds : List D) (I : Nat → List D → En → Prop), (Ei X tg iter δ fun r δ1 => r = ds ∧ I 0 [] δ1) ∧ ds.length ≤ 100000 ∧
    (∀ i d acc δ1, ds[i]? = some d → I i acc δ1 → feet (wipeE δ1 (own.map (·.2))) = feet δ1 ∧ ∃ t : En, wipeE t (own.map (·.2)) = wipeE δ1 (own.map (·.2)) ∧
      (∀ Y, Blk X scope Y → Egb Y tg (own.map (·.2)) d (wipeE δ1 (own.map (·.2))) fun δ2 => δ2 = t) ∧
      ∃ k : Bool, (∀ Y, Blk X scope Y → Ets Y ifs t fun r δ' => r = k ∧ δ' = t) ∧
        (k = false → I (i + 1) acc δ1) ∧
        (k = true → ∃ δ3, feet (wipeE δ3 (own.map (·.2))) = feet δ3 ∧ δ3.length = δ1.length ∧ (∀ j ∈ own.map (·.2), δ3[j]? = δ1[j]?) ∧ ∀ Y, Blk X scope Y → Ev Y elt t fun z δ' => wipeE δ' (own.map (·.2)) = wipeE δ3 (own.map (·.2)) ∧ ∃ d', z = .fz d' ∧ I (i + 1) (acc ++ [d']) δ3)) ∧
    ∀ l acc δ1, I ds.length acc δ1 → Q l acc δ1
theorem LcOk.read {Q : Addr → List D → En → Prop} (h : LcOk X elt tg iter ifs scope own δ Q) {G H : Hp} {σ : L2.St} (s : Stt X.K G H σ δ) {R : VK} (hR : ∀ l G' H' acc δ', Step X.K G H δ G' H' (some (.ref l) :: σ) (some (ol l acc) :: δ') → Q l acc δ' → R (.ref l) H') :
    tLc (wI X tg iter) (gBk X scope tg) (tBk X scope ifs) (eBk X scope elt) (own.map (·.2)) σ H R := by
  obtain ⟨ds, I, hi, hz, step, q⟩ := h.run
  have r := lc_read (scope := scope) (own := own) (elt := elt) (ifs := ifs) I hi hz step s
  refine wI.imp r fun J H1 z l nl => ?_
  obtain ⟨W, w0, turn⟩ := z l nl
  refine ⟨W, w0, fun i m H2 w => ?_⟩
  rcases turn i m H2 w with ⟨a, l', G', acc, δ', e1, s1, hI⟩ | c
  · refine .inl ⟨a, ?_⟩
    rw [e1]
    exact hR l' G' H2 acc δ' s1 (q l' acc δ' hI)
  · exact .inr c
/-- [elt for tg in iter if ..] as an object of one's own -/
theorem ev_lcO (hc : X.calm = true) (hN : X.N.Nodup) (h : LcOk X elt tg iter ifs scope own δ fun l acc δ1 => Q (ol l acc) δ1) (hs : ∀ x, foldedSetIterable iter X.env x = pure x := by intro _; rfl) : Ev X (.ListComp elt [⟨tg, iter, ifs, 0⟩] scope pos) δ Q := fun G H σ s => by
  have p := pe_lc (X := X) (elt := elt) (tg := tg) (iter := iter) (ifs := ifs) (pos := pos) hc hN wI_pi h.ok gBk_pg tBk_pt eBk_pe hs
  exact wE_of p (h.read s fun l G' H' acc δ' s' q => ⟨_, G', δ', s', q⟩)
theorem ev_lc (hc : X.calm = true) (hN : X.N.Nodup) (h : LcOk X elt tg iter ifs scope own δ fun _ acc δ1 => Q (.fz (.lst acc)) δ1) (hs : ∀ x, foldedSetIterable iter X.env x = pure x := by intro _; rfl) : Ev X (.ListComp elt [⟨tg, iter, ifs, 0⟩] scope pos) δ Q :=
  ev_frz (ev_lcO hc hN ⟨h.ok, by
    obtain ⟨ds, I, a1, a2, a3, a4⟩ := h.run
    refine ⟨ds, I, a1, a2, a3, fun l acc δ1 hI => ?_⟩
    have := a4 l acc δ1 hI
    show Q (.fz (dat (ol l acc))) δ1
    unfold dat
    rw [dats_fz]
    exact this⟩ hs)
/-- name = [..] on one line -/
theorem es_lcO (i : Nat) {py : Pos} (hc : X.calm = true) (hN : X.N.Nodup) (hy : X.N[i]? = some y) (hyl : X.env.scope.names.lookup y = some .local) (hsw : swapsWith (.ListComp elt [⟨tg, iter, ifs, 0⟩] scope p) (some (.Name y py)) pos.line X.env = pure true)
    (h : LcOk X elt tg iter ifs scope own δ fun l acc δ1 => i < δ1.length ∧ P.nx (δ1.set i (some (ol l acc)))) (hs : ∀ x, foldedSetIterable iter X.env x = pure x := by intro _; rfl) : Es X (.Assign [.Name y py] (.ListComp elt [⟨tg, iter, ifs, 0⟩] scope p) pos) δ P := fun G H σ s => by
  have pp := ps_setLc (X := X) (elt := elt) (tg := tg) (iter := iter) (ifs := ifs) (pos := p) (spos := pos) (i := i) hc hN hy hyl hsw wI_pi h.ok gBk_pg tBk_pt eBk_pe hs
  exact wS_of pp (h.read s fun l G' H' acc δ' s' q => ⟨G', _, s'.set q.1, q.2⟩)
end
end Vl

namespace Vl
open PySem PySem.Spec PyProof.Rows L2
/-! ### a def's contract over data -/
/-- for each datum i that the caller names: the arguments, what must hold, what comes out -/
structure Con where
  ι : Type
  args : ι → List OD
  pre : ι → Prop
  out : ι → OD → List OD → Prop
abbrev ens (xs : List OD) : En := xs.map some
def spC (K : PySem.W.Frag) (C : Con) : Sp := fun vs H Q _ => ∃ G i, Stt K G H (vs.map some) (ens (C.args i)) ∧ C.pre i ∧
  ∀ v x xs' G' H', Step K G H (ens (C.args i)) G' H' (some v :: vs.map some) (some x :: ens xs') → xs'.map foot = (C.args i).map foot → C.out i x xs' → Q v H'
/-- a def under its contract, where no text is being shown -/
structure FnG (P : Program) (w : World) (K : PySem.W.Frag) (mg : Str → Option Value) (base : Heap) (k : Nat) (f : Addr) (fd : FuncData) (ps : List Str) (sp : Sp) : Prop where
  len : ∀ vs H Q E, sp vs H Q E → vs.length = ps.length
  run : ∀ (A : Around) (outer : List Env) (s : Shared) (H : Hp) (args : Args) (us : List Value) (vs : List V) (Q : VK) (E : XK), A.guards = some [] → Room k A → Env0 P w K mg base A outer s H → BindsTo s fd args (ps.zip us) → Vals vs us → sp vs H Q E →
    codeAny (model P w) A (.call (.ref f) args) (CR CX0 outer P w H s Q E) s
theorem FnG.mono {P : Program} {w : World} {K : PySem.W.Frag} {mg : Str → Option Value} {base : Heap} {j k : Nat} {f : Addr} {fd : FuncData} {ps : List Str} {sp : Sp} (F : FnG P w K mg base j f fd ps sp) (h : j ≤ k) : FnG P w K mg base k f fd ps sp :=
  ⟨F.len, fun A outer s H args us vs Q E hg hr => F.run A outer s H args us vs Q E hg (hr.mono h)⟩
theorem deeper_guards (A : Around) (env : Env) : (A.deeper env).guards = A.guards := rfl
/-- a def by its body -/
theorem fnG_of {P : Program} {w : World} {K : PySem.W.Frag} {mg : Str → Option Value} {base : Heap} {x qual : Str} {st : Stmt} {f : Addr} {fd : FuncData} {N ps : List Str} {k : Nat} {sp : Sp} (F : Fun K x qual st f fd) (S : FnScope N ps (defScope st)) (len : ∀ vs H Q E, sp vs H Q E → vs.length = ps.length)
    (body : ∀ (cdv : Value) (A : Around) (outer : List Env) (s : Shared) (H : Hp) (vs : List V) (Q : VK) (E : XK), A.guards = some [] → Room k (A.deeper (envOfC qual (defScope st) s.heap.objs.size f cdv)) → sp vs H Q E →
      wB (cxOf CX0 P w K mg base N qual (defScope st) f cdv A outer s H E).nox (defBody st) { nx := fun _ H' => Q .non H', rt := Q } (L2.start N vs) H) : FnG P w K mg base (k + 1) f fd ps sp := by
  obtain ⟨oc, od, kV, doc, pm, an, cdv, ct, osl, rfl, lk, hcd⟩ := F.ex
  refine ⟨len, fun A outer s H args us vs Q E hg hr e0 hb rv hsp => ?_⟩
  have nl := len _ _ _ _ hsp
  have KX : K.In s.heap := e0.mod.kin.keeps fun b o q => (e0.bs b o q).1
  have kinds : ∀ y ∈ ps.zip us, (defScope st).names.lookup y.1 = some .local ∨ ((defScope st).names.lookup y.1 = some .cell ∧ ((cellsFrom (s.heap.objs.size + 1) (defScope st).names []).lookup y.1).isSome = true) := by
    rintro ⟨n, v⟩ hy
    rcases S.par n (List.of_mem_zip hy).1 with q | q
    · exact Or.inl q
    · exact Or.inr ⟨q, PySem.W.cellsFrom_some _ _ _ (Or.inl q)⟩
  refine codeAny_call_function hr.depth (KX f _ lk) rfl S.co S.gen rfl (PySem.W.codeRec_of KX hcd) (hb _ _ _ _ (wpAny_newFunctionEnv_cells S.kind kinds fun env he s1 xx => ?_))
  subst he
  have limit : s.heap.NoLimit := e0.mod.nolimit.keeps fun b o q => (e0.bs b o q).1
  refine ⟨limit.keeps xx.toInCall.keep, codeAny_func ?_⟩
  have I := inv_start (CX := CX0) (E := E) S hr.hd e0 nl rv xx
  have go := body cdv A outer s H vs Q E hg (hr.deeper _) hsp [] s1 (I.wish _)
  refine wpAny_mono go (fun fl s' z => ?_) fun e s' z => z.elim
  have z' := z.unwish
  cases fl with
  | next => obtain ⟨σ', H', J, q⟩ := z'; exact ⟨.non, H', J.os, J.bare, J.base, J.hok, rfl, q⟩
  | ret u => obtain ⟨v, σ', H', J, r, q⟩ := z'; exact ⟨v, H', J.os, J.bare, J.base, J.hok, r, q⟩
  | brk => obtain ⟨_, _, _, q⟩ := z'; exact q.elim
  | cont => obtain ⟨_, _, _, q⟩ := z'; exact q.elim
/-- a call's run -/
theorem run_G {X : Cx} {k : Nat} {f : Addr} {fd : FuncData} {ps : List Str} {sp : Sp} {pins : List (Addr × Obj)} {σ : L2.St} {H : Hp} {s : Shared} {Q : VK} {us : List Value} {vs : List V} (F : FnG X.prog X.w X.K X.mg X.base k f fd ps sp) (hg : X.A.guards = some []) (hr : Room k X.A) (hb : Binds X.K fd ps [])
    (I : Inv X pins σ H s) (r : Vals vs us) (h : sp vs H Q E0) : wpAny (model X.prog X.w) X.A (call (.ref f) us) (EP X pins σ Q) X.xe s := by
  have nl : (us ++ []).length = ps.length := by rw [List.append_nil, ← r.length]; exact F.len _ _ _ _ h
  have hbb := hb s us I.kIn nl
  rw [List.append_nil] at hbb
  refine wpAny_call (codeAny_mono (F.run X.A X.stack s H ⟨us, []⟩ us vs Q E0 hg hr I.env0 hbb r h) fun res s' z => ?_)
  cases res with
  | error e => exact z.elim
  | ok fl =>
    cases fl with
    | ret u => exact I.after z
    | next => exact z.elim
    | brk => exact z.elim
    | cont => exact z.elim
section
variable {K : PySem.W.Frag} {G H G' H' G1 H1 : Hp} {σ σ' : L2.St} {δ δ' : En}
theorem feet_ens : ∀ xs : List OD, feet (ens xs) = foots xs
  | [] => by unfold ens List.map feet foots; rfl
  | x :: xs => by
    show feet (some x :: ens xs) = foots (x :: xs)
    unfold feet foots
    rw [feet_ens xs]
theorem repOs_get : ∀ {xs : List OD} {vs : List V} {i : Nat} {x : OD}, RepOs K G H xs vs → xs[i]? = some x → ∃ v, vs[i]? = some v ∧ RepO K G H x v
  | [], _, _, _, _, h => by simp at h
  | y :: ys, vs, i, x, r, h => by
    unfold RepOs at r
    obtain ⟨v, w, rfl, r1, r2⟩ := r
    cases i with
    | zero => simp at h; subst h; exact ⟨v, rfl, r1⟩
    | succ i => simpa using repOs_get (i := i) r2 (by simpa using h)
theorem repOs_len : ∀ {xs : List OD} {vs : List V}, RepOs K G H xs vs → vs.length = xs.length
  | [], vs, r => by unfold RepOs at r; subst r; rfl
  | y :: ys, vs, r => by
    unfold RepOs at r
    obtain ⟨v, w, rfl, _, r2⟩ := r
    rw [List.length_cons, List.length_cons, repOs_len r2]
theorem foots_mem : ∀ {xs : List OD} {x : OD} {a : Addr}, x ∈ xs → a ∈ foot x → a ∈ foots xs
  | [], _, _, h, _ => by cases h
  | y :: ys, x, a, h, ha => by
    unfold foots
    rcases List.mem_cons.mp h with e | h
    · subst e; exact List.mem_append_left _ ha
    · exact List.mem_append_right _ (foots_mem h ha)
theorem foots_find : ∀ {xs : List OD} {a : Addr}, a ∈ foots xs → ∃ x ∈ xs, a ∈ foot x
  | [], _, h => by unfold foots at h; cases h
  | y :: ys, a, h => by
    unfold foots at h
    rcases List.mem_append.mp h with h | h
    · exact ⟨y, List.mem_cons_self, h⟩
    · obtain ⟨x, h1, h2⟩ := foots_find h
      exact ⟨x, List.mem_cons_of_mem _ h1, h2⟩
/-- an object's value is its address -/
theorem ref_of {x : OD} {v v' : V} (h : foot x ≠ []) (r : RepO K G H x v) (r' : RepO K G' H' x v') : v = v' := by
  cases x with
  | fz d => exact absurd (by unfold foot; rfl) h
  | own a xs => unfold RepO at r r'; rw [r.1, r'.1]
  | vol a φ => unfold RepO at r r'; rw [r.1, r'.1]
/-- the arguments as objects -/
def resolve (δ : En) : List AR → Option (List OD)
  | [] => some []
  | .d d :: r => (resolve δ r).map (.fz d :: ·)
  | .s i :: r => match δ[i]? with
    | some (some x) => (resolve δ r).map (x :: ·)
    | _ => none
/-- the slots behind a call -/
def upds : En → List AR → List OD → En
  | δ, .s i :: as, x :: xs => upds (δ.set i (some x)) as xs
  | δ, .d _ :: as, _ :: xs => upds δ as xs
  | δ, _, _ => δ
theorem resolve_get : ∀ {as : List AR} {xs : List OD}, resolve δ as = some xs → as.length = xs.length ∧ ∀ (m : Nat) (x : OD), xs[m]? = some x → (∃ d, as[m]? = some (.d d) ∧ x = .fz d) ∨ ∃ n, as[m]? = some (.s n) ∧ δ[n]? = some (some x)
  | [], xs, h => by
    unfold resolve at h
    cases h
    exact ⟨rfl, fun m x h => by simp at h⟩
  | .d d :: r, xs, h => by
    unfold resolve at h
    cases e : resolve δ r with
    | none => rw [e] at h; cases h
    | some ys =>
      rw [e] at h
      cases h
      obtain ⟨h1, h2⟩ := resolve_get e
      refine ⟨by rw [List.length_cons, List.length_cons, h1], fun m x hx => ?_⟩
      cases m with
      | zero => simp at hx; subst hx; exact .inl ⟨d, rfl, rfl⟩
      | succ m => simpa using h2 m x (by simpa using hx)
  | .s i :: r, xs, h => by
    unfold resolve at h
    cases q : δ[i]? with
    | none => rw [q] at h; cases h
    | some o =>
      rw [q] at h
      cases o with
      | none => cases h
      | some y =>
        cases e : resolve δ r with
        | none => simp only [e] at h; cases h
        | some ys =>
          simp only [e] at h
          cases h
          obtain ⟨h1, h2⟩ := resolve_get e
          refine ⟨by rw [List.length_cons, List.length_cons, h1], fun m x hx => ?_⟩
          cases m with
          | zero => simp at hx; subst hx; exact .inr ⟨i, rfl, q⟩
          | succ m => simpa using h2 m x (by simpa using hx)
theorem repAs_get : ∀ {as : List AR} {vs : List V} {m : Nat} {a : AR}, RepAs K G σ as vs → as[m]? = some a → ∃ v, vs[m]? = some v ∧ RepA K G σ a v
  | [], _, _, _, _, h => by simp at h
  | b :: bs, vs, m, a, r, h => by
    unfold RepAs at r
    obtain ⟨v, w, rfl, r1, r2⟩ := r
    cases m with
    | zero => simp at h; subst h; exact ⟨v, rfl, r1⟩
    | succ m => simpa using repAs_get (m := m) r2 (by simpa using h)
theorem repAs_len : ∀ {as : List AR} {vs : List V}, RepAs K G σ as vs → vs.length = as.length
  | [], vs, r => by unfold RepAs at r; subst r; rfl
  | y :: ys, vs, r => by
    unfold RepAs at r
    obtain ⟨v, w, rfl, _, r2⟩ := r
    rw [List.length_cons, List.length_cons, repAs_len r2]
theorem upds_len : ∀ {as : List AR} {xs : List OD} {δ : En}, (upds δ as xs).length = δ.length
  | [], xs, δ => by cases xs <;> rfl
  | .d _ :: as, [], δ => rfl
  | .s _ :: as, [], δ => rfl
  | .d _ :: as, x :: xs, δ => by unfold upds; exact upds_len
  | .s i :: as, x :: xs, δ => by unfold upds; rw [upds_len, List.length_set]
theorem upds_get : ∀ {as : List AR} {xs : List OD} {δ : En} {j : Nat} {y : OD}, as.length = xs.length → (upds δ as xs)[j]? = some (some y) → (δ[j]? = some (some y) ∧ ∀ m : Nat, as[m]? ≠ some (.s j)) ∨ ∃ m : Nat, as[m]? = some (.s j) ∧ xs[m]? = some y
  | [], [], δ, j, y, _, h => .inl ⟨h, fun m => by simp⟩
  | [], _ :: _, _, _, _, hl, _ => by simp at hl
  | _ :: _, [], _, _, _, hl, _ => by simp at hl
  | .d d :: as, x :: xs, δ, j, y, hl, h => by
    unfold upds at h
    rcases upds_get (by simpa using hl) h with ⟨h1, h2⟩ | ⟨m, h1, h2⟩
    · refine .inl ⟨h1, fun m => ?_⟩
      cases m with
      | zero => simp
      | succ m => simpa using h2 m
    · exact .inr ⟨m + 1, by simpa using h1, by simpa using h2⟩
  | .s i :: as, x :: xs, δ, j, y, hl, h => by
    unfold upds at h
    rcases upds_get (by simpa using hl) h with ⟨h1, h2⟩ | ⟨m, h1, h2⟩
    · by_cases e : i = j
      · subst e
        by_cases hi : i < δ.length
        · rw [List.getElem?_set_self hi] at h1
          cases h1
          exact .inr ⟨0, rfl, rfl⟩
        · rw [List.getElem?_eq_none (by rw [List.length_set]; omega)] at h1
          cases h1
      · rw [List.getElem?_set_ne e] at h1
        refine .inl ⟨h1, fun m => ?_⟩
        cases m with
        | zero => simpa using e
        | succ m => simpa using h2 m
    · exact .inr ⟨m + 1, by simpa using h1, by simpa using h2⟩
theorem feet_set_same : ∀ {δ : En} {i : Nat} {y z : OD}, δ[i]? = some (some y) → foot z = foot y → feet (δ.set i (some z)) = feet δ
  | [], _, _, _, h, _ => by simp at h
  | w :: r, 0, y, z, h, hz => by simp at h; subst h; simp only [List.set_cons_zero, feet, hz]
  | w :: r, i + 1, y, z, h, hz => by
    have := feet_set_same (δ := r) (i := i) (by simpa using h) hz
    cases w <;> simp only [List.set_cons_succ, feet, this]
theorem upds_feet : ∀ {as : List AR} {xs : List OD} {δ : En}, (∀ (m n : Nat) (x : OD), as[m]? = some (.s n) → xs[m]? = some x → ∃ z, δ[n]? = some (some z) ∧ foot x = foot z) → feet (upds δ as xs) = feet δ
  | [], xs, δ, _ => by cases xs <;> rfl
  | .d _ :: as, [], δ, _ => rfl
  | .s _ :: as, [], δ, _ => rfl
  | .d _ :: as, x :: xs, δ, h => by
    unfold upds
    exact upds_feet fun m n y h1 h2 => h (m + 1) n y (by simpa using h1) (by simpa using h2)
  | .s i :: as, x :: xs, δ, h => by
    unfold upds
    obtain ⟨z, hz, hf⟩ := h 0 i x rfl rfl
    rw [upds_feet fun m n y h1 h2 => ?_]
    · exact feet_set_same hz hf
    · obtain ⟨w, hw, hwf⟩ := h (m + 1) n y (by simpa using h1) (by simpa using h2)
      by_cases e : i = n
      · subst e
        rw [hz] at hw
        simp at hw
        subst hw
        exact ⟨x, by rw [List.getElem?_set_self (List.getElem?_eq_some_iff.mp hz).1], hwf.trans hf.symm⟩
      · exact ⟨w, by rw [List.getElem?_set_ne e]; exact hw, hwf⟩
/-- the arguments' own state within the caller's -/
theorem args_st {as : List AR} {xs : List OD} {vs : List V} (s : Stt K G H σ δ) (r : RepAs K G σ as vs) (hx : resolve δ as = some xs) (nd : (foots xs).Nodup) : Stt K G H (vs.map some) (ens xs) where
  ex := s.ex
  len := by rw [List.length_map, List.length_map, repAs_len r, (resolve_get hx).1]
  rep := fun i x hi => by
    unfold ens at hi
    rw [List.getElem?_map] at hi
    cases q : xs[i]? with
    | none => rw [q] at hi; cases hi
    | some y =>
      rw [q] at hi
      simp at hi
      subst hi
      rcases (resolve_get hx).2 i y q with ⟨d, e1, e2⟩ | ⟨n, e1, e2⟩
      · obtain ⟨v, e, r'⟩ := repAs_get r e1
        subst e2
        exact ⟨v, by rw [List.getElem?_map, e]; rfl, by unfold RepO; exact r'⟩
      · obtain ⟨v, e, r'⟩ := repAs_get r e1
        obtain ⟨u, e3, r3⟩ := s.rep n y e2
        have r' : σ[n]? = some (some v) := r'
        rw [r'] at e3
        cases e3
        exact ⟨v, by rw [List.getElem?_map, e]; rfl, r3⟩
  nd := by rw [feet_ens]; exact nd
  off := fun a ha => by
    rw [feet_ens] at ha
    obtain ⟨x, hxm, hax⟩ := foots_find ha
    obtain ⟨m, hm⟩ := List.getElem?_of_mem hxm
    rcases (resolve_get hx).2 m x hm with ⟨d, e1, e2⟩ | ⟨n, e1, e2⟩
    · subst e2; unfold foot at hax; cases hax
    · exact s.off a (foot_in_feet e2 a hax)
theorem map_foot {xs xs' : List OD} (h : xs'.map foot = xs.map foot) : xs'.length = xs.length ∧ foots xs' = foots xs ∧ ∀ (m : Nat) (x' : OD), xs'[m]? = some x' → ∃ x, xs[m]? = some x ∧ foot x' = foot x := by
  have hl : xs'.length = xs.length := by simpa using congrArg List.length h
  refine ⟨hl, ?_, fun m x' hm => ?_⟩
  · have flat : ∀ ys : List OD, foots ys = (ys.map foot).flatten := by
      intro ys
      induction ys with
      | nil => unfold foots; rfl
      | cons y ys ih => unfold foots; rw [ih]; rfl
    rw [flat, flat, h]
  · have hlt := (List.getElem?_eq_some_iff.mp hm).1
    refine ⟨xs[m]'(by omega), by simp [← hl, hlt], ?_⟩
    have := congrArg (fun l => l[m]?) h
    simp only [List.getElem?_map, hm] at this
    rw [List.getElem?_eq_getElem (by omega : m < xs.length)] at this
    simpa using this
/-- behind a call: the caller's state -/
theorem args_back {as : List AR} {xs xs' : List OD} {vs : List V} {v : V} {x : OD} (s : Stt K G H σ δ) (r : RepAs K G σ as vs) (hx : resolve δ as = some xs) (hf : xs'.map foot = xs.map foot) (t : Step K G H (ens xs) G' H' (some v :: vs.map some) (some x :: ens xs')) :
    Step K G H δ G' H' (some v :: σ) (some x :: upds δ as xs') := by
  obtain ⟨hlen, hfoots, hfoot⟩ := map_foot hf
  obtain ⟨hal, hget⟩ := resolve_get hx
  have inA : ∀ a ∈ feet (ens xs), a ∈ feet δ := fun a ha => by
    rw [feet_ens] at ha
    obtain ⟨y, hy, hay⟩ := foots_find ha
    obtain ⟨m, hm⟩ := List.getElem?_of_mem hy
    rcases hget m y hm with ⟨d, e1, e2⟩ | ⟨n, e1, e2⟩
    · subst e2; unfold foot at hay; cases hay
    · exact foot_in_feet e2 a hay
  have gr : Grow (feet δ) G H G' H' := ⟨t.gr.g, fun a o ha e => t.gr.h a o (fun z => ha (inA a z)) e, fun a ha => (t.gr.new a ha).elim .inl fun z => .inr (z.elim .inl fun q => .inr (inA a q)), t.gr.there⟩
  have ff : feet (upds δ as xs') = feet δ := upds_feet fun m n y h1 h2 => by
    obtain ⟨z, hz, hfz⟩ := hfoot m y h2
    rcases hget m z hz with ⟨d, e1, e2⟩ | ⟨n', e1, e2⟩
    · rw [h1] at e1; cases e1
    · rw [h1] at e1; cases e1; exact ⟨z, e2, hfz⟩
  have base : Stt K G' H' σ (upds δ as xs') := by
    refine ⟨t.st.ex, by rw [upds_len]; exact s.len, fun j y hy => ?_, by rw [ff]; exact s.nd, fun a ha => ?_⟩
    · rcases upds_get (by rw [hal, hlen]) hy with ⟨h1, h2⟩ | ⟨m, h1, h2⟩
      · obtain ⟨u, e, ru⟩ := s.rep j y h1
        refine ⟨u, e, RepO.mono t.gr.g y u (fun a ha o ho => t.gr.h a o (fun hz => ?_) ho) ru⟩
        rw [feet_ens] at hz
        obtain ⟨z, hzm, haz⟩ := foots_find hz
        obtain ⟨m, hm⟩ := List.getElem?_of_mem hzm
        rcases hget m z hm with ⟨d, e1, e2⟩ | ⟨n, e1, e2⟩
        · subst e2; unfold foot at haz; cases haz
        · have := one_slot s.nd h1 e2 ha haz
          subst this
          exact h2 m e1
      · obtain ⟨w, e1, r1⟩ := repAs_get r h1
        have r1 : σ[j]? = some (some w) := r1
        obtain ⟨w', e2, r2⟩ := t.st.pop.rep m y (by unfold ens; rw [List.getElem?_map, h2]; rfl)
        rw [List.getElem?_map, e1] at e2
        simp at e2
        subst e2
        exact ⟨w, r1, r2⟩
    · rw [ff] at ha
      refine ⟨?_, gr.there a (s.off a ha).2⟩
      cases q : G' a with
      | none => rfl
      | some o =>
        rcases t.gr.new a (by rw [q]; simp) with z | z | z
        · exact (z (s.off a ha).1).elim
        · exact ((s.off a ha).2 z).elim
        · have := (t.st.pop.off a (by rw [feet_ens, hfoots, ← feet_ens]; exact z)).1
          rw [q] at this
          cases this
  have top := t.st
  have ndx := top.nd
  unfold feet at ndx
  obtain ⟨n1, n2, n3⟩ := List.nodup_append.mp ndx
  have fresh : ∀ a ∈ foot x, a ∉ feet δ := fun a ha hd => by
    rcases t.ft a (by unfold feet; exact List.mem_append_left _ ha) with z | z
    · exact n3 a ha a (by rw [feet_ens, hfoots, ← feet_ens]; exact z) rfl
    · exact (s.off a hd).2 z
  refine ⟨base.push top.top n1 fun a ha => ⟨(top.off a (by unfold feet; exact List.mem_append_left _ ha)).1, (top.off a (by unfold feet; exact List.mem_append_left _ ha)).2, by rw [ff]; exact fresh a ha⟩, gr, fun a ha => ?_⟩
  unfold feet at ha
  rcases List.mem_append.mp ha with h | h
  · rcases t.ft a (by unfold feet; exact List.mem_append_left _ h) with z | z
    · exact .inl (inA a z)
    · exact .inr z
  · rw [ff] at h; exact .inl h
end
section
variable {X : Cx} {e : Expr} {es : List Expr} {δ : En} {Q : OD → En → Prop} {pos p : Pos} {x : Str} {k : Nat} {f : Addr} {fd : FuncData} {ps : List Str} {C : Con}
/-- f(e, ..) by f's contract -/
theorem ev_call (F : FnG X.prog X.w X.K X.mg X.base k f fd ps (spC X.K C)) (hgd : X.A.guards = some []) (hr : Room k X.A) (hg : Gl X x) (hm : X.mg x = some (.ref f)) (hk : PySem.W.keepIn X.K (.ref f) = true) (hb : Binds X.K fd ps [])
    (h : Ea X (e :: es) δ fun as δ1 => ∃ i, resolve δ1 as = some (C.args i) ∧ (foots (C.args i)).Nodup ∧ C.pre i ∧ ∀ y xs', xs'.map foot = (C.args i).map foot → C.out i y xs' → Q y (upds δ1 as xs')) (hdb : (x == ("__debug__" : Str)) = false := by decide)
    (he : starEach (e :: es) X.env = (false, eval e X.env) :: starEach es X.env := by rfl) (hpl : (backTo pos (starEach es X.env)).any (·.1) = false := by rfl) : Ev X (.Call (.Name x p) (e :: es) [] pos) δ Q := fun G H σ s => by
  intro pins s0 I
  refine wpAny_Call_Name_kw (ld_glob I hg hm ?_ hdb)
  refine PySem.W.callWith_K (h₀ := X.base) I.ok.mod.kin hk (thn (h G H σ s pos pins s0 I) fun us s1 ⟨vs, H1, I1, r1, as, G1, δ1, t1, rs, i, hx, nd, hp, q⟩ => ⟨I1.kIn, ?_⟩) he hpl
  refine run_G F hgd hr hb I1 r1 ⟨G1, i, args_st t1.st rs hx nd, hp, fun v y xs' G' H' t hf ho => ?_⟩
  exact ⟨y, G', _, t1.trans (args_back t1.st rs hx hf t), q y xs' hf ho⟩
/-- what a body owes at its end -/
structure KeepA (xs xs' : List OD) (δ' : En) : Prop where
  ft : xs'.map foot = xs.map foot
  on : ∀ (j : Nat) (x : OD), xs'[j]? = some x → (foot x ≠ [] → δ'[j]? = some (some x)) ∧ (foot x = [] → xs[j]? = some x)
theorem feet_pad : ∀ (xs : List OD) (n : Nat), feet (ens xs ++ List.replicate n none) = foots xs
  | [], n => by
    show feet (List.replicate n none) = foots []
    unfold foots
    induction n with
    | zero => rfl
    | succ n ih => rw [List.replicate_succ]; unfold feet; exact ih
  | x :: xs, n => by
    show feet (some x :: (ens xs ++ List.replicate n none)) = foots (x :: xs)
    unfold feet foots
    rw [feet_pad xs n]
theorem start_st {K : PySem.W.Frag} {G H : Hp} {N : List Str} {xs : List OD} {vs : List V} (s : Stt K G H (vs.map some) (ens xs)) : Stt K G H (L2.start N vs) (ens xs ++ List.replicate (N.length - xs.length) none) := by
  have l : vs.length = xs.length := by have := s.len; unfold ens at this; rw [List.length_map, List.length_map] at this; exact this.symm
  refine ⟨s.ex, by unfold L2.start; rw [List.length_append, List.length_append, List.length_replicate, List.length_replicate, ← s.len, l], fun i x hx => ?_, by rw [feet_pad]; have := s.nd; rw [feet_ens] at this; exact this, fun a ha => s.off a (by rw [feet_pad] at ha; rw [feet_ens]; exact ha)⟩
  by_cases hi : i < xs.length
  · rw [List.getElem?_append_left (by unfold ens; rw [List.length_map]; exact hi)] at hx
    obtain ⟨v, e, r⟩ := s.rep i x hx
    exact ⟨v, by unfold L2.start; rw [List.getElem?_append_left (by rw [List.length_map]; omega)]; exact e, r⟩
  · rw [List.getElem?_append_right (by unfold ens; rw [List.length_map]; omega), List.getElem?_replicate] at hx
    split at hx <;> cases hx
/-- the arguments as they are handed back -/
theorem end_st {K : PySem.W.Frag} {G H G' H' : Hp} {xs xs' : List OD} {vs : List V} {δ0 δ' : En} {σ' : L2.St} {v : V} {y : OD} (s : Stt K G H (vs.map some) (ens xs)) (s0 : Stt K G H (L2.start N vs) δ0) (f0 : feet δ0 = foots xs) (p0 : ∀ (j : Nat) (x : OD), xs[j]? = some x → δ0[j]? = some (some x))
    (t : Step K G H δ0 G' H' (some v :: σ') (some y :: δ')) (hk : KeepA xs xs' δ') :
    Step K G H (ens xs) G' H' (some v :: vs.map some) (some y :: ens xs') := by
  obtain ⟨hlen, hfoots, hfoot⟩ := map_foot hk.ft
  have base : Stt K G' H' (vs.map some) (ens xs') := by
    refine ⟨t.st.ex, by have := s.len; unfold ens at this ⊢; rw [List.length_map, hlen, ← this, List.length_map], fun j x hx => ?_, by rw [feet_ens, hfoots, ← feet_ens]; exact s.nd, fun a ha => ?_⟩
    · have hx' : xs'[j]? = some x := by
        unfold ens at hx
        rw [List.getElem?_map] at hx
        cases q : xs'[j]? with
        | none => rw [q] at hx; cases hx
        | some z => rw [q] at hx; simp at hx; rw [hx]
      obtain ⟨k1, k2⟩ := hk.on j x hx'
      by_cases hf : foot x = []
      · obtain ⟨u, e, r⟩ := s.rep j x (by unfold ens; rw [List.getElem?_map, k2 hf]; rfl)
        exact ⟨u, e, rep_fz t.gr.g hf r⟩
      · obtain ⟨z, hz, hfz⟩ := hfoot j x hx'
        obtain ⟨u, e, r⟩ := s.rep j z (by unfold ens; rw [List.getElem?_map, hz]; rfl)
        obtain ⟨u', e', r'⟩ := t.st.pop.rep j x (k1 hf)
        refine ⟨u, e, ?_⟩
        have : u = u' := by
          -- one address
          cases x with
          | fz d => exact absurd (by unfold foot; rfl) hf
          | own a ys =>
            cases z with
            | fz d => unfold foot at hfz; cases hfz
            | own b zs => unfold foot at hfz; unfold RepO at r r'; rw [r.1, r'.1]; injection hfz with h1 _; rw [h1]
            | vol b φ => unfold foot at hfz; unfold RepO at r r'; rw [r.1, r'.1]; injection hfz with h1 _; rw [h1]
          | vol a φ =>
            cases z with
            | fz d => unfold foot at hfz; cases hfz
            | own b zs => unfold foot at hfz; unfold RepO at r r'; rw [r.1, r'.1]; injection hfz with h1 _; rw [h1]
            | vol b φ => unfold foot at hfz; unfold RepO at r r'; rw [r.1, r'.1]; cases hfz; rfl
        rw [this]
        exact r'
    · rw [feet_ens] at ha
      obtain ⟨x, hx, hax⟩ := foots_find ha
      obtain ⟨j, hj⟩ := List.getElem?_of_mem hx
      have hf : foot x ≠ [] := fun z => by rw [z] at hax; cases hax
      exact t.st.pop.off a (foot_in_feet ((hk.on j x hj).1 hf) a hax)
  have nd := t.st.nd
  unfold feet at nd
  obtain ⟨n1, n2, n3⟩ := List.nodup_append.mp nd
  refine ⟨base.push t.st.top n1 fun a ha => ⟨(t.st.off a (by unfold feet; exact List.mem_append_left _ ha)).1, (t.st.off a (by unfold feet; exact List.mem_append_left _ ha)).2, fun hz => ?_⟩, ?_, fun a ha => ?_⟩
  · rw [feet_ens] at hz
    obtain ⟨x, hx, hax⟩ := foots_find hz
    obtain ⟨j, hj⟩ := List.getElem?_of_mem hx
    have hf : foot x ≠ [] := fun z => by rw [z] at hax; cases hax
    exact n3 a ha a (foot_in_feet ((hk.on j x hj).1 hf) a hax) rfl
  · rw [feet_ens, ← f0]
    exact t.gr
  · rw [feet_ens, ← f0]
    unfold feet at ha
    rcases List.mem_append.mp ha with h | h
    · exact t.ft a (by unfold feet; exact List.mem_append_left _ h)
    · rw [feet_ens, hfoots, ← f0] at h
      exact .inl h
/-- THE RULE for a def -/
theorem fn_con {P : Program} {w : World} {K : PySem.W.Frag} {mg : Str → Option Value} {base : Heap} {x qual : Str} {st : Stmt} {f : Addr} {fd : FuncData} {N ps : List Str} {k : Nat} {C : Con} (F : Fun K x qual st f fd) (S : FnScope N ps (defScope st)) (len : ∀ i, (C.args i).length = ps.length)
    (body : ∀ (cdv : Value) (A : Around) (outer : List Env) (s : Shared) (H : Hp) (E : XK) (i : C.ι), A.guards = some [] → Room k (A.deeper (envOfC qual (defScope st) s.heap.objs.size f cdv)) → C.pre i →
      Eb (cxOf CX0 P w K mg base N qual (defScope st) f cdv A outer s H E).nox (defBody st) (ens (C.args i) ++ List.replicate (N.length - (C.args i).length) none)
        { nx := fun δ' => ∃ xs', KeepA (C.args i) xs' δ' ∧ C.out i (.fz .non) xs', rt := fun y δ' => ∃ xs', KeepA (C.args i) xs' δ' ∧ C.out i y xs' }) : FnG P w K mg base (k + 1) f fd ps (spC K C) := by
  refine fnG_of F S (fun vs H Q E ⟨G, i, s, _⟩ => ?_) fun cdv A outer s H vs Q E hg hr ⟨G, i, st0, hp, q⟩ => ?_
  · have := s.len
    unfold ens at this
    rw [List.length_map, List.length_map] at this
    rw [← this]
    exact len i
  · have p0 : ∀ (j : Nat) (x : OD), (C.args i)[j]? = some x → (ens (C.args i) ++ List.replicate (N.length - (C.args i).length) none)[j]? = some (some x) := fun j x h => by
      have hj := (List.getElem?_eq_some_iff.mp h).1
      rw [List.getElem?_append_left (by unfold ens; rw [List.length_map]; exact hj)]
      unfold ens
      rw [List.getElem?_map, h]
      rfl
    refine (body cdv A outer s H E i hg hr hp G H (L2.start N vs) (start_st st0)).imp ⟨fun σ' H' ⟨G', δ', t, xs', hk, ho⟩ => ?_, fun v H' ⟨y, G', σ', δ', t, xs', hk, ho⟩ => ?_, fun _ _ ⟨_, _, _, z⟩ => z, fun _ _ ⟨_, _, _, z⟩ => z⟩
    · exact q .non _ xs' G' H' (end_st (N := N) st0 (start_st st0) (feet_pad _ _) p0 (t.pushF (v := .non) (d := .non) (by unfold Rep; rfl)) hk) hk.ft ho
    · exact q v y xs' G' H' (end_st (N := N) st0 (start_st st0) (feet_pad _ _) p0 t hk) hk.ft ho
end
end Vl

namespace Vl
open PySem PySem.Spec PyProof.Rows L2
/-! ### plain expressions, each with its one value; nothing changes -/
abbrev Ed (X : Cx) (e : Expr) (δ : En) (x : OD) : Prop := Ev X e δ fun y δ' => y = x ∧ δ' = δ
abbrev Edt (X : Cx) (e : Expr) (δ : En) (k : Bool) : Prop := Et X e δ fun r δ' => r = k ∧ δ' = δ
abbrev Edw (X : Cx) (e : Expr) (δ : En) (k : Bool) : Prop := Ew X e δ fun r δ' => r = k ∧ δ' = δ
abbrev Eda (X : Cx) (es : List Expr) (δ : En) (as : List AR) : Prop := Ea X es δ fun r δ' => r = as ∧ δ' = δ
section
variable {X : Cx} {e a b c : Expr} {es : List Expr} {δ : En} {Q : OD → En → Prop} {P : DE} {pos p p2 : Pos} {x y z : OD} {k k2 : Bool} {xs : List AR} {nm : Str}
theorem Ev.use (h : Ed X e δ x) (q : Q x δ) : Ev X e δ Q := h.imp fun _ _ ⟨e1, e2⟩ => by subst e1; subst e2; exact q
theorem Et.use {R : Bool → En → Prop} (h : Edt X e δ k) (q : R k δ) : Et X e δ R := h.imp fun _ _ ⟨e1, e2⟩ => by subst e1; subst e2; exact q
theorem Ea.imp {R R' : List AR → En → Prop} (h : Ea X es δ R) (q : ∀ x δ', R x δ' → R' x δ') : Ea X es δ R' := fun G H σ s => (h G H σ s).imp fun _ _ ⟨x, G', d', s', r, z⟩ => ⟨x, G', d', s', r, q x d' z⟩
theorem Ea.use {R : List AR → En → Prop} (h : Eda X es δ xs) (q : R xs δ) : Ea X es δ R := h.imp fun _ _ ⟨e1, e2⟩ => by subst e1; subst e2; exact q
theorem Ev.is {x' : OD} (h : Ed X e δ x) (q : x = x') : Ed X e δ x' := h.use ⟨q, rfl⟩
theorem Et.is (h : Edt X e δ k) (q : k = k2) : Edt X e δ k2 := h.use ⟨q, rfl⟩
theorem ed_var (i : Nat) {x : Str} {d : D} (hN : X.N[i]? = some x) (hv : Vis X.env.scope x) (hδ : δ[i]? = some (some (.fz d))) (hd : (x == ("__debug__" : Str)) = false := by decide) (hcd : (x == ("__classdict__" : Str)) = false := by decide) : Ed X (.Name x pos) δ (.fz d) := ev_var i hN hv hδ ⟨rfl, rfl⟩ hd hcd
theorem ed_int {i : Int} {j} : Ed X (.Constant (.int i) j pos) δ (.fz (.int i)) := ev_int ⟨rfl, rfl⟩
theorem ed_bl {i : Bool} {j} : Ed X (.Constant (.bool i) j pos) δ (.fz (.bl i)) := ev_bl ⟨rfl, rfl⟩
theorem ed_non {j} : Ed X (.Constant .none j pos) δ (.fz .non) := ev_non ⟨rfl, rfl⟩
theorem ed_str {i : Str} {j} : Ed X (.Constant (.str i) j pos) δ (.fz (.str i)) := ev_str ⟨rfl, rfl⟩
theorem ed_bltn {v : V} {u : Value} (hg : Gl X nm) (hm : X.mg nm = none) (hv : bootBuiltins nm = some u) (r : RelV v u) (hn : nm ≠ "__name__" := by decide) (hd : (nm == ("__debug__" : Str)) = false := by decide) : Ed X (.Name nm pos) δ (.fz (.op v)) := ev_bltn hg hm hv r ⟨rfl, rfl⟩ hn hd
theorem ed_globR {i : Addr} (hg : Gl X nm) (hm : X.mg nm = some (.ref i)) (hd : (nm == ("__debug__" : Str)) = false := by decide) : Ed X (.Name nm pos) δ (.fz (.op (.ref i))) := ev_globR hg hm ⟨rfl, rfl⟩ hd
theorem ed_globI {i : Int} (hg : Gl X nm) (hm : ∃ t, X.mg nm = some (.int i t)) (hd : (nm == ("__debug__" : Str)) = false := by decide) : Ed X (.Name nm pos) δ (.fz (.int i)) := by
  obtain ⟨t, h⟩ := hm
  exact ev_globI hg h ⟨rfl, rfl⟩ hd
theorem RD.and {f : Value → Value → Sem Value} {B : Prop} (h : RD X f x y (· = z)) (hb : B) : RD X f x y (fun w => w = z ∧ B) := by
  obtain ⟨r, ho, d1, d2, e1, e2, od⟩ := h
  exact ⟨r, ho, d1, d2, e1, e2, fun G H v1 v2 kk s r1 r2 z => od G H v1 v2 kk s r1 r2 fun d v G' H' q => z d v G' H' ⟨q, hb⟩⟩
theorem RD.isB {f : Value → Value → Sem Value} {R : Bool → Prop} (h : RD X f x y (· = .fz (.bl k))) (hb : R k) : RD X f x y (Vl.isB R) := by
  obtain ⟨r, ho, d1, d2, e1, e2, od⟩ := h
  exact ⟨r, ho, d1, d2, e1, e2, fun G H v1 v2 kk s r1 r2 z => od G H v1 v2 kk s r1 r2 fun d v G' H' q => z d v G' H' ⟨k, q, hb⟩⟩
theorem ed_bin {op : Operator} (ha : Ed X a δ x) (hb : Ed X b δ y) (h : RD X (binaryOp op) x y (· = z)) : Ed X (.BinOp a op b pos) δ z := ev_bin (ha.use (hb.use (h.and rfl)))
theorem ed_cmp {op : CmpOp} (ha : Ed X a δ x) (hb : Ed X b δ y) (h : RD X (compareOp op) x y (· = z)) (hm : behindInMarks op b = false := by first | rfl | with_unfolding_all rfl) : Ed X (.Compare a [op] [b] pos) δ z := ev_cmp1 (ha.use (hb.use (h.and rfl))) hm
theorem ed_cmpT {op : CmpOp} (ha : Ed X a δ x) (hb : Ed X b δ y) (h : RD X (compareOp op) x y (· = .fz (.bl k))) (hm : behindInMarks op b = false := by first | rfl | with_unfolding_all rfl) : Edt X (.Compare a [op] [b] pos) δ k := et_cmp1 (ha.use (hb.use (h.isB ⟨rfl, rfl⟩))) hm
theorem ed_valT (h : Ed X e δ (.fz (.bl k))) (he : ∀ whole, isTrue e X.env whole = (do let v ← whole; standAt e.pos; holding [v] (truthy v)) := by intro _; rfl) : Edt X e δ k := et_val (h.use ⟨k, rfl, rfl, rfl⟩) he
theorem ed_notT (h : Edt X a δ k) : Edt X (.UnaryOp .Not a pos) δ (!k) := et_not (h.use ⟨rfl, rfl⟩)
theorem ed_and1 (h : Edt X a δ k) : Edw X (.BoolOp .And [a] pos) δ k := ew_and1 h
theorem ed_or1 (h : Edt X a δ k) : Edw X (.BoolOp .Or [a] pos) δ k := ew_or1 h
theorem ed_andW {rest : List Expr} (ha : Edt X a δ k) (hb : k = true → Edw X (.BoolOp .And (b :: rest) pos) δ k2) : Edw X (.BoolOp .And (a :: b :: rest) pos) δ (k && k2) := ew_and (ha.use ⟨fun q => by subst q; exact hb rfl, fun q => by subst q; exact ⟨rfl, rfl⟩⟩)
theorem ed_orW {rest : List Expr} (ha : Edt X a δ k) (hb : k = false → Edw X (.BoolOp .Or (b :: rest) pos) δ k2) : Edw X (.BoolOp .Or (a :: b :: rest) pos) δ (k || k2) := ew_or (ha.use ⟨fun q => by subst q; exact hb rfl, fun q => by subst q; exact ⟨rfl, rfl⟩⟩)
theorem ed_W {op : BoolOp} (h : Edw X (.BoolOp op es pos) δ k) : Edt X (.BoolOp op es pos) δ k := et_w h
theorem ed_one {op : BoolOp} (h : Ed X a δ x) : Ed X (.BoolOp op [a] pos) δ x := ev_one h
theorem ed_and {rest : List Expr} (ha : Ed X a δ (.fz (.bl k))) (hb : k = true → Ed X (.BoolOp .And (b :: rest) pos) δ (.fz (.bl k2))) : Ed X (.BoolOp .And (a :: b :: rest) pos) δ (.fz (.bl (k && k2))) :=
  ev_and (ha.use ⟨k, rfl, fun q => by subst q; exact hb rfl, fun q => by subst q; exact ⟨rfl, rfl⟩⟩)
theorem ed_or {rest : List Expr} (ha : Ed X a δ (.fz (.bl k))) (hb : k = false → Ed X (.BoolOp .Or (b :: rest) pos) δ (.fz (.bl k2))) : Ed X (.BoolOp .Or (a :: b :: rest) pos) δ (.fz (.bl (k || k2))) :=
  ev_or (ha.use ⟨k, rfl, fun q => by subst q; exact hb rfl, fun q => by subst q; exact ⟨rfl, rfl⟩⟩)
theorem ed_not (h : Ed X a δ (.fz (.bl k))) : Ed X (.UnaryOp .Not a pos) δ (.fz (.bl (!k))) := ev_not (h.use ⟨k, rfl, rfl, rfl⟩)
/-- a if c else b, both of one kind -/
theorem ed_ifD {d1 d2 : D} (hc : Edt X c δ k) (h1 : k = true → Ed X a δ (.fz d1)) (h2 : k = false → Ed X b δ (.fz d2)) : Ed X (.IfExp c a b pos) δ (.fz (if k = true then d1 else d2)) :=
  ev_if (hc.use ⟨fun q => by subst q; exact (h1 rfl).use ⟨rfl, rfl⟩, fun q => by subst q; exact (h2 rfl).use ⟨rfl, rfl⟩⟩)
theorem ed_ifI {i j : Int} (hc : Edt X c δ k) (h1 : k = true → Ed X a δ (.fz (.int i))) (h2 : k = false → Ed X b δ (.fz (.int j))) : Ed X (.IfExp c a b pos) δ (.fz (.int (if k = true then i else j))) :=
  ev_if (hc.use ⟨fun q => by subst q; exact (h1 rfl).use ⟨rfl, rfl⟩, fun q => by subst q; exact (h2 rfl).use ⟨rfl, rfl⟩⟩)
theorem ed_chain {op op' : CmpOp} (ha : Ed X a δ x) (hb : Ed X b δ y) (h1 : RD X (compareOp op) x y (· = .fz (.bl k))) (hc : k = true → Ed X c δ z) (h2 : k = true → RD X (compareOp op') y z (· = .fz (.bl k2)))
    (hm : lastMarks [op, op'] [b, c] = false := by with_unfolding_all rfl) : Edt X (.Compare a [op, op'] [b, c] pos) δ (k && k2) := by
  obtain ⟨r, ho, d1, d2, e1, e2, od⟩ := h1
  refine et_chain (ha.use (hb.use ⟨r, ho, d1, d2, e1, e2, fun G H v1 v2 kk s r1 r2 z => od G H v1 v2 kk s r1 r2 fun d v G' H' q g h e n rd => z d v G' H' ⟨k, q, fun q => ?_, fun q => by rw [q]; exact ⟨rfl, rfl⟩⟩ g h e n rd⟩)) hm
  exact (hc q).use ((h2 q).isB ⟨by rw [q]; rfl, rfl⟩)
theorem IxD.and {B : Prop} (h : IxD X x y (· = z)) (hb : B) : IxD X x y (fun w => w = z ∧ B) := by
  obtain ⟨r, ho, d1, d2, e1, e2, od⟩ := h
  exact ⟨r, ho, d1, d2, e1, e2, fun G H v1 v2 kk s r1 r2 z => od G H v1 v2 kk s r1 r2 fun d v G' H' q => z d v G' H' ⟨q, hb⟩⟩
theorem ed_ix (ha : Ed X a δ x) (hb : Ed X b δ y) (h : IxD X x y (· = z)) (hs : PlainIx b := by exact fun _ _ => rfl) : Ed X (.Subscript a b pos) δ z := ev_ix (ha.use (hb.use (h.and rfl))) hs
theorem Ep.use {o : Option Expr} {i : Option Int} {R : Option Int → Prop} (h : Ep X o δ (· = i)) (q : R i) : Ep X o δ R := by
  obtain ⟨i0, e, h⟩ := h
  exact ⟨i0, e ▸ q, h⟩
theorem ed_some {i : Int} (h : Ed X e δ (.fz (.int i))) : Ep X (some e) δ (· = some i) := ep_some h rfl
theorem SlD.and {B : Prop} {l u : Option Int} (h : SlD X x l u (· = z)) (hb : B) : SlD X x l u (fun w => w = z ∧ B) := by
  obtain ⟨r, ho, d1, e1, od⟩ := h
  exact ⟨r, ho, d1, e1, fun G H v1 kk s r1 z => od G H v1 kk s r1 fun d v G' H' q => z d v G' H' ⟨q, hb⟩⟩
theorem ed_sl {lo hi : Option Expr} {l u : Option Int} (he : Ed X e δ x) (hl : Ep X lo δ (· = l)) (hu : Ep X hi δ (· = u)) (h : SlD X x l u (· = z)) : Ed X (.Subscript e (.Slice lo hi none p2) pos) δ z := ev_sl (he.use (hl.use (hu.use (h.and rfl))))
theorem ed_anil : Eda X [] δ [] := ea_nil ⟨rfl, rfl⟩
theorem ed_acons {d : D} (h : Ed X e δ (.fz d)) (hr : Eda X es δ xs) (hs : starEach (e :: es) X.env = (false, eval e X.env) :: starEach es X.env := by rfl) : Eda X (e :: es) δ (.d d :: xs) := ea_cons (h.use ⟨d, rfl, hr.use ⟨rfl, rfl⟩⟩) hs
theorem ed_aslot (i : Nat) {x : Str} {y : OD} (hN : X.N[i]? = some x) (hv : Vis X.env.scope x) (hδ : δ[i]? = some (some y)) (h : Eda X es δ xs) (hs : starEach (.Name x pos :: es) X.env = (false, eval (.Name x pos) X.env) :: starEach es X.env := by rfl)
    (hd : (x == ("__debug__" : Str)) = false := by decide) (hcd : (x == ("__classdict__" : Str)) = false := by decide) : Eda X (.Name x pos :: es) δ (.s i :: xs) := ea_slot i hN hv hδ (h.use ⟨rfl, rfl⟩) hs hd hcd
theorem ed_lst {ds : List D} (h : Eda X es δ xs) (e1 : xs = ds.map .d) (hl : ds.length ≤ 100000) : Ed X (.List es pos) δ (.fz (.lst ds)) := ev_lst (h.use ⟨ds, e1, hl, rfl, rfl⟩)
theorem ed_tup {kk : Nat} {ds : List D} (h : Eda X es δ xs) (e1 : xs = ds.map .d) (hl : ds.length ≤ 100000) : Ed X (.Tuple es kk pos) δ (.fz (.tup ds)) := ev_tup (h.use ⟨ds, e1, hl, rfl, rfl⟩)
theorem CD.and {B : Prop} {f : Value} {ds : List D} (h : CD X f ds (· = z)) (hb : B) : CD X f ds (fun w => w = z ∧ B) := by
  obtain ⟨r, ho, od⟩ := h
  exact ⟨r, ho, fun G H vs kk s r1 z => od G H vs kk s r1 fun d v G' H' q => z d v G' H' ⟨q, hb⟩⟩
theorem ed_callB {id : String} {ds : List D} (hg : Gl X nm) (hm : X.mg nm = none) (hv : bootBuiltins nm = some (.builtin id)) (h : Eda X (e :: es) δ xs) (hx : xs = ds.map .d) (hc : CD X (.builtin id) ds (· = z)) (hn : nm ≠ "__name__" := by decide) (hdb : (nm == ("__debug__" : Str)) = false := by decide)
    (he : starEach (e :: es) X.env = (false, eval e X.env) :: starEach es X.env := by rfl) (hpl : (backTo pos (starEach es X.env)).any (·.1) = false := by rfl) : Ed X (.Call (.Name nm p) (e :: es) [] pos) δ z := ev_callB hg hm hv (h.use ⟨ds, hx, hc.and rfl⟩) hn hdb he hpl
theorem ed_callT {id : String} {ds : List D} (hg : Gl X nm) (hm : X.mg nm = none) (hv : bootBuiltins nm = some (.type id)) (h : Eda X (e :: es) δ xs) (hx : xs = ds.map .d) (hc : CD X (.type id) ds (· = z)) (hn : nm ≠ "__name__" := by decide) (hdb : (nm == ("__debug__" : Str)) = false := by decide)
    (he : starEach (e :: es) X.env = (false, eval e X.env) :: starEach es X.env := by rfl) (hpl : (backTo pos (starEach es X.env)).any (·.1) = false := by rfl) : Ed X (.Call (.Name nm p) (e :: es) [] pos) δ z := ev_callT hg hm hv (h.use ⟨ds, hx, hc.and rfl⟩) hn hdb he hpl
theorem es_never {st : Stmt} (h : False) : Es X st δ P := h.elim
/-- an if whose test is known -/
theorem es_ifK {a b : List Stmt} (hc : Edt X c δ k) (h1 : k = true → Eb X a δ P) (h2 : k = false → Eb X b δ P) : Es X (.If c a b pos) δ P := es_if (hc.use ⟨h1, h2⟩)
end
theorem bt_len : bootBuiltins "len" = some (.builtin "len") := by decide +kernel
theorem bt_isinstance : bootBuiltins "isinstance" = some (.builtin "isinstance") := by decide +kernel
theorem bt_int : bootBuiltins "int" = some (.type "int") := by decide +kernel
theorem bt_bool : bootBuiltins "bool" = some (.type "bool") := by decide +kernel
theorem bt_list : bootBuiltins "list" = some (.type "list") := by decide +kernel
theorem bt_tuple : bootBuiltins "tuple" = some (.type "tuple") := by decide +kernel
theorem bt_dict : bootBuiltins "dict" = some (.type "dict") := by decide +kernel
theorem bt_str : bootBuiltins "str" = some (.type "str") := by decide +kernel
theorem bt_min : bootBuiltins "min" = some (.builtin "min") := by decide +kernel
theorem bt_max : bootBuiltins "max" = some (.builtin "max") := by decide +kernel
theorem bt_all : bootBuiltins "all" = some (.builtin "all") := by decide +kernel
theorem bt_any : bootBuiltins "any" = some (.builtin "any") := by decide +kernel
theorem bt_sum : bootBuiltins "sum" = some (.builtin "sum") := by decide +kernel
theorem bt_sorted : bootBuiltins "sorted" = some (.builtin "sorted") := by decide +kernel
theorem bt_repr : bootBuiltins "repr" = some (.builtin "repr") := by decide +kernel
theorem bt_range : bootBuiltins "range" = some (.type "range") := by decide +kernel
theorem bt_enumerate : bootBuiltins "enumerate" = some (.type "enumerate") := by decide +kernel
theorem bt_zip : bootBuiltins "zip" = some (.type "zip") := by decide +kernel
theorem k_list_list : kitB "list" "list" = some true := by decide +kernel
theorem k_int_int : kitB "int" "int" = some true := by decide +kernel
theorem k_int_bool : kitB "int" "bool" = some false := by decide +kernel
/-! ### typed data -/
def LI (ns : List Int) : D := .lst (ns.map .int)
def LL (rows : List (List Int)) : D := .lst (rows.map LI)
section
variable {X : Cx} {S : OD → Prop}
theorem ix_I {ns : List Int} {i : Int} (h0 : 0 ≤ i) (h1 : i < ns.length) (q : S (.fz (.int (ns.getD i.toNat 0)))) : IxD X (.fz (LI ns)) (.fz (.int i)) S := ix_L (by
  obtain ⟨n, rfl⟩ : ∃ n : Nat, i = n := ⟨i.toNat, by omega⟩
  refine atI_nat ?_
  have hl : n < ns.length := by omega
  rw [List.getElem?_map, List.getElem?_eq_getElem hl]
  simp [hl]) q
theorem ix_LL {rows : List (List Int)} {i : Int} (h0 : 0 ≤ i) (h1 : i < rows.length) (q : S (.fz (LI (rows.getD i.toNat [])))) : IxD X (.fz (LL rows)) (.fz (.int i)) S := ix_L (by
  obtain ⟨n, rfl⟩ : ∃ n : Nat, i = n := ⟨i.toNat, by omega⟩
  refine atI_nat ?_
  have hl : n < rows.length := by omega
  rw [List.getElem?_map, List.getElem?_eq_getElem hl]
  simp [hl]) q
theorem len_I {ns : List Int} (q : S (.fz (.int ns.length))) : CD X (.builtin "len") [LI ns] S := cd_len (by rw [List.length_map]; exact q)
theorem len_LL {rows : List (List Int)} (q : S (.fz (.int rows.length))) : CD X (.builtin "len") [LL rows] S := cd_len (by rw [List.length_map]; exact q)
theorem isi_LI {ns : List Int} {t : String} {r : Bool} (hk : kitB "list" t = some r) (q : S (.fz (.bl r))) : CD X (.builtin "isinstance") [LI ns, .op (.ty t)] S := cd_isi (d := LI ns) (by show ("list" : String) ≠ ""; decide) hk q
theorem isi_LL {ns : List (List Int)} {t : String} {r : Bool} (hk : kitB "list" t = some r) (q : S (.fz (.bl r))) : CD X (.builtin "isinstance") [LL ns, .op (.ty t)] S := cd_isi (d := LL ns) (by show ("list" : String) ≠ ""; decide) hk q
theorem isi_int {n : Int} {t : String} {r : Bool} (hk : kitB "int" t = some r) (q : S (.fz (.bl r))) : CD X (.builtin "isinstance") [.int n, .op (.ty t)] S := cd_isi (d := .int n) (by show ("int" : String) ≠ ""; decide) hk q
end
/-! ### defs of the text, callees -/
structure Def (K : PySem.W.Frag) (mg : Str → Option Value) (nm : Str) (st : Stmt) (ps : List Str) : Prop where
  ex : ∃ f fd, Fun K nm nm st f fd ∧ mg nm = some (.ref f) ∧ Binds K fd ps []
structure Cl (P : Program) (w : World) (K : PySem.W.Frag) (mg : Str → Option Value) (base : Heap) (k : Nat) (nm : Str) (ps : List Str) (C : Con) : Prop where
  ex : ∃ f fd, FnG P w K mg base k f fd ps (spC K C) ∧ mg nm = some (.ref f) ∧ PySem.W.keepIn K (.ref f) = true ∧ Binds K fd ps []
section
variable {P : Program} {w : World} {K : PySem.W.Frag} {mg : Str → Option Value} {base : Heap} {k j : Nat} {nm : Str} {ps N : List Str} {C : Con} {st : Stmt}
theorem Cl.mono (c : Cl P w K mg base j nm ps C) (h : j ≤ k) : Cl P w K mg base k nm ps C := by
  obtain ⟨f, fd, F, r⟩ := c.ex
  exact ⟨f, fd, F.mono h, r⟩
/-- THE RULE for a def, once more -/
theorem Def.cl (D : Def K mg nm st ps) (S : FnScope N ps (defScope st)) (len : ∀ i, (C.args i).length = ps.length)
    (body : ∀ (f : Addr) (cdv : Value) (A : Around) (outer : List Env) (s : Shared) (H : Hp) (E : XK) (i : C.ι), A.guards = some [] → Room k (A.deeper (envOfC nm (defScope st) s.heap.objs.size f cdv)) → C.pre i →
      Eb (cxOf CX0 P w K mg base N nm (defScope st) f cdv A outer s H E).nox (defBody st) (ens (C.args i) ++ List.replicate (N.length - (C.args i).length) none)
        { nx := fun δ' => ∃ xs', KeepA (C.args i) xs' δ' ∧ C.out i (.fz .non) xs', rt := fun y δ' => ∃ xs', KeepA (C.args i) xs' δ' ∧ C.out i y xs' }) : Cl P w K mg base (k + 1) nm ps C := by
  obtain ⟨f, fd, F, g, b⟩ := D.ex
  exact ⟨f, fd, fn_con F S len (body f), g, F.kp, b⟩
end
def isFz : OD → Bool
  | .fz _ => true
  | _ => false
theorem isFz_foot {x : OD} (h : isFz x = true) : foot x = [] := by
  cases x with
  | fz d => unfold foot; rfl
  | own a xs => cases h
  | vol a φ => cases h
theorem keep_fz {xs : List OD} {δ' : En} (h : xs.all isFz = true) : KeepA xs xs δ' := ⟨rfl, fun j x hx => ⟨fun hf => absurd (isFz_foot (List.all_eq_true.mp h x (List.mem_of_getElem? hx))) hf, fun _ => hx⟩⟩
/-- the first argument an object that stands in its slot -/
theorem keep_one {y y' : OD} {xs : List OD} {δ' : En} (h0 : δ'[0]? = some (some y')) (hf : foot y' = foot y) (hn : foot y ≠ []) (h : xs.all isFz = true) : KeepA (y :: xs) (y' :: xs) δ' := ⟨by rw [List.map_cons, List.map_cons, hf], fun j x hx => by
  cases j with
  | zero => simp at hx; subst hx; exact ⟨fun _ => h0, fun q => absurd (hf.symm.trans q) hn⟩
  | succ j =>
    have hx' : xs[j]? = some x := by simpa using hx
    exact ⟨fun hf => absurd (isFz_foot (List.all_eq_true.mp h x (List.mem_of_getElem? hx'))) hf, fun _ => by simpa using hx'⟩⟩
theorem foots_nil : ∀ {xs : List OD}, xs.all isFz = true → foots xs = []
  | [], _ => by unfold foots; rfl
  | x :: xs, h => by
    rw [List.all_cons, Bool.and_eq_true] at h
    unfold foots
    rw [foots_nil h.2, isFz_foot h.1]
    rfl
section
variable {X : Cx} {e : Expr} {es : List Expr} {δ : En} {Q : OD → En → Prop} {pos p : Pos} {z : OD} {nm : Str} {k : Nat} {ps : List Str} {C : Con} {as : List AR}
theorem ev_cl (c : Cl X.prog X.w X.K X.mg X.base k nm ps C) (hgd : X.A.guards = some []) (hr : Room k X.A) (hg : Gl X nm) (h : Ea X (e :: es) δ fun as δ1 => ∃ i, resolve δ1 as = some (C.args i) ∧ (foots (C.args i)).Nodup ∧ C.pre i ∧ ∀ y xs', xs'.map foot = (C.args i).map foot → C.out i y xs' → Q y (upds δ1 as xs'))
    (hdb : (nm == ("__debug__" : Str)) = false := by decide)
    (he : starEach (e :: es) X.env = (false, eval e X.env) :: starEach es X.env := by rfl) (hpl : (backTo pos (starEach es X.env)).any (·.1) = false := by rfl) : Ev X (.Call (.Name nm p) (e :: es) [] pos) δ Q := by
  obtain ⟨f, fd, F, g, kp, b⟩ := c.ex
  exact ev_call F hgd hr hg g kp b h hdb he hpl
theorem upds_d : ∀ {ds : List D} {xs : List OD} {δ : En}, upds δ (ds.map .d) xs = δ
  | [], xs, δ => by cases xs <;> rfl
  | d :: ds, [], δ => rfl
  | d :: ds, x :: xs, δ => by rw [List.map_cons]; unfold upds; exact upds_d
/-- f(e, ..) with plain arguments, whose answer is one -/
theorem ed_clF (c : Cl X.prog X.w X.K X.mg X.base k nm ps C) (hgd : X.A.guards = some []) (hr : Room k X.A) (hg : Gl X nm) {i : C.ι} {ds : List D} (h : Eda X (e :: es) δ as) (ha : as = ds.map .d) (hi : C.args i = ds.map .fz) (hp : C.pre i) (ho : ∀ y xs', C.out i y xs' → y = z) (hdb : (nm == ("__debug__" : Str)) = false := by decide)
    (he : starEach (e :: es) X.env = (false, eval e X.env) :: starEach es X.env := by rfl) (hpl : (backTo pos (starEach es X.env)).any (·.1) = false := by rfl) : Ed X (.Call (.Name nm p) (e :: es) [] pos) δ z := by
  subst ha
  have res : ∀ ds : List D, resolve δ (ds.map .d) = some (ds.map .fz) := by
    intro ds
    induction ds with
    | nil => rfl
    | cons d ds ih => rw [List.map_cons, List.map_cons]; unfold resolve; rw [ih]; rfl
  refine ev_cl c hgd hr hg (h.use ⟨i, by rw [hi]; exact res ds, ?_, hp, fun y xs' _ q => ⟨ho y xs' q, upds_d⟩⟩) hdb he hpl
  rw [hi, foots_fz]
  exact List.nodup_nil
end
/-- an item of enumerate -/
theorem enD_get {α : Type} {f : α → D} {xs : List α} {k i : Nat} {d : D} (dflt : α) (h : (enD k (xs.map f))[i]? = some d) : i < xs.length ∧ d = .tup [.int ((i + k : Nat) : Int), f (xs.getD i dflt)] := by
  unfold enD at h
  rw [List.getElem?_mapIdx, List.getElem?_map] at h
  cases e : xs[i]? with
  | none => rw [e] at h; cases h
  | some a =>
    rw [e] at h
    simp at h
    refine ⟨(List.getElem?_eq_some_iff.mp e).1, ?_⟩
    rw [← h, List.getD_eq_getElem?_getD, e]
    rfl
theorem map_get {α : Type} {f : α → D} {xs : List α} {i : Nat} {d : D} (dflt : α) (h : (xs.map f)[i]? = some d) : i < xs.length ∧ d = f (xs.getD i dflt) := by
  rw [List.getElem?_map] at h
  cases e : xs[i]? with
  | none => rw [e] at h; cases h
  | some a =>
    rw [e] at h
    simp at h
    refine ⟨(List.getElem?_eq_some_iff.mp e).1, ?_⟩
    rw [← h, List.getD_eq_getElem?_getD, e]
    rfl
end Vl

namespace Vl
open PySem PySem.Spec PyProof.Rows L2
section
variable {X : Cx} {e a b c tg iter elt : Expr} {es ts ifs : List Expr} {δ : En} {pos p p2 p3 : Pos} {x y : Str} {scope : Scope} {own : List (Str × Nat)} {S : OD → Prop}
theorem Ei.imp {R R' : List D → En → Prop} (h : Ei X tg iter δ R) (q : ∀ ds δ', R ds δ' → R' ds δ') : Ei X tg iter δ R' := fun G H σ s => (h G H σ s).imp fun J H1 ⟨G1, ds, δ1, s1, r, k⟩ => ⟨G1, ds, δ1, s1, q _ _ r, k⟩
theorem ed_lc {ds : List D} (f : Nat → Option D) (hc : X.calm = true) (hN : X.N.Nodup) (ok : BlkOk X.N X.env.scope scope own) (hi : Ei X tg iter δ fun r δ1 => r = ds ∧ δ1 = δ) (hz : ds.length ≤ 100000) (hw : feet (wipeE δ (own.map (·.2))) = feet δ)
    (step : ∀ i d, ds[i]? = some d → ∃ t : En, wipeE t (own.map (·.2)) = wipeE δ (own.map (·.2)) ∧ (∀ Y, Blk X scope Y → Egb Y tg (own.map (·.2)) d (wipeE δ (own.map (·.2))) fun δ2 => δ2 = t) ∧
      ∃ k : Bool, (∀ Y, Blk X scope Y → Ets Y ifs t fun r δ' => r = k ∧ δ' = t) ∧ (k = false → f i = none) ∧ (k = true → ∃ d', f i = some d' ∧ ∀ Y, Blk X scope Y → Ed Y elt t (.fz d')))
    (hs : ∀ x, foldedSetIterable iter X.env x = pure x := by intro _; rfl) : Ed X (.ListComp elt [⟨tg, iter, ifs, 0⟩] scope pos) δ (.fz (.lst ((List.range ds.length).filterMap f))) :=
  ev_lc (own := own) hc hN ⟨ok, ds, fun i acc δ1 => δ1 = δ ∧ acc = (List.range i).filterMap f, hi.imp fun r δ1 ⟨e1, e2⟩ => ⟨e1, e2, rfl⟩, hz, fun i d acc δ1 hd ⟨e1, e2⟩ => by
    subst e1
    obtain ⟨t, h1, h2, k, h3, h4, h5⟩ := step i d hd
    refine ⟨hw, t, h1, h2, k, h3, fun q => ⟨rfl, ?_⟩, fun q => ?_⟩
    · rw [List.range_succ, List.filterMap_append, ← e2]
      simp [h4 q]
    · obtain ⟨d', h6, h7⟩ := h5 q
      refine ⟨δ1, hw, rfl, fun _ _ => rfl, fun Y hY => (h7 Y hY).use ⟨h1, d', rfl, rfl, ?_⟩⟩
      rw [List.range_succ, List.filterMap_append, ← e2]
      simp [h6], fun l acc δ1 ⟨e1, e2⟩ => ⟨by rw [e2], e1⟩⟩ hs
theorem range_map_getD {α β : Type} (xs : List α) (h : α → β) : ∀ n, n ≤ xs.length → (List.range n).filterMap (fun i => (xs[i]?).map h) = (xs.take n).map h
  | 0, _ => by simp
  | n + 1, hn => by
    rw [List.range_succ, List.filterMap_append, range_map_getD xs h n (by omega), List.take_succ, List.map_append]
    congr 1
    have : n < xs.length := by omega
    simp [this]
theorem range_filter_getD {α β : Type} (xs : List α) (p : α → Bool) (h : α → β) : ∀ n, n ≤ xs.length → (List.range n).filterMap (fun i => (xs[i]?).bind fun x => if p x then some (h x) else none) = ((xs.take n).filter p).map h
  | 0, _ => by simp
  | n + 1, hn => by
    rw [List.range_succ, List.filterMap_append, range_filter_getD xs p h n (by omega), List.take_succ, List.filter_append, List.map_append]
    congr 1
    have : n < xs.length := by omega
    by_cases hp : p xs[n] <;> simp [this, hp]
/-- [elt for tg in iter]: each item by itself -/
theorem ed_lcM {α : Type} {xs : List α} {g h : α → D} (hc : X.calm = true) (hN : X.N.Nodup) (ok : BlkOk X.N X.env.scope scope own) (hi : Ei X tg iter δ fun r δ1 => r = xs.map g ∧ δ1 = δ) (hz : xs.length ≤ 100000) (hw : feet (wipeE δ (own.map (·.2))) = feet δ)
    (step : ∀ x ∈ xs, ∃ t : En, wipeE t (own.map (·.2)) = wipeE δ (own.map (·.2)) ∧ (∀ Y, Blk X scope Y → Egb Y tg (own.map (·.2)) (g x) (wipeE δ (own.map (·.2))) fun δ2 => δ2 = t) ∧ ∀ Y, Blk X scope Y → Ed Y elt t (.fz (h x)))
    (hs : ∀ x, foldedSetIterable iter X.env x = pure x := by intro _; rfl) : Ed X (.ListComp elt [⟨tg, iter, [], 0⟩] scope pos) δ (.fz (.lst (xs.map h))) := by
  have r := ed_lc (pos := pos) (ifs := []) (elt := elt) (fun i => (xs[i]?).map h) hc hN ok hi (by rw [List.length_map]; exact hz) hw (fun i d hd => by
    rw [List.getElem?_map] at hd
    cases e1 : xs[i]? with
    | none => rw [e1] at hd; cases hd
    | some z =>
      rw [e1] at hd
      simp at hd
      subst hd
      obtain ⟨t, h1, h2, h3⟩ := step z (List.mem_of_getElem? e1)
      exact ⟨t, h1, h2, true, fun Y hY => ets_nil ⟨rfl, rfl⟩, by simp, fun _ => ⟨h z, rfl, h3⟩⟩) hs
  rw [List.length_map, range_map_getD xs h _ (Nat.le_refl _), List.take_length] at r
  exact r
/-- [elt for tg in iter if test]: each item by itself -/
theorem ed_lcF {α : Type} {xs : List α} {g h : α → D} {p : α → Bool} (hc : X.calm = true) (hN : X.N.Nodup) (ok : BlkOk X.N X.env.scope scope own) (hi : Ei X tg iter δ fun r δ1 => r = xs.map g ∧ δ1 = δ) (hz : xs.length ≤ 100000) (hw : feet (wipeE δ (own.map (·.2))) = feet δ)
    (step : ∀ x ∈ xs, ∃ t : En, wipeE t (own.map (·.2)) = wipeE δ (own.map (·.2)) ∧ (∀ Y, Blk X scope Y → Egb Y tg (own.map (·.2)) (g x) (wipeE δ (own.map (·.2))) fun δ2 => δ2 = t) ∧ (∀ Y, Blk X scope Y → Ets Y ifs t fun r δ' => r = p x ∧ δ' = t) ∧ (p x = true → ∀ Y, Blk X scope Y → Ed Y elt t (.fz (h x))))
    (hs : ∀ x, foldedSetIterable iter X.env x = pure x := by intro _; rfl) : Ed X (.ListComp elt [⟨tg, iter, ifs, 0⟩] scope pos) δ (.fz (.lst ((xs.filter p).map h))) := by
  have r := ed_lc (pos := pos) (ifs := ifs) (elt := elt) (fun i => (xs[i]?).bind fun x => if p x then some (h x) else none) hc hN ok hi (by rw [List.length_map]; exact hz) hw (fun i d hd => by
    rw [List.getElem?_map] at hd
    cases e1 : xs[i]? with
    | none => rw [e1] at hd; cases hd
    | some z =>
      rw [e1] at hd
      simp at hd
      subst hd
      obtain ⟨t, h1, h2, h3, h4⟩ := step z (List.mem_of_getElem? e1)
      exact ⟨t, h1, h2, p z, h3, fun q => by simp [q], fun q => ⟨h z, by simp [q], h4 q⟩⟩) hs
  rw [List.length_map, range_filter_getD xs p h _ (Nat.le_refl _), List.take_length] at r
  exact r
theorem cd_allP (hc : X.calm = true) {α : Type} {xs : List α} {p : α → Bool} (q : S (.fz (.bl (xs.all p)))) : CD X (.builtin "all") [.lst (xs.map fun x => .bl (p x))] S := by
  have r := cd_all (S := S) hc (bs := xs.map p) (by rw [List.all_map]; exact q)
  rw [List.map_map] at r
  exact r
theorem cd_anyP (hc : X.calm = true) {α : Type} {xs : List α} {p : α → Bool} (q : S (.fz (.bl (xs.any p)))) : CD X (.builtin "any") [.lst (xs.map fun x => .bl (p x))] S := by
  have r := cd_any (S := S) hc (bs := xs.map p) (by rw [List.any_map]; exact q)
  rw [List.map_map] at r
  exact r
theorem cd_sumP (hc : X.calm = true) {α : Type} {xs : List α} {p : α → Int} (q : S (.fz (.int (xs.map p).sum))) : CD X (.builtin "sum") [.lst (xs.map fun x => .int (p x))] S := by
  have r := cd_sum (S := S) hc (ns := xs.map p) q
  rw [List.map_map] at r
  exact r
/-- a wide power -/
theorem op_powW : OpR X (binaryOp .Pow) (rI (fun i j => 0 ≤ j ∧ (Builtin.Int.intBits i : Int) * j ≤ 2 ^ 27) fun i j => .int (i ^ j.toNat)) := opI fun _ _ _ _ _ _ _ hc q => pow_int hc.1 hc.2 q
theorem pow_W {i j : Int} (h0 : 0 ≤ j) (h1 : (Builtin.Int.intBits i : Int) * j ≤ 2 ^ 27) (q : S (.fz (.int (i ^ j.toNat)))) : RD X (binaryOp .Pow) (.fz (.int i)) (.fz (.int j)) S := rd_I op_powW (fun _ => by unfold Rep; rfl) ⟨h0, h1⟩ q
end
end Vl

namespace Vl
open PySem PySem.Spec PyProof.Rows L2
/-! ### enumerate(list, k) -/
/-- the list at a, counted from k -/
def Itn (K : PySem.W.Frag) (a : Addr) (k : Int) : It :=
  ⟨fun i H => ∃ (xs : List V) (x : V), SqL K H a xs ∧ xs[i]? = some x, fun i H v H' => ∃ T x, v = .ref T ∧ H T = none ∧ H' = upd H T (.tup [.int (k + (i : Nat)), x]) ∧ ∀ xs, SqL K H a xs → xs[i]? = some x, fun i H => ∃ xs : List V, SqL K H a xs ∧ xs.length = i⟩
theorem turn_enumK {P : Program} {w : World} {K : PySem.W.Frag} {elts : List Expr} {kk : Nat} {tpos : Pos} (a e it : Addr) (k : Int) :
    Turn P w K (.Tuple elts kk tpos) (Itn K a k) [e, it] e (fun i h => (∃ old, IsEnum h e it (k + (i : Nat)) old) ∧ h.IsListIter it a i ∧ e ≠ it ∧ a ≠ e ∧ a ≠ it) where
  mem := by simp
  obj := fun i h st b hb => by
    obtain ⟨⟨old, he⟩, ⟨o, ho, hc, hd⟩, _⟩ := st
    rcases (show b = e ∨ b = it by simpa using hb) with z | z
    · subst z; exact ⟨_, he, fun v q => nomatch q⟩
    · subst z; exact ⟨o, ho, fun v q => by rw [hd] at q; cases q⟩
  keep := fun i h h' ⟨⟨old, he⟩, hi, r⟩ q => ⟨⟨old, q e (by simp) _ he⟩, hi.at fun o z => q it (by simp) o z, r⟩
  item := by
    rintro X rfl rfl rfl hc i pins s σ H E I hf ⟨⟨old, he⟩, hit, hne, ha, hb⟩ ⟨xs, x, hq, hx⟩
    obtain ⟨its, rv, p, hz⟩ := I.list hq
    obtain ⟨u, hu, ru⟩ := rv.get hx
    have D := Draws.list (prog := X.prog) (w := X.w) (A := X.A.in1) (I.ok.hd hc) it a hb its.toArray
    have hlt : i < its.toArray.size := by
      rw [List.size_toArray]
      exact (List.getElem?_eq_some_iff.mp hu).1
    refine wpAny_pyNext_enum_itemC D he ⟨hit, p.isList⟩ hlt hne (by simp [hne, ha.symm]) fun y h' tk hy ho hst hT hsz hk => ?_
    have hy' : y = u := by
      have hy : its.toArray[i]? = some y := hy
      rw [List.getElem?_toArray, hu] at hy
      exact (Option.some.inj hy).symm
    subst hy'
    have hel : e < s.heap.objs.size := Heap.lt_size he
    have hil : it < s.heap.objs.size := by obtain ⟨_, q, _⟩ := hit; exact Heap.lt_size q
    refine ⟨_, rfl, wpAny_letOwnedTupleGo_enum (s := { s with heap := h', toks := tk + 1 }) ho fun h'' he' sb => ?_⟩
    have hT2 := (sb.2 _ (Nat.ne_of_gt hel)).trans hT
    have hfree := I.hok.fresh (Nat.le_refl s.heap.objs.size)
    have new : ObjOk X.prog X.w (upd H s.heap.objs.size (.tup [.int (k + (i : Nat)), x])) h'' s.heap.objs.size (.tup [.int (k + (i : Nat)), x]) :=
      ⟨by show 2 ≤ sizeLine; decide, [.int (k + (i : Nat)) tk, y], .cons ⟨_, rfl⟩ (.cons ru .nil), ⟨_, hT2, rfl, _, rfl⟩⟩
    have I1 : Inv X pins σ (upd H s.heap.objs.size (.tup [.int (k + (i : Nat)), x])) { s with heap := h'', toks := tk + 1 } :=
      I.turnedNew (ch := [e, it]) (fun b ob hb q => by
        have n1 : b ≠ e := fun z => hb (by simp [z])
        have n2 : b ≠ it := fun z => hb (by simp [z])
        exact (sb.2 b n1).trans (hk b ob n1 n2 q)) hf (Nat.le_refl _) new
    refine ⟨.ref s.heap.objs.size, _, I1, rfl, ⟨_, x, rfl, hfree, rfl, fun ys hys => by rw [I.list_inj hys hq]; exact hx⟩, ⟨⟨y, ?_⟩, hst.1.at fun o q => (sb.2 it hne.symm).trans q, hne, ha, hb⟩, fun b hb' => ?_⟩
    · rw [show k + ((i + 1 : Nat) : Int) = k + (i : Nat) + 1 by omega]
      exact he'
    · rcases (show b = e ∨ b = it by simpa using hb') with z | z
      · subst z
        rw [upd_ne (Nat.ne_of_lt hel)]
        exact (hf b hb').1
      · subst z
        rw [upd_ne (Nat.ne_of_lt hil)]
        exact (hf b hb').1
  done := by
    rintro X rfl rfl rfl hc i pins s σ H E I hf ⟨⟨old, he⟩, hit, hne, ha, hb⟩ ⟨xs, hq, hx⟩
    obtain ⟨its, rv, p, hz⟩ := I.list hq
    obtain ⟨f0, f1, f2, f3, f4, f5⟩ := hf it (by simp)
    have D := Draws.list (prog := X.prog) (w := X.w) (A := X.A.in1) (I.ok.hd hc) it a hb its.toArray
    have hn : its.toArray.size = i := by rw [List.size_toArray, ← rv.length, hx]
    exact wpAny_pyNext_enum_endD D he (by rw [hn]; exact ⟨hit, p.isList⟩) fun h' eb => ⟨rfl, I.turned (t' := s.toks) (fun b o hb q => eb b o hb q) f0 f1 f3 f4 f5⟩
  self := fun A i s Q E ⟨⟨_, he⟩, _⟩ h => wpAny_pyIter_enum he h
def iEnumK (K : PySem.W.Frag) (ta : TA) : TI := fun σ H R => ta σ H fun vs H1 => ∃ a xs k, vs = [.ref a, .int k] ∧ SqL K H1 a xs ∧ (-(2 ^ 63) ≤ k ∧ k < 2 ^ 63) ∧ R (Itn K a k) H1
theorem pi_enumK {X : Cx} {e e2 : Expr} {ta : TA} {p pos tpos : Pos} {elts : List Expr} {kk : Nat} (hg : Gl X "enumerate") (hm : X.mg "enumerate" = none) (ha : PA X [e, e2] ta) (hs : starEach (e :: [e2]) X.env = (false, eval e X.env) :: starEach [e2] X.env := by rfl)
    (hs2 : (backTo pos (starEach [e2] X.env)).any (·.1) = false := by rfl) : PI X (.Tuple elts kk tpos) (.Call (.Name "enumerate" p) [e, e2] [] pos) (iEnumK X.K ta) := by
  refine ⟨fun pins s σ H R I h => ?_⟩
  refine wpAny_Call_Name_kw (ld_blt I hg hm boot_enumerate ?_ (by decide) (by decide))
  refine PyProof.Rows.callWith_type1 (thn (ha.run pos pins s σ H _ I h) fun us s1 ⟨vs, H1, I1, r1, a, xs, k, ex, hq, ⟨k1, k2⟩, q⟩ => ?_) hs hs2
  subst ex
  cases r1 with
  | cons r rr =>
    cases rr with
    | cons r' rr' =>
      cases rr'
      cases r
      obtain ⟨t, rfl⟩ := r'
      obtain ⟨its, rv, p', hz⟩ := I1.list hq
      have hal : a < s1.heap.objs.size := by obtain ⟨_, z, _⟩ := p'.isList; exact Heap.lt_size z
      refine enum_begins (begins_list a its.toArray) p'.isList k1 k2 fun h' he hit hsz hk => wpAny_pyIter_enum he ?_
      have I2 : Inv X pins σ H1 { s1 with heap := h' } := I1.kept (t' := s1.toks) hk
      refine ⟨s1.heap.objs.size + 1, [s1.heap.objs.size + 1, s1.heap.objs.size], _, _, H1, rfl, I2, turn_enumK a (s1.heap.objs.size + 1) s1.heap.objs.size k, ⟨⟨.none, by simpa using he⟩, ⟨_, hit, rfl, rfl⟩, Nat.succ_ne_self _, Nat.ne_of_lt (Nat.lt_succ_of_lt hal), Nat.ne_of_lt hal⟩, fun b hb => ?_, q⟩
      have hle : s1.heap.objs.size ≤ b := by
        rcases (show b = s1.heap.objs.size + 1 ∨ b = s1.heap.objs.size by simpa using hb) with z | z
        · rw [z]; exact Nat.le_succ _
        · rw [z]; exact Nat.le_refl _
      exact I1.fpOk hle (I1.hok.fresh hle)
theorem walk_enumK {K : PySem.W.Frag} {a : Addr} {xs : List V} {k : Int} : Walk (Itn K a k) xs.length (fun H => SqL K H a xs) (YPair (fun i => some (.int (k + (i : Nat)))) (fun i => xs[i]?)) := by
  refine ⟨fun i _ hi q => ⟨xs, xs[i], q, by simp [hi]⟩, fun _ q => ⟨xs, q, rfl⟩, fun i H v H' _ q y => ?_⟩
  obtain ⟨T, x, h1, h2, h3, h4⟩ := y
  exact ⟨T, .int (k + (i : Nat)), x, h1, h2, h3, rfl, h4 xs q⟩
theorem Reps.rev {K : PySem.W.Frag} {G : Hp} : ∀ {ds : List D} {vs : List V}, Reps K G ds vs → Reps K G ds.reverse vs.reverse
  | [], vs, h => by
    unfold Reps at h
    subst h
    exact Reps.nil
  | d :: ds, vs, h => by
    unfold Reps at h
    obtain ⟨v, r, rfl, h1, h2⟩ := h
    rw [List.reverse_cons, List.reverse_cons]
    exact Reps.app (Reps.rev h2) (Reps.cons h1 Reps.nil)
section
variable {X : Cx} {e e2 tg iter : Expr} {ts : List Expr} {bd : List Stmt} {δ : En} {R : List D → En → Prop} {P : DE} {pos p : Pos}
theorem two_lst_int {K : PySem.W.Frag} {G : Hp} {ds : List D} {k : Int} {vs : List V} (rs : Reps K G [.lst ds, .int k] vs) : ∃ a ws, vs = [.ref a, .int k] ∧ G a = some (.lst ws) ∧ Reps K G ds ws := by
  unfold Reps Rep at rs
  obtain ⟨v, r, rfl, ⟨a, ws, rfl, g, r1⟩, rn⟩ := rs
  rw [one_int rn]
  exact ⟨a, ws, rfl, g, r1⟩
theorem ei_enumK {elts : List Expr} {kk : Nat} {tpos : Pos} (hg : Gl X "enumerate") (hm : X.mg "enumerate" = none) (h : Ea X [e, e2] δ fun xs δ1 => ∃ ds k, xs = [.d (.lst ds), .d (.int ((k : Nat) : Int))] ∧ k < 1000000 ∧ R (enD k ds) δ1) (hs : starEach (e :: [e2]) X.env = (false, eval e X.env) :: starEach [e2] X.env := by rfl)
    (hs2 : (backTo pos (starEach [e2] X.env)).any (·.1) = false := by rfl) : Ei X (.Tuple elts kk tpos) (.Call (.Name "enumerate" p) [e, e2] [] pos) δ R := fun G H σ s => wI_of (pi_enumK hg hm wA_pa hs hs2) ((h G H σ s).imp fun vs H1 ⟨xs, G1, δ1, s1, rs, ds, k, e1, hk, q⟩ => by
  subst e1
  obtain ⟨l, ws, rfl, g, rr⟩ := two_lst_int (repAs_d (ds := [.lst ds, .int k]) rs)
  refine ⟨l, ws, k, rfl, .of (s1.st.ex _ _ g), ⟨by omega, by omega⟩, G1, _, δ1, s1, q, fun H => SqL X.K H l ws, _, by unfold enD; rw [List.length_mapIdx, ← rr.length]; exact walk_enumK, fun H2 s => .of (s _ _ g), fun i H2 v H3 G2 d t1 t2 y hd => ?_⟩
  unfold enD at hd
  rw [List.getElem?_mapIdx] at hd
  cases z : ds[i]? with
  | none => rw [z] at hd; cases hd
  | some d' =>
    rw [z] at hd
    simp at hd
    subst hd
    obtain ⟨v', e3, rv⟩ := rr.get z
    refine pair_new t2 y (fun x ex => ?_) fun x ex => ?_
    · cases ex
      unfold Rep
      rw [Int.add_comm]
    · rw [e3] at ex
      cases ex
      exact Rep.mono t1 _ _ rv)
/-- for tg in xs -/
theorem es_forM {α : Type} {xs : List α} {g : α → D} (hp : PassesOwn (model X.prog X.w) X.A X.env X.xe) (hc : X.calm = true) (I : Nat → En → Prop) (hi : Ei X tg iter δ fun r δ1 => r = xs.map g ∧ I 0 δ1)
    (step : ∀ i (h : i < xs.length) δ1, I i δ1 → Eg X tg (.fz (g xs[i])) δ1 fun δ2 => Eb X bd δ2 { P with nx := I (i + 1), ct := I (i + 1), bk := P.nx }) (hd : ∀ δ', I xs.length δ' → P.nx δ') (hs : ∀ x, foldedSetIterable iter X.env x = pure x := by intro _; rfl) : Es X (.For tg iter bd [] pos) δ P :=
  es_for hp hc I hi (fun i d δ1 h hI => by
    rw [List.getElem?_map] at h
    cases e1 : xs[i]? with
    | none => rw [e1] at h; cases h
    | some z =>
      rw [e1] at h
      simp at h
      subst h
      obtain ⟨hl, rfl⟩ := List.getElem?_eq_some_iff.mp e1
      exact step i hl δ1 hI) (fun δ' h => hd δ' (by rw [List.length_map] at h; exact h)) hs
/-- for i, tg in enumerate(xs, k) -/
theorem es_forE {α : Type} {xs : List α} {g : α → D} (k : Nat) (hp : PassesOwn (model X.prog X.w) X.A X.env X.xe) (hc : X.calm = true) (I : Nat → En → Prop) (hi : Ei X tg iter δ fun r δ1 => r = enD k (xs.map g) ∧ I 0 δ1)
    (step : ∀ i (h : i < xs.length) δ1, I i δ1 → Eg X tg (.fz (.tup [.int ((i + k : Nat) : Int), g xs[i]])) δ1 fun δ2 => Eb X bd δ2 { P with nx := I (i + 1), ct := I (i + 1), bk := P.nx }) (hd : ∀ δ', I xs.length δ' → P.nx δ') (hs : ∀ x, foldedSetIterable iter X.env x = pure x := by intro _; rfl) : Es X (.For tg iter bd [] pos) δ P :=
  es_for hp hc I hi (fun i d δ1 h hI => by
    unfold enD at h
    rw [List.getElem?_mapIdx, List.getElem?_map] at h
    cases e1 : xs[i]? with
    | none => rw [e1] at h; cases h
    | some z =>
      rw [e1] at h
      simp at h
      subst h
      obtain ⟨hl, rfl⟩ := List.getElem?_eq_some_iff.mp e1
      exact step i hl δ1 hI) (fun δ' h => hd δ' (by unfold enD at h; rw [List.length_mapIdx, List.length_map] at h; exact h)) hs
/-- for i in range(lo, lo + n) -/
theorem es_forR {n : Nat} {lo : Int} (hp : PassesOwn (model X.prog X.w) X.A X.env X.xe) (hc : X.calm = true) (I : Nat → En → Prop) (hi : Ei X tg iter δ fun r δ1 => r = ((List.range n).map fun (i : Nat) => D.int (lo + i)) ∧ I 0 δ1)
    (step : ∀ i, i < n → ∀ δ1, I i δ1 → Eg X tg (.fz (.int (lo + i))) δ1 fun δ2 => Eb X bd δ2 { P with nx := I (i + 1), ct := I (i + 1), bk := P.nx }) (hd : ∀ δ', I n δ' → P.nx δ') (hs : ∀ x, foldedSetIterable iter X.env x = pure x := by intro _; rfl) : Es X (.For tg iter bd [] pos) δ P :=
  es_forM (xs := List.range n) (g := fun (i : Nat) => D.int (lo + i)) hp hc I hi (fun i h δ1 hI => by
    rw [List.getElem_range]
    exact step i (by simpa using h) δ1 hI) (fun δ' h => hd δ' (by rw [List.length_range] at h; exact h)) hs
/-- xs[::-1] -/
theorem ed_rev {ds : List D} {k : Nat} {p1 p2 p3 : Pos} (h : Ed X e δ (.fz (.lst ds))) : Ed X (.Subscript e (.Slice none none (some (.UnaryOp .USub (.Constant (.int 1) k p1) p2)) p3) pos) δ (.fz (.lst ds.reverse)) := fun G H σ s =>
  wE_of (pe_revL wE_pe) ((h G H σ s).imp fun v H1 ⟨x, G1, d1, s1, e1, e2⟩ => by
    subst e1
    subst e2
    have r := top_fz s1.st rfl
    unfold Rep at r
    obtain ⟨a, ws, rfl, g, rs⟩ := r
    refine ⟨a, ws, rfl, .of (s1.st.ex _ _ g), fun q n => new_lst (W := fun d => d = .lst ds.reverse) s1.st.ex (ds := ds.reverse) (Reps.rev rs) rfl n fun d v G' H' w g1 g2 g3 g4 r => ?_⟩
    subst w
    exact ⟨_, G', _, (s1.pop.grow g1 g2 g3 g4).pushF r, rfl, rfl⟩)
end
end Vl

namespace Vl
open PySem PySem.Spec PyProof.Rows L2
section
variable {X Y : Cx} {e a b c tg iter elt : Expr} {es ts ifs : List Expr} {δ : En} {pos p p2 p3 : Pos} {x y : Str} {scope : Scope} {S : OD → Prop}
theorem blk_loc (h : scope.names.lookup x = some .local) (hY : Blk X scope Y) : Y.env.scope.names.lookup x = some .local := by
  obtain ⟨s, H, C, cl, fp, rfl⟩ := hY
  exact lookup_relabel_local h
theorem blk_N (hY : Blk X scope Y) : Y.N = X.N := by
  obtain ⟨s, H, C, cl, fp, rfl⟩ := hY
  rfl
theorem blk_calm (hY : Blk X scope Y) (h : X.calm = true) : Y.calm = true := by
  obtain ⟨s, H, C, cl, fp, rfl⟩ := hY
  exact h
/-- the slots in a block behind its target -/
def bk1 (δ : En) (i : Nat) (d : D) : En := (wipeE δ [i]).set i (some (.fz d))
def bk2 (δ : En) (i j : Nat) (d1 d2 : D) : En := ((wipeE δ [i, j]).set i (some (.fz d1))).set j (some (.fz d2))
theorem wipeE_set {δ : En} {vs : List Nat} {i : Nat} {v : Option OD} (h : i ∈ vs) : wipeE (δ.set i v) vs = wipeE δ vs := by
  apply List.ext_getElem?
  intro j
  rw [wipeE_get, wipeE_get, List.length_set]
  by_cases e : j ∈ vs ∧ j < δ.length
  · rw [if_pos e, if_pos e]
  · rw [if_neg e, if_neg e]
    by_cases z : i = j
    · subst z
      have : ¬ i < δ.length := fun q => e ⟨h, q⟩
      rw [List.getElem?_eq_none (by rw [List.length_set]; omega), List.getElem?_eq_none (by omega)]
    · rw [List.getElem?_set_ne z]
theorem wipeE_wipe {δ : En} {vs : List Nat} : wipeE (wipeE δ vs) vs = wipeE δ vs := by
  apply List.ext_getElem?
  intro j
  simp only [wipeE_get, wipeE_length]
  by_cases z : j ∈ vs ∧ j < δ.length
  · simp only [if_pos z]
  · simp only [if_neg z]
theorem bk1_wipe {i : Nat} {d : D} : wipeE (bk1 δ i d) [i] = wipeE δ [i] := by
  unfold bk1
  rw [wipeE_set (by simp), wipeE_wipe]
theorem bk2_wipe {i j : Nat} {d1 d2 : D} : wipeE (bk2 δ i j d1 d2) [i, j] = wipeE δ [i, j] := by
  unfold bk2
  rw [wipeE_set (by simp), wipeE_set (by simp), wipeE_wipe]
theorem bk1_get (i : Nat) {d : D} (hY : Blk X scope Y) (hN : X.N.Nodup) (hi : X.N[i]? = some x) (hl : i < δ.length) (hx : scope.names.lookup x = some .local) : Egb Y (.Name x p) [i] d (wipeE δ [i]) fun δ2 => δ2 = bk1 δ i d :=
  egb_name i (by rw [blk_N hY]; exact hN) (by rw [blk_N hY]; exact hi) (.inl (blk_loc hx hY)) (by rw [wipeE_length]; exact hl) (by simp) rfl (.inr (blk_loc hx hY))
theorem bk2_get (i j : Nat) {kk : Nat} {px py : Pos} {d1 d2 : D} (hc : X.calm = true) (hY : Blk X scope Y) (hN : X.N.Nodup) (hi : X.N[i]? = some x) (hj : X.N[j]? = some y) (hl : i < δ.length) (hl2 : j < δ.length) (hx : scope.names.lookup x = some .local) (hy : scope.names.lookup y = some .local) :
    Egb Y (.Tuple [.Name x px, .Name y py] kk p) [i, j] (.tup [d1, d2]) (wipeE δ [i, j]) fun δ2 => δ2 = bk2 δ i j d1 d2 := by
  refine egb_tup (blk_calm hY hc) (egbs_cons (egb_name i (by rw [blk_N hY]; exact hN) (by rw [blk_N hY]; exact hi) (.inl (blk_loc hx hY)) (by rw [wipeE_length]; exact hl) (by simp) ?_ (.inr (blk_loc hx hY)))) rfl
  exact egbs_cons (egb_name j (by rw [blk_N hY]; exact hN) (by rw [blk_N hY]; exact hj) (.inl (blk_loc hy hY)) (by rw [List.length_set, wipeE_length]; exact hl2) (by simp) (egbs_nil rfl) (.inr (blk_loc hy hY)))
variable {α : Type} {xs : List α} {g h : α → D} {t : α → Bool}
/-- [elt for x in iter] -/
theorem ed_lcN (i : Nat) (hc : X.calm = true) (hN : X.N.Nodup) (ok : BlkOk X.N X.env.scope scope [(x, i)]) (hl : i < δ.length) (hx : scope.names.lookup x = some .local) (hi : Ei X (.Name x p) iter δ fun r δ1 => r = xs.map g ∧ δ1 = δ) (hz : xs.length ≤ 100000) (hw : feet (wipeE δ [i]) = feet δ)
    (step : ∀ z ∈ xs, ∀ Y, Blk X scope Y → Ed Y elt (bk1 δ i (g z)) (.fz (h z)))
    (hs : ∀ x, foldedSetIterable iter X.env x = pure x := by intro _; rfl) : Ed X (.ListComp elt [⟨.Name x p, iter, [], 0⟩] scope pos) δ (.fz (.lst (xs.map h))) :=
  ed_lcM (own := [(x, i)]) hc hN ok hi hz hw (fun z hz => ⟨_, bk1_wipe, fun Y hY => bk1_get i hY hN (ok.ix (x, i) (by simp)) hl hx, step z hz⟩) hs
/-- [elt for x in iter if test] -/
theorem ed_lcNF (i : Nat) (hc : X.calm = true) (hN : X.N.Nodup) (ok : BlkOk X.N X.env.scope scope [(x, i)]) (hl : i < δ.length) (hx : scope.names.lookup x = some .local) (hi : Ei X (.Name x p) iter δ fun r δ1 => r = xs.map g ∧ δ1 = δ) (hz : xs.length ≤ 100000) (hw : feet (wipeE δ [i]) = feet δ)
    (test : ∀ z ∈ xs, ∀ Y, Blk X scope Y → Edt Y c (bk1 δ i (g z)) (t z)) (step : ∀ z ∈ xs, t z = true → ∀ Y, Blk X scope Y → Ed Y elt (bk1 δ i (g z)) (.fz (h z)))
    (hs : ∀ x, foldedSetIterable iter X.env x = pure x := by intro _; rfl) : Ed X (.ListComp elt [⟨.Name x p, iter, [c], 0⟩] scope pos) δ (.fz (.lst ((xs.filter t).map h))) :=
  ed_lcF (own := [(x, i)]) hc hN ok hi hz hw (fun z hz => ⟨_, bk1_wipe, fun Y hY => bk1_get i hY hN (ok.ix (x, i) (by simp)) hl hx, fun Y hY => ets_one (test z hz Y hY), step z hz⟩) hs
variable {g1 g2 : α → D}
/-- [elt for x, y in iter] -/
theorem ed_lcP (i j : Nat) {kk : Nat} {px py : Pos} (hc : X.calm = true) (hN : X.N.Nodup) (ok : BlkOk X.N X.env.scope scope [(x, i), (y, j)]) (hl : i < δ.length) (hl2 : j < δ.length) (hx : scope.names.lookup x = some .local) (hy : scope.names.lookup y = some .local)
    (hi : Ei X (.Tuple [.Name x px, .Name y py] kk p) iter δ fun r δ1 => r = xs.map (fun z => .tup [g1 z, g2 z]) ∧ δ1 = δ) (hz : xs.length ≤ 100000) (hw : feet (wipeE δ [i, j]) = feet δ)
    (step : ∀ z ∈ xs, ∀ Y, Blk X scope Y → Ed Y elt (bk2 δ i j (g1 z) (g2 z)) (.fz (h z)))
    (hs : ∀ x, foldedSetIterable iter X.env x = pure x := by intro _; rfl) : Ed X (.ListComp elt [⟨.Tuple [.Name x px, .Name y py] kk p, iter, [], 0⟩] scope pos) δ (.fz (.lst (xs.map h))) :=
  ed_lcM (own := [(x, i), (y, j)]) hc hN ok hi hz hw (fun z hz => ⟨_, bk2_wipe, fun Y hY => bk2_get i j hc hY hN (ok.ix (x, i) (by simp)) (ok.ix (y, j) (by simp)) hl hl2 hx hy, step z hz⟩) hs
theorem ed_lcPF (i j : Nat) {kk : Nat} {px py : Pos} (hc : X.calm = true) (hN : X.N.Nodup) (ok : BlkOk X.N X.env.scope scope [(x, i), (y, j)]) (hl : i < δ.length) (hl2 : j < δ.length) (hx : scope.names.lookup x = some .local) (hy : scope.names.lookup y = some .local)
    (hi : Ei X (.Tuple [.Name x px, .Name y py] kk p) iter δ fun r δ1 => r = xs.map (fun z => .tup [g1 z, g2 z]) ∧ δ1 = δ) (hz : xs.length ≤ 100000) (hw : feet (wipeE δ [i, j]) = feet δ)
    (test : ∀ z ∈ xs, ∀ Y, Blk X scope Y → Edt Y c (bk2 δ i j (g1 z) (g2 z)) (t z)) (step : ∀ z ∈ xs, t z = true → ∀ Y, Blk X scope Y → Ed Y elt (bk2 δ i j (g1 z) (g2 z)) (.fz (h z)))
    (hs : ∀ x, foldedSetIterable iter X.env x = pure x := by intro _; rfl) : Ed X (.ListComp elt [⟨.Tuple [.Name x px, .Name y py] kk p, iter, [c], 0⟩] scope pos) δ (.fz (.lst ((xs.filter t).map h))) :=
  ed_lcF (own := [(x, i), (y, j)]) hc hN ok hi hz hw (fun z hz => ⟨_, bk2_wipe, fun Y hY => bk2_get i j hc hY hN (ok.ix (x, i) (by simp)) (ok.ix (y, j) (by simp)) hl hl2 hx hy, fun Y hY => ets_one (test z hz Y hY), step z hz⟩) hs
end
end Vl

namespace Vl
open PySem PySem.Spec PyProof.Rows L2
def cut {α : Type} (xs : List α) (lo hi : Option Int) : List α := (xs.drop (HT.sIx xs.length 0 lo)).take (HT.sIx xs.length xs.length hi - HT.sIx xs.length 0 lo)
theorem cutD_map {α : Type} {f : α → D} {xs : List α} {lo hi : Option Int} : cutD (xs.map f) lo hi = (cut xs lo hi).map f := by
  unfold cutD cut
  rw [List.length_map, List.map_take, List.map_drop]
theorem zipD_map {α β : Type} {f : α → D} {g : β → D} {as : List α} {bs : List β} : List.zipWith (fun d c => D.tup [d, c]) (as.map f) (bs.map g) = (as.zip bs).map fun z => .tup [f z.1, g z.2] := by
  rw [List.zipWith_map, List.zip, List.map_zipWith]
section
variable {X : Cx} {S : OD → Prop} {l u : Option Int}
theorem sl_I {ns : List Int} (q : S (.fz (LI (cut ns l u)))) : SlD X (.fz (LI ns)) l u S := sl_L (by
  rw [cutD_map]
  exact q)
theorem sl_LL {ns : List (List Int)} (q : S (.fz (LL (cut ns l u)))) : SlD X (.fz (LL ns)) l u S := sl_L (by
  rw [cutD_map]
  exact q)
end
theorem cut_from {α : Type} {xs : List α} (i : Nat) : cut xs (some (i : Int)) none = xs.drop i := by
  unfold cut
  rw [HT.sIx_nat, HT.sIx_none]
  by_cases h : i ≤ xs.length
  · rw [Nat.min_eq_left h, List.take_of_length_le (by rw [List.length_drop]; omega)]
  · rw [Nat.min_eq_right (by omega), List.drop_length, List.drop_eq_nil_of_le (by omega), List.take_nil]
theorem cut_to {α : Type} {xs : List α} (i : Nat) : cut xs none (some (i : Int)) = xs.take i := by
  unfold cut
  rw [HT.sIx_nat, HT.sIx_none, Nat.sub_zero, List.drop_zero]
  by_cases h : i ≤ xs.length
  · rw [Nat.min_eq_left h]
  · rw [Nat.min_eq_right (by omega), List.take_length, List.take_of_length_le (by omega)]
theorem cut_all {α : Type} {xs : List α} : cut xs none none = xs := by
  unfold cut
  rw [HT.sIx_none, HT.sIx_none, Nat.sub_zero, List.drop_zero, List.take_length]
end Vl

namespace Vl
open PySem PySem.Spec PyProof.Rows L2
section
variable {K : PySem.W.Frag} {G H G' H' : Hp} {σ σ' : L2.St} {δ δ' : En} {i n : Nat} {x x' y z : OD} {u v : V} {l a : Addr} {o : HO} {xs ys : List OD}
theorem feet_set_nd2 : ∀ {δ : En} {i : Nat}, (feet δ).Nodup → δ[i]? = some (some x) → (foot x').Nodup → (∀ b ∈ foot x', b ∈ foot x ∨ b ∉ feet δ) → (feet (δ.set i (some x'))).Nodup
  | [], _, _, h, _, _ => by simp at h
  | w :: r, 0, nd, h, n', k => by
    simp at h
    subst h
    rw [List.set_cons_zero]
    unfold feet at nd k ⊢
    obtain ⟨n1, n2, n3⟩ := List.nodup_append.mp nd
    refine List.nodup_append.mpr ⟨n', n2, fun b hb c hc e => ?_⟩
    subst e
    rcases k b hb with q | q
    · exact n3 b q b hc rfl
    · exact q (List.mem_append_right _ hc)
  | none :: r, i + 1, nd, h, n', k => by
    rw [List.set_cons_succ]
    unfold feet at nd k ⊢
    exact feet_set_nd2 nd (by simpa using h) n' k
  | some w :: r, i + 1, nd, h, n', k => by
    rw [List.set_cons_succ]
    unfold feet at nd k ⊢
    obtain ⟨n1, n2, n3⟩ := List.nodup_append.mp nd
    have h : r[i]? = some (some x) := by simpa using h
    refine List.nodup_append.mpr ⟨n1, feet_set_nd2 n2 h n' fun b hb => (k b hb).imp id fun q w => q (List.mem_append_right _ w), fun b hb c hc e => ?_⟩
    subst e
    rcases feet_set_mem b hc with q | q
    · rcases k b q with w | w
      · exact n3 b hb b (foot_in_feet h b w) rfl
      · exact w (List.mem_append_left _ hb)
    · exact n3 b hb b q rfl
theorem foot_nd : ∀ {δ : En} {i : Nat}, (feet δ).Nodup → δ[i]? = some (some x) → (foot x).Nodup
  | [], _, _, h => by simp at h
  | w :: r, 0, nd, h => by
    simp at h
    subst h
    unfold feet at nd
    exact (List.nodup_append.mp nd).1
  | none :: r, i + 1, nd, h => by
    unfold feet at nd
    exact foot_nd nd (by simpa using h)
  | some w :: r, i + 1, nd, h => by
    unfold feet at nd
    exact foot_nd (List.nodup_append.mp nd).2.1 (by simpa using h)
theorem slot_apart {j : Nat} (nd : (feet δ).Nodup) (h1 : δ[i]? = some (some x)) (h2 : δ[j]? = some (some y)) (hij : j ≠ i) : ∀ b ∈ foot x, b ∉ foot y := fun b hb hc => hij (one_slot nd h2 h1 hc hb)
/-- an own object of slot i is written, a waiting value may go into it -/
theorem Step.put (s : Stt K G H (some v :: σ) (some z :: δ)) (hx : δ[i]? = some (some x)) (hu : σ[i]? = some (some u)) (hl : l ∈ foot x) (n' : (foot x').Nodup) (k : ∀ b ∈ foot x', b ∈ foot x ∨ b ∈ foot z) (r : RepO K G (upd H l o) x' u) :
    Step K G H (some z :: δ) G (upd H l o) σ (δ.set i (some x')) := by
  have hi : i < δ.length := (List.getElem?_eq_some_iff.mp hx).1
  have nd := s.nd
  unfold feet at nd
  obtain ⟨n1, n2, n3⟩ := List.nodup_append.mp nd
  have lin : l ∈ feet δ := foot_in_feet hx l hl
  have memS : ∀ b ∈ feet (δ.set i (some x')), b ∈ feet (some z :: δ) := fun b hb => by
    unfold feet
    rcases feet_set_mem b hb with q | q
    · rcases k b q with w | w
      · exact List.mem_append_right _ (foot_in_feet hx b w)
      · exact List.mem_append_left _ w
    · exact List.mem_append_right _ q
  have lin2 : l ∈ feet (some z :: δ) := by unfold feet; exact List.mem_append_right _ lin
  refine ⟨⟨fun b q e => ?_, by rw [List.length_set]; exact s.pop.len, fun j y hy => ?_, ?_, fun b hb => ?_⟩, ⟨Same.refl _, fun b q hb e => ?_, fun b h => .inl h, fun b h => ?_⟩, fun b hb => .inl (memS b hb)⟩
  · rw [upd_ne (fun w => by rw [w, (s.pop.off l lin).1] at e; cases e)]
    exact s.ex b q e
  · by_cases e : j = i
    · subst e
      rw [List.getElem?_set_self hi] at hy
      cases hy
      exact ⟨u, hu, r⟩
    · rw [List.getElem?_set_ne (Ne.symm e)] at hy
      obtain ⟨w, e1, r1⟩ := s.pop.rep j y hy
      refine ⟨w, e1, RepO.mono (Same.refl _) y w (fun b hb q hq => ?_) r1⟩
      rw [upd_ne (fun w => by subst w; exact slot_apart n2 hx hy e _ hl hb)]
      exact hq
  · exact feet_set_nd2 n2 hx n' fun b hb => (k b hb).imp id fun q w => n3 b q b w rfl
  · have q := s.off b (memS b hb)
    refine ⟨q.1, ?_⟩
    by_cases w : b = l
    · subst w; rw [upd_same]; simp
    · rw [upd_ne w]; exact q.2
  · rw [upd_ne (fun w => hb (by rw [w]; exact lin2))]
    exact e
  · by_cases w : b = l
    · subst w; rw [upd_same]; simp
    · rw [upd_ne w]; exact h
theorem RepOs.length : ∀ {xs : List OD} {vs : List V}, RepOs K G H xs vs → vs.length = xs.length
  | [], _, h => by unfold RepOs at h; subst h; rfl
  | d :: ds, vs, h => by
    unfold RepOs at h
    obtain ⟨v, r, e1, _, h2⟩ := h
    rw [e1, List.length_cons, List.length_cons, RepOs.length h2]
theorem RepOs.app : ∀ {xs : List OD} {vs : List V}, RepOs K G H xs vs → RepO K G H z v → RepOs K G H (xs ++ [z]) (vs ++ [v])
  | [], vs, h, r => by
    unfold RepOs at h
    subst h
    show RepOs K G H [z] [v]
    unfold RepOs
    exact ⟨v, [], rfl, r, by unfold RepOs; rfl⟩
  | d :: ds, vs, h, r => by
    unfold RepOs at h
    obtain ⟨w, q, rfl, h1, h2⟩ := h
    show RepOs K G H (d :: (ds ++ [z])) (w :: (q ++ [v]))
    unfold RepOs
    exact ⟨w, _, rfl, h1, RepOs.app h2 r⟩
theorem RepOs.at : ∀ {xs : List OD} {vs : List V} {n : Nat} {y : OD}, RepOs K G H xs vs → xs[n]? = some y → ∃ w, vs[n]? = some w ∧ RepO K G H y w
  | [], _, _, _, _, e => by simp at e
  | d :: ds, vs, n, y, h, e => by
    unfold RepOs at h
    obtain ⟨v, r, rfl, h1, h2⟩ := h
    cases n with
    | zero => simp at e; subst e; exact ⟨v, rfl, h1⟩
    | succ n => simpa using RepOs.at (n := n) h2 (by simpa using e)
/-- one item anew, the others as they stand -/
theorem RepOs.set : ∀ {xs : List OD} {vs : List V} {n : Nat}, RepOs K G H xs vs → (∀ (j : Nat) (y : OD), xs[j]? = some y → j ≠ n → ∀ b ∈ foot y, ∀ q, H b = some q → H' b = some q) → (n < xs.length → RepO K G H' z v) → RepOs K G H' (xs.set n z) (vs.set n v)
  | [], vs, n, h, k, r => by
    unfold RepOs at h
    subst h
    simp only [List.set_nil]
    unfold RepOs
    rfl
  | d :: ds, vs, n, h, k, r => by
    unfold RepOs at h
    obtain ⟨w, q, rfl, h1, h2⟩ := h
    cases n with
    | zero =>
      rw [List.set_cons_zero, List.set_cons_zero]
      unfold RepOs
      refine ⟨v, q, rfl, r (by simp), RepOs.mono (Same.refl _) ds q (fun b hb => ?_) h2⟩
      obtain ⟨y, hy, hby⟩ := foots_find hb
      obtain ⟨j, hj⟩ := List.getElem?_of_mem hy
      exact k (j + 1) y (by simpa using hj) (by simp) b hby
    | succ n =>
      rw [List.set_cons_succ, List.set_cons_succ]
      unfold RepOs
      refine ⟨w, _, rfl, RepO.mono (Same.refl _) d w (fun b hb => k 0 d rfl (by simp) b hb) h1, RepOs.set h2 (fun j y hj hn => k (j + 1) y (by simpa using hj) (by simpa using hn)) fun hl => r (by simpa using hl)⟩
theorem foots_cons : foots (x :: xs) = foot x ++ foots xs := by rw [foots]
theorem foots_append : ∀ {xs ys : List OD}, foots (xs ++ ys) = foots xs ++ foots ys
  | [], ys => by rw [show foots [] = [] from by unfold foots; rfl, List.nil_append, List.nil_append]
  | x :: xs, ys => by
    show foots (x :: (xs ++ ys)) = foots (x :: xs) ++ foots ys
    rw [foots_cons, foots_cons, foots_append, List.append_assoc]
theorem foots_one : foots [z] = foot z := by
  show foots (z :: []) = foot z
  unfold foots
  rw [show foots [] = [] by unfold foots; rfl, List.append_nil]
theorem foots_set : ∀ {xs : List OD} {n : Nat}, xs[n]? = some y → foot z = foot y → foots (xs.set n z) = foots xs
  | [], _, h, _ => by simp at h
  | x :: xs, 0, h, e => by
    simp at h
    subst h
    rw [List.set_cons_zero]
    unfold foots
    rw [e]
  | x :: xs, n + 1, h, e => by
    rw [List.set_cons_succ]
    unfold foots
    rw [foots_set (by simpa using h) e]
theorem foots_apart : ∀ {xs : List OD} {n j : Nat} {y w : OD}, (foots xs).Nodup → xs[n]? = some y → xs[j]? = some w → j ≠ n → ∀ b ∈ foot y, b ∉ foot w
  | [], _, _, _, _, _, h, _, _ => by simp at h
  | x :: xs, n, j, y, w, nd, h1, h2, hn => by
    unfold foots at nd
    obtain ⟨n1, n2, n3⟩ := List.nodup_append.mp nd
    intro b hb hc
    cases n with
    | zero =>
      cases j with
      | zero => exact hn rfl
      | succ j =>
        simp at h1 h2
        subst h1
        exact n3 b hb b (foots_mem (List.mem_of_getElem? h2) hc) rfl
    | succ n =>
      cases j with
      | zero =>
        simp at h1 h2
        subst h2
        exact n3 b hc b (foots_mem (List.mem_of_getElem? h1) hb) rfl
      | succ j => exact foots_apart n2 (by simpa using h1) (by simpa using h2) (by simpa using hn) b hb hc
/-- what stands in a slot goes out of it -/
theorem Stt.mov (s : Stt K G H σ δ) (hx : δ[i]? = some (some x)) : ∃ u, σ[i]? = some (some u) ∧ Step K G H δ G H (some u :: σ) (some x :: δ.set i none) := by
  obtain ⟨u, hu, r⟩ := s.rep i x hx
  have sub : List.Sublist (feet (δ.set i none)) (feet δ) := feet_none_sub
  have apart : ∀ b ∈ foot x, b ∉ feet (δ.set i none) := fun b hb hc => by
    obtain ⟨j, y, h1, h2⟩ := slot_of hc
    by_cases e : i = j
    · subst e
      rw [List.getElem?_set_self (List.getElem?_eq_some_iff.mp hx).1] at h1
      cases h1
    · rw [List.getElem?_set_ne e] at h1
      exact e (one_slot s.nd hx h1 hb h2)
  have t : Stt K G H σ (δ.set i none) := ⟨s.ex, by rw [List.length_set]; exact s.len, fun j y hy => by
    by_cases e : i = j
    · subst e
      rw [List.getElem?_set_self (List.getElem?_eq_some_iff.mp hx).1] at hy
      cases hy
    · rw [List.getElem?_set_ne e] at hy
      exact s.rep j y hy, s.nd.sublist sub, fun b hb => s.off b (sub.subset hb)⟩
  refine ⟨u, hu, t.push r (foot_nd s.nd hx) fun b hb => ⟨(s.off b (foot_in_feet hx b hb)).1, (s.off b (foot_in_feet hx b hb)).2, apart b hb⟩, Grow.refl, fun b hb => .inl ?_⟩
  unfold feet at hb
  rcases List.mem_append.mp hb with q | q
  · exact foot_in_feet hx b q
  · exact sub.subset q
theorem set_self {α : Type} {xs : List α} {i : Nat} {a : α} (h : xs[i]? = some a) : xs.set i a = xs := by
  apply List.ext_getElem?
  intro j
  by_cases e : i = j
  · subst e
    rw [List.getElem?_set_self (List.getElem?_eq_some_iff.mp h).1, h]
  · rw [List.getElem?_set_ne e]
/-- frozen where it stands -/
theorem Stt.frzAt (s : Stt K G H σ δ) (hx : δ[i]? = some (some x)) : ∃ G', Step K G H δ G' H σ (δ.set i (some (.fz (dat x)))) := by
  obtain ⟨u, hu, t⟩ := s.mov hx
  obtain ⟨G', t'⟩ := t.frost
  have hi := (List.getElem?_eq_some_iff.mp hx).1
  have q := t'.set (i := i) (by rw [List.length_set]; exact hi)
  rw [List.set_set, set_self hu] at q
  exact ⟨G', q⟩
end
section
variable {X : Cx} {e : Expr} {st : Stmt} {sts : List Stmt} {δ : En} {Q : OD → En → Prop} {R : Bool → En → Prop} {P : DE} {pos : Pos} {nm : Str} {i : Nat} {x : OD}
/-- the slot's own object goes out -/
theorem ev_mov (i : Nat) (hN : X.N[i]? = some nm) (hv : Vis X.env.scope nm) (hx : δ[i]? = some (some x)) (q : Q x (δ.set i none)) (hd : (nm == ("__debug__" : Str)) = false := by decide) (hcd : (nm == ("__classdict__" : Str)) = false := by decide) : Ev X (.Name nm pos) δ Q := fun G H σ s => by
  obtain ⟨u, hu, t⟩ := s.mov hx
  exact wE_of (pe_var hN hv hd hcd) ⟨u, hu, x, G, _, t, q⟩
theorem eb_frz (i : Nat) (hx : δ[i]? = some (some x)) (h : Eb X sts (δ.set i (some (.fz (dat x)))) P) : Eb X sts δ P := fun G H σ s => by
  obtain ⟨G1, t⟩ := s.frzAt hx
  exact (h G1 H σ t.st).imp (DE.le t (fun _ z => z) (fun _ _ z => z) (fun _ z => z) fun _ z => z)
theorem es_frz (i : Nat) (hx : δ[i]? = some (some x)) (h : Es X st (δ.set i (some (.fz (dat x)))) P) : Es X st δ P := fun G H σ s => by
  obtain ⟨G1, t⟩ := s.frzAt hx
  exact (h G1 H σ t.st).imp (DE.le t (fun _ z => z) (fun _ _ z => z) (fun _ z => z) fun _ z => z)
theorem ev_frzAt (i : Nat) (hx : δ[i]? = some (some x)) (h : Ev X e (δ.set i (some (.fz (dat x)))) Q) : Ev X e δ Q := fun G H σ s => by
  obtain ⟨G1, t⟩ := s.frzAt hx
  exact (h G1 H σ t.st).imp fun v H1 z => Post.back t z
end
end Vl

namespace Vl
open PySem PySem.Spec PyProof.Rows L2
/-! ### a place in an own object -/
inductive At : OD → Addr → List OD → (List OD → OD) → Prop
  | top {l : Addr} {ys : List OD} : At (.own l ys) l ys (fun zs => .own l zs)
  | into {a : Addr} {xs : List OD} {n : Nat} {y : OD} {l : Addr} {ys : List OD} {f : List OD → OD} (h : xs[n]? = some y) (r : At y l ys f) : At (.own a xs) l ys (fun zs => .own a (xs.set n (f zs)))
theorem foot_own {a : Addr} {xs : List OD} : foot (.own a xs) = a :: foots xs := by rw [foot]
section
variable {K : PySem.W.Frag} {G H G' H' : Hp} {σ : L2.St} {δ : En} {i : Nat} {x z : OD} {u v : V} {l : Addr} {ys zs : List OD} {f : List OD → OD}
theorem foots_set_mem : ∀ {xs : List OD} {n : Nat} {z : OD}, ∀ b ∈ foots (xs.set n z), b ∈ foot z ∨ b ∈ foots xs
  | [], _, _ => fun b h => .inr (by simpa using h)
  | x :: xs, 0, z => fun b h => by
    rw [List.set_cons_zero, foots_cons] at h
    rw [foots_cons]
    rcases List.mem_append.mp h with h | h
    · exact .inl h
    · exact .inr (List.mem_append_right _ h)
  | x :: xs, n + 1, z => fun b h => by
    rw [List.set_cons_succ, foots_cons] at h
    rw [foots_cons]
    rcases List.mem_append.mp h with h | h
    · exact .inr (List.mem_append_left _ h)
    · rcases foots_set_mem b h with h | h
      · exact .inl h
      · exact .inr (List.mem_append_right _ h)
theorem foots_set_nd : ∀ {xs : List OD} {n : Nat} {y z : OD}, (foots xs).Nodup → xs[n]? = some y → (foot z).Nodup → (∀ b ∈ foot z, b ∈ foot y ∨ b ∉ foots xs) → (foots (xs.set n z)).Nodup
  | [], _, _, _, _, h, _, _ => by simp at h
  | w :: r, 0, y, z, nd, h, n', k => by
    simp at h
    subst h
    rw [List.set_cons_zero]
    rw [foots_cons] at nd k ⊢
    obtain ⟨n1, n2, n3⟩ := List.nodup_append.mp nd
    refine List.nodup_append.mpr ⟨n', n2, fun b hb c hc e => ?_⟩
    subst e
    rcases k b hb with q | q
    · exact n3 b q b hc rfl
    · exact q (List.mem_append_right _ hc)
  | w :: r, n + 1, y, z, nd, h, n', k => by
    rw [List.set_cons_succ]
    rw [foots_cons] at nd k ⊢
    obtain ⟨n1, n2, n3⟩ := List.nodup_append.mp nd
    have h : r[n]? = some y := by simpa using h
    refine List.nodup_append.mpr ⟨n1, foots_set_nd n2 h n' fun b hb => (k b hb).imp id fun q w => q (List.mem_append_right _ w), fun b hb c hc e => ?_⟩
    subst e
    rcases foots_set_mem b hc with q | q
    · rcases k b q with w | w
      · exact n3 b hb b (foots_mem (List.mem_of_getElem? h) w) rfl
      · exact w (List.mem_append_left _ hb)
    · exact n3 b hb b q rfl
theorem foots_get_nd : ∀ {xs : List OD} {n : Nat} {y : OD}, (foots xs).Nodup → xs[n]? = some y → (foot y).Nodup
  | [], _, _, _, h => by simp at h
  | w :: r, 0, y, nd, h => by
    simp at h
    subst h
    rw [foots_cons] at nd
    exact (List.nodup_append.mp nd).1
  | w :: r, n + 1, y, nd, h => by
    rw [foots_cons] at nd
    exact foots_get_nd (List.nodup_append.mp nd).2.1 (by simpa using h)
theorem At.sub (a : At x l ys f) : l ∈ foot x ∧ ∀ b ∈ foots ys, b ∈ foot x := by
  induction a with
  | top => rw [foot_own]; exact ⟨List.mem_cons_self, fun b hb => List.mem_cons_of_mem _ hb⟩
  | into h r ih =>
    rw [foot_own]
    exact ⟨List.mem_cons_of_mem _ (foots_mem (List.mem_of_getElem? h) ih.1), fun b hb => List.mem_cons_of_mem _ (foots_mem (List.mem_of_getElem? h) (ih.2 b hb))⟩
theorem At.lys (a : At x l ys f) (nd : (foot x).Nodup) : (foots ys).Nodup ∧ l ∉ foots ys := by
  induction a with
  | top => rw [foot_own] at nd; exact ⟨(List.nodup_cons.mp nd).2, (List.nodup_cons.mp nd).1⟩
  | into h r ih =>
    rw [foot_own] at nd
    have n2 := (List.nodup_cons.mp nd).2
    exact ih (foots_get_nd n2 h)
theorem At.mem (a : At x l ys f) (k : ∀ b ∈ foots zs, b ∈ foots ys ∨ b ∈ foot z) : ∀ b ∈ foot (f zs), b ∈ foot x ∨ b ∈ foot z := by
  induction a with
  | top =>
    intro b hb
    rw [foot_own] at hb ⊢
    rcases List.mem_cons.mp hb with q | q
    · exact .inl (q ▸ List.mem_cons_self)
    · exact (k b q).imp (fun w => List.mem_cons_of_mem _ w) id
  | into h r ih =>
    intro b hb
    rw [foot_own] at hb ⊢
    rcases List.mem_cons.mp hb with q | q
    · exact .inl (q ▸ List.mem_cons_self)
    · rcases foots_set_mem b q with w | w
      · exact (ih k b w).imp (fun w => List.mem_cons_of_mem _ (foots_mem (List.mem_of_getElem? h) w)) id
      · exact .inl (List.mem_cons_of_mem _ w)
theorem At.nd (a : At x l ys f) (nd : (foot x).Nodup) (n' : (foots zs).Nodup) (k : ∀ b ∈ foots zs, b ∈ foots ys ∨ b ∉ foot x) : (foot (f zs)).Nodup := by
  induction a with
  | top =>
    rw [foot_own] at nd k ⊢
    refine List.nodup_cons.mpr ⟨fun h => ?_, n'⟩
    rcases k _ h with q | q
    · exact (List.nodup_cons.mp nd).1 q
    · exact q List.mem_cons_self
  | into h r ih =>
    rw [foot_own] at nd k ⊢
    obtain ⟨n1, n2⟩ := List.nodup_cons.mp nd
    have sub := fun b hb => foots_mem (a := b) (List.mem_of_getElem? h) hb
    rename_i a xs n y l' ys' f'
    have ndy : (foot y).Nodup := foots_get_nd n2 h
    have mem : ∀ b ∈ foot (f' zs), b ∈ foot y ∨ b ∉ a :: foots xs := fun b hb => by
      rcases Classical.em (b ∈ foot y) with q | q
      · exact .inl q
      · rcases r.mem (z := .own 0 zs) (zs := zs) (fun c hc => .inr (by rw [foot_own]; exact List.mem_cons_of_mem _ hc)) b hb with w | w
        · exact .inl w
        · exact .inr fun w' => by
            have hbz : b ∈ foots zs := by
              have key : ∀ {x : OD} {l : Addr} {ys : List OD} {f : List OD → OD}, At x l ys f → b ∈ foot (f zs) → b ∈ foot x ∨ b ∈ foots zs := by
                intro x l ys f at1
                induction at1 with
                | top =>
                  intro hb
                  rw [foot_own] at hb ⊢
                  rcases List.mem_cons.mp hb with q | q
                  · exact .inl (q ▸ List.mem_cons_self)
                  · exact .inr q
                | into h r ih =>
                  intro hb
                  rw [foot_own] at hb ⊢
                  rcases List.mem_cons.mp hb with q | q
                  · exact .inl (q ▸ List.mem_cons_self)
                  · rcases foots_set_mem b q with w | w
                    · exact (ih w).imp (fun w => List.mem_cons_of_mem _ (foots_mem (List.mem_of_getElem? h) w)) id
                    · exact .inl (List.mem_cons_of_mem _ w)
              exact (key r hb).resolve_left q
            rcases k b hbz with p | p
            · exact q (r.sub.2 b p)
            · exact p w'
    refine List.nodup_cons.mpr ⟨fun hb => ?_, foots_set_nd n2 h (ih ndy fun b hb => (k b hb).imp id fun q w => q (List.mem_cons_of_mem _ (sub b w))) fun b hb => (mem b hb).imp id fun q w => q (List.mem_cons_of_mem _ w)⟩
    rcases foots_set_mem a hb with q | q
    · rcases mem a q with w | w
      · exact n1 (sub a w)
      · exact w List.mem_cons_self
    · exact n1 q
theorem At.read (a : At x l ys f) (r : RepO K G H x u) : ∃ vs, H l = some (.lst vs) ∧ RepOs K G H ys vs := by
  induction a generalizing u with
  | top =>
    unfold RepO at r
    obtain ⟨_, vs, h1, h2⟩ := r
    exact ⟨vs, h1, h2⟩
  | into h r' ih =>
    unfold RepO at r
    obtain ⟨_, vs, h1, h2⟩ := r
    obtain ⟨w, _, hw⟩ := h2.at h
    exact ih hw
theorem At.write (a : At x l ys f) {vs : List V} (nd : (foot x).Nodup) (r : RepO K G H x u) (rz : RepOs K G (upd H l (.lst vs)) zs vs) : RepO K G (upd H l (.lst vs)) (f zs) u := by
  induction a generalizing u with
  | top =>
    unfold RepO at r ⊢
    exact ⟨r.1, vs, upd_same, rz⟩
  | into h r' ih =>
    rw [foot_own] at nd
    obtain ⟨n1, n2⟩ := List.nodup_cons.mp nd
    rename_i a xs n y l' ys' f'
    unfold RepO at r ⊢
    obtain ⟨e1, ws, h1, h2⟩ := r
    obtain ⟨w, hw, rw'⟩ := h2.at h
    have lin : l' ∈ foot y := r'.sub.1
    have ndy : (foot y).Nodup := foots_get_nd n2 h
    refine ⟨e1, ws, ?_, ?_⟩
    · rw [upd_ne (fun q => n1 (by rw [q]; exact foots_mem (List.mem_of_getElem? h) lin))]
      exact h1
    · have := h2.set (z := f' zs) (v := w) (n := n) (H' := upd H l' (.lst vs)) (fun j y' hj hne b hb q hq => by
        rw [upd_ne (fun e => by subst e; exact foots_apart n2 h hj hne _ lin hb)]
        exact hq) (fun _ => ih ndy rw' rz)
      rw [set_self hw] at this
      exact this
/-- an own list, wherever it stands, gets a new content; a waiting value may go into it -/
theorem Step.putAt (s : Stt K G H (some v :: σ) (some z :: δ)) (hx : δ[i]? = some (some x)) (a : At x l ys f) {vs : List V} (n' : (foots zs).Nodup) (k : ∀ b ∈ foots zs, b ∈ foots ys ∨ b ∈ foot z) (rz : RepOs K G (upd H l (.lst vs)) zs vs) :
    Step K G H (some z :: δ) G (upd H l (.lst vs)) σ (δ.set i (some (f zs))) := by
  obtain ⟨u, hu, r⟩ := s.pop.rep i x hx
  have ndx := foot_nd s.pop.nd hx
  have nd := s.nd
  unfold feet at nd
  obtain ⟨n1, n2, n3⟩ := List.nodup_append.mp nd
  exact Step.put s hx hu a.sub.1 (a.nd ndx n' fun b hb => (k b hb).imp id fun q w => n3 b q b (foot_in_feet hx b w) rfl) (a.mem k) (a.write ndx r rz)
end
end Vl

namespace Vl
open PySem PySem.Spec PyProof.Rows L2
/-- own lists one deep: their own items by where they lie -/
def hdD : OD → D
  | .fz d => d
  | .own b _ => .op (.ref b)
  | .vol b _ => .op (.ref b)
def datR : OD → D
  | .fz d => d
  | .own _ xs => .lst (xs.map hdD)
  | .vol b _ => .op (.ref b)
def thawR (δ : En) : En := δ.map fun o => o.map fun x => .fz (datR x)
section
variable {K : PySem.W.Frag} {G H G' H' : Hp} {σ : L2.St} {δ : En}
theorem RepO.hdD (e : Same G H) {x : OD} {v : V} (r : RepO K G H x v) : Rep K H (hdD x) v := by
  cases x with
  | fz d => unfold RepO at r; unfold Vl.hdD; exact Rep.mono e d v r
  | own a xs => unfold RepO at r; unfold Vl.hdD Rep; exact r.1
  | vol a φ => unfold RepO at r; unfold Vl.hdD Rep; exact r.1
theorem RepOs.hdD (e : Same G H) : ∀ {xs : List OD} {vs : List V}, RepOs K G H xs vs → Reps K H (xs.map Vl.hdD) vs
  | [], _, r => by
    unfold RepOs at r
    subst r
    exact Reps.nil
  | x :: xs, vs, r => by
    unfold RepOs at r
    obtain ⟨v, w, rfl, r1, r2⟩ := r
    exact Reps.cons (RepO.hdD e r1) (RepOs.hdD e r2)
theorem RepO.datR (e : Same G H) {x : OD} {v : V} (r : RepO K G H x v) : Rep K H (datR x) v := by
  cases x with
  | fz d => unfold RepO at r; unfold Vl.datR; exact Rep.mono e d v r
  | own a xs =>
    unfold RepO at r
    obtain ⟨e1, vs, h1, h2⟩ := r
    unfold Vl.datR Rep
    exact ⟨a, vs, e1, h1, h2.hdD e⟩
  | vol a φ => unfold RepO at r; unfold Vl.datR Rep; exact r.1
theorem feet_thawR : ∀ δ : En, feet (thawR δ) = []
  | [] => rfl
  | none :: r => by show feet (none :: thawR r) = []; unfold feet; exact feet_thawR r
  | some x :: r => by show feet (some (.fz (datR x)) :: thawR r) = []; unfold feet foot; rw [feet_thawR r]; rfl
theorem Stt.thawR (s : Stt K G H σ δ) : Stt K H H σ (thawR δ) where
  ex := Same.refl _
  len := by rw [← s.len]; unfold Vl.thawR; rw [List.length_map]
  rep := fun i x hx => by
    unfold Vl.thawR at hx
    rw [List.getElem?_map] at hx
    cases q : δ[i]? with
    | none => rw [q] at hx; cases hx
    | some o =>
      rw [q] at hx
      cases o with
      | none => cases hx
      | some y =>
        simp at hx
        subst hx
        obtain ⟨v, e1, r⟩ := s.rep i y q
        refine ⟨v, e1, ?_⟩
        unfold RepO
        exact RepO.datR s.ex r
  nd := by rw [feet_thawR]; exact List.nodup_nil
  off := fun a ha => by rw [feet_thawR] at ha; cases ha
theorem unthawR (s : Stt K G H σ δ) (t : Step K H H (Vl.thawR δ) G' H' σ (Vl.thawR δ)) : Step K G H δ G H' σ δ := by
  have k : Same H H' := fun a o e => t.gr.h a o (by rw [feet_thawR]; simp) e
  exact ⟨s.keep (Same.refl _) (s.ex.trans k) (fun a _ o e => k a o e) (fun a ha => (s.off a ha).1), ⟨Same.refl _, fun a o _ e => k a o e, fun _ h => .inl h, t.gr.there⟩, fun a ha => .inl ha⟩
end
theorem atN {n j : Nat} (h : j < n) : ixN n (j : Int) = some j := by
  unfold ixN
  simp [h]
/-- e is the own list at l -/
def Sub (X : Cx) (e : Expr) (δ : En) (l : Addr) : Prop := ∀ G H σ, Stt X.K G H σ δ → wE X e σ H fun v H1 => v = .ref l ∧ Step X.K G H δ G H1 σ δ
section
variable {X : Cx} {e o b : Expr} {es : List Expr} {δ : En} {Q : OD → En → Prop} {P : DE} {pos p apos cpos : Pos} {nm : Str} {l : Addr} {x z : OD} {ys : List OD} {f : List OD → OD}
theorem sub_name (i : Nat) (hN : X.N[i]? = some nm) (hv : Vis X.env.scope nm) (hx : δ[i]? = some (some (.own l ys))) (hd : (nm == ("__debug__" : Str)) = false := by decide) (hcd : (nm == ("__classdict__" : Str)) = false := by decide) : Sub X (.Name nm p) δ l := fun G H σ s => by
  obtain ⟨u, hu, r⟩ := s.rep i _ hx
  unfold RepO at r
  exact wE_of (pe_var hN hv hd hcd) ⟨u, hu, r.1, s.step⟩
theorem sub_ev (h : Ed X e (thawR δ) (.fz (.op (.ref l)))) : Sub X e δ l := fun G H σ s => (h H H σ s.thawR).imp fun v H1 ⟨y, G1, d1, s1, e1, e2⟩ => by
  subst e1
  subst e2
  have r := top_fz s1.st rfl
  unfold Rep at r
  exact ⟨r, unthawR s s1.pop⟩
/-- the n-th item of an own list, an own one -/
theorem sub_ix {j : Int} {n : Nat} {xs : List OD} (ha : Ed X o (thawR δ) (.fz (.lst (xs.map hdD)))) (hb : Ed X b (thawR δ) (.fz (.int j))) (hj : j = n) (hn : xs[n]? = some (.own l ys)) (hs : PlainIx b := by exact fun _ _ => rfl) : Sub X (.Subscript o b pos) δ l :=
  sub_ev (ed_ix ha hb (ix_L (by
    subst hj
    refine atI_nat ?_
    rw [List.getElem?_map, hn]
    rfl) rfl) hs)
/-- o.append(e) on an own list -/
theorem es_appA (i : Nat) (ho : Sub X o δ l) (hx : δ[i]? = some (some x)) (a : At x l ys f) (hz : ys.length < 100000)
    (h : Ev X e δ fun y δ1 => δ1[i]? = some (some x) ∧ P.nx (δ1.set i (some (f (ys ++ [y])))))
    (hbase : attributeBase o "append" X.env (eval o X.env) = eval o X.env := by rfl)
    (hfew : ((backTo cpos (starEach (e :: []) X.env)).all (fun x => !x.1) && (backToKw cpos (keywordEach [] X.env)).all (fun x => x.1.isSome)
      && decide ((e :: ([] : List Expr)).length + ([] : List Keyword).length + (if ([] : List Keyword).isEmpty then 0 else 1) < 30)) = true := by rfl)
    (hline : (apos.endLine == cpos.line) = true := by rfl) (hs : starEach (e :: []) X.env = (false, eval e X.env) :: starEach [] X.env := by rfl) (hplain : (backTo cpos (starEach [] X.env)).any (·.1) = false := by rfl)
    (hsw : swapsWith (.Call (.Attribute o "append" apos) [e] [] cpos) none pos.line X.env = pure false := by rfl) : Es X (.Expr (.Call (.Attribute o "append" apos) [e] [] cpos) pos) δ P := fun G H σ s => by
  refine wS_of (ps_expr (pe_bm PySem.F.plainAttrs_list PySem.F.slot_list_append PySem.F.type_list_append mt_append wE_pe (pa_cons wE_pe pa_nil hs) hbase hfew hline hs hplain) hsw) ?_
  refine (ho G H σ s).imp fun v0 H0 ⟨ev, s0⟩ => ?_
  subst ev
  obtain ⟨u0, _, r0⟩ := s0.st.rep i x hx
  obtain ⟨vs0, hl0, _⟩ := a.read r0
  refine ⟨.inl ⟨rfl, vs0, .of hl0⟩, (h G H0 σ s0.st).imp fun v H1 ⟨y, G1, d1, s1, hδ, q⟩ => ?_⟩
  obtain ⟨u, hu, r⟩ := s1.st.pop.rep i x hδ
  obtain ⟨ws, hl1, rs⟩ := a.read r
  have ndx := foot_nd s1.st.pop.nd hδ
  have ny := s1.st.nd
  unfold feet at ny
  obtain ⟨n1, n2, n3⟩ := List.nodup_append.mp ny
  have lx := foot_in_feet hδ l a.sub.1
  have lout : ∀ b ∈ foot y, b ≠ l := fun b hb e => n3 b hb l lx e
  refine ⟨l, ws, v, rfl, rfl, hl1, by rw [rs.length, sizeLine_eq]; omega, G1, _, (s0.trans s1).trans (Step.putAt (zs := ys ++ [y]) s1.st hδ a ?_ (fun b hb => ?_) (RepOs.app (RepOs.mono (Same.refl _) ys ws (fun b hb o ho => ?_) rs) (RepO.mono (Same.refl _) y v (fun b hb o ho => ?_) s1.st.top))), q⟩
  · rw [foots_append, foots_one]
    exact List.nodup_append.mpr ⟨(a.lys ndx).1, n1, fun b hb c hc e => n3 c hc b (foot_in_feet hδ b (a.sub.2 b hb)) e.symm⟩
  · rw [foots_append, foots_one] at hb
    exact List.mem_append.mp hb
  · rw [upd_ne (fun e => by subst e; exact (a.lys ndx).2 hb)]
    exact ho
  · rw [upd_ne (lout b hb)]
    exact ho
/-- o[b] = .. on an own list -/
theorem eg_setA (i : Nat) {j : Int} {T : En → Prop} (ho : Sub X o δ l) (hx : δ[i]? = some (some x)) (a : At x l ys f) (hb : Ed X b δ (.fz (.int j))) (h0 : 0 ≤ j) (h1 : j < ys.length) (q : T (δ.set i (some (f (ys.set j.toNat z)))))
    (ha : ∀ v, assign (.Subscript o b pos) X.env v = (do
      let ov ← holding [v] (eval o X.env)
      let iv ← holding [v, ov] (eval b X.env)
      standAt pos
      holding [v, ov, iv] (setItem ov iv v)
      release [v, ov, iv] []) := by intro _; rfl) : Eg X (.Subscript o b pos) z δ T := fun G H σ v s => by
  refine wG_of (pg_sub wE_pe wE_pe set_list ha) ?_
  refine (ho G H σ s.pop).imp fun v0 H0 ⟨ev, s0⟩ => ?_
  subst ev
  have t0 := s.step.frame s0
  refine (hb G H0 σ s0.st).imp fun vi H1 ⟨yi, G1, d1, s1, e1, e2⟩ => ?_
  subst e1
  subst e2
  have t1 := t0.st.step.frame s1.pop
  have rj := top_fz s1.st rfl
  unfold Rep at rj
  subst rj
  obtain ⟨u, hu, r⟩ := s1.st.pop.rep i x hx
  obtain ⟨ws, hl1, rs⟩ := a.read r
  obtain ⟨n, rfl⟩ : ∃ n : Nat, j = n := ⟨j.toNat, by omega⟩
  have ndx := foot_nd s1.st.pop.nd hx
  have ny := t1.st.nd
  unfold feet at ny
  obtain ⟨n1, n2, n3⟩ := List.nodup_append.mp ny
  have lx := foot_in_feet hx l a.sub.1
  have hn : n < ys.length := by omega
  obtain ⟨y0, hy0⟩ : ∃ y0, ys[n]? = some y0 := ⟨ys[n], by simp [hn]⟩
  have nz : ∀ b ∈ foot z, b ∉ foots ys := fun b hb hc => n3 b hb b (foot_in_feet hx b (a.sub.2 b hc)) rfl
  refine ⟨l, ws, n, n, rfl, rfl, hl1, ?_, G1, _, (t0.trans t1).trans (Step.putAt (zs := ys.set n z) t1.st hx a (foots_set_nd (a.lys ndx).1 hy0 n1 fun b hb => .inr (nz b hb)) (fun b hb => (foots_set_mem b hb).symm) (RepOs.set rs (fun j' y' hj' hne b hb q hq => ?_) fun _ => RepO.mono (Same.refl _) z v (fun b hb o ho => ?_) t1.st.top)), by simpa using q⟩
  · rw [rs.length]
    exact atN hn
  · rw [upd_ne (fun e => by subst e; exact (a.lys ndx).2 (foots_mem (List.mem_of_getElem? hj') hb))]
    exact hq
  · rw [upd_ne (fun e => by subst e; exact n3 _ hb _ lx rfl)]
    exact ho
end
end Vl

namespace Vl
open PySem PySem.Spec PyProof.Rows L2
section
variable {K : PySem.W.Frag} {G H G' H' : Hp} {σ σ' : L2.St} {δ δ' : En} {x y z : OD} {u v w : V} {l q : Addr}
theorem feet_app : ∀ {xs : List OD} {δ : En}, feet (xs.map some ++ δ) = foots xs ++ feet δ
  | [], δ => by rw [show foots [] = [] from by unfold foots; rfl]; rfl
  | x :: xs, δ => by
    show feet (some x :: (xs.map some ++ δ)) = _
    rw [foots_cons, List.append_assoc, ← feet_app (xs := xs), show feet (some x :: (xs.map some ++ δ)) = foot x ++ feet (xs.map some ++ δ) from by rw [feet]]
theorem feet_some {x : OD} {δ : En} : feet (some x :: δ) = foot x ++ feet δ := by rw [feet]
theorem stack_reps : ∀ {xs : List OD} {vs : List V}, xs.length = vs.length → Stt K G H (vs.map some ++ σ) (xs.map some ++ δ) → RepOs K G H xs vs ∧ Stt K G H σ δ
  | [], [], _, s => ⟨by unfold RepOs; rfl, s⟩
  | [], _ :: _, h, _ => by simp at h
  | _ :: _, [], h, _ => by simp at h
  | x :: xs, v :: vs, h, s => by
    have s' : Stt K G H (some v :: (vs.map some ++ σ)) (some x :: (xs.map some ++ δ)) := s
    obtain ⟨r, t⟩ := stack_reps (by simpa using h) s'.pop
    refine ⟨?_, t⟩
    unfold RepOs
    exact ⟨v, vs, rfl, s'.top, r⟩
/-- waiting values go into a new list -/
theorem Step.gather {xs : List OD} {vs : List V} (hl : xs.length = vs.length) (s : Stt K G H (vs.map some ++ σ) (xs.map some ++ δ)) (n : H q = none) : Step K G H (xs.map some ++ δ) G (upd H q (.lst vs)) (some (.ref q) :: σ) (some (.own q xs) :: δ) := by
  obtain ⟨r, t⟩ := stack_reps hl s
  have nd := s.nd
  rw [feet_app] at nd
  obtain ⟨n1, n2, n3⟩ := List.nodup_append.mp nd
  have up : Same H (upd H q (.lst vs)) := new_h n
  have offA : ∀ b ∈ foots xs, G b = none ∧ H b ≠ none := fun b hb => s.off b (by rw [feet_app]; exact List.mem_append_left _ hb)
  have t1 : Stt K G (upd H q (.lst vs)) σ δ := t.keep (Same.refl _) (t.ex.trans up) (fun a _ o e => up a o e) fun a ha => (t.off a ha).1
  have hq : G q = none := by
    cases e : G q with
    | none => rfl
    | some o => rw [t.ex q o e] at n; cases n
  have notin : ∀ {b : Addr}, H b ≠ none → b ≠ q := fun h e => h (e ▸ n)
  refine ⟨t1.push (by
    unfold RepO
    exact ⟨rfl, vs, upd_same, RepOs.mono (Same.refl _) xs vs (fun b _ o e => up b o e) r⟩) ?_ fun b hb => ?_, ⟨Same.refl _, fun a o _ e => up a o e, fun a h => .inl h, fun a h => ?_⟩, fun b hb => ?_⟩
  · rw [foot_own]
    exact List.nodup_cons.mpr ⟨fun h => notin (offA q h).2 rfl, n1⟩
  · rw [foot_own] at hb
    rcases List.mem_cons.mp hb with e | e
    · subst e
      exact ⟨hq, by rw [upd_same]; simp, fun h => notin (t.off b h).2 rfl⟩
    · refine ⟨(offA b e).1, ?_, fun h => n3 b e b h rfl⟩
      rw [upd_ne (notin (offA b e).2)]
      exact (offA b e).2
  · by_cases z : a = q
    · subst z; exact absurd n h
    · rw [upd_ne z]; exact h
  · rw [feet_some, foot_own] at hb
    rw [feet_app]
    rcases List.mem_append.mp hb with h | h
    · rcases List.mem_cons.mp h with e | e
      · subst e; exact .inr n
      · exact .inl (List.mem_append_left _ e)
    · exact .inl (List.mem_append_right _ h)
/-- an own list becomes frozen, its items own as they are -/
theorem Stt.scatter {xs : List OD} (s : Stt K G H (some v :: σ) (some (.own l xs) :: δ)) : ∃ (vs : List V) (G1 : Hp), v = .ref l ∧ xs.length = vs.length ∧ G1 l = some (.lst vs) ∧ Step K G H (some (.own l xs) :: δ) G1 H (vs.map some ++ σ) (xs.map some ++ δ) := by
  have r := s.top
  unfold RepO at r
  obtain ⟨e1, vs, h1, h2⟩ := r
  have nd := s.nd
  rw [feet_some, foot_own] at nd
  obtain ⟨n1, n2, n3⟩ := List.nodup_append.mp nd
  obtain ⟨n4, n5⟩ := List.nodup_cons.mp n1
  have lin : l ∈ feet (some (.own l xs) :: δ) := by rw [feet_some, foot_own]; exact List.mem_append_left _ List.mem_cons_self
  have g : Same G (upd G l (.lst vs)) := fun b o e => by
    rw [upd_ne (fun z => by rw [z, (s.off l lin).1] at e; cases e)]
    exact e
  have ex : Same (upd G l (.lst vs)) H := fun b o e => by
    by_cases z : b = l
    · subst z
      rw [upd_same] at e
      cases e
      exact h1
    · rw [upd_ne z] at e
      exact s.ex b o e
  have t : Stt K (upd G l (.lst vs)) H σ δ := s.pop.keep g ex (fun _ _ _ h => h) fun a ha => by
    rw [upd_ne (fun z => n3 l List.mem_cons_self a ha z.symm)]
    exact (s.pop.off a ha).1
  have all : ∀ {ys : List OD} {us : List V}, RepOs K G H ys us → (foots ys).Nodup → (∀ b ∈ foots ys, b ∈ foots xs) → Stt K (upd G l (.lst vs)) H (us.map some ++ σ) (ys.map some ++ δ) := by
    intro ys
    induction ys with
    | nil =>
      intro us r _ _
      unfold RepOs at r
      subst r
      exact t
    | cons y ys ih =>
      intro us r nd sub
      unfold RepOs at r
      obtain ⟨u, us', rfl, r1, r2⟩ := r
      rw [foots_cons] at nd sub
      obtain ⟨m1, m2, m3⟩ := List.nodup_append.mp nd
      have t' := ih r2 m2 fun b hb => sub b (List.mem_append_right _ hb)
      refine t'.push (RepO.mono g y u (fun _ _ _ h => h) r1) m1 fun b hb => ?_
      have bx := sub b (List.mem_append_left _ hb)
      have hb' := s.off b (by rw [feet_some, foot_own]; exact List.mem_append_left _ (List.mem_cons_of_mem _ bx))
      refine ⟨?_, hb'.2, fun h => ?_⟩
      · rw [upd_ne (fun z => by subst z; exact n4 bx)]
        exact hb'.1
      · rw [feet_app] at h
        rcases List.mem_append.mp h with h | h
        · exact m3 b hb b h rfl
        · exact n3 b (List.mem_cons_of_mem _ bx) b h rfl
  refine ⟨vs, upd G l (.lst vs), e1, h2.length.symm, upd_same, all h2 n5 fun _ h => h, ⟨g, fun _ _ _ h => h, fun a ha => ?_, fun _ h => h⟩, fun b hb => .inl ?_⟩
  · by_cases z : a = l
    · subst z; exact .inr (.inr lin)
    · rw [upd_ne z] at ha; exact .inl ha
  · rw [feet_app] at hb
    rw [feet_some, foot_own]
    rcases List.mem_append.mp hb with h | h
    · exact List.mem_append_left _ (List.mem_cons_of_mem _ h)
    · exact List.mem_append_right _ h
/-- many values wait while a step is done -/
theorem Step.frames : ∀ {xs : List OD} {vs : List V}, xs.length = vs.length → Stt K G H (vs.map some ++ σ) (xs.map some ++ δ) → Step K G H δ G' H' σ' δ' → Step K G H (xs.map some ++ δ) G' H' (vs.map some ++ σ') (xs.map some ++ δ')
  | [], [], _, _, t => t
  | [], _ :: _, h, _, _ => by simp at h
  | _ :: _, [], h, _, _ => by simp at h
  | x :: xs, v :: vs, h, s, t => by
    have s' : Stt K G H (some v :: (vs.map some ++ σ)) (some x :: (xs.map some ++ δ)) := s
    exact s'.step.frame (Step.frames (by simpa using h) s'.pop t)
theorem Stt.swap {a b : Option V} {x y : Option OD} (s : Stt K G H (a :: b :: σ) (x :: y :: δ)) : Stt K G H (b :: a :: σ) (y :: x :: δ) := by
  have e : (feet (y :: x :: δ)).Perm (feet (x :: y :: δ)) := by
    cases x with
    | none => cases y <;> exact List.Perm.refl _
    | some x =>
      cases y with
      | none => exact List.Perm.refl _
      | some y =>
        rw [feet_some, feet_some, feet_some, feet_some, ← List.append_assoc, ← List.append_assoc]
        exact List.perm_append_comm.append_right _
  refine ⟨s.ex, by have := s.len; simpa using this, fun i z hz => ?_, e.nodup_iff.mpr s.nd, fun c hc => s.off c (e.mem_iff.mp hc)⟩
  match i with
  | 0 => exact s.rep 1 z hz
  | 1 => exact s.rep 0 z hz
  | i + 2 => exact s.rep (i + 2) z hz
/-- the top goes below the others -/
theorem Stt.sink : ∀ {xs : List OD} {vs : List V}, xs.length = vs.length → Stt K G H (some v :: (vs.map some ++ σ)) (some x :: (xs.map some ++ δ)) → Stt K G H (vs.map some ++ some v :: σ) (xs.map some ++ some x :: δ)
  | [], [], _, s => s
  | [], _ :: _, h, _ => by simp at h
  | _ :: _, [], h, _ => by simp at h
  | y :: xs, u :: vs, h, s => by
    have s1 : Stt K G H (some u :: some v :: (vs.map some ++ σ)) (some y :: some x :: (xs.map some ++ δ)) := Stt.swap s
    have s2 := Stt.sink (by simpa using h) s1.pop
    have nd := s1.nd
    rw [feet_some] at nd
    obtain ⟨n1, n2, n3⟩ := List.nodup_append.mp nd
    refine s2.push s1.top n1 fun b hb => ?_
    have ob := s1.off b (by rw [feet_some]; exact List.mem_append_left _ hb)
    refine ⟨ob.1, ob.2, fun hc => n3 b hb b ?_ rfl⟩
    rw [feet_app, feet_some] at hc
    rw [feet_some, feet_app]
    rcases List.mem_append.mp hc with q | q
    · exact List.mem_append_right _ (List.mem_append_left _ q)
    · rcases List.mem_append.mp q with q | q
      · exact List.mem_append_left _ q
      · exact List.mem_append_right _ (List.mem_append_right _ q)
end
/-- several values, own ones among them, each waits -/
def Eo (X : Cx) (es : List Expr) (δ : En) (Q : List OD → En → Prop) : Prop := ∀ G H σ, Stt X.K G H σ δ → wA X es σ H fun vs H' => ∃ xs G' δ', xs.length = vs.length ∧ Step X.K G H δ G' H' (vs.map some ++ σ) (xs.map some ++ δ') ∧ Q xs δ'
section
variable {X : Cx} {e tg iter : Expr} {es : List Expr} {bd : List Stmt} {δ : En} {Q : OD → En → Prop} {P : DE} {pos : Pos}
theorem eo_nil {Q : List OD → En → Prop} (q : Q [] δ) : Eo X [] δ Q := fun G H σ s => wA_of pa_nil ⟨[], G, δ, rfl, s.step, q⟩
theorem eo_cons {Q : List OD → En → Prop} (h : Ev X e δ fun x δ1 => Eo X es δ1 fun xs => Q (x :: xs)) (hs : starEach (e :: es) X.env = (false, eval e X.env) :: starEach es X.env := by rfl) : Eo X (e :: es) δ Q := fun G H σ s =>
  wA_of (pa_cons wE_pe wA_pa hs) ((h G H σ s).imp fun v H1 ⟨x, G1, d1, s1, h2⟩ =>
    (h2 G1 H1 σ s1.st.pop).imp fun vs H2 ⟨xs, G2, d2, hl, s2, q⟩ => ⟨x :: xs, G2, d2, by simpa using hl, s1.frame s2, q⟩)
/-- [e, ..] as an own list of own things -/
theorem ev_lstE (h : Eo X es δ fun xs δ1 => xs.length ≤ 100000 ∧ ∀ a, Q (.own a xs) δ1) : Ev X (.List es pos) δ Q := fun G H σ s =>
  wE_of (pe_lst wA_pa) ((h G H σ s).imp fun vs H1 ⟨xs, G1, d1, hl, s1, hz, q⟩ =>
    ⟨by rw [← hl, sizeLine_eq]; omega, fun p n => ⟨_, G1, d1, s1.trans (Step.gather hl s1.st n), q p⟩⟩)
/-- for name in a list of own things that nothing else knows -/
theorem es_forO {xs : List OD} (hp : PassesOwn (model X.prog X.w) X.A X.env X.xe) (hc : X.calm = true) (I : Nat → En → Prop) (hi : Ev X iter δ fun x δ1 => (∃ l, x = .own l xs) ∧ I 0 δ1)
    (step : ∀ i (h : i < xs.length) δ1, I i δ1 → Eg X tg xs[i] δ1 fun δ2 => Eb X bd δ2 { P with nx := I (i + 1), ct := I (i + 1), bk := P.nx }) (hd : ∀ δ', I xs.length δ' → P.nx δ') (hs : ∀ x, foldedSetIterable iter X.env x = pure x := by intro _; rfl) : Es X (.For tg iter bd [] pos) δ P := fun G H σ s => by
  have pi : PI X tg iter _ := pi_list (tg := tg) (wE_pe (X := X) (e := iter))
  refine wS_of (ps_for hp hc pi wG_pg wB_ps hs) ((hi G H σ s).imp fun v H1 ⟨x, G1, δ1, s1, ⟨l, ex⟩, h0⟩ => ?_)
  subst ex
  obtain ⟨vs, G2, ev, hl, hg, s2⟩ := s1.st.scatter
  have t0 := s1.trans s2
  refine ⟨l, ev, ⟨vs, .of (t0.st.ex _ _ hg)⟩, ?_⟩
  refine for_it (walk_list (xs := vs)) (fun i σ' H' => ∃ Gi δi, Step X.K G2 H1 (xs.map some ++ δ1) Gi H' ((vs.drop i).map some ++ σ') ((xs.drop i).map some ++ δi) ∧ I i δi) ⟨G2, δ1, t0.st.step, h0⟩ (fun i σ' H' _ ⟨Gi, δi, si, _⟩ => .of (si.st.ex _ _ (si.gr.g _ _ hg))) (fun i v σ' H' H3 hlt ⟨Gi, δi, si, hI⟩ y => ?_) fun σ' H' ⟨Gi, δi, si, hI⟩ => ?_
  · obtain ⟨e3, e2⟩ := y
    subst e3
    have hv : vs[i] = v := by
      obtain ⟨_, e⟩ := List.getElem?_eq_some_iff.mp e2
      exact e
    have hx : i < xs.length := by omega
    have d1 : (vs.drop i).map some ++ σ' = some v :: ((vs.drop (i + 1)).map some ++ σ') := by rw [List.drop_eq_getElem_cons hlt, hv]; rfl
    have d2 : (xs.drop i).map some ++ δi = some xs[i] :: ((xs.drop (i + 1)).map some ++ δi) := by rw [List.drop_eq_getElem_cons hx]; rfl
    rw [d1, d2] at si
    have hl2 : (xs.drop (i + 1)).length = (vs.drop (i + 1)).length := by rw [List.length_drop, List.length_drop, hl]
    have sk := Stt.sink hl2 si.st
    have low := (stack_reps hl2 sk).2
    have bk : ∀ b, b ∈ feet ((xs.drop (i + 1)).map some ++ some xs[i] :: δi) ↔ b ∈ feet (some xs[i] :: ((xs.drop (i + 1)).map some ++ δi)) := fun b => by
      rw [feet_app, feet_some, feet_some, feet_app]
      simp only [List.mem_append]
      constructor
      · rintro (h | h | h)
        · exact .inr (.inl h)
        · exact .inl h
        · exact .inr (.inr h)
      · rintro (h | h | h)
        · exact .inr (.inl h)
        · exact .inl h
        · exact .inr (.inr h)
    have base : Step X.K G2 H1 (xs.map some ++ δ1) Gi H3 ((vs.drop (i + 1)).map some ++ some v :: σ') ((xs.drop (i + 1)).map some ++ some xs[i] :: δi) := ⟨sk, si.gr, fun b hb => si.ft b ((bk b).mp hb)⟩
    refine (step i hx δi hI Gi H3 σ' v low).imp fun σ4 H4 ⟨G4, δ4, s4, hb⟩ => ?_
    have f4 := base.trans (Step.frames hl2 base.st s4)
    refine (hb G4 H4 σ4 s4.st).imp ⟨fun σ5 H5 ⟨G5, δ5, s5, q⟩ => ⟨G5, δ5, f4.trans (Step.frames hl2 f4.st s5), q⟩, fun v5 H5 ⟨x5, G5, σ5, δ5, s5, q⟩ => ?_, fun σ5 H5 ⟨G5, δ5, s5, q⟩ => ?_, fun σ5 H5 ⟨G5, δ5, s5, q⟩ => ⟨G5, δ5, f4.trans (Step.frames hl2 f4.st s5), q⟩⟩
    · have f5 := t0.trans (f4.trans (Step.frames hl2 f4.st s5))
      exact ⟨x5, G5, σ5, δ5, ⟨s5.st, f5.gr, fun b hb => f5.ft b (by rw [feet_app]; exact List.mem_append_right _ hb)⟩, q⟩
    · have f5 := t0.trans (f4.trans (Step.frames hl2 f4.st s5))
      exact ⟨G5, δ5, ⟨s5.st, f5.gr, fun b hb => f5.ft b (by rw [feet_app]; exact List.mem_append_right _ hb)⟩, q⟩
  · have e1 : vs.drop vs.length = [] := List.drop_length
    have e2 : xs.drop vs.length = [] := by rw [← hl]; exact List.drop_length
    rw [e1, e2] at si
    rw [← hl] at hI
    exact ⟨Gi, δi, t0.trans si, hd _ hI⟩
end
end Vl

namespace Vl
open PySem PySem.Spec PyProof.Rows L2
section
variable {X Y : Cx} {e a b c tg iter elt : Expr} {es ts ifs : List Expr} {δ : En} {Q : OD → En → Prop} {P : DE} {pos p p2 p3 : Pos} {x y : Str} {scope : Scope}
/-- the reading of a comprehension that makes own things; the slots stand -/
theorem lc_readE {ds : List D} {own : List (Str × Nat)} (R : Nat → OD → Prop) (hi : Ei X tg iter δ fun r δ1 => r = ds ∧ δ1 = δ) (hz : ds.length ≤ 100000) (hw : feet (wipeE δ (own.map (·.2))) = feet δ)
    (step : ∀ i d, ds[i]? = some d → ∃ t : En, wipeE t (own.map (·.2)) = wipeE δ (own.map (·.2)) ∧
      (∀ Y, Blk X scope Y → Egb Y tg (own.map (·.2)) d (wipeE δ (own.map (·.2))) fun δ2 => δ2 = t) ∧
      ∀ Y, Blk X scope Y → Ev Y elt t fun z δ' => wipeE δ' (own.map (·.2)) = wipeE δ (own.map (·.2)) ∧ R i z) {G H : Hp} {σ : L2.St} (s : Stt X.K G H σ δ) :
    tLc (wI X tg iter) (gBk X scope tg) (tBk X scope []) (eBk X scope elt) (own.map (·.2)) σ H
      (fun v H' => ∃ l G' acc, v = .ref l ∧ Step X.K G H δ G' H' (some (.ref l) :: σ) (some (.own l acc) :: δ) ∧ acc.length = ds.length ∧ ∀ (i : Nat) (z : OD), acc[i]? = some z → R i z) := by
  refine (hi G H σ s).imp fun J H1 ⟨G1, ds', δ0, s1, ⟨e1, e0⟩, Gd, Y, W, hG, hY⟩ => ?_
  subst e1
  subst e0
  intro l nl
  refine lc_it (g := gBk X scope tg) (tt := tBk X scope []) (te := eBk X scope elt) (vs := own.map (·.2)) (σ := σ) (Qd := fun H' => ∃ l_1 G' acc, V.ref l = .ref l_1 ∧ Step X.K G H δ0 G' H' (some (.ref l_1) :: σ) (some (.own l_1 acc) :: δ0) ∧ acc.length = ds'.length ∧ ∀ (i : Nat) (z : OD), acc[i]? = some z → R i z) W (fun i H' => ∃ Gi acc, Step X.K G1 H1 δ0 Gi H' (some (.ref l) :: σ) (some (.own l acc) :: δ0) ∧ acc.length = i ∧ ∀ (j : Nat) (z : OD), acc[j]? = some z → R j z) ⟨G1, [], s1.st.step.newOwn (ds := []) Reps.nil nl, rfl, fun j z h => by simp at h⟩
    (fun i H' _ ⟨Gi, acc, si, _⟩ => hG H' (si.gr.g.trans si.st.ex)) (fun i v H' H3 hlt ⟨Gi, acc, si, hla, hI⟩ y => ?_) fun H' ⟨Gi, acc, si, hl, hI⟩ => ⟨l, Gi, acc, rfl, s1.trans si, hl, hI⟩
  have hd : ds'[i]? = some ds'[i] := by simp [hlt]
  obtain ⟨t, et, hg, he⟩ := step i ds'[i] hd
  obtain ⟨G3, g1, g2, g3, g4, rv⟩ := hY i H' v H3 Gi ds'[i] si.gr.g si.st.ex y hd
  have sp := si.st.pop
  have t3 : Step X.K Gi H' (wipeE δ0 (own.map (·.2))) G3 H3 (wipe σ (own.map (·.2))) (wipeE δ0 (own.map (·.2))) := sp.wiped.step.grow g1 g2 g3 g4
  intro B hB
  refine (hg _ hB G3 H3 _ v (by obtain ⟨sB, HB, CB, clB, fpB, rfl⟩ := hB; exact t3.st) (by obtain ⟨sB, HB, CB, clB, fpB, rfl⟩ := hB; exact rv)).imp fun σ2 H2 ⟨q1, G2, δ2, s2, e2⟩ => ?_
  subst e2
  have w1 : wipe σ2 (own.map (·.2)) = wipe σ (own.map (·.2)) := q1.trans wipe_wipe
  have s2 : Step X.K G3 H3 (wipeE δ0 (own.map (·.2))) G2 H2 σ2 δ2 := by obtain ⟨sB, HB, CB, clB, fpB, rfl⟩ := hB; exact s2
  have t2 := t3.trans s2
  refine ⟨w1, fun B hB => ?_⟩
  refine wTs_of pts_nil ?_
  unfold tYes
  simp only [if_true]
  intro B hB
  have t2B : Stt B.K G2 H2 σ2 δ2 := by obtain ⟨sB, HB, CB, clB, fpB, rfl⟩ := hB; exact s2.st
  refine (he _ hB G2 H2 σ2 t2B).imp fun v5 H5 ⟨z, G5, δ5, s5, e5, hR⟩ => ?_
  have s5 : Step X.K G2 H2 δ2 G5 H5 (some v5 :: σ2) (some z :: δ5) := by obtain ⟨sB, HB, CB, clB, fpB, rfl⟩ := hB; exact s5
  have tt := t2.trans s5
  have u := sp.unwipe (t2.trans s5.pop) w1 e5 (fun _ _ => rfl) rfl hw hw
  have fr := si.st.step.frame u
  have nd5 := s5.st.nd
  rw [feet_some] at nd5
  obtain ⟨n1, n2, n3⟩ := List.nodup_append.mp nd5
  have fz : ∀ b ∈ foot z, b ∈ feet δ0 ∨ H' b = none := fun b hb => by
    rcases tt.ft b (by rw [feet_some]; exact List.mem_append_left _ hb) with q | q
    · exact .inl (feet_wipe_sub.subset q)
    · exact .inr q
  have δz : ∀ b ∈ foot z, b ∉ feet δ0 := fun b hb hc => by
    rw [← hw, ← e5] at hc
    exact n3 b hb b (feet_wipe_sub.subset hc) rfl
  have az : ∀ b ∈ foot z, b ∉ foot (.own l acc) := fun b hb hc => by
    rcases fz b hb with q | q
    · have nd := si.st.nd
      rw [feet_some] at nd
      exact (List.nodup_append.mp nd).2.2 b hc b q rfl
    · exact (si.st.off b (by rw [feet_some]; exact List.mem_append_left _ hc)).2 q
  have push : Stt X.K G5 H5 (some v5 :: some (.ref l) :: σ) (some z :: some (.own l acc) :: δ0) := fr.st.push s5.st.top n1 fun b hb => by
    have o := s5.st.off b (by rw [feet_some]; exact List.mem_append_left _ hb)
    refine ⟨o.1, o.2, fun hc => ?_⟩
    rw [feet_some] at hc
    rcases List.mem_append.mp hc with q | q
    · exact az b hb q
    · exact δz b hb q
  have sz : Step X.K Gi H' (some (.own l acc) :: δ0) G5 H5 (some v5 :: some (.ref l) :: σ) (some z :: some (.own l acc) :: δ0) := ⟨push, fr.gr, fun b hb => by
    rw [feet_some] at hb
    rcases List.mem_append.mp hb with q | q
    · rcases fz b q with w | w
      · exact .inl (by rw [feet_some]; exact List.mem_append_right _ w)
      · exact .inr w
    · exact .inl q⟩
  obtain ⟨ul, hul, rl⟩ := fr.st.rep 0 _ rfl
  obtain ⟨ws, hl1, rs⟩ := At.top.read rl
  have ndl := foot_nd fr.st.nd (i := 0) rfl
  have fin := Step.putAt (i := 0) (zs := acc ++ [z]) (vs := ws ++ [v5]) push rfl .top (by
    rw [foots_append, foots_one]
    rw [foot_own] at ndl
    exact List.nodup_append.mpr ⟨(List.nodup_cons.mp ndl).2, n1, fun b hb c hc e => az c hc (by rw [foot_own, ← e]; exact List.mem_cons_of_mem _ hb)⟩) (fun b hb => by
    rw [foots_append, foots_one] at hb
    exact List.mem_append.mp hb) (RepOs.app (RepOs.mono (Same.refl _) acc ws (fun b hb o ho => by
      rw [foot_own] at ndl
      rw [upd_ne (fun e => by subst e; exact (List.nodup_cons.mp ndl).1 hb)]
      exact ho) rs) (RepO.mono (Same.refl _) z v5 (fun b hb o ho => by
      rw [upd_ne (fun e => by subst e; exact az _ hb (by rw [foot_own]; exact List.mem_cons_self))]
      exact ho) s5.st.top))
  refine ⟨ws, hl1, by rw [rs.length, sizeLine_eq]; omega, G5, acc ++ [z], si.trans (sz.trans fin), by rw [List.length_append, List.length_singleton, hla], fun j z' hj => ?_⟩
  by_cases hlt2 : j < acc.length
  · rw [List.getElem?_append_left hlt2] at hj
    exact hI j z' hj
  · have : j = acc.length := by
      have := (List.getElem?_eq_some_iff.mp hj).1
      rw [List.length_append, List.length_singleton] at this
      omega
    subst this
    simp at hj
    subst hj
    rw [hla]
    exact hR
theorem lcE_run {own : List (Str × Nat)} {H : Hp} {σ : L2.St} {R R' : VK} (h : tLc (wI X tg iter) (gBk X scope tg) (tBk X scope ifs) (eBk X scope elt) (own.map (·.2)) σ H R) (q : ∀ v H', R v H' → R' v H') : tLc (wI X tg iter) (gBk X scope tg) (tBk X scope ifs) (eBk X scope elt) (own.map (·.2)) σ H R' :=
  wI.imp h fun J H1 z l nl => by
    obtain ⟨W, w0, turn⟩ := z l nl
    refine ⟨W, w0, fun i m H2 w => ?_⟩
    rcases turn i m H2 w with ⟨a, k⟩ | k
    · exact .inl ⟨a, q _ _ k⟩
    · exact .inr k
variable {α : Type} {xs : List α} {g h : α → D} {t : α → Bool}
/-- what the own items are -/
def Each (xs : List α) (R : α → OD → Prop) (ys : List OD) : Prop := ys.length = xs.length ∧ ∀ (i : Nat) (x : α) (y : OD), xs[i]? = some x → ys[i]? = some y → R x y
theorem lcN_read (R : α → OD → Prop) (i : Nat) (hN : X.N.Nodup) (ok : BlkOk X.N X.env.scope scope [(x, i)]) (hl : i < δ.length) (hx : scope.names.lookup x = some .local) (hi : Ei X (.Name x p) iter δ fun r δ1 => r = xs.map g ∧ δ1 = δ) (hz : xs.length ≤ 100000) (hw : feet (wipeE δ [i]) = feet δ)
    (step : ∀ z ∈ xs, ∀ Y, Blk X scope Y → Ev Y elt (bk1 δ i (g z)) fun y δ' => wipeE δ' [i] = wipeE δ [i] ∧ R z y) {G H : Hp} {σ : L2.St} (s : Stt X.K G H σ δ) :
    tLc (wI X (.Name x p) iter) (gBk X scope (.Name x p)) (tBk X scope []) (eBk X scope elt) ([(x, i)].map (·.2)) σ H
      (fun v H' => ∃ l G' ys, v = .ref l ∧ Step X.K G H δ G' H' (some (.ref l) :: σ) (some (.own l ys) :: δ) ∧ Each xs R ys) := by
  refine lcE_run (own := [(x, i)]) (lc_readE (own := [(x, i)]) (fun j y => ∀ z, xs[j]? = some z → R z y) hi (by rw [List.length_map]; exact hz) hw (fun j d hd => ?_) s) fun v H' ⟨l, G', acc, e1, s', hl, hR⟩ => ⟨l, G', acc, e1, s', by rw [hl, List.length_map], fun j z y hz hy => hR j y hy z hz⟩
  rw [List.getElem?_map] at hd
  cases e1 : xs[j]? with
  | none => rw [e1] at hd; cases hd
  | some z =>
    rw [e1] at hd
    simp at hd
    subst hd
    refine ⟨bk1 δ i (g z), bk1_wipe, fun Y hY => bk1_get i hY hN (ok.ix (x, i) (by simp)) hl hx, fun Y hY => (step z (List.mem_of_getElem? e1) Y hY).imp fun y δ' ⟨q1, q2⟩ => ⟨q1, fun z' hz' => ?_⟩⟩
    cases hz'
    exact q2
/-- [elt for x in iter], its items own things -/
theorem ev_lcE (R : α → OD → Prop) (i : Nat) (hc : X.calm = true) (hN : X.N.Nodup) (ok : BlkOk X.N X.env.scope scope [(x, i)]) (hl : i < δ.length) (hx : scope.names.lookup x = some .local) (hi : Ei X (.Name x p) iter δ fun r δ1 => r = xs.map g ∧ δ1 = δ) (hz : xs.length ≤ 100000) (hw : feet (wipeE δ [i]) = feet δ)
    (step : ∀ z ∈ xs, ∀ Y, Blk X scope Y → Ev Y elt (bk1 δ i (g z)) fun y δ' => wipeE δ' [i] = wipeE δ [i] ∧ R z y) (q : ∀ l ys, Each xs R ys → Q (.own l ys) δ)
    (hs : ∀ x, foldedSetIterable iter X.env x = pure x := by intro _; rfl) : Ev X (.ListComp elt [⟨.Name x p, iter, [], 0⟩] scope pos) δ Q := fun G H σ s => by
  have pp := pe_lc (X := X) (elt := elt) (tg := .Name x p) (iter := iter) (ifs := []) (pos := pos) hc hN wI_pi ok gBk_pg tBk_pt eBk_pe hs
  exact wE_of pp (lcE_run (own := [(x, i)]) (lcN_read R i hN ok hl hx hi hz hw step s) fun v H' ⟨l, G', ys, e1, s', hE⟩ => by subst e1; exact ⟨_, G', δ, s', q l ys hE⟩)
/-- y = [elt for x in iter] on one line, its items own things -/
theorem es_lcE (R : α → OD → Prop) (i j : Nat) {py : Pos} (hc : X.calm = true) (hN : X.N.Nodup) (hy : X.N[j]? = some y) (hyl : X.env.scope.names.lookup y = some .local) (hsw : swapsWith (.ListComp elt [⟨.Name x p, iter, [], 0⟩] scope p2) (some (.Name y py)) pos.line X.env = pure true)
    (ok : BlkOk X.N X.env.scope scope [(x, i)]) (hl : i < δ.length) (hlj : j < δ.length) (hx : scope.names.lookup x = some .local) (hi : Ei X (.Name x p) iter δ fun r δ1 => r = xs.map g ∧ δ1 = δ) (hz : xs.length ≤ 100000) (hw : feet (wipeE δ [i]) = feet δ)
    (step : ∀ z ∈ xs, ∀ Y, Blk X scope Y → Ev Y elt (bk1 δ i (g z)) fun y δ' => wipeE δ' [i] = wipeE δ [i] ∧ R z y) (q : ∀ l ys, Each xs R ys → P.nx (δ.set j (some (.own l ys))))
    (hs : ∀ x, foldedSetIterable iter X.env x = pure x := by intro _; rfl) : Es X (.Assign [.Name y py] (.ListComp elt [⟨.Name x p, iter, [], 0⟩] scope p2) pos) δ P := fun G H σ s => by
  have pp := ps_setLc (X := X) (elt := elt) (tg := .Name x p) (iter := iter) (ifs := []) (pos := p2) (spos := pos) (i := j) hc hN hy hyl hsw wI_pi ok gBk_pg tBk_pt eBk_pe hs
  exact wS_of pp (lcE_run (own := [(x, i)]) (lcN_read R i hN ok hl hx hi hz hw step s) fun v H' ⟨l, G', ys, e1, s', hE⟩ => by subst e1; exact ⟨G', _, s'.set hlj, q l ys hE⟩)
theorem each_fz {ys : List OD} (h' : Each xs (fun z y => y = .fz (h z)) ys) : ys = (xs.map h).map .fz := by
  apply List.ext_getElem?
  intro j
  rw [List.getElem?_map, List.getElem?_map]
  cases e1 : xs[j]? with
  | none => rw [List.getElem?_eq_none (by rw [h'.1]; exact List.getElem?_eq_none_iff.mp e1)]; rfl
  | some z =>
    have hj := (List.getElem?_eq_some_iff.mp e1).1
    have hy : ys[j]? = some (ys[j]'(by rw [h'.1]; exact hj)) := by simp [h'.1, hj]
    rw [hy, h'.2 j z _ e1 hy]
    rfl
/-- y = [elt for x in iter] on one line -/
theorem es_lcN (i j : Nat) {py : Pos} (hc : X.calm = true) (hN : X.N.Nodup) (hy : X.N[j]? = some y) (hyl : X.env.scope.names.lookup y = some .local) (hsw : swapsWith (.ListComp elt [⟨.Name x p, iter, [], 0⟩] scope p2) (some (.Name y py)) pos.line X.env = pure true)
    (ok : BlkOk X.N X.env.scope scope [(x, i)]) (hl : i < δ.length) (hlj : j < δ.length) (hx : scope.names.lookup x = some .local) (hi : Ei X (.Name x p) iter δ fun r δ1 => r = xs.map g ∧ δ1 = δ) (hz : xs.length ≤ 100000) (hw : feet (wipeE δ [i]) = feet δ)
    (step : ∀ z ∈ xs, ∀ Y, Blk X scope Y → Ed Y elt (bk1 δ i (g z)) (.fz (h z))) (q : P.nx (δ.set j (some (.fz (.lst (xs.map h))))))
    (hs : ∀ x, foldedSetIterable iter X.env x = pure x := by intro _; rfl) : Es X (.Assign [.Name y py] (.ListComp elt [⟨.Name x p, iter, [], 0⟩] scope p2) pos) δ P := fun G H σ s => by
  have pp := ps_setLc (X := X) (elt := elt) (tg := .Name x p) (iter := iter) (ifs := []) (pos := p2) (spos := pos) (i := j) hc hN hy hyl hsw wI_pi ok gBk_pg tBk_pt eBk_pe hs
  refine wS_of pp (lcE_run (own := [(x, i)]) (lcN_read (fun z y => y = .fz (h z)) i hN ok hl hx hi hz hw (fun z hz Y hY => (step z hz Y hY).use ⟨bk1_wipe, rfl⟩) s) fun v H' ⟨l, G', ys, e1, s', hE⟩ => ?_)
  subst e1
  rw [each_fz hE] at s'
  obtain ⟨G2, s2⟩ := s'.frost
  rw [show dat (.own l ((xs.map h).map OD.fz)) = .lst (xs.map h) from by unfold dat; rw [dats_fz]] at s2
  exact ⟨G2, _, s2.set hlj, q⟩
end
end Vl

namespace Vl
open PySem PySem.Spec PyProof.Rows L2
def iBk (X : Cx) (scope : Scope) (tg iter : Expr) : TI := fun σ H Q => ∀ Y, Blk X scope Y → wI Y tg iter σ H Q
section
variable {X Y : Cx} {e a b c tg iter tg1 iter1 elt : Expr} {es ts ifs ifs1 : List Expr} {δ : En} {Q : OD → En → Prop} {P : DE} {pos p p2 p3 : Pos} {x y : Str} {scope : Scope}
theorem iBk_pi (s : Shared) (H : Hp) (C : Addr) (cl : List (Str × Addr)) (fp : List Addr) : PI (X.blk s H scope (compEnvC scope cl C X.env) fp) tg iter (iBk X scope tg iter) := ⟨fun pins s0 _ _ _ I h => h _ ⟨s, H, C, cl, fp, rfl⟩ pins s0 I⟩
theorem blk_K (hY : Blk X scope Y) : Y.K = X.K := by
  obtain ⟨s, H, C, cl, fp, rfl⟩ := hY
  rfl
variable {α β : Type} {xs : List α} {inner : α → List β} {g : α → D} {g1 : α → β → D} {h : α → β → D} {t1 : α → En} {t2 : α → β → En} {k1 : α → Bool} {k2 : α → β → Bool}
/-- what two loops in a comprehension make -/
def twoL (xs : List α) (inner : α → List β) (k1 : α → Bool) (k2 : α → β → Bool) (h : α → β → D) : List D := (xs.filter k1).flatMap fun z => ((inner z).filter (k2 z)).map (h z)
theorem lc2_read {own : List (Str × Nat)} {vs1 : List Nat} (hi : Ei X tg iter δ fun r δ1 => r = xs.map g ∧ δ1 = δ) (hw : feet (wipeE δ (own.map (·.2))) = feet δ) (hv1 : ∀ i ∈ vs1, i ∈ own.map (·.2))
    (e1 : ∀ z, wipeE (t1 z) (own.map (·.2)) = wipeE δ (own.map (·.2))) (e2 : ∀ z y, wipeE (t2 z y) vs1 = wipeE (t1 z) vs1) (f1 : ∀ z, feet (wipeE (t1 z) vs1) = feet (t1 z)) (f0 : ∀ z, feet (t1 z) = feet δ)
    (hg : ∀ z ∈ xs, ∀ Y, Blk X scope Y → Egb Y tg (own.map (·.2)) (g z) (wipeE δ (own.map (·.2))) fun δ2 => δ2 = t1 z)
    (ht : ∀ z ∈ xs, ∀ Y, Blk X scope Y → Ets Y ifs (t1 z) fun r δ' => r = k1 z ∧ δ' = t1 z)
    (hi1 : ∀ z ∈ xs, k1 z = true → ∀ Y, Blk X scope Y → Ei Y tg1 iter1 (t1 z) fun r δ1 => r = (inner z).map (g1 z) ∧ δ1 = t1 z)
    (hg1 : ∀ z ∈ xs, ∀ y ∈ inner z, ∀ Y, Blk X scope Y → Egb Y tg1 vs1 (g1 z y) (wipeE (t1 z) vs1) fun δ2 => δ2 = t2 z y)
    (ht1 : ∀ z ∈ xs, ∀ y ∈ inner z, ∀ Y, Blk X scope Y → Ets Y ifs1 (t2 z y) fun r δ' => r = k2 z y ∧ δ' = t2 z y)
    (he : ∀ z ∈ xs, ∀ y ∈ inner z, k1 z = true → k2 z y = true → ∀ Y, Blk X scope Y → Ed Y elt (t2 z y) (.fz (h z y)))
    (hz : (twoL xs inner k1 k2 h).length < 100000) {G H : Hp} {σ : L2.St} (s : Stt X.K G H σ δ) {R : VK}
    (hR : ∀ l G' H', Step X.K G H δ G' H' (some (.ref l) :: σ) (some (ol l (twoL xs inner k1 k2 h)) :: δ) → R (.ref l) H') :
    tLc2 (wI X tg iter) (gBk X scope tg) (tBk X scope ifs) (iBk X scope tg1 iter1) (gBk X scope tg1) (tBk X scope ifs1) (eBk X scope elt) (own.map (·.2)) vs1 σ H R := by
  refine (hi G H σ s).imp fun J H1 ⟨G1, ds', δ0, s1, ⟨ed, e0⟩, Gd, Yd, W, hG, hY⟩ => ?_
  subst ed
  subst e0
  intro l nl
  rw [List.length_map] at W
  -- the outer state
  let Pv : Nat → Hp → Prop := fun i H' => ∃ Gi, Step X.K G1 H1 δ0 Gi H' (some (.ref l) :: σ) (some (ol l (twoL (xs.take i) inner k1 k2 h)) :: δ0)
  have tw : ∀ i, (hlt : i < xs.length) → twoL (xs.take (i + 1)) inner k1 k2 h = twoL (xs.take i) inner k1 k2 h ++ (if k1 xs[i] = true then ((inner xs[i]).filter (k2 xs[i])).map (h xs[i]) else []) := fun i hlt => by
    unfold twoL
    rw [List.take_succ_eq_append_getElem hlt, List.filter_append, List.flatMap_append]
    congr 1
    by_cases hk : k1 xs[i] = true
    · simp [hk]
    · simp [hk]
  have twle : ∀ i, (twoL (xs.take i) inner k1 k2 h).length ≤ (twoL xs inner k1 k2 h).length := fun i => by
    have : twoL xs inner k1 k2 h = twoL (xs.take i) inner k1 k2 h ++ twoL (xs.drop i) inner k1 k2 h := by
      unfold twoL
      rw [← List.flatMap_append, ← List.filter_append, List.take_append_drop]
    rw [this, List.length_append]
    omega
  refine ⟨fun i m H' => m = xs.length - i ∧ i ≤ xs.length ∧ Pv i H', ⟨xs.length, by simp, Nat.zero_le _, G1, by
    have := s1.st.step.newOwn (ds := []) Reps.nil nl
    exact this⟩, ?_⟩
  rintro i m H' ⟨rfl, hile, Gi, si⟩
  have gd := hG H' (si.gr.g.trans si.st.ex)
  by_cases hlt : i < xs.length
  · refine .inr ⟨W.goes i H' hlt gd, Pv (i + 1), fun H'' p' => ⟨xs.length - (i + 1), by omega, rfl, hlt, p'⟩, fun v H3 yv => ?_⟩
    have yv := W.yields i H' v H3 hlt gd yv
    have hd : (xs.map g)[i]? = some (g xs[i]) := by simp [hlt]
    have hm : xs[i] ∈ xs := List.getElem_mem hlt
    obtain ⟨G3, g1', g2, g3, g4, rv⟩ := hY i H' v H3 Gi _ si.gr.g si.st.ex yv hd
    have sp := si.st.pop
    have t3 : Step X.K Gi H' (wipeE δ0 (own.map (·.2))) G3 H3 (wipe σ (own.map (·.2))) (wipeE δ0 (own.map (·.2))) := sp.wiped.step.grow g1' g2 g3 g4
    intro B hB
    refine (hg _ hm _ hB G3 H3 _ v (by rw [blk_K hB]; exact t3.st) (by rw [blk_K hB]; exact rv)).imp fun σ2 H2 ⟨q1, G2, δ2, s2, ed2⟩ => ?_
    subst ed2
    rw [blk_K hB] at s2
    have w1 : wipe σ2 (own.map (·.2)) = wipe σ (own.map (·.2)) := q1.trans wipe_wipe
    have u2 := t3.trans s2
    refine ⟨w1, fun B hB => ?_⟩
    refine (ht _ hm _ hB G2 H2 σ2 (by rw [blk_K hB]; exact s2.st)).imp fun r H4 ⟨G4, δ4, s4, er, e4⟩ => ?_
    subst er
    subst e4
    rw [blk_K hB] at s4
    have u4 := u2.trans s4
    cases hk : k1 xs[i] with
    | false =>
      rw [if_neg Bool.false_ne_true]
      have u := sp.unwipe u4 w1 (e1 _) (fun _ _ => rfl) rfl hw hw
      refine ⟨G4, ?_⟩
      rw [tw i hlt, hk, if_neg Bool.false_ne_true, List.append_nil]
      exact si.frame u
    | true =>
      rw [if_pos rfl]
      intro B hB
      refine (hi1 _ hm hk _ hB G4 H4 σ2 (by rw [blk_K hB]; exact s4.st)).imp fun J1 H5 ⟨G5, ds1, δ5, s5, ⟨ed5, e5⟩, it1⟩ => ?_
      subst ed5
      subst e5
      rw [blk_K hB] at s5 it1
      obtain ⟨Gd1, Y1, W1, hG1, hY1⟩ := it1
      rw [List.length_map] at W1
      have u5 := u4.trans s5
      have u50 := sp.unwipe u5 w1 (e1 _) (fun _ _ => rfl) rfl hw hw
      let Pw : Nat → Hp → Prop := fun j H' => ∃ Gj, Stt X.K Gj H' σ2 (t1 xs[i]) ∧ Same G5 Gj ∧ Step X.K G1 H1 δ0 Gj H' (some (.ref l) :: σ) (some (ol l (twoL (xs.take i) inner k1 k2 h ++ (((inner xs[i]).take j).filter (k2 xs[i])).map (h xs[i]))) :: δ0)
      refine ⟨fun j m H' => m = (inner xs[i]).length - j ∧ j ≤ (inner xs[i]).length ∧ Pw j H', ⟨_, rfl, Nat.zero_le _, G5, s5.st, Same.refl _, by
        have := si.frame u50
        simpa using this⟩, ?_⟩
      rintro j m H6 ⟨rfl, hjle, Gj, sj, gj, fj⟩
      have gd1 := hG1 H6 (gj.trans sj.ex)
      by_cases hj : j < (inner xs[i]).length
      · refine .inr ⟨W1.goes j H6 hj gd1, Pw (j + 1), fun H'' p' => ⟨_, by omega, rfl, hj, p'⟩, fun v H7 yv => ?_⟩
        have yv := W1.yields j H6 v H7 hj gd1 yv
        have hd1 : ((inner xs[i]).map (g1 xs[i]))[j]? = some (g1 xs[i] (inner xs[i])[j]) := by simp [hj]
        have hm1 : (inner xs[i])[j] ∈ inner xs[i] := List.getElem_mem hj
        obtain ⟨G7, a1, a2, a3, a4, rv7⟩ := hY1 j H6 v H7 Gj _ gj sj.ex yv hd1
        have t7 : Step X.K Gj H6 (wipeE (t1 xs[i]) vs1) G7 H7 (wipe σ2 vs1) (wipeE (t1 xs[i]) vs1) := sj.wiped.step.grow a1 a2 a3 a4
        intro B hB
        refine (hg1 _ hm _ hm1 _ hB G7 H7 _ v (by rw [blk_K hB]; exact t7.st) (by rw [blk_K hB]; exact rv7)).imp fun σ3 H8 ⟨q8, G8, δ8, s8, e8⟩ => ?_
        subst e8
        rw [blk_K hB] at s8
        have w8 : wipe σ3 vs1 = wipe σ2 vs1 := q8.trans wipe_wipe
        have u8 := t7.trans s8
        refine ⟨w8, fun B hB => ?_⟩
        refine (ht1 _ hm _ hm1 _ hB G8 H8 σ3 (by rw [blk_K hB]; exact s8.st)).imp fun r H9 ⟨G9, δ9, s9, er9, e9⟩ => ?_
        subst er9
        subst e9
        rw [blk_K hB] at s9
        have u9 := u8.trans s9
        have back : ∀ {G' H' : Hp}, Step X.K Gj H6 (wipeE (t1 xs[i]) vs1) G' H' σ3 (t2 xs[i] (inner xs[i])[j]) → Step X.K Gj H6 (t1 xs[i]) G' H' σ2 (t1 xs[i]) := fun t => sj.unwipe t w8 (e2 _ _) (fun _ _ => rfl) rfl (f1 _) (f1 _)
        -- the same, seen from outside
        have outer : ∀ {G' H' : Hp}, Step X.K Gj H6 (t1 xs[i]) G' H' σ2 (t1 xs[i]) → Step X.K Gj H6 δ0 G' H' σ δ0 := fun {G' H'} t => by
          have ww : feet (wipeE δ0 (own.map (·.2))) = feet (t1 xs[i]) := hw.trans (f0 _).symm
          have q : Step X.K Gj H6 (wipeE δ0 (own.map (·.2))) G' H' σ2 (t1 xs[i]) := ⟨t.st, by rw [ww]; exact t.gr, fun b hb => by rw [ww]; exact t.ft b hb⟩
          exact fj.st.pop.unwipe q w1 (e1 _) (fun _ _ => rfl) rfl hw hw
        have tj : ∀ ys : List β, ys = (inner xs[i]).take (j + 1) → ys = (inner xs[i]).take j ++ [(inner xs[i])[j]] := fun ys e => by rw [e, List.take_succ_eq_append_getElem hj]
        cases hk2 : k2 xs[i] (inner xs[i])[j] with
        | false =>
          rw [if_neg Bool.false_ne_true]
          have bk := back u9
          refine ⟨G9, bk.st, gj.trans bk.gr.g, ?_⟩
          rw [List.take_succ_eq_append_getElem hj, List.filter_append, List.filter_cons_of_neg (by simp [hk2]), List.filter_nil, List.append_nil]
          exact fj.trans (fj.st.step.frame (outer bk))
        | true =>
          rw [if_pos rfl]
          intro B hB
          refine (he _ hm _ hm1 hk hk2 _ hB G9 H9 σ3 (by rw [blk_K hB]; exact s9.st)).imp fun v10 H10 ⟨z, G10, δ10, s10, ez, e10⟩ => ?_
          subst ez
          subst e10
          rw [blk_K hB] at s10
          have rz := top_fz s10.st rfl
          have bk := back (u9.trans s10.pop)
          have fr := fj.st.step.frame (outer bk)
          obtain ⟨_, ws, hl1, rs1⟩ := own_run (i := 0) fr.st rfl
          have fin := Step.own (i := 0) (es := twoL (xs.take i) inner k1 k2 h ++ (((inner xs[i]).take j).filter (k2 xs[i])).map (h xs[i]) ++ [h xs[i] (inner xs[i])[j]]) fr.st rfl (Reps.app rs1 (Reps.cons rz Reps.nil))
          have lG : G10 l = none := (fr.st.off l (by rw [feet_some]; refine List.mem_append_left _ ?_; unfold ol; rw [foot_own]; exact List.mem_cons_self)).1
          have grow : Stt X.K G10 (upd H10 l (.lst (ws ++ [v10]))) σ2 (t1 xs[i]) := by
            have lno : l ∉ feet (t1 xs[i]) := by
              rw [f0]
              have nd := fj.st.nd
              rw [feet_some] at nd
              intro hc
              exact (List.nodup_append.mp nd).2.2 l (by unfold ol; rw [foot_own]; exact List.mem_cons_self) l hc rfl
            refine bk.st.keep (Same.refl _) (fun b o e => ?_) (fun b hb o e => ?_) fun b hb => (bk.st.off b hb).1
            · rw [upd_ne (fun q => by rw [q, lG] at e; cases e)]
              exact bk.st.ex b o e
            · rw [upd_ne (fun q => by subst q; exact lno hb)]
              exact e
          refine ⟨ws, hl1, ?_, G10, grow, gj.trans bk.gr.g, ?_⟩
          · have := twle (i + 1)
            rw [tw i hlt, hk, if_pos rfl, List.length_append, List.length_map] at this
            have l1 : (((inner xs[i]).take j).filter (k2 xs[i])).length ≤ ((inner xs[i]).filter (k2 xs[i])).length := (List.Sublist.filter _ (List.take_sublist _ _)).length_le
            rw [rs1.length, sizeLine_eq, List.length_append, List.length_map]
            omega
          · rw [List.take_succ_eq_append_getElem hj, List.filter_append, List.filter_cons_of_pos (by simp [hk2]), List.filter_nil, List.map_append, ← List.append_assoc]
            exact fj.trans (fr.trans fin)
      · have ej : j = (inner xs[i]).length := by omega
        subst ej
        refine .inl ⟨W1.stops H6 gd1, Gj, ?_⟩
        rw [tw i hlt, hk, if_pos rfl]
        rw [List.take_length] at fj
        exact fj
  · have e : i = xs.length := by omega
    subst e
    refine .inl ⟨W.stops H' gd, hR l Gi H' ?_⟩
    have := s1.trans si
    rw [List.take_length] at this
    exact this
theorem ed_lc2 {own : List (Str × Nat)} {vs1 : List Nat} (hc : X.calm = true) (hN : X.N.Nodup) (ok : BlkOk X.N X.env.scope scope own) (hi : Ei X tg iter δ fun r δ1 => r = xs.map g ∧ δ1 = δ) (hw : feet (wipeE δ (own.map (·.2))) = feet δ) (hv1 : ∀ i ∈ vs1, i ∈ own.map (·.2))
    (e1 : ∀ z, wipeE (t1 z) (own.map (·.2)) = wipeE δ (own.map (·.2))) (e2 : ∀ z y, wipeE (t2 z y) vs1 = wipeE (t1 z) vs1) (f1 : ∀ z, feet (wipeE (t1 z) vs1) = feet (t1 z)) (f0 : ∀ z, feet (t1 z) = feet δ)
    (hg : ∀ z ∈ xs, ∀ Y, Blk X scope Y → Egb Y tg (own.map (·.2)) (g z) (wipeE δ (own.map (·.2))) fun δ2 => δ2 = t1 z)
    (ht : ∀ z ∈ xs, ∀ Y, Blk X scope Y → Ets Y ifs (t1 z) fun r δ' => r = k1 z ∧ δ' = t1 z)
    (hi1 : ∀ z ∈ xs, k1 z = true → ∀ Y, Blk X scope Y → Ei Y tg1 iter1 (t1 z) fun r δ1 => r = (inner z).map (g1 z) ∧ δ1 = t1 z)
    (hg1 : ∀ z ∈ xs, ∀ y ∈ inner z, ∀ Y, Blk X scope Y → Egb Y tg1 vs1 (g1 z y) (wipeE (t1 z) vs1) fun δ2 => δ2 = t2 z y)
    (ht1 : ∀ z ∈ xs, ∀ y ∈ inner z, ∀ Y, Blk X scope Y → Ets Y ifs1 (t2 z y) fun r δ' => r = k2 z y ∧ δ' = t2 z y)
    (he : ∀ z ∈ xs, ∀ y ∈ inner z, k1 z = true → k2 z y = true → ∀ Y, Blk X scope Y → Ed Y elt (t2 z y) (.fz (h z y)))
    (hz : (twoL xs inner k1 k2 h).length < 100000) (q : ∀ l, Q (ol l (twoL xs inner k1 k2 h)) δ) (hs : ∀ x, foldedSetIterable iter X.env x = pure x := by intro _; rfl) (hs1 : ∀ env x, foldedSetIterable iter1 env x = pure x := by intro _ _; rfl) :
    Ev X (.ListComp elt [⟨tg, iter, ifs, 0⟩, ⟨tg1, iter1, ifs1, 0⟩] scope pos) δ Q := fun G H σ s => by
  have pp := pe_lc2 (X := X) (pos := pos) hc hN wI_pi ok hv1 (gBk_pg (X := X) (tg := tg)) (tBk_pt (X := X) (ifs := ifs)) (iBk_pi (X := X) (tg := tg1) (iter := iter1)) (gBk_pg (X := X) (tg := tg1)) (tBk_pt (X := X) (ifs := ifs1)) (eBk_pe (X := X) (elt := elt)) hs hs1
  exact wE_of pp (lc2_read hi hw hv1 e1 e2 f1 f0 hg ht hi1 hg1 ht1 he hz s fun l G' H' s' => ⟨_, G', δ, s', q l⟩)
/-- [elt for x in iter for y in iter1] -/
theorem ed_lc2N (i j : Nat) {px py : Pos} (hc : X.calm = true) (hN : X.N.Nodup) (ok : BlkOk X.N X.env.scope scope [(x, i), (y, j)]) (hl : i < δ.length) (hl2 : j < δ.length) (hx : scope.names.lookup x = some .local) (hy : scope.names.lookup y = some .local) (hij : i ≠ j)
    (hi : Ei X (.Name x px) iter δ fun r δ1 => r = xs.map g ∧ δ1 = δ) (hw : feet (wipeE δ [i, j]) = feet δ) (hwz : ∀ z, feet (((wipeE δ [i, j]).set i (some (.fz (g z))))) = feet δ) (hwz2 : ∀ z, wipeE ((wipeE δ [i, j]).set i (some (.fz (g z)))) [j] = (wipeE δ [i, j]).set i (some (.fz (g z))))
    (hi1 : ∀ z ∈ xs, ∀ Y, Blk X scope Y → Ei Y (.Name y py) iter1 ((wipeE δ [i, j]).set i (some (.fz (g z)))) fun r δ1 => r = (inner z).map (g1 z) ∧ δ1 = (wipeE δ [i, j]).set i (some (.fz (g z))))
    (he : ∀ z ∈ xs, ∀ y ∈ inner z, ∀ Y, Blk X scope Y → Ed Y elt (((wipeE δ [i, j]).set i (some (.fz (g z)))).set j (some (.fz (g1 z y)))) (.fz (h z y)))
    (hz : (xs.flatMap fun z => (inner z).map (h z)).length < 100000) (q : ∀ l, Q (ol l (xs.flatMap fun z => (inner z).map (h z))) δ) (hs : ∀ x, foldedSetIterable iter X.env x = pure x := by intro _; rfl) (hs1 : ∀ env x, foldedSetIterable iter1 env x = pure x := by intro _ _; rfl) :
    Ev X (.ListComp elt [⟨.Name x px, iter, [], 0⟩, ⟨.Name y py, iter1, [], 0⟩] scope pos) δ Q := by
  have e0 : (xs.flatMap fun z => (inner z).map (h z)) = twoL xs inner (fun _ => true) (fun _ _ => true) h := by
    unfold twoL
    rw [List.filter_eq_self.mpr (by simp)]
    simp only [List.filter_eq_self.mpr (fun _ _ => rfl)]
  rw [e0] at hz q
  refine ed_lc2 (own := [(x, i), (y, j)]) (vs1 := [j]) (t1 := fun z => (wipeE δ [i, j]).set i (some (.fz (g z)))) (t2 := fun z w => ((wipeE δ [i, j]).set i (some (.fz (g z)))).set j (some (.fz (g1 z w)))) (k1 := fun _ => true) (k2 := fun _ _ => true) hc hN ok hi hw (by simp) (fun z => ?_) (fun z w => wipeE_set (by simp)) (fun z => by rw [hwz2]) hwz (fun z hz Y hY => ?_) (fun z hz Y hY => ets_nil ⟨rfl, rfl⟩) (fun z hz _ => hi1 z hz) (fun z hz w hw Y hY => ?_) (fun z hz w hw Y hY => ets_nil ⟨rfl, rfl⟩) (fun z hz w hw _ _ => he z hz w hw) hz q hs hs1
  · show wipeE _ [i, j] = wipeE δ [i, j]
    rw [wipeE_set (by simp), wipeE_wipe]
  · exact egb_name i (by rw [blk_N hY]; exact hN) (by rw [blk_N hY]; exact ok.ix (x, i) (by simp)) (.inl (blk_loc hx hY)) (by rw [wipeE_length]; exact hl) (by simp) rfl (.inr (blk_loc hx hY))
  · rw [hwz2]
    exact egb_name j (by rw [blk_N hY]; exact hN) (by rw [blk_N hY]; exact ok.ix (y, j) (by simp)) (.inl (blk_loc hy hY)) (by rw [List.length_set, wipeE_length]; exact hl2) (by simp) rfl (.inr (blk_loc hy hY))
end
end Vl

namespace Vl
open PySem PySem.Spec PyProof.Rows L2
/-! ### repr -/
mutual
def Shw : D → Prop
  | .non => True
  | .bl _ => True
  | .int i => i.natAbs < 2 ^ 1900
  | .str s => ∀ c ∈ s.cps.toList, c < 16 ^ 8
  | .lst ds => Shws ds
  | .tup ds => Shws ds
  | .op _ => False
  | .rol _ => False
def Shws : List D → Prop
  | [] => True
  | d :: ds => Shw d ∧ Shws ds
end
mutual
def blk : D → Nat
  | .lst ds => blks ds
  | .tup ds => blks ds
  | .str s => s.cps.size
  | .non => 0
  | .bl _ => 0
  | .int _ => 0
  | .op _ => 0
  | .rol _ => 0
def blks : List D → Nat
  | [] => 0
  | d :: ds => blk d + 1 + blks ds
end
mutual
def dep : D → Nat
  | .lst ds => deps ds + 1
  | .tup ds => deps ds + 1
  | .str _ => 0
  | .non => 0
  | .bl _ => 0
  | .int _ => 0
  | .op _ => 0
  | .rol _ => 0
def deps : List D → Nat
  | [] => 0
  | d :: ds => max (dep d) (deps ds)
end
mutual
theorem Shw.py : ∀ d : D, Shw d → ∃ x, py d = some x ∧ x.showable = true ∧ x.hasDict = false ∧ x.leavesShort 1921 = true ∧ x.bulk = blk d ∧ x.depth = dep d
  | .non, _ => ⟨.none, by unfold Vl.py; rfl, rfl, rfl, rfl, by unfold blk; rfl, by unfold dep; rfl⟩
  | .bl b, _ => ⟨.bool b, by unfold Vl.py; rfl, rfl, rfl, rfl, by unfold blk; rfl, by unfold dep; rfl⟩
  | .int i, h => by
    unfold Shw at h
    have l1 : i.natAbs.log2 < 1900 := PySem.Flt.log2_lt_of (by decide) h
    refine ⟨.int i, by unfold Vl.py; rfl, ?_, rfl, ?_, by unfold blk; rfl, by unfold dep; rfl⟩
    · show decide (i.natAbs.log2 < 1920) = true
      exact decide_eq_true (by omega)
    · have e := int_text_length_le (k := 1900) (by decide) l1
      show decide ((PyData.shown (.int i)).length ≤ 1921) = true
      refine decide_eq_true ?_
      show (Str.ofString (toString i)).length ≤ 1921
      rw [PySem.ofString_length]
      omega
  | .str s, h => by
    unfold Shw at h
    refine ⟨.str s, by unfold Vl.py; rfl, rfl, rfl, ?_, by unfold blk; rfl, by unfold dep; rfl⟩
    show (s.cps.toList.all fun c => decide (c < 16 ^ 8)) = true
    exact List.all_eq_true.mpr fun c hc => decide_eq_true (h c hc)
  | .lst ds, h => by
    unfold Shw at h
    obtain ⟨xs, h1, h2, h3, h4, h5, h6⟩ := Shws.py ds h
    refine ⟨.list xs, by unfold Vl.py; rw [h1]; rfl, h2, h3, h4, ?_, ?_⟩
    · unfold blk; exact h5
    · unfold dep; rw [← h6]; rfl
  | .tup ds, h => by
    unfold Shw at h
    obtain ⟨xs, h1, h2, h3, h4, h5, h6⟩ := Shws.py ds h
    refine ⟨.tuple xs, by unfold Vl.py; rw [h1]; rfl, h2, h3, h4, ?_, ?_⟩
    · unfold blk; exact h5
    · unfold dep; rw [← h6]; rfl
  | .op _, h => by unfold Shw at h; exact h.elim
  | .rol _, h => by unfold Shw at h; exact h.elim
theorem Shws.py : ∀ ds : List D, Shws ds → ∃ xs, pys ds = some xs ∧ PyData.showableAll xs = true ∧ PyData.hasDictAll xs = false ∧ PyData.leavesShortAll 1921 xs = true ∧ PyData.bulkAll xs = blks ds ∧ PyData.depthAll xs = deps ds
  | [], _ => ⟨[], by unfold pys; rfl, rfl, rfl, rfl, by unfold blks; rfl, by unfold deps; rfl⟩
  | d :: ds, h => by
    unfold Shws at h
    obtain ⟨x, h1, h2, h3, h4, h5, h6⟩ := Shw.py d h.1
    obtain ⟨xs, a1, a2, a3, a4, a5, a6⟩ := Shws.py ds h.2
    refine ⟨x :: xs, by unfold pys; rw [h1, a1]; rfl, ?_, ?_, ?_, ?_, ?_⟩
    · show (x.showable && PyData.showableAll xs) = true
      rw [h2, a2]; rfl
    · show (x.hasDict || PyData.hasDictAll xs) = false
      rw [h3, a3]; rfl
    · show (x.leavesShort 1921 && PyData.leavesShortAll 1921 xs) = true
      rw [h4, a4]; rfl
    · unfold blks
      rw [← h5, ← a5]; rfl
    · unfold deps
      rw [← h6, ← a6]; rfl
end
/-- the text of data -/
def rp (d : D) : Str := ((py d).getD .none).shown
def rRepr (K : PySem.W.Frag) : List V → Hp → VK → Prop := fun vs H Q => ∃ (a : Addr) (x : PyData), vs = [.ref a] ∧ Dp K H (.ref a) x ∧ x.showable = true ∧ x.hasDict = false ∧ x.depth ≤ 60 ∧ x.shown.length ≤ sizeLine ∧ Q (.str x.shown) H
section
variable {X : Cx} {e a b c tg iter elt : Expr} {es rest : List Expr} {st : Stmt} {sts bd : List Stmt} {δ : En} {pos p : Pos} {S : OD → Prop} {P : DE} {x : OD} {k k2 : Bool}
theorem cr_repr (hg : X.A.guards = some []) (hu : X.A.units + 64 < cLine) : CallR X (.builtin "repr") (rRepr X.K) := by
  intro pins s σ H vs us Q I r h
  obtain ⟨a, x, rfl, hd, hs, hn, hp, hz, q⟩ := h
  cases r with
  | cons r rr =>
    cases rr
    cases r
    obtain ⟨as, r1⟩ := Dp.reads I x (.ref a) (.ref a) hd rfl
    exact repr_of_reads' r1 hs (fun e => by rw [hn] at e; cases e) hg (by omega) (fun _ _ e => e) (fun h' u tk hk => ⟨.str _, H, I.kept (t' := tk) hk, ⟨_, rfl⟩, q⟩) hz
theorem cd_repr {d : D} (hg : X.A.guards = some []) (hu : X.A.units + 64 < cLine) (hs : Shw d) (hl : (∃ ds, d = .lst ds) ∨ ∃ ds, d = .tup ds) (hd : dep d ≤ 60) (hb : blk d ≤ 8000) (q : S (.fz (.str (rp d)))) : CD X (.builtin "repr") [d] S := ⟨_, cr_repr hg hu, fun G H vs kk s rs z => by
  obtain ⟨x, h1, h2, h3, h4, h5, h6⟩ := hs.py
  have er : rp d = x.shown := by unfold rp; rw [h1]; rfl
  unfold Reps at rs
  obtain ⟨v, r, rfl, r1, rn⟩ := rs
  unfold Reps at rn
  subst rn
  have dp := Rep.dp s d v x r1 h1
  obtain ⟨ad, rfl⟩ : ∃ ad, v = .ref ad := by
    rcases hl with ⟨ds, rfl⟩ | ⟨ds, rfl⟩
    · unfold Rep at r1
      exact ⟨_, r1.choose_spec.choose_spec.1⟩
    · unfold Rep at r1
      exact ⟨_, r1.choose_spec.choose_spec.1⟩
  refine ⟨ad, x, rfl, dp, h2, h3, by omega, ?_, z (.str (rp d)) _ G H q (Same.refl _) (Same.refl _) s (fun _ h => .inl h) (by unfold Rep; rw [er])⟩
  have := PyData.shown_le_bulk 1921 (by decide) x h4
  rw [sizeLine_eq]
  have : (1921 + 2) * x.bulk ≤ 1923 * 8000 := Nat.mul_le_mul (by decide) (by omega)
  omega⟩
theorem eq_S {s1 s2 : Str} (q : S (.fz (.bl (decide (s1 = s2))))) : RD X (compareOp .Eq) (.fz (.str s1)) (.fz (.str s2)) S := ⟨_, op_eq, _, _, rfl, rfl, fun G H v1 v2 k s r1 r2 z => by
  unfold Rep at r1 r2
  subst r1
  subst r2
  refine ⟨rfl, z (.bl (decide (s1 = s2))) _ G H q (Same.refl _) (Same.refl _) s (fun _ h => .inl h) ?_⟩
  unfold Rep
  rw [show decide (V.str s1 = V.str s2) = decide (s1 = s2) by simp]⟩
theorem ne_S {s1 s2 : Str} (q : S (.fz (.bl (!decide (s1 = s2))))) : RD X (compareOp .NotEq) (.fz (.str s1)) (.fz (.str s2)) S := ⟨_, op_ne, _, _, rfl, rfl, fun G H v1 v2 k s r1 r2 z => by
  unfold Rep at r1 r2
  subst r1
  subst r2
  refine ⟨rfl, z (.bl (!decide (s1 = s2))) _ G H q (Same.refl _) (Same.refl _) s (fun _ h => .inl h) ?_⟩
  unfold Rep
  rw [show decide (V.str s1 = V.str s2) = decide (s1 = s2) by simp]⟩
/-! ### known tests -/
theorem Ew.use {R : Bool → En → Prop} (h : Edw X e δ k) (q : R k δ) : Ew X e δ R := fun G H σ s => (h G H σ s).imp fun r H1 ⟨G1, d1, s1, e1, e2⟩ => by subst e1; subst e2; exact ⟨G1, _, s1, q⟩
theorem ed_andF (ha : Ed X a δ (.fz (.bl k))) (hk : k = false) : Ed X (.BoolOp .And (a :: b :: rest) pos) δ (.fz (.bl false)) :=
  ev_and (ha.use ⟨k, rfl, fun q => (by rw [hk] at q; cases q), fun _ => ⟨rfl, rfl⟩⟩)
theorem ed_andT (ha : Ed X a δ (.fz (.bl k))) (hk : k = true) (hb : Ed X (.BoolOp .And (b :: rest) pos) δ x) : Ed X (.BoolOp .And (a :: b :: rest) pos) δ x :=
  ev_and (ha.use ⟨k, rfl, fun _ => hb.use ⟨rfl, rfl⟩, fun q => (by rw [hk] at q; cases q)⟩)
theorem ed_orT (ha : Ed X a δ (.fz (.bl k))) (hk : k = true) : Ed X (.BoolOp .Or (a :: b :: rest) pos) δ (.fz (.bl true)) :=
  ev_or (ha.use ⟨k, rfl, fun q => (by rw [hk] at q; cases q), fun _ => ⟨rfl, rfl⟩⟩)
theorem ed_orF (ha : Ed X a δ (.fz (.bl k))) (hk : k = false) (hb : Ed X (.BoolOp .Or (b :: rest) pos) δ x) : Ed X (.BoolOp .Or (a :: b :: rest) pos) δ x :=
  ev_or (ha.use ⟨k, rfl, fun _ => hb.use ⟨rfl, rfl⟩, fun q => (by rw [hk] at q; cases q)⟩)
theorem ed_andWF (ha : Edt X a δ k) (hk : k = false) : Edw X (.BoolOp .And (a :: b :: rest) pos) δ false :=
  ew_and (ha.use ⟨fun q => (by rw [hk] at q; cases q), fun _ => ⟨rfl, rfl⟩⟩)
theorem ed_andWT (ha : Edt X a δ k) (hk : k = true) (hb : Edw X (.BoolOp .And (b :: rest) pos) δ k2) : Edw X (.BoolOp .And (a :: b :: rest) pos) δ k2 :=
  ew_and (ha.use ⟨fun _ => Ew.use hb ⟨rfl, rfl⟩, fun q => (by rw [hk] at q; cases q)⟩)
theorem ed_orWT (ha : Edt X a δ k) (hk : k = true) : Edw X (.BoolOp .Or (a :: b :: rest) pos) δ true :=
  ew_or (ha.use ⟨fun q => (by rw [hk] at q; cases q), fun _ => ⟨rfl, rfl⟩⟩)
theorem ed_orWF (ha : Edt X a δ k) (hk : k = false) (hb : Edw X (.BoolOp .Or (b :: rest) pos) δ k2) : Edw X (.BoolOp .Or (a :: b :: rest) pos) δ k2 :=
  ew_or (ha.use ⟨fun _ => Ew.use hb ⟨rfl, rfl⟩, fun q => (by rw [hk] at q; cases q)⟩)
theorem ed_ifT (hc : Edt X c δ k) (hk : k = true) (h1 : Ed X a δ x) : Ed X (.IfExp c a b pos) δ x :=
  ev_if (hc.use ⟨fun _ => h1.use ⟨rfl, rfl⟩, fun q => (by rw [hk] at q; cases q)⟩)
theorem ed_ifF (hc : Edt X c δ k) (hk : k = false) (h1 : Ed X b δ x) : Ed X (.IfExp c a b pos) δ x :=
  ev_if (hc.use ⟨fun q => (by rw [hk] at q; cases q), fun _ => h1.use ⟨rfl, rfl⟩⟩)
theorem es_ifT (hc : Edt X c δ k) (hk : k = true) (h1 : Eb X sts δ P) : Es X (.If c sts bd pos) δ P := es_if (hc.use ⟨fun _ => h1, fun q => (by rw [hk] at q; cases q)⟩)
theorem es_ifF (hc : Edt X c δ k) (hk : k = false) (h2 : Eb X bd δ P) : Es X (.If c sts bd pos) δ P := es_if (hc.use ⟨fun q => (by rw [hk] at q; cases q), fun _ => h2⟩)
/-- a number or None -/
def oI : Option Int → D
  | none => .non
  | some i => .int i
theorem isN_O {o : Option Int} (q : S (.fz (.bl o.isNone))) : RD X (compareOp .Is) (.fz (oI o)) (.fz .non) S := by
  cases o with
  | none => exact isN_non q
  | some i => exact isN_int q
theorem notN_O {o : Option Int} (q : S (.fz (.bl o.isSome))) : RD X (compareOp .IsNot) (.fz (oI o)) (.fz .non) S := by
  cases o with
  | none => exact notN_non q
  | some i => exact notN_int q
end
end Vl

namespace Vl
open PySem PySem.Spec PyProof.Rows L2
/-! ### calls by name -/
/-- a callee with its def at hand -/
structure ClS (P : Program) (w : World) (K : PySem.W.Frag) (mg : Str → Option Value) (base : Heap) (k : Nat) (nm : Str) (st : Stmt) (ps : List Str) (C : Con) : Prop where
  ex : ∃ f fd, Fun K nm nm st f fd ∧ FnG P w K mg base k f fd ps (spC K C) ∧ mg nm = some (.ref f) ∧ PySem.W.keepIn K (.ref f) = true ∧ Binds K fd ps []
section
variable {P : Program} {w : World} {K : PySem.W.Frag} {mg : Str → Option Value} {base : Heap} {k j : Nat} {nm : Str} {ps N : List Str} {C : Con} {st : Stmt}
theorem ClS.cl (c : ClS P w K mg base k nm st ps C) : Cl P w K mg base k nm ps C := by
  obtain ⟨f, fd, F, r⟩ := c.ex
  exact ⟨f, fd, r⟩
theorem ClS.mono (c : ClS P w K mg base j nm st ps C) (h : j ≤ k) : ClS P w K mg base k nm st ps C := by
  obtain ⟨f, fd, F, G, r⟩ := c.ex
  exact ⟨f, fd, F, G.mono h, r⟩
theorem Def.clS (D : Def K mg nm st ps) (S : FnScope N ps (defScope st)) (len : ∀ i, (C.args i).length = ps.length)
    (body : ∀ (f : Addr) (cdv : Value) (A : Around) (outer : List Env) (s : Shared) (H : Hp) (E : XK) (i : C.ι), A.guards = some [] → Room k (A.deeper (envOfC nm (defScope st) s.heap.objs.size f cdv)) → C.pre i →
      Eb (cxOf CX0 P w K mg base N nm (defScope st) f cdv A outer s H E).nox (defBody st) (ens (C.args i) ++ List.replicate (N.length - (C.args i).length) none)
        { nx := fun δ' => ∃ xs', KeepA (C.args i) xs' δ' ∧ C.out i (.fz .non) xs', rt := fun y δ' => ∃ xs', KeepA (C.args i) xs' δ' ∧ C.out i y xs' }) : ClS P w K mg base (k + 1) nm st ps C := by
  obtain ⟨f, fd, F, g, b⟩ := D.ex
  exact ⟨f, fd, F, fn_con F S len (body f), g, F.kp, b⟩
end
def pick {α : Type} (idx : List Nat) (xs : List α) : List α := idx.filterMap (xs[·]?)
theorem pick_cons {α : Type} {i : Nat} {idx : List Nat} {xs : List α} {a : α} (h : xs[i]? = some a) : pick (i :: idx) xs = a :: pick idx xs := by
  unfold pick
  rw [List.filterMap_cons, h]
theorem pick_vals {vs : List V} {us : List Value} (r : Vals vs us) : ∀ idx : List Nat, (∀ i ∈ idx, i < vs.length) → Vals (pick idx vs) (pick idx us)
  | [], _ => .nil
  | i :: idx, h => by
    have hi := h i List.mem_cons_self
    obtain ⟨u, hu, ru⟩ := r.get (show vs[i]? = some vs[i] by simp [hi])
    rw [pick_cons (show vs[i]? = some vs[i] by simp [hi]), pick_cons hu]
    exact .cons ru (pick_vals r idx fun j hj => h j (List.mem_cons_of_mem _ hj))
theorem pick_reps {K : PySem.W.Frag} {G : Hp} {σ : L2.St} {as : List AR} {vs : List V} (r : RepAs K G σ as vs) : ∀ idx : List Nat, (∀ i ∈ idx, i < as.length) → RepAs K G σ (pick idx as) (pick idx vs)
  | [], _ => by
    show RepAs K G σ [] []
    unfold RepAs
    rfl
  | i :: idx, h => by
    have hi := h i List.mem_cons_self
    obtain ⟨v, hv, rv⟩ := repAs_get r (show as[i]? = some as[i] by simp [hi])
    rw [pick_cons (show as[i]? = some as[i] by simp [hi]), pick_cons hv]
    unfold RepAs
    exact ⟨v, _, rfl, rv, pick_reps r idx fun j hj => h j (List.mem_cons_of_mem _ hj)⟩
def wK (X : Cx) (kws : List Keyword) : TA := fun σ H Q => ∀ (pos : Pos) pins s, Inv X pins σ H s → wpAny (model X.prog X.w) X.A (evalAll ((backToKw pos (keywordEach kws X.env)).map (·.2))) (AP X pins σ Q) X.xe s
/-- the keywords' values -/
def Ek (X : Cx) (kws : List Keyword) (δ : En) (Q : List AR → En → Prop) : Prop := ∀ G H σ, Stt X.K G H σ δ → wK X kws σ H (PostA X.K G H σ δ Q)
section
variable {X : Cx} {e : Expr} {kws : List Keyword} {δ : En} {Q : OD → En → Prop} {pos p kpos : Pos} {nm : Str} {ps ks : List Str} {C : Con} {k : Nat} {st : Stmt} {n : Option Str}
theorem wK_pk : PK X kws (wK X kws) := ⟨fun pos pins s _ _ _ I h => h pos pins s I⟩
theorem wK_of {t : TA} {σ : L2.St} {H : Hp} {R : List V → Hp → Prop} (h : PK X kws t) (q : t σ H R) : wK X kws σ H R := fun pos pins s I => h.run pos pins s σ H R I q
theorem wK.imp {σ : L2.St} {H : Hp} {R R' : List V → Hp → Prop} (h : wK X kws σ H R) (q : ∀ v H', R v H' → R' v H') : wK X kws σ H R' := fun pos pins s I =>
  thn (h pos pins s I) fun _ _ ⟨v, H', I', r, z⟩ => ⟨v, H', I', r, q v H' z⟩
theorem ek_nil {Q : List AR → En → Prop} (q : Q [] δ) : Ek X [] δ Q := fun G H σ s => wK_of pk_nil ⟨[], G, δ, s.step, by unfold RepAs; rfl, q⟩
theorem ek_cons {Q : List AR → En → Prop} (h : Ev X e δ fun x δ1 => ∃ d, x = .fz d ∧ Ek X kws δ1 fun xs => Q (.d d :: xs)) : Ek X (⟨n, e, kpos⟩ :: kws) δ Q := fun G H σ s =>
  wK_of (pk_cons wE_pe wK_pk) ((h G H σ s).imp fun v H1 ⟨x, G1, d1, s1, d, e1, h2⟩ => by
    have r := top_fz s1.st e1
    refine (h2 G1 H1 σ s1.st.pop).imp fun vs H2 ⟨xs, G2, d2, s2, rs, q⟩ => ?_
    exact ⟨.d d :: xs, G2, d2, s1.pop.trans s2, by unfold RepAs RepA; exact ⟨v, vs, rfl, Rep.mono s2.gr.g d v r, rs⟩, q⟩)
/-- f(k = e, ..), nothing by position -/
theorem ev_clK (c : ClS X.prog X.w X.K X.mg X.base k nm st ps C) (hgd : X.A.guards = some []) (hr : Room k X.A) (hg : Gl X nm) (idx : List Nat)
    (kb : ∀ f fd, Fun X.K nm nm st f fd → ∀ (s : Shared) (ws : List Value), ws.length = ks.length → BindsTo s fd ⟨[], ks.zip ws⟩ (ps.zip (pick idx ws))) (hix : ∀ i ∈ idx, i < ks.length)
    (h : Ek X kws δ fun as δ1 => as.length = ks.length ∧ ∃ i, resolve δ1 (pick idx as) = some (C.args i) ∧ (foots (C.args i)).Nodup ∧ C.pre i ∧ ∀ y xs', xs'.map foot = (C.args i).map foot → C.out i y xs' → Q y (upds δ1 (pick idx as) xs'))
    (hdb : (nm == ("__debug__" : Str)) = false := by decide) (hall : (backToKw pos (keywordEach kws X.env)).all (·.1.isSome) = true := by rfl) (hks : (backToKw pos (keywordEach kws X.env)).filterMap (·.1) = ks := by rfl)
    (hpl : ((backTo pos (starEach [] X.env)).any (·.1) || (backToKw pos (keywordEach kws X.env)).any (·.1.isNone)) = false := by rfl) : Ev X (.Call (.Name nm p) [] kws pos) δ Q := fun G H σ s => by
  obtain ⟨f, fd, Fn, F, hm, hk, hb⟩ := c.ex
  intro pins s0 I
  refine wpAny_Call_Name_kw (ld_glob I hg hm ?_ hdb)
  refine PySem.W.callWith_KW0 (h₀ := X.base) I.ok.mod.kin hk hall (thn (h G H σ s pos pins s0 I) fun us s1 ⟨vs, H1, I1, r1, as, G1, δ1, t1, rs, hl, i, hx, nd, hp, q⟩ => ⟨I1.kIn, ?_⟩) hpl
  rw [hks]
  have lv : vs.length = ks.length := (repAs_len rs).trans hl
  have rp := pick_vals r1 idx fun j hj => by rw [lv]; exact hix j hj
  have ra := pick_reps rs idx fun j hj => by rw [hl]; exact hix j hj
  have hsp : spC X.K C (pick idx vs) H1 (Post X.K G H σ δ Q) E0 := ⟨G1, i, args_st t1.st ra hx nd, hp, fun v y xs' G' H' t hf ho => ⟨y, G', _, t1.trans (args_back t1.st ra hx hf t), q y xs' hf ho⟩⟩
  refine wpAny_call (codeAny_mono (F.run X.A X.stack s1 H1 ⟨[], ks.zip us⟩ (pick idx us) (pick idx vs) _ E0 hgd hr I1.env0 (kb f fd Fn s1 us (by rw [← r1.length, lv])) rp hsp) fun res s' z => ?_)
  cases res with
  | error e => exact z.elim
  | ok fl =>
    cases fl with
    | ret u => exact I1.after z
    | next => exact z.elim
    | brk => exact z.elim
    | cont => exact z.elim
end
end Vl

namespace Vl
open PySem PySem.Spec PyProof.Rows L2
theorem subLB : isSubtype (.type "list") (.type "bytes") = pure false := by rw [isSubtype_type]; kernel_rfl
theorem subLA : isSubtype (.type "list") (.type "bytearray") = pure false := by rw [isSubtype_type]; kernel_rfl
theorem args_sum2 (a b : Value) : argsOk "sum" ⟨[a, b], []⟩ := by unfold argsOk; kernel_rfl
section
variable {prog : Program} {w : World} {A : Around} {R : Result → Shared → Prop}
/-- sum's loop where lists are put together -/
theorem sum_lists_loop {I ax S : Addr} (hh : A.handled = none) (hI : ax ≠ I) (hSI : S ≠ I) (hSa : S ≠ ax) (items : Array Value) (q : Nat → Addr) (L : Nat → List Value) (hq : ∀ i, i < items.size → items[i]? = some (.ref (q i)) ∧ q i ≠ I ∧ q i ≠ S) (N : Nat) :
    ∀ (k i : Nat) (s : Shared) (c : Addr) (acc : List Value) (nn cc : Nat), items.size - i = k → i ≤ items.size → s.heap.IsListIter I ax i → s.heap.IsList ax items →
    s.heap.get? S = some { cls := .type "list", dict := none, data := .seq #[.ref c] cc, slots := #[] } → s.heap.get? c = some { cls := .type "list", data := .seq acc.toArray nn } → c ≠ I → c ≠ S →
    (∀ j, j < items.size → ∃ n, s.heap.get? (q j) = some { cls := .type "list", data := .seq (L j).toArray n }) → N ≤ S → acc.length + (((List.range k).map fun j => (L (i + j)).length).sum) ≤ sizeLine →
    (∀ h' tk c' n', (∀ b o, b ≠ I → b ≠ S → s.heap.get? b = some o → h'.get? b = some o) → h'.get? c' = some { cls := .type "list", data := .seq (acc ++ ((List.range k).map fun j => L (i + j)).flatten).toArray n' } → (k = 0 ∧ c' = c ∨ N ≤ c') → R (.ok (.ret (.ref c'))) { s with heap := h', toks := tk }) →
    codeAny (model prog w) A (.builtin "sum.loop" ⟨[.ref I, .ref S, rawInt 2, rawInt 0], []⟩) R s := by
  have W := Walks.list (prog := prog) (w := w) (A := A.in1) hh I ax hI items
  intro k
  induction k with
  | zero =>
    intro i s c acc nn cc hk hi hit hl hS hc hcI hcS hL hN hz hR
    have hin : i = items.size := by omega
    subst hin
    refine codeAny_builtin F.entry_sum_loop ?_
    rw [Around.under_plainId F.plain_sum_loop _]
    show wpAny _ A.in1 (seqItems? (.ref S) >>= _) _ _ s
    refine wpAny_bind (wpAny_seqItems hS rfl ?_)
    show wpAny _ A.in1 (tryCatch (pyNext (.ref I)) _ >>= _) _ _ s
    refine wpAny_bind (wpAny_tryCatch (W.done s _ _ ⟨hit, hl⟩ fun h' tk hk' => ?_))
    refine wpAny_pure (hR h' tk c nn (fun b o hb _ e => hk' b o (by simpa using hb) e) ?_ (.inl ⟨rfl, rfl⟩))
    simpa using hk' c _ (by simpa using hcI) hc
  | succ k ih =>
    intro i s c acc nn cc hk hi hit hl hS hc hcI hcS hL hN hz hR
    have hlt : i < items.size := by omega
    refine codeAny_builtin F.entry_sum_loop ?_
    rw [Around.under_plainId F.plain_sum_loop _]
    show wpAny _ A.in1 (seqItems? (.ref S) >>= _) _ _ s
    refine wpAny_bind (wpAny_seqItems hS rfl ?_)
    show wpAny _ A.in1 (tryCatch (pyNext (.ref I)) _ >>= _) _ _ s
    refine wpAny_bind (wpAny_tryCatch (W.item i s _ _ hlt ⟨hit, hl⟩ fun v h' tk hP hst' hk' => ?_))
    obtain ⟨hqi, hqI, hqS⟩ := hq i hlt
    have hv : v = .ref (q i) := by rw [hqi] at hP; exact (Option.some.inj hP).symm
    subst hv
    have kp : ∀ b o, b ≠ I → s.heap.get? b = some o → h'.get? b = some o := fun b o hb e => hk' b o (by simpa using hb) e
    have hS' := kp S _ hSI hS
    have hc' := kp c _ hcI hc
    obtain ⟨nq, hLi⟩ := hL i hlt
    have hLi' := kp _ _ hqI hLi
    have e0 : ((List.range (k + 1)).map fun j => L (i + j)) = L i :: ((List.range k).map fun j => L (i + 1 + j)) := by
      rw [List.range_succ_eq_map, List.map_cons, List.map_map]
      congr 1
      refine List.map_congr_left fun j _ => ?_
      show L (i + (j + 1)) = L (i + 1 + j)
      congr 1
      omega
    have e1 : ((List.range (k + 1)).map fun j => (L (i + j)).length) = (L i).length :: ((List.range k).map fun j => (L (i + 1 + j)).length) := by
      rw [List.range_succ_eq_map, List.map_cons, List.map_map]
      congr 1
      refine List.map_congr_left fun j _ => ?_
      show (L (i + (j + 1))).length = (L (i + 1 + j)).length
      congr 2
      omega
    rw [e1, List.sum_cons] at hz
    show wpAny _ A.in1 ((holding [Value.ref (q i)] (binaryOp .Add (.ref c) (.ref (q i)))).attempt >>= _) _ _ _
    refine wpAny_bind (wpAny_attempt (wpAny_holding (PySem.P.add_list hc' hLi' ?_ (by rw [List.size_toArray, List.size_toArray]; omega))))
    show wpAny _ A.in1 (updateSeq S (fun _ => #[.ref h'.objs.size]) >>= _) _ _ _
    refine wpAny_bind ?_
    have ps : ∀ b o, h'.get? b = some o → (h'.push { cls := .type "list", data := .seq (acc.toArray ++ (L i).toArray) }).get? b = some o := fun b o e => Heap.get?_push_of_some _ e
    have hS2 := ps S _ hS'
    refine wpAny_updateSeq hS2 rfl ?_
    have hS3 := Heap.get?_update_self (Obj.mapSeq fun _ => #[Value.ref h'.objs.size]) hS2 rfl
    refine wpAny_bind (wpAny_letGo ?_)
    refine wpAny_bind ?_
    refine wpAny_updateSeq hS3 rfl (wpAny_pure ⟨plainId_quiet F.plain_sum_loop _, ?_⟩)
    have fresh : ∀ b o, h'.get? b = some o → b ≠ h'.objs.size := fun b o e => Nat.ne_of_lt (Heap.lt_size e)
    have upd1 : ∀ b o, b ≠ S → h'.get? b = some o → (((h'.push { cls := .type "list", data := .seq (acc.toArray ++ (L i).toArray) }).update S (Obj.mapSeq fun _ => #[Value.ref h'.objs.size])).update S (Obj.mapSeq fun _ => #[Value.ref h'.objs.size])).get? b = some o := fun b o hb e =>
      (Heap.get?_update_other _ _ (Ne.symm hb)).trans ((Heap.get?_update_other _ _ (Ne.symm hb)).trans (ps b o e))
    have hnew : (((h'.push { cls := .type "list", data := .seq (acc.toArray ++ (L i).toArray) }).update S (Obj.mapSeq fun _ => #[Value.ref h'.objs.size])).update S (Obj.mapSeq fun _ => #[Value.ref h'.objs.size])).get? h'.objs.size = some { cls := .type "list", data := .seq (acc.toArray ++ (L i).toArray) } :=
      (Heap.get?_update_other _ _ (fresh S _ hS')).trans ((Heap.get?_update_other _ _ (fresh S _ hS')).trans (Heap.get?_push_size _ rfl))
    have ea : acc.toArray ++ (L i).toArray = (acc ++ L i).toArray := by simp
    have hcnew : (((h'.push { cls := .type "list", data := .seq (acc.toArray ++ (L i).toArray) }).update S (Obj.mapSeq fun _ => #[Value.ref h'.objs.size])).update S (Obj.mapSeq fun _ => #[Value.ref h'.objs.size])).get? h'.objs.size = some { cls := .type "list", data := .seq (acc ++ L i).toArray } := by
      rw [hnew, ea]
    obtain ⟨oI, hoI, _, _⟩ := id hst'.1
    have Ilt : I ≠ h'.objs.size := fresh I _ hoI
    have axo : ∀ o, h'.get? ax = some o → _ := fun o e => upd1 ax o (Ne.symm hSa) e
    have Slt : S < h'.objs.size := Heap.lt_size hS'
    refine ih (i + 1) _ h'.objs.size (acc ++ L i) 0 cc (by omega) hlt (hst'.1.at fun o e => upd1 I o (Ne.symm hSI) e) (hst'.2.at axo) ?_ hcnew (Ne.symm Ilt) (Ne.symm (fresh S _ hS')) (fun j hj => ?_) hN (by rw [List.length_append]; omega) fun h'' tk'' c' n' hk'' hc'' hor => ?_
    · exact Heap.get?_update_self (Obj.mapSeq fun _ => #[Value.ref h'.objs.size]) hS3 rfl
    · obtain ⟨nj, hj'⟩ := hL j hj
      obtain ⟨_, hjI, hjS⟩ := hq j hj
      exact ⟨nj, upd1 _ _ hjS (kp _ _ hjI hj')⟩
    · refine hR h'' tk'' c' n' (fun b o hbI hbS e => hk'' b o hbI hbS (upd1 b o hbS (kp b o hbI e))) ?_ ?_
      · rw [e0, List.flatten_cons, ← List.append_assoc]
        exact hc''
      · rcases hor with ⟨_, e⟩ | e
        · right
          rw [e]
          exact Nat.le_of_lt (Nat.lt_of_le_of_lt hN Slt)
        · exact .inr e
/-- sum(lists, list) -/
theorem call_sum_lists {E : Value → Shared → Prop} {s : Shared} {a b : Addr} {Q : Value → Shared → Prop} (hh : A.handled = none) (items : Array Value) (q : Nat → Addr) (L : Nat → List Value) (acc : List Value) {nb : Nat} (ha : s.heap.IsList a items) (hb : s.heap.get? b = some { cls := .type "list", data := .seq acc.toArray nb })
    (hq : ∀ i, i < items.size → items[i]? = some (.ref (q i))) (hL : ∀ j, j < items.size → ∃ n, s.heap.get? (q j) = some { cls := .type "list", data := .seq (L j).toArray n }) (hz : acc.length + (((List.range items.size).map fun j => (L j).length).sum) ≤ sizeLine)
    (hQ : ∀ h' tk c' n', (∀ b o, s.heap.get? b = some o → h'.get? b = some o) → h'.get? c' = some { cls := .type "list", data := .seq (acc ++ ((List.range items.size).map fun j => L j).flatten).toArray n' } → (items.size = 0 ∧ c' = b ∨ s.heap.objs.size ≤ c') → Q (.ref c') { s with heap := h', toks := tk }) :
    wpAny (model prog w) A (call (.builtin "sum") [.ref a, .ref b]) Q E s := by
  refine call_function_tree F.kind_sum F.plain_sum F.entry_sum (args_sum2 _ _) ?_
  unfold Builtin.«sum»
  simp only [List.length_cons, List.length_nil]
  rw [if_neg (by decide)]
  refine wpAny_bind (wpAny_of_eq (show Builtin.Builtins.bindParams "sum" ["start"] 0 { pos := [.ref b] } = pure [some (.ref b)] from rfl) ?_)
  refine wpAny_bind (wpAny_pyIter_list ha ?_)
  refine wpAny_bind (wpAny_pure ?_)
  have ps : ∀ c o, s.heap.get? c = some o → (s.heap.push { cls := .type "list_iterator", data := .fields #[.ref a, .int 0 0] }).get? c = some o := fun c o e => Heap.get?_push_of_some _ e
  have tb : Shared.TypeIs { s with heap := s.heap.push { cls := .type "list_iterator", data := .fields #[.ref a, .int 0 0] } } (.ref b) "list" := ⟨_, ps _ _ hb, rfl⟩
  simp only [List.forIn_cons, List.forIn_nil]
  refine wpAny_bind (wpAny_bind (wpAny_bind (wpAny_isInstance (T := "list") (b := false) tb sub_list_str ?_)))
  simp only [Bool.false_eq_true, if_false]
  refine wpAny_pure (wpAny_bind (wpAny_bind (wpAny_isInstance (T := "list") (b := false) tb subLB ?_)))
  simp only [Bool.false_eq_true, if_false]
  refine wpAny_pure (wpAny_bind (wpAny_bind (wpAny_isInstance (T := "list") (b := false) tb subLA ?_)))
  simp only [Bool.false_eq_true, if_false]
  refine wpAny_pure (wpAny_pure ?_)
  refine wpAny_bind (wpAny_newObj_type ?_)
  have pp : ∀ c o, s.heap.get? c = some o → ((s.heap.push { cls := .type "list_iterator", data := .fields #[.ref a, .int 0 0] }).push { cls := .type "list", data := .seq #[.ref b] }).get? c = some o := fun c o e => Heap.get?_push_of_some _ (ps c o e)
  have hs1 : (s.heap.push { cls := .type "list_iterator", data := .fields #[.ref a, .int 0 0] }).objs.size = s.heap.objs.size + 1 := Heap.size_push ..
  have hI : (s.heap.push { cls := .type "list_iterator", data := .fields #[.ref a, .int 0 0] }).get? s.heap.objs.size = some { cls := .type "list_iterator", data := .fields #[.ref a, .int 0 0] } := Heap.get?_push_size _ rfl
  obtain ⟨oa, hoa, _⟩ := id ha
  have la : a < s.heap.objs.size := Heap.lt_size hoa
  have lb : b < s.heap.objs.size := Heap.lt_size hb
  refine wpAny_pure ⟨plainId_quiet F.plain_sum_loop _, ?_⟩
  show codeAny (model prog w) A (.builtin "sum.loop" ⟨[.ref s.heap.objs.size, .ref (s.heap.push { cls := .type "list_iterator", data := .fields #[.ref a, .int 0 0] }).objs.size, rawInt 2, rawInt 0], []⟩) _ _
  rw [hs1]
  refine sum_lists_loop (I := s.heap.objs.size) (ax := a) (S := s.heap.objs.size + 1) hh (Nat.ne_of_lt la) (Nat.succ_ne_self _) (Nat.ne_of_gt (Nat.lt_succ_of_lt la)) items q L (fun i hi => ?_) s.heap.objs.size items.size 0 _ b acc nb 0 (Nat.sub_zero _) (Nat.zero_le _) ⟨_, Heap.get?_push_of_some _ hI, rfl, rfl⟩ (ha.at fun o e => pp a o e) ?_ (pp _ _ hb) (Nat.ne_of_lt lb) (Nat.ne_of_lt (Nat.lt_succ_of_lt lb)) (fun j hj => ?_) (Nat.le_succ _) ?_ fun h' tk c' n' hk hc hor => ?_
  · obtain ⟨n, hn⟩ := hL i hi
    have lq := Heap.lt_size hn
    exact ⟨hq i hi, Nat.ne_of_lt lq, Nat.ne_of_lt (Nat.lt_succ_of_lt lq)⟩
  · have := Heap.get?_push_size (s.heap.push { cls := .type "list_iterator", data := .fields #[.ref a, .int 0 0] }) (o := { cls := .type "list", data := .seq #[.ref b] }) rfl
    rw [hs1] at this
    exact this
  · obtain ⟨n, hn⟩ := hL j hj
    exact ⟨n, pp _ _ hn⟩
  · simpa using hz
  · refine hQ h' tk c' n' (fun c o e => hk c o (Nat.ne_of_lt (Heap.lt_size e)) (Nat.ne_of_lt (Nat.lt_succ_of_lt (Heap.lt_size e))) (pp c o e)) ?_ hor
    simpa using hc
end
end Vl

namespace Vl
open PySem PySem.Spec PyProof.Rows L2
def rSumL (K : PySem.W.Frag) : List V → Hp → VK → Prop := fun vs H Q => ∃ (a b : Addr) (ls : List Addr) (ys : Nat → List V) (acc : List V), vs = [.ref a, .ref b] ∧ H a = some (.lst (ls.map .ref)) ∧ H b = some (.lst acc) ∧
  (∀ (i : Nat) (l : Addr), ls[i]? = some l → H l = some (.lst (ys i))) ∧ acc.length + ((List.range ls.length).map fun j => (ys j).length).sum ≤ sizeLine ∧ (ls = [] → Q (.ref b) H) ∧ (∀ p, H p = none → Q (.ref p) (upd H p (.lst (acc ++ ((List.range ls.length).map ys).flatten))))
theorem vals_flat {f : Nat → List V} {g : Nat → List Value} : ∀ n, (∀ j, j < n → Vals (f j) (g j)) → Vals ((List.range n).map f).flatten ((List.range n).map g).flatten
  | 0, _ => .nil
  | n + 1, h => by
    rw [List.range_succ, List.map_append, List.map_append, List.flatten_append, List.flatten_append]
    refine (vals_flat n fun j hj => h j (by omega)).append ?_
    simpa using h n (by omega)
section
variable {X : Cx} {S : OD → Prop}
theorem cr_sumL (hc : X.calm = true) : CallR X (.builtin "sum") (rSumL X.K) := by
  intro pins s σ H vs us Q I r h
  obtain ⟨a, b, ls, ys, acc, rfl, ha, hb, hl, hz, q1, q2⟩ := h
  cases r with
  | cons r rr =>
    cases rr with
    | cons r' rr' =>
      cases rr'
      cases r
      cases r'
      obtain ⟨_, its, n, rv, el, e⟩ := I.lstM ha
      obtain ⟨_, its2, n2, rv2, el2, e2⟩ := I.lstM hb
      have hll : its.length = ls.length := by rw [← el, List.length_map]
      have item : ∀ (i : Nat) (l : Addr), ls[i]? = some l → its[i]? = some (.ref l) := fun i l hi => by
        obtain ⟨u, hu, ru⟩ := rv.get (show (ls.map V.ref)[i]? = some (.ref l) by rw [List.getElem?_map, hi]; rfl)
        rw [hu]
        cases ru
        rfl
      have ex : ∀ j : Nat, ∃ Lj : List Value, ∀ l, ls[j]? = some l → Vals (ys j) Lj ∧ ∃ n, s.heap.get? l = some { cls := .type "list", data := .seq Lj.toArray n } := fun j => by
        cases e1 : ls[j]? with
        | none => exact ⟨[], fun l h => by cases h⟩
        | some l =>
          obtain ⟨_, itj, nj, rj, _, ej⟩ := I.lstM (hl j l e1)
          exact ⟨itj, fun l' h => by cases h; exact ⟨rj, nj, ej⟩⟩
      have hsz : its.toArray.size = ls.length := by rw [List.size_toArray, hll]
      have get : ∀ j, j < its.toArray.size → ls[j]? = some (ls.getD j 0) := fun j hj => by
        rw [hsz] at hj
        simp [hj]
      have vl : ∀ j, j < ls.length → Vals (ys j) (Classical.choose (ex j)) := fun j hj => (Classical.choose_spec (ex j) _ (get j (by rw [hsz]; exact hj))).1
      have hsum : ((List.range its.toArray.size).map fun j => (Classical.choose (ex j)).length) = (List.range ls.length).map fun j => (ys j).length := by
        rw [hsz]
        refine List.map_congr_left fun j hj => ?_
        exact (vl j (by simpa using hj)).length.symm
      refine call_sum_lists (I.ok.hd hc) its.toArray (fun i => ls.getD i 0) (fun j => Classical.choose (ex j)) its2 ⟨_, e, rfl, _, rfl⟩ e2 (fun i hi => ?_) (fun j hj => (Classical.choose_spec (ex j) _ (get j hj)).2) (by rw [hsum, ← el2]; exact hz) fun h' tk c' n' hk hcc hor => ?_
      · rw [List.getElem?_toArray]
        exact item i _ (get i hi)
      · rcases hor with ⟨e4, e3⟩ | e3
        · subst e3
          exact ⟨.ref c', H, I.kept (t' := tk) hk, rfl, q1 (List.eq_nil_of_length_eq_zero (hsz.symm.trans e4))⟩
        · refine ⟨.ref c', upd H c' (.lst (acc ++ ((List.range ls.length).map ys).flatten)), I.laid (t' := tk) hk e3 ⟨?_, _, n', rv2.append (vals_flat _ vl), by rw [hsz] at hcc; exact hcc⟩, rfl, q2 c' (I.hok.fresh e3)⟩
          rw [List.length_append, List.length_flatten, List.map_map]
          exact hz
theorem flat_range {α : Type} (xss : List (List α)) : ((List.range xss.length).map fun j => xss.getD j []).flatten = xss.flatten := by
  congr 1
  apply List.ext_getElem?
  intro j
  rw [List.getElem?_map]
  by_cases h : j < xss.length
  · simp [h]
  · simp [h]
theorem reps_flat {K : PySem.W.Frag} {G : Hp} {f : Nat → List D} {g : Nat → List V} : ∀ n, (∀ j, j < n → Reps K G (f j) (g j)) → Reps K G ((List.range n).map f).flatten ((List.range n).map g).flatten
  | 0, _ => Reps.nil
  | n + 1, h => by
    rw [List.range_succ, List.map_append, List.map_append, List.flatten_append, List.flatten_append]
    refine (reps_flat n fun j hj => h j (by omega)).app ?_
    simpa using h n (by omega)
theorem reps_lists {K : PySem.W.Frag} {G : Hp} : ∀ {xss : List (List D)} {vs : List V}, Reps K G (xss.map .lst) vs → ∃ (ls : List Addr) (ys : Nat → List V), vs = ls.map .ref ∧ ls.length = xss.length ∧ (∀ (i : Nat) (l : Addr), ls[i]? = some l → G l = some (.lst (ys i))) ∧ ∀ j, j < xss.length → Reps K G (xss.getD j []) (ys j)
  | [], vs, h => by
    unfold List.map Reps at h
    subst h
    exact ⟨[], fun _ => [], rfl, rfl, fun i l h => by simp at h, fun j h => by simp at h⟩
  | xs :: xss, vs, h => by
    rw [List.map_cons] at h
    unfold Reps Rep at h
    obtain ⟨v, r, rfl, ⟨a, ws, rfl, g, rs⟩, rn⟩ := h
    obtain ⟨ls, ys, rfl, hl, h1, h2⟩ := reps_lists rn
    refine ⟨a :: ls, fun i => i.casesOn ws ys, rfl, by simpa using hl, fun i l hi => ?_, fun j hj => ?_⟩
    · cases i with
      | zero => simp at hi; subst hi; exact g
      | succ i => exact h1 i l (by simpa using hi)
    · cases j with
      | zero => exact rs
      | succ j => exact h2 j (by simpa using hj)
/-- sum(lists, list) -/
theorem cd_sumL (hc : X.calm = true) {xss : List (List D)} {es : List D} (hz : es.length + xss.flatten.length ≤ 100000) (q : S (.fz (.lst (es ++ xss.flatten)))) : CD X (.builtin "sum") [.lst (xss.map .lst), .lst es] S := ⟨_, cr_sumL hc, fun G H vs k s rs z => by
  obtain ⟨a, b, ws, us, rfl, g1, g2, r1, r2⟩ := two_lst rs
  obtain ⟨ls, ys, rfl, hl, h1, h2⟩ := reps_lists r1
  have rf := reps_flat (K := X.K) (G := G) (f := fun j => xss.getD j []) (g := ys) xss.length h2
  rw [flat_range] at rf
  have rall := Reps.app r2 rf
  have len := rall.length
  refine ⟨a, b, ls, ys, us, rfl, s _ _ g1, s _ _ g2, fun i l hi => s _ _ (h1 i l hi), ?_, fun e => ?_, fun p n => ?_⟩
  · have : ((List.range ls.length).map fun j => (ys j).length).sum = ((List.range xss.length).map ys).flatten.length := by
      rw [List.length_flatten, List.map_map, hl]
      rfl
    rw [this, rf.length, r2.length, sizeLine_eq]
    omega
  · have e2 : xss = [] := List.eq_nil_of_length_eq_zero (by rw [← hl, e]; rfl)
    subst e2
    exact z (.lst (es ++ [])) _ G H q (Same.refl _) (Same.refl _) s (fun _ h => .inl h) (by rw [List.append_nil]; unfold Rep; exact ⟨b, us, rfl, g2, r2⟩)
  · rw [hl]
    exact new_lst s rall q n z⟩
theorem sum_LL (hc : X.calm = true) {rows : List (List Int)} (hz : rows.flatten.length ≤ 100000) (q : S (.fz (LI rows.flatten))) : CD X (.builtin "sum") [LL rows, .lst []] S := by
  have e : LL rows = .lst ((rows.map (List.map D.int)).map .lst) := by
    unfold LL LI
    rw [List.map_map]
    rfl
  have f : (rows.map (List.map D.int)).flatten = rows.flatten.map D.int := by rw [List.map_flatten]
  rw [e]
  refine cd_sumL hc (by rw [f, List.length_map]; simpa using hz) ?_
  rw [f, List.nil_append]
  exact q
end
end Vl

namespace Vl
open PySem PySem.Spec PyProof.Rows L2
section
variable {X : Cx} {S : OD → Prop}
theorem pys_ints : ∀ ns : List Int, pys (ns.map D.int) = some (ns.map PyData.int)
  | [] => by unfold List.map pys; rfl
  | n :: ns => by
    rw [List.map_cons]
    unfold pys
    rw [pys_ints ns]
    unfold py
    rfl
theorem py_LI (ns : List Int) : py (LI ns) = some (.list (ns.map .int)) := by
  unfold LI py
  rw [pys_ints]
  rfl
theorem py_nil : py (.lst []) = some (.list []) := by
  unfold py pys
  rfl
theorem eqv_nil (ns : List Int) : PyData.eqv (.list (ns.map .int)) (.list []) = decide (ns = []) := by
  cases ns with
  | nil => rfl
  | cons n ns => rfl
theorem lay_ints : ∀ ns : List Int, PyData.canLayAll0 (ns.map .int) = true ∧ PyData.depthAll (ns.map .int) = 0
  | [] => ⟨rfl, rfl⟩
  | n :: ns => ⟨by
      rw [List.map_cons]
      unfold PyData.canLayAll0
      rw [(lay_ints ns).1]
      rfl, by
      rw [List.map_cons]
      unfold PyData.depthAll
      rw [(lay_ints ns).2]
      rfl⟩
theorem shaped_ints (ns : List Int) : SeqAt.shaped (.list (ns.map .int)) = true := by
  unfold SeqAt.shaped PyData.canLay0 PyData.depth
  rw [(lay_ints ns).1, (lay_ints ns).2]
  rfl
theorem eq_LN {ns : List Int} (hu : X.A.units + 64 < cLine) (q : S (.fz (.bl (decide (ns = []))))) : RD X (compareOp .Eq) (.fz (LI ns)) (.fz (.lst [])) S :=
  eq_D hu (py_LI ns) py_nil (shaped_ints ns) rfl (by rw [eqv_nil]; exact q)
theorem ne_LN {ns : List Int} (hu : X.A.units + 64 < cLine) (q : S (.fz (.bl (!decide (ns = []))))) : RD X (compareOp .NotEq) (.fz (LI ns)) (.fz (.lst [])) S :=
  ne_D hu (py_LI ns) py_nil (shaped_ints ns) rfl (by rw [eqv_nil]; exact q)
end
end Vl

namespace Vl
open PySem PySem.Spec PyProof.Rows L2
section
variable {X : Cx} {e a b c : Expr} {es : List Expr} {δ : En} {Q : OD → En → Prop} {pos p p2 : Pos} {S : OD → Prop} {d : D} {nm dn : Str} {k : Nat}
theorem ed_look (h : Ed X e (thaw δ) (.fz d)) (hs : scalD d = true) : Ed X e δ (.fz d) := ev_look (h.use ⟨rfl, d, rfl, hs, rfl, rfl⟩)
/-- the draws of a law: figures, count, way -/
def dr (ad : Addr) (n k : Int) (b : Bool) : OD := .own ad [.fz (.int n), .fz (.int k), .fz (.bl b)]
theorem dr_foot {ad : Addr} {n k : Int} {b : Bool} : foot (dr ad n k b) = [ad] := by
  unfold dr
  rw [foot_own, foots_cons, foots_cons, foots_one]
  unfold foot
  rfl
def c_next : Con := ⟨Addr × Int × Int × Bool, fun i => [dr i.1 i.2.1 i.2.2.1 i.2.2.2], fun i => 0 ≤ i.2.1 ∧ 0 ≤ i.2.2.1 ∧ i.2.2.1 < 2 ^ 60, fun i x xs' => ∃ z n' : Int, x = .fz (.int z) ∧ 0 ≤ z ∧ z < 2 ^ 31 ∧ 0 ≤ n' ∧ xs' = [dr i.1 n' (i.2.2.1 + 1) i.2.2.2]⟩
/-- int(_law_next(draws)) -/
theorem ev_inx (i : Nat) {ad : Addr} {n kk : Int} {w : Bool} (c : Cl X.prog X.w X.K X.mg X.base k nm ["draws"] c_next) (hgd : X.A.guards = some []) (hr : Room k X.A) (hgi : Gl X "int") (hmi : X.mg "int" = none) (hg : Gl X nm) (hN : X.N[i]? = some dn) (hv : Vis X.env.scope dn) (hδ : δ[i]? = some (some (dr ad n kk w)))
    (h0 : 0 ≤ n) (h1 : 0 ≤ kk) (h2 : kk < 2 ^ 60) (q : ∀ z n' : Int, 0 ≤ z → z < 2 ^ 31 → 0 ≤ n' → Q (.fz (.int z)) (δ.set i (some (dr ad n' (kk + 1) w))))
    (hd : (dn == ("__debug__" : Str)) = false := by decide) (hcd : (dn == ("__classdict__" : Str)) = false := by decide) (hdb : (nm == ("__debug__" : Str)) = false := by decide)
    (he1 : starEach [.Call (.Name nm p) [.Name dn p2] [] pos] X.env = [(false, eval (.Call (.Name nm p) [.Name dn p2] [] pos) X.env)] := by rfl) (hs1 : starEach [.Name dn p2] X.env = [(false, eval (.Name dn p2) X.env)] := by rfl) {pi pc : Pos} :
    Ev X (.Call (.Name "int" pi) [.Call (.Name nm p) [.Name dn p2] [] pos] [] pc) δ Q := by
  refine ev_callT (T := "int") hgi hmi bt_int (ea_cons (ev_cl c hgd hr hg (ea_slot i hN hv hδ (ea_nil ⟨(ad, n, kk, w), ?_, ?_, ⟨h0, h1, h2⟩, fun y xs' hf ho => ?_⟩) hs1 hd hcd) hdb hs1 rfl) he1) (by decide) (by decide) he1 rfl
  · show resolve δ [.s i] = some [dr ad n kk w]
    unfold resolve
    simp only [hδ]
    unfold resolve
    rfl
  · show (foots [dr ad n kk w]).Nodup
    rw [foots_one, dr_foot]
    simp
  · obtain ⟨z, n', rfl, z0, z1, n0, rfl⟩ := ho
    refine ⟨.int z, rfl, ea_nil ⟨[.int z], rfl, cd_int ?_⟩⟩
    exact q z n' z0 z1 n0
theorem cmul_B {i j : Int} (hi : -(2 ^ 300) < i ∧ i < 2 ^ 300) (hj : -(2 ^ 300) < j ∧ j < 2 ^ 300) : CMulW i j := wide_mul (a := 300) (b := 300) (by omega) (by omega) (by decide) (by decide) (by decide)
theorem mul_B {i j : Int} (hi : -(2 ^ 300) < i ∧ i < 2 ^ 300) (hj : -(2 ^ 300) < j ∧ j < 2 ^ 300) (q : S (.fz (.int (i * j)))) : RD X (binaryOp .Mult) (.fz (.int i)) (.fz (.int j)) S := mul_I (cmul_B hi hj) q
theorem mul_lt {x y a b : Int} (h0 : 0 ≤ x) (h1 : x < a) (g0 : 0 ≤ y) (g1 : y < b) : 0 ≤ x * y ∧ x * y < a * b := ⟨Int.mul_nonneg h0 g0, Int.lt_of_le_of_lt (Int.mul_le_mul_of_nonneg_left (Int.le_of_lt g1) h0) (Int.mul_lt_mul_of_pos_right h1 (by omega))⟩
end
end Vl

namespace Vl
open PySem PySem.Spec PyProof.Rows L2
section
variable {X : Cx} {tg iter : Expr} {bd : List Stmt} {δ : En} {P : DE} {pos : Pos}
/-- what a loop owes from its start on -/
def Lp (X : Cx) (tg : Expr) (bd : List Stmt) (P : DE) (ds : List D) (δ0 : En) : Prop := ∃ I : Nat → En → Prop, I 0 δ0 ∧ (∀ i d δ1, ds[i]? = some d → I i δ1 → Eg X tg (.fz d) δ1 fun δ2 => Eb X bd δ2 { P with nx := I (i + 1), ct := I (i + 1), bk := P.nx }) ∧ ∀ δ', I ds.length δ' → P.nx δ'
theorem es_forC (hp : PassesOwn (model X.prog X.w) X.A X.env X.xe) (hc : X.calm = true) (hi : Ei X tg iter δ fun ds δ0 => Lp X tg bd P ds δ0) (hs : ∀ x, foldedSetIterable iter X.env x = pure x := by intro _; rfl) : Es X (.For tg iter bd [] pos) δ P := fun G H σ s => by
  refine wS_of (ps_for hp hc wI_pi wG_pg wB_ps hs) ((hi G H σ s).imp fun J H1 ⟨G1, ds', δ0, s1, ⟨I, h0, step, hd⟩, Gd, Y, W, hG, hY⟩ => ?_)
  refine for_it W (fun i σ' H' => ∃ Gi δi, Step X.K G1 H1 δ0 Gi H' σ' δi ∧ I i δi) ⟨G1, δ0, s1.st.step, h0⟩ (fun i σ' H' _ ⟨Gi, δi, si, _⟩ => hG H' (si.gr.g.trans si.st.ex)) (fun i v σ' H' H3 hlt ⟨Gi, δi, si, hI⟩ y => ?_) fun σ' H' ⟨Gi, δi, si, hI⟩ => ⟨Gi, δi, s1.trans si, hd _ hI⟩
  obtain ⟨G3, g1, g2, g3, g4, rv⟩ := hY i H' v H3 Gi ds'[i] si.gr.g si.st.ex y (by simp [hlt])
  have t := si.item g1 g2 g3 g4 rv
  refine (step i ds'[i] δi (by simp [hlt]) hI G3 H3 σ' v t.st).imp fun σ2 H2 ⟨G2, δ2, s2, hb⟩ => ?_
  have t2 := t.trans s2
  refine (hb G2 H2 σ2 s2.st).imp ⟨fun σ4 H4 ⟨G4, δ4, s4, q⟩ => ⟨G4, δ4, t2.trans s4, q⟩, fun v4 H4 ⟨x4, G4, σ4, δ4, s4, q⟩ => ⟨x4, G4, σ4, δ4, (s1.trans t2).trans s4, q⟩, fun σ4 H4 ⟨G4, δ4, s4, q⟩ => ⟨G4, δ4, (s1.trans t2).trans s4, q⟩, fun σ4 H4 ⟨G4, δ4, s4, q⟩ => ⟨G4, δ4, t2.trans s4, q⟩⟩
theorem lp_M {α : Type} {xs : List α} {g : α → D} {δ0 : En} (I : Nat → En → Prop) (h0 : I 0 δ0) (step : ∀ i (h : i < xs.length) δ1, I i δ1 → Eg X tg (.fz (g xs[i])) δ1 fun δ2 => Eb X bd δ2 { P with nx := I (i + 1), ct := I (i + 1), bk := P.nx }) (hd : ∀ δ', I xs.length δ' → P.nx δ') : Lp X tg bd P (xs.map g) δ0 :=
  ⟨I, h0, fun i d δ1 h hI => by
    rw [List.getElem?_map] at h
    cases e1 : xs[i]? with
    | none => rw [e1] at h; cases h
    | some z =>
      rw [e1] at h
      simp at h
      subst h
      obtain ⟨hl, rfl⟩ := List.getElem?_eq_some_iff.mp e1
      exact step i hl δ1 hI, fun δ' h => hd δ' (by rw [List.length_map] at h; exact h)⟩
theorem lp_R {n : Nat} {lo : Int} {δ0 : En} (I : Nat → En → Prop) (h0 : I 0 δ0) (step : ∀ i, i < n → ∀ δ1, I i δ1 → Eg X tg (.fz (.int (lo + i))) δ1 fun δ2 => Eb X bd δ2 { P with nx := I (i + 1), ct := I (i + 1), bk := P.nx }) (hd : ∀ δ', I n δ' → P.nx δ') :
    Lp X tg bd P ((List.range n).map fun (i : Nat) => D.int (lo + i)) δ0 :=
  lp_M (xs := List.range n) (g := fun (i : Nat) => D.int (lo + i)) I h0 (fun i h δ1 hI => by
    rw [List.getElem_range]
    exact step i (by simpa using h) δ1 hI) (fun δ' h => hd δ' (by rw [List.length_range] at h; exact h))
end
end Vl

namespace Vl
open PySem PySem.Spec PyProof.Rows L2
/-- own lists of numbers -/
def RowsOD (xs : List OD) (rows : List (List Int)) : Prop := xs.length = rows.length ∧ ∀ i, i < rows.length → ∃ a, xs[i]? = some (ol a ((rows.getD i []).map .int))
theorem RowsOD.dats {xs : List OD} {rows : List (List Int)} (h : RowsOD xs rows) : Vl.dats xs = rows.map LI := by
  obtain ⟨hl, h⟩ := h
  induction xs generalizing rows with
  | nil =>
    cases rows with
    | nil => unfold Vl.dats; rfl
    | cons r rs => simp at hl
  | cons x xs ih =>
    cases rows with
    | nil => simp at hl
    | cons r rs =>
      unfold Vl.dats
      rw [ih (rows := rs) (by simpa using hl) fun i hi => by
        obtain ⟨a, ha⟩ := h (i + 1) (by simpa using hi)
        exact ⟨a, by simpa using ha⟩]
      obtain ⟨a, ha⟩ := h 0 (by simp)
      simp at ha
      subst ha
      rw [List.map_cons]
      congr 1
      unfold dat
      rw [dats_fz]
      rfl
theorem RowsOD.set {xs : List OD} {rows : List (List Int)} {n : Nat} {r : List Int} {a : Addr} (h : RowsOD xs rows) : RowsOD (xs.set n (ol a (r.map .int))) (rows.set n r) := by
  refine ⟨by rw [List.length_set, List.length_set, h.1], fun i hi => ?_⟩
  rw [List.length_set] at hi
  by_cases e : n = i
  · subst e
    exact ⟨a, by rw [List.getElem?_set_self (by rw [h.1]; exact hi), List.getD_eq_getElem?_getD, List.getElem?_set_self hi]; rfl⟩
  · rw [List.getElem?_set_ne e, List.getD_eq_getElem?_getD, List.getElem?_set_ne e, ← List.getD_eq_getElem?_getD]
    exact h.2 i hi
theorem RowsOD.dat {xs : List OD} {rows : List (List Int)} {l : Addr} (h : RowsOD xs rows) : Vl.dat (.own l xs) = LL rows := by
  unfold Vl.dat
  rw [h.dats]
  rfl
theorem scal_oI (o : Option Int) : scalD (oI o) = true := by cases o <;> rfl
end Vl

namespace Vl
open PySem PySem.Spec PyProof.Rows L2
section
variable {X : Cx} {e : Expr} {δ : En} {pos : Pos} {S : OD → Prop}
theorem ed_neg {i : Int} (h : Ed X e δ (.fz (.int i))) : Ed X (.UnaryOp .USub e pos) δ (.fz (.int (-i))) := fun G H σ s =>
  wE_of (pe_un un_neg wE_pe) ((h G H σ s).imp fun v H1 ⟨x, G1, d1, s1, e1, e2⟩ => by
    subst e1
    subst e2
    have r := top_fz s1.st rfl
    unfold Rep at r
    exact ⟨i, r, _, G1, _, s1.pop.pushF (by unfold Rep; rfl), rfl, rfl⟩)
theorem cd_max_2 (hc : X.calm = true) {a b : Int} (q : S (.fz (.int (max a b)))) : CD X (.builtin "max") [.lst [.int a, .int b]] S :=
  cd_maxL (ns := [a, b]) hc (by simp) fun m hm hle => by
    have h1 := hle a (by simp)
    have h2 := hle b (by simp)
    have h3 : m = a ∨ m = b := by simpa using hm
    have e : m = max a b := by omega
    rw [e]
    exact q
theorem oI_get {o : Option Int} (h : o.isNone = false) : oI o = .int (o.getD 0) := by
  cases o with
  | none => cases h
  | some i => rfl
end
end Vl

namespace Vl
open PySem PySem.Spec PyProof.Rows L2
/-! ### what repr takes -/
def Rpr (d : D) : Prop := Shw d ∧ dep d ≤ 60 ∧ blk d ≤ 8000
theorem shws_ints : ∀ {ns : List Int}, (∀ n ∈ ns, n.natAbs < 2 ^ 1900) → Shws (ns.map D.int)
  | [], _ => by unfold List.map Shws; trivial
  | n :: ns, h => by
    rw [List.map_cons]
    unfold Shws Shw
    exact ⟨h n List.mem_cons_self, shws_ints fun m hm => h m (List.mem_cons_of_mem _ hm)⟩
theorem meas_ints : ∀ ns : List Int, blks (ns.map D.int) = ns.length ∧ deps (ns.map D.int) = 0
  | [] => by unfold List.map blks deps; exact ⟨rfl, rfl⟩
  | n :: ns => by
    rw [List.map_cons]
    unfold blks deps
    rw [(meas_ints ns).1, (meas_ints ns).2]
    unfold blk dep
    exact ⟨by rw [List.length_cons]; omega, rfl⟩
theorem shw_LI {ns : List Int} (h : ∀ n ∈ ns, n.natAbs < 2 ^ 1900) : Shw (LI ns) := by
  unfold LI Shw
  exact shws_ints h
theorem meas_LI (ns : List Int) : blk (LI ns) = ns.length ∧ dep (LI ns) = 1 := by
  unfold LI blk dep
  rw [(meas_ints ns).1, (meas_ints ns).2]
  exact ⟨rfl, rfl⟩
theorem shws_LLs : ∀ {rows : List (List Int)}, (∀ r ∈ rows, ∀ n ∈ r, n.natAbs < 2 ^ 1900) → Shws (rows.map LI)
  | [], _ => by unfold List.map Shws; trivial
  | r :: rows, h => by
    rw [List.map_cons]
    unfold Shws
    exact ⟨shw_LI (h r List.mem_cons_self), shws_LLs fun m hm => h m (List.mem_cons_of_mem _ hm)⟩
theorem meas_LLs : ∀ rows : List (List Int), blks (rows.map LI) = rows.flatten.length + rows.length ∧ deps (rows.map LI) ≤ 1
  | [] => by unfold List.map blks deps; exact ⟨rfl, by omega⟩
  | r :: rows => by
    rw [List.map_cons]
    unfold blks deps
    rw [(meas_LLs rows).1, (meas_LI r).1, (meas_LI r).2]
    have := (meas_LLs rows).2
    exact ⟨by rw [List.flatten_cons, List.length_append, List.length_cons]; omega, by omega⟩
theorem shw_LL {rows : List (List Int)} (h : ∀ r ∈ rows, ∀ n ∈ r, n.natAbs < 2 ^ 1900) : Shw (LL rows) := by
  unfold LL Shw
  exact shws_LLs h
theorem meas_LL (rows : List (List Int)) : blk (LL rows) = rows.flatten.length + rows.length ∧ dep (LL rows) ≤ 2 := by
  unfold LL blk dep
  have := (meas_LLs rows).2
  exact ⟨(meas_LLs rows).1, by omega⟩
theorem rpr_LI {ns : List Int} (h : ∀ n ∈ ns, n.natAbs < 2 ^ 1900) (hl : ns.length ≤ 3000) : Rpr (LI ns) := ⟨shw_LI h, by rw [(meas_LI ns).2]; omega, by rw [(meas_LI ns).1]; omega⟩
theorem rpr_LL {rows : List (List Int)} (h : ∀ r ∈ rows, ∀ n ∈ r, n.natAbs < 2 ^ 1900) (hl : rows.flatten.length + rows.length ≤ 3000) : Rpr (LL rows) := ⟨shw_LL h, by have := (meas_LL rows).2; omega, by rw [(meas_LL rows).1]; omega⟩
theorem rpr_two {a b : D} (ha : Shw a) (hb : Shw b) (da : dep a ≤ 50) (db : dep b ≤ 50) (hl : blk a + blk b ≤ 7000) : Rpr (.lst [a, b]) := by
  refine ⟨?_, ?_, ?_⟩
  · unfold Shw Shws Shws Shws
    exact ⟨ha, hb, trivial⟩
  · unfold dep deps deps deps
    omega
  · unfold blk blks blks blks
    omega
theorem rpr_bl (a b : Bool) : Rpr (.lst [.bl a, .bl b]) := rpr_two (by unfold Shw; trivial) (by unfold Shw; trivial) (by unfold dep; omega) (by unfold dep; omega) (by unfold blk; omega)
theorem rpr_pair {gs : List Int} {rows : List (List Int)} (hg : ∀ n ∈ gs, n.natAbs < 2 ^ 1900) (h : ∀ r ∈ rows, ∀ n ∈ r, n.natAbs < 2 ^ 1900) (hl : gs.length + rows.flatten.length + rows.length ≤ 3000) : Rpr (.lst [LI gs, LL rows]) :=
  rpr_two (shw_LI hg) (shw_LL h) (by rw [(meas_LI gs).2]; omega) (by have := (meas_LL rows).2; omega) (by rw [(meas_LI gs).1, (meas_LL rows).1]; omega)
theorem rpr_LI2 {ns : List Int} (h : ∀ n ∈ ns, n.natAbs < 2 ^ 1900) (hl : ns.length ≤ 3000) : Rpr (.lst [LI ns, LI ns]) := rpr_two (shw_LI h) (shw_LI h) (by rw [(meas_LI ns).2]; omega) (by rw [(meas_LI ns).2]; omega) (by rw [(meas_LI ns).1]; omega)
theorem dat_ol {a : Addr} {ns : List Int} : dat (ol a (ns.map .int)) = LI ns := by
  unfold dat
  rw [dats_fz]
  rfl
theorem dat_two {t a b : Addr} {ns ms : List Int} : dat (.own t [ol a (ns.map .int), ol b (ms.map .int)]) = .lst [LI ns, LI ms] := by
  rw [← dat_ol (a := a), ← dat_ol (a := b)]
  generalize ol a (ns.map D.int) = x
  generalize ol b (ms.map D.int) = y
  unfold dat
  rw [show dats [x, y] = [dat x, dat y] from by unfold dats dats dats; rfl]
  cases x <;> cases y <;> rfl
section
variable {X : Cx} {e : Expr} {es : List Expr} {kws : List Keyword} {δ : En} {Q : OD → En → Prop} {S : OD → Prop} {pos p kpos : Pos} {nm : Str} {ps ks : List Str} {C : Con} {k : Nat} {st : Stmt} {n : Option Str} {as : List AR} {z : OD}
theorem cd_rpr {d : D} (hg : X.A.guards = some []) (hu : X.A.units + 64 < cLine) (h : Rpr d) (hl : (∃ ds, d = .lst ds) ∨ ∃ ds, d = .tup ds) (q : S (.fz (.str (rp d)))) : CD X (.builtin "repr") [d] S := cd_repr hg hu h.1 hl h.2.1 h.2.2 q
theorem resolve_d : ∀ ds : List D, resolve δ (ds.map .d) = some (ds.map .fz)
  | [] => rfl
  | d :: ds => by
    rw [List.map_cons, List.map_cons]
    unfold resolve
    rw [resolve_d ds]
    rfl
/-- f(e, ..) with plain arguments -/
theorem ev_clD (c : Cl X.prog X.w X.K X.mg X.base k nm ps C) (hgd : X.A.guards = some []) (hr : Room k X.A) (hg : Gl X nm) {i : C.ι} {ds : List D} (h : Eda X (e :: es) δ as) (ha : as = ds.map .d) (hi : C.args i = ds.map .fz) (hp : C.pre i) (q : ∀ y xs', C.out i y xs' → Q y δ) (hdb : (nm == ("__debug__" : Str)) = false := by decide)
    (he : starEach (e :: es) X.env = (false, eval e X.env) :: starEach es X.env := by rfl) (hpl : (backTo pos (starEach es X.env)).any (·.1) = false := by rfl) : Ev X (.Call (.Name nm p) (e :: es) [] pos) δ Q := by
  subst ha
  refine ev_cl c hgd hr hg (h.use ⟨i, by rw [hi]; exact resolve_d ds, ?_, hp, fun y xs' _ ho => by rw [upds_d]; exact q y xs' ho⟩) hdb he hpl
  rw [hi, foots_fz]
  exact List.nodup_nil
/-- f(e, ..) whose answer is a new list that nothing else knows, frozen -/
theorem ed_clO (c : Cl X.prog X.w X.K X.mg X.base k nm ps C) (hgd : X.A.guards = some []) (hr : Room k X.A) (hg : Gl X nm) {i : C.ι} {ds : List D} {zs : List D} (h : Eda X (e :: es) δ as) (ha : as = ds.map .d) (hi : C.args i = ds.map .fz) (hp : C.pre i) (q : ∀ y xs', C.out i y xs' → ∃ a, y = ol a zs) (hdb : (nm == ("__debug__" : Str)) = false := by decide)
    (he : starEach (e :: es) X.env = (false, eval e X.env) :: starEach es X.env := by rfl) (hpl : (backTo pos (starEach es X.env)).any (·.1) = false := by rfl) : Ed X (.Call (.Name nm p) (e :: es) [] pos) δ (.fz (.lst zs)) :=
  ev_frz (ev_clD c hgd hr hg h ha hi hp (fun y xs' ho => by
    obtain ⟨a, rfl⟩ := q y xs' ho
    refine ⟨?_, rfl⟩
    unfold dat
    rw [dats_fz]) hdb he hpl)
abbrev Edk (X : Cx) (kws : List Keyword) (δ : En) (as : List AR) : Prop := Ek X kws δ fun r δ' => r = as ∧ δ' = δ
theorem Ek.use {R : List AR → En → Prop} (h : Edk X kws δ as) (q : R as δ) : Ek X kws δ R := fun G H σ s => (h G H σ s).imp fun _ _ ⟨x, G', d', s', r, e1, e2⟩ => by subst e1; subst e2; exact ⟨_, G', _, s', r, q⟩
theorem ed_knil : Edk X [] δ [] := ek_nil ⟨rfl, rfl⟩
theorem ed_kcons {d : D} (h : Ed X e δ (.fz d)) (hr : Edk X kws δ as) : Edk X (⟨n, e, kpos⟩ :: kws) δ (.d d :: as) := ek_cons (h.use ⟨d, rfl, Ek.use hr ⟨rfl, rfl⟩⟩)
theorem pick_map {α β : Type} {f : α → β} {xs : List α} : ∀ idx : List Nat, pick idx (xs.map f) = (pick idx xs).map f
  | [] => rfl
  | i :: idx => by
    have ih := pick_map (f := f) (xs := xs) idx
    unfold pick at ih ⊢
    rw [List.filterMap_cons, List.filterMap_cons, List.getElem?_map]
    cases xs[i]? with
    | none => exact ih
    | some a =>
      show f a :: _ = f a :: _
      rw [ih]
/-- f(k = e, ..) with plain arguments -/
theorem ev_clKD (c : ClS X.prog X.w X.K X.mg X.base k nm st ps C) (hgd : X.A.guards = some []) (hr : Room k X.A) (hg : Gl X nm) (idx : List Nat)
    (kb : ∀ f fd, Fun X.K nm nm st f fd → ∀ (s : Shared) (ws : List Value), ws.length = ks.length → BindsTo s fd ⟨[], ks.zip ws⟩ (ps.zip (pick idx ws))) (hix : ∀ i ∈ idx, i < ks.length) {i : C.ι} {ds : List D}
    (h : Edk X kws δ as) (ha : as = ds.map .d) (hl : ds.length = ks.length) (hi : C.args i = (pick idx ds).map .fz) (hp : C.pre i) (q : ∀ y xs', C.out i y xs' → Q y δ)
    (hdb : (nm == ("__debug__" : Str)) = false := by decide) (hall : (backToKw pos (keywordEach kws X.env)).all (·.1.isSome) = true := by rfl) (hks : (backToKw pos (keywordEach kws X.env)).filterMap (·.1) = ks := by rfl)
    (hpl : ((backTo pos (starEach [] X.env)).any (·.1) || (backToKw pos (keywordEach kws X.env)).any (·.1.isNone)) = false := by rfl) : Ev X (.Call (.Name nm p) [] kws pos) δ Q := by
  subst ha
  refine ev_clK c hgd hr hg idx kb hix (Ek.use h ⟨by rw [List.length_map]; exact hl, i, ?_, ?_, hp, fun y xs' _ ho => ?_⟩) hdb hall hks hpl
  · rw [pick_map, hi]
    exact resolve_d _
  · rw [hi, foots_fz]
    exact List.nodup_nil
  · rw [pick_map, upds_d]
    exact q y xs' ho
theorem ed_clKF (c : ClS X.prog X.w X.K X.mg X.base k nm st ps C) (hgd : X.A.guards = some []) (hr : Room k X.A) (hg : Gl X nm) (idx : List Nat)
    (kb : ∀ f fd, Fun X.K nm nm st f fd → ∀ (s : Shared) (ws : List Value), ws.length = ks.length → BindsTo s fd ⟨[], ks.zip ws⟩ (ps.zip (pick idx ws))) (hix : ∀ i ∈ idx, i < ks.length) {i : C.ι} {ds : List D}
    (h : Edk X kws δ as) (ha : as = ds.map .d) (hl : ds.length = ks.length) (hi : C.args i = (pick idx ds).map .fz) (hp : C.pre i) (ho : ∀ y xs', C.out i y xs' → y = z)
    (hdb : (nm == ("__debug__" : Str)) = false := by decide) (hall : (backToKw pos (keywordEach kws X.env)).all (·.1.isSome) = true := by rfl) (hks : (backToKw pos (keywordEach kws X.env)).filterMap (·.1) = ks := by rfl)
    (hpl : ((backTo pos (starEach [] X.env)).any (·.1) || (backToKw pos (keywordEach kws X.env)).any (·.1.isNone)) = false := by rfl) : Ed X (.Call (.Name nm p) [] kws pos) δ z :=
  ev_clKD c hgd hr hg idx kb hix h ha hl hi hp (fun y xs' o => ⟨ho y xs' o, rfl⟩) hdb hall hks hpl
end
end Vl

namespace Vl
open PySem PySem.Spec PyProof.Rows L2
theorem blkOk_nf {N : List Str} {sc0 scope : Scope} {own : List (Str × Nat)} (h : blkC N sc0 scope own = true) (hf : (scope.names.all fun y => decide (y.2 ≠ .free)) = true) (sc : Scope) : BlkOk N sc scope own := by
  have k := blkOk_by h
  refine ⟨k.kind, k.uniq, k.ix, fun y hy e => ?_, k.own⟩
  have := List.all_eq_true.mp hf y hy
  simp only [decide_eq_true_eq] at this
  exact absurd e this
section
variable {X : Cx} {e tg iter : Expr} {es : List Expr} {bd : List Stmt} {δ : En} {Q : OD → En → Prop} {P : DE} {pos p : Pos} {S : OD → Prop}
theorem eqv_ints : ∀ ns ms : List Int, PyData.eqv (.list (ns.map .int)) (.list (ms.map .int)) = decide (ns = ms)
  | [], [] => rfl
  | [], _ :: _ => rfl
  | _ :: _, [] => rfl
  | n :: ns, m :: ms => by
    have ih := eqv_ints ns ms
    unfold PyData.eqv at ih ⊢
    rw [List.map_cons, List.map_cons]
    unfold PyData.eqvAll
    rw [ih]
    rw [Bool.eq_iff_iff]
    simp [PyData.eqv]
theorem eq_LI2 {ns ms : List Int} (hu : X.A.units + 64 < cLine) (q : S (.fz (.bl (decide (ns = ms))))) : RD X (compareOp .Eq) (.fz (LI ns)) (.fz (LI ms)) S :=
  eq_D hu (py_LI ns) (py_LI ms) (shaped_ints ns) (shaped_ints ms) (by rw [eqv_ints]; exact q)
/-- list(e) as a list of one's own -/
theorem ev_listO (hg : Gl X "list") (hm : X.mg "list" = none) (h : Ea X [e] δ fun xs δ1 => ∃ ds : List D, xs = [.d (.lst ds)] ∧ ∀ a, Q (ol a ds) δ1) (he : starEach [e] X.env = (false, eval e X.env) :: starEach [] X.env := by rfl) : Ev X (.Call (.Name "list" p) [e] [] pos) δ Q := fun G H σ s => by
  intro pins s0 I
  refine wpAny_Call_Name_kw (ld_blt I hg hm bt_list ?_ (by decide) (by decide))
  refine PyProof.Rows.callWith_type1 (thn (h G H σ s pos pins s0 I) fun us s1 ⟨vs, H1, I1, r1, xs, G1, d1, t1, rs, ds, e1, q⟩ => ?_) he rfl
  subst e1
  obtain ⟨l, ws, rfl, g, rr⟩ := one_lst (repAs_d (ds := [.lst ds]) rs)
  exact call_list_of pins s1 σ H1 _ us _ I1 r1 ⟨l, ws, rfl, .inl (.of (t1.st.ex _ _ g)), fun q' n => ⟨_, G1, d1, t1.newOwn rr n, q q'⟩⟩
/-- what a loop over own things owes -/
def LpO (X : Cx) (tg : Expr) (bd : List Stmt) (P : DE) (xs : List OD) (δ0 : En) : Prop := ∃ I : Nat → En → Prop, I 0 δ0 ∧ (∀ i (h : i < xs.length) δ1, I i δ1 → Eg X tg xs[i] δ1 fun δ2 => Eb X bd δ2 { P with nx := I (i + 1), ct := I (i + 1), bk := P.nx }) ∧ ∀ δ', I xs.length δ' → P.nx δ'
theorem es_forOC (hp : PassesOwn (model X.prog X.w) X.A X.env X.xe) (hc : X.calm = true) (hi : Ev X iter δ fun x δ1 => ∃ l xs, x = .own l xs ∧ LpO X tg bd P xs δ1) (hs : ∀ x, foldedSetIterable iter X.env x = pure x := by intro _; rfl) : Es X (.For tg iter bd [] pos) δ P := fun G H σ s => by
  have pi : PI X tg iter _ := pi_list (tg := tg) (wE_pe (X := X) (e := iter))
  refine wS_of (ps_for hp hc pi wG_pg wB_ps hs) ((hi G H σ s).imp fun v H1 ⟨x, G1, δ1, s1, l, xs, ex, I, h0, step, hd⟩ => ?_)
  subst ex
  obtain ⟨vs, G2, ev, hl, hg, s2⟩ := s1.st.scatter
  have t0 := s1.trans s2
  refine ⟨l, ev, ⟨vs, .of (t0.st.ex _ _ hg)⟩, ?_⟩
  refine for_it (walk_list (xs := vs)) (fun i σ' H' => ∃ Gi δi, Step X.K G2 H1 (xs.map some ++ δ1) Gi H' ((vs.drop i).map some ++ σ') ((xs.drop i).map some ++ δi) ∧ I i δi) ⟨G2, δ1, t0.st.step, h0⟩ (fun i σ' H' _ ⟨Gi, δi, si, _⟩ => .of (si.st.ex _ _ (si.gr.g _ _ hg))) (fun i v σ' H' H3 hlt ⟨Gi, δi, si, hI⟩ y => ?_) fun σ' H' ⟨Gi, δi, si, hI⟩ => ?_
  · obtain ⟨e3, e2⟩ := y
    subst e3
    have hv : vs[i] = v := (List.getElem?_eq_some_iff.mp e2).2
    have hx : i < xs.length := by omega
    have d1 : (vs.drop i).map some ++ σ' = some v :: ((vs.drop (i + 1)).map some ++ σ') := by rw [List.drop_eq_getElem_cons hlt, hv]; rfl
    have d2 : (xs.drop i).map some ++ δi = some xs[i] :: ((xs.drop (i + 1)).map some ++ δi) := by rw [List.drop_eq_getElem_cons hx]; rfl
    rw [d1, d2] at si
    have hl2 : (xs.drop (i + 1)).length = (vs.drop (i + 1)).length := by rw [List.length_drop, List.length_drop, hl]
    have sk := Stt.sink hl2 si.st
    have low := (stack_reps hl2 sk).2
    have bk : ∀ b, b ∈ feet ((xs.drop (i + 1)).map some ++ some xs[i] :: δi) → b ∈ feet (some xs[i] :: ((xs.drop (i + 1)).map some ++ δi)) := fun b => by
      rw [feet_app, feet_some, feet_some, feet_app]
      simp only [List.mem_append]
      rintro (h | h | h)
      · exact .inr (.inl h)
      · exact .inl h
      · exact .inr (.inr h)
    have base : Step X.K G2 H1 (xs.map some ++ δ1) Gi H3 ((vs.drop (i + 1)).map some ++ some v :: σ') ((xs.drop (i + 1)).map some ++ some xs[i] :: δi) := ⟨sk, si.gr, fun b hb => si.ft b (bk b hb)⟩
    refine (step i hx δi hI Gi H3 σ' v low).imp fun σ4 H4 ⟨G4, δ4, s4, hb⟩ => ?_
    have f4 := base.trans (Step.frames hl2 base.st s4)
    refine (hb G4 H4 σ4 s4.st).imp ⟨fun σ5 H5 ⟨G5, δ5, s5, q⟩ => ⟨G5, δ5, f4.trans (Step.frames hl2 f4.st s5), q⟩, fun v5 H5 ⟨x5, G5, σ5, δ5, s5, q⟩ => ?_, fun σ5 H5 ⟨G5, δ5, s5, q⟩ => ?_, fun σ5 H5 ⟨G5, δ5, s5, q⟩ => ⟨G5, δ5, f4.trans (Step.frames hl2 f4.st s5), q⟩⟩
    · have f5 := t0.trans (f4.trans (Step.frames hl2 f4.st s5))
      exact ⟨x5, G5, σ5, δ5, ⟨s5.st, f5.gr, fun b hb => f5.ft b (by rw [feet_app]; exact List.mem_append_right _ hb)⟩, q⟩
    · have f5 := t0.trans (f4.trans (Step.frames hl2 f4.st s5))
      exact ⟨G5, δ5, ⟨s5.st, f5.gr, fun b hb => f5.ft b (by rw [feet_app]; exact List.mem_append_right _ hb)⟩, q⟩
  · have e1 : vs.drop vs.length = [] := List.drop_length
    have e2 : xs.drop vs.length = [] := by rw [← hl]; exact List.drop_length
    rw [e1, e2] at si
    rw [← hl] at hI
    exact ⟨Gi, δi, t0.trans si, hd _ hI⟩
end
end Vl

namespace Vl
open PySem PySem.Spec PyProof.Rows L2
section
variable {X : Cx} {st : Stmt} {sts : List Stmt} {δ : En} {P P' : DE}
theorem Es.imp (h : Es X st δ P) (nx : ∀ δ', P.nx δ' → P'.nx δ') (rt : ∀ x δ', P.rt x δ' → P'.rt x δ') (bk : ∀ δ', P.bk δ' → P'.bk δ') (ct : ∀ δ', P.ct δ' → P'.ct δ') : Es X st δ P' :=
  fun G H σ s => (h G H σ s).imp (DE.le s.step nx rt bk ct)
/-- a statement, what stands behind it, the rest -/
theorem eb_seq (M : En → Prop) (h : Es X st δ { P with nx := M }) (q : ∀ δ', M δ' → Eb X sts δ' P) : Eb X (st :: sts) δ P :=
  eb_cons (Es.imp h (fun δ' z => q δ' z) (fun _ _ z => z) (fun _ z => z) fun _ z => z)
end
end Vl

namespace Vl
open PySem PySem.Spec PyProof.Rows L2
theorem foot_opt {e : Option D} {x : OD} (h : (some (e.map OD.fz) : Option (Option OD)) = some (some x)) : foot x = [] := by
  cases e with
  | none => cases h
  | some d =>
    cases h
    unfold foot
    rfl
theorem feet_set_none : ∀ {δ : En} {i : Nat}, (∀ x, δ[i]? = some (some x) → foot x = []) → feet (δ.set i none) = feet δ
  | [], _, _ => by simp
  | none :: r, 0, _ => by rw [List.set_cons_zero]
  | some y :: r, 0, h => by
    rw [List.set_cons_zero, feet_some, h y rfl, List.nil_append]
    show feet (none :: r) = feet r
    rw [feet]
  | none :: r, i + 1, h => by
    rw [List.set_cons_succ]
    show feet (none :: r.set i none) = feet (none :: r)
    rw [feet, feet, feet_set_none (fun x hx => h x (by simpa using hx))]
  | some y :: r, i + 1, h => by
    rw [List.set_cons_succ, feet_some, feet_some, feet_set_none (fun x hx => h x (by simpa using hx))]
theorem feet_wipe1 {δ : En} {i : Nat} (h : ∀ x, δ[i]? = some (some x) → foot x = []) : feet (wipeE δ [i]) = feet δ := feet_set_none h
end Vl

namespace Vl
open PySem PySem.Spec PyProof.Rows L2
section
variable {P : Program} {w : World} {K : PySem.W.Frag} {mg mb : Str → Option Value} {k : Nat} {fa a : Addr} {fd : FuncData} {x : Str} {sp : Sp} {t : Shared} {us : List Value} {sc : List Int}
/-- a heap in which nothing but the script is told -/
theorem only_script (KX : K.In t.heap) (ho : t.heap.get? a = some { cls := .type "list", data := .seq us.toArray }) (hi : IntsAre us sc) (hz : sc.length ≤ sizeLine) :
    ∃ H : Hp, Only H ∧ SqL K H a (sc.map V.int) ∧ HOk P w H t.heap ∧ (∀ b, H b ≠ none → b = a) ∧ (H a ≠ none → K.lookup a = none) := by
  have rel := vals_ints hi
  cases own : K.lookup a with
  | some o =>
    have same := KX a o own
    rw [ho] at same
    cases same
    refine ⟨fun _ => none, fun _ => .inl rfl, .inr ⟨_, us.toArray, _, own, rfl, rfl, rfl, ?_, by simpa using rel⟩, fun b u e => (by have e : (none : Option HO) = some u := e; cases e), fun b e => absurd rfl e, fun e => absurd rfl e⟩
    rw [List.size_toArray, hi.length]
    exact hz
  | none =>
    refine ⟨fun b => if b = a then some (.frz { cls := .type "list", data := .seq us.toArray } (.lst (sc.map V.int))) else none, fun b => ?_, .inl (.inr ⟨_, if_pos rfl⟩), fun b u e => ?_, fun b e => ?_, fun _ => rfl⟩
    · rcases Decidable.em (b = a) with q | q
      · exact .inr ⟨_, _, if_pos q⟩
      · exact .inl (if_neg q)
    · rcases Decidable.em (b = a) with q | q
      · subst q
        dsimp only at e
        rw [if_pos rfl] at e
        cases e
        exact ⟨ho, by rw [List.length_map]; exact hz, us, _, rel, ho⟩
      · dsimp only at e
        rw [if_neg q] at e
        cases e
    · rcases Decidable.em (b = a) with q | q
      · exact q
      · dsimp only at e
        rw [if_neg q] at e
        exact absurd rfl e
theorem end_call (KX : K.In t.heap) (hmain : t.heap.Ns mainGlobals mg) (hblt : t.heap.Ns builtinsNs mb) (hboot : ∀ y : Str, y ≠ "__name__" → mb y = bootBuiltins y) (hlim : t.heap.NoLimit) (hgen : t.gens = #[])
    (ho : t.heap.get? a = some { cls := .type "list", data := .seq us.toArray }) (hi : IntsAre us sc) (hz : sc.length ≤ sizeLine) (hr : Room k callerA)
    (F : ∀ base : Heap, K.In base → base.Ns mainGlobals mg → ∃ fd : FuncData, FnG P w K mg base k fa fd [x] sp ∧ Binds K fd [x] [])
    (hsp : ∀ H : Hp, Only H → SqL K H a (sc.map V.int) → sp [.ref a] H (fun v _ => v = .bl true) E0) :
    codeAny (model P w) callerA (.call (.ref fa) ⟨[.ref a], []⟩) (fun r s' => r = .ok (.ret (.bool true)) ∧ OldK t.heap s'.heap ∧ s'.os = t.os ∧ AllBare s'.gens) t := by
  obtain ⟨H, only, seq, hok, at_a, at_k⟩ := only_script (P := P) (w := w) KX ho hi hz
  have under : ∀ {b : Addr} {o : Obj}, t.heap.get? b = some o → H b = none → (hidT t.heap H).get? b = some o := fun e n => hidT_get e n
  have dict0 : ∀ {b : Addr} {o : Obj} {es : Array DictEntry} {ep : Nat}, t.heap.get? b = some o → o.data = .dict es ep → H b = none := fun {b o es ep} e de => by
    cases told : H b with
    | none => rfl
    | some z =>
      have ba := at_a b (by rw [told]; simp)
      subst ba
      rw [ho] at e
      cases e
      exact nomatch (show Data.seq us.toArray _ = Data.dict es ep from de)
  have spaces : ∀ {b : Addr} {m : Str → Option Value}, t.heap.Ns b m → (hidT t.heap H).Ns b m := fun ⟨o, es, ep, e, de, r⟩ => ⟨o, es, ep, under e (dict0 e de), de, r⟩
  have KB : K.In (hidT t.heap H) := fun b o e => by
    refine under (KX b o e) ?_
    cases told : H b with
    | none => rfl
    | some z =>
      have ba := at_a b (by rw [told]; simp)
      subst ba
      rw [at_k (by rw [told]; simp)] at e
      cases e
  obtain ⟨mc, lim1, lim2⟩ := hlim
  have env0 : Env0 P w K mg (hidT t.heap H) callerA [] t H :=
    ⟨rfl, ⟨KB, spaces hmain, ⟨mb, spaces hblt, hboot⟩, ⟨mc, spaces lim1, lim2⟩⟩, fun b o e => of_hidT e, Nat.le_of_eq (hidT_size _ _), trivial, fun b e => absurd (show b ∈ ([] : List Addr) from e) (by simp), hok, .of_eq hgen⟩
  obtain ⟨fd, Fd, hb⟩ := F _ KB (spaces hmain)
  refine codeAny_mono (Fd.run callerA [] t H ⟨[.ref a], []⟩ [.ref a] [.ref a] _ E0 rfl hr env0 (hb t [.ref a] KX rfl) (.cons rfl .nil) (hsp H only seq)) fun res t' z => ?_
  cases res with
  | error err => exact z.elim
  | ok fl =>
    cases fl with
    | next => exact False.elim z
    | brk => exact False.elim z
    | cont => exact False.elim z
    | ret val =>
      obtain ⟨v, H2, os, bare, un, hok2, rv, ev⟩ := z
      have ev : v = .bl true := ev
      subst ev
      obtain rfl : val = Value.bool true := rv
      refine ⟨rfl, OldK.of_keep fun b o e => ?_, os, bare⟩
      cases told : H b with
      | none => exact un.keep b o e told (fun e => absurd (show b ∈ ([] : List Addr) from e) (by simp)) (by simp)
      | some z =>
        rcases only b with n | ⟨o1, xs, fz⟩
        · rw [told] at n
          cases n
        · have was := (hok b _ fz).1
          rw [e] at was
          cases was
          exact (hok2 b _ (un.frzs b _ _ fz)).1
end
/-- the head of a law, its def under a contract -/
theorem walk_G {l : PySem.W.OpenLaw} {n k : Nat} {q : Program} {loose : List Str} {XP : (Str → Option Value) → Heap → Prop} {YP : World → Heap → Prop} {d : DefRec} {K : Params → PySem.W.Frag} {C : Con} {nm : Str}
    (hn : l.most = some n) (hn2 : n ≤ sizeLine) (hdf : d.params.defaults = []) (hr : Room k callerA) (hY : ∀ (w : World) (h : Heap), YP w h → (K w.params).In h) (hname : d.name = nm)
    (F : ∀ (w : World) (mg : Str → Option Value) (h : Heap), (K w.params).In h → h.Ns mainGlobals mg → ∀ base : Heap, (K w.params).In base → base.Ns mainGlobals mg → Cl l.prog w (K w.params) mg base k nm ["script"] C)
    (hC : ∀ ns : List Int, ns.length ≤ n → ∃ i : C.ι, C.args i = [.fz (.rol ns)] ∧ C.pre i ∧ ∀ y xs', C.out i y xs' → y = .fz (.bl true)) :
    PySem.W.WalkO q loose XP YP l.row.toRowW d [] (fun f vs => PySem.call f vs) := by
  refine Att.attach_call hn hdf fun w s0 t mg mb fa o pm cd doc a us sc G Y _ _ _ hmg hobj hints hlen hgen => ?_
  have KX := hY w _ Y
  obtain ⟨i, hi, hp, ho⟩ := hC sc hlen
  refine end_call (x := "script") (sp := spC (K w.params) C) KX G.T.g G.T.b G.T.builtins G.T.nolimit hgen hobj hints (Nat.le_trans hlen hn2) hr (fun base kb ns => ?_) fun H only seq => ?_
  · obtain ⟨f, fd, Fd, e, _, b⟩ := (F w mg _ KX G.T.g base kb ns).ex
    rw [← hname, hmg] at e
    cases e
    exact ⟨fd, Fd, b⟩
  · refine ⟨H, i, ?_, hp, fun v y xs' G' H' st _ hq => ?_⟩
    · rw [hi]
      refine (Stt.pushF (d := .rol sc) ⟨Same.refl _, rfl, fun i x h => by simp at h, by unfold feet; exact List.nodup_nil, fun b h => by unfold feet at h; cases h⟩ ?_)
      unfold Rep
      exact ⟨a, rfl, seq⟩
    · have e := ho y xs' hq
      subst e
      have r := st.st.top
      unfold RepO Rep at r
      exact r
end Vl

namespace K03
/-! plain: pieces -/
def MsOk (ms : List Int) : Prop := 1 ≤ ms.length ∧ ms.length ≤ 8 ∧ ∀ i, i < ms.length → 0 ≤ ms.getD i 0 ∧ ms.getD i 0 ≤ (if 0 < i then ms.getD (i - 1) 0 else 8)
def RowsOk (ms : List Int) (rows : List (List Int)) : Prop := rows.length = ms.length ∧ ∀ i, i < ms.length → ms.getD i 0 + (rows.getD i []).length ≤ (if 0 < i then ms.getD (i - 1) 0 + (rows.getD (i - 1) []).length else 8)
/-- the number at a cell, counted from 0 -/
def look (ms : List Int) (rows : List (List Int)) (h w : Int) : Option Int :=
  if 0 ≤ h ∧ h < rows.length then
    (if 0 ≤ w - ms.getD h.toNat 0 ∧ w - ms.getD h.toNat 0 < (rows.getD h.toNat []).length then some ((rows.getD h.toNat []).getD (w - ms.getD h.toNat 0).toNat 0) else none)
  else none
def aboveBad (ms : List Int) (rows : List (List Int)) (i at' : Nat) (x : Int) : Bool :=
  match look ms rows (i - 1) (ms.getD i 0 + at') with
  | none => false
  | some a => decide (x ≤ a)
def fallsB (ms : List Int) (rows : List (List Int)) (i : Nat) : Bool :=
  ((rows.getD i []).zip ((rows.getD i []).drop 1)).any (fun z => decide (z.2 < z.1)) || (List.range (rows.getD i []).length).any fun p => aboveBad ms rows i p ((rows.getD i []).getD p 0)
def wrongR (ms : List Int) (rows : List (List Int)) : List Int := ((List.range rows.length).filter (fallsB ms rows)).map fun i => ((i + 1 : Nat) : Int)
def goodRow (ms : List Int) (rows : List (List Int)) (i : Nat) : Bool :=
  (List.range (rows.getD i []).length).all fun p => !(decide (0 < p) && decide ((rows.getD i []).getD p 0 < (rows.getD i []).getD (p - 1) 0)) && !aboveBad ms rows i p ((rows.getD i []).getD p 0)
def goodB (ms : List Int) (rows : List (List Int)) : Bool := (List.range rows.length).all (goodRow ms rows)
theorem rows_le {ms : List Int} {rows : List (List Int)} (h : RowsOk ms rows) : ∀ i, i < ms.length → ms.getD i 0 + (rows.getD i []).length ≤ 8
  | 0, hi => by simpa using h.2 0 hi
  | i + 1, hi => by
    have h1 := h.2 (i + 1) hi
    rw [if_pos (Nat.succ_pos i), Nat.add_sub_cancel] at h1
    have h2 := rows_le h i (by omega)
    omega
theorem row_le {ms : List Int} {rows : List (List Int)} (hm : MsOk ms) (h : RowsOk ms rows) (i : Nat) : (rows.getD i []).length ≤ 8 := by
  by_cases hi : i < ms.length
  · have h1 := rows_le h i hi
    have h2 := (hm.2.2 i hi).1
    omega
  · have : rows.getD i [] = [] := by
      rw [List.getD_eq_getElem?_getD, List.getElem?_eq_none (by rw [h.1]; omega)]
      rfl
    rw [this]
    simp
theorem flat_le {ms : List Int} {rows : List (List Int)} (hm : MsOk ms) (h : RowsOk ms rows) : rows.flatten.length ≤ 64 := by
  rw [List.length_flatten]
  have h8 : ∀ x ∈ rows.map List.length, x ≤ 8 := fun x hx => by
    obtain ⟨r, hr, rfl⟩ := List.mem_map.mp hx
    obtain ⟨i, hi⟩ := List.getElem?_of_mem hr
    have := row_le hm h i
    rwa [List.getD_eq_getElem?_getD, hi] at this
  have key : ∀ l : List Nat, (∀ x ∈ l, x ≤ 8) → l.sum ≤ 8 * l.length := by
    intro l
    induction l with
    | nil => simp
    | cons x l ih =>
      intro hx
      have h1 := hx x List.mem_cons_self
      have h2 := ih fun y hy => hx y (List.mem_cons_of_mem _ hy)
      rw [List.sum_cons, List.length_cons]
      omega
  have := key _ h8
  rw [List.length_map] at this
  have := hm.2.1
  have := h.1
  omega
theorem zip_any (l : List Int) : (l.zip (l.drop 1)).any (fun z => decide (z.2 < z.1)) = (List.range l.length).any fun p => decide (0 < p) && decide (l.getD p 0 < l.getD (p - 1) 0) := by
  rw [Bool.eq_iff_iff, List.any_eq_true, List.any_eq_true]
  constructor
  · rintro ⟨z, hz, h⟩
    obtain ⟨i, hi⟩ := List.getElem?_of_mem hz
    rw [List.getElem?_zip_eq_some, List.getElem?_drop] at hi
    obtain ⟨h1, h2⟩ := hi
    refine ⟨1 + i, List.mem_range.mpr (List.getElem?_eq_some_iff.mp h2).1, ?_⟩
    have e1 : l.getD (1 + i) 0 = z.2 := by rw [List.getD_eq_getElem?_getD, h2]; rfl
    have e2 : l.getD (1 + i - 1) 0 = z.1 := by rw [show 1 + i - 1 = i by omega, List.getD_eq_getElem?_getD, h1]; rfl
    rw [e1, e2, show decide (0 < 1 + i) = true from decide_eq_true (by omega), Bool.true_and]
    exact h
  · rintro ⟨p, hp, h⟩
    have hp := List.mem_range.mp hp
    simp only [Bool.and_eq_true, decide_eq_true_eq] at h
    obtain ⟨h0, h1⟩ := h
    refine ⟨(l.getD (p - 1) 0, l.getD p 0), ?_, by simpa using h1⟩
    refine List.mem_of_getElem? (i := p - 1) ?_
    rw [List.getElem?_zip_eq_some, List.getElem?_drop]
    have : 1 + (p - 1) = p := by omega
    rw [this]
    refine ⟨?_, ?_⟩
    · show l[p - 1]? = some (l.getD (p - 1) 0)
      simp [show p - 1 < l.length by omega]
    · show l[p]? = some (l.getD p 0)
      simp [hp]
theorem good_row (ms : List Int) (rows : List (List Int)) (i : Nat) : goodRow ms rows i = !fallsB ms rows i := by
  unfold goodRow fallsB
  rw [zip_any]
  rw [Bool.eq_iff_iff]
  simp only [List.all_eq_true, Bool.not_eq_true', Bool.or_eq_false_iff, List.any_eq_false, Bool.and_eq_true, List.mem_range]
  constructor
  · intro h
    exact ⟨fun p hp => by have := (h p hp).1; simpa using this, fun p hp => by have := (h p hp).2; simpa using this⟩
  · rintro ⟨h1, h2⟩ p hp
    exact ⟨by have := h1 p hp; simpa using this, by have := h2 p hp; simpa using this⟩
theorem good_wrong (ms : List Int) (rows : List (List Int)) : decide (wrongR ms rows = []) = goodB ms rows := by
  rw [Bool.eq_iff_iff, decide_eq_true_eq]
  unfold wrongR goodB
  rw [List.map_eq_nil_iff, List.filter_eq_nil_iff, List.all_eq_true]
  constructor
  · intro h i hi
    rw [good_row]
    have := h i hi
    simpa using this
  · intro h i hi
    have := h i hi
    rw [good_row] at this
    simpa using this
end K03
namespace K03
def ShOk (ls : List Int) (high wide : Nat) : Prop := 1 ≤ ls.length ∧ ls.length ≤ high ∧ ∀ i, i < ls.length → 1 ≤ ls.getD i 0 ∧ ls.getD i 0 ≤ (if 0 < i then ls.getD (i - 1) 0 else (wide : Int))
def ShInv (ls : List Int) (m : Int) (wide : Nat) : Prop := (∀ i, i < ls.length → 1 ≤ ls.getD i 0 ∧ ls.getD i 0 ≤ (if 0 < i then ls.getD (i - 1) 0 else (wide : Int))) ∧ 1 ≤ m ∧ m ≤ (if 0 < ls.length then ls.getD (ls.length - 1) 0 else (wide : Int))
theorem ShInv.step {ls : List Int} {m m' : Int} {wide : Nat} (h : ShInv ls m wide) (h1 : 1 ≤ m') (h2 : m' ≤ m) : ShInv (ls ++ [m]) m' wide := by
  obtain ⟨a, b, c⟩ := h
  refine ⟨fun i hi => ?_, h1, ?_⟩
  · rw [List.length_append, List.length_singleton] at hi
    by_cases hlt : i < ls.length
    · have e1 : (ls ++ [m]).getD i 0 = ls.getD i 0 := by simp [List.getD_eq_getElem?_getD, List.getElem?_append_left hlt]
      have e2 : (ls ++ [m]).getD (i - 1) 0 = ls.getD (i - 1) 0 := by simp [List.getD_eq_getElem?_getD, List.getElem?_append_left (show i - 1 < ls.length by omega)]
      rw [e1, e2]
      exact a i hlt
    · have e : i = ls.length := by omega
      subst e
      have e1 : (ls ++ [m]).getD ls.length 0 = m := by simp
      rw [e1]
      refine ⟨b, ?_⟩
      by_cases h0 : 0 < ls.length
      · have e2 : (ls ++ [m]).getD (ls.length - 1) 0 = ls.getD (ls.length - 1) 0 := by simp [List.getD_eq_getElem?_getD, List.getElem?_append_left (show ls.length - 1 < ls.length by omega)]
        rw [if_pos h0] at c ⊢
        rw [e2]
        exact c
      · rw [if_neg h0] at c ⊢
        exact c
  · rw [if_pos (by simp), List.length_append, List.length_singleton, Nat.add_sub_cancel]
    have e1 : (ls ++ [m]).getD ls.length 0 = m := by simp
    rw [e1]
    exact h2
theorem sel3 (i : Int) (h0 : 0 ≤ i) (h1 : i < 3) : 0 < ([3, 3, 9] : List Int).getD i.toNat 0 := by
  have : i = 0 ∨ i = 1 ∨ i = 2 := by omega
  rcases this with rfl | rfl | rfl <;> decide
end K03
namespace K03
theorem rng_lo {z h : Int} (h0 : 0 < h) (h1 : h ≤ 1000) : -(2 ^ 62) ≤ 1 + z % h := by
  have := Int.emod_nonneg z (show h ≠ 0 by omega)
  omega
theorem rng_hi {z h : Int} (h0 : 0 < h) (h1 : h ≤ 1000) : 1 + z % h < 2 ^ 62 := by
  have := Int.emod_lt_of_pos z h0
  omega
end K03
namespace K03
/-- gone cells within lengths -/
def WiOk (gs ls : List Int) : Prop := gs.length = ls.length ∧ ∀ i, i < ls.length → 0 ≤ gs.getD i 0 ∧ gs.getD i 0 ≤ ls.getD i 0 ∧ gs.getD i 0 ≤ (if 0 < i then gs.getD (i - 1) 0 else ls.getD 0 0)
def WiInv (gs ls : List Int) (m : Int) : Prop := gs.length ≤ ls.length ∧ (∀ i, i < gs.length → 0 ≤ gs.getD i 0 ∧ gs.getD i 0 ≤ ls.getD i 0 ∧ gs.getD i 0 ≤ (if 0 < i then gs.getD (i - 1) 0 else ls.getD 0 0)) ∧ 0 ≤ m ∧ m ≤ (if 0 < gs.length then gs.getD (gs.length - 1) 0 else ls.getD 0 0)
theorem getD_app {l : List Int} {m : Int} {i : Nat} (h : i < l.length) : (l ++ [m]).getD i 0 = l.getD i 0 := by simp [List.getD_eq_getElem?_getD, List.getElem?_append_left h]
theorem getD_end {l : List Int} {m : Int} : (l ++ [m]).getD l.length 0 = m := by simp
theorem WiInv.step {gs ls : List Int} {m m' : Int} (h : WiInv gs ls m) (hl : gs.length < ls.length) (h1 : 0 ≤ m') (h2 : m' ≤ m) (h3 : m' ≤ ls.getD gs.length 0) : WiInv (gs ++ [m']) ls m' := by
  obtain ⟨a0, a, b, c⟩ := h
  refine ⟨by rw [List.length_append, List.length_singleton]; omega, fun i hi => ?_, h1, ?_⟩
  · rw [List.length_append, List.length_singleton] at hi
    by_cases hlt : i < gs.length
    · rw [getD_app hlt, getD_app (show i - 1 < gs.length by omega)]
      exact a i hlt
    · have e : i = gs.length := by omega
      subst e
      rw [getD_end]
      refine ⟨h1, h3, ?_⟩
      by_cases h0 : 0 < gs.length
      · rw [if_pos h0] at c ⊢
        rw [getD_app (show gs.length - 1 < gs.length by omega)]
        omega
      · rw [if_neg h0] at c ⊢
        omega
  · rw [if_pos (by simp), List.length_append, List.length_singleton, Nat.add_sub_cancel, getD_end]
    omega
end K03

namespace K03
def rowOf (rows : List (List Int)) (i : Nat) : List Int := rows.getD i []
def cellOk (gs : List Int) (rows : List (List Int)) (j p : Nat) : Prop := (0 < p → (rowOf rows j).getD (p - 1) 0 ≤ (rowOf rows j).getD p 0) ∧ ∀ a, look gs rows ((j : Int) - 1) (gs.getD j 0 + p) = some a → a < (rowOf rows j).getD p 0
theorem good_iff (gs : List Int) (rows : List (List Int)) : goodB gs rows = true ↔ ∀ j, j < rows.length → ∀ p, p < (rowOf rows j).length → cellOk gs rows j p := by
  unfold goodB goodRow aboveBad cellOk rowOf
  simp only [List.all_eq_true, List.mem_range, Bool.and_eq_true, Bool.not_eq_true', Bool.and_eq_false_iff, decide_eq_false_iff_not]
  refine ⟨fun h j hj p hp => ?_, fun h j hj p hp => ?_⟩
  · obtain ⟨h1, h2⟩ := h j hj p hp
    refine ⟨fun h0 => ?_, fun a ha => ?_⟩
    · rcases h1 with h1 | h1
      · exact absurd h0 h1
      · omega
    · rw [ha] at h2
      simp only [decide_eq_false_iff_not] at h2
      omega
  · obtain ⟨h1, h2⟩ := h j hj p hp
    refine ⟨?_, ?_⟩
    · by_cases h0 : 0 < p
      · have := h1 h0
        right
        omega
      · exact .inl h0
    · cases e : look gs rows ((j : Int) - 1) (gs.getD j 0 + p) with
      | none => rfl
      | some a =>
        have := h2 a e
        simp only [decide_eq_false_iff_not]
        omega
theorem rowOf_set {rows : List (List Int)} {i j : Nat} {r : List Int} (hi : i < rows.length) : rowOf (rows.set i r) j = if j = i then r else rowOf rows j := by
  unfold rowOf
  by_cases h : j = i
  · subst h
    rw [if_pos rfl, List.getD_eq_getElem?_getD, List.getElem?_set_self hi]
    rfl
  · rw [if_neg h, List.getD_eq_getElem?_getD, List.getElem?_set_ne (Ne.symm h), ← List.getD_eq_getElem?_getD]
theorem look_set {gs : List Int} {rows : List (List Int)} {i : Nat} {r : List Int} {h w : Int} (hi : i < rows.length) (hne : h ≠ i) : look gs (rows.set i r) h w = look gs rows h w := by
  unfold look
  rw [List.length_set]
  by_cases hc : 0 ≤ h ∧ h < rows.length
  · rw [if_pos hc, if_pos hc]
    have : (rows.set i r).getD h.toNat [] = rows.getD h.toNat [] := by
      have := rowOf_set (r := r) (j := h.toNat) hi
      rw [if_neg (by omega)] at this
      exact this
    rw [this]
  · rw [if_neg hc, if_neg hc]
theorem look_row {gs : List Int} {rows : List (List Int)} {i : Nat} {w : Int} (hi : i < rows.length) : look gs rows i w = if 0 ≤ w - gs.getD i 0 ∧ w - gs.getD i 0 < (rowOf rows i).length then some ((rowOf rows i).getD (w - gs.getD i 0).toNat 0) else none := by
  unfold look rowOf
  rw [if_pos (by omega), Int.toNat_natCast]
structure PInv (gs ls : List Int) (rows : List (List Int)) (i t : Nat) : Prop where
  len : rows.length = ls.length
  done : ∀ j, j < i → ((rowOf rows j).length : Int) = ls.getD j 0 - gs.getD j 0
  cur : (rowOf rows i).length = t
  rest : ∀ j, i < j → rowOf rows j = []
  ok : ∀ j p, p < (rowOf rows j).length → cellOk gs rows j p ∧ -3 ≤ (rowOf rows j).getD p 0 ∧ (rowOf rows j).getD p 0 ≤ 1000 * (j + gs.getD j 0 + p + 1)
theorem PInv.above {gs ls : List Int} {rows : List (List Int)} {i t : Nat} (h : PInv gs ls rows i t) (hg : ∀ j, 0 ≤ gs.getD j 0) {a : Int} {w : Int} (ha : look gs rows ((i : Int) - 1) w = some a) : -3 ≤ a ∧ a ≤ 1000 * (i + w) := by
  unfold look at ha
  by_cases hc : 0 ≤ (i : Int) - 1 ∧ (i : Int) - 1 < rows.length
  · rw [if_pos hc] at ha
    have e : ((i : Int) - 1).toNat = i - 1 := by omega
    rw [e] at ha
    by_cases hd : 0 ≤ w - gs.getD (i - 1) 0 ∧ w - gs.getD (i - 1) 0 < (rows.getD (i - 1) []).length
    · rw [if_pos hd] at ha
      have hx := h.ok (i - 1) (w - gs.getD (i - 1) 0).toNat (by unfold rowOf; omega)
      have : a = (rowOf rows (i - 1)).getD (w - gs.getD (i - 1) 0).toNat 0 := (Option.some.inj ha).symm
      rw [← this] at hx
      refine ⟨hx.2.1, ?_⟩
      have := hx.2.2
      omega
    · rw [if_neg hd] at ha; cases ha
  · rw [if_neg hc] at ha; cases ha
theorem PInv.left {gs ls : List Int} {rows : List (List Int)} {i t : Nat} (h : PInv gs ls rows i t) (hi : i < rows.length) : (t = 0 ∧ look gs rows i (gs.getD i 0 + t - 1) = none) ∨ (0 < t ∧ look gs rows i (gs.getD i 0 + t - 1) = some ((rowOf rows i).getD (t - 1) 0) ∧ -3 ≤ (rowOf rows i).getD (t - 1) 0 ∧ (rowOf rows i).getD (t - 1) 0 ≤ 1000 * (i + gs.getD i 0 + t)) := by
  rw [look_row hi, h.cur]
  by_cases h0 : 0 < t
  · right
    have hx := h.ok i (t - 1) (by rw [h.cur]; omega)
    refine ⟨h0, ?_, hx.2.1, ?_⟩
    · rw [if_pos (by omega)]
      congr 2
      omega
    · have := hx.2.2
      omega
  · left
    exact ⟨by omega, by rw [if_neg (by omega)]⟩
theorem PInv.add {gs ls : List Int} {rows : List (List Int)} {i t : Nat} {v : Int} (h : PInv gs ls rows i t) (hi : i < rows.length) (hl : 0 < t → (rowOf rows i).getD (t - 1) 0 ≤ v) (ha : ∀ a, look gs rows ((i : Int) - 1) (gs.getD i 0 + t) = some a → a < v) (h3 : -3 ≤ v) (hv : v ≤ 1000 * (i + gs.getD i 0 + t + 1)) :
    PInv gs ls (rows.set i (rowOf rows i ++ [v])) i (t + 1) := by
  refine ⟨by rw [List.length_set]; exact h.len, fun j hj => ?_, ?_, fun j hj => ?_, fun j p hp => ?_⟩
  · rw [rowOf_set hi, if_neg (by omega)]
    exact h.done j hj
  · rw [rowOf_set hi, if_pos rfl, List.length_append, List.length_singleton, h.cur]
  · rw [rowOf_set hi, if_neg (by omega)]
    exact h.rest j hj
  · rw [rowOf_set hi] at hp ⊢
    by_cases hji : j = i
    · subst hji
      rw [if_pos rfl] at hp ⊢
      rw [List.length_append, List.length_singleton, h.cur] at hp
      unfold cellOk
      rw [rowOf_set hi, if_pos rfl, look_set hi (by omega)]
      by_cases hpt : p < t
      · have hx := h.ok j p (by rw [h.cur]; exact hpt)
        have hlen : p < (rowOf rows j).length := by rw [h.cur]; exact hpt
        rw [getD_app hlen, getD_app (show p - 1 < (rowOf rows j).length by omega)]
        exact hx
      · have e : p = (rowOf rows j).length := by rw [h.cur]; omega
        have et : p = t := by rw [e, h.cur]
        subst et
        rw [e, getD_end]
        refine ⟨⟨fun h0 => ?_, fun a hA => ?_⟩, h3, ?_⟩
        · rw [getD_app (by omega), ← e]
          exact hl (by omega)
        · rw [← e] at hA
          exact ha a hA
        · rw [← e]; exact hv
    · rw [if_neg hji] at hp ⊢
      have hx := h.ok j p hp
      have hji2 : j < i := by
        rcases Nat.lt_or_ge j i with q | q
        · exact q
        · rw [h.rest j (by omega)] at hp
          simp at hp
      unfold cellOk at hx ⊢
      rw [rowOf_set hi, if_neg hji, look_set hi (by omega)]
      exact hx
theorem PInv.next {gs ls : List Int} {rows : List (List Int)} {i t : Nat} (h : PInv gs ls rows i t) (ht : (t : Int) = ls.getD i 0 - gs.getD i 0) : PInv gs ls rows (i + 1) 0 :=
  ⟨h.len, fun j hj => by
    by_cases e : j = i
    · subst e
      rw [h.cur]
      exact ht
    · exact h.done j (by omega), by rw [h.rest (i + 1) (by omega)]; rfl, fun j hj => h.rest j (by omega), h.ok⟩
theorem PInv.start (gs ls : List Int) : PInv gs ls (ls.map fun _ => []) 0 0 := by
  have e : ∀ j, rowOf (ls.map fun _ => ([] : List Int)) j = [] := fun j => by
    unfold rowOf
    rw [List.getD_eq_getElem?_getD, List.getElem?_map]
    cases ls[j]? <;> rfl
  exact ⟨by rw [List.length_map], fun j hj => absurd hj (Nat.not_lt_zero _), by rw [e]; rfl, fun j _ => e j, fun j p hp => by rw [e] at hp; simp at hp⟩
/-- a piece as the law draws it -/
structure PcOk (gs ls : List Int) (rows : List (List Int)) : Prop where
  wi : WiOk gs ls
  len : rows.length = ls.length
  row : ∀ i, i < ls.length → ((rowOf rows i).length : Int) = ls.getD i 0 - gs.getD i 0
  good : goodB gs rows = true
  bnd : ∀ i p, p < (rowOf rows i).length → -3 ≤ (rowOf rows i).getD p 0 ∧ (rowOf rows i).getD p 0 < 100000
end K03
namespace K03
theorem ShOk.le {ls : List Int} {wide : Nat} (h : ∀ i, i < ls.length → 1 ≤ ls.getD i 0 ∧ ls.getD i 0 ≤ (if 0 < i then ls.getD (i - 1) 0 else (wide : Int))) : ∀ i, i < ls.length → 1 ≤ ls.getD i 0 ∧ ls.getD i 0 ≤ wide
  | 0, hi => by have := h 0 hi; simpa using this
  | i + 1, hi => by
    have h1 := h (i + 1) hi
    have h2 := ShOk.le h i (by omega)
    rw [if_pos (Nat.succ_pos i), Nat.add_sub_cancel] at h1
    omega
theorem WiOk.nn {gs ls : List Int} (h : WiOk gs ls) (j : Nat) : 0 ≤ gs.getD j 0 := by
  by_cases hj : j < ls.length
  · exact (h.2 j hj).1
  · rw [List.getD_eq_getElem?_getD, List.getElem?_eq_none (by rw [h.1]; omega)]
    exact Int.le_refl _
end K03
namespace K03
theorem ms_le {ms : List Int} (h : MsOk ms) : ∀ i, i < ms.length → 0 ≤ ms.getD i 0 ∧ ms.getD i 0 ≤ 8
  | 0, hi => by have := h.2.2 0 hi; simpa using this
  | i + 1, hi => by
    have h1 := h.2.2 (i + 1) hi
    have h2 := ms_le h i (by omega)
    rw [if_pos (Nat.succ_pos i), Nat.add_sub_cancel] at h1
    omega
theorem ms_small {ms : List Int} (h : MsOk ms) : ∀ n ∈ ms, n.natAbs < 2 ^ 1900 := fun n hn => by
  obtain ⟨i, hi⟩ := List.getElem?_of_mem hn
  have := ms_le h i (List.getElem?_eq_some_iff.mp hi).1
  rw [List.getD_eq_getElem?_getD, hi] at this
  have h2 : n.natAbs ≤ 8 := by
    have e : (some n).getD 0 = n := rfl
    rw [e] at this
    omega
  exact Nat.lt_of_le_of_lt h2 (by decide +kernel)
end K03

namespace K03
theorem PcOk.ms {gs ls : List Int} {rows : List (List Int)} (h : PcOk gs ls rows) (hs : ShOk ls 8 8) : MsOk gs ∧ RowsOk gs rows := by
  have hle := ShOk.le hs.2.2
  have hgl := h.wi.1
  refine ⟨⟨by have := hs.1; omega, by have := hs.2.1; omega, fun i hi => ?_⟩, by rw [h.len, hgl], fun i hi => ?_⟩
  · have h1 := h.wi.2 i (by omega)
    refine ⟨h1.1, ?_⟩
    by_cases h0 : 0 < i
    · rw [if_pos h0] at h1 ⊢
      exact h1.2.2
    · rw [if_neg h0] at h1 ⊢
      have := hle 0 (by have := hs.1; omega)
      omega
  · have hr := h.row i (by omega)
    have h1 := hs.2.2 i (by omega)
    unfold rowOf at hr
    by_cases h0 : 0 < i
    · rw [if_pos h0] at h1 ⊢
      have hr2 := h.row (i - 1) (by omega)
      unfold rowOf at hr2
      omega
    · rw [if_neg h0] at h1 ⊢
      have := hle i (by omega)
      omega
theorem PcOk.mem {gs ls : List Int} {rows : List (List Int)} (h : PcOk gs ls rows) : ∀ r ∈ rows, ∀ n ∈ r, -3 ≤ n ∧ n < 100000 := fun r hr n hn => by
  obtain ⟨i, hi⟩ := List.getElem?_of_mem hr
  obtain ⟨p, hp⟩ := List.getElem?_of_mem hn
  have er : rowOf rows i = r := by unfold rowOf; rw [List.getD_eq_getElem?_getD, hi]; rfl
  have := h.bnd i p (by rw [er]; exact (List.getElem?_eq_some_iff.mp hp).1)
  rw [er, List.getD_eq_getElem?_getD, hp] at this
  exact this
theorem rowOf_map {rows : List (List Int)} {g : Int → Int} (j : Nat) : rowOf (rows.map (·.map g)) j = (rowOf rows j).map g := by
  unfold rowOf
  rw [List.getD_eq_getElem?_getD, List.getD_eq_getElem?_getD, List.getElem?_map]
  cases rows[j]? <;> rfl
theorem getD_map {r : List Int} {g : Int → Int} {p : Nat} (h : p < r.length) : (r.map g).getD p 0 = g (r.getD p 0) := by simp [h]
theorem look_map {gs : List Int} {rows : List (List Int)} {g : Int → Int} {h w : Int} : look gs (rows.map (·.map g)) h w = (look gs rows h w).map g := by
  unfold look
  rw [List.length_map]
  by_cases hc : 0 ≤ h ∧ h < rows.length
  · rw [if_pos hc, if_pos hc]
    have e := rowOf_map (rows := rows) (g := g) h.toNat
    unfold rowOf at e
    rw [e, List.length_map]
    by_cases hd : 0 ≤ w - gs.getD h.toNat 0 ∧ w - gs.getD h.toNat 0 < (rows.getD h.toNat []).length
    · rw [if_pos hd, if_pos hd, getD_map (by omega)]
      rfl
    · rw [if_neg hd, if_neg hd]
      rfl
  · rw [if_neg hc, if_neg hc]
    rfl
theorem good_map {gs : List Int} {rows : List (List Int)} {g : Int → Int} (hg : ∀ a b, a < b → g a < g b) (h : goodB gs rows = true) : goodB gs (rows.map (·.map g)) = true := by
  rw [good_iff] at h ⊢
  intro j hj p hp
  rw [List.length_map] at hj
  rw [rowOf_map, List.length_map] at hp
  obtain ⟨h1, h2⟩ := h j hj p hp
  unfold cellOk
  rw [rowOf_map, look_map, getD_map hp]
  refine ⟨fun h0 => ?_, fun a ha => ?_⟩
  · rw [getD_map (show p - 1 < _ by omega)]
    have := h1 h0
    rcases Int.lt_or_eq_of_le this with q | q
    · exact Int.le_of_lt (hg _ _ q)
    · rw [q]; exact Int.le_refl _
  · cases e : look gs rows ((j : Int) - 1) (gs.getD j 0 + p) with
    | none => rw [e] at ha; cases ha
    | some v =>
      rw [e] at ha
      cases ha
      exact hg _ _ (h2 v e)
theorem rowsOk_map {gs : List Int} {rows : List (List Int)} {g : Int → Int} (h : RowsOk gs rows) : RowsOk gs (rows.map (·.map g)) := by
  refine ⟨by rw [List.length_map]; exact h.1, fun i hi => ?_⟩
  have e := rowOf_map (rows := rows) (g := g)
  unfold rowOf at e
  rw [e, e, List.length_map, List.length_map]
  exact h.2 i hi
theorem rowsOk_set {gs : List Int} {rows : List (List Int)} {n : Nat} {r : List Int} (h : RowsOk gs rows) (hn : n < rows.length) (hr : r.length = (rows.getD n []).length) : RowsOk gs (rows.set n r) := by
  refine ⟨by rw [List.length_set]; exact h.1, fun i hi => ?_⟩
  have e : ∀ j, ((rows.set n r).getD j []).length = (rows.getD j []).length := fun j => by
    have := rowOf_set (r := r) (j := j) hn
    unfold rowOf at this
    rw [this]
    by_cases q : j = n
    · subst q; rw [if_pos rfl, hr]
    · rw [if_neg q]
  rw [e, e]
  exact h.2 i hi
theorem set_bound {rows : List (List Int)} {n p : Nat} {v B : Int} (h : ∀ r ∈ rows, ∀ x ∈ r, -B ≤ x ∧ x ≤ B) (hv : -B ≤ v ∧ v ≤ B) : ∀ r ∈ rows.set n ((rows.getD n []).set p v), ∀ x ∈ r, -B ≤ x ∧ x ≤ B := fun r hr x hx => by
  rcases List.mem_or_eq_of_mem_set hr with q | q
  · exact h r q x hx
  · subst q
    rcases List.mem_or_eq_of_mem_set hx with q | q
    · rw [List.getD_eq_getElem?_getD] at q
      cases e : rows[n]? with
      | none => rw [e] at q; simp at q
      | some r' =>
        rw [e] at q
        exact h r' (List.mem_of_getElem? e) x q
    · rw [q]; exact hv
end K03
namespace K03
theorem small_of {rows : List (List Int)} (h : ∀ r ∈ rows, ∀ x ∈ r, -(2 * 10 ^ 62) ≤ x ∧ x ≤ 2 * 10 ^ 62) : ∀ r ∈ rows, ∀ n ∈ r, n.natAbs < 2 ^ 1900 := fun r hr n hn => by
  have := h r hr n hn
  have h2 : n.natAbs ≤ 2 * 10 ^ 62 := by omega
  exact Nat.lt_of_le_of_lt h2 (by decide +kernel)
theorem step_sel (z : Int) (h0 : 0 ≤ z) : ∃ s : Nat, ([1, 2, 3, 500] : List Int).getD (z % 4).toNat 0 = (s : Int) ∧ 1 ≤ s ∧ s ≤ 500 := by
  have : z % 4 = 0 ∨ z % 4 = 1 ∨ z % 4 = 2 ∨ z % 4 = 3 := by omega
  rcases this with e | e | e | e <;> rw [e]
  · exact ⟨1, rfl, by omega, by omega⟩
  · exact ⟨2, rfl, by omega, by omega⟩
  · exact ⟨3, rfl, by omega, by omega⟩
  · exact ⟨500, rfl, by omega, by omega⟩
/-- what is known of a piece while it is looked at -/
structure Pc (gs : List Int) (rows : List (List Int)) (B : Int) : Prop where
  ms : MsOk gs
  rw' : RowsOk gs rows
  bd : ∀ r ∈ rows, ∀ x ∈ r, -B ≤ x ∧ x ≤ B
end K03
namespace K03
theorem p_a : MsOk [0] ∧ RowsOk [0] [[]] := by unfold MsOk RowsOk; decide
theorem p_b : MsOk [8, 8, 8, 8, 8, 8, 8, 8] ∧ RowsOk [8, 8, 8, 8, 8, 8, 8, 8] [[], [], [], [], [], [], [], []] := by unfold MsOk RowsOk; decide
theorem p_c : MsOk [0, 0] ∧ RowsOk [0, 0] [[1, 1], [1]] := by unfold MsOk RowsOk; decide
theorem p_d : MsOk [1, 0] ∧ RowsOk [1, 0] [[2], [1, 3]] := by unfold MsOk RowsOk; decide
theorem g_c : goodB [0, 0] [[1, 1], [1]] = false := by decide
theorem g_d : wrongR [1, 0] [[2], [1, 3]] = [] := by decide
end K03

namespace K03
open PySem PySem.Spec PyProof.Rows L2 Vl
def topS (i : Nat) : Stmt := PySem.Challenge.pw_holeslides_k03_pieces.main.body.getD i (.Pass ⟨0, 0, 0, 0⟩)
abbrev s_is_whole : Stmt := topS 7
theorem sc_is_whole : FnScope ["thing"] ["thing"] (defScope s_is_whole) := ⟨rfl, rfl, rfl, by decide +kernel, rfl, by decide +kernel, by decide +kernel⟩
abbrev s_check_missing : Stmt := topS 9
theorem sc_check_missing : FnScope ["missing", "index", "many"] ["missing"] (defScope s_check_missing) := ⟨rfl, rfl, rfl, by decide +kernel, rfl, by decide +kernel, by decide +kernel⟩
abbrev s_check_numbers : Stmt := topS 10
theorem sc_check_numbers : FnScope ["row", "index", "number"] ["row", "index"] (defScope s_check_numbers) := ⟨rfl, rfl, rfl, by decide +kernel, rfl, by decide +kernel, by decide +kernel⟩
abbrev s_check_rows : Stmt := topS 11
theorem sc_check_rows : FnScope ["missing", "rows", "index", "row"] ["missing", "rows"] (defScope s_check_rows) := ⟨rfl, rfl, rfl, by decide +kernel, rfl, by decide +kernel, by decide +kernel⟩
abbrev s_number_at : Stmt := topS 12
theorem sc_number_at : FnScope ["missing", "rows", "row", "column", "place"] ["missing", "rows", "row", "column"] (defScope s_number_at) := ⟨rfl, rfl, rfl, by decide +kernel, rfl, by decide +kernel, by decide +kernel⟩
abbrev s_wrong_rows : Stmt := topS 13
theorem sc_wrong_rows : FnScope ["missing", "rows", "told", "row", "numbers", "falls", "place", "number", "above", "left", "right"] ["missing", "rows"] (defScope s_wrong_rows) := ⟨rfl, rfl, rfl, by decide +kernel, rfl, by decide +kernel, by decide +kernel⟩
abbrev s_check_piece : Stmt := topS 14
theorem sc_check_piece : FnScope ["missing", "rows", "wrong"] ["missing", "rows"] (defScope s_check_piece) := ⟨rfl, rfl, rfl, by decide +kernel, rfl, by decide +kernel, by decide +kernel⟩
abbrev s_is_sorted : Stmt := topS 15
theorem sc_is_sorted : FnScope ["missing", "rows"] ["missing", "rows"] (defScope s_is_sorted) := ⟨rfl, rfl, rfl, by decide +kernel, rfl, by decide +kernel, by decide +kernel⟩
abbrev s_word_in : Stmt := topS 16
theorem sc_word_in : FnScope ["rows", "row", "number"] ["rows"] (defScope s_word_in) := ⟨rfl, rfl, rfl, by decide +kernel, rfl, by decide +kernel, by decide +kernel⟩
abbrev s_word_of : Stmt := topS 17
theorem sc_word_of : FnScope ["missing", "rows"] ["missing", "rows"] (defScope s_word_of) := ⟨rfl, rfl, rfl, by decide +kernel, rfl, by decide +kernel, by decide +kernel⟩
abbrev s_law_draws : Stmt := topS 19
theorem sc_law_draws : FnScope ["cell"] ["cell"] (defScope s_law_draws) := ⟨rfl, rfl, rfl, by decide +kernel, rfl, by decide +kernel, by decide +kernel⟩
abbrev s_law_next : Stmt := topS 20
theorem sc_law_next : FnScope ["draws", "k", "number"] ["draws"] (defScope s_law_next) := ⟨rfl, rfl, rfl, by decide +kernel, rfl, by decide +kernel, by decide +kernel⟩
abbrev s_law_shape : Stmt := topS 21
theorem sc_law_shape : FnScope ["draws", "high", "wide", "told", "most", "turn", "pick"] ["draws", "high", "wide"] (defScope s_law_shape) := ⟨rfl, rfl, rfl, by decide +kernel, rfl, by decide +kernel, by decide +kernel⟩
abbrev s_law_within : Stmt := topS 22
theorem sc_law_within : FnScope ["draws", "lengths", "told", "most", "long"] ["draws", "lengths"] (defScope s_law_within) := ⟨rfl, rfl, rfl, by decide +kernel, rfl, by decide +kernel, by decide +kernel⟩
abbrev s_law_look : Stmt := topS 23
theorem sc_law_look : FnScope ["gone", "lines", "high", "wide", "at"] ["gone", "lines", "high", "wide"] (defScope s_law_look) := ⟨rfl, rfl, rfl, by decide +kernel, rfl, by decide +kernel, by decide +kernel⟩
abbrev s_law_piece : Stmt := topS 24
theorem sc_law_piece : FnScope ["draws", "lengths", "step", "gone", "lines", "high", "long", "wide", "left", "above", "low"] ["draws", "lengths", "step"] (defScope s_law_piece) := ⟨rfl, rfl, rfl, by decide +kernel, rfl, by decide +kernel, by decide +kernel⟩
abbrev s_law_good : Stmt := topS 25
theorem sc_law_good : FnScope ["gone", "lines", "high", "line", "at", "figure", "above"] ["gone", "lines"] (defScope s_law_good) := ⟨rfl, rfl, rfl, by decide +kernel, rfl, by decide +kernel, by decide +kernel⟩
abbrev s_law_right : Stmt := topS 26
theorem sc_law_right : FnScope ["gone", "lines", "before", "good", "both", "due", "told"] ["gone", "lines"] (defScope s_law_right) := ⟨rfl, rfl, rfl, by decide +kernel, rfl, by decide +kernel, by decide +kernel⟩
abbrev s_law : Stmt := topS 27
theorem sc_law : FnScope ["script", "draws", "step", "gone", "lines", "turn", "at", "bent", "far", "cell", "line", "one"] ["script"] (defScope s_law) := ⟨rfl, rfl, rfl, by decide +kernel, rfl, by decide +kernel, by decide +kernel⟩
structure Txt (mg : Str → Option Value) : Prop where
  n_ValueError : mg "ValueError" = none
  n_all : mg "all" = none
  n_any : mg "any" = none
  n_bool : mg "bool" = none
  n_enumerate : mg "enumerate" = none
  n_int : mg "int" = none
  n_isinstance : mg "isinstance" = none
  n_len : mg "len" = none
  n_list : mg "list" = none
  n_max : mg "max" = none
  n_min : mg "min" = none
  n_range : mg "range" = none
  n_repr : mg "repr" = none
  n_sum : mg "sum" = none
  n_zip : mg "zip" = none
  c_MOST_ROWS : ∃ t, mg "MOST_ROWS" = some (.int 8 t)
  c_MOST_LONG : ∃ t, mg "MOST_LONG" = some (.int 8 t)
end K03

set_option hygiene false
local macro_rules | `(tactic| walk_at "sd") => `(tactic| first | omega | assumption | exact Int.pow_pos (by decide) | decide | (simp only [List.length_set, List.length_cons, List.length_nil]; omega) | (simp only [decide_eq_true_eq, decide_eq_false_iff_not, Bool.and_eq_true, Bool.not_eq_true', List.length_map] at *; omega))
local macro_rules | `(tactic| walk_at "Add") => `(tactic| first | exact add_I rfl)
local macro_rules | `(tactic| walk_at "Sub") => `(tactic| first | exact sub_I rfl)
local macro_rules | `(tactic| walk_at "Lt") => `(tactic| first | exact lt_I rfl)
local macro_rules | `(tactic| walk_at "LtE") => `(tactic| first | exact le_I rfl)
local macro_rules | `(tactic| walk_at "Gt") => `(tactic| first | exact gt_I rfl)
local macro_rules | `(tactic| walk_at "GtE") => `(tactic| first | exact ge_I rfl)
local macro_rules | `(tactic| walk_at "Eq") => `(tactic| first | exact eq_I rfl | exact eq_S rfl | exact eq_LN hr.units rfl | exact eq_LI2 hr.units rfl)
local macro_rules | `(tactic| walk_at "NotEq") => `(tactic| first | exact ne_I rfl | exact ne_S rfl | exact ne_LN hr.units rfl)
local macro_rules | `(tactic| walk_at "Is") => `(tactic| first | exact isN_non rfl | exact isN_int rfl | exact isN_O rfl)
local macro_rules | `(tactic| walk_at "IsNot") => `(tactic| first | exact notN_non rfl | exact notN_int rfl | exact notN_O rfl)
local macro_rules | `(tactic| walk_at "Mod") => `(tactic| exact mod_I (by walk_at "sd") rfl)
local macro_rules | `(tactic| walk_at "ix") => `(tactic| first | exact ix_L rfl rfl | exact ix_I (by walk_at "sd") (by walk_at "sd") rfl | exact ix_LL (by walk_at "sd") (by walk_at "sd") rfl)
local macro_rules | `(tactic| walk_at "sl") => `(tactic| first | exact sl_I rfl | exact sl_LL rfl | exact sl_L rfl)
local macro_rules | `(tactic| walk_at "cd") => `(tactic| first | exact cd_allP rfl rfl | exact cd_anyP rfl rfl | exact cd_sumP rfl rfl | exact isi_LI k_list_list rfl | exact isi_LL k_list_list rfl | exact isi_int k_int_int rfl | exact isi_int k_int_bool rfl | exact len_I rfl | exact len_LL rfl | exact cd_int rfl | exact cd_rpr hgd hr.units (by assumption) (.inl ⟨_, rfl⟩) rfl | exact cd_max_2 rfl rfl | exact sum_LL rfl (by walk_at "len") rfl | exact cd_min2 rfl rfl | exact cd_max2 rfl rfl)
local macro_rules | `(tactic| walk_at "pre") => `(tactic| first | trivial | assumption | exact ⟨by walk_at "sd", by walk_at "sd"⟩)
local macro_rules | `(tactic| walk_at "out") => `(tactic| first | exact fun _ _ h => h)
local macro_rules | `(tactic| walk_at "dv") => `(tactic| exact ⟨by decide, by decide +kernel⟩)
local macro_rules | `(tactic| walk_at "Pow") => `(tactic| first | exact pow_W (by decide) (by decide +kernel) rfl)
local macro_rules | `(tactic| walk_at "hw") => `(tactic| first | rfl | exact feet_wipe1 fun x hx => foot_opt hx)
local macro_rules | `(tactic| walk_at "Mult") => `(tactic| first | exact mul_L (by decide) (by decide) (by decide) rfl | exact mul_B (by walk_at "sd") (by walk_at "sd") rfl)
local macro_rules | `(tactic| walk_at "FloorDiv") => `(tactic| exact div_I (by walk_at "dv") rfl)
local macro_rules | `(tactic| walk_at "rg") => `(tactic| first | walk_at "sd" | exact rng_lo (by walk_at "sd") (by walk_at "sd") | exact rng_hi (by walk_at "sd") (by walk_at "sd"))
local macro_rules | `(tactic| walk_at "tt") => `(tactic| first | assumption | rfl | (simp only [decide_eq_true_eq, decide_eq_false_iff_not] ; omega) | (simp; done) | (simp; omega) | (simp [*]; done))
local macro_rules | `(tactic| walk_at "len2") => `(tactic| first | (simp only [List.length_map]; exact Nat.lt_of_le_of_lt (List.length_filter_le _ _) (by rw [List.length_range]; omega)) | (simp only [List.length_map, List.length_nil]; omega) | (simp; omega) | simp)
local macro_rules | `(tactic| walk_at "len") => `(tactic| first | omega | (simp only [List.length_map, List.length_zip, List.length_range] at *; omega) | (rw [List.length_range]; decide))
namespace K03
open PySem PySem.Spec PyProof.Rows L2 Vl
variable {P : Program} {w : World} {K : PySem.W.Frag} {mg : Str → Option Value} {base : Heap}
--def is_whole
def c_is_whole : Con := ⟨Int, fun n => [.fz (.int n)], fun _ => True, fun _ x _ => x = .fz (.bl true)⟩
theorem t_is_whole (T : Txt mg) (D : Def K mg "is_whole" s_is_whole ["thing"]) : Cl P w K mg base 1 "is_whole" ["thing"] c_is_whole := by
  refine D.cl sc_is_whole (fun _ => rfl) fun f cdv A outer s H E i hgd hr hp => ?_
  refine eb_one (es_ret (Ev.use (ed_and (ed_callB (id := "isinstance") (ds := [_, _]) (by rfl) T.n_isinstance bt_isinstance (ed_acons (ed_var 0 rfl (Or.inl rfl) rfl) (ed_acons (ed_bltn (v := .ty "int") (by rfl) T.n_int bt_int rfl) ed_anil)) rfl (by walk_at "cd")) (fun h => (ed_one (ed_not (ed_callB (id := "isinstance") (ds := [_, _]) (by rfl) T.n_isinstance bt_isinstance (ed_acons (ed_var 0 rfl (Or.inl rfl) rfl) (ed_acons (ed_bltn (v := .ty "bool") (by rfl) T.n_bool bt_bool rfl) ed_anil)) rfl (by walk_at "cd")))))) ?_))
  exact ⟨_, keep_fz rfl, rfl⟩
--def check_missing
def c_check_missing : Con := ⟨List Int, fun ms => [.fz (LI ms)], MsOk, fun _ x _ => x = .fz .non⟩
theorem t_check_missing {k : Nat} (T : Txt mg) (D : Def K mg "check_missing" s_check_missing ["missing"]) (q_is_whole : Cl P w K mg base k "is_whole" ["thing"] c_is_whole) : Cl P w K mg base (k + 1) "check_missing" ["missing"] c_check_missing := by
  refine D.cl sc_check_missing (fun _ => rfl) fun f cdv A outer s H E (ms : List Int) hgd hr hp => ?_
  obtain ⟨h1, h2, h3⟩ : MsOk ms := hp
  refine eb_cons (es_ifF (ed_W (ed_orW (ed_notT (ed_valT (ed_callB (id := "isinstance") (ds := [_, _]) (by rfl) T.n_isinstance bt_isinstance (ed_acons (ed_var 0 rfl (Or.inl rfl) rfl) (ed_acons (ed_bltn (v := .ty "list") (by rfl) T.n_list bt_list rfl) ed_anil)) rfl (by walk_at "cd")))) (fun h => (ed_or1 (ed_notT (ed_chain ed_int (ed_callB (id := "len") (ds := [_]) (by rfl) T.n_len bt_len (ed_acons (ed_var 0 rfl (Or.inl rfl) rfl) ed_anil) rfl (by walk_at "cd")) (by walk_at "LtE") (fun h => (ed_globI (by rfl) T.c_MOST_ROWS)) (fun h => by walk_at "LtE"))))))) ?_ (eb_nil ?_))
  · simp
    omega
  refine eb_one (es_forE (xs := ms) (g := .int) 0 PassesOwn.never rfl (fun i δ' => ∃ a b, δ' = [some (.fz (LI ms)), a, b]) (ei_enum (by rfl) T.n_enumerate (Ea.use (ed_acons (ed_var 0 rfl (Or.inl rfl) rfl) ed_anil) ⟨_, rfl, rfl, ⟨none, none, rfl⟩⟩)) (fun i hi δ1 ⟨a, b, e⟩ => ?_) fun δ' h => ?_)
  · subst e
    refine (eg_tup rfl (egs_cons (eg_name 1 sc_check_missing.nd rfl (.inl rfl) (Nat.le_of_ble_eq_true rfl) (egs_cons (eg_name 2 sc_check_missing.nd rfl (.inl rfl) (Nat.le_of_ble_eq_true rfl) (egs_nil ?_))))) rfl)
    have h4 := h3 i hi
    have e4 : ms.getD i 0 = ms[i] := by simp [hi]
    rw [e4] at h4
    refine eb_one (es_ifF (ed_W (ed_orW (ed_notT (ed_valT (ed_clF q_is_whole hgd hr (by rfl) (i := ms[i]) (ds := [_]) (ed_acons (ed_var 2 rfl (Or.inl rfl) rfl) ed_anil) rfl rfl (by walk_at "pre") (by walk_at "out")))) (fun h => (ed_or1 (ed_notT (ed_chain ed_int (ed_var 2 rfl (Or.inl rfl) rfl) (by walk_at "LtE") (fun h => (ed_ifI (ed_cmpT (ed_var 1 rfl (Or.inl rfl) rfl) ed_int (by walk_at "Gt")) (fun h => (ed_ix (ed_var 0 rfl (Or.inl rfl) rfl) (ed_bin (ed_var 1 rfl (Or.inl rfl) rfl) ed_int (by walk_at "Sub")) (by walk_at "ix"))) (fun h => (ed_globI (by rfl) T.c_MOST_LONG)))) (fun h => by walk_at "LtE"))))))) ?_ (eb_nil ⟨_, _, rfl⟩))
    simp only [Bool.not_true, Bool.false_or, Bool.not_eq_false', Bool.and_eq_true, decide_eq_true_eq]
    refine ⟨h4.1, ?_⟩
    by_cases h0 : 0 < i
    · rw [if_pos h0] at h4
      rw [if_pos (by omega)]
      have : (((i + 0 : Nat) : Int) - 1).toNat = i - 1 := by omega
      rw [this]
      exact h4.2
    · rw [if_neg h0] at h4
      rw [if_neg (by omega)]
      exact h4.2
  · obtain ⟨a, b, rfl⟩ := h
    exact ⟨_, keep_fz rfl, rfl⟩
--def check_numbers
def c_check_numbers : Con := ⟨List Int × Int, fun i => [.fz (LI i.1), .fz (.int i.2)], fun i => i.1.length ≤ 100000, fun _ x _ => x = .fz .non⟩
theorem t_check_numbers {k : Nat} (T : Txt mg) (D : Def K mg "check_numbers" s_check_numbers ["row", "index"]) (q_is_whole : Cl P w K mg base k "is_whole" ["thing"] c_is_whole) : Cl P w K mg base (k + 1) "check_numbers" ["row", "index"] c_check_numbers := by
  refine D.cl sc_check_numbers (fun _ => rfl) fun f cdv A outer s H E ⟨ns, j⟩ hgd hr hp => ?_
  show Eb _ (defBody s_check_numbers) [some (.fz (LI ns)), some (.fz (.int j)), none] _
  have hp : ns.length ≤ 100000 := hp
  refine eb_one (es_ifF (ed_W (ed_orW (ed_notT (ed_valT (ed_callB (id := "isinstance") (ds := [_, _]) (by rfl) T.n_isinstance bt_isinstance (ed_acons (ed_var 0 rfl (Or.inl rfl) rfl) (ed_acons (ed_bltn (v := .ty "list") (by rfl) T.n_list bt_list rfl) ed_anil)) rfl (by walk_at "cd")))) (fun h => (ed_or1 (ed_notT (ed_valT (ed_callB (id := "all") (ds := [_]) (by rfl) T.n_all bt_all (ed_acons (ed_lcN (xs := ns) (g := .int) (h := fun _ => .bl true) 2 rfl sc_check_numbers.nd (blkOk_by (own := [("number", 2)]) (N := ["row", "index", "number"]) (sc := defScope s_check_numbers) (by decide +kernel)) (Nat.le_of_ble_eq_true rfl) rfl (ei_list (Ev.use (ed_var 0 rfl (Or.inl rfl) rfl) ⟨_, rfl, rfl, rfl⟩)) (by walk_at "len") (by walk_at "hw") (fun z hz Y hY => by obtain ⟨sB, HB, CB, clB, fpB, rfl⟩ := hY; exact (ed_clF q_is_whole hgd hr (by rfl) (i := z) (ds := [_]) (ed_acons (ed_var 2 rfl (Or.inl rfl) rfl) ed_anil) rfl rfl (by walk_at "pre") (by walk_at "out")))) ed_anil) rfl (by walk_at "cd")))))))) ?_ (eb_nil ?_))
  · simp
  · exact ⟨_, keep_fz rfl, rfl⟩
--def check_rows
def c_check_rows : Con := ⟨List Int × List (List Int), fun i => [.fz (LI i.1), .fz (LL i.2)], fun i => MsOk i.1 ∧ RowsOk i.1 i.2, fun _ x _ => x = .fz .non⟩
theorem t_check_rows {k : Nat} (T : Txt mg) (D : Def K mg "check_rows" s_check_rows ["missing", "rows"]) (q_check_numbers : Cl P w K mg base k "check_numbers" ["row", "index"] c_check_numbers) : Cl P w K mg base (k + 1) "check_rows" ["missing", "rows"] c_check_rows := by
  refine D.cl sc_check_rows (fun _ => rfl) fun f cdv A outer s H E ⟨ms, rows⟩ hgd hr hp => ?_
  show Eb _ (defBody s_check_rows) [some (.fz (LI ms)), some (.fz (LL rows)), none, none] _
  have hp : MsOk ms ∧ RowsOk ms rows := hp
  obtain ⟨⟨h1, h2, h3⟩, hl, h5⟩ := id hp
  refine eb_cons (es_ifF (ed_W (ed_orW (ed_notT (ed_valT (ed_callB (id := "isinstance") (ds := [_, _]) (by rfl) T.n_isinstance bt_isinstance (ed_acons (ed_var 1 rfl (Or.inl rfl) rfl) (ed_acons (ed_bltn (v := .ty "list") (by rfl) T.n_list bt_list rfl) ed_anil)) rfl (by walk_at "cd")))) (fun h => (ed_or1 (ed_cmpT (ed_callB (id := "len") (ds := [_]) (by rfl) T.n_len bt_len (ed_acons (ed_var 1 rfl (Or.inl rfl) rfl) ed_anil) rfl (by walk_at "cd")) (ed_callB (id := "len") (ds := [_]) (by rfl) T.n_len bt_len (ed_acons (ed_var 0 rfl (Or.inl rfl) rfl) ed_anil) rfl (by walk_at "cd")) (by walk_at "NotEq")))))) ?_ (eb_nil ?_))
  · simp [hl]
  refine eb_one (es_forE (xs := rows) (g := LI) 0 PassesOwn.never rfl (fun i δ' => ∃ a b, δ' = [some (.fz (LI ms)), some (.fz (LL rows)), a, b]) (ei_enum (by rfl) T.n_enumerate (Ea.use (ed_acons (ed_var 1 rfl (Or.inl rfl) rfl) ed_anil) ⟨_, rfl, rfl, ⟨none, none, rfl⟩⟩)) (fun i hi δ1 ⟨a, b, e⟩ => ?_) fun δ' h => ?_)
  · subst e
    refine (eg_tup rfl (egs_cons (eg_name 2 sc_check_rows.nd rfl (.inl rfl) (Nat.le_of_ble_eq_true rfl) (egs_cons (eg_name 3 sc_check_rows.nd rfl (.inl rfl) (Nat.le_of_ble_eq_true rfl) (egs_nil ?_))))) rfl)
    have him : i < ms.length := by omega
    have h6 := h5 i him
    have e6 : rows.getD i [] = rows[i] := by simp [hi]
    rw [e6] at h6
    have hlen : rows[i].length ≤ 100000 := by
      have := row_le hp.1 hp.2 i
      rw [e6] at this
      omega
    refine eb_cons (es_expr (Ev.use (ed_clF q_check_numbers hgd hr (by rfl) (i := (rows[i], ((i + 0 : Nat) : Int))) (ds := [_, _]) (ed_acons (ed_var 3 rfl (Or.inl rfl) rfl) (ed_acons (ed_var 2 rfl (Or.inl rfl) rfl) ed_anil)) rfl rfl (by walk_at "pre") (by walk_at "out")) ?_))
    refine eb_one (es_ifF (ed_cmpT (ed_bin (ed_ix (ed_var 0 rfl (Or.inl rfl) rfl) (ed_var 2 rfl (Or.inl rfl) rfl) (by walk_at "ix")) (ed_callB (id := "len") (ds := [_]) (by rfl) T.n_len bt_len (ed_acons (ed_var 3 rfl (Or.inl rfl) rfl) ed_anil) rfl (by walk_at "cd")) (by walk_at "Add")) (ed_ifI (ed_cmpT (ed_var 2 rfl (Or.inl rfl) rfl) ed_int (by walk_at "Gt")) (fun h => (ed_bin (ed_ix (ed_var 0 rfl (Or.inl rfl) rfl) (ed_bin (ed_var 2 rfl (Or.inl rfl) rfl) ed_int (by walk_at "Sub")) (by walk_at "ix")) (ed_callB (id := "len") (ds := [_]) (by rfl) T.n_len bt_len (ed_acons (ed_ix (ed_var 1 rfl (Or.inl rfl) rfl) (ed_bin (ed_var 2 rfl (Or.inl rfl) rfl) ed_int (by walk_at "Sub")) (by walk_at "ix")) ed_anil) rfl (by walk_at "cd")) (by walk_at "Add"))) (fun h => (ed_globI (by rfl) T.c_MOST_LONG))) (by walk_at "Gt")) ?_ (eb_nil ⟨_, _, rfl⟩))
    have ei : (((i + 0 : Nat) : Int)).toNat = i := by omega
    have em : (((i + 0 : Nat) : Int) - 1).toNat = i - 1 := by omega
    rw [ei, em, decide_eq_false_iff_not]
    by_cases h0 : 0 < i
    · rw [if_pos h0] at h6
      rw [if_pos (by simp [h0])]
      omega
    · rw [if_neg h0] at h6
      rw [if_neg (by simp [h0])]
      omega
  · obtain ⟨a, b, rfl⟩ := h
    exact ⟨_, keep_fz rfl, rfl⟩
--def number_at
def c_number_at : Con := ⟨List Int × List (List Int) × Int × Int, fun i => [.fz (LI i.1), .fz (LL i.2.1), .fz (.int i.2.2.1), .fz (.int i.2.2.2)], fun i => i.2.1.length = i.1.length, fun i x _ => x = .fz (oI (look i.1 i.2.1 (i.2.2.1 - 1) (i.2.2.2 - 1)))⟩
theorem t_number_at {k : Nat} (T : Txt mg) (D : Def K mg "number_at" s_number_at ["missing", "rows", "row", "column"]) : Cl P w K mg base (k + 1) "number_at" ["missing", "rows", "row", "column"] c_number_at := by
  refine D.cl sc_number_at (fun _ => rfl) fun f cdv A outer s H E ⟨ms, rows, row, col⟩ hgd hr hp => ?_
  show Eb _ (defBody s_number_at) [some (.fz (LI ms)), some (.fz (LL rows)), some (.fz (.int row)), some (.fz (.int col)), none] _
  have hl : rows.length = ms.length := hp
  refine eb_cons (es_ifK (ed_notT (ed_chain ed_int (ed_var 2 rfl (Or.inl rfl) rfl) (by walk_at "LtE") (fun h => (ed_callB (id := "len") (ds := [_]) (by rfl) T.n_len bt_len (ed_acons (ed_var 1 rfl (Or.inl rfl) rfl) ed_anil) rfl (by walk_at "cd"))) (fun h => by walk_at "LtE"))) (fun h => eb_one (es_ret (Ev.use ed_non ?_))) fun h => eb_nil ?_)
  · refine ⟨_, keep_fz rfl, ?_⟩
    show _ = OD.fz (oI (look ms rows (row - 1) (col - 1)))
    unfold look
    rw [if_neg (by simp at h; omega)]
    rfl
  simp only [Bool.not_eq_false', Bool.and_eq_true, decide_eq_true_eq] at h
  obtain ⟨ha, hb⟩ := h
  refine eb_cons (es_set 4 sc_number_at.nd rfl (.inl rfl) (Ev.use (ed_bin (ed_bin (ed_var 3 rfl (Or.inl rfl) rfl) (ed_ix (ed_var 0 rfl (Or.inl rfl) rfl) (ed_bin (ed_var 2 rfl (Or.inl rfl) rfl) ed_int (by walk_at "Sub")) (by walk_at "ix")) (by walk_at "Sub")) ed_int (by walk_at "Sub")) ⟨Nat.le_of_ble_eq_true rfl, ?_⟩))
  refine eb_one (es_ret (Ev.use (ed_ifD (ed_chain ed_int (ed_var 4 rfl (Or.inl rfl) rfl) (by walk_at "LtE") (fun h => (ed_callB (id := "len") (ds := [_]) (by rfl) T.n_len bt_len (ed_acons (ed_ix (ed_var 1 rfl (Or.inl rfl) rfl) (ed_bin (ed_var 2 rfl (Or.inl rfl) rfl) ed_int (by walk_at "Sub")) (by walk_at "ix")) ed_anil) rfl (by walk_at "cd"))) (fun h => by walk_at "Lt")) (fun h => (ed_ix (ed_ix (ed_var 1 rfl (Or.inl rfl) rfl) (ed_bin (ed_var 2 rfl (Or.inl rfl) rfl) ed_int (by walk_at "Sub")) (by walk_at "ix")) (ed_var 4 rfl (Or.inl rfl) rfl) (by walk_at "ix"))) (fun h => ed_non)) ?_))
  refine ⟨_, keep_fz rfl, ?_⟩
  show _ = OD.fz (oI (look ms rows (row - 1) (col - 1)))
  congr 1
  unfold look
  have e : col - ms.getD (row - 1).toNat 0 - 1 = col - 1 - ms.getD (row - 1).toNat 0 := by omega
  rw [if_pos (show 0 ≤ row - 1 ∧ row - 1 < rows.length by omega), e]
  simp only [Bool.and_eq_true, decide_eq_true_eq]
  split <;> rfl
end K03

namespace K03
open PySem PySem.Spec PyProof.Rows L2 Vl
variable {P : Program} {w : World} {K : PySem.W.Frag} {mg : Str → Option Value} {base : Heap}
--def wrong_rows
def c_wrong_rows : Con := ⟨List Int × List (List Int), fun i => [.fz (LI i.1), .fz (LL i.2)], fun i => MsOk i.1 ∧ RowsOk i.1 i.2, fun i x _ => x = .fz (LI (wrongR i.1 i.2))⟩
theorem t_wrong_rows {k : Nat} (T : Txt mg) (D : Def K mg "wrong_rows" s_wrong_rows ["missing", "rows"]) (q_number_at : Cl P w K mg base k "number_at" ["missing", "rows", "row", "column"] c_number_at) : Cl P w K mg base (k + 1) "wrong_rows" ["missing", "rows"] c_wrong_rows := by
  refine D.cl sc_wrong_rows (fun _ => rfl) fun f cdv A outer s H E ⟨ms, rows⟩ hgd hr hp => ?_
  show Eb _ (defBody s_wrong_rows) [some (.fz (LI ms)), some (.fz (LL rows)), none, none, none, none, none, none, none, none, none] _
  have hp : MsOk ms ∧ RowsOk ms rows := hp
  have hl : rows.length = ms.length := hp.2.1
  refine eb_cons (es_set 2 sc_wrong_rows.nd rfl (.inl rfl) (ev_lstO (ea_nil ⟨[], rfl, Nat.zero_le _, fun l => ⟨Nat.le_of_ble_eq_true rfl, ?_⟩⟩)))
  refine eb_cons (es_forE (xs := rows) (g := LI) 1 PassesOwn.never rfl (fun i δ' => ∃ a b c d e f, δ' = [some (.fz (LI ms)), some (.fz (LL rows)), some (ol l ((((List.range i).filter (fallsB ms rows)).map fun i => ((i + 1 : Nat) : Int)).map .int)), a, b, c, d, e, f, none, none]) (ei_enumK (by rfl) T.n_enumerate (Ea.use (ed_acons (ed_var 1 rfl (Or.inl rfl) rfl) (ed_acons ed_int ed_anil)) ⟨_, 1, rfl, (by decide), rfl, ⟨none, none, none, none, none, none, rfl⟩⟩)) ?st ?dn)
  case st =>
    intro i hi δ1 h
    obtain ⟨a, b, c, d, e, f, rfl⟩ := h
    have hi8 : i < 8 := by have := hp.1.2.1; omega
    have hr8 : rows[i].length ≤ 8 := by
      have := row_le hp.1 hp.2 i
      rwa [show rows.getD i [] = rows[i] by simp [hi]] at this
    have eg : rows.getD i [] = rows[i] := by simp [hi]
    refine (eg_tup rfl (egs_cons (eg_name 3 sc_wrong_rows.nd rfl (.inl rfl) (Nat.le_of_ble_eq_true rfl) (egs_cons (eg_name 4 sc_wrong_rows.nd rfl (.inl rfl) (Nat.le_of_ble_eq_true rfl) (egs_nil ?_))))) rfl)
    have hcl : (cut rows[i] (some 1) none).length ≤ 8 := by
      rw [show cut rows[i] (some 1) none = rows[i].drop 1 from cut_from 1, List.length_drop]
      omega
    refine eb_cons (es_set 5 sc_wrong_rows.nd rfl (.inl rfl) (Ev.use (ed_callB (id := "any") (ds := [_]) (by rfl) T.n_any bt_any (ed_acons (ed_lcP (xs := rows[i].zip (cut rows[i] (some 1) none)) (g1 := fun z => .int z.1) (g2 :=  fun z => .int z.2) (h := fun z => .bl (decide (z.2 < z.1))) 9 10 rfl sc_wrong_rows.nd (blkOk_by (own := [("left", 9), ("right", 10)]) (N := ["missing", "rows", "told", "row", "numbers", "falls", "place", "number", "above", "left", "right"]) (sc := defScope s_wrong_rows) (by decide +kernel)) (Nat.le_of_ble_eq_true rfl) (Nat.le_of_ble_eq_true rfl) rfl rfl (ei_zip (by rfl) T.n_zip (Ea.use (ed_acons (ed_var 4 rfl (Or.inl rfl) rfl) (ed_acons (ed_sl (ed_var 4 rfl (Or.inl rfl) rfl) (ed_some ed_int) (ep_none rfl) (by walk_at "sl")) ed_anil)) ⟨_, _, rfl, zipD_map, rfl⟩)) (by walk_at "len") (by walk_at "hw") (fun z hz Y hY => by obtain ⟨sB, HB, CB, clB, fpB, rfl⟩ := hY; exact (ed_cmp (ed_var 10 rfl (Or.inl rfl) rfl) (ed_var 9 rfl (Or.inl rfl) rfl) (by walk_at "Lt")))) ed_anil) rfl (by walk_at "cd")) ⟨Nat.le_of_ble_eq_true rfl, ?_⟩))
    rw [show cut rows[i] (some 1) none = rows[i].drop 1 from cut_from 1]
    refine eb_cons (es_forE (xs := rows[i]) (g := .int) 0 PassesOwn.never rfl (fun j δ' => ∃ d e f, δ' = [some (.fz (LI ms)), some (.fz (LL rows)), some (ol l ((((List.range i).filter (fallsB ms rows)).map fun i => ((i + 1 : Nat) : Int)).map .int)), some (.fz (.int ((i + 1 : Nat) : Int))), some (.fz (LI rows[i])), some (.fz (.bl ((rows[i].zip (rows[i].drop 1)).any (fun z => decide (z.2 < z.1)) || (List.range j).any fun p => aboveBad ms rows i p (rows[i].getD p 0)))), d, e, f, none, none]) (ei_enum (by rfl) T.n_enumerate (Ea.use (ed_acons (ed_var 4 rfl (Or.inl rfl) rfl) ed_anil) ⟨_, rfl, rfl, ⟨d, e, f, by simp⟩⟩)) ?st2 ?dn2)
    case st2 =>
      intro j hj δ1 h
      obtain ⟨d, e, f, rfl⟩ := h
      refine (eg_tup rfl (egs_cons (eg_name 6 sc_wrong_rows.nd rfl (.inl rfl) (Nat.le_of_ble_eq_true rfl) (egs_cons (eg_name 7 sc_wrong_rows.nd rfl (.inl rfl) (Nat.le_of_ble_eq_true rfl) (egs_nil ?_))))) rfl)
      refine eb_cons (es_set 8 sc_wrong_rows.nd rfl (.inl rfl) (Ev.use (ed_clF q_number_at hgd hr (by rfl) (i := (ms, rows, ((i + 1 : Nat) : Int) - 1, ms.getD (((i + 1 : Nat) : Int) - 1).toNat 0 + ((j + 0 : Nat) : Int) + 1)) (ds := [_, _, _, _]) (ed_acons (ed_var 0 rfl (Or.inl rfl) rfl) (ed_acons (ed_var 1 rfl (Or.inl rfl) rfl) (ed_acons (ed_bin (ed_var 3 rfl (Or.inl rfl) rfl) ed_int (by walk_at "Sub")) (ed_acons (ed_bin (ed_bin (ed_ix (ed_var 0 rfl (Or.inl rfl) rfl) (ed_bin (ed_var 3 rfl (Or.inl rfl) rfl) ed_int (by walk_at "Sub")) (by walk_at "ix")) (ed_var 6 rfl (Or.inl rfl) rfl) (by walk_at "Add")) ed_int (by walk_at "Add")) ed_anil)))) rfl rfl (by walk_at "pre") (by walk_at "out")) ⟨Nat.le_of_ble_eq_true rfl, ?_⟩))
      have e1 : (((i + 1 : Nat) : Int) - 1).toNat = i := by omega
      have elook : look ms rows (((i + 1 : Nat) : Int) - 1 - 1) (ms.getD (((i + 1 : Nat) : Int) - 1).toNat 0 + ((j + 0 : Nat) : Int) + 1 - 1) = look ms rows ((i : Int) - 1) (ms.getD i 0 + j) := by
        rw [e1]
        congr 1 <;> omega
      dsimp only
      rw [elook]
      have ej : rows[i].getD j 0 = rows[i][j] := by simp [hj]
      have estep : ∀ b : Bool, (b || (List.range (j + 1)).any fun p => aboveBad ms rows i p (rows[i].getD p 0)) = ((b || (List.range j).any fun p => aboveBad ms rows i p (rows[i].getD p 0)) || aboveBad ms rows i j rows[i][j]) := fun b => by
        rw [List.range_succ, List.any_append, ← Bool.or_assoc]
        simp [hj]
      cases el : look ms rows ((i : Int) - 1) (ms.getD i 0 + j) with
      | none =>
        have eb : aboveBad ms rows i j rows[i][j] = false := by unfold aboveBad; rw [el]
        refine eb_one (es_set 5 sc_wrong_rows.nd rfl (.inl rfl) (Ev.use (ed_or (ed_var 5 rfl (Or.inl rfl) rfl) (fun h => (ed_one (ed_andF (ed_cmp (ed_var 8 rfl (Or.inl rfl) rfl) ed_non (by walk_at "IsNot")) (by walk_at "tt"))))) ⟨Nat.le_of_ble_eq_true rfl, ?_⟩))
        rw [estep, eb]
        exact ⟨_, _, _, rfl⟩
      | some v =>
        have eb : aboveBad ms rows i j rows[i][j] = decide (rows[i][j] ≤ v) := by unfold aboveBad; rw [el]
        refine eb_one (es_set 5 sc_wrong_rows.nd rfl (.inl rfl) (Ev.use (ed_or (ed_var 5 rfl (Or.inl rfl) rfl) (fun h => (ed_one (ed_andT (ed_cmp (ed_var 8 rfl (Or.inl rfl) rfl) ed_non (by walk_at "IsNot")) (by walk_at "tt") (ed_one (ed_cmp (ed_var 8 rfl (Or.inl rfl) rfl) (ed_var 7 rfl (Or.inl rfl) rfl) (by walk_at "GtE"))))))) ⟨Nat.le_of_ble_eq_true rfl, ?_⟩))
        rw [estep, eb]
        exact ⟨_, _, _, rfl⟩
    case dn2 =>
      intro δ' h
      obtain ⟨d, e, f, rfl⟩ := h
      have ef : fallsB ms rows i = ((rows[i].zip (rows[i].drop 1)).any (fun z => decide (z.2 < z.1)) || (List.range rows[i].length).any fun p => aboveBad ms rows i p (rows[i].getD p 0)) := by
        unfold fallsB
        rw [eg]
      rw [← ef]
      refine eb_one (es_ifK (ed_valT (ed_var 5 rfl (Or.inl rfl) rfl)) (fun h => eb_one (es_app 2 rfl (Or.inl rfl) rfl (by walk_at "len2") (Ev.use (ed_var 3 rfl (Or.inl rfl) rfl) ⟨_, rfl, rfl, ?_⟩))) fun h => eb_nil ?_)
      · rw [List.range_succ, List.filter_append, List.map_append, List.map_append, List.filter_cons_of_pos h]
        exact ⟨_, _, _, _, _, _, rfl⟩
      · rw [List.range_succ, List.filter_append, List.filter_cons_of_neg (by rw [h]; simp), List.filter_nil, List.append_nil]
        exact ⟨_, _, _, _, _, _, rfl⟩
  case dn =>
    intro δ' h
    obtain ⟨a, b, c, d, e, f, rfl⟩ := h
    refine eb_one (es_ret (ev_frz (ev_mov 2 rfl (Or.inl rfl) rfl ?_)))
    refine ⟨_, keep_fz rfl, ?_⟩
    show OD.fz (dat (ol l _)) = OD.fz (LI (wrongR ms rows))
    unfold dat
    rw [dats_fz]
    rfl
--def check_piece
def c_check_piece : Con := ⟨List Int × List (List Int), fun i => [.fz (LI i.1), .fz (LL i.2)], fun i => MsOk i.1 ∧ RowsOk i.1 i.2 ∧ wrongR i.1 i.2 = [], fun _ x _ => x = .fz .non⟩
theorem t_check_piece {k : Nat} (T : Txt mg) (D : Def K mg "check_piece" s_check_piece ["missing", "rows"]) (q_check_missing : Cl P w K mg base k "check_missing" ["missing"] c_check_missing) (q_check_rows : Cl P w K mg base k "check_rows" ["missing", "rows"] c_check_rows) (q_wrong_rows : Cl P w K mg base k "wrong_rows" ["missing", "rows"] c_wrong_rows) : Cl P w K mg base (k + 1) "check_piece" ["missing", "rows"] c_check_piece := by
  refine D.cl sc_check_piece (fun _ => rfl) fun f cdv A outer s H E ⟨ms, rows⟩ hgd hr hp => ?_
  show Eb _ (defBody s_check_piece) [some (.fz (LI ms)), some (.fz (LL rows)), none] _
  obtain ⟨hm, hrw, hw⟩ : MsOk ms ∧ RowsOk ms rows ∧ wrongR ms rows = [] := hp
  refine eb_cons (es_expr (Ev.use (ed_clF q_check_missing hgd hr (by rfl) (i := ms) (ds := [_]) (ed_acons (ed_var 0 rfl (Or.inl rfl) rfl) ed_anil) rfl rfl (by walk_at "pre") (by walk_at "out")) ?_))
  refine eb_cons (es_expr (Ev.use (ed_clF q_check_rows hgd hr (by rfl) (i := (ms, rows)) (ds := [_, _]) (ed_acons (ed_var 0 rfl (Or.inl rfl) rfl) (ed_acons (ed_var 1 rfl (Or.inl rfl) rfl) ed_anil)) rfl rfl (by walk_at "pre") (by walk_at "out")) ?_))
  refine eb_cons (es_set 2 sc_check_piece.nd rfl (.inl rfl) (Ev.use (ed_clF q_wrong_rows hgd hr (by rfl) (i := (ms, rows)) (ds := [_, _]) (ed_acons (ed_var 0 rfl (Or.inl rfl) rfl) (ed_acons (ed_var 1 rfl (Or.inl rfl) rfl) ed_anil)) rfl rfl (by walk_at "pre") (by walk_at "out")) ⟨Nat.le_of_ble_eq_true rfl, ?_⟩))
  dsimp only
  rw [hw]
  refine eb_one (es_ifF (ed_cmpT (ed_var 2 rfl (Or.inl rfl) rfl) (ed_lst (ds := []) ed_anil rfl (Nat.le_of_ble_eq_true rfl)) (by walk_at "NotEq")) ?_ (eb_nil ?_))
  · rfl
  · exact ⟨_, keep_fz rfl, rfl⟩
--def is_sorted
def c_is_sorted : Con := ⟨List Int × List (List Int), fun i => [.fz (LI i.1), .fz (LL i.2)], fun i => MsOk i.1 ∧ RowsOk i.1 i.2, fun i x _ => x = .fz (.bl (goodB i.1 i.2))⟩
theorem t_is_sorted {k : Nat} (T : Txt mg) (D : Def K mg "is_sorted" s_is_sorted ["missing", "rows"]) (q_check_missing : Cl P w K mg base k "check_missing" ["missing"] c_check_missing) (q_check_rows : Cl P w K mg base k "check_rows" ["missing", "rows"] c_check_rows) (q_wrong_rows : Cl P w K mg base k "wrong_rows" ["missing", "rows"] c_wrong_rows) : ClS P w K mg base (k + 1) "is_sorted" s_is_sorted ["missing", "rows"] c_is_sorted := by
  refine D.clS sc_is_sorted (fun _ => rfl) fun f cdv A outer s H E ⟨ms, rows⟩ hgd hr hp => ?_
  show Eb _ (defBody s_is_sorted) [some (.fz (LI ms)), some (.fz (LL rows))] _
  obtain ⟨hm, hrw⟩ : MsOk ms ∧ RowsOk ms rows := hp
  refine eb_cons (es_expr (Ev.use (ed_clF q_check_missing hgd hr (by rfl) (i := ms) (ds := [_]) (ed_acons (ed_var 0 rfl (Or.inl rfl) rfl) ed_anil) rfl rfl (by walk_at "pre") (by walk_at "out")) ?_))
  refine eb_cons (es_expr (Ev.use (ed_clF q_check_rows hgd hr (by rfl) (i := (ms, rows)) (ds := [_, _]) (ed_acons (ed_var 0 rfl (Or.inl rfl) rfl) (ed_acons (ed_var 1 rfl (Or.inl rfl) rfl) ed_anil)) rfl rfl (by walk_at "pre") (by walk_at "out")) ?_))
  refine eb_one (es_ret (Ev.use (ed_cmp (ed_clF q_wrong_rows hgd hr (by rfl) (i := (ms, rows)) (ds := [_, _]) (ed_acons (ed_var 0 rfl (Or.inl rfl) rfl) (ed_acons (ed_var 1 rfl (Or.inl rfl) rfl) ed_anil)) rfl rfl (by walk_at "pre") (by walk_at "out")) (ed_lst (ds := []) ed_anil rfl (Nat.le_of_ble_eq_true rfl)) (by walk_at "Eq")) ?_))
  exact ⟨_, keep_fz rfl, by show OD.fz _ = OD.fz (.bl (goodB ms rows)); rw [← good_wrong]⟩
--def word_in
def c_word_in : Con := ⟨List (List Int), fun rows => [.fz (LL rows)], fun rows => rows.length ≤ 8 ∧ rows.flatten.length ≤ 90000, fun rows x _ => ∃ a, x = ol a (rows.reverse.flatten.map .int)⟩
theorem t_word_in {k : Nat} (T : Txt mg) (D : Def K mg "word_in" s_word_in ["rows"]) : Cl P w K mg base (k + 1) "word_in" ["rows"] c_word_in := by
  refine D.cl sc_word_in (fun _ => rfl) fun f cdv A outer s H E (rows : List (List Int)) hgd hr hp => ?_
  show Eb _ (defBody s_word_in) [some (.fz (LL rows)), none, none] _
  obtain ⟨hl, hz⟩ : rows.length ≤ 8 ∧ rows.flatten.length ≤ 90000 := hp
  have er : (rows.map LI).reverse = rows.reverse.map LI := by rw [List.map_reverse]
  have ef : (rows.reverse.flatMap fun z => (z.map Vl.D.int)) = rows.reverse.flatten.map .int := by
    rw [List.map_flatten, List.flatMap_def]
  have el : (rows.reverse.flatMap fun z => (z.map Vl.D.int)).length < 100000 := by
    rw [ef, List.length_map]
    have : rows.reverse.flatten.length = rows.flatten.length := by
      rw [List.length_flatten, List.length_flatten, List.map_reverse, List.sum_reverse]
    omega
  refine eb_one (es_ret (ed_lc2N (xs := rows.reverse) (g := LI) (inner := id) (g1 := fun _ => .int) (h := fun _ => .int) 1 2 (x := "row") (y := "number") rfl sc_word_in.nd (blkOk_by (own := [("row", 1), ("number", 2)]) (N := ["rows", "row", "number"]) (sc := defScope s_word_in) (by decide +kernel)) (Nat.le_of_ble_eq_true rfl) (Nat.le_of_ble_eq_true rfl) rfl rfl (by decide) (ei_list (Ev.use (ed_rev (ed_var 0 rfl (Or.inl rfl) rfl)) ⟨_, rfl, er, rfl⟩)) rfl (fun z => rfl) (fun z => rfl) (fun z hz Y hY => ?i1) (fun z hz y hy Y hY => ?i2) el fun l => ?i3))
  case i1 =>
    obtain ⟨sB, HB, CB, clB, fpB, rfl⟩ := hY
    exact ei_list (Ev.use (ed_var 1 rfl (Or.inl rfl) rfl) ⟨_, rfl, rfl, rfl⟩)
  case i2 =>
    obtain ⟨sB, HB, CB, clB, fpB, rfl⟩ := hY
    exact (ed_var 2 rfl (Or.inl rfl) rfl)
  case i3 =>
    show ∃ xs', KeepA _ xs' _ ∧ ∃ a, _ = ol a (rows.reverse.flatten.map .int)
    exact ⟨_, keep_fz rfl, l, by rw [← ef]; rfl⟩
--def word_of
def c_word_of : Con := ⟨List Int × List (List Int), fun i => [.fz (LI i.1), .fz (LL i.2)], fun i => MsOk i.1 ∧ RowsOk i.1 i.2 ∧ wrongR i.1 i.2 = [], fun i x _ => ∃ a, x = ol a (i.2.reverse.flatten.map .int)⟩
theorem t_word_of {k : Nat} (T : Txt mg) (D : Def K mg "word_of" s_word_of ["missing", "rows"]) (q_check_piece : Cl P w K mg base k "check_piece" ["missing", "rows"] c_check_piece) (q_word_in : Cl P w K mg base k "word_in" ["rows"] c_word_in) : ClS P w K mg base (k + 1) "word_of" s_word_of ["missing", "rows"] c_word_of := by
  refine D.clS sc_word_of (fun _ => rfl) fun f cdv A outer s H E ⟨ms, rows⟩ hgd hr hp => ?_
  show Eb _ (defBody s_word_of) [some (.fz (LI ms)), some (.fz (LL rows))] _
  have hp : MsOk ms ∧ RowsOk ms rows ∧ wrongR ms rows = [] := hp
  refine eb_cons (es_expr (Ev.use (ed_clF q_check_piece hgd hr (by rfl) (i := (ms, rows)) (ds := [_, _]) (ed_acons (ed_var 0 rfl (Or.inl rfl) rfl) (ed_acons (ed_var 1 rfl (Or.inl rfl) rfl) ed_anil)) rfl rfl (by walk_at "pre") (by walk_at "out")) ?_))
  refine eb_one (es_ret (ev_cl q_word_in hgd hr (by rfl) (Ea.use (ed_acons (ed_var 1 rfl (Or.inl rfl) rfl) ed_anil) ⟨rows, rfl, List.nodup_nil, ⟨?_, ?_⟩, fun y xs' _ ho => ?_⟩)))
  · have := hp.1.2.1
    have := hp.2.1.1
    omega
  · exact Nat.le_trans (flat_le hp.1 hp.2.1) (by decide)
  · obtain ⟨a, rfl⟩ : ∃ a, y = ol a (rows.reverse.flatten.map .int) := ho
    exact ⟨_, keep_fz rfl, a, rfl⟩
end K03

namespace K03
open PySem PySem.Spec PyProof.Rows L2 Vl
variable {P : Program} {w : World} {K : PySem.W.Frag} {mg : Str → Option Value} {base : Heap}
--def _law_draws
def c_draws : Con := ⟨Int, fun c => [.fz (.int c)], fun _ => True, fun _ x _ => ∃ a n b, x = dr a n 0 b ∧ 0 ≤ n⟩
theorem t_law_draws {k : Nat} (T : Txt mg) (D : Def K mg "_law_draws" s_law_draws ["cell"]) : Cl P w K mg base (k + 1) "_law_draws" ["cell"] c_draws := by
  refine D.cl sc_law_draws (fun _ => rfl) fun f cdv A outer s H E (c : Int) hgd hr hp => ?_
  show Eb _ (defBody s_law_draws) [some (.fz (.int c))] _
  have hpos : (0 : Int) < (((10 : Int) ^ (60 : Int).toNat) ^ (60 : Int).toNat) ^ (4 : Int).toNat := Int.pow_pos (Int.pow_pos (Int.pow_pos (by decide)))
  refine eb_one (es_ret (ev_lstO (Ea.use (ed_acons (ed_bin (ed_callT (id := "int") (ds := [_]) (by rfl) T.n_int bt_int (ed_acons (ed_var 0 rfl (Or.inl rfl) rfl) ed_anil) rfl (by walk_at "cd")) (ed_bin (ed_bin (ed_bin ed_int ed_int (by walk_at "Pow")) ed_int (by walk_at "Pow")) ed_int (by walk_at "Pow")) (by walk_at "Mod")) (ed_acons ed_int (ed_acons (ed_cmp (ed_var 0 rfl (Or.inl rfl) rfl) (ed_bin ed_int ed_int (by walk_at "Pow")) (by walk_at "GtE")) ed_anil))) ⟨[_, _, _], rfl, Nat.le_of_ble_eq_true rfl, fun a => ?_⟩)))
  refine ⟨_, keep_fz rfl, a, _, _, rfl, Int.emod_nonneg _ (Int.ne_of_gt hpos)⟩
--def _law_next
theorem t_law_next {k : Nat} (T : Txt mg) (D : Def K mg "_law_next" s_law_next ["draws"]) : Cl P w K mg base (k + 1) "_law_next" ["draws"] c_next := by
  refine D.cl sc_law_next (fun _ => rfl) fun f cdv A outer s H E ⟨ad, n, kk, way⟩ hgd hr hp => ?_
  show Eb _ (defBody s_law_next) [some (dr ad n kk way), none, none] _
  obtain ⟨h0, h1, h2⟩ : 0 ≤ n ∧ 0 ≤ kk ∧ kk < 2 ^ 60 := hp
  have done : ∀ {δ' : En} (z n' : Int), δ'[0]? = some (some (dr ad n' (kk + 1) way)) → 0 ≤ z → z < 2 ^ 31 → 0 ≤ n' → ∃ xs', KeepA [dr ad n kk way] xs' δ' ∧ ∃ z' n'' : Int, OD.fz (.int z) = .fz (.int z') ∧ 0 ≤ z' ∧ z' < 2 ^ 31 ∧ 0 ≤ n'' ∧ xs' = [dr ad n'' (kk + 1) way] := fun z n' g0 z0 z1 hn =>
    ⟨_, keep_one g0 (dr_foot.trans dr_foot.symm) (by rw [dr_foot]; simp) rfl, z, n', rfl, z0, z1, hn, rfl⟩
  refine eb_cons (es_asg (Ev.use (ed_bin (ed_look (ed_ix (ed_var 0 rfl (Or.inl rfl) rfl) ed_int (by walk_at "ix")) rfl) ed_int (by walk_at "Add")) (eg_setA 0 (sub_name 0 rfl (Or.inl rfl) rfl) rfl .top ed_int (by walk_at "sd") (by walk_at "sd") ?_)))
  refine eb_cons (es_set 1 sc_law_next.nd rfl (.inl rfl) (Ev.use (ed_look (ed_ix (ed_var 0 rfl (Or.inl rfl) rfl) ed_int (by walk_at "ix")) rfl) ⟨Nat.le_of_ble_eq_true rfl, ?_⟩))
  refine eb_cons (es_ifK (ed_valT (ed_look (ed_ix (ed_var 0 rfl (Or.inl rfl) rfl) ed_int (by walk_at "ix")) rfl)) (fun h => ?_) fun h => eb_nil ?_)
  · refine eb_cons (es_set 2 sc_law_next.nd rfl (.inl rfl) (Ev.use (ed_bin (ed_callT (id := "int") (ds := [_]) (by rfl) T.n_int bt_int (ed_acons (ed_look (ed_ix (ed_var 0 rfl (Or.inl rfl) rfl) ed_int (by walk_at "ix")) rfl) ed_anil) rfl (by walk_at "cd")) (ed_bin ed_int ed_int (by walk_at "Pow")) (by walk_at "Mod")) ⟨Nat.le_of_ble_eq_true rfl, ?_⟩))
    refine eb_cons (es_asg (Ev.use (ed_bin (ed_look (ed_ix (ed_var 0 rfl (Or.inl rfl) rfl) ed_int (by walk_at "ix")) rfl) (ed_bin ed_int ed_int (by walk_at "Pow")) (by walk_at "FloorDiv")) (eg_setA 0 (sub_name 0 rfl (Or.inl rfl) rfl) rfl .top ed_int (by walk_at "sd") (by walk_at "sd") ?_)))
    refine eb_one (es_ret (Ev.use (ed_var 2 rfl (Or.inl rfl) rfl) ?_))
    have hz : (0 : Int) < 10 ^ (6 : Int).toNat := by decide
    refine done (n % 10 ^ (6 : Int).toNat) (n / 10 ^ (6 : Int).toNat) rfl (Int.emod_nonneg _ (by decide)) (Int.lt_trans (Int.emod_lt_of_pos _ hz) (by decide)) (Int.ediv_nonneg h0 (by decide))
  · have hk := mul_lt (x := kk + 1) (y := kk + 1) (a := 2 ^ 60 + 1) (b := 2 ^ 60 + 1) (by omega) (by omega) (by omega) (by omega)
    refine eb_cons (es_set 2 sc_law_next.nd rfl (.inl rfl) (Ev.use (ed_bin (ed_callT (id := "int") (ds := [_]) (by rfl) T.n_int bt_int (ed_acons (ed_bin (ed_bin (ed_bin (ed_bin (ed_callT (id := "int") (ds := [_]) (by rfl) T.n_int bt_int (ed_acons (ed_look (ed_ix (ed_var 0 rfl (Or.inl rfl) rfl) ed_int (by walk_at "ix")) rfl) ed_anil) rfl (by walk_at "cd")) ed_int (by walk_at "Mod")) (ed_bin (ed_bin (ed_var 1 rfl (Or.inl rfl) rfl) (ed_var 1 rfl (Or.inl rfl) rfl) (by walk_at "Mult")) ed_int (by walk_at "Mult")) (by walk_at "Add")) (ed_var 1 rfl (Or.inl rfl) rfl) (by walk_at "Add")) ed_int (by walk_at "Mult")) ed_anil) rfl (by walk_at "cd")) ed_int (by walk_at "Mod")) ⟨Nat.le_of_ble_eq_true rfl, ?_⟩))
    generalize hx : (n % 1000003 + (kk + 1) * (kk + 1) * 7919 + (kk + 1)) * 48271 % 2147483629 = x1
    have hx0 : 0 ≤ x1 := by rw [← hx]; exact Int.emod_nonneg _ (by decide)
    have hx1 : x1 < 2147483629 := by rw [← hx]; exact Int.emod_lt_of_pos _ (by decide)
    have hxx := mul_lt (x := x1) (y := x1) (a := 2147483629) (b := 2147483629) hx0 hx1 hx0 hx1
    refine eb_cons (es_set 2 sc_law_next.nd rfl (.inl rfl) (Ev.use (ed_bin (ed_callT (id := "int") (ds := [_]) (by rfl) T.n_int bt_int (ed_acons (ed_bin (ed_var 2 rfl (Or.inl rfl) rfl) (ed_var 2 rfl (Or.inl rfl) rfl) (by walk_at "Mult")) ed_anil) rfl (by walk_at "cd")) ed_int (by walk_at "Mod")) ⟨Nat.le_of_ble_eq_true rfl, ?_⟩))
    generalize hy : x1 * x1 % 2147483587 = x2
    have hy0 : 0 ≤ x2 := by rw [← hy]; exact Int.emod_nonneg _ (by decide)
    have hy1 : x2 < 2147483587 := by rw [← hy]; exact Int.emod_lt_of_pos _ (by decide)
    have hyy := mul_lt (x := x2) (y := x2 + 2) (a := 2147483587) (b := 2147483589) hy0 hy1 (by omega) (by omega)
    refine eb_one (es_ret (Ev.use (ed_bin (ed_bin (ed_callT (id := "int") (ds := [_]) (by rfl) T.n_int bt_int (ed_acons (ed_bin (ed_var 2 rfl (Or.inl rfl) rfl) (ed_bin (ed_var 2 rfl (Or.inl rfl) rfl) ed_int (by walk_at "Add")) (by walk_at "Mult")) ed_anil) rfl (by walk_at "cd")) ed_int (by walk_at "Mod")) ed_int (by walk_at "FloorDiv")) ?_))
    have hm0 := Int.emod_nonneg (x2 * (x2 + 2)) (show (2147483579 : Int) ≠ 0 by decide)
    have hm1 := Int.emod_lt_of_pos (x2 * (x2 + 2)) (show (0 : Int) < 2147483579 by decide)
    refine done _ n rfl ?_ ?_ h0
    · omega
    · omega
end K03

namespace K03
open PySem PySem.Spec PyProof.Rows L2 Vl
variable {P : Program} {w : World} {K : PySem.W.Frag} {mg : Str → Option Value} {base : Heap}
--def _law_shape
def c_shape : Con := ⟨Addr × Int × Int × Bool × Nat × Nat, fun ⟨ad, n, kk, way, high, wide⟩ => [dr ad n kk way, .fz (.int high), .fz (.int wide)], fun ⟨_, n, kk, _, high, wide⟩ => 0 ≤ n ∧ 0 ≤ kk ∧ kk + high + 2 < 2 ^ 60 ∧ 1 ≤ high ∧ high ≤ 1000 ∧ 1 ≤ wide ∧ wide ≤ 1000,
  fun ⟨ad, _, kk, way, high, wide⟩ x xs' => ∃ (ls : List Int) (n' k' : Int), x = .fz (LI ls) ∧ ShOk ls high wide ∧ 0 ≤ n' ∧ kk ≤ k' ∧ k' ≤ kk + high + 2 ∧ xs' = [dr ad n' k' way, .fz (.int high), .fz (.int wide)]⟩
theorem t_law_shape {k : Nat} (T : Txt mg) (D : Def K mg "_law_shape" s_law_shape ["draws", "high", "wide"]) (q_law_next : Cl P w K mg base k "_law_next" ["draws"] c_next) : Cl P w K mg base (k + 1) "_law_shape" ["draws", "high", "wide"] c_shape := by
  refine D.cl sc_law_shape (fun _ => rfl) fun f cdv A outer s H E ⟨ad, n, kk, way, high, wide⟩ hgd hr hp => ?_
  show Eb _ (defBody s_law_shape) [some (dr ad n kk way), some (.fz (.int high)), some (.fz (.int wide)), none, none, none, none] _
  obtain ⟨h0, h1, h2, h3, h4, h5, h6⟩ : 0 ≤ n ∧ 0 ≤ kk ∧ kk + high + 2 < 2 ^ 60 ∧ 1 ≤ high ∧ high ≤ 1000 ∧ 1 ≤ wide ∧ wide ≤ 1000 := hp
  refine eb_cons (es_set 3 sc_law_shape.nd rfl (.inl rfl) (ev_lstO (ea_nil ⟨[], rfl, Nat.zero_le _, fun l => ⟨Nat.le_of_ble_eq_true rfl, ?_⟩⟩)))
  refine eb_cons (es_set 4 sc_law_shape.nd rfl (.inl rfl) (ev_bin (Ev.use ed_int (ev_bin (ev_inx 0 q_law_next hgd hr (by rfl) T.n_int (by rfl) rfl (Or.inl rfl) rfl (by walk_at "sd") (by walk_at "sd") (by walk_at "sd") (fun z1 n1 hz1 hzz1 hn1 => (Ev.use (ed_var 2 rfl (Or.inl rfl) rfl) (mod_I (by walk_at "sd") (add_I ⟨Nat.le_of_ble_eq_true rfl, ?_⟩)))))))))
  refine eb_cons (es_forC PassesOwn.never rfl (ei_range1 (by rfl) T.n_range (ea_cons (ev_bin (Ev.use ed_int (ev_bin (ev_inx 0 q_law_next hgd hr (by rfl) T.n_int (by rfl) rfl (Or.inl rfl) rfl (by walk_at "sd") (by walk_at "sd") (by walk_at "sd") (fun z2 n2 hz2 hzz2 hn2 => (Ev.use (ed_var 1 rfl (Or.inl rfl) rfl) (mod_I (by walk_at "sd") (add_I ⟨_, rfl, (ea_nil ⟨_, rfl, by walk_at "rg", by walk_at "rg", ?lp⟩)⟩)))))))))))
  case lp =>
    have hw0 := Int.emod_nonneg z1 (show (wide : Int) ≠ 0 by omega)
    have hw1 := Int.emod_lt_of_pos z1 (show (0 : Int) < wide by omega)
    have hh0 := Int.emod_nonneg z2 (show (high : Int) ≠ 0 by omega)
    have hh1 := Int.emod_lt_of_pos z2 (show (0 : Int) < high by omega)
    refine lp_R (fun i δ' => ∃ (ls : List Int) (m n' k' : Int) (a b : Option OD), ls.length = i ∧ ShInv ls m wide ∧ 0 ≤ n' ∧ kk ≤ k' ∧ k' ≤ kk + 2 + i ∧ δ' = [some (dr ad n' k' way), some (.fz (.int high)), some (.fz (.int wide)), some (ol l (ls.map .int)), some (.fz (.int m)), a, b]) ⟨[], 1 + z1 % wide, n2, kk + 1 + 1, none, none, rfl, ⟨fun j hj => absurd hj (Nat.not_lt_zero _), by omega, by simp; omega⟩, hn2, by omega, by omega, rfl⟩ (fun i hi δ1 h => ?_) fun δ' h => ?_
    · obtain ⟨ls, m, n', k', a, b, hl, hs, hn', hk1, hk2, rfl⟩ := h
      refine (eg_name 5 sc_law_shape.nd rfl (.inl rfl) (Nat.le_of_ble_eq_true rfl) ?_)
      refine eb_cons (es_app 3 rfl (Or.inl rfl) rfl (by walk_at "len2") (Ev.use (ed_var 4 rfl (Or.inl rfl) rfl) ⟨_, rfl, rfl, ?_⟩))
      refine eb_cons (es_set 6 sc_law_shape.nd rfl (.inl rfl) (ev_inx 0 q_law_next hgd hr (by rfl) T.n_int (by rfl) rfl (Or.inl rfl) rfl (by walk_at "sd") (by walk_at "sd") (by walk_at "sd") (fun z3 n3 hz3 hzz3 hn3 => ⟨Nat.le_of_ble_eq_true rfl, ?_⟩)))
      have hp1 := sel3 (z3 / 64 % 3) (by omega) (by omega)
      refine eb_one (es_set 4 sc_law_shape.nd rfl (.inl rfl) (Ev.use (ed_callB (id := "max") (ds := [_, _]) (by rfl) T.n_max bt_max (ed_acons ed_int (ed_acons (ed_bin (ed_var 4 rfl (Or.inl rfl) rfl) (ed_bin (ed_var 6 rfl (Or.inl rfl) rfl) (ed_ix (ed_lst (ds := [_, _, _]) (ed_acons ed_int (ed_acons ed_int (ed_acons ed_int ed_anil))) rfl (Nat.le_of_ble_eq_true rfl)) (ed_bin (ed_bin (ed_var 6 rfl (Or.inl rfl) rfl) ed_int (by walk_at "FloorDiv")) ed_int (by walk_at "Mod")) (ix_I (ns := [3, 3, 9]) (by walk_at "sd") (by walk_at "sd") rfl)) (by walk_at "Mod")) (by walk_at "Sub")) ed_anil)) rfl (by walk_at "cd")) ⟨Nat.le_of_ble_eq_true rfl, ?_⟩))
      have hm0 := Int.emod_nonneg z3 (show ([3, 3, 9] : List Int).getD (z3 / 64 % 3).toNat 0 ≠ 0 by omega)
      refine ⟨ls ++ [m], _, n3, k' + 1, _, _, by rw [List.length_append, List.length_singleton, hl], hs.step ?_ ?_, hn3, by omega, by omega, by rw [List.map_append]; rfl⟩
      · split <;> omega
      · have := hs.2.1
        split <;> omega
    · obtain ⟨ls, m, n', k', a, b, hl, hs, hn', hk1, hk2, rfl⟩ := h
      refine eb_one (es_ret (ev_frz (ev_mov 3 rfl (Or.inl rfl) rfl ?_)))
      refine ⟨_, keep_one rfl (dr_foot.trans dr_foot.symm) (by rw [dr_foot]; simp) rfl, ls, n', k', ?_, ⟨?_, ?_, hs.1⟩, hn', hk1, ?_, rfl⟩
      · show OD.fz (dat (ol l _)) = OD.fz (LI ls)
        unfold dat
        rw [dats_fz]
        rfl
      · omega
      · omega
      · omega
end K03

namespace K03
open PySem PySem.Spec PyProof.Rows L2 Vl
variable {P : Program} {w : World} {K : PySem.W.Frag} {mg : Str → Option Value} {base : Heap}
--def _law_within
def c_within : Con := ⟨Addr × Int × Int × Bool × List Int, fun ⟨ad, n, kk, way, ls⟩ => [dr ad n kk way, .fz (LI ls)], fun ⟨_, n, kk, _, ls⟩ => 0 ≤ n ∧ 0 ≤ kk ∧ kk + ls.length < 2 ^ 60 ∧ 1 ≤ ls.length ∧ ls.length ≤ 1000 ∧ ∀ i, i < ls.length → 0 ≤ ls.getD i 0 ∧ ls.getD i 0 < 1000,
  fun ⟨ad, _, kk, way, ls⟩ x xs' => ∃ (gs : List Int) (n' k' : Int), x = .fz (LI gs) ∧ WiOk gs ls ∧ 0 ≤ n' ∧ kk ≤ k' ∧ k' ≤ kk + ls.length ∧ xs' = [dr ad n' k' way, .fz (LI ls)]⟩
theorem t_law_within {k : Nat} (T : Txt mg) (D : Def K mg "_law_within" s_law_within ["draws", "lengths"]) (q_law_next : Cl P w K mg base k "_law_next" ["draws"] c_next) : Cl P w K mg base (k + 1) "_law_within" ["draws", "lengths"] c_within := by
  refine D.cl sc_law_within (fun _ => rfl) fun f cdv A outer s H E ⟨ad, n, kk, way, ls⟩ hgd hr hp => ?_
  show Eb _ (defBody s_law_within) [some (dr ad n kk way), some (.fz (LI ls)), none, none, none] _
  obtain ⟨h0, h1, h2, h3, h4, h5⟩ : 0 ≤ n ∧ 0 ≤ kk ∧ kk + ls.length < 2 ^ 60 ∧ 1 ≤ ls.length ∧ ls.length ≤ 1000 ∧ ∀ i, i < ls.length → 0 ≤ ls.getD i 0 ∧ ls.getD i 0 < 1000 := hp
  refine eb_cons (es_set 2 sc_law_within.nd rfl (.inl rfl) (ev_lstO (ea_nil ⟨[], rfl, Nat.zero_le _, fun l => ⟨Nat.le_of_ble_eq_true rfl, ?_⟩⟩)))
  refine eb_cons (es_set 3 sc_law_within.nd rfl (.inl rfl) (Ev.use (ed_ix (ed_var 1 rfl (Or.inl rfl) rfl) ed_int (by walk_at "ix")) ⟨Nat.le_of_ble_eq_true rfl, ?_⟩))
  refine eb_cons (es_forC PassesOwn.never rfl (ei_list (Ev.use (ed_var 1 rfl (Or.inl rfl) rfl) ⟨_, rfl, ?lp⟩)))
  case lp =>
    refine lp_M (xs := ls) (g := .int) (fun i δ' => ∃ (gs : List Int) (m n' k' : Int) (b : Option OD), gs.length = i ∧ WiInv gs ls m ∧ 0 ≤ n' ∧ kk ≤ k' ∧ k' ≤ kk + i ∧ δ' = [some (dr ad n' k' way), some (.fz (LI ls)), some (ol l (gs.map .int)), some (.fz (.int m)), b]) ⟨[], ls.getD 0 0, n, kk, none, rfl, ⟨Nat.zero_le _, fun j hj => absurd hj (Nat.not_lt_zero _), (h5 0 (by omega)).1, by simp⟩, h0, by omega, by omega, rfl⟩ (fun i hi δ1 h => ?_) fun δ' h => ?_
    · obtain ⟨gs, m, n', k', b, hl, hs, hn', hk1, hk2, rfl⟩ := h
      refine (eg_name 4 sc_law_within.nd rfl (.inl rfl) (Nat.le_of_ble_eq_true rfl) ?_)
      have h6 := h5 i hi
      have ei : ls.getD i 0 = ls[i] := by simp [hi]
      rw [ei] at h6
      refine eb_cons (es_set 3 sc_law_within.nd rfl (.inl rfl) (ev_callB (id := "min") (by rfl) T.n_min bt_min (ea_cons (Ev.use (ed_var 3 rfl (Or.inl rfl) rfl) ⟨_, rfl, (ea_cons (ev_bin (ev_inx 0 q_law_next hgd hr (by rfl) T.n_int (by rfl) rfl (Or.inl rfl) rfl (by walk_at "sd") (by walk_at "sd") (by walk_at "sd") (fun z1 n1 hz1 hzz1 hn1 => (Ev.use (ed_bin (ed_var 4 rfl (Or.inl rfl) rfl) ed_int (by walk_at "Add")) (mod_I (by walk_at "sd") ⟨_, rfl, (ea_nil ⟨[_, _], rfl, (cd_min2 rfl ⟨Nat.le_of_ble_eq_true rfl, ?_⟩)⟩)⟩))))))⟩))))
      have hm0 := Int.emod_nonneg z1 (show ls[i] + 1 ≠ 0 by omega)
      have hm1 := Int.emod_lt_of_pos z1 (show (0 : Int) < ls[i] + 1 by omega)
      refine eb_one (es_app 2 rfl (Or.inl rfl) rfl (by walk_at "len2") (Ev.use (ed_var 3 rfl (Or.inl rfl) rfl) ⟨_, rfl, rfl, ?_⟩))
      have hb := hs.2.2.1
      refine ⟨gs ++ [_], _, n1, k' + 1, _, by rw [List.length_append, List.length_singleton, hl], hs.step (by omega) (m' := if z1 % (ls[i] + 1) < m then z1 % (ls[i] + 1) else m) ?_ ?_ ?_, hn1, by omega, by omega, by rw [List.map_append]; rfl⟩
      · split <;> omega
      · split <;> omega
      · rw [hl, ei]
        split <;> omega
    · obtain ⟨gs, m, n', k', b, hl, hs, hn', hk1, hk2, rfl⟩ := h
      refine eb_one (es_ret (ev_frz (ev_mov 2 rfl (Or.inl rfl) rfl ?_)))
      refine ⟨_, keep_one rfl (dr_foot.trans dr_foot.symm) (by rw [dr_foot]; simp) rfl, gs, n', k', ?_, ⟨hl, fun i hi => hs.2.1 i (by omega)⟩, hn', hk1, ?_, rfl⟩
      · show OD.fz (dat (ol l _)) = OD.fz (LI gs)
        unfold dat
        rw [dats_fz]
        rfl
      · omega
--def _law_look
def c_look : Con := ⟨List Int × List (List Int) × Int × Int, fun i => [.fz (LI i.1), .fz (LL i.2.1), .fz (.int i.2.2.1), .fz (.int i.2.2.2)], fun i => i.2.1.length = i.1.length, fun i x _ => x = .fz (oI (look i.1 i.2.1 i.2.2.1 i.2.2.2))⟩
theorem t_law_look {k : Nat} (T : Txt mg) (D : Def K mg "_law_look" s_law_look ["gone", "lines", "high", "wide"]) : Cl P w K mg base (k + 1) "_law_look" ["gone", "lines", "high", "wide"] c_look := by
  refine D.cl sc_law_look (fun _ => rfl) fun f cdv A outer s H E ⟨ms, rows, row, col⟩ hgd hr hp => ?_
  show Eb _ (defBody s_law_look) [some (.fz (LI ms)), some (.fz (LL rows)), some (.fz (.int row)), some (.fz (.int col)), none] _
  have hl : rows.length = ms.length := hp
  refine eb_cons (es_ifK (ed_notT (ed_chain ed_int (ed_var 2 rfl (Or.inl rfl) rfl) (by walk_at "LtE") (fun h => (ed_callB (id := "len") (ds := [_]) (by rfl) T.n_len bt_len (ed_acons (ed_var 1 rfl (Or.inl rfl) rfl) ed_anil) rfl (by walk_at "cd"))) (fun h => by walk_at "Lt"))) (fun h => eb_one (es_ret (Ev.use ed_non ?_))) fun h => eb_nil ?_)
  · refine ⟨_, keep_fz rfl, ?_⟩
    show _ = OD.fz (oI (look ms rows row col))
    unfold look
    rw [if_neg (by simp at h; omega)]
    rfl
  simp only [Bool.not_eq_false', Bool.and_eq_true, decide_eq_true_eq] at h
  obtain ⟨ha, hb⟩ := h
  refine eb_cons (es_set 4 sc_law_look.nd rfl (.inl rfl) (Ev.use (ed_bin (ed_var 3 rfl (Or.inl rfl) rfl) (ed_ix (ed_var 0 rfl (Or.inl rfl) rfl) (ed_var 2 rfl (Or.inl rfl) rfl) (by walk_at "ix")) (by walk_at "Sub")) ⟨Nat.le_of_ble_eq_true rfl, ?_⟩))
  refine eb_one (es_ret (Ev.use (ed_ifD (ed_chain ed_int (ed_var 4 rfl (Or.inl rfl) rfl) (by walk_at "LtE") (fun h => (ed_callB (id := "len") (ds := [_]) (by rfl) T.n_len bt_len (ed_acons (ed_ix (ed_var 1 rfl (Or.inl rfl) rfl) (ed_var 2 rfl (Or.inl rfl) rfl) (by walk_at "ix")) ed_anil) rfl (by walk_at "cd"))) (fun h => by walk_at "Lt")) (fun h => (ed_ix (ed_ix (ed_var 1 rfl (Or.inl rfl) rfl) (ed_var 2 rfl (Or.inl rfl) rfl) (by walk_at "ix")) (ed_var 4 rfl (Or.inl rfl) rfl) (by walk_at "ix"))) (fun h => ed_non)) ?_))
  refine ⟨_, keep_fz rfl, ?_⟩
  show _ = OD.fz (oI (look ms rows row col))
  congr 1
  unfold look
  rw [if_pos (show 0 ≤ row ∧ row < rows.length by omega)]
  simp only [Bool.and_eq_true, decide_eq_true_eq]
  split <;> rfl
end K03

namespace K03
open PySem PySem.Spec PyProof.Rows L2 Vl
variable {P : Program} {w : World} {K : PySem.W.Frag} {mg : Str → Option Value} {base : Heap}
--def _law_good
def c_good : Con := ⟨List Int × List (List Int), fun i => [.fz (LI i.1), .fz (LL i.2)], fun i => i.2.length = i.1.length, fun i x _ => x = .fz (.bl (goodB i.1 i.2))⟩
theorem t_law_good {k : Nat} (T : Txt mg) (D : Def K mg "_law_good" s_law_good ["gone", "lines"]) (q_law_look : Cl P w K mg base k "_law_look" ["gone", "lines", "high", "wide"] c_look) : Cl P w K mg base (k + 1) "_law_good" ["gone", "lines"] c_good := by
  refine D.cl sc_law_good (fun _ => rfl) fun f cdv A outer s H E ⟨gs, rows⟩ hgd hr hp => ?_
  show Eb _ (defBody s_law_good) [some (.fz (LI gs)), some (.fz (LL rows)), none, none, none, none, none] _
  have hl : rows.length = gs.length := hp
  have bad : ∀ {δ' : En} (j p : Nat), j < rows.length → p < (rowOf rows j).length → ¬ cellOk gs rows j p → ∃ xs', KeepA [.fz (LI gs), .fz (LL rows)] xs' δ' ∧ OD.fz (.bl false) = .fz (.bl (goodB gs rows)) := fun j p hj hp hc => by
    refine ⟨_, keep_fz rfl, ?_⟩
    cases e : goodB gs rows with
    | false => rfl
    | true => exact absurd ((good_iff gs rows).mp e j hj p hp) hc
  refine eb_cons (es_forE (xs := rows) (g := LI) 0 PassesOwn.never rfl (fun i δ' => (∀ j, j < i → ∀ p, p < (rowOf rows j).length → cellOk gs rows j p) ∧ ∃ a b c d e, δ' = [some (.fz (LI gs)), some (.fz (LL rows)), a, b, c, d, e]) (ei_enum (by rfl) T.n_enumerate (Ea.use (ed_acons (ed_var 1 rfl (Or.inl rfl) rfl) ed_anil) ⟨_, rfl, rfl, ⟨fun j hj => absurd hj (Nat.not_lt_zero _), none, none, none, none, none, rfl⟩⟩)) ?st ?dn)
  case st =>
    intro i hi δ1 h
    obtain ⟨hj, a, b, c, d, e, rfl⟩ := h
    have er : rows[i] = rowOf rows i := by unfold rowOf; simp [hi]
    rw [er]
    refine (eg_tup rfl (egs_cons (eg_name 2 sc_law_good.nd rfl (.inl rfl) (Nat.le_of_ble_eq_true rfl) (egs_cons (eg_name 3 sc_law_good.nd rfl (.inl rfl) (Nat.le_of_ble_eq_true rfl) (egs_nil ?_))))) rfl)
    refine eb_one (es_forE (xs := rowOf rows i) (g := .int) 0 PassesOwn.never rfl (fun p δ' => (∀ q, q < p → cellOk gs rows i q) ∧ ∃ c d e, δ' = [some (.fz (LI gs)), some (.fz (LL rows)), some (.fz (.int ((i + 0 : Nat) : Int))), some (.fz (LI (rowOf rows i))), c, d, e]) (ei_enum (by rfl) T.n_enumerate (Ea.use (ed_acons (ed_var 3 rfl (Or.inl rfl) rfl) ed_anil) ⟨_, rfl, rfl, ⟨fun j hj => absurd hj (Nat.not_lt_zero _), c, d, e, rfl⟩⟩)) ?st2 ?dn2)
    case st2 =>
      intro p hp δ1 h
      obtain ⟨hq, c, d, e, rfl⟩ := h
      refine (eg_tup rfl (egs_cons (eg_name 4 sc_law_good.nd rfl (.inl rfl) (Nat.le_of_ble_eq_true rfl) (egs_cons (eg_name 5 sc_law_good.nd rfl (.inl rfl) (Nat.le_of_ble_eq_true rfl) (egs_nil ?_))))) rfl)
      refine eb_cons (es_set 6 sc_law_good.nd rfl (.inl rfl) (Ev.use (ed_clF q_law_look hgd hr (by rfl) (i := (gs, rows, ((i + 0 : Nat) : Int) - 1, gs.getD (((i + 0 : Nat) : Int)).toNat 0 + ((p + 0 : Nat) : Int))) (ds := [_, _, _, _]) (ed_acons (ed_var 0 rfl (Or.inl rfl) rfl) (ed_acons (ed_var 1 rfl (Or.inl rfl) rfl) (ed_acons (ed_bin (ed_var 2 rfl (Or.inl rfl) rfl) ed_int (by walk_at "Sub")) (ed_acons (ed_bin (ed_ix (ed_var 0 rfl (Or.inl rfl) rfl) (ed_var 2 rfl (Or.inl rfl) rfl) (by walk_at "ix")) (ed_var 4 rfl (Or.inl rfl) rfl) (by walk_at "Add")) ed_anil)))) rfl rfl (by walk_at "pre") (by walk_at "out")) ⟨Nat.le_of_ble_eq_true rfl, ?_⟩))
      have elook : look gs rows (((i + 0 : Nat) : Int) - 1) (gs.getD (((i + 0 : Nat) : Int)).toNat 0 + ((p + 0 : Nat) : Int)) = look gs rows ((i : Int) - 1) (gs.getD i 0 + p) := rfl
      dsimp only
      rw [elook]
      have ep : (rowOf rows i).getD p 0 = (rowOf rows i)[p] := by simp [hp]
      refine eb_cons (es_ifK (ed_W (ed_andW (ed_cmpT (ed_var 4 rfl (Or.inl rfl) rfl) ed_int (by walk_at "Gt")) (fun h => (ed_and1 (ed_cmpT (ed_ix (ed_var 3 rfl (Or.inl rfl) rfl) (ed_bin (ed_var 4 rfl (Or.inl rfl) rfl) ed_int (by walk_at "Sub")) (by walk_at "ix")) (ed_var 5 rfl (Or.inl rfl) rfl) (by walk_at "Gt")))))) (fun h => eb_one (es_ret (Ev.use ed_bl ?_))) fun h => eb_nil ?_)
      · refine bad i p hi hp fun hc => ?_
        simp only [Bool.and_eq_true, decide_eq_true_eq] at h
        have h1 := hc.1 (by omega)
        rw [ep] at h1
        have h2 := h.2
        rw [show (((p + 0 : Nat) : Int) - 1).toNat = p - 1 by omega] at h2
        omega
      · have hleft : 0 < p → (rowOf rows i).getD (p - 1) 0 ≤ (rowOf rows i).getD p 0 := fun h0 => by
          simp only [Bool.and_eq_false_iff, decide_eq_false_iff_not] at h
          rw [show (((p + 0 : Nat) : Int) - 1).toNat = p - 1 by omega] at h
          rw [ep]
          omega
        cases el : look gs rows ((i : Int) - 1) (gs.getD i 0 + p) with
        | none =>
          refine eb_one (es_ifF (ed_W (ed_andWF (ed_cmpT (ed_var 6 rfl (Or.inl rfl) rfl) ed_non (by walk_at "IsNot")) (by walk_at "tt"))) rfl (eb_nil ?_))
          refine ⟨fun q hqq => ?_, _, _, _, rfl⟩
          by_cases e : q = p
          · subst e
            exact ⟨hleft, fun a ha => by rw [el] at ha; cases ha⟩
          · exact hq q (by omega)
        | some v =>
          refine eb_one (es_ifK (ed_W (ed_andWT (ed_cmpT (ed_var 6 rfl (Or.inl rfl) rfl) ed_non (by walk_at "IsNot")) (by walk_at "tt") (ed_and1 (ed_cmpT (ed_var 6 rfl (Or.inl rfl) rfl) (ed_var 5 rfl (Or.inl rfl) rfl) (by walk_at "GtE"))))) (fun h2 => eb_one (es_ret (Ev.use ed_bl ?_))) fun h2 => eb_nil ?_)
          · refine bad i p hi hp fun hc => ?_
            have h3 := hc.2 v el
            rw [ep] at h3
            simp only [decide_eq_true_eq] at h2
            omega
          · refine ⟨fun q hqq => ?_, _, _, _, rfl⟩
            by_cases e : q = p
            · subst e
              refine ⟨hleft, fun a ha => ?_⟩
              rw [el] at ha
              cases ha
              simp only [decide_eq_false_iff_not] at h2
              omega
            · exact hq q (by omega)
    case dn2 =>
      intro δ' h
      obtain ⟨hq, c, d, e, rfl⟩ := h
      refine ⟨fun j hjj => ?_, _, _, _, _, _, rfl⟩
      by_cases e : j = i
      · subst e
        exact hq
      · exact hj j (by omega)
  case dn =>
    intro δ' h
    obtain ⟨hj, a, b, c, d, e, rfl⟩ := h
    refine eb_one (es_ret (Ev.use ed_bl ?_))
    refine ⟨_, keep_fz rfl, ?_⟩
    show OD.fz (.bl true) = OD.fz (.bl (goodB gs rows))
    rw [(good_iff gs rows).mpr hj]
end K03

namespace K03
open PySem PySem.Spec PyProof.Rows L2 Vl
variable {P : Program} {w : World} {K : PySem.W.Frag} {mg : Str → Option Value} {base : Heap}
--def _law_piece
def c_piece : Con := ⟨Addr × Int × Int × Bool × List Int × Nat, fun ⟨ad, n, kk, way, ls, step⟩ => [dr ad n kk way, .fz (LI ls), .fz (.int step)], fun ⟨_, n, kk, _, ls, step⟩ => 0 ≤ n ∧ 0 ≤ kk ∧ kk + 200 < 2 ^ 60 ∧ ShOk ls 8 8 ∧ 1 ≤ step ∧ step ≤ 500,
  fun ⟨ad, _, kk, way, ls, step⟩ x xs' => ∃ (gs : List Int) (rows : List (List Int)) (n' k' : Int), x = .fz (.tup [LI gs, LL rows]) ∧ PcOk gs ls rows ∧ 0 ≤ n' ∧ kk ≤ k' ∧ k' ≤ kk + 200 ∧ xs' = [dr ad n' k' way, .fz (LI ls), .fz (.int step)]⟩
theorem t_law_piece {k : Nat} (T : Txt mg) (D : Def K mg "_law_piece" s_law_piece ["draws", "lengths", "step"]) (q_law_next : Cl P w K mg base k "_law_next" ["draws"] c_next) (q_law_within : Cl P w K mg base k "_law_within" ["draws", "lengths"] c_within) (q_law_look : Cl P w K mg base k "_law_look" ["gone", "lines", "high", "wide"] c_look) : Cl P w K mg base (k + 1) "_law_piece" ["draws", "lengths", "step"] c_piece := by
  refine D.cl sc_law_piece (fun _ => rfl) fun f cdv A outer s H E ⟨ad, n, kk, way, ls, step⟩ hgd hr hp => ?_
  show Eb _ (defBody s_law_piece) [some (dr ad n kk way), some (.fz (LI ls)), some (.fz (.int step)), none, none, none, none, none, none, none, none] _
  obtain ⟨h0, h1, h2, hsh, h3, h4⟩ : 0 ≤ n ∧ 0 ≤ kk ∧ kk + 200 < 2 ^ 60 ∧ ShOk ls 8 8 ∧ 1 ≤ step ∧ step ≤ 500 := hp
  obtain ⟨hl1, hl8, hsh⟩ := id hsh
  have hle : ∀ i, i < ls.length → 1 ≤ ls.getD i 0 ∧ ls.getD i 0 ≤ 8 := ShOk.le hsh
  refine eb_cons (es_set 3 sc_law_piece.nd rfl (.inl rfl) (ev_cl q_law_within hgd hr (by rfl) (Ea.use (ed_aslot 0 rfl (Or.inl rfl) rfl (ed_acons (ed_var 1 rfl (Or.inl rfl) rfl) ed_anil)) ⟨(ad, n, kk, way, ls), rfl, ?_, ⟨h0, h1, by omega, hl1, by omega, fun i hi => ⟨by have := hle i hi; omega, by have := hle i hi; omega⟩⟩, fun y xs' hf ho => ?_⟩)))
  · show (foots [dr ad n kk way, .fz (LI ls)]).Nodup
    rw [foots_cons, foots_one, dr_foot]
    unfold foot
    simp
  obtain ⟨gs, n1, k1, rfl, hw, hn1, hk1, hk1', rfl⟩ := ho
  refine ⟨Nat.le_of_ble_eq_true rfl, ?_⟩
  have hg0 : ∀ j, 0 ≤ gs.getD j 0 := WiOk.nn hw
  refine eb_cons (es_lcE (xs := ls) (g := .int) (fun _ y => ∃ a, y = ol a []) 6 4 rfl sc_law_piece.nd rfl rfl (by rfl) (blkOk_by (own := [("long", 6)]) (N := ["draws", "lengths", "step", "gone", "lines", "high", "long", "wide", "left", "above", "low"]) (sc := defScope s_law_piece) (by decide +kernel)) (Nat.le_of_ble_eq_true rfl) (Nat.le_of_ble_eq_true rfl) rfl (ei_list (Ev.use (ed_var 1 rfl (Or.inl rfl) rfl) ⟨_, rfl, rfl, rfl⟩)) (by omega) rfl (fun z hz Y hY => ?e1) fun l ys hE => ?e2)
  case e1 =>
    obtain ⟨sB, HB, CB, clB, fpB, rfl⟩ := hY
    exact ev_lstO (ea_nil ⟨[], rfl, Nat.zero_le _, fun a => ⟨rfl, a, rfl⟩⟩)
  case e2 =>
    have hR : RowsOD ys (ls.map fun _ => []) := ⟨by rw [hE.1, List.length_map], fun i hi => by
      rw [List.length_map] at hi
      obtain ⟨a, ha⟩ := hE.2 i ls[i] (ys[i]'(by rw [hE.1]; exact hi)) (by simp [hi]) (by simp [hE.1, hi])
      refine ⟨a, ?_⟩
      rw [show (ls.map fun _ => ([] : List Int)).getD i [] = [] by simp [List.getD_eq_getElem?_getD, hi]]
      rw [List.getElem?_eq_getElem (by rw [hE.1]; exact hi), ha]
      rfl⟩
    refine eb_cons (es_forE (xs := ls) (g := .int) 0 PassesOwn.never rfl (fun i δ' => ∃ (xs : List OD) (rows : List (List Int)) (n' k' : Int) (a b c d e f : Option OD), RowsOD xs rows ∧ PInv gs ls rows i 0 ∧ 0 ≤ n' ∧ kk ≤ k' ∧ k' ≤ kk + 8 + 8 * i ∧ δ' = [some (dr ad n' k' way), some (.fz (LI ls)), some (.fz (.int step)), some (.fz (LI gs)), some (.own l xs), a, b, c, d, e, f]) (ei_enum (by rfl) T.n_enumerate (Ea.use (ed_acons (ed_var 1 rfl (Or.inl rfl) rfl) ed_anil) ⟨_, rfl, rfl, ⟨ys, _, n1, k1, none, none, none, none, none, none, hR, PInv.start gs ls, hn1, by omega, by omega, rfl⟩⟩)) ?st ?dn)
    case st =>
      intro i hi δ1 h
      obtain ⟨xs, rows, n2, k2, a, b, c, d, e, f, hR, hI, hn2, hk2, hk2', rfl⟩ := h
      refine (eg_tup rfl (egs_cons (eg_name 5 sc_law_piece.nd rfl (.inl rfl) (Nat.le_of_ble_eq_true rfl) (egs_cons (eg_name 6 sc_law_piece.nd rfl (.inl rfl) (Nat.le_of_ble_eq_true rfl) (egs_nil ?_))))) rfl)
      have hli := hle i hi
      have hgi := (hw.2 i hi)
      have eli : ls.getD i 0 = ls[i] := by simp [hi]
      rw [eli] at hli hgi
      have gl : gs.length = ls.length := hw.1
      have hgi2 : 0 ≤ gs.getD (((i + 0 : Nat) : Int)).toNat 0 ∧ gs.getD (((i + 0 : Nat) : Int)).toNat 0 ≤ ls[i] := ⟨hgi.1, hgi.2.1⟩
      refine eb_one (es_forC PassesOwn.never rfl (ei_range2 (by rfl) T.n_range (Ea.use (ed_acons (ed_ix (ed_var 3 rfl (Or.inl rfl) rfl) (ed_var 5 rfl (Or.inl rfl) rfl) (by walk_at "ix")) (ed_acons (ed_var 6 rfl (Or.inl rfl) rfl) ed_anil)) ⟨_, _, rfl, ⟨by walk_at "sd", by walk_at "sd", by walk_at "sd", by walk_at "sd"⟩, ?lp⟩)))
      case lp =>
        rw [show (((i + 0 : Nat) : Int)).toNat = i by omega]
        refine lp_R (fun t δ' => ∃ (xs : List OD) (rows : List (List Int)) (n' k' : Int) (c d e f : Option OD), RowsOD xs rows ∧ PInv gs ls rows i t ∧ 0 ≤ n' ∧ kk ≤ k' ∧ k' ≤ kk + 8 + 8 * i + t ∧ δ' = [some (dr ad n' k' way), some (.fz (LI ls)), some (.fz (.int step)), some (.fz (LI gs)), some (.own l xs), some (.fz (.int ((i + 0 : Nat) : Int))), some (.fz (.int ls[i])), c, d, e, f]) ⟨xs, rows, n2, k2, c, d, e, f, hR, hI, hn2, hk2, by omega, rfl⟩ (fun t ht δ1 h => ?_) fun δ' h => ?_
        · obtain ⟨xs, rows, n3, k3, c, d, e, f, hR, hI, hn3, hk3, hk3', rfl⟩ := h
          have hrl : rows.length = gs.length := by rw [hI.len, gl]
          have hir : i < rows.length := by rw [hI.len]; exact hi
          refine (eg_name 7 sc_law_piece.nd rfl (.inl rfl) (Nat.le_of_ble_eq_true rfl) ?_)
          refine eb_cons (es_set 8 sc_law_piece.nd rfl (.inl rfl) (Ev.use (ed_look (ed_clF q_law_look hgd hr (by rfl) (i := (gs, rows, ((i + 0 : Nat) : Int), gs.getD i 0 + (t : Int) - 1)) (ds := [_, _, _, _]) (ed_acons (ed_var 3 rfl (Or.inl rfl) rfl) (ed_acons (Ev.is (ed_var 4 rfl (Or.inl rfl) rfl) (congrArg OD.fz (hR.dat))) (ed_acons (ed_var 5 rfl (Or.inl rfl) rfl) (ed_acons (ed_bin (ed_var 7 rfl (Or.inl rfl) rfl) ed_int (by walk_at "Sub")) ed_anil)))) rfl rfl (by walk_at "pre") (by walk_at "out")) (scal_oI _)) ⟨Nat.le_of_ble_eq_true rfl, ?_⟩))
          refine eb_cons (es_set 9 sc_law_piece.nd rfl (.inl rfl) (Ev.use (ed_look (ed_clF q_law_look hgd hr (by rfl) (i := (gs, rows, ((i + 0 : Nat) : Int) - 1, gs.getD i 0 + (t : Int))) (ds := [_, _, _, _]) (ed_acons (ed_var 3 rfl (Or.inl rfl) rfl) (ed_acons (Ev.is (ed_var 4 rfl (Or.inl rfl) rfl) (congrArg OD.fz (hR.dat))) (ed_acons (ed_bin (ed_var 5 rfl (Or.inl rfl) rfl) ed_int (by walk_at "Sub")) (ed_acons (ed_var 7 rfl (Or.inl rfl) rfl) ed_anil)))) rfl rfl (by walk_at "pre") (by walk_at "out")) (scal_oI _)) ⟨Nat.le_of_ble_eq_true rfl, ?_⟩))
          have hrow : xs[i]? = some _ := (hR.2 i hir).choose_spec
          generalize (hR.2 i hir).choose = ra at hrow
          have hab : ∀ v, look gs rows ((i : Int) - 1) (gs.getD i 0 + t) = some v → -3 ≤ v ∧ v ≤ 1000 * (i + gs.getD i 0 + t) := fun v hv => by
            have := hI.above hg0 hv
            omega
          -- the end of a turn, whatever is least
          have fin : ∀ (low : Int) {δ' : En} (v n4 : Int), (0 < t → (rowOf rows i).getD (t - 1) 0 ≤ low) → (∀ a, look gs rows ((i : Int) - 1) (gs.getD i 0 + t) = some a → a < low) → -3 ≤ low → low ≤ 1000 * (i + gs.getD i 0 + t) + 1 → v = low + n4 → 0 ≤ n4 → n4 < 500 →
              RowsOD (xs.set i (ol ra ((rowOf rows i ++ [v]).map .int))) (rows.set i (rowOf rows i ++ [v])) ∧ PInv gs ls (rows.set i (rowOf rows i ++ [v])) i (t + 1) := fun low δ' v n4 hl ha h3 hlow hv hn4 hn5 => by
            refine ⟨hR.set, hI.add hir (fun h0 => ?_) (fun a ha' => ?_) ?_ ?_⟩
            · have := hl h0; omega
            · have := ha a ha'; omega
            · omega
            · omega
          refine eb_cons (es_set 10 sc_law_piece.nd rfl (.inl rfl) (Ev.use (ed_callB (id := "max") (ds := [_]) (by rfl) T.n_max bt_max (ed_acons (ed_lst (ds := [_, _]) (ed_acons (ed_ifI (ed_cmpT (ed_var 8 rfl (Or.inl rfl) rfl) ed_non (by walk_at "Is")) (fun h => (ed_neg ed_int)) (fun h => (Ev.is (ed_var 8 rfl (Or.inl rfl) rfl) (congrArg OD.fz (oI_get h))))) (ed_acons (ed_ifI (ed_cmpT (ed_var 9 rfl (Or.inl rfl) rfl) ed_non (by walk_at "Is")) (fun h => (ed_neg ed_int)) (fun h => (ed_bin (Ev.is (ed_var 9 rfl (Or.inl rfl) rfl) (congrArg OD.fz (oI_get h))) ed_int (by walk_at "Add")))) ed_anil)) rfl (Nat.le_of_ble_eq_true rfl)) ed_anil) rfl (by walk_at "cd")) ⟨Nat.le_of_ble_eq_true rfl, ?_⟩))
          have hll := hI.left hir
          generalize hlo : max (if (look gs rows ((i + 0 : Nat) : Int) (gs.getD i 0 + (t : Int) - 1)).isNone = true then -3 else (look gs rows ((i + 0 : Nat) : Int) (gs.getD i 0 + (t : Int) - 1)).getD 0) (if (look gs rows (((i + 0 : Nat) : Int) - 1) (gs.getD i 0 + (t : Int))).isNone = true then -3 else (look gs rows (((i + 0 : Nat) : Int) - 1) (gs.getD i 0 + (t : Int))).getD 0 + 1) = low
          rw [Nat.add_zero] at hlo
          have lo3 : (-3 ≤ low) ∧ (0 < t → (rowOf rows i).getD (t - 1) 0 ≤ low) ∧ (∀ a, look gs rows ((i : Int) - 1) (gs.getD i 0 + t) = some a → a < low) ∧ low ≤ 1000 * (i + gs.getD i 0 + t) + 1 := by
            have hgi0 := hg0 i
            rcases hll with ⟨ht0, e1⟩ | ⟨ht0, e1, b1, b2⟩
            · rw [e1] at hlo
              cases e2 : look gs rows ((i : Int) - 1) (gs.getD i 0 + t) with
              | none =>
                rw [e2] at hlo
                simp only [Option.isNone_none, if_true] at hlo
                exact ⟨by omega, fun q => absurd q (by omega), fun a ha => (by cases ha), by omega⟩
              | some v =>
                rw [e2] at hlo
                have := hab v e2
                simp only [Option.isNone_none, if_true, Option.isNone_some, Bool.false_eq_true, if_false, Option.getD_some] at hlo
                exact ⟨by omega, fun q => absurd q (by omega), fun a ha => (by cases ha; omega), by omega⟩
            · rw [e1] at hlo
              cases e2 : look gs rows ((i : Int) - 1) (gs.getD i 0 + t) with
              | none =>
                rw [e2] at hlo
                simp only [Option.isNone_none, if_true, Option.isNone_some, Bool.false_eq_true, if_false, Option.getD_some] at hlo
                exact ⟨by omega, fun q => by omega, fun a ha => (by cases ha), by omega⟩
              | some v =>
                rw [e2] at hlo
                have := hab v e2
                simp only [Option.isNone_some, Bool.false_eq_true, if_false, Option.getD_some] at hlo
                exact ⟨by omega, fun q => by omega, fun a ha => (by cases ha; omega), by omega⟩
          have rlen : (rows.getD i []).length = t := hI.cur
          refine eb_one (es_appA 4 (sub_ix (xs := xs) (ed_var 4 rfl (Or.inl rfl) rfl) (ed_var 5 rfl (Or.inl rfl) rfl) rfl hrow) rfl (.into hrow .top) (by rw [List.length_map, List.length_map, rlen]; omega) (ev_bin (Ev.use (ed_var 10 rfl (Or.inl rfl) rfl) (ev_bin (ev_inx 0 q_law_next hgd hr (by rfl) T.n_int (by rfl) rfl (Or.inl rfl) rfl (by walk_at "sd") (by walk_at "sd") (by walk_at "sd") (fun z1 n1 hz1 hzz1 hn1 => (Ev.use (ed_var 2 rfl (Or.inl rfl) rfl) (mod_I (by walk_at "sd") (add_I ⟨rfl, ?ap⟩)))))))))
          case ap =>
            have hs0 := Int.emod_nonneg z1 (show (step : Int) ≠ 0 by omega)
            have hs1 := Int.emod_lt_of_pos z1 (show (0 : Int) < step by omega)
            obtain ⟨f1, f2⟩ := fin low (δ' := []) (low + z1 % step) (z1 % step) lo3.2.1 lo3.2.2.1 lo3.1 lo3.2.2.2 rfl hs0 (by omega)
            have eown : OD.own ra (((rows.getD i []).map .int).map .fz ++ [.fz (.int (low + z1 % step))]) = ol ra ((rowOf rows i ++ [low + z1 % step]).map .int) := by
              unfold ol rowOf
              rw [List.map_append, List.map_append]
              rfl
            exact ⟨_, _, n1, k3 + 1, _, _, _, _, f1, f2, hn1, by omega, by omega, by rw [← eown]; rfl⟩
        · obtain ⟨xs, rows, n3, k3, c, d, e, f, hR, hI, hn3, hk3, hk3', rfl⟩ := h
          have h8 : (ls[i] - gs.getD i 0).toNat ≤ 8 := by omega
          exact ⟨xs, rows, n3, k3, _, _, _, _, _, _, hR, hI.next (by rw [eli]; omega), hn3, hk3, by omega, rfl⟩
    case dn =>
      intro δ' h
      obtain ⟨xs, rows, n2, k2, a, b, c, d, e, f, hR, hI, hn2, hk2, hk2', rfl⟩ := h
      refine eb_frz 4 rfl ?_
      refine eb_one (es_ret (Ev.use (ed_tup (ds := [_, _]) (ed_acons (ed_var 3 rfl (Or.inl rfl) rfl) (ed_acons (Ev.is (ed_var 4 rfl (Or.inl rfl) rfl) (congrArg OD.fz (hR.dat))) ed_anil)) rfl (Nat.le_of_ble_eq_true rfl)) ?_))
      refine ⟨_, keep_one rfl (dr_foot.trans dr_foot.symm) (by rw [dr_foot]; simp) rfl, gs, rows, n2, k2, rfl, ?_, hn2, hk2, by omega, rfl⟩
      refine ⟨hw, hI.len, fun i hi => hI.done i hi, (good_iff gs rows).mpr fun j _ p hp => (hI.ok j p hp).1, fun i p hp => ?_⟩
      obtain ⟨_, b1, b2⟩ := hI.ok i p hp
      have hij : i < ls.length := by
        rcases Nat.lt_or_ge i ls.length with q | q
        · exact q
        · exfalso
          have : (rowOf rows i).length = 0 := by
            rcases Nat.lt_or_ge ls.length i with q2 | q2
            · rw [hI.rest i q2]; rfl
            · have : i = ls.length := by omega
              rw [this]
              exact hI.cur
          omega
      have h1 := hI.done i hij
      have h2 := hle i hij
      have h3 := hw.2 i hij
      exact ⟨b1, by omega⟩
end K03

namespace K03
open PySem PySem.Spec PyProof.Rows L2 Vl
variable {P : Program} {w : World} {K : PySem.W.Frag} {mg : Str → Option Value} {base : Heap}
theorem kw_is_sorted {K : PySem.W.Frag} : ∀ f fd, Fun K "is_sorted" "is_sorted" s_is_sorted f fd → ∀ (s : Shared) (ws : List Value), ws.length = (["rows", "missing"] : List Str).length → BindsTo s fd ⟨[], (["rows", "missing"] : List Str).zip ws⟩ ((["missing", "rows"] : List Str).zip (pick [1, 0] ws)) := by
  intro f fd F s ws hl
  obtain ⟨oc, od, kV, doc, pm, an, cdv, ct, osl, rfl, lk, hcd⟩ := F.ex
  match ws, hl with
  | [a, b], _ => exact .of_eq rfl
theorem kw_word_of {K : PySem.W.Frag} : ∀ f fd, Fun K "word_of" "word_of" s_word_of f fd → ∀ (s : Shared) (ws : List Value), ws.length = (["rows", "missing"] : List Str).length → BindsTo s fd ⟨[], (["rows", "missing"] : List Str).zip ws⟩ ((["missing", "rows"] : List Str).zip (pick [1, 0] ws)) := by
  intro f fd F s ws hl
  obtain ⟨oc, od, kV, doc, pm, an, cdv, ct, osl, rfl, lk, hcd⟩ := F.ex
  match ws, hl with
  | [a, b], _ => exact .of_eq rfl
--def _law_right
def Sml (rows : List (List Int)) : Prop := ∀ r ∈ rows, ∀ n ∈ r, n.natAbs < 2 ^ 1900
def c_right : Con := ⟨List Int × List (List Int), fun i => [.fz (LI i.1), .fz (LL i.2)], fun i => MsOk i.1 ∧ RowsOk i.1 i.2 ∧ Sml i.2, fun _ x _ => x = .fz (.bl true)⟩
theorem t_law_right {k : Nat} (T : Txt mg) (D : Def K mg "_law_right" s_law_right ["gone", "lines"]) (q_law_good : Cl P w K mg base k "_law_good" ["gone", "lines"] c_good) (q_is_sorted : ClS P w K mg base k "is_sorted" s_is_sorted ["missing", "rows"] c_is_sorted) (q_word_of : ClS P w K mg base k "word_of" s_word_of ["missing", "rows"] c_word_of) : Cl P w K mg base (k + 1) "_law_right" ["gone", "lines"] c_right := by
  refine D.cl sc_law_right (fun _ => rfl) fun f cdv A outer s H E ⟨gs, rows⟩ hgd hr hp => ?_
  show Eb _ (defBody s_law_right) [some (.fz (LI gs)), some (.fz (LL rows)), none, none, none, none, none] _
  obtain ⟨hm, hrw, hsm⟩ : MsOk gs ∧ RowsOk gs rows ∧ Sml rows := hp
  have hlen : rows.length = gs.length := hrw.1
  have hfl := flat_le hm hrw
  have hg8 := hm.2.1
  have hgsm : ∀ n ∈ gs, n.natAbs < 2 ^ 1900 := ms_small hm
  have hr1 : Rpr (.lst [LI gs, LL rows]) := rpr_pair hgsm hsm (by omega)
  have hr2 : ∀ a b, Rpr (.lst [.bl a, .bl b]) := rpr_bl
  have q1 := q_is_sorted.cl
  have q2 := q_word_of.cl
  refine eb_cons (es_set 2 sc_law_right.nd rfl (.inl rfl) (Ev.use (ed_callB (id := "repr") (ds := [_]) (by rfl) T.n_repr bt_repr (ed_acons (ed_lst (ds := [_, _]) (ed_acons (ed_var 0 rfl (Or.inl rfl) rfl) (ed_acons (ed_var 1 rfl (Or.inl rfl) rfl) ed_anil)) rfl (Nat.le_of_ble_eq_true rfl)) ed_anil) rfl (by walk_at "cd")) ⟨Nat.le_of_ble_eq_true rfl, ?_⟩))
  refine eb_cons (es_set 3 sc_law_right.nd rfl (.inl rfl) (Ev.use (ed_clF q_law_good hgd hr (by rfl) (i := (gs, rows)) (ds := [_, _]) (ed_acons (ed_var 0 rfl (Or.inl rfl) rfl) (ed_acons (ed_var 1 rfl (Or.inl rfl) rfl) ed_anil)) rfl rfl (by walk_at "pre") (by walk_at "out")) ⟨Nat.le_of_ble_eq_true rfl, ?_⟩))
  dsimp only
  have hpre : MsOk gs ∧ RowsOk gs rows := ⟨hm, hrw⟩
  refine eb_cons (es_set 4 sc_law_right.nd rfl (.inl rfl) (Ev.use (ed_lst (ds := [_, _]) (ed_acons (ed_clF q1 hgd hr (by rfl) (i := (gs, rows)) (ds := [_, _]) (ed_acons (ed_var 0 rfl (Or.inl rfl) rfl) (ed_acons (ed_var 1 rfl (Or.inl rfl) rfl) ed_anil)) rfl rfl (by walk_at "pre") (by walk_at "out")) (ed_acons (ed_clKF q_is_sorted hgd hr (by rfl) [1, 0] kw_is_sorted (by decide) (i := (gs, rows)) (ds := [_, _]) (ed_kcons (ed_var 1 rfl (Or.inl rfl) rfl) (ed_kcons (ed_var 0 rfl (Or.inl rfl) rfl) ed_knil)) rfl rfl rfl (by walk_at "pre") (by walk_at "out")) ed_anil)) rfl (Nat.le_of_ble_eq_true rfl)) ⟨Nat.le_of_ble_eq_true rfl, ?_⟩))
  dsimp only
  have hrb := hr2 (goodB gs rows) (goodB gs rows)
  refine eb_cons (es_ifF (ed_cmpT (ed_callB (id := "repr") (ds := [_]) (by rfl) T.n_repr bt_repr (ed_acons (ed_var 4 rfl (Or.inl rfl) rfl) ed_anil) rfl (by walk_at "cd")) (ed_callB (id := "repr") (ds := [_]) (by rfl) T.n_repr bt_repr (ed_acons (ed_lst (ds := [_, _]) (ed_acons (ed_var 3 rfl (Or.inl rfl) rfl) (ed_acons (ed_var 3 rfl (Or.inl rfl) rfl) ed_anil)) rfl (Nat.le_of_ble_eq_true rfl)) ed_anil) rfl (by walk_at "cd")) (by walk_at "NotEq")) (by simp) (eb_nil ?_))
  refine eb_cons (es_ifK (ed_notT (ed_valT (ed_var 3 rfl (Or.inl rfl) rfl))) (fun hg => eb_one (es_ret (Ev.use (ed_cmp (ed_callB (id := "repr") (ds := [_]) (by rfl) T.n_repr bt_repr (ed_acons (ed_lst (ds := [_, _]) (ed_acons (ed_var 0 rfl (Or.inl rfl) rfl) (ed_acons (ed_var 1 rfl (Or.inl rfl) rfl) ed_anil)) rfl (Nat.le_of_ble_eq_true rfl)) ed_anil) rfl (by walk_at "cd")) (ed_var 2 rfl (Or.inl rfl) rfl) (by walk_at "Eq")) ?_))) fun hg => eb_nil ?_)
  · exact ⟨_, keep_fz rfl, by show OD.fz _ = OD.fz (.bl true); simp⟩
  have hgood : goodB gs rows = true := by simpa using hg
  have hwr : wrongR gs rows = [] := by
    have := good_wrong gs rows
    rw [hgood] at this
    simpa using this
  have hpw : MsOk gs ∧ RowsOk gs rows ∧ wrongR gs rows = [] := ⟨hm, hrw, hwr⟩
  have hdl : rows.reverse.flatten.length ≤ 64 := by
    rw [List.length_flatten, List.map_reverse, List.sum_reverse, ← List.length_flatten]
    exact hfl
  have hdue : ∀ n ∈ rows.reverse.flatten, n.natAbs < 2 ^ 1900 := fun n hn => by
    obtain ⟨r, hr', hn'⟩ := List.mem_flatten.mp hn
    exact hsm r (List.mem_reverse.mp hr') n hn'
  have hr3 : Rpr (.lst [LI rows.reverse.flatten, LI rows.reverse.flatten]) := rpr_LI2 hdue (by omega)
  have hr4 : Rpr (LI rows.reverse.flatten) := rpr_LI hdue (by omega)
  have erev : Vl.D.lst ((rows.map LI).reverse) = LL rows.reverse := by
    unfold LL
    rw [List.map_reverse]
  refine eb_cons (es_set 5 sc_law_right.nd rfl (.inl rfl) (Ev.use (ed_callB (id := "sum") (ds := [_, _]) (by rfl) T.n_sum bt_sum (ed_acons (Ev.is (ed_rev (ed_var 1 rfl (Or.inl rfl) rfl)) (congrArg OD.fz (erev))) (ed_acons (ed_lst (ds := []) ed_anil rfl (Nat.le_of_ble_eq_true rfl)) ed_anil)) rfl (by walk_at "cd")) ⟨Nat.le_of_ble_eq_true rfl, ?_⟩))
  refine eb_cons (es_set 6 sc_law_right.nd rfl (.inl rfl) (ev_lstE (eo_cons (ev_clD q2 hgd hr (by rfl) (i := (gs, rows)) (ds := [_, _]) (ed_acons (ed_var 0 rfl (Or.inl rfl) rfl) (ed_acons (ed_var 1 rfl (Or.inl rfl) rfl) ed_anil)) rfl rfl hpw fun y xs' ho => ?w1))))
  case w1 =>
    obtain ⟨a1, rfl⟩ : ∃ a, y = ol a (rows.reverse.flatten.map .int) := ho
    refine eo_cons (ev_clKD q_word_of hgd hr (by rfl) [1, 0] kw_word_of (by decide) (i := (gs, rows)) (ds := [_, _]) (ed_kcons (ed_var 1 rfl (Or.inl rfl) rfl) (ed_kcons (ed_var 0 rfl (Or.inl rfl) rfl) ed_knil)) rfl rfl rfl hpw fun y xs' ho => ?w2)
    case w2 =>
      obtain ⟨a2, rfl⟩ : ∃ a, y = ol a (rows.reverse.flatten.map .int) := ho
      refine eo_nil ⟨Nat.le_of_ble_eq_true rfl, fun t => ⟨Nat.le_of_ble_eq_true rfl, ?_⟩⟩
      refine eb_cons (es_ifF (ed_W (ed_orW (ed_cmpT (ed_look (ed_callB (id := "repr") (ds := [_]) (by rfl) T.n_repr bt_repr (ed_acons (Ev.is (ed_var 6 rfl (Or.inl rfl) rfl) (congrArg OD.fz (dat_two))) ed_anil) rfl (by walk_at "cd")) rfl) (ed_callB (id := "repr") (ds := [_]) (by rfl) T.n_repr bt_repr (ed_acons (ed_lst (ds := [_, _]) (ed_acons (ed_var 5 rfl (Or.inl rfl) rfl) (ed_acons (ed_var 5 rfl (Or.inl rfl) rfl) ed_anil)) rfl (Nat.le_of_ble_eq_true rfl)) ed_anil) rfl (by walk_at "cd")) (by walk_at "NotEq")) (fun h => (ed_or1 (ed_cmpT (ed_callB (id := "repr") (ds := [_]) (by rfl) T.n_repr bt_repr (ed_acons (ed_lst (ds := [_, _]) (ed_acons (ed_var 0 rfl (Or.inl rfl) rfl) (ed_acons (ed_var 1 rfl (Or.inl rfl) rfl) ed_anil)) rfl (Nat.le_of_ble_eq_true rfl)) ed_anil) rfl (by walk_at "cd")) (ed_var 2 rfl (Or.inl rfl) rfl) (by walk_at "NotEq")))))) (by simp) (eb_nil ?_))
      refine eb_cons (es_appA 6 (sub_ix (xs := [_, _]) (ed_var 6 rfl (Or.inl rfl) rfl) ed_int (n := 0) rfl rfl) rfl (.into (n := 0) rfl .top) (by rw [List.length_map, List.length_map]; omega) (Ev.use ed_non ⟨rfl, ?_⟩))
      refine eb_one (es_ret (Ev.use (ed_and (ed_cmp (ed_callB (id := "repr") (ds := [_]) (by rfl) T.n_repr bt_repr (ed_acons (ed_clO q2 hgd hr (by rfl) (i := (gs, rows)) (ds := [_, _]) (ed_acons (ed_var 0 rfl (Or.inl rfl) rfl) (ed_acons (ed_var 1 rfl (Or.inl rfl) rfl) ed_anil)) rfl rfl (by walk_at "pre") (fun _ _ h => h)) ed_anil) rfl (by walk_at "cd")) (ed_callB (id := "repr") (ds := [_]) (by rfl) T.n_repr bt_repr (ed_acons (ed_var 5 rfl (Or.inl rfl) rfl) ed_anil) rfl (by walk_at "cd")) (by walk_at "Eq")) (fun h => (ed_one (ed_cmp (ed_callB (id := "repr") (ds := [_]) (by rfl) T.n_repr bt_repr (ed_acons (ed_lst (ds := [_, _]) (ed_acons (ed_var 0 rfl (Or.inl rfl) rfl) (ed_acons (ed_var 1 rfl (Or.inl rfl) rfl) ed_anil)) rfl (Nat.le_of_ble_eq_true rfl)) ed_anil) rfl (by walk_at "cd")) (ed_var 2 rfl (Or.inl rfl) rfl) (by walk_at "Eq"))))) ?_))
      exact ⟨_, keep_fz rfl, by show OD.fz (.bl (decide (rp (LI rows.reverse.flatten) = rp (LI rows.reverse.flatten)) && decide (rp (.lst [LI gs, LL rows]) = rp (.lst [LI gs, LL rows])))) = OD.fz (.bl true); simp⟩
end K03

namespace K03
open PySem PySem.Spec PyProof.Rows L2 Vl
variable {P : Program} {w : World} {K : PySem.W.Frag} {mg : Str → Option Value} {base : Heap}
--def law
def c_law : Con := ⟨List Int, fun sc => [.fz (.rol sc)], fun sc => sc.length ≤ 63, fun _ x _ => x = .fz (.bl true)⟩
theorem t_law {k : Nat} (T : Txt mg) (D : Def K mg "law" s_law ["script"]) (q_law_draws : Cl P w K mg base k "_law_draws" ["cell"] c_draws) (q_law_next : Cl P w K mg base k "_law_next" ["draws"] c_next) (q_law_shape : Cl P w K mg base k "_law_shape" ["draws", "high", "wide"] c_shape) (q_law_piece : Cl P w K mg base k "_law_piece" ["draws", "lengths", "step"] c_piece)
    (q_law_good : Cl P w K mg base k "_law_good" ["gone", "lines"] c_good) (q_law_right : Cl P w K mg base k "_law_right" ["gone", "lines"] c_right) (q_is_sorted : Cl P w K mg base k "is_sorted" ["missing", "rows"] c_is_sorted) (q_word_of : Cl P w K mg base k "word_of" ["missing", "rows"] c_word_of) : Cl P w K mg base (k + 1) "law" ["script"] c_law := by
  refine D.cl sc_law (fun _ => rfl) fun f cdv A outer s H E (script : List Int) hgd hr hp => ?_
  show Eb _ (defBody s_law) [some (.fz (.rol script)), none, none, none, none, none, none, none, none, none, none, none] _
  have hp : script.length ≤ 63 := hp
  have eit : Vl.D.lst (cutD (script.map .int) none (some 6) ++ [.int 0]) = .lst ((cut script none (some 6) ++ [0]).map .int) := by
    rw [cutD_map, List.map_append]
    rfl
  have ecl : (cut script none (some 6)).length ≤ 6 := by
    rw [show cut script none (some 6) = script.take 6 from cut_to 6, List.length_take]
    omega
  refine eb_cons (es_forOC PassesOwn.never rfl (ev_lcE (xs := cut script none (some 6) ++ [0]) (g := .int) (fun _ y => ∃ a n b, y = dr a n 0 b ∧ 0 ≤ n) 9 (x := "cell") rfl sc_law.nd (blkOk_by (own := [("cell", 9)]) (N := ["script", "draws", "step", "gone", "lines", "turn", "at", "bent", "far", "cell", "line", "one"]) (sc := defScope s_law) (by decide +kernel)) (Nat.le_of_ble_eq_true rfl) rfl (ei_list (Ev.use (Ev.is (ed_bin (ed_sl (ed_var 0 rfl (Or.inl rfl) rfl) (ep_none rfl) (ed_some ed_int) (sl_R rfl)) (ed_lst (ds := [_]) (ed_acons ed_int ed_anil) rfl (Nat.le_of_ble_eq_true rfl)) (add_L ?sz rfl)) (congrArg OD.fz eit)) ⟨_, rfl, rfl, rfl⟩)) ?sz2 rfl (fun z hz Y hY => ?e1) fun l ys hE => ⟨l, ys, rfl, ?lp⟩))
  case sz =>
    rw [cutD_map, List.length_map]
    exact Nat.le_trans (Nat.add_le_add_right ecl 1) (by decide)
  case sz2 =>
    rw [List.length_append]
    exact Nat.le_trans (Nat.add_le_add_right ecl 1) (by decide)
  case e1 =>
    obtain ⟨sB, HB, CB, clB, fpB, rfl⟩ := hY
    exact ev_clD q_law_draws hgd hr (by rfl) (i := z) (ds := [_]) (ed_acons (ed_var 9 rfl (Or.inl rfl) rfl) ed_anil) rfl rfl trivial fun y xs' ho => ⟨rfl, ho⟩
  case lp =>
    refine ⟨fun i δ' => ∃ (a b c d : Option OD) (e : Option Vl.D) (f g h : Option OD), δ' = [some (.fz (.rol script)), a, b, c, d, e.map .fz, f, g, h, none, none, none], ⟨none, none, none, none, none, none, none, none, rfl⟩, fun i hi δ1 h => ?st, fun δ' h => ?dn⟩
    case st =>
      obtain ⟨a, b, c, d, e, f, g, h, rfl⟩ := h
      have hlen : ys.length = (cut script none (some 6) ++ [0]).length := hE.1
      obtain ⟨ad, n, way, hy, hn0⟩ := hE.2 i ((cut script none (some 6) ++ [0])[i]'(by rw [← hlen]; exact hi)) ys[i] (by simp [← hlen, hi]) (by simp [hi])
      rw [hy]
      refine (eg_name 1 sc_law.nd rfl (.inl rfl) (Nat.le_of_ble_eq_true rfl) ?_)
      refine eb_cons (es_set 2 sc_law.nd rfl (.inl rfl) (ev_ix (Ev.use (ed_lst (ds := [_, _, _, _]) (ed_acons ed_int (ed_acons ed_int (ed_acons ed_int (ed_acons ed_int ed_anil)))) rfl (Nat.le_of_ble_eq_true rfl)) (ev_bin (ev_inx 1 q_law_next hgd hr (by rfl) T.n_int (by rfl) rfl (Or.inl rfl) rfl (by walk_at "sd") (by walk_at "sd") (by walk_at "sd") (fun z1 n1 hz1 hzz1 hn1 => (Ev.use ed_int (mod_I (by walk_at "sd") (ix_I (ns := [1, 2, 3, 500]) (by walk_at "sd") (by walk_at "sd") ⟨Nat.le_of_ble_eq_true rfl, ?_⟩)))))))))
      obtain ⟨st, est, hs1, hs2⟩ := step_sel z1 hz1
      rw [est]
      refine eb_cons (es_asg (ev_cl q_law_piece hgd hr (by rfl) (ea_slot 1 rfl (.inl rfl) rfl (ea_cons (ev_cl q_law_shape hgd hr (by rfl) (Ea.use (ed_aslot 1 rfl (Or.inl rfl) rfl (ed_acons ed_int (ed_acons ed_int ed_anil))) ⟨(ad, n1, 0 + 1, way, 8, 8), rfl, ?nd1, ⟨hn1, by omega, by omega, by omega, by omega, by omega, by omega⟩, fun y xs' hf ho => ?s1⟩))))))
      case nd1 =>
        show (foots [dr ad n1 (0 + 1) way, .fz (.int 8), .fz (.int 8)]).Nodup
        rw [foots_cons, dr_foot, foots_nil rfl]
        simp
      case s1 =>
        obtain ⟨ls, n2, k2, rfl, hsh, hn2, hk2, hk2', rfl⟩ := ho
        have hk2'' : k2 ≤ 11 := by omega
        refine ⟨_, rfl, ea_cons (Ev.use (ed_var 2 rfl (Or.inl rfl) rfl) ⟨_, rfl, ea_nil ⟨(ad, n2, k2, way, ls, st), rfl, ?nd2, ⟨hn2, by omega, by omega, hsh, hs1, hs2⟩, fun y xs' hf ho => ?s2⟩⟩)⟩
        case nd2 =>
          show (foots [dr ad n2 k2 way, .fz (LI ls), .fz (.int st)]).Nodup
          rw [foots_cons, dr_foot, foots_nil rfl]
          simp
        case s2 =>
          obtain ⟨gs, rows0, n3, k3, rfl, hpc, hn3, hk3, hk3', rfl⟩ := ho
          refine (eg_tup rfl (egs_cons (eg_name 3 sc_law.nd rfl (.inl rfl) (Nat.le_of_ble_eq_true rfl) (egs_cons (eg_name 4 sc_law.nd rfl (.inl rfl) (Nat.le_of_ble_eq_true rfl) (egs_nil ?_))))) rfl)
          obtain ⟨hms, hrw0⟩ := hpc.ms hsh
          refine eb_seq (fun δ' => ∃ rows : List (List Int), RowsOk gs rows ∧ goodB gs rows = true ∧ (∀ r ∈ rows, ∀ x ∈ r, -(10 ^ 62) ≤ x ∧ x ≤ 10 ^ 62) ∧ δ' = [some (.fz (.rol script)), some (dr ad n3 k3 way), some (.fz (.int st)), some (.fz (LI gs)), some (.fz (LL rows)), e.map .fz, f, g, h, none, none, none]) (es_ifK (ed_cmpT (ed_var 2 rfl (Or.inl rfl) rfl) ed_int (by walk_at "Eq")) (fun h5 => ?big) fun h5 => eb_nil ⟨rows0, hrw0, hpc.good, fun r hr x hx => (by have := hpc.mem r hr x hx; omega), rfl⟩) fun δ' h => ?rest
          case big =>
            refine eb_one (es_lcN (xs := rows0) (g := LI) (h := fun r => .lst (r.map fun n => .int ((n - 900) * 10 ^ (55 : Int).toNat))) 10 4 (x := "line") rfl sc_law.nd rfl rfl (by rfl) (blkOk_by (own := [("line", 10)]) (N := ["script", "draws", "step", "gone", "lines", "turn", "at", "bent", "far", "cell", "line", "one"]) (sc := defScope s_law) (by decide +kernel)) (Nat.le_of_ble_eq_true rfl) (Nat.le_of_ble_eq_true rfl) rfl (ei_list (Ev.use (ed_var 4 rfl (Or.inl rfl) rfl) ⟨_, rfl, rfl, rfl⟩)) ?c0 rfl (fun z hz Y hY => ?c3) ?c4)
            case c0 =>
              have := hrw0.1
              have := hms.2.1
              omega
            case c3 =>
              obtain ⟨sB, HB, CB, clB, fpB, rfl⟩ := hY
              have hzl : z.length ≤ 100000 := by
                obtain ⟨j, hj⟩ := List.getElem?_of_mem hz
                have := row_le hms hrw0 j
                rw [List.getD_eq_getElem?_getD, hj] at this
                exact Nat.le_trans this (by decide)
              refine ed_lcN (xs := z) (g := .int) (h := fun n => .int ((n - 900) * 10 ^ (55 : Int).toNat)) 11 (x := "one") rfl sc_law.nd (blkOk_nf (sc0 := defScope s_law) (own := [("one", 11)]) (N := ["script", "draws", "step", "gone", "lines", "turn", "at", "bent", "far", "cell", "line", "one"]) (by decide +kernel) (by decide +kernel) _) (Nat.le_of_ble_eq_true rfl) rfl (ei_list (Ev.use (ed_var 10 rfl (Or.inl rfl) rfl) ⟨_, rfl, rfl, rfl⟩)) hzl rfl (fun y hy Y2 hY2 => ?c5)
              case c5 =>
                obtain ⟨sB2, HB2, CB2, clB2, fpB2, rfl⟩ := hY2
                have hb := hpc.mem z hz y hy
                exact (ed_bin (ed_bin (ed_var 11 rfl (Or.inl rfl) rfl) ed_int (by walk_at "Sub")) (ed_bin ed_int ed_int (by walk_at "Pow")) (by walk_at "Mult"))
            case c4 =>
              have hc : (10 : Int) ^ (55 : Int).toNat = 10000000000000000000000000000000000000000000000000000000 := by decide +kernel
              have hpos : (0 : Int) < 10 ^ (55 : Int).toNat := by rw [hc]; decide
              have hLL : Vl.D.lst (rows0.map fun r => .lst (r.map fun n => .int ((n - 900) * 10 ^ (55 : Int).toNat))) = LL (rows0.map (·.map fun n => (n - 900) * 10 ^ (55 : Int).toNat)) := by
                unfold LL LI
                rw [List.map_map]
                congr 1
                refine List.map_congr_left fun r _ => ?_
                show Vl.D.lst _ = Vl.D.lst ((r.map _).map _)
                rw [List.map_map]
                rfl
              rw [hLL]
              refine ⟨_, rowsOk_map hrw0, good_map (fun a b hab => Int.mul_lt_mul_of_pos_right (by omega) hpos) hpc.good, fun r hr x hx => ?_, rfl⟩
              obtain ⟨r0, hr0, rfl⟩ := List.mem_map.mp hr
              obtain ⟨n0, hn0', rfl⟩ := List.mem_map.mp hx
              have := hpc.mem r0 hr0 n0 hn0'
              rw [hc]
              omega
          case rest =>
            obtain ⟨rows, hrw, hgood, hbd, rfl⟩ := h
            have hlr : rows.length = gs.length := hrw.1
            have hsm : Sml rows := small_of fun r hr x hx => by have := hbd r hr x hx; omega
            have hp1 : MsOk gs ∧ RowsOk gs rows ∧ Sml rows := ⟨hms, hrw, hsm⟩
            refine eb_cons (es_ifF (ed_W (ed_orW (ed_notT (ed_valT (ed_clF q_law_good hgd hr (by rfl) (i := (gs, rows)) (ds := [_, _]) (ed_acons (ed_var 3 rfl (Or.inl rfl) rfl) (ed_acons (ed_var 4 rfl (Or.inl rfl) rfl) ed_anil)) rfl rfl (by walk_at "pre") (by walk_at "out")))) (fun h => (ed_or1 (ed_notT (ed_valT (ed_clF q_law_right hgd hr (by rfl) (i := (gs, rows)) (ds := [_, _]) (ed_acons (ed_var 3 rfl (Or.inl rfl) rfl) (ed_acons (ed_var 4 rfl (Or.inl rfl) rfl) ed_anil)) rfl rfl (by walk_at "pre") (by walk_at "out")))))))) (by simp [hgood]) (eb_nil ?_))
            refine eb_one (es_forC PassesOwn.never rfl (ei_range1 (by rfl) T.n_range (Ea.use (ed_acons ed_int ed_anil) ⟨_, rfl, by walk_at "sd", by walk_at "sd", ?lp2⟩)))
            case lp2 =>
              refine lp_R (fun t δ' => ∃ (n' k' : Int) (e : Option Vl.D) (f g h : Option OD), 0 ≤ n' ∧ 0 ≤ k' ∧ k' ≤ 300 + 3 * t ∧ δ' = [some (.fz (.rol script)), some (dr ad n' k' way), some (.fz (.int st)), some (.fz (LI gs)), some (.fz (LL rows)), e.map .fz, f, g, h, none, none, none]) ⟨n3, k3, e, f, g, h, hn3, by omega, by omega, rfl⟩ (fun t ht δ1 h => ?st2) fun δ' h => ?dn2
              case dn2 =>
                obtain ⟨n', k', e, f, g, h, _, _, _, rfl⟩ := h
                exact ⟨_, _, _, _, e, _, _, _, rfl⟩
              case st2 =>
                obtain ⟨n', k', e, f, g, h, hn', hk0, hk1, rfl⟩ := h
                have hms1 := hms.1
                refine (eg_name 5 sc_law.nd rfl (.inl rfl) (Nat.le_of_ble_eq_true rfl) ?_)
                refine eb_cons (es_set 6 sc_law.nd rfl (.inl rfl) (ev_bin (ev_inx 1 q_law_next hgd hr (by rfl) T.n_int (by rfl) rfl (Or.inl rfl) rfl (by walk_at "sd") (by walk_at "sd") (by walk_at "sd") (fun z2 n2 hz2 hzz2 hn2 => (Ev.use (ed_callB (id := "len") (ds := [_]) (by rfl) T.n_len bt_len (ed_acons (ed_var 4 rfl (Or.inl rfl) rfl) ed_anil) rfl (by walk_at "cd")) (mod_I (by walk_at "sd") ⟨Nat.le_of_ble_eq_true rfl, ?_⟩))))))
                obtain ⟨m, hm, hml⟩ : ∃ m : Nat, z2 % (rows.length : Int) = m ∧ m < rows.length := ⟨(z2 % (rows.length : Int)).toNat, by
                  have := Int.emod_nonneg z2 (show (rows.length : Int) ≠ 0 by omega)
                  omega, by
                  have := Int.emod_nonneg z2 (show (rows.length : Int) ≠ 0 by omega)
                  have := Int.emod_lt_of_pos z2 (show (0 : Int) < rows.length by omega)
                  omega⟩
                rw [hm]
                refine eb_one (es_ifK (ed_cmpT (ed_ix (ed_var 4 rfl (Or.inl rfl) rfl) (ed_var 6 rfl (Or.inl rfl) rfl) (by walk_at "ix")) (ed_lst (ds := []) ed_anil rfl (Nat.le_of_ble_eq_true rfl)) (by walk_at "NotEq")) (fun hne => ?ne) fun hne => eb_nil ⟨n2, k' + 1, some _, _, _, _, hn2, by omega, by omega, rfl⟩)
                case ne =>
                  have hne' : rows.getD m [] ≠ [] := by simpa using hne
                  have hrl : 0 < (rows.getD m []).length := List.length_pos_iff.mpr hne'
                  have hrl2 : (0 : Int) < ((rows.getD ((m : Int)).toNat []).length : Int) := by have := hrl; show (0 : Int) < ((rows.getD m []).length : Int); omega
                  have hr8 : (rows.getD m []).length ≤ 8 := row_le hms hrw m
                  have hg8 := hms.2.1
                  refine eb_cons (es_lcE (xs := rows) (g := LI) (fun z y => ∃ a, y = ol a (z.map .int)) 10 7 (x := "line") rfl sc_law.nd rfl rfl (by rfl) (blkOk_by (own := [("line", 10)]) (N := ["script", "draws", "step", "gone", "lines", "turn", "at", "bent", "far", "cell", "line", "one"]) (sc := defScope s_law) (by decide +kernel)) (Nat.le_of_ble_eq_true rfl) (Nat.le_of_ble_eq_true rfl) rfl (ei_list (Ev.use (ed_var 4 rfl (Or.inl rfl) rfl) ⟨_, rfl, rfl, rfl⟩)) (by omega) rfl (fun z hz Y hY => ?c1) fun bl ys hE2 => ?c2)
                  case c1 =>
                    obtain ⟨sB, HB, CB, clB, fpB, rfl⟩ := hY
                    exact ev_listO (by rfl) T.n_list (Ea.use (ed_acons (ed_var 10 rfl (Or.inl rfl) rfl) ed_anil) ⟨_, rfl, fun a => ⟨rfl, a, rfl⟩⟩)
                  case c2 =>
                    have hB : RowsOD ys rows := ⟨hE2.1, fun i hi => by
                      obtain ⟨a, ha⟩ := hE2.2 i rows[i] (ys[i]'(by rw [hE2.1]; exact hi)) (by simp [hi]) (by simp [hE2.1, hi])
                      refine ⟨a, ?_⟩
                      rw [show rows.getD i [] = rows[i] by simp [hi]]
                      rw [List.getElem?_eq_getElem (by rw [hE2.1]; exact hi), ha]⟩
                    obtain ⟨ra, hrow⟩ := hB.2 m hml
                    have hml' : (m : Int) < (rows.length : Int) := by omega
                    refine eb_cons (es_set 8 sc_law.nd rfl (.inl rfl) (ev_bin (ev_inx 1 q_law_next hgd hr (by rfl) T.n_int (by rfl) rfl (Or.inl rfl) rfl (by walk_at "sd") (by walk_at "sd") (by walk_at "sd") (fun z3 n3 hz3 hzz3 hn3 => (Ev.use (ed_look (ed_callB (id := "len") (ds := [_]) (by rfl) T.n_len bt_len (ed_acons (ed_ix (Ev.is (ed_var 7 rfl (Or.inl rfl) rfl) (congrArg OD.fz (hB.dat))) (ed_var 6 rfl (Or.inl rfl) rfl) (by walk_at "ix")) ed_anil) rfl (by walk_at "cd")) rfl) (mod_I (by walk_at "sd") ⟨Nat.le_of_ble_eq_true rfl, ?_⟩))))))
                    obtain ⟨q, hq, hql⟩ : ∃ q : Nat, z3 % ((rows.getD ((m : Int)).toNat []).length : Int) = q ∧ q < (rows.getD m []).length := ⟨(z3 % ((rows.getD m []).length : Int)).toNat, by
                      have := Int.emod_nonneg z3 (show ((rows.getD m []).length : Int) ≠ 0 by omega)
                      show z3 % ((rows.getD m []).length : Int) = _
                      omega, by
                      have := Int.emod_nonneg z3 (show ((rows.getD m []).length : Int) ≠ 0 by omega)
                      have := Int.emod_lt_of_pos z3 (show (0 : Int) < (rows.getD m []).length by omega)
                      omega⟩
                    rw [hq]
                    have hql2 : (q : Int) < ((rows.getD ((m : Int)).toNat []).length : Int) := by show (q : Int) < ((rows.getD m []).length : Int); omega
                    have hqb : -(10 ^ 62) ≤ (rows.getD m []).getD q 0 ∧ (rows.getD m []).getD q 0 ≤ 10 ^ 62 := by
                      refine hbd (rows.getD m []) ?_ _ ?_
                      · simp [List.getD_eq_getElem?_getD, hml]
                      · rw [List.getD_eq_getElem?_getD (i := q), List.getElem?_eq_getElem hql]
                        exact List.getElem_mem hql
                    refine eb_cons (es_asg (ev_bin (ev_bin (Ev.use (ed_look (ed_ix (ed_ix (Ev.is (ed_var 7 rfl (Or.inl rfl) rfl) (congrArg OD.fz (hB.dat))) (ed_var 6 rfl (Or.inl rfl) rfl) (by walk_at "ix")) (ed_var 8 rfl (Or.inl rfl) rfl) (by walk_at "ix")) rfl) (ev_bin (ev_inx 1 q_law_next hgd hr (by rfl) T.n_int (by rfl) rfl (Or.inl rfl) rfl (by walk_at "sd") (by walk_at "sd") (by walk_at "sd") (fun z4 n4 hz4 hzz4 hn4 => (Ev.use ed_int (mod_I (by walk_at "sd") (add_I (Ev.use ed_int (sub_I ?b0))))))))))))
                    case b0 =>
                      refine eg_setA 7 (sub_ix (xs := ys) (ed_var 7 rfl (Or.inl rfl) rfl) (ed_var 6 rfl (Or.inl rfl) rfl) rfl hrow) rfl (.into hrow .top) (ed_var 8 rfl (Or.inl rfl) rfl) (by walk_at "sd") (by rw [List.length_map, List.length_map]; omega) ?b2
                      case b2 =>
                        generalize hv : (rows.getD ((m : Int)).toNat []).getD ((q : Int)).toNat 0 + z4 % 5 - 2 = v
                        have hvb : -(10 ^ 62 + 4) ≤ v ∧ v ≤ 10 ^ 62 + 4 := by
                          have : v = (rows.getD m []).getD q 0 + z4 % 5 - 2 := hv.symm
                          omega
                        have eown : OD.own ra ((((rows.getD m []).map .int).map .fz).set ((q : Int)).toNat (.fz (.int v))) = ol ra (((rows.getD m []).set q v).map .int) := by
                          unfold ol
                          rw [List.map_set, List.map_set]
                          rfl
                        rw [eown]
                        have hB2 : RowsOD (ys.set m (ol ra (((rows.getD m []).set q v).map .int))) (rows.set m ((rows.getD m []).set q v)) := hB.set
                        have hp2 : MsOk gs ∧ RowsOk gs (rows.set m ((rows.getD m []).set q v)) ∧ Sml (rows.set m ((rows.getD m []).set q v)) := ⟨hms, rowsOk_set hrw hml (by rw [List.length_set]), small_of fun r hr x hx => by
                          have := set_bound (B := 10 ^ 62 + 4) (fun r hr x hx => by have := hbd r hr x hx; omega) hvb r hr x hx
                          omega⟩
                        refine eb_frz 7 rfl ?_
                        refine eb_one (es_ifF (ed_notT (ed_valT (ed_clF q_law_right hgd hr (by rfl) (i := (gs, rows.set m ((rows.getD m []).set q v))) (ds := [_, _]) (ed_acons (ed_var 3 rfl (Or.inl rfl) rfl) (ed_acons (Ev.is (ed_var 7 rfl (Or.inl rfl) rfl) (congrArg OD.fz (hB2.dat))) ed_anil)) rfl rfl (by walk_at "pre") (by walk_at "out")))) rfl (eb_nil ?_))
                        exact ⟨n4, k' + 1 + 1 + 1, some _, _, _, _, hn4, by omega, by omega, rfl⟩
    case dn =>
      obtain ⟨a, b, c, d, e, f, g, h, rfl⟩ := h
      have ra : MsOk [0] ∧ RowsOk [0] [[]] ∧ Sml [[]] := ⟨p_a.1, p_a.2, by simp [Sml]⟩
      have rb : MsOk [8, 8, 8, 8, 8, 8, 8, 8] ∧ RowsOk [8, 8, 8, 8, 8, 8, 8, 8] [[], [], [], [], [], [], [], []] ∧ Sml [[], [], [], [], [], [], [], []] := ⟨p_b.1, p_b.2, by simp [Sml]⟩
      have rc := p_c
      have rd : MsOk [1, 0] ∧ RowsOk [1, 0] [[2], [1, 3]] ∧ wrongR [1, 0] [[2], [1, 3]] = [] := ⟨p_d.1, p_d.2, g_d⟩
      refine eb_cons (es_ifF (ed_W (ed_orW (ed_notT (ed_valT (ed_clF q_law_right hgd hr (by rfl) (i := ([0], [[]])) (ds := [_, _]) (ed_acons (ed_lst (ds := [_]) (ed_acons ed_int ed_anil) rfl (Nat.le_of_ble_eq_true rfl)) (ed_acons (ed_lst (ds := [_]) (ed_acons (ed_lst (ds := []) ed_anil rfl (Nat.le_of_ble_eq_true rfl)) ed_anil) rfl (Nat.le_of_ble_eq_true rfl)) ed_anil)) rfl rfl (by walk_at "pre") (by walk_at "out")))) (fun h => (ed_or1 (ed_notT (ed_valT (ed_clF q_law_right hgd hr (by rfl) (i := ([8, 8, 8, 8, 8, 8, 8, 8], [[], [], [], [], [], [], [], []])) (ds := [_, _]) (ed_acons (ed_bin (ed_lst (ds := [_]) (ed_acons ed_int ed_anil) rfl (Nat.le_of_ble_eq_true rfl)) ed_int (by walk_at "Mult")) (ed_acons (ed_lcN (xs := List.range 8) (g := fun (i : Nat) => .int (0 + (i : Int))) (h := fun _ => .lst []) 5 rfl sc_law.nd (blkOk_by (own := [("turn", 5)]) (N := ["script", "draws", "step", "gone", "lines", "turn", "at", "bent", "far", "cell", "line", "one"]) (sc := defScope s_law) (by decide +kernel)) (Nat.le_of_ble_eq_true rfl) rfl (ei_range1 (by rfl) T.n_range (Ea.use (ed_acons ed_int ed_anil) ⟨_, rfl, by walk_at "sd", by walk_at "sd", rfl, rfl⟩)) (by walk_at "len") (by walk_at "hw") (fun z hz Y hY => by obtain ⟨sB, HB, CB, clB, fpB, rfl⟩ := hY; exact (ed_lst (ds := []) ed_anil rfl (Nat.le_of_ble_eq_true rfl)))) ed_anil)) rfl rfl (by walk_at "pre") (by walk_at "out")))))))) rfl (eb_nil ?_))
      refine eb_cons (es_ifF (ed_valT (ed_clF q_is_sorted hgd hr (by rfl) (i := ([0, 0], [[1, 1], [1]])) (ds := [_, _]) (ed_acons (ed_lst (ds := [_, _]) (ed_acons ed_int (ed_acons ed_int ed_anil)) rfl (Nat.le_of_ble_eq_true rfl)) (ed_acons (ed_lst (ds := [_, _]) (ed_acons (ed_lst (ds := [_, _]) (ed_acons ed_int (ed_acons ed_int ed_anil)) rfl (Nat.le_of_ble_eq_true rfl)) (ed_acons (ed_lst (ds := [_]) (ed_acons ed_int ed_anil) rfl (Nat.le_of_ble_eq_true rfl)) ed_anil)) rfl (Nat.le_of_ble_eq_true rfl)) ed_anil)) rfl rfl (by walk_at "pre") (by walk_at "out"))) g_c (eb_nil ?_))
      refine eb_one (es_ret (Ev.use (ed_cmp (Ev.is (ed_clO q_word_of hgd hr (by rfl) (i := ([1, 0], [[2], [1, 3]])) (ds := [_, _]) (ed_acons (ed_lst (ds := [_, _]) (ed_acons ed_int (ed_acons ed_int ed_anil)) rfl (Nat.le_of_ble_eq_true rfl)) (ed_acons (ed_lst (ds := [_, _]) (ed_acons (ed_lst (ds := [_]) (ed_acons ed_int ed_anil) rfl (Nat.le_of_ble_eq_true rfl)) (ed_acons (ed_lst (ds := [_, _]) (ed_acons ed_int (ed_acons ed_int ed_anil)) rfl (Nat.le_of_ble_eq_true rfl)) ed_anil)) rfl (Nat.le_of_ble_eq_true rfl)) ed_anil)) rfl rfl (by walk_at "pre") (fun _ _ h => h)) (congrArg OD.fz (show _ = LI [1, 3, 2] from rfl))) (Ev.is (ed_lst (ds := [_, _, _]) (ed_acons ed_int (ed_acons ed_int (ed_acons ed_int ed_anil))) rfl (Nat.le_of_ble_eq_true rfl)) (congrArg OD.fz (show _ = LI [1, 3, 2] from rfl))) (by walk_at "Eq")) ?_))
      exact ⟨_, keep_fz rfl, rfl⟩
end K03

namespace K03
open PySem PySem.Spec PyProof.Rows L2 Vl
theorem mkDef {K : PySem.W.Frag} {h : Heap} {mg : Str → Option Value} {nm : Str} {st : Stmt} {ps : List Str} (X : K.In h) (G : h.Ns mainGlobals mg) {f : Addr} {od an : Option Addr} {sl : Array (Option Value)} {oc kV dc pm cd ct : Value}
    (a : PySem.W.nsIn K mainGlobals nm = some (some (.ref f))) (l : K.lookup f = some ⟨oc, od, .func (PySem.W.fnOf nm nm (defArgs st) (defBody st) (defScope st) .none kV dc pm an cd ct), sl⟩) (c : PySem.W.codeIn K cd nm = true) (k : PySem.W.keepIn K (.ref f) = true)
    (hb : ∀ (fd : FuncData), Fun K nm nm st f fd → Binds K fd ps []) : Def K mg nm st ps := ⟨f, _, fun_mk (st := st) l c k, PySem.W.mg_of X G a, hb _ (fun_mk (st := st) l c k)⟩
theorem all_mk {P : Program} {w : World} {K : PySem.W.Frag} {h base : Heap} {mg : Str → Option Value} (X : K.In h) (G : h.Ns mainGlobals mg)
    {f0 : Addr} {od0 an0 : Option Addr} {sl0 : Array (Option Value)} {oc0 kV0 dc0 pm0 cd0 ct0 : Value} (a0 : PySem.W.nsIn K mainGlobals "is_whole" = some (some (.ref f0))) (l0 : K.lookup f0 = some ⟨oc0, od0, .func (PySem.W.fnOf "is_whole" "is_whole" (defArgs s_is_whole) (defBody s_is_whole) (defScope s_is_whole) .none kV0 dc0 pm0 an0 cd0 ct0), sl0⟩) (c0 : PySem.W.codeIn K cd0 "is_whole" = true) (k0 : PySem.W.keepIn K (.ref f0) = true)
    {f1 : Addr} {od1 an1 : Option Addr} {sl1 : Array (Option Value)} {oc1 kV1 dc1 pm1 cd1 ct1 : Value} (a1 : PySem.W.nsIn K mainGlobals "check_missing" = some (some (.ref f1))) (l1 : K.lookup f1 = some ⟨oc1, od1, .func (PySem.W.fnOf "check_missing" "check_missing" (defArgs s_check_missing) (defBody s_check_missing) (defScope s_check_missing) .none kV1 dc1 pm1 an1 cd1 ct1), sl1⟩) (c1 : PySem.W.codeIn K cd1 "check_missing" = true) (k1 : PySem.W.keepIn K (.ref f1) = true)
    {f2 : Addr} {od2 an2 : Option Addr} {sl2 : Array (Option Value)} {oc2 kV2 dc2 pm2 cd2 ct2 : Value} (a2 : PySem.W.nsIn K mainGlobals "check_numbers" = some (some (.ref f2))) (l2 : K.lookup f2 = some ⟨oc2, od2, .func (PySem.W.fnOf "check_numbers" "check_numbers" (defArgs s_check_numbers) (defBody s_check_numbers) (defScope s_check_numbers) .none kV2 dc2 pm2 an2 cd2 ct2), sl2⟩) (c2 : PySem.W.codeIn K cd2 "check_numbers" = true) (k2 : PySem.W.keepIn K (.ref f2) = true)
    {f3 : Addr} {od3 an3 : Option Addr} {sl3 : Array (Option Value)} {oc3 kV3 dc3 pm3 cd3 ct3 : Value} (a3 : PySem.W.nsIn K mainGlobals "check_rows" = some (some (.ref f3))) (l3 : K.lookup f3 = some ⟨oc3, od3, .func (PySem.W.fnOf "check_rows" "check_rows" (defArgs s_check_rows) (defBody s_check_rows) (defScope s_check_rows) .none kV3 dc3 pm3 an3 cd3 ct3), sl3⟩) (c3 : PySem.W.codeIn K cd3 "check_rows" = true) (k3 : PySem.W.keepIn K (.ref f3) = true)
    {f4 : Addr} {od4 an4 : Option Addr} {sl4 : Array (Option Value)} {oc4 kV4 dc4 pm4 cd4 ct4 : Value} (a4 : PySem.W.nsIn K mainGlobals "number_at" = some (some (.ref f4))) (l4 : K.lookup f4 = some ⟨oc4, od4, .func (PySem.W.fnOf "number_at" "number_at" (defArgs s_number_at) (defBody s_number_at) (defScope s_number_at) .none kV4 dc4 pm4 an4 cd4 ct4), sl4⟩) (c4 : PySem.W.codeIn K cd4 "number_at" = true) (k4 : PySem.W.keepIn K (.ref f4) = true)
    {f5 : Addr} {od5 an5 : Option Addr} {sl5 : Array (Option Value)} {oc5 kV5 dc5 pm5 cd5 ct5 : Value} (a5 : PySem.W.nsIn K mainGlobals "wrong_rows" = some (some (.ref f5))) (l5 : K.lookup f5 = some ⟨oc5, od5, .func (PySem.W.fnOf "wrong_rows" "wrong_rows" (defArgs s_wrong_rows) (defBody s_wrong_rows) (defScope s_wrong_rows) .none kV5 dc5 pm5 an5 cd5 ct5), sl5⟩) (c5 : PySem.W.codeIn K cd5 "wrong_rows" = true) (k5 : PySem.W.keepIn K (.ref f5) = true)
    {f6 : Addr} {od6 an6 : Option Addr} {sl6 : Array (Option Value)} {oc6 kV6 dc6 pm6 cd6 ct6 : Value} (a6 : PySem.W.nsIn K mainGlobals "check_piece" = some (some (.ref f6))) (l6 : K.lookup f6 = some ⟨oc6, od6, .func (PySem.W.fnOf "check_piece" "check_piece" (defArgs s_check_piece) (defBody s_check_piece) (defScope s_check_piece) .none kV6 dc6 pm6 an6 cd6 ct6), sl6⟩) (c6 : PySem.W.codeIn K cd6 "check_piece" = true) (k6 : PySem.W.keepIn K (.ref f6) = true)
    {f7 : Addr} {od7 an7 : Option Addr} {sl7 : Array (Option Value)} {oc7 kV7 dc7 pm7 cd7 ct7 : Value} (a7 : PySem.W.nsIn K mainGlobals "is_sorted" = some (some (.ref f7))) (l7 : K.lookup f7 = some ⟨oc7, od7, .func (PySem.W.fnOf "is_sorted" "is_sorted" (defArgs s_is_sorted) (defBody s_is_sorted) (defScope s_is_sorted) .none kV7 dc7 pm7 an7 cd7 ct7), sl7⟩) (c7 : PySem.W.codeIn K cd7 "is_sorted" = true) (k7 : PySem.W.keepIn K (.ref f7) = true)
    {f8 : Addr} {od8 an8 : Option Addr} {sl8 : Array (Option Value)} {oc8 kV8 dc8 pm8 cd8 ct8 : Value} (a8 : PySem.W.nsIn K mainGlobals "word_in" = some (some (.ref f8))) (l8 : K.lookup f8 = some ⟨oc8, od8, .func (PySem.W.fnOf "word_in" "word_in" (defArgs s_word_in) (defBody s_word_in) (defScope s_word_in) .none kV8 dc8 pm8 an8 cd8 ct8), sl8⟩) (c8 : PySem.W.codeIn K cd8 "word_in" = true) (k8 : PySem.W.keepIn K (.ref f8) = true)
    {f9 : Addr} {od9 an9 : Option Addr} {sl9 : Array (Option Value)} {oc9 kV9 dc9 pm9 cd9 ct9 : Value} (a9 : PySem.W.nsIn K mainGlobals "word_of" = some (some (.ref f9))) (l9 : K.lookup f9 = some ⟨oc9, od9, .func (PySem.W.fnOf "word_of" "word_of" (defArgs s_word_of) (defBody s_word_of) (defScope s_word_of) .none kV9 dc9 pm9 an9 cd9 ct9), sl9⟩) (c9 : PySem.W.codeIn K cd9 "word_of" = true) (k9 : PySem.W.keepIn K (.ref f9) = true)
    {f10 : Addr} {od10 an10 : Option Addr} {sl10 : Array (Option Value)} {oc10 kV10 dc10 pm10 cd10 ct10 : Value} (a10 : PySem.W.nsIn K mainGlobals "_law_draws" = some (some (.ref f10))) (l10 : K.lookup f10 = some ⟨oc10, od10, .func (PySem.W.fnOf "_law_draws" "_law_draws" (defArgs s_law_draws) (defBody s_law_draws) (defScope s_law_draws) .none kV10 dc10 pm10 an10 cd10 ct10), sl10⟩) (c10 : PySem.W.codeIn K cd10 "_law_draws" = true) (k10 : PySem.W.keepIn K (.ref f10) = true)
    {f11 : Addr} {od11 an11 : Option Addr} {sl11 : Array (Option Value)} {oc11 kV11 dc11 pm11 cd11 ct11 : Value} (a11 : PySem.W.nsIn K mainGlobals "_law_next" = some (some (.ref f11))) (l11 : K.lookup f11 = some ⟨oc11, od11, .func (PySem.W.fnOf "_law_next" "_law_next" (defArgs s_law_next) (defBody s_law_next) (defScope s_law_next) .none kV11 dc11 pm11 an11 cd11 ct11), sl11⟩) (c11 : PySem.W.codeIn K cd11 "_law_next" = true) (k11 : PySem.W.keepIn K (.ref f11) = true)
    {f12 : Addr} {od12 an12 : Option Addr} {sl12 : Array (Option Value)} {oc12 kV12 dc12 pm12 cd12 ct12 : Value} (a12 : PySem.W.nsIn K mainGlobals "_law_shape" = some (some (.ref f12))) (l12 : K.lookup f12 = some ⟨oc12, od12, .func (PySem.W.fnOf "_law_shape" "_law_shape" (defArgs s_law_shape) (defBody s_law_shape) (defScope s_law_shape) .none kV12 dc12 pm12 an12 cd12 ct12), sl12⟩) (c12 : PySem.W.codeIn K cd12 "_law_shape" = true) (k12 : PySem.W.keepIn K (.ref f12) = true)
    {f13 : Addr} {od13 an13 : Option Addr} {sl13 : Array (Option Value)} {oc13 kV13 dc13 pm13 cd13 ct13 : Value} (a13 : PySem.W.nsIn K mainGlobals "_law_within" = some (some (.ref f13))) (l13 : K.lookup f13 = some ⟨oc13, od13, .func (PySem.W.fnOf "_law_within" "_law_within" (defArgs s_law_within) (defBody s_law_within) (defScope s_law_within) .none kV13 dc13 pm13 an13 cd13 ct13), sl13⟩) (c13 : PySem.W.codeIn K cd13 "_law_within" = true) (k13 : PySem.W.keepIn K (.ref f13) = true)
    {f14 : Addr} {od14 an14 : Option Addr} {sl14 : Array (Option Value)} {oc14 kV14 dc14 pm14 cd14 ct14 : Value} (a14 : PySem.W.nsIn K mainGlobals "_law_look" = some (some (.ref f14))) (l14 : K.lookup f14 = some ⟨oc14, od14, .func (PySem.W.fnOf "_law_look" "_law_look" (defArgs s_law_look) (defBody s_law_look) (defScope s_law_look) .none kV14 dc14 pm14 an14 cd14 ct14), sl14⟩) (c14 : PySem.W.codeIn K cd14 "_law_look" = true) (k14 : PySem.W.keepIn K (.ref f14) = true)
    {f15 : Addr} {od15 an15 : Option Addr} {sl15 : Array (Option Value)} {oc15 kV15 dc15 pm15 cd15 ct15 : Value} (a15 : PySem.W.nsIn K mainGlobals "_law_piece" = some (some (.ref f15))) (l15 : K.lookup f15 = some ⟨oc15, od15, .func (PySem.W.fnOf "_law_piece" "_law_piece" (defArgs s_law_piece) (defBody s_law_piece) (defScope s_law_piece) .none kV15 dc15 pm15 an15 cd15 ct15), sl15⟩) (c15 : PySem.W.codeIn K cd15 "_law_piece" = true) (k15 : PySem.W.keepIn K (.ref f15) = true)
    {f16 : Addr} {od16 an16 : Option Addr} {sl16 : Array (Option Value)} {oc16 kV16 dc16 pm16 cd16 ct16 : Value} (a16 : PySem.W.nsIn K mainGlobals "_law_good" = some (some (.ref f16))) (l16 : K.lookup f16 = some ⟨oc16, od16, .func (PySem.W.fnOf "_law_good" "_law_good" (defArgs s_law_good) (defBody s_law_good) (defScope s_law_good) .none kV16 dc16 pm16 an16 cd16 ct16), sl16⟩) (c16 : PySem.W.codeIn K cd16 "_law_good" = true) (k16 : PySem.W.keepIn K (.ref f16) = true)
    {f17 : Addr} {od17 an17 : Option Addr} {sl17 : Array (Option Value)} {oc17 kV17 dc17 pm17 cd17 ct17 : Value} (a17 : PySem.W.nsIn K mainGlobals "_law_right" = some (some (.ref f17))) (l17 : K.lookup f17 = some ⟨oc17, od17, .func (PySem.W.fnOf "_law_right" "_law_right" (defArgs s_law_right) (defBody s_law_right) (defScope s_law_right) .none kV17 dc17 pm17 an17 cd17 ct17), sl17⟩) (c17 : PySem.W.codeIn K cd17 "_law_right" = true) (k17 : PySem.W.keepIn K (.ref f17) = true)
    {f18 : Addr} {od18 an18 : Option Addr} {sl18 : Array (Option Value)} {oc18 kV18 dc18 pm18 cd18 ct18 : Value} (a18 : PySem.W.nsIn K mainGlobals "law" = some (some (.ref f18))) (l18 : K.lookup f18 = some ⟨oc18, od18, .func (PySem.W.fnOf "law" "law" (defArgs s_law) (defBody s_law) (defScope s_law) .none kV18 dc18 pm18 an18 cd18 ct18), sl18⟩) (c18 : PySem.W.codeIn K cd18 "law" = true) (k18 : PySem.W.keepIn K (.ref f18) = true)
    (z0 : PySem.W.nsIn K mainGlobals "ValueError" = some none)
    (z1 : PySem.W.nsIn K mainGlobals "all" = some none)
    (z2 : PySem.W.nsIn K mainGlobals "any" = some none)
    (z3 : PySem.W.nsIn K mainGlobals "bool" = some none)
    (z4 : PySem.W.nsIn K mainGlobals "enumerate" = some none)
    (z5 : PySem.W.nsIn K mainGlobals "int" = some none)
    (z6 : PySem.W.nsIn K mainGlobals "isinstance" = some none)
    (z7 : PySem.W.nsIn K mainGlobals "len" = some none)
    (z8 : PySem.W.nsIn K mainGlobals "list" = some none)
    (z9 : PySem.W.nsIn K mainGlobals "max" = some none)
    (z10 : PySem.W.nsIn K mainGlobals "min" = some none)
    (z11 : PySem.W.nsIn K mainGlobals "range" = some none)
    (z12 : PySem.W.nsIn K mainGlobals "repr" = some none)
    (z13 : PySem.W.nsIn K mainGlobals "sum" = some none)
    (z14 : PySem.W.nsIn K mainGlobals "zip" = some none)
    {t0 : Tok} (u0 : PySem.W.nsIn K mainGlobals "MOST_ROWS" = some (some (.int 8 t0)))
    {t1 : Tok} (u1 : PySem.W.nsIn K mainGlobals "MOST_LONG" = some (some (.int 8 t1)))
    : Cl P w K mg base 7 "law" ["script"] c_law := by
  have T : Txt mg := ⟨PySem.W.mg_none_of X G z0, PySem.W.mg_none_of X G z1, PySem.W.mg_none_of X G z2, PySem.W.mg_none_of X G z3, PySem.W.mg_none_of X G z4, PySem.W.mg_none_of X G z5, PySem.W.mg_none_of X G z6, PySem.W.mg_none_of X G z7, PySem.W.mg_none_of X G z8, PySem.W.mg_none_of X G z9, PySem.W.mg_none_of X G z10, PySem.W.mg_none_of X G z11, PySem.W.mg_none_of X G z12, PySem.W.mg_none_of X G z13, PySem.W.mg_none_of X G z14, ⟨_, PySem.W.mg_of X G u0⟩, ⟨_, PySem.W.mg_of X G u1⟩⟩
  have d_is_whole : Def K mg "is_whole" s_is_whole ["thing"] := mkDef X G a0 l0 c0 k0 fun fd F => F.binds (ps := ["thing"]) fun _ _ _ _ _ _ us hl => match us, hl with | [_], _ => rfl
  have r_is_whole := t_is_whole (P := P) (w := w) (base := base) T d_is_whole 
  have d_check_missing : Def K mg "check_missing" s_check_missing ["missing"] := mkDef X G a1 l1 c1 k1 fun fd F => F.binds (ps := ["missing"]) fun _ _ _ _ _ _ us hl => match us, hl with | [_], _ => rfl
  have r_check_missing := t_check_missing (P := P) (w := w) (base := base) (k := 1) T d_check_missing (r_is_whole.mono (by decide))
  have d_check_numbers : Def K mg "check_numbers" s_check_numbers ["row", "index"] := mkDef X G a2 l2 c2 k2 fun fd F => F.binds (ps := ["row", "index"]) fun _ _ _ _ _ _ us hl => match us, hl with | [_, _], _ => rfl
  have r_check_numbers := t_check_numbers (P := P) (w := w) (base := base) (k := 1) T d_check_numbers (r_is_whole.mono (by decide))
  have d_check_rows : Def K mg "check_rows" s_check_rows ["missing", "rows"] := mkDef X G a3 l3 c3 k3 fun fd F => F.binds (ps := ["missing", "rows"]) fun _ _ _ _ _ _ us hl => match us, hl with | [_, _], _ => rfl
  have r_check_rows := t_check_rows (P := P) (w := w) (base := base) (k := 2) T d_check_rows (r_check_numbers.mono (by decide))
  have d_number_at : Def K mg "number_at" s_number_at ["missing", "rows", "row", "column"] := mkDef X G a4 l4 c4 k4 fun fd F => F.binds (ps := ["missing", "rows", "row", "column"]) fun _ _ _ _ _ _ us hl => match us, hl with | [_, _, _, _], _ => rfl
  have r_number_at := t_number_at (P := P) (w := w) (base := base) (k := 0) T d_number_at 
  have d_wrong_rows : Def K mg "wrong_rows" s_wrong_rows ["missing", "rows"] := mkDef X G a5 l5 c5 k5 fun fd F => F.binds (ps := ["missing", "rows"]) fun _ _ _ _ _ _ us hl => match us, hl with | [_, _], _ => rfl
  have r_wrong_rows := t_wrong_rows (P := P) (w := w) (base := base) (k := 1) T d_wrong_rows (r_number_at.mono (by decide))
  have d_check_piece : Def K mg "check_piece" s_check_piece ["missing", "rows"] := mkDef X G a6 l6 c6 k6 fun fd F => F.binds (ps := ["missing", "rows"]) fun _ _ _ _ _ _ us hl => match us, hl with | [_, _], _ => rfl
  have r_check_piece := t_check_piece (P := P) (w := w) (base := base) (k := 3) T d_check_piece (r_check_missing.mono (by decide)) (r_check_rows.mono (by decide)) (r_wrong_rows.mono (by decide))
  have d_is_sorted : Def K mg "is_sorted" s_is_sorted ["missing", "rows"] := mkDef X G a7 l7 c7 k7 fun fd F => F.binds (ps := ["missing", "rows"]) fun _ _ _ _ _ _ us hl => match us, hl with | [_, _], _ => rfl
  have r_is_sorted := t_is_sorted (P := P) (w := w) (base := base) (k := 3) T d_is_sorted (r_check_missing.mono (by decide)) (r_check_rows.mono (by decide)) (r_wrong_rows.mono (by decide))
  have d_word_in : Def K mg "word_in" s_word_in ["rows"] := mkDef X G a8 l8 c8 k8 fun fd F => F.binds (ps := ["rows"]) fun _ _ _ _ _ _ us hl => match us, hl with | [_], _ => rfl
  have r_word_in := t_word_in (P := P) (w := w) (base := base) (k := 0) T d_word_in 
  have d_word_of : Def K mg "word_of" s_word_of ["missing", "rows"] := mkDef X G a9 l9 c9 k9 fun fd F => F.binds (ps := ["missing", "rows"]) fun _ _ _ _ _ _ us hl => match us, hl with | [_, _], _ => rfl
  have r_word_of := t_word_of (P := P) (w := w) (base := base) (k := 4) T d_word_of (r_check_piece.mono (by decide)) (r_word_in.mono (by decide))
  have d_law_draws : Def K mg "_law_draws" s_law_draws ["cell"] := mkDef X G a10 l10 c10 k10 fun fd F => F.binds (ps := ["cell"]) fun _ _ _ _ _ _ us hl => match us, hl with | [_], _ => rfl
  have r_law_draws := t_law_draws (P := P) (w := w) (base := base) (k := 0) T d_law_draws 
  have d_law_next : Def K mg "_law_next" s_law_next ["draws"] := mkDef X G a11 l11 c11 k11 fun fd F => F.binds (ps := ["draws"]) fun _ _ _ _ _ _ us hl => match us, hl with | [_], _ => rfl
  have r_law_next := t_law_next (P := P) (w := w) (base := base) (k := 0) T d_law_next 
  have d_law_shape : Def K mg "_law_shape" s_law_shape ["draws", "high", "wide"] := mkDef X G a12 l12 c12 k12 fun fd F => F.binds (ps := ["draws", "high", "wide"]) fun _ _ _ _ _ _ us hl => match us, hl with | [_, _, _], _ => rfl
  have r_law_shape := t_law_shape (P := P) (w := w) (base := base) (k := 1) T d_law_shape (r_law_next.mono (by decide))
  have d_law_within : Def K mg "_law_within" s_law_within ["draws", "lengths"] := mkDef X G a13 l13 c13 k13 fun fd F => F.binds (ps := ["draws", "lengths"]) fun _ _ _ _ _ _ us hl => match us, hl with | [_, _], _ => rfl
  have r_law_within := t_law_within (P := P) (w := w) (base := base) (k := 1) T d_law_within (r_law_next.mono (by decide))
  have d_law_look : Def K mg "_law_look" s_law_look ["gone", "lines", "high", "wide"] := mkDef X G a14 l14 c14 k14 fun fd F => F.binds (ps := ["gone", "lines", "high", "wide"]) fun _ _ _ _ _ _ us hl => match us, hl with | [_, _, _, _], _ => rfl
  have r_law_look := t_law_look (P := P) (w := w) (base := base) (k := 0) T d_law_look 
  have d_law_piece : Def K mg "_law_piece" s_law_piece ["draws", "lengths", "step"] := mkDef X G a15 l15 c15 k15 fun fd F => F.binds (ps := ["draws", "lengths", "step"]) fun _ _ _ _ _ _ us hl => match us, hl with | [_, _, _], _ => rfl
  have r_law_piece := t_law_piece (P := P) (w := w) (base := base) (k := 2) T d_law_piece (r_law_next.mono (by decide)) (r_law_within.mono (by decide)) (r_law_look.mono (by decide))
  have d_law_good : Def K mg "_law_good" s_law_good ["gone", "lines"] := mkDef X G a16 l16 c16 k16 fun fd F => F.binds (ps := ["gone", "lines"]) fun _ _ _ _ _ _ us hl => match us, hl with | [_, _], _ => rfl
  have r_law_good := t_law_good (P := P) (w := w) (base := base) (k := 1) T d_law_good (r_law_look.mono (by decide))
  have d_law_right : Def K mg "_law_right" s_law_right ["gone", "lines"] := mkDef X G a17 l17 c17 k17 fun fd F => F.binds (ps := ["gone", "lines"]) fun _ _ _ _ _ _ us hl => match us, hl with | [_, _], _ => rfl
  have r_law_right := t_law_right (P := P) (w := w) (base := base) (k := 5) T d_law_right (r_law_good.mono (by decide)) (r_is_sorted.mono (by decide)) (r_word_of.mono (by decide))
  have d_law : Def K mg "law" s_law ["script"] := mkDef X G a18 l18 c18 k18 fun fd F => F.binds (ps := ["script"]) fun _ _ _ _ _ _ us hl => match us, hl with | [_], _ => rfl
  have r_law := t_law (P := P) (w := w) (base := base) (k := 6) T d_law (r_law_draws.mono (by decide)) (r_law_next.mono (by decide)) (r_law_shape.mono (by decide)) (r_law_piece.mono (by decide)) (r_law_good.mono (by decide)) (r_law_right.mono (by decide)) (r_is_sorted.cl.mono (by decide)) (r_word_of.cl.mono (by decide))
  exact r_law
end K03
open PySem PySem.W PyProof.Rows
set_option maxHeartbeats 0 in
theorem PySem.Challenge.cw_holeslides_k03_pieces_holds : PySem.Challenge.rw_holeslides_k03_pieces.Holds := by
  w_on; o_law; k_head; (case hw => w_witness2)
  k_fill
  refine Vl.walk_G (l := PySem.Challenge.rw_holeslides_k03_pieces) (n := 63) (k := 7) (nm := "law") (C := K03.c_law) rfl (by decide) rfl ⟨rfl, by decide, by decide⟩ (fun w h Y => PySem.W.kIn_of Y) rfl ?F (fun sc hl => ⟨sc, rfl, hl, fun y xs z => z⟩)
  case F =>
    intro w mg h KX G base kb nb
    refine' K03.all_mk KX G ?a0 ?l0 ?c0 ?k0 ?a1 ?l1 ?c1 ?k1 ?a2 ?l2 ?c2 ?k2 ?a3 ?l3 ?c3 ?k3 ?a4 ?l4 ?c4 ?k4 ?a5 ?l5 ?c5 ?k5 ?a6 ?l6 ?c6 ?k6 ?a7 ?l7 ?c7 ?k7 ?a8 ?l8 ?c8 ?k8 ?a9 ?l9 ?c9 ?k9 ?a10 ?l10 ?c10 ?k10 ?a11 ?l11 ?c11 ?k11 ?a12 ?l12 ?c12 ?k12 ?a13 ?l13 ?c13 ?k13 ?a14 ?l14 ?c14 ?k14 ?a15 ?l15 ?c15 ?k15 ?a16 ?l16 ?c16 ?k16 ?a17 ?l17 ?c17 ?k17 ?a18 ?l18 ?c18 ?k18 ?z0 ?z1 ?z2 ?z3 ?z4 ?z5 ?z6 ?z7 ?z8 ?z9 ?z10 ?z11 ?z12 ?z13 ?z14 ?u0 ?u1
    (case a0 => k_is); (case l0 => k_is); (case c0 => k_is); (case k0 => k_is); (case a1 => k_is); (case l1 => k_is); (case c1 => k_is); (case k1 => k_is); (case a2 => k_is); (case l2 => k_is); (case c2 => k_is); (case k2 => k_is); (case a3 => k_is); (case l3 => k_is); (case c3 => k_is); (case k3 => k_is); (case a4 => k_is); (case l4 => k_is); (case c4 => k_is); (case k4 => k_is); (case a5 => k_is); (case l5 => k_is); (case c5 => k_is); (case k5 => k_is); (case a6 => k_is); (case l6 => k_is); (case c6 => k_is); (case k6 => k_is); (case a7 => k_is); (case l7 => k_is); (case c7 => k_is); (case k7 => k_is); (case a8 => k_is); (case l8 => k_is); (case c8 => k_is); (case k8 => k_is); (case a9 => k_is); (case l9 => k_is); (case c9 => k_is); (case k9 => k_is); (case a10 => k_is); (case l10 => k_is); (case c10 => k_is); (case k10 => k_is); (case a11 => k_is); (case l11 => k_is); (case c11 => k_is); (case k11 => k_is); (case a12 => k_is); (case l12 => k_is); (case c12 => k_is); (case k12 => k_is); (case a13 => k_is); (case l13 => k_is); (case c13 => k_is); (case k13 => k_is); (case a14 => k_is); (case l14 => k_is); (case c14 => k_is); (case k14 => k_is); (case a15 => k_is); (case l15 => k_is); (case c15 => k_is); (case k15 => k_is); (case a16 => k_is); (case l16 => k_is); (case c16 => k_is); (case k16 => k_is); (case a17 => k_is); (case l17 => k_is); (case c17 => k_is); (case k17 => k_is); (case a18 => k_is); (case l18 => k_is); (case c18 => k_is); (case k18 => k_is); (case z0 => k_is); (case z1 => k_is); (case z2 => k_is); (case z3 => k_is); (case z4 => k_is); (case z5 => k_is); (case z6 => k_is); (case z7 => k_is); (case z8 => k_is); (case z9 => k_is); (case z10 => k_is); (case z11 => k_is); (case z12 => k_is); (case z13 => k_is); (case z14 => k_is); (case u0 => k_is); (case u1 => k_is)

