import PyProof.Rows.All
import Wide.All
import OpenK.AllK
import Wide.FinOn
import HandS.ForMost
import HandS.Walk
import HandS.Wide
import HandS.IsInst
import HandS.Style
import KE.GoesEnum
import PyProof.SumWalk
import PyProof.SumWalkG
import HandS.Ends
import HandS.Conv
import HandS.TupAny
import HandS.SortInts
import PySem.Challenge.RW_holeslides_k10_whole_slides
set_option Elab.async false
set_option linter.all false
set_option maxRecDepth 100000
set_option maxHeartbeats 1000000
/-! values as data, objects of one's own as data too: what a state means by plain data -/
namespace Vl
open PySem PySem.Spec PyProof.Rows L2

inductive D where
  | non | bl (b : Bool) | int (i : Int) | str (s : Str) | lst (xs : List D) | tup (xs : List D) | op (v : V) | rol (ns : List Int)
instance : Inhabited D := ⟨.non⟩
inductive OD where
  | fz (d : D) | own (a : Addr) (xs : List OD) | vol (a : Addr) (φ : HO → Prop) | otp (a : Addr) (xs : List OD) | ins (a dx C : Addr) (ns : List Str) (xs : List OD)
instance : Inhabited OD := ⟨.fz .non⟩
abbrev En := List (Option OD)

section
variable (K : PySem.W.Frag)
mutual
def Rep (G : Hp) : D → V → Prop
  | .non, v => v = .non
  | .bl b, v => v = .bl b
  | .int i, v => v = .int i
  | .str s, v => v = .str s
  | .lst ds, v => ∃ a vs, v = .ref a ∧ G a = some (.lst vs) ∧ Reps G ds vs
  | .tup ds, v => ∃ a vs, v = .ref a ∧ G a = some (.tup vs) ∧ Reps G ds vs
  | .op w, v => v = w
  | .rol ns, v => ∃ a, v = .ref a ∧ SqL K G a (ns.map V.int)
def Reps (G : Hp) : List D → List V → Prop
  | [], vs => vs = []
  | d :: ds, vs => ∃ v r, vs = v :: r ∧ Rep G d v ∧ Reps G ds r
end
mutual
def RepO (G H : Hp) : OD → V → Prop
  | .fz d, v => Rep K G d v
  | .own a xs, v => v = .ref a ∧ ∃ vs, H a = some (.lst vs) ∧ RepOs G H xs vs
  | .vol a φ, v => v = .ref a ∧ ∃ o, H a = some o ∧ φ o
  | .otp a xs, v => v = .ref a ∧ ∃ vs, H a = some (.tup vs) ∧ RepOs G H xs vs
  | .ins a dx C ns xs, v => v = .ref a ∧ ∃ vs, H a = some (.ins C dx (ns.zip vs)) ∧ H dx = some (.own a) ∧ RepOs G H xs vs
def RepOs (G H : Hp) : List OD → List V → Prop
  | [], vs => vs = []
  | d :: ds, vs => ∃ v r, vs = v :: r ∧ RepO G H d v ∧ RepOs G H ds r
end
end
mutual
def foot : OD → List Addr
  | .fz _ => []
  | .own a xs => a :: foots xs
  | .vol a _ => [a]
  | .otp a xs => a :: foots xs
  | .ins a dx _ _ xs => a :: dx :: foots xs
def foots : List OD → List Addr
  | [] => []
  | x :: xs => foot x ++ foots xs
end
mutual
def dat : OD → D
  | .fz d => d
  | .own _ xs => .lst (dats xs)
  | .vol a _ => .op (.ref a)
  | .otp _ xs => .tup (dats xs)
  | .ins a _ _ _ _ => .op (.ref a)
def dats : List OD → List D
  | [] => []
  | x :: xs => dat x :: dats xs
end
def feet : En → List Addr
  | [] => []
  | none :: r => feet r
  | some x :: r => foot x ++ feet r
def thaw (δ : En) : En := δ.map fun o => o.map fun x => .fz (dat x)

section
variable {K : PySem.W.Frag} {G G' H H' : Hp}
theorem Same.tup (e : Same H H') {a : Addr} {xs : List V} (h : SqT K H a xs) : SqT K H' a xs := by
  rcases h with (h | ⟨o, h⟩) | h
  · exact .inl (.inl (e _ _ h))
  · exact .inl (.inr ⟨o, e _ _ h⟩)
  · exact .inr h
mutual
theorem Rep.mono (e : Same G G') : ∀ (d : D) (v : V), Rep K G d v → Rep K G' d v
  | .non, _, h => h
  | .bl _, _, h => h
  | .int _, _, h => h
  | .str _, _, h => h
  | .op _, _, h => h
  | .lst ds, v, h => by
    unfold Rep at h ⊢
    obtain ⟨a, vs, e1, h1, h2⟩ := h
    exact ⟨a, vs, e1, e _ _ h1, Reps.mono e ds vs h2⟩
  | .tup ds, v, h => by
    unfold Rep at h ⊢
    obtain ⟨a, vs, e1, h1, h2⟩ := h
    exact ⟨a, vs, e1, e _ _ h1, Reps.mono e ds vs h2⟩
  | .rol ns, v, h => by
    unfold Rep at h ⊢
    obtain ⟨a, e1, h1⟩ := h
    exact ⟨a, e1, e.seq h1⟩
theorem Reps.mono (e : Same G G') : ∀ (ds : List D) (vs : List V), Reps K G ds vs → Reps K G' ds vs
  | [], _, h => h
  | d :: ds, vs, h => by
    unfold Reps at h ⊢
    obtain ⟨v, r, e1, h1, h2⟩ := h
    exact ⟨v, r, e1, Rep.mono e d v h1, Reps.mono e ds r h2⟩
end
mutual
/-- the frozen part grows, the own objects stand -/
theorem RepO.mono (e : Same G G') : ∀ (d : OD) (v : V), (∀ a ∈ foot d, ∀ o, H a = some o → H' a = some o) → RepO K G H d v → RepO K G' H' d v
  | .fz d, v, _, h => by
    unfold RepO at h ⊢
    exact Rep.mono e d v h
  | .own a xs, v, k, h => by
    unfold RepO at h ⊢
    obtain ⟨e1, vs, h1, h2⟩ := h
    refine ⟨e1, vs, k a ?_ _ h1, RepOs.mono e xs vs (fun b hb => k b ?_) h2⟩
    · unfold foot; exact List.mem_cons_self
    · unfold foot; exact List.mem_cons_of_mem _ hb
  | .vol a φ, v, k, h => by
    unfold RepO at h ⊢
    obtain ⟨e1, o, h1, h2⟩ := h
    exact ⟨e1, o, k a (by unfold foot; exact List.mem_cons_self) _ h1, h2⟩
  | .otp a xs, v, k, h => by
    unfold RepO at h ⊢
    obtain ⟨e1, vs, h1, h2⟩ := h
    refine ⟨e1, vs, k a ?_ _ h1, RepOs.mono e xs vs (fun b hb => k b ?_) h2⟩
    · unfold foot; exact List.mem_cons_self
    · unfold foot; exact List.mem_cons_of_mem _ hb
  | .ins a dx C ns xs, v, k, h => by
    unfold RepO at h ⊢
    obtain ⟨e1, vs, h1, h3, h2⟩ := h
    refine ⟨e1, vs, k a ?_ _ h1, k dx ?_ _ h3, RepOs.mono e xs vs (fun b hb => k b ?_) h2⟩
    · unfold foot; exact List.mem_cons_self
    · unfold foot; exact List.mem_cons_of_mem _ List.mem_cons_self
    · unfold foot; exact List.mem_cons_of_mem _ (List.mem_cons_of_mem _ hb)
theorem RepOs.mono (e : Same G G') : ∀ (ds : List OD) (vs : List V), (∀ a ∈ foots ds, ∀ o, H a = some o → H' a = some o) → RepOs K G H ds vs → RepOs K G' H' ds vs
  | [], _, _, h => h
  | d :: ds, vs, k, h => by
    unfold RepOs at h ⊢
    obtain ⟨v, r, e1, h1, h2⟩ := h
    refine ⟨v, r, e1, RepO.mono e d v (fun b hb => k b ?_) h1, RepOs.mono e ds r (fun b hb => k b ?_) h2⟩
    · unfold foots; exact List.mem_append_left _ hb
    · unfold foots; exact List.mem_append_right _ hb
end
mutual
/-- the whole heap as the frozen part -/
theorem RepO.dat (e : Same G H) : ∀ (d : OD) (v : V), RepO K G H d v → Rep K H (dat d) v
  | .fz d, v, h => by
    unfold RepO at h
    unfold Vl.dat
    exact Rep.mono e d v h
  | .own a xs, v, h => by
    unfold RepO at h
    unfold Vl.dat Rep
    obtain ⟨e1, vs, h1, h2⟩ := h
    exact ⟨a, vs, e1, h1, RepOs.dat e xs vs h2⟩
  | .vol a φ, v, h => by
    unfold RepO at h
    unfold Vl.dat Rep
    exact h.1
  | .otp a xs, v, h => by
    unfold RepO at h
    unfold Vl.dat Rep
    obtain ⟨e1, vs, h1, h2⟩ := h
    exact ⟨a, vs, e1, h1, RepOs.dat e xs vs h2⟩
  | .ins a dx C ns xs, v, h => by
    unfold RepO at h
    unfold Vl.dat Rep
    exact h.1
theorem RepOs.dat (e : Same G H) : ∀ (ds : List OD) (vs : List V), RepOs K G H ds vs → Reps K H (dats ds) vs
  | [], _, h => by
    unfold RepOs at h
    unfold Vl.dats Reps
    exact h
  | d :: ds, vs, h => by
    unfold RepOs at h
    unfold Vl.dats Reps
    obtain ⟨v, r, e1, h1, h2⟩ := h
    exact ⟨v, r, e1, RepO.dat e d v h1, RepOs.dat e ds r h2⟩
end
theorem Reps.length : ∀ {ds : List D} {vs : List V}, Reps K G ds vs → vs.length = ds.length
  | [], _, h => by unfold Reps at h; subst h; rfl
  | d :: ds, vs, h => by
    unfold Reps at h
    obtain ⟨v, r, e1, _, h2⟩ := h
    rw [e1, List.length_cons, List.length_cons, Reps.length h2]
theorem Reps.get : ∀ {ds : List D} {vs : List V} {i : Nat} {d : D}, Reps K G ds vs → ds[i]? = some d → ∃ v, vs[i]? = some v ∧ Rep K G d v
  | [], _, _, _, _, e => by simp at e
  | d :: ds, vs, i, x, h, e => by
    unfold Reps at h
    obtain ⟨v, r, e1, h1, h2⟩ := h
    subst e1
    cases i with
    | zero => simp at e; subst e; exact ⟨v, rfl, h1⟩
    | succ i => simpa using Reps.get (i := i) h2 (by simpa using e)
theorem Reps.of_get : ∀ {ds : List D} {vs : List V}, vs.length = ds.length → (∀ (i : Nat) (d : D) (v : V), ds[i]? = some d → vs[i]? = some v → Rep K G d v) → Reps K G ds vs
  | [], vs, hl, _ => by
    unfold Reps
    exact List.eq_nil_of_length_eq_zero hl
  | d :: ds, [], hl, _ => by simp at hl
  | d :: ds, v :: vs, hl, h => by
    unfold Reps
    exact ⟨v, vs, rfl, h 0 d v rfl rfl, Reps.of_get (by simpa using hl) fun i x y e1 e2 => h (i + 1) x y (by simpa using e1) (by simpa using e2)⟩
theorem Reps.app : ∀ {ds es : List D} {vs us : List V}, Reps K G ds vs → Reps K G es us → Reps K G (ds ++ es) (vs ++ us)
  | [], es, vs, us, h, h' => by
    unfold Reps at h
    subst h
    exact h'
  | d :: ds, es, vs, us, h, h' => by
    unfold Reps at h
    obtain ⟨v, r, e1, h1, h2⟩ := h
    subst e1
    show Reps K G (d :: (ds ++ es)) (v :: (r ++ us))
    unfold Reps
    exact ⟨v, _, rfl, h1, Reps.app h2 h'⟩
theorem Reps.cons {d : D} {ds : List D} {v : V} {vs : List V} (h : Rep K G d v) (h' : Reps K G ds vs) : Reps K G (d :: ds) (v :: vs) := by
  unfold Reps
  exact ⟨v, vs, rfl, h, h'⟩
theorem Reps.nil : Reps K G [] [] := by unfold Reps; rfl
end

/-- what a step may do: the frozen part grows by new objects (or by own ones), all but the own objects stand -/
structure Grow (F : List Addr) (G H G' H' : Hp) : Prop where
  g : Same G G'
  h : ∀ a o, a ∉ F → H a = some o → H' a = some o
  new : ∀ a, G' a ≠ none → G a ≠ none ∨ H a = none ∨ a ∈ F
  there : ∀ a, H a ≠ none → H' a ≠ none
theorem Grow.refl {F : List Addr} {G H : Hp} : Grow F G H G H := ⟨Same.refl G, fun _ _ _ h => h, fun _ h => .inl h, fun _ h => h⟩
theorem Grow.trans {F F' : List Addr} {G H G1 H1 G2 H2 : Hp} (a : Grow F G H G1 H1) (b : Grow F' G1 H1 G2 H2) (hF : ∀ x ∈ F', x ∈ F ∨ H x = none) : Grow F G H G2 H2 where
  g := a.g.trans b.g
  h := fun x o hx e => b.h x o (fun z => (hF x z).elim hx fun q => by rw [q] at e; cases e) (a.h x o hx e)
  new := fun x hx => by
    rcases b.new x hx with q | q | q
    · exact a.new x q
    · refine .inr (.inl ?_)
      cases e : H x with
      | none => rfl
      | some o => exact absurd q (a.there x (by rw [e]; simp))
    · rcases hF x q with q | q
      · exact .inr (.inr q)
      · exact .inr (.inl q)
  there := fun x hx => b.there x (a.there x hx)

/-- the state as data: G the frozen part of H; the slots' values; own objects stand apart -/
structure Stt (K : PySem.W.Frag) (G H : Hp) (σ : L2.St) (δ : En) : Prop where
  ex : Same G H
  len : δ.length = σ.length
  rep : ∀ (i : Nat) (x : OD), δ[i]? = some (some x) → ∃ v, σ[i]? = some (some v) ∧ RepO K G H x v
  nd : (feet δ).Nodup
  off : ∀ a ∈ feet δ, G a = none ∧ H a ≠ none
theorem foot_in_feet : ∀ {δ : En} {i : Nat} {x : OD}, δ[i]? = some (some x) → ∀ a ∈ foot x, a ∈ feet δ
  | [], _, _, h => by simp at h
  | y :: r, 0, x, h => fun a ha => by
    simp at h
    subst h
    unfold feet
    exact List.mem_append_left _ ha
  | none :: r, i + 1, x, h => fun a ha => by
    unfold feet
    exact foot_in_feet (δ := r) (i := i) (by simpa using h) a ha
  | some y :: r, i + 1, x, h => fun a ha => by
    unfold feet
    exact List.mem_append_right _ (foot_in_feet (δ := r) (i := i) (by simpa using h) a ha)
theorem feet_set_mem : ∀ {δ : En} {i : Nat} {x : OD}, ∀ a ∈ feet (δ.set i (some x)), a ∈ foot x ∨ a ∈ feet δ
  | [], _, _ => fun a h => by simp [feet] at h
  | none :: r, 0, x => fun a h => by
    simp only [List.set_cons_zero, feet, List.mem_append] at h ⊢
    exact h
  | some y :: r, 0, x => fun a h => by
    simp only [List.set_cons_zero, feet, List.mem_append] at h ⊢
    rcases h with h | h
    · exact .inl h
    · exact .inr (.inr h)
  | none :: r, i + 1, x => fun a h => by
    simp only [List.set_cons_succ, feet] at h ⊢
    exact feet_set_mem a h
  | some y :: r, i + 1, x => fun a h => by
    simp only [List.set_cons_succ, feet, List.mem_append] at h ⊢
    rcases h with h | h
    · exact .inr (.inl h)
    · rcases feet_set_mem a h with h | h
      · exact .inl h
      · exact .inr (.inr h)
theorem feet_set_nd : ∀ {δ : En} {i : Nat} {x : OD}, (foot x ++ feet δ).Nodup → (feet (δ.set i (some x))).Nodup
  | [], _, _, h => by simp [feet]
  | none :: r, 0, x, h => by
    simpa only [List.set_cons_zero, feet] using h
  | some y :: r, 0, x, h => by
    simp only [List.set_cons_zero, feet] at h ⊢
    refine List.Nodup.sublist ?_ h
    exact List.Sublist.append (List.Sublist.refl _) (List.sublist_append_right _ _)
  | none :: r, i + 1, x, h => by
    simp only [List.set_cons_succ, feet] at h ⊢
    exact feet_set_nd h
  | some y :: r, i + 1, x, h => by
    simp only [List.set_cons_succ, feet] at h ⊢
    rw [List.nodup_append] at h ⊢
    obtain ⟨h1, h2, h3⟩ := h
    rw [List.nodup_append] at h2
    obtain ⟨h4, h5, h6⟩ := h2
    refine ⟨h4, feet_set_nd (List.nodup_append.mpr ⟨h1, h5, fun a ha b hb => h3 a ha b (List.mem_append_right _ hb)⟩), fun a ha b hb => ?_⟩
    rcases feet_set_mem b hb with q | q
    · exact fun e => h3 b q a (List.mem_append_left _ ha) e.symm
    · exact h6 a ha b q
theorem feet_none_sub : ∀ {δ : En} {i : Nat}, List.Sublist (feet (δ.set i none)) (feet δ)
  | [], _ => by simp
  | none :: r, 0 => by simp [feet]
  | some y :: r, 0 => by simp [feet]
  | none :: r, i + 1 => by
    simp only [List.set_cons_succ, feet]
    exact feet_none_sub
  | some y :: r, i + 1 => by
    simp only [List.set_cons_succ, feet]
    exact List.Sublist.append (List.Sublist.refl _) feet_none_sub
section
variable {K : PySem.W.Frag} {G H G' H' G1 H1 G2 H2 : Hp} {σ σ' σ1 σ2 : L2.St} {δ δ' δ1 δ2 : En} {v : V} {x : OD} {i : Nat}
/-- a step from state to state -/
structure Step (K : PySem.W.Frag) (G H : Hp) (δ : En) (G' H' : Hp) (σ' : L2.St) (δ' : En) : Prop where
  st : Stt K G' H' σ' δ'
  gr : Grow (feet δ) G H G' H'
  ft : ∀ a ∈ feet δ', a ∈ feet δ ∨ H a = none
theorem Stt.step (s : Stt K G H σ δ) : Step K G H δ G H σ δ := ⟨s, Grow.refl, fun _ h => .inl h⟩
theorem Step.trans (a : Step K G H δ G1 H1 σ1 δ1) (b : Step K G1 H1 δ1 G2 H2 σ2 δ2) : Step K G H δ G2 H2 σ2 δ2 where
  st := b.st
  gr := a.gr.trans b.gr a.ft
  ft := fun x hx => by
    rcases b.ft x hx with q | q
    · exact a.ft x q
    · refine .inr ?_
      cases e : H x with
      | none => rfl
      | some o => exact absurd q (a.gr.there x (by rw [e]; simp))
/-- frozen grows while own objects stand -/
theorem Stt.keep (s : Stt K G H σ δ) (g : Same G G') (e : Same G' H') (h : ∀ a ∈ feet δ, ∀ o, H a = some o → H' a = some o) (n : ∀ a ∈ feet δ, G' a = none) : Stt K G' H' σ δ where
  ex := e
  len := s.len
  rep := fun i x hx => by
    obtain ⟨v, hv, r⟩ := s.rep i x hx
    exact ⟨v, hv, RepO.mono g x v (fun a ha o ho => h a (foot_in_feet hx a ha) o ho) r⟩
  nd := s.nd
  off := fun a ha => ⟨n a ha, by
    have := (s.off a ha).2
    cases e : H a with
    | none => exact absurd e this
    | some o => rw [h a ha o e]; simp⟩
theorem Stt.push (s : Stt K G H σ δ) (r : RepO K G H x v) (nd : (foot x).Nodup) (off : ∀ a ∈ foot x, G a = none ∧ H a ≠ none ∧ a ∉ feet δ) : Stt K G H (some v :: σ) (some x :: δ) where
  ex := s.ex
  len := by rw [List.length_cons, List.length_cons, s.len]
  rep := fun i y hy => by
    cases i with
    | zero => simp at hy; subst hy; exact ⟨v, rfl, r⟩
    | succ i => simpa using s.rep i y (by simpa using hy)
  nd := by
    unfold feet
    exact List.nodup_append.mpr ⟨nd, s.nd, fun a ha b hb e => (off a ha).2.2 (e ▸ hb)⟩
  off := fun a ha => by
    unfold feet at ha
    rcases List.mem_append.mp ha with h | h
    · exact ⟨(off a h).1, (off a h).2.1⟩
    · exact s.off a h
theorem Stt.pushF {d : D} (s : Stt K G H σ δ) (r : Rep K G d v) : Stt K G H (some v :: σ) (some (.fz d) :: δ) :=
  s.push (by unfold RepO; exact r) (by unfold foot; exact List.nodup_nil) fun a h => by unfold foot at h; cases h
theorem Stt.top (s : Stt K G H (some v :: σ) (some x :: δ)) : RepO K G H x v := by
  obtain ⟨u, e, r⟩ := s.rep 0 x rfl
  simp at e
  subst e
  exact r
theorem Stt.pop {y : Option V} {z : Option OD} (s : Stt K G H (y :: σ) (z :: δ)) : Stt K G H σ δ where
  ex := s.ex
  len := by have := s.len; simpa using this
  rep := fun i y hy => by simpa using s.rep (i + 1) y (by simpa using hy)
  nd := by
    have := s.nd
    cases z with
    | none => simpa only [feet] using this
    | some z => unfold feet at this; exact (List.nodup_append.mp this).2.1
  off := fun a ha => s.off a (by
    cases z with
    | none => simpa only [feet] using ha
    | some z => unfold feet; exact List.mem_append_right _ ha)
/-- the value goes into the slot -/
theorem Stt.set (s : Stt K G H (some v :: σ) (some x :: δ)) (hi : i < δ.length) : Stt K G H (σ.set i (some v)) (δ.set i (some x)) where
  ex := s.ex
  len := by have := s.pop.len; simpa using this
  rep := fun j y hy => by
    have hl := s.pop.len
    by_cases e : j = i
    · subst e
      rw [List.getElem?_set_self hi] at hy
      cases hy
      exact ⟨v, by rw [List.getElem?_set_self (by omega)], s.top⟩
    · rw [List.getElem?_set_ne (Ne.symm e)] at hy
      obtain ⟨u, e1, r⟩ := s.pop.rep j y hy
      exact ⟨u, by rw [List.getElem?_set_ne (Ne.symm e)]; exact e1, r⟩
  nd := feet_set_nd (by have := s.nd; simpa only [feet] using this)
  off := fun a ha => s.off a (by
    unfold feet
    rcases feet_set_mem a ha with h | h
    · exact List.mem_append_left _ h
    · exact List.mem_append_right _ h)
theorem Step.set (s : Step K G H δ G' H' (some v :: σ') (some x :: δ')) (hi : i < δ'.length) : Step K G H δ G' H' (σ'.set i (some v)) (δ'.set i (some x)) :=
  ⟨s.st.set hi, s.gr, fun a ha => s.ft a (by
    unfold feet
    rcases feet_set_mem a ha with h | h
    · exact List.mem_append_left _ h
    · exact List.mem_append_right _ h)⟩
theorem Step.pop {y : Option V} {z : Option OD} (s : Step K G H δ G' H' (y :: σ') (z :: δ')) : Step K G H δ G' H' σ' δ' :=
  ⟨s.st.pop, s.gr, fun a ha => s.ft a (by
    cases z with
    | none => simpa only [feet] using ha
    | some z => unfold feet; exact List.mem_append_right _ ha)⟩
end
end Vl

namespace Vl
open PySem PySem.Spec PyProof.Rows L2

/-! ### the weakest readings -/
section
variable (X : Cx)
structure wE (e : Expr) (σ : L2.St) (H : Hp) (Q : VK) : Prop where
  run : ∀ pins s, Inv X pins σ H s → wpAny (model X.prog X.w) X.A (eval e X.env) (EP X pins σ Q) X.xe s
structure wT (e : Expr) (σ : L2.St) (H : Hp) (Q : Bool → Hp → Prop) : Prop where
  run : ∀ pins s, Inv X pins σ H s → wpAny (model X.prog X.w) X.A (isTrue e X.env (eval e X.env)) (TP X pins σ Q) X.xe s
structure wW (e : Expr) (σ : L2.St) (H : Hp) (Q : Bool → Hp → Prop) : Prop where
  run : ∀ whole pins s, Inv X pins σ H s → wpAny (model X.prog X.w) X.A (isTrue e X.env whole) (TP X pins σ Q) X.xe s
structure wA (es : List Expr) (σ : L2.St) (H : Hp) (Q : List V → Hp → Prop) : Prop where
  run : ∀ pos pins s, Inv X pins σ H s → wpAny (model X.prog X.w) X.A (spliced (backTo pos (starEach es X.env))) (AP X pins σ Q) X.xe s
structure wS (st : Stmt) (D : Ends) (σ : L2.St) (H : Hp) : Prop where
  run : ∀ pins s, Inv X pins σ H s → wpAny (model X.prog X.w) X.A (exec st X.env) (SP X pins D) X.xe s
structure wB (st : List Stmt) (D : Ends) (σ : L2.St) (H : Hp) : Prop where
  run : ∀ pins s, Inv X pins σ H s → wpAny (model X.prog X.w) X.A (execs st X.env) (SP X pins D) X.xe s
structure wG (tg : Expr) (v : V) (σ : L2.St) (H : Hp) (Q : L2.St → Hp → Prop) : Prop where
  run : ∀ pins s u, Inv X pins σ H s → RelV v u → wpAny (model X.prog X.w) X.A (assign tg X.env u) (fun _ s' => ∃ σ' H', Inv X pins σ' H' s' ∧ Q σ' H') X.xe s
structure wGs (ts : List Expr) (vs : List V) (σ : L2.St) (H : Hp) (Q : L2.St → Hp → Prop) : Prop where
  run : ∀ pins s us, Inv X pins σ H s → Vals vs us → wpAny (model X.prog X.w) X.A (assignInOrder ((assignEach ts X.env).map (·.2)) us) (fun _ s' => ∃ σ' H', Inv X pins σ' H' s' ∧ Q σ' H') X.xe s
end
section
variable {X : Cx} {e : Expr} {es : List Expr} {st : Stmt} {sts : List Stmt} {σ : L2.St} {H : Hp}
theorem wE_pe : PE X e (wE X e) := ⟨fun pins s _ _ _ I h => h.run pins s I⟩
theorem wT_pt : PT X e (wT X e) := ⟨fun pins s _ _ _ I h => h.run pins s I⟩
theorem wW_pw : PW X e (wW X e) := ⟨fun wh pins s _ _ _ I h => h.run wh pins s I⟩
theorem wA_pa : PA X es (wA X es) := ⟨fun pos pins s _ _ _ I h => h.run pos pins s I⟩
theorem wS_ps : PS X st (wS X st) := ⟨fun pins s _ _ _ I h => h.run pins s I⟩
theorem wB_ps : PSs X sts (wB X sts) := ⟨fun pins s _ _ _ I h => h.run pins s I⟩
theorem wG_pg : PG X e (wG X e) := ⟨fun pins s _ _ _ u _ I r h => h.run pins s u I r⟩
theorem wGs_pg : PGs X es (wGs X es) := ⟨fun pins s _ _ _ us _ I r h => h.run pins s us I r⟩
theorem wE_of {t : TE} {Q : VK} (h : PE X e t) (q : t σ H Q) : wE X e σ H Q := .mk fun pins s I => h.run pins s σ H Q I q
theorem wT_of {t : TT} {Q : Bool → Hp → Prop} (h : PT X e t) (q : t σ H Q) : wT X e σ H Q := .mk fun pins s I => h.run pins s σ H Q I q
theorem wW_of {t : TT} {Q : Bool → Hp → Prop} (h : PW X e t) (q : t σ H Q) : wW X e σ H Q := .mk fun wh pins s I => h.run wh pins s σ H Q I q
theorem wA_of {t : TA} {Q : List V → Hp → Prop} (h : PA X es t) (q : t σ H Q) : wA X es σ H Q := .mk fun pos pins s I => h.run pos pins s σ H Q I q
theorem wS_of {t : TS} {D : Ends} (h : PS X st t) (q : t D σ H) : wS X st D σ H := .mk fun pins s I => h.run pins s σ H D I q
theorem wB_of {t : TS} {D : Ends} (h : PSs X sts t) (q : t D σ H) : wB X sts D σ H := .mk fun pins s I => h.run pins s σ H D I q
theorem wG_of {t : TG} {v : V} {Q : L2.St → Hp → Prop} (h : PG X e t) (q : t v σ H Q) : wG X e v σ H Q := .mk fun pins s u I r => h.run pins s σ H v u Q I r q
theorem wGs_of {t : TGs} {vs : List V} {Q : L2.St → Hp → Prop} (h : PGs X es t) (q : t vs σ H Q) : wGs X es vs σ H Q := .mk fun pins s us I r => h.run pins s σ H vs us Q I r q
theorem wE.imp {Q Q' : VK} (h : wE X e σ H Q) (q : ∀ v H', Q v H' → Q' v H') : wE X e σ H Q' := .mk fun pins s I =>
  thn (h.run pins s I) fun _ _ ⟨v, H', I', r, z⟩ => ⟨v, H', I', r, q v H' z⟩
theorem wT.imp {Q Q' : Bool → Hp → Prop} (h : wT X e σ H Q) (q : ∀ b H', Q b H' → Q' b H') : wT X e σ H Q' := .mk fun pins s I =>
  thn (h.run pins s I) fun _ _ ⟨H', I', z⟩ => ⟨H', I', q _ H' z⟩
theorem wW.imp {Q Q' : Bool → Hp → Prop} (h : wW X e σ H Q) (q : ∀ b H', Q b H' → Q' b H') : wW X e σ H Q' := .mk fun wh pins s I =>
  thn (h.run wh pins s I) fun _ _ ⟨H', I', z⟩ => ⟨H', I', q _ H' z⟩
theorem wA.imp {Q Q' : List V → Hp → Prop} (h : wA X es σ H Q) (q : ∀ v H', Q v H' → Q' v H') : wA X es σ H Q' := .mk fun pos pins s I =>
  thn (h.run pos pins s I) fun _ _ ⟨v, H', I', r, z⟩ => ⟨v, H', I', r, q v H' z⟩
theorem wG.imp {v : V} {Q Q' : L2.St → Hp → Prop} (h : wG X e v σ H Q) (q : ∀ σ' H', Q σ' H' → Q' σ' H') : wG X e v σ H Q' := .mk fun pins s u I r =>
  thn (h.run pins s u I r) fun _ _ ⟨σ', H', I', z⟩ => ⟨σ', H', I', q σ' H' z⟩
theorem wGs.imp {vs : List V} {Q Q' : L2.St → Hp → Prop} (h : wGs X es vs σ H Q) (q : ∀ σ' H', Q σ' H' → Q' σ' H') : wGs X es vs σ H Q' := .mk fun pins s us I r =>
  thn (h.run pins s us I r) fun _ _ ⟨σ', H', I', z⟩ => ⟨σ', H', I', q σ' H' z⟩
structure EndsLe (D D' : Ends) : Prop where
  nx : ∀ σ H, D.nx σ H → D'.nx σ H
  rt : ∀ v H, D.rt v H → D'.rt v H
  bk : ∀ σ H, D.bk σ H → D'.bk σ H
  ct : ∀ σ H, D.ct σ H → D'.ct σ H
theorem SP.imp {pins : List (Addr × Obj)} {D D' : Ends} {f : Flow} {s : Shared} (l : EndsLe D D') (h : SP X pins D f s) : SP X pins D' f s := by
  cases f with
  | next => obtain ⟨σ', H', I, q⟩ := h; exact ⟨σ', H', I, l.nx _ _ q⟩
  | brk => obtain ⟨σ', H', I, q⟩ := h; exact ⟨σ', H', I, l.bk _ _ q⟩
  | cont => obtain ⟨σ', H', I, q⟩ := h; exact ⟨σ', H', I, l.ct _ _ q⟩
  | ret u => obtain ⟨v, σ', H', I, r, q⟩ := h; exact ⟨v, σ', H', I, r, l.rt _ _ q⟩
theorem wB.imp {D D' : Ends} (h : wB X sts D σ H) (l : EndsLe D D') : wB X sts D' σ H := .mk fun pins s I => thn (h.run pins s I) fun _ _ q => SP.imp l q
theorem wS.imp {D D' : Ends} (h : wS X st D σ H) (l : EndsLe D D') : wS X st D' σ H := .mk fun pins s I => thn (h.run pins s I) fun _ _ q => SP.imp l q
end

/-! ### the judgements over data -/
/-- what is wanted of a value: x the data; the state as it then is -/
def Post (K : PySem.W.Frag) (G H : Hp) (σ : L2.St) (δ : En) (Q : OD → En → Prop) : VK := fun v H' => ∃ x G' δ', Step K G H δ G' H' (some v :: σ) (some x :: δ') ∧ Q x δ'
def PostB (K : PySem.W.Frag) (G H : Hp) (σ : L2.St) (δ : En) (Q : Bool → En → Prop) : Bool → Hp → Prop := fun b H' => ∃ G' δ', Step K G H δ G' H' σ δ' ∧ Q b δ'
def Ev (X : Cx) (e : Expr) (δ : En) (Q : OD → En → Prop) : Prop := ∀ G H σ, Stt X.K G H σ δ → wE X e σ H (Post X.K G H σ δ Q)
def Et (X : Cx) (e : Expr) (δ : En) (Q : Bool → En → Prop) : Prop := ∀ G H σ, Stt X.K G H σ δ → wT X e σ H (PostB X.K G H σ δ Q)
def Ew (X : Cx) (e : Expr) (δ : En) (Q : Bool → En → Prop) : Prop := ∀ G H σ, Stt X.K G H σ δ → wW X e σ H (PostB X.K G H σ δ Q)
/-- an argument: frozen data, or a slot's object -/
inductive AR where
  | d (d : D) | s (i : Nat)
def RepA (K : PySem.W.Frag) (G : Hp) (σ : L2.St) : AR → V → Prop
  | .d d, v => Rep K G d v
  | .s i, v => σ[i]? = some (some v)
def RepAs (K : PySem.W.Frag) (G : Hp) (σ : L2.St) : List AR → List V → Prop
  | [], vs => vs = []
  | a :: as, vs => ∃ v r, vs = v :: r ∧ RepA K G σ a v ∧ RepAs K G σ as r
/-- arguments: frozen data, or slots' objects as they stand -/
def PostA (K : PySem.W.Frag) (G H : Hp) (σ : L2.St) (δ : En) (Q : List AR → En → Prop) : List V → Hp → Prop := fun vs H' => ∃ xs G' δ', Step K G H δ G' H' σ δ' ∧ RepAs K G' σ xs vs ∧ Q xs δ'
def Ea (X : Cx) (es : List Expr) (δ : En) (Q : List AR → En → Prop) : Prop := ∀ G H σ, Stt X.K G H σ δ → wA X es σ H (PostA X.K G H σ δ Q)
/-- what is wanted behind a statement -/
structure DE where
  nx : En → Prop
  rt : OD → En → Prop
  bk : En → Prop := fun _ => False
  ct : En → Prop := fun _ => False
def DE.at (P : DE) (K : PySem.W.Frag) (G H : Hp) (δ : En) : Ends where
  nx := fun σ' H' => ∃ G' δ', Step K G H δ G' H' σ' δ' ∧ P.nx δ'
  rt := fun v H' => ∃ x G' σ' δ', Step K G H δ G' H' (some v :: σ') (some x :: δ') ∧ P.rt x δ'
  bk := fun σ' H' => ∃ G' δ', Step K G H δ G' H' σ' δ' ∧ P.bk δ'
  ct := fun σ' H' => ∃ G' δ', Step K G H δ G' H' σ' δ' ∧ P.ct δ'
def Es (X : Cx) (st : Stmt) (δ : En) (P : DE) : Prop := ∀ G H σ, Stt X.K G H σ δ → wS X st (P.at X.K G H δ) σ H
def Eb (X : Cx) (sts : List Stmt) (δ : En) (P : DE) : Prop := ∀ G H σ, Stt X.K G H σ δ → wB X sts (P.at X.K G H δ) σ H
/-- a target takes data -/
def Eg (X : Cx) (tg : Expr) (x : OD) (δ : En) (Q : En → Prop) : Prop :=
  ∀ G H σ v, Stt X.K G H (some v :: σ) (some x :: δ) → wG X tg v σ H fun σ' H' => ∃ G' δ', Step X.K G H (some x :: δ) G' H' σ' δ' ∧ Q δ'

section
variable {X : Cx} {e a b c : Expr} {es : List Expr} {st : Stmt} {sts : List Stmt} {δ : En} {Q Q' : OD → En → Prop} {R R' : Bool → En → Prop} {P P' : DE} {pos p : Pos}
theorem DE.le {K : PySem.W.Frag} {G H G1 H1 : Hp} {δ1 : En} {σ1 : L2.St} (s : Step K G H δ G1 H1 σ1 δ1) (nx : ∀ δ', P.nx δ' → P'.nx δ') (rt : ∀ x δ', P.rt x δ' → P'.rt x δ') (bk : ∀ δ', P.bk δ' → P'.bk δ') (ct : ∀ δ', P.ct δ' → P'.ct δ') :
    EndsLe (P.at K G1 H1 δ1) (P'.at K G H δ) where
  nx := fun _ _ ⟨G', δ', s', q⟩ => ⟨G', δ', s.trans s', nx _ q⟩
  rt := fun _ _ ⟨x, G', σ', δ', s', q⟩ => ⟨x, G', σ', δ', s.trans s', rt _ _ q⟩
  bk := fun _ _ ⟨G', δ', s', q⟩ => ⟨G', δ', s.trans s', bk _ q⟩
  ct := fun _ _ ⟨G', δ', s', q⟩ => ⟨G', δ', s.trans s', ct _ q⟩
theorem Ev.imp (h : Ev X e δ Q) (q : ∀ x δ', Q x δ' → Q' x δ') : Ev X e δ Q' := fun G H σ s => (h G H σ s).imp fun _ _ ⟨x, G', δ', s', z⟩ => ⟨x, G', δ', s', q x δ' z⟩
theorem Et.imp (h : Et X e δ R) (q : ∀ x δ', R x δ' → R' x δ') : Et X e δ R' := fun G H σ s => (h G H σ s).imp fun _ _ ⟨G', δ', s', z⟩ => ⟨G', δ', s', q _ δ' z⟩
theorem Eb.imp (h : Eb X sts δ P) (nx : ∀ δ', P.nx δ' → P'.nx δ') (rt : ∀ x δ', P.rt x δ' → P'.rt x δ') (bk : ∀ δ', P.bk δ' → P'.bk δ') (ct : ∀ δ', P.ct δ' → P'.ct δ') : Eb X sts δ P' :=
  fun G H σ s => (h G H σ s).imp (DE.le s.step nx rt bk ct)

/-! ### names and constants -/
theorem ev_var (i : Nat) {x : Str} {d : D} (hN : X.N[i]? = some x) (hv : Vis X.env.scope x) (hδ : δ[i]? = some (some (.fz d))) (q : Q (.fz d) δ) (hd : (x == ("__debug__" : Str)) = false := by decide) (hcd : (x == ("__classdict__" : Str)) = false := by decide) :
    Ev X (.Name x pos) δ Q := fun G H σ s => by
  obtain ⟨v, e1, r⟩ := s.rep i _ hδ
  unfold RepO at r
  exact wE_of (pe_var hN hv hd hcd) ⟨v, e1, _, G, δ, ⟨s.pushF r, Grow.refl, fun a ha => .inl (by simpa only [feet, foot, List.nil_append] using ha)⟩, q⟩
theorem Stt.stepF {K : PySem.W.Frag} {G H : Hp} {σ : L2.St} {v : V} {d : D} (s : Stt K G H σ δ) (r : Rep K G d v) : Step K G H δ G H (some v :: σ) (some (.fz d) :: δ) :=
  ⟨s.pushF r, Grow.refl, fun a ha => .inl (by simpa only [feet, foot, List.nil_append] using ha)⟩
theorem Step.pushF {K : PySem.W.Frag} {G H G' H' : Hp} {σ : L2.St} {v : V} {d : D} {δ' : En} (s : Step K G H δ G' H' σ δ') (r : Rep K G' d v) : Step K G H δ G' H' (some v :: σ) (some (.fz d) :: δ') :=
  s.trans (s.st.stepF r)
theorem ev_int {i : Int} {j} (q : Q (.fz (.int i)) δ) : Ev X (.Constant (.int i) j pos) δ Q := fun G H σ s => wE_of pe_int ⟨_, G, δ, s.stepF (by unfold Rep; rfl), q⟩
theorem ev_bl {i : Bool} {j} (q : Q (.fz (.bl i)) δ) : Ev X (.Constant (.bool i) j pos) δ Q := fun G H σ s => wE_of pe_bl ⟨_, G, δ, s.stepF (by unfold Rep; rfl), q⟩
theorem ev_non {j} (q : Q (.fz .non) δ) : Ev X (.Constant .none j pos) δ Q := fun G H σ s => wE_of pe_non ⟨_, G, δ, s.stepF (by unfold Rep; rfl), q⟩
theorem ev_str {i : Str} {j} (q : Q (.fz (.str i)) δ) : Ev X (.Constant (.str i) j pos) δ Q := fun G H σ s => wE_of pe_str ⟨_, G, δ, s.stepF (by unfold Rep; rfl), q⟩
theorem ev_globI {x : Str} {i : Int} {t : Tok} (hg : Gl X x) (hm : X.mg x = some (.int i t)) (q : Q (.fz (.int i)) δ) (hd : (x == ("__debug__" : Str)) = false := by decide) : Ev X (.Name x pos) δ Q := fun G H σ s =>
  wE_of (pe_glob hg hm (v := .int i) ⟨t, rfl⟩ hd) ⟨_, G, δ, s.stepF (by unfold Rep; rfl), q⟩
theorem ev_globR {x : Str} {i : Addr} (hg : Gl X x) (hm : X.mg x = some (.ref i)) (q : Q (.fz (.op (.ref i))) δ) (hd : (x == ("__debug__" : Str)) = false := by decide) : Ev X (.Name x pos) δ Q := fun G H σ s =>
  wE_of (pe_glob hg hm (v := .ref i) rfl hd) ⟨_, G, δ, s.stepF (by unfold Rep; rfl), q⟩
theorem ev_bltn {x : Str} {v : V} {u : Value} (hg : Gl X x) (hm : X.mg x = none) (hv : bootBuiltins x = some u) (r : RelV v u) (q : Q (.fz (.op v)) δ) (hn : x ≠ "__name__" := by decide) (hd : (x == ("__debug__" : Str)) = false := by decide) : Ev X (.Name x pos) δ Q := fun G H σ s =>
  wE_of (pe_bltn hg hm hv r hn hd) ⟨_, G, δ, s.stepF (by unfold Rep; rfl), q⟩

/-! ### operators -/
/-- f by its reading r does this: of d1 and d2 it makes d, perhaps a new object -/
def OpD (K : PySem.W.Frag) (r : R2) (d1 d2 : D) (W : D → Prop) : Prop :=
  ∀ G H v1 v2 (k : VK), Same G H → Rep K G d1 v1 → Rep K G d2 v2 → (∀ d v G' H', W d → Same G G' → Same H H' → Same G' H' → (∀ a, G' a ≠ none → G a ≠ none ∨ H a = none) → Rep K G' d v → k v H') → r v1 v2 H k
theorem grow_same {F : List Addr} {G H G' H' : Hp} (g : Same G G') (h : Same H H') (n : ∀ a, G' a ≠ none → G a ≠ none ∨ H a = none) : Grow F G H G' H' where
  g := g
  h := fun a o _ e => h a o e
  new := fun a ha => (n a ha).elim .inl fun z => .inr (.inl z)
  there := fun a ha => by
    cases e : H a with
    | none => exact absurd e ha
    | some o => rw [h a o e]; simp
theorem Step.grow {K : PySem.W.Frag} {G H G1 H1 G' H' : Hp} {σ : L2.St} {δ1 : En} (s : Step K G H δ G1 H1 σ δ1) (g : Same G1 G') (h : Same H1 H') (e : Same G' H') (n : ∀ a, G' a ≠ none → G1 a ≠ none ∨ H1 a = none) : Step K G H δ G' H' σ δ1 :=
  s.trans ⟨s.st.keep g e (fun a _ o ho => h a o ho) (fun a ha => by
    have q := s.st.off a ha
    cases z : G' a with
    | none => rfl
    | some o => exact ((n a (by rw [z]; simp)).elim (fun w => w q.1) fun w => q.2 w).elim), grow_same g h n, fun _ ha => .inl ha⟩
end
end Vl

namespace Vl
open PySem PySem.Spec PyProof.Rows L2
section
variable {K : PySem.W.Frag} {G H G' H' G1 H1 G2 H2 : Hp} {σ σ' σ1 σ2 : L2.St} {δ δ' δ1 δ2 : En} {v : V} {x : OD}
/-- a value that waits while something else is done -/
theorem Stt.frame (s : Stt K G1 H1 (some v :: σ) (some x :: δ)) (b : Step K G1 H1 δ G2 H2 σ2 δ2) : Stt K G2 H2 (some v :: σ2) (some x :: δ2) := by
  have nd := s.nd
  unfold feet at nd
  obtain ⟨n1, n2, n3⟩ := List.nodup_append.mp nd
  have inx : ∀ a ∈ foot x, a ∈ feet (some x :: δ) := fun a ha => by unfold feet; exact List.mem_append_left _ ha
  have out : ∀ a ∈ foot x, a ∉ feet δ := fun a ha hb => n3 a ha a hb rfl
  refine b.st.push (RepO.mono b.gr.g x v (fun a ha o ho => b.gr.h a o (out a ha) ho) s.top) n1 fun a ha => ⟨?_, b.gr.there a (s.off a (inx a ha)).2, fun hb => ?_⟩
  · cases z : G2 a with
    | none => rfl
    | some o =>
      rcases b.gr.new a (by rw [z]; simp) with q | q | q
      · exact (q (s.off a (inx a ha)).1).elim
      · exact ((s.off a (inx a ha)).2 q).elim
      · exact (out a ha q).elim
  · rcases b.ft a hb with q | q
    · exact out a ha q
    · exact (s.off a (inx a ha)).2 q
end
section
variable {X : Cx} {e a b c : Expr} {es : List Expr} {δ δ' δ1 δ2 : En} {Q Q' : OD → En → Prop} {S : OD → Prop} {R R' : Bool → En → Prop} {pos p : Pos}
/-- f by a rule does this: of x and y it makes what S wants -/
def RD (X : Cx) (f : Value → Value → Sem Value) (x y : OD) (S : OD → Prop) : Prop :=
  ∃ r, OpR X f r ∧ ∃ d1 d2, x = .fz d1 ∧ y = .fz d2 ∧ OpD X.K r d1 d2 fun d => S (.fz d)
def PostO (K : PySem.W.Frag) (G H : Hp) (σ : L2.St) (δ : En) (S : OD → Prop) : VK := fun v H' => ∃ x G', Step K G H δ G' H' (some v :: σ) (some x :: δ) ∧ S x
theorem rd_run {r : R2} {G H : Hp} {σ : L2.St} {v1 v2 : V} {d1 d2 : D} (s : Stt X.K G H σ δ) (r1 : Rep X.K G d1 v1) (r2 : Rep X.K G d2 v2) (h : OpD X.K r d1 d2 fun d => S (.fz d)) : r v1 v2 H (PostO X.K G H σ δ S) :=
  h G H v1 v2 _ s.ex r1 r2 fun d v G' H' hq g h e n rd => ⟨_, G', (s.step.grow g h e n).pushF rd, hq⟩
theorem PostO.back {K : PySem.W.Frag} {G H G2 H2 H' : Hp} {σ : L2.St} {v : V} (s : Step K G H δ G2 H2 σ δ2) (h : PostO K G2 H2 σ δ2 (fun z => Q z δ2) v H') : Post K G H σ δ Q v H' := by
  obtain ⟨x, G', s', q⟩ := h
  exact ⟨x, G', _, s.trans s', q⟩
theorem EPO.back {pins : List (Addr × Obj)} {G H G2 H2 : Hp} {σ : L2.St} {u : Value} {s' : Shared} (s : Step X.K G H δ G2 H2 σ δ2) (h : EP X pins σ (PostO X.K G2 H2 σ δ2 fun z => Q z δ2) u s') : EP X pins σ (Post X.K G H σ δ Q) u s' := by
  obtain ⟨v, H', I, r, z⟩ := h
  exact ⟨v, H', I, r, PostO.back s z⟩
theorem Post.back {K : PySem.W.Frag} {G H G2 H2 H' : Hp} {σ : L2.St} {v : V} (s : Step K G H δ G2 H2 σ δ2) (h : Post K G2 H2 σ δ2 Q v H') : Post K G H σ δ Q v H' := by
  obtain ⟨x, G', d', s', q⟩ := h
  exact ⟨x, G', d', s.trans s', q⟩
theorem top_fz {K : PySem.W.Frag} {G H : Hp} {σ : L2.St} {v : V} {d : D} {x : OD} (s : Stt K G H (some v :: σ) (some x :: δ)) (e : x = .fz d) : Rep K G d v := by
  subst e
  have r := s.top
  unfold RepO at r
  exact r
/-- two operands -/
theorem two_run {f : Value → Value → Sem Value} {pins : List (Addr × Obj)} {s2 : Shared} {G1 H1 G2 H2 : Hp} {σ : L2.St} {v1 v2 : V} {v u : Value} {x1 x2 : OD} (I2 : Inv X pins σ H2 s2) (r1 : RelV v1 v) (r2 : RelV v2 u)
    (t1 : Stt X.K G1 H1 (some v1 :: σ) (some x1 :: δ1)) (t2 : Step X.K G1 H1 δ1 G2 H2 (some v2 :: σ) (some x2 :: δ2)) (h : RD X f x1 x2 S) : wpAny (model X.prog X.w) X.A (f v u) (EP X pins σ (PostO X.K G2 H2 σ δ2 S)) X.xe s2 := by
  obtain ⟨r, ho, d1, d2, e1, e2, od⟩ := h
  exact ho pins s2 σ H2 v1 v2 v u _ I2 r1 r2 (rd_run t2.st.pop (top_fz (t1.frame t2.pop) e1) (top_fz t2.st e2) od)
theorem ev_bin {op : Operator} (h : Ev X a δ fun x δ1 => Ev X b δ1 fun y δ2 => RD X (binaryOp op) x y fun z => Q z δ2) : Ev X (.BinOp a op b pos) δ Q := fun G H σ s => by
  refine .mk fun pins s0 I => ?_
  refine wpAny_BinOp (thn ((h G H σ s).run pins s0 I) fun v s1 ⟨v1, H1, I1, r1, x1, G1, d1, t1, h1⟩ => ?_)
  refine thn ((h1 G1 H1 σ t1.st.pop).run pins s1 I1) fun u s2 ⟨v2, H2, I2, r2, x2, G2, d2, t2, h2⟩ => ?_
  exact thn (two_run I2 r1 r2 t1.st t2 h2) fun w s3 z => EPO.back (t1.pop.trans t2.pop) z
theorem ev_cmp1 {op : CmpOp} (h : Ev X a δ fun x δ1 => Ev X b δ1 fun y δ2 => RD X (compareOp op) x y fun z => Q z δ2) (hm : behindInMarks op b = false := by first | rfl | with_unfolding_all rfl) : Ev X (.Compare a [op] [b] pos) δ Q := fun G H σ s => by
  refine .mk fun pins s0 I => ?_
  refine wpAny_Compare1 (thn ((h G H σ s).run pins s0 I) fun v s1 ⟨v1, H1, I1, r1, x1, G1, d1, t1, h1⟩ => ?_) hm
  refine thn ((h1 G1 H1 σ t1.st.pop).run pins s1 I1) fun u s2 ⟨v2, H2, I2, r2, x2, G2, d2, t2, h2⟩ => ?_
  exact thn (two_run I2 r1 r2 t1.st t2 h2) fun w s3 z => EPO.back (t1.pop.trans t2.pop) z
/-- a bool as a test's answer -/
def isB (R : Bool → Prop) : OD → Prop := fun x => ∃ k, x = .fz (.bl k) ∧ R k
theorem Stt.isBl {K : PySem.W.Frag} {G H : Hp} {σ : L2.St} {v : V} {k : Bool} (s : Stt K G H (some v :: σ) (some (.fz (.bl k)) :: δ)) : v = .bl k := by
  have r := s.top
  unfold RepO Rep at r
  exact r
theorem et_cmp1 {op : CmpOp} (h : Ev X a δ fun x δ1 => Ev X b δ1 fun y δ2 => RD X (compareOp op) x y (isB fun k => R k δ2)) (hm : behindInMarks op b = false := by first | rfl | with_unfolding_all rfl) : Et X (.Compare a [op] [b] pos) δ R := fun G H σ s => by
  refine .mk fun pins s0 I => ?_
  refine wpAny_isTrue_Compare1 (thn ((h G H σ s).run pins s0 I) fun v s1 ⟨v1, H1, I1, r1, x1, G1, d1, t1, h1⟩ => ?_) hm
  refine thn ((h1 G1 H1 σ t1.st.pop).run pins s1 I1) fun u s2 ⟨v2, H2, I2, r2, x2, G2, d2, t2, h2⟩ => ?_
  refine thn (two_run I2 r1 r2 t1.st t2 h2) fun w s3 ⟨v3, H3, I3, r3, x3, G3, t3, k, e3, q⟩ => ?_
  subst e3
  cases t3.st.isBl
  cases r3
  exact wpAny_truthy_bool ⟨H3, I3, G3, d2, ((t1.pop.trans t2.pop).trans t3.pop), q⟩
theorem et_val (h : Ev X e δ fun x δ' => isB (fun k => R k δ') x) (he : ∀ whole, isTrue e X.env whole = (do let v ← whole; standAt e.pos; holding [v] (truthy v)) := by intro _; rfl) : Et X e δ R := fun G H σ s =>
  wT_of (pt_val wE_pe he) ((h G H σ s).imp fun v H1 ⟨x, G1, d1, s1, k, e1, q⟩ => by
    subst e1
    exact ⟨k, s1.st.isBl, G1, d1, s1.pop, q⟩)
/-- a <= b <= c as a test -/
theorem et_chain {op op' : CmpOp} (h : Ev X a δ fun x δ1 => Ev X b δ1 fun y δ2 => RD X (compareOp op) x y fun z => ∃ k, z = .fz (.bl k) ∧
    (k = true → Ev X c δ2 fun w δ3 => RD X (compareOp op') y w (isB fun k => R k δ3)) ∧ (k = false → R false δ2)) (hm : lastMarks [op, op'] [b, c] = false := by with_unfolding_all rfl) : Et X (.Compare a [op, op'] [b, c] pos) δ R := fun G H σ s => by
  refine .mk fun pins s0 I => ?_
  refine isTrue_chain (thn ((h G H σ s).run pins s0 I) fun v s1 ⟨v1, H1, I1, r1, x1, G1, d1, t1, h1⟩ => test_link (thn ((h1 G1 H1 σ t1.st.pop).run pins s1 I1) fun u s2 ⟨v2, H2, I2, r2, x2, G2, d2, t2, h2⟩ => ?_)) hm
  refine thn (two_run I2 r1 r2 t1.st t2 h2) fun w s3 ⟨v3, H3, I3, r3, x3, G3, t3, k, e3, q1, q2⟩ => ?_
  subst e3
  cases t3.st.isBl
  cases r3
  have t := (t1.pop.trans t2.pop).trans t3.pop
  refine wpAny_truthy_bool ?_
  cases k with
  | false => exact ite_ff ⟨H3, I3, G3, d2, t, q2 rfl⟩
  | true =>
    refine ite_tt (test_last (thn ((q1 rfl G3 H3 σ t3.st.pop).run pins s3 I3) fun w' s4 ⟨v4, H4, I4, r4, x4, G4, d4, t4, h4⟩ => ?_))
    refine thn (two_run I4 r2 r4 (t2.st.frame t3.pop) t4 h4) fun w5 s5 ⟨v5, H5, I5, r5, x5, G5, t5, k5, e5, q5⟩ => ?_
    subst e5
    cases t5.st.isBl
    cases r5
    exact wpAny_truthy_bool ⟨H5, I5, G5, d4, (t.trans t4.pop).trans t5.pop, q5⟩

/-! ### and, or, not, a if t else b -/
variable {rest : List Expr}
theorem ew_and1 (h : Et X a δ R) : Ew X (.BoolOp .And [a] pos) δ R := fun G H σ s => wW_of (pw_and1 wT_pt) (h G H σ s)
theorem ew_or1 (h : Et X a δ R) : Ew X (.BoolOp .Or [a] pos) δ R := fun G H σ s => wW_of (pw_or1 wT_pt) (h G H σ s)
theorem PostB.back {K : PySem.W.Frag} {G H G2 H2 H' : Hp} {σ : L2.St} {k : Bool} (s : Step K G H δ G2 H2 σ δ2) (h : PostB K G2 H2 σ δ2 R k H') : PostB K G H σ δ R k H' := by
  obtain ⟨G', d', s', q⟩ := h
  exact ⟨G', d', s.trans s', q⟩
theorem ew_and (h : Et X a δ fun k δ1 => (k = true → Ew X (.BoolOp .And (b :: rest) pos) δ1 R) ∧ (k = false → R false δ1)) : Ew X (.BoolOp .And (a :: b :: rest) pos) δ R := fun G H σ s =>
  wW_of (pw_and wT_pt wW_pw) ((h G H σ s).imp fun k H1 ⟨G1, d1, s1, h1, h2⟩ => by
    cases k with
    | true => exact (h1 rfl G1 H1 σ s1.st).imp fun _ _ z => PostB.back s1 z
    | false => exact ⟨G1, d1, s1, h2 rfl⟩)
theorem ew_or (h : Et X a δ fun k δ1 => (k = false → Ew X (.BoolOp .Or (b :: rest) pos) δ1 R) ∧ (k = true → R true δ1)) : Ew X (.BoolOp .Or (a :: b :: rest) pos) δ R := fun G H σ s =>
  wW_of (pw_or wT_pt wW_pw) ((h G H σ s).imp fun k H1 ⟨G1, d1, s1, h1, h2⟩ => by
    cases k with
    | false => exact (h1 rfl G1 H1 σ s1.st).imp fun _ _ z => PostB.back s1 z
    | true => exact ⟨G1, d1, s1, h2 rfl⟩)
theorem et_w (h : Ew X e δ R) : Et X e δ R := fun G H σ s => wT_of wW_pw.pt (h G H σ s)
theorem et_not (h : Et X a δ fun k δ1 => R (!k) δ1) : Et X (.UnaryOp .Not a pos) δ R := fun G H σ s => wT_of (pt_not wT_pt) (h G H σ s)
theorem ev_one {op : BoolOp} (h : Ev X a δ Q) : Ev X (.BoolOp op [a] pos) δ Q := fun G H σ s => wE_of (pe_one wE_pe) (h G H σ s)
theorem ev_and (h : Ev X a δ fun x δ1 => ∃ k, x = .fz (.bl k) ∧ (k = true → Ev X (.BoolOp .And (b :: rest) pos) δ1 Q) ∧ (k = false → Q (.fz (.bl false)) δ1)) : Ev X (.BoolOp .And (a :: b :: rest) pos) δ Q := fun G H σ s =>
  wE_of (pe_and wE_pe wE_pe) ((h G H σ s).imp fun v H1 ⟨x, G1, d1, s1, k, e1, h1, h2⟩ => by
    subst e1
    refine ⟨k, s1.st.isBl, ?_⟩
    cases k with
    | true => exact (h1 rfl G1 H1 σ s1.st.pop).imp fun _ _ z => Post.back s1.pop z
    | false => exact ⟨_, G1, d1, s1.pop.pushF (by unfold Rep; rfl), h2 rfl⟩)
theorem ev_or (h : Ev X a δ fun x δ1 => ∃ k, x = .fz (.bl k) ∧ (k = false → Ev X (.BoolOp .Or (b :: rest) pos) δ1 Q) ∧ (k = true → Q (.fz (.bl true)) δ1)) : Ev X (.BoolOp .Or (a :: b :: rest) pos) δ Q := fun G H σ s =>
  wE_of (pe_or wE_pe wE_pe) ((h G H σ s).imp fun v H1 ⟨x, G1, d1, s1, k, e1, h1, h2⟩ => by
    subst e1
    refine ⟨k, s1.st.isBl, ?_⟩
    cases k with
    | false => exact (h1 rfl G1 H1 σ s1.st.pop).imp fun _ _ z => Post.back s1.pop z
    | true => exact ⟨_, G1, d1, s1.pop.pushF (by unfold Rep; rfl), h2 rfl⟩)
theorem ev_not (h : Ev X a δ fun x δ1 => ∃ k, x = .fz (.bl k) ∧ Q (.fz (.bl (!k))) δ1) : Ev X (.UnaryOp .Not a pos) δ Q := fun G H σ s =>
  wE_of (pe_not wE_pe) ((h G H σ s).imp fun v H1 ⟨x, G1, d1, s1, k, e1, h1⟩ => by
    subst e1
    exact ⟨k, s1.st.isBl, _, G1, d1, s1.pop.pushF (by unfold Rep; rfl), h1⟩)
theorem ev_if (h : Et X c δ fun k δ1 => (k = true → Ev X a δ1 Q) ∧ (k = false → Ev X b δ1 Q)) : Ev X (.IfExp c a b pos) δ Q := fun G H σ s =>
  wE_of (pe_ifExp wT_pt wE_pe wE_pe) ((h G H σ s).imp fun k H1 ⟨G1, d1, s1, h1, h2⟩ => by
    cases k with
    | true => exact (h1 rfl G1 H1 σ s1.st).imp fun _ _ z => Post.back s1 z
    | false => exact (h2 rfl G1 H1 σ s1.st).imp fun _ _ z => Post.back s1 z)

/-! ### ints -/
theorem rd_I {f : Value → Value → Sem Value} {C : Int → Int → Prop} {g : Int → Int → V} {d : D} {i j : Int} (ho : OpR X f (rI C g)) (hr : ∀ G, Rep X.K G d (g i j)) (hc : C i j) (q : S (.fz d)) : RD X f (.fz (.int i)) (.fz (.int j)) S :=
  ⟨_, ho, _, _, rfl, rfl, fun G H v1 v2 k s r1 r2 z => by
    unfold Rep at r1 r2
    exact ⟨i, j, r1, r2, hc, z d _ G H q (Same.refl _) (Same.refl _) s (fun _ h => .inl h) (hr G)⟩⟩
theorem rd_I0 {f : Value → Value → Sem Value} {g : Int → Int → V} {d : D} {i j : Int} (ho : OpR X f (rI0 g)) (hr : ∀ G, Rep X.K G d (g i j)) (q : S (.fz d)) : RD X f (.fz (.int i)) (.fz (.int j)) S :=
  ⟨_, ho, _, _, rfl, rfl, fun G H v1 v2 k s r1 r2 z => by
    unfold Rep at r1 r2
    exact ⟨i, j, r1, r2, z d _ G H q (Same.refl _) (Same.refl _) s (fun _ h => .inl h) (hr G)⟩⟩
variable {i j : Int}
theorem add_I (q : S (.fz (.int (i + j)))) : RD X (binaryOp .Add) (.fz (.int i)) (.fz (.int j)) S := rd_I0 op_add (fun _ => by unfold Rep; rfl) q
theorem sub_I (q : S (.fz (.int (i - j)))) : RD X (binaryOp .Sub) (.fz (.int i)) (.fz (.int j)) S := rd_I0 op_sub (fun _ => by unfold Rep; rfl) q
theorem mul_I (hc : CMulW i j) (q : S (.fz (.int (i * j)))) : RD X (binaryOp .Mult) (.fz (.int i)) (.fz (.int j)) S := rd_I op_mulW (fun _ => by unfold Rep; rfl) hc q
theorem mul_Is (hc : CMul i j) (q : S (.fz (.int (i * j)))) : RD X (binaryOp .Mult) (.fz (.int i)) (.fz (.int j)) S := rd_I op_mul (fun _ => by unfold Rep; rfl) hc q
theorem div_I (hc : CDivW i j) (q : S (.fz (.int (i / j)))) : RD X (binaryOp .FloorDiv) (.fz (.int i)) (.fz (.int j)) S := rd_I op_fdivW (fun _ => by unfold Rep; rfl) hc q
theorem mod_I (hc : 0 < j) (q : S (.fz (.int (i % j)))) : RD X (binaryOp .Mod) (.fz (.int i)) (.fz (.int j)) S := rd_I op_mod (fun _ => by unfold Rep; rfl) hc q
theorem pow_I (hc : CPow i j) (q : S (.fz (.int (i ^ j.toNat)))) : RD X (binaryOp .Pow) (.fz (.int i)) (.fz (.int j)) S := rd_I op_pow (fun _ => by unfold Rep; rfl) hc q
theorem lt_I (q : S (.fz (.bl (decide (i < j))))) : RD X (compareOp .Lt) (.fz (.int i)) (.fz (.int j)) S := rd_I0 op_lt (fun _ => by unfold Rep; rfl) q
theorem le_I (q : S (.fz (.bl (decide (i ≤ j))))) : RD X (compareOp .LtE) (.fz (.int i)) (.fz (.int j)) S := rd_I0 op_le (fun _ => by unfold Rep; rfl) q
theorem gt_I (q : S (.fz (.bl (decide (j < i))))) : RD X (compareOp .Gt) (.fz (.int i)) (.fz (.int j)) S := rd_I0 op_gt (fun _ => by unfold Rep; rfl) q
theorem ge_I (q : S (.fz (.bl (decide (j ≤ i))))) : RD X (compareOp .GtE) (.fz (.int i)) (.fz (.int j)) S := rd_I0 op_ge (fun _ => by unfold Rep; rfl) q
theorem eq_I (q : S (.fz (.bl (decide (i = j))))) : RD X (compareOp .Eq) (.fz (.int i)) (.fz (.int j)) S := ⟨_, op_eq, _, _, rfl, rfl, fun G H v1 v2 k s r1 r2 z => by
  unfold Rep at r1 r2
  subst r1
  subst r2
  refine ⟨rfl, z (.bl (decide (i = j))) _ G H q (Same.refl _) (Same.refl _) s (fun _ h => .inl h) ?_⟩
  unfold Rep
  rw [show decide (V.int i = V.int j) = decide (i = j) by simp]⟩
theorem ne_I (q : S (.fz (.bl (!decide (i = j))))) : RD X (compareOp .NotEq) (.fz (.int i)) (.fz (.int j)) S := ⟨_, op_ne, _, _, rfl, rfl, fun G H v1 v2 k s r1 r2 z => by
  unfold Rep at r1 r2
  subst r1
  subst r2
  refine ⟨rfl, z (.bl (!decide (i = j))) _ G H q (Same.refl _) (Same.refl _) s (fun _ h => .inl h) ?_⟩
  unfold Rep
  rw [show decide (V.int i = V.int j) = decide (i = j) by simp]⟩
theorem isN_non (q : S (.fz (.bl true))) : RD X (compareOp .Is) (.fz .non) (.fz .non) S := ⟨_, op_isN, _, _, rfl, rfl, fun G H v1 v2 k s r1 r2 z => by
  unfold Rep at r1 r2
  subst r1
  exact ⟨r2, z (.bl true) _ G H q (Same.refl _) (Same.refl _) s (fun _ h => .inl h) (by unfold Rep; rfl)⟩⟩
theorem notN_non (q : S (.fz (.bl false))) : RD X (compareOp .IsNot) (.fz .non) (.fz .non) S := ⟨_, op_notN, _, _, rfl, rfl, fun G H v1 v2 k s r1 r2 z => by
  unfold Rep at r1 r2
  subst r1
  exact ⟨r2, z (.bl false) _ G H q (Same.refl _) (Same.refl _) s (fun _ h => .inl h) (by unfold Rep; rfl)⟩⟩
theorem isN_int (q : S (.fz (.bl false))) : RD X (compareOp .Is) (.fz (.int i)) (.fz .non) S := ⟨_, op_isN, _, _, rfl, rfl, fun G H v1 v2 k s r1 r2 z => by
  unfold Rep at r1 r2
  subst r1
  exact ⟨r2, z (.bl false) _ G H q (Same.refl _) (Same.refl _) s (fun _ h => .inl h) (by unfold Rep; rfl)⟩⟩
theorem notN_int (q : S (.fz (.bl true))) : RD X (compareOp .IsNot) (.fz (.int i)) (.fz .non) S := ⟨_, op_notN, _, _, rfl, rfl, fun G H v1 v2 k s r1 r2 z => by
  unfold Rep at r1 r2
  subst r1
  exact ⟨r2, z (.bl true) _ G H q (Same.refl _) (Same.refl _) s (fun _ h => .inl h) (by unfold Rep; rfl)⟩⟩
end
end Vl

namespace Vl
open PySem PySem.Spec PyProof.Rows L2
/-! ### a new object -/
section
variable {K : PySem.W.Frag} {G H G' H' : Hp} {o : HO} {q : Addr}
theorem new_g (s : Same G H) (n : H q = none) : Same G (upd G q o) := fun b u e => by
  rw [upd_ne (ne_of_none (s b u e) n)]
  exact e
theorem new_h (n : H q = none) : Same H (upd H q o) := fun b u e => by
  rw [upd_ne (ne_of_none e n)]
  exact e
theorem new_gh (s : Same G H) : Same (upd G q o) (upd H q o) := fun b u e => by
  by_cases z : b = q
  · subst z
    rw [upd_same] at e ⊢
    exact e
  · rw [upd_ne z] at e ⊢
    exact s b u e
theorem new_n (n : H q = none) : ∀ a, upd G q o a ≠ none → G a ≠ none ∨ H a = none := fun a h => by
  by_cases z : a = q
  · subst z
    exact .inr n
  · rw [upd_ne z] at h
    exact .inl h
end
section
variable {X : Cx} {e a b c : Expr} {es : List Expr} {δ : En} {Q Q' : OD → En → Prop} {S : OD → Prop} {R R' : Bool → En → Prop} {pos p p2 : Pos}
/-- a new list as a value that is wanted frozen -/
theorem new_lst {K : PySem.W.Frag} {G H : Hp} {ds : List D} {vs : List V} {k : VK} {q : Addr} {W : D → Prop} (s : Same G H) (r : Reps K G ds vs) (w : W (.lst ds)) (n : H q = none)
    (z : ∀ d v G' H', W d → Same G G' → Same H H' → Same G' H' → (∀ a, G' a ≠ none → G a ≠ none ∨ H a = none) → Rep K G' d v → k v H') : k (.ref q) (upd H q (.lst vs)) :=
  z (.lst ds) _ (upd G q (.lst vs)) _ w (new_g s n) (new_h n) (new_gh s) (new_n n) (by unfold Rep; exact ⟨q, vs, rfl, upd_same, Reps.mono (new_g s n) _ _ r⟩)
theorem new_tup {K : PySem.W.Frag} {G H : Hp} {ds : List D} {vs : List V} {k : VK} {q : Addr} {W : D → Prop} (s : Same G H) (r : Reps K G ds vs) (w : W (.tup ds)) (n : H q = none)
    (z : ∀ d v G' H', W d → Same G G' → Same H H' → Same G' H' → (∀ a, G' a ≠ none → G a ≠ none ∨ H a = none) → Rep K G' d v → k v H') : k (.ref q) (upd H q (.tup vs)) :=
  z (.tup ds) _ (upd G q (.tup vs)) _ w (new_g s n) (new_h n) (new_gh s) (new_n n) (by unfold Rep; exact ⟨q, vs, rfl, upd_same, Reps.mono (new_g s n) _ _ r⟩)
theorem add_L {ds es : List D} (hl : ds.length + es.length ≤ 100000) (q : S (.fz (.lst (ds ++ es)))) : RD X (binaryOp .Add) (.fz (.lst ds)) (.fz (.lst es)) S :=
  ⟨_, op_cat, _, _, rfl, rfl, fun G H v1 v2 k s r1 r2 z => by
    unfold Rep at r1 r2
    obtain ⟨a1, w1, rfl, g1, rs1⟩ := r1
    obtain ⟨a2, w2, rfl, g2, rs2⟩ := r2
    have l1 := rs1.length
    have l2 := rs2.length
    exact ⟨a1, a2, w1, w2, rfl, rfl, s _ _ g1, s _ _ g2, by rw [sizeLine_eq]; omega, fun p n => new_lst s (Reps.app rs1 rs2) q n z⟩⟩
theorem Reps.flat {K : PySem.W.Frag} {G : Hp} {ds : List D} {vs : List V} (r : Reps K G ds vs) : ∀ n, Reps K G (List.replicate n ds).flatten (List.replicate n vs).flatten
  | 0 => Reps.nil
  | n + 1 => by
    rw [List.replicate_succ, List.replicate_succ, List.flatten_cons, List.flatten_cons]
    exact Reps.app r (Reps.flat r n)
theorem mul_L {ds : List D} {n : Int} (h1 : -(2 ^ 63) ≤ n) (h2 : n < 2 ^ 63) (hl : ds.length * n.toNat ≤ 100000) (q : S (.fz (.lst (List.replicate n.toNat ds).flatten))) : RD X (binaryOp .Mult) (.fz (.lst ds)) (.fz (.int n)) S :=
  ⟨_, op_rep, _, _, rfl, rfl, fun G H v1 v2 k s r1 r2 z => by
    unfold Rep at r1 r2
    obtain ⟨a1, w1, rfl, g1, rs1⟩ := r1
    have l1 := rs1.length
    exact ⟨a1, n, w1, rfl, r2, s _ _ g1, h1, h2, by rw [l1, sizeLine_eq]; omega, fun p m => new_lst s (Reps.flat rs1 _) q m z⟩⟩
/-! ### == of data -/
mutual
def py : D → Option PyData
  | .non => some .none
  | .bl b => some (.bool b)
  | .int i => some (.int i)
  | .str s => some (.str s)
  | .lst ds => (pys ds).map .list
  | .tup ds => (pys ds).map .tuple
  | .op _ => none
  | .rol _ => none
def pys : List D → Option (List PyData)
  | [] => some []
  | d :: ds => (py d).bind fun x => (pys ds).map fun xs => x :: xs
end
mutual
theorem Rep.dp {K : PySem.W.Frag} {G H : Hp} (s : Same G H) : ∀ (d : D) (v : V) (x : PyData), Rep K G d v → py d = some x → Dp K H v x
  | .non, v, x, h, e => by
    unfold Rep at h; unfold py at e
    cases e; subst h
    exact .non
  | .bl _, v, x, h, e => by
    unfold Rep at h; unfold py at e
    cases e; subst h
    exact .bl _
  | .int _, v, x, h, e => by
    unfold Rep at h; unfold py at e
    cases e; subst h
    exact .int _
  | .str _, v, x, h, e => by
    unfold Rep at h; unfold py at e
    cases e; subst h
    exact .str _
  | .lst ds, v, x, h, e => by
    unfold Rep at h; unfold py at e
    obtain ⟨a, vs, rfl, g, rs⟩ := h
    cases q : pys ds with
    | none => rw [q] at e; cases e
    | some xs =>
      rw [q] at e
      cases e
      exact .lst (.of (s _ _ g)) (Reps.dp s ds vs xs rs q)
  | .tup ds, v, x, h, e => by
    unfold Rep at h; unfold py at e
    obtain ⟨a, vs, rfl, g, rs⟩ := h
    cases q : pys ds with
    | none => rw [q] at e; cases e
    | some xs =>
      rw [q] at e
      cases e
      exact .tup (.of (s _ _ g)) (Reps.dp s ds vs xs rs q)
  | .op _, _, _, _, e => by unfold py at e; cases e
  | .rol _, _, _, _, e => by unfold py at e; cases e
theorem Reps.dp {K : PySem.W.Frag} {G H : Hp} (s : Same G H) : ∀ (ds : List D) (vs : List V) (xs : List PyData), Reps K G ds vs → pys ds = some xs → DpAll K H vs xs
  | [], vs, xs, h, e => by
    unfold Reps at h; unfold pys at e
    cases e; subst h
    exact .nil
  | d :: ds, vs, xs, h, e => by
    unfold Reps at h; unfold pys at e
    obtain ⟨v, r, rfl, r1, r2⟩ := h
    cases q : py d with
    | none => rw [q] at e; cases e
    | some x =>
      cases q2 : pys ds with
      | none => rw [q, q2] at e; cases e
      | some ys =>
        rw [q, q2] at e
        cases e
        exact .cons (Rep.dp s d v x r1 q) (Reps.dp s ds r ys r2 q2)
end
theorem eq_D {d1 d2 : D} {x y : PyData} (hu : X.A.units + 64 < cLine) (h1 : py d1 = some x) (h2 : py d2 = some y) (s1 : SeqAt.shaped x = true) (s2 : SeqAt.shaped y = true) (q : S (.fz (.bl (PyData.eqv x y)))) : RD X (compareOp .Eq) (.fz d1) (.fz d2) S :=
  ⟨_, op_eqD hu, _, _, rfl, rfl, fun G H v1 v2 k s r1 r2 z => ⟨x, y, Rep.dp s _ _ _ r1 h1, Rep.dp s _ _ _ r2 h2, s1, s2, z (.bl (PyData.eqv x y)) _ G H q (Same.refl _) (Same.refl _) s (fun _ h => .inl h) (by unfold Rep; rfl)⟩⟩
theorem ne_D {d1 d2 : D} {x y : PyData} (hu : X.A.units + 64 < cLine) (h1 : py d1 = some x) (h2 : py d2 = some y) (s1 : SeqAt.shaped x = true) (s2 : SeqAt.shaped y = true) (q : S (.fz (.bl (!PyData.eqv x y)))) : RD X (compareOp .NotEq) (.fz d1) (.fz d2) S :=
  ⟨_, op_neD hu, _, _, rfl, rfl, fun G H v1 v2 k s r1 r2 z => ⟨x, y, Rep.dp s _ _ _ r1 h1, Rep.dp s _ _ _ r2 h2, s1, s2, z (.bl (!PyData.eqv x y)) _ G H q (Same.refl _) (Same.refl _) s (fun _ h => .inl h) (by unfold Rep; rfl)⟩⟩

/-! ### subscripts -/
/-- x[y] -/
def IxD (X : Cx) (x y : OD) (S : OD → Prop) : Prop := ∃ r, IxR X r ∧ ∃ d1 d2, x = .fz d1 ∧ y = .fz d2 ∧ OpD X.K r d1 d2 fun d => S (.fz d)
theorem ev_ix (h : Ev X a δ fun x δ1 => Ev X b δ1 fun y δ2 => IxD X x y fun z => Q z δ2) (hs : PlainIx b := by exact fun _ _ => rfl) : Ev X (.Subscript a b pos) δ Q := fun G H σ s => by
  refine .mk fun pins s0 I => ?_
  refine Subscript_ (thn ((h G H σ s).run pins s0 I) fun v s1 ⟨v1, H1, I1, r1, x1, G1, d1', t1, h1⟩ => ?_)
  refine thn ((h1 G1 H1 σ t1.st.pop).run pins s1 I1) fun u s2 ⟨v2, H2, I2, r2, x2, G2, d2', t2, r, ho, d1, d2, e1, e2, od⟩ => ?_
  refine thn (ho a b pins s2 σ H2 v1 v2 v u _ I2 r1 r2 (rd_run (S := fun z => Q z d2') t2.st.pop (top_fz (t1.st.frame t2.pop) e1) (top_fz t2.st e2) od) (hs _ _)) fun w s3 z => EPO.back (t1.pop.trans t2.pop) z
theorem atI_len {α β : Type} {xs : List α} {ys : List β} {i : Int} {x : α} (h : atI xs i = some x) (l : ys.length = xs.length) : ∃ (j : Nat) (y : β), xs[j]? = some x ∧ ys[j]? = some y ∧ atI ys i = some y := by
  unfold atI at h ⊢
  rw [l]
  cases e : ixN xs.length i with
  | none => rw [e] at h; cases h
  | some j =>
    rw [e] at h
    have h : xs[j]? = some x := h
    have hj := (List.getElem?_eq_some_iff.mp h).1
    exact ⟨j, ys[j]'(by omega), h, by simp [l, hj], by simp [l, hj]⟩
theorem ix_L {ds : List D} {i : Int} {d : D} (h : atI ds i = some d) (q : S (.fz d)) : IxD X (.fz (.lst ds)) (.fz (.int i)) S :=
  ⟨_, ix_list, _, _, rfl, rfl, fun G H v1 v2 k s r1 r2 z => by
    unfold Rep at r1 r2
    obtain ⟨a1, w1, rfl, g1, rs1⟩ := r1
    obtain ⟨j, v, e1, e2, e3⟩ := atI_len h rs1.length
    obtain ⟨v', e4, r⟩ := rs1.get e1
    rw [e2] at e4
    cases e4
    exact ⟨a1, w1, i, v, rfl, r2, .of (s _ _ g1), e3, z d _ G H q (Same.refl _) (Same.refl _) s (fun _ h => .inl h) r⟩⟩
theorem ix_T {ds : List D} {i : Int} {d : D} (h : atI ds i = some d) (q : S (.fz d)) : IxD X (.fz (.tup ds)) (.fz (.int i)) S :=
  ⟨_, ix_tup, _, _, rfl, rfl, fun G H v1 v2 k s r1 r2 z => by
    unfold Rep at r1 r2
    obtain ⟨a1, w1, rfl, g1, rs1⟩ := r1
    obtain ⟨j, v, e1, e2, e3⟩ := atI_len h rs1.length
    obtain ⟨v', e4, r⟩ := rs1.get e1
    rw [e2] at e4
    cases e4
    exact ⟨a1, w1, i, v, rfl, r2, .of (s _ _ g1), e3, z d _ G H q (Same.refl _) (Same.refl _) s (fun _ h => .inl h) r⟩⟩
/-- a part of a slice -/
def Ep (X : Cx) (o : Option Expr) (δ : En) (R : Option Int → Prop) : Prop := ∃ i0 : Option Int, R i0 ∧ ∀ G H σ, Stt X.K G H σ δ → ∃ t : TO, PO X o t ∧ t σ H fun i H' => ∃ G', Step X.K G H δ G' H' σ δ ∧ i = i0
theorem ep_none {R : Option Int → Prop} (q : R none) : Ep X none δ R := ⟨none, q, fun G H σ s => ⟨_, po_none, G, s.step, rfl⟩⟩
theorem ep_some {R : Option Int → Prop} {i : Int} (h : Ev X e δ fun x δ' => x = .fz (.int i) ∧ δ' = δ) (q : R (some i)) : Ep X (some e) δ R := ⟨some i, q, fun G H σ s =>
  ⟨_, po_some wE_pe, (h G H σ s).imp fun v H1 ⟨x, G1, d1, s1, e1, e2⟩ => by
    subst e2
    have r := top_fz s1.st e1
    unfold Rep at r
    exact ⟨i, r, G1, s1.pop, rfl⟩⟩⟩
def SlD (X : Cx) (x : OD) (l u : Option Int) (S : OD → Prop) : Prop := ∃ r, SlR X r ∧ ∃ d1, x = .fz d1 ∧ ∀ G H v1 (k : VK), Same G H → Rep X.K G d1 v1 →
  (∀ d v G' H', S (.fz d) → Same G G' → Same H H' → Same G' H' → (∀ a, G' a ≠ none → G a ≠ none ∨ H a = none) → Rep X.K G' d v → k v H') → r v1 l u H k
/-- x[l:u] with its parts known to be ints -/
theorem ev_sl {lo hi : Option Expr} (h : Ev X e δ fun x δ1 => Ep X lo δ1 fun l => Ep X hi δ1 fun u => SlD X x l u fun z => Q z δ1) : Ev X (.Subscript e (.Slice lo hi none p2) pos) δ Q := fun G H σ s => by
  refine .mk fun pins s0 I => ?_
  refine Subscript_ (thn ((h G H σ s).run pins s0 I) fun v s1 ⟨v1, H1, I1, r1, x1, G1, δ1, t1, h1⟩ => ?_)
  obtain ⟨l0, h2, h1⟩ := h1
  obtain ⟨u0, ⟨r, ho, d1, e1, h3⟩, h2⟩ := h2
  obtain ⟨tl, pl, q1⟩ := h1 G1 H1 σ t1.st.pop
  refine wpAny_Slice (thn (pl.run pins s1 σ H1 _ I1 q1) fun vl s2 ⟨l, H2, I2, ql, G2, t2, el⟩ => ?_)
  obtain ⟨th, ph, q2⟩ := h2 G2 H2 σ t2.st
  refine thn (ph.run pins s2 σ H2 _ I2 q2) fun vu s3 ⟨u, H3, I3, qu, G3, t3, eu⟩ => ?_
  subst el eu
  rw [evalPart_none]
  refine wpAny_pure ?_
  have I4 : Inv X pins σ H3 { s3 with heap := s3.heap.push { cls := .type "slice", data := .fields #[vl, vu, .none] } } := I3.kept (t' := s3.toks) fun b ob q => Heap.get?_push_of_some _ q
  have rr := top_fz (t1.st.frame (t2.trans t3)) e1
  have run : r v1 l u H3 (Post X.K G H σ δ Q) := h3 G3 H3 v1 _ t3.st.ex rr fun d v G' H' hq g h e n rd => ⟨_, G', δ1, ((((t1.pop.trans t2).trans t3)).grow g h e n).pushF rd, hq⟩
  obtain ⟨T, id, hT, ht, hg⟩ := ho pins { s3 with heap := s3.heap.push { cls := .type "slice", data := .fields #[vl, vu, .none] } } σ H3 v1 v vl vu l u s3.heap.objs.size _ I4 r1 (Heap.IsSliceOf.new ..) ql qu run
  exact tail_any (s := { s3 with heap := s3.heap.push { cls := .type "slice", data := .fields #[vl, vu, .none] } }) (ops := [.ref s3.heap.objs.size, v]) ht hT hg (by with_unfolding_all rfl)
def cutD (ds : List D) (lo hi : Option Int) : List D := (ds.drop (HT.sIx ds.length 0 lo)).take (HT.sIx ds.length ds.length hi - HT.sIx ds.length 0 lo)
theorem Reps.take {K : PySem.W.Frag} {G : Hp} : ∀ {ds : List D} {vs : List V} (n : Nat), Reps K G ds vs → Reps K G (ds.take n) (vs.take n)
  | _, _, 0, _ => by simpa using Reps.nil
  | [], vs, n + 1, h => by
    unfold Reps at h
    subst h
    simpa using Reps.nil
  | d :: ds, vs, n + 1, h => by
    unfold Reps at h
    obtain ⟨v, r, rfl, h1, h2⟩ := h
    exact Reps.cons h1 (Reps.take n h2)
theorem Reps.drop {K : PySem.W.Frag} {G : Hp} : ∀ {ds : List D} {vs : List V} (n : Nat), Reps K G ds vs → Reps K G (ds.drop n) (vs.drop n)
  | _, _, 0, h => h
  | [], vs, n + 1, h => by
    unfold Reps at h
    subst h
    simpa using Reps.nil
  | d :: ds, vs, n + 1, h => by
    unfold Reps at h
    obtain ⟨v, r, rfl, h1, h2⟩ := h
    exact Reps.drop n h2
theorem sl_L {ds : List D} {l u : Option Int} (q : S (.fz (.lst (cutD ds l u)))) : SlD X (.fz (.lst ds)) l u S := ⟨_, sl_list, _, rfl, fun G H v1 k s r1 z => by
  unfold Rep at r1
  obtain ⟨a1, w1, rfl, g1, rs1⟩ := r1
  refine ⟨a1, w1, rfl, .of (s _ _ g1), fun p n => new_lst s (ds := cutD ds l u) ?_ q n z⟩
  unfold cutD cutV
  rw [rs1.length]
  exact (rs1.drop _).take _⟩
theorem reps_ints {K : PySem.W.Frag} {G : Hp} : ∀ ns : List Int, Reps K G (ns.map D.int) (ns.map V.int)
  | [] => Reps.nil
  | n :: ns => Reps.cons (by unfold Rep; rfl) (reps_ints ns)
theorem sl_R {ns : List Int} {l u : Option Int} (q : S (.fz (.lst (cutD (ns.map D.int) l u)))) : SlD X (.fz (.rol ns)) l u S := ⟨_, sl_list, _, rfl, fun G H v1 k s r1 z => by
  unfold Rep at r1
  obtain ⟨a1, rfl, g1⟩ := r1
  refine ⟨a1, _, rfl, s.seq g1, fun p n => new_lst s (ds := cutD (ns.map D.int) l u) ?_ q n z⟩
  unfold cutD cutV
  rw [List.length_map, List.length_map]
  exact ((reps_ints ns).drop _).take _⟩

/-! ### arguments, displays -/
theorem RepAs.mono {K : PySem.W.Frag} {G G' : Hp} {σ : L2.St} (g : Same G G') : ∀ {xs : List AR} {vs : List V}, RepAs K G σ xs vs → RepAs K G' σ xs vs
  | [], _, h => h
  | .d d :: xs, vs, h => by
    unfold RepAs at h ⊢
    obtain ⟨v, r, e, h1, h2⟩ := h
    exact ⟨v, r, e, Rep.mono g d v h1, RepAs.mono g h2⟩
  | .s i :: xs, vs, h => by
    unfold RepAs at h ⊢
    obtain ⟨v, r, e, h1, h2⟩ := h
    exact ⟨v, r, e, h1, RepAs.mono g h2⟩
theorem repAs_d {K : PySem.W.Frag} {G : Hp} {σ : L2.St} : ∀ {ds : List D} {vs : List V}, RepAs K G σ (ds.map .d) vs → Reps K G ds vs
  | [], vs, h => by unfold List.map RepAs at h; unfold Reps; exact h
  | d :: ds, vs, h => by
    rw [List.map_cons] at h
    unfold RepAs RepA at h
    unfold Reps
    obtain ⟨v, r, e, h1, h2⟩ := h
    exact ⟨v, r, e, h1, repAs_d h2⟩
theorem ea_nil {Q : List AR → En → Prop} (q : Q [] δ) : Ea X [] δ Q := fun G H σ s => wA_of pa_nil ⟨[], G, δ, s.step, by unfold RepAs; rfl, q⟩
theorem ea_cons {Q : List AR → En → Prop} (h : Ev X e δ fun x δ1 => ∃ d, x = .fz d ∧ Ea X es δ1 fun xs => Q (.d d :: xs)) (hs : starEach (e :: es) X.env = (false, eval e X.env) :: starEach es X.env := by rfl) : Ea X (e :: es) δ Q := fun G H σ s =>
  wA_of (pa_cons wE_pe wA_pa hs) ((h G H σ s).imp fun v H1 ⟨x, G1, d1, s1, d, e1, h2⟩ => by
    have r := top_fz s1.st e1
    refine (h2 G1 H1 σ s1.st.pop).imp fun vs H2 ⟨xs, G2, d2, s2, rs, q⟩ => ?_
    exact ⟨_, G2, d2, s1.pop.trans s2, by unfold RepAs; exact ⟨v, vs, rfl, Rep.mono s2.gr.g _ _ r, rs⟩, q⟩)
/-- an argument that is an object of a slot, handed on as it is -/
theorem ea_slot (i : Nat) {x : Str} {y : OD} {Q : List AR → En → Prop} (hN : X.N[i]? = some x) (hv : Vis X.env.scope x) (hδ : δ[i]? = some (some y)) (h : Ea X es δ fun xs => Q (.s i :: xs)) (hs : starEach (.Name x pos :: es) X.env = (false, eval (.Name x pos) X.env) :: starEach es X.env := by rfl)
    (hd : (x == ("__debug__" : Str)) = false := by decide) (hcd : (x == ("__classdict__" : Str)) = false := by decide) : Ea X (.Name x pos :: es) δ Q := fun G H σ s => by
  obtain ⟨v, e1, r⟩ := s.rep i _ hδ
  refine wA_of (pa_cons (pe_var hN hv hd hcd) wA_pa hs) ⟨v, e1, (h G H σ s).imp fun vs H2 ⟨xs, G2, d2, s2, rs, q⟩ => ?_⟩
  exact ⟨_, G2, d2, s2, by unfold RepAs; exact ⟨v, vs, rfl, e1, rs⟩, q⟩
theorem ev_lst (h : Ea X es δ fun xs δ1 => ∃ ds : List D, xs = ds.map .d ∧ ds.length ≤ 100000 ∧ Q (.fz (.lst ds)) δ1) : Ev X (.List es pos) δ Q := fun G H σ s =>
  wE_of (pe_lst wA_pa) ((h G H σ s).imp fun vs H1 ⟨xs, G1, d1, s1, rs, ds, e1, hl, q⟩ => by
    subst e1
    have rr := repAs_d rs
    refine ⟨by rw [rr.length, sizeLine_eq]; omega, fun p n => ?_⟩
    exact new_lst (W := fun d => Q (.fz d) d1) (k := Post X.K G H σ δ Q) s1.st.ex rr q n fun d v G' H' hq g h e n rd => ⟨_, G', d1, (s1.grow g h e n).pushF rd, hq⟩)
theorem ev_tup {kk : Nat} (h : Ea X es δ fun xs δ1 => ∃ ds : List D, xs = ds.map .d ∧ ds.length ≤ 100000 ∧ Q (.fz (.tup ds)) δ1) : Ev X (.Tuple es kk pos) δ Q := fun G H σ s =>
  wE_of (pe_tup wA_pa) ((h G H σ s).imp fun vs H1 ⟨xs, G1, d1, s1, rs, ds, e1, hl, q⟩ => by
    subst e1
    have rr := repAs_d rs
    refine ⟨by rw [rr.length, sizeLine_eq]; omega, fun p n => ?_⟩
    exact new_tup (W := fun d => Q (.fz d) d1) (k := Post X.K G H σ δ Q) s1.st.ex rr q n fun d v G' H' hq g h e n rd => ⟨_, G', d1, (s1.grow g h e n).pushF rd, hq⟩)
theorem repOs_fz {K : PySem.W.Frag} {G H : Hp} : ∀ {ds : List D} {vs : List V}, RepOs K G H (ds.map .fz) vs → Reps K G ds vs
  | [], vs, h => by unfold RepOs at h; unfold Reps; exact h
  | d :: ds, vs, h => by
    rw [List.map_cons] at h
    unfold RepOs RepO at h
    unfold Reps
    obtain ⟨v, r, e, h1, h2⟩ := h
    exact ⟨v, r, e, h1, repOs_fz h2⟩
theorem foots_fz : ∀ ds : List D, foots (ds.map OD.fz) = []
  | [] => by unfold List.map foots; rfl
  | d :: ds => by
    rw [List.map_cons]
    unfold foots foot
    rw [foots_fz ds]
    rfl
theorem repOs_of {K : PySem.W.Frag} {G H : Hp} : ∀ {ds : List D} {vs : List V}, Reps K G ds vs → RepOs K G H (ds.map .fz) vs
  | [], vs, h => by unfold Reps at h; unfold List.map RepOs; exact h
  | d :: ds, vs, h => by
    rw [List.map_cons]
    unfold Reps at h
    unfold RepOs RepO
    obtain ⟨v, r, e, h1, h2⟩ := h
    exact ⟨v, r, e, h1, repOs_of h2⟩
theorem g_none {G H : Hp} {q : Addr} (s : Same G H) (n : H q = none) : G q = none := by
  cases z : G q with
  | none => rfl
  | some o => rw [s _ _ z] at n; cases n
/-- a new list of frozen things as an object of one's own -/
theorem Step.newOwn {K : PySem.W.Frag} {G H G1 H1 : Hp} {σ : L2.St} {δ1 : En} {ds : List D} {vs : List V} {q : Addr} (s : Step K G H δ G1 H1 σ δ1) (r : Reps K G1 ds vs) (n : H1 q = none) :
    Step K G H δ G1 (upd H1 q (.lst vs)) (some (.ref q) :: σ) (some (.own q (ds.map .fz)) :: δ1) := by
  have gp : G1 q = none := g_none s.st.ex n
  have np : q ∉ feet δ1 := fun z => (s.st.off q z).2 n
  have s2 : Stt K G1 (upd H1 q (.lst vs)) σ δ1 := s.st.keep (Same.refl _) (s.st.ex.trans (new_h n)) (fun a ha o ho => new_h n a o ho) fun a ha => (s.st.off a ha).1
  refine s.trans ⟨s2.push ?_ ?_ fun a ha => ?_, grow_same (Same.refl _) (new_h n) (fun _ h => .inl h), fun a ha => ?_⟩
  · unfold RepO
    exact ⟨rfl, vs, upd_same, repOs_of r⟩
  · unfold foot
    rw [foots_fz]
    simp
  · unfold foot at ha
    rw [foots_fz] at ha
    simp at ha
    subst ha
    exact ⟨gp, by rw [upd_same]; simp, np⟩
  · unfold feet foot at ha
    rw [foots_fz] at ha
    simp at ha
    rcases ha with h | h
    · subst h; exact .inr n
    · exact .inl h
/-- .. as an object of one's own -/
theorem ev_lstO (h : Ea X es δ fun xs δ1 => ∃ ds : List D, xs = ds.map .d ∧ ds.length ≤ 100000 ∧ ∀ a, Q (.own a (ds.map .fz)) δ1) : Ev X (.List es pos) δ Q := fun G H σ s =>
  wE_of (pe_lst wA_pa) ((h G H σ s).imp fun vs H1 ⟨xs, G1, d1, s1, rs, ds, e1, hl, q⟩ => by
    subst e1
    have rr := repAs_d rs
    exact ⟨by rw [rr.length, sizeLine_eq]; omega, fun p n => ⟨_, G1, d1, s1.newOwn rr n, q p⟩⟩)
/-! ### an own object is frozen -/
def frost (G H : Hp) (F : List Addr) : Hp := fun a => if a ∈ F then H a else G a
mutual
theorem RepO.frost {K : PySem.W.Frag} {G G' H : Hp} (s : Same G G') : ∀ (x : OD) (v : V), (∀ a ∈ foot x, G' a = H a) → RepO K G H x v → Rep K G' (dat x) v
  | .fz d, v, _, r => by
    unfold RepO at r
    unfold Vl.dat
    exact Rep.mono s d v r
  | .own a xs, v, h, r => by
    unfold RepO at r
    unfold Vl.dat Rep
    obtain ⟨e1, vs, h1, h2⟩ := r
    refine ⟨a, vs, e1, (h a ?_).trans h1, RepOs.frost s xs vs (fun b hb => h b ?_) h2⟩
    · unfold foot; exact List.mem_cons_self
    · unfold foot; exact List.mem_cons_of_mem _ hb
  | .vol a φ, v, _, r => by
    unfold RepO at r
    unfold Vl.dat Rep
    exact r.1
  | .otp a xs, v, h, r => by
    unfold RepO at r
    unfold Vl.dat Rep
    obtain ⟨e1, vs, h1, h2⟩ := r
    refine ⟨a, vs, e1, (h a ?_).trans h1, RepOs.frost s xs vs (fun b hb => h b ?_) h2⟩
    · unfold foot; exact List.mem_cons_self
    · unfold foot; exact List.mem_cons_of_mem _ hb
  | .ins a dx C ns xs, v, _, r => by
    unfold RepO at r
    unfold Vl.dat Rep
    exact r.1
theorem RepOs.frost {K : PySem.W.Frag} {G G' H : Hp} (s : Same G G') : ∀ (xs : List OD) (vs : List V), (∀ a ∈ foots xs, G' a = H a) → RepOs K G H xs vs → Reps K G' (dats xs) vs
  | [], vs, _, r => by
    unfold RepOs at r
    unfold dats Reps
    exact r
  | x :: xs, vs, h, r => by
    unfold RepOs at r
    unfold dats Reps
    obtain ⟨v, w, e, r1, r2⟩ := r
    refine ⟨v, w, e, RepO.frost s x v (fun a ha => h a ?_) r1, RepOs.frost s xs w (fun a ha => h a ?_) r2⟩
    · unfold foots; exact List.mem_append_left _ ha
    · unfold foots; exact List.mem_append_right _ ha
end
theorem Stt.frost {K : PySem.W.Frag} {G H : Hp} {σ : L2.St} {v : V} {x : OD} (s : Stt K G H (some v :: σ) (some x :: δ)) : Stt K (frost G H (foot x)) H (some v :: σ) (some (.fz (dat x)) :: δ) ∧ Same G (Vl.frost G H (foot x)) := by
  have nd := s.nd
  unfold feet at nd
  obtain ⟨n1, n2, n3⟩ := List.nodup_append.mp nd
  have inx : ∀ a ∈ foot x, a ∈ feet (some x :: δ) := fun a ha => by unfold feet; exact List.mem_append_left _ ha
  have g : Same G (Vl.frost G H (foot x)) := fun a o e => by
    unfold Vl.frost
    by_cases z : a ∈ foot x
    · rw [(s.off a (inx a z)).1] at e; cases e
    · rw [if_neg z]; exact e
  refine ⟨(s.pop.keep g (fun a o e => ?_) (fun _ _ _ h => h) fun a ha => ?_).pushF (RepO.frost g x v (fun a ha => if_pos ha) s.top), g⟩
  · unfold Vl.frost at e
    by_cases z : a ∈ foot x
    · rw [if_pos z] at e; exact e
    · rw [if_neg z] at e; exact s.ex a o e
  · show (if a ∈ foot x then H a else G a) = none
    rw [if_neg fun z => n3 a z a ha rfl]
    exact (s.pop.off a ha).1
theorem Step.frost {K : PySem.W.Frag} {G H G1 H1 : Hp} {σ : L2.St} {v : V} {x : OD} {δ' : En} (s : Step K G H δ G1 H1 (some v :: σ) (some x :: δ')) : ∃ G2, Step K G H δ G2 H1 (some v :: σ) (some (.fz (dat x)) :: δ') := by
  obtain ⟨t, g⟩ := s.st.frost
  refine ⟨_, t, ⟨s.gr.g.trans g, s.gr.h, fun a ha => ?_, s.gr.there⟩, fun a ha => s.ft a ?_⟩
  · unfold Vl.frost at ha
    by_cases z : a ∈ foot x
    · rcases s.ft a (by unfold feet; exact List.mem_append_left _ z) with w | w
      · exact .inr (.inr w)
      · exact .inr (.inl w)
    · rw [if_neg z] at ha
      exact s.gr.new a ha
  · unfold feet at ha ⊢
    unfold foot at ha
    exact List.mem_append_right _ (by simpa using ha)
theorem ev_frz (h : Ev X e δ fun x δ1 => Q (.fz (dat x)) δ1) : Ev X e δ Q := fun G H σ s => (h G H σ s).imp fun v H1 ⟨x, G1, d1, s1, q⟩ => by
  obtain ⟨G2, s2⟩ := s1.frost
  exact ⟨_, G2, d1, s2, q⟩
theorem dats_fz : ∀ ds : List D, dats (ds.map OD.fz) = ds
  | [] => by unfold List.map dats; rfl
  | d :: ds => by
    rw [List.map_cons]
    unfold dats dat
    rw [dats_fz ds]

/-! ### calls of built-ins -/
def CD (X : Cx) (f : Value) (ds : List D) (S : OD → Prop) : Prop := ∃ r, CallR X f r ∧ ∀ G H vs (k : VK), Same G H → Reps X.K G ds vs →
  (∀ d v G' H', S (.fz d) → Same G G' → Same H H' → Same G' H' → (∀ a, G' a ≠ none → G a ≠ none ∨ H a = none) → Rep X.K G' d v → k v H') → r vs H k
variable {x : Str}
theorem ev_callB {id : String} (hg : Gl X x) (hm : X.mg x = none) (hv : bootBuiltins x = some (.builtin id)) (h : Ea X (e :: es) δ fun xs δ1 => ∃ ds : List D, xs = ds.map .d ∧ CD X (.builtin id) ds fun z => Q z δ1) (hn : x ≠ "__name__" := by decide) (hdb : (x == ("__debug__" : Str)) = false := by decide)
    (he : starEach (e :: es) X.env = (false, eval e X.env) :: starEach es X.env := by rfl) (hpl : (backTo pos (starEach es X.env)).any (·.1) = false := by rfl) : Ev X (.Call (.Name x p) (e :: es) [] pos) δ Q := fun G H σ s => by
  refine .mk fun pins s0 I => ?_
  refine wpAny_Call_Name_kw (ld_blt I hg hm hv ?_ hn hdb)
  refine PyProof.Rows.callWith_builtin1 (thn ((h G H σ s).run pos pins s0 I) fun us s1 ⟨vs, H1, I1, r1, xs, G1, d1, t1, rs, ds, e1, r, hc, od⟩ => ?_) he hpl
  subst e1
  exact hc pins s1 σ H1 vs us _ I1 r1 (od G1 H1 vs _ t1.st.ex (repAs_d rs) fun d v G' H' hq g h e n rd => ⟨_, G', d1, (t1.grow g h e n).pushF rd, hq⟩)
theorem ev_callT {T : String} (hg : Gl X x) (hm : X.mg x = none) (hv : bootBuiltins x = some (.type T)) (h : Ea X (e :: es) δ fun xs δ1 => ∃ ds : List D, xs = ds.map .d ∧ CD X (.type T) ds fun z => Q z δ1) (hn : x ≠ "__name__" := by decide) (hdb : (x == ("__debug__" : Str)) = false := by decide)
    (he : starEach (e :: es) X.env = (false, eval e X.env) :: starEach es X.env := by rfl) (hpl : (backTo pos (starEach es X.env)).any (·.1) = false := by rfl) : Ev X (.Call (.Name x p) (e :: es) [] pos) δ Q := fun G H σ s => by
  refine .mk fun pins s0 I => ?_
  refine wpAny_Call_Name_kw (ld_blt I hg hm hv ?_ hn hdb)
  refine PyProof.Rows.callWith_type1 (thn ((h G H σ s).run pos pins s0 I) fun us s1 ⟨vs, H1, I1, r1, xs, G1, d1, t1, rs, ds, e1, r, hc, od⟩ => ?_) he hpl
  subst e1
  exact hc pins s1 σ H1 vs us _ I1 r1 (od G1 H1 vs _ t1.st.ex (repAs_d rs) fun d v G' H' hq g h e n rd => ⟨_, G', d1, (t1.grow g h e n).pushF rd, hq⟩)
theorem cd_len {ds : List D} (q : S (.fz (.int ds.length))) : CD X (.builtin "len") [.lst ds] S := ⟨_, call_len_seq, fun G H vs k s rs z => by
  unfold Reps Rep at rs
  obtain ⟨v, r, rfl, ⟨a, ws, rfl, g, rs⟩, rn⟩ := rs
  unfold Reps at rn
  subst rn
  refine ⟨a, ws, rfl, .inl (.of (s _ _ g)), z (.int ds.length) _ G H q (Same.refl _) (Same.refl _) s (fun _ h => .inl h) ?_⟩
  unfold Rep
  rw [rs.length]⟩
theorem cd_int {i : Int} (q : S (.fz (.int i))) : CD X (.type "int") [.int i] S := ⟨_, call_int1, fun G H vs k s rs z => by
  unfold Reps Rep at rs
  obtain ⟨v, r, rfl, rfl, rn⟩ := rs
  unfold Reps at rn
  subst rn
  exact .inl ⟨i, rfl, z (.int i) _ G H q (Same.refl _) (Same.refl _) s (fun _ h => .inl h) (by unfold Rep; rfl)⟩⟩
/-- the name of a thing's type -/
def tyD : D → String
  | .non => "NoneType"
  | .bl _ => "bool"
  | .int _ => "int"
  | .str _ => "str"
  | .lst _ => "list"
  | .tup _ => "tuple"
  | .op _ => ""
  | .rol _ => ""
theorem tyOf_D {K : PySem.W.Frag} {G H : Hp} (s : Same G H) : ∀ {d : D} {v : V}, Rep K G d v → tyD d ≠ "" → TyX K H v (.type (tyD d))
  | .non, v, r, _ => by unfold Rep at r; subst r; exact .base .non
  | .bl _, v, r, _ => by unfold Rep at r; subst r; exact .base (.bl _)
  | .int _, v, r, _ => by unfold Rep at r; subst r; exact .base (.int _)
  | .str _, v, r, _ => by unfold Rep at r; subst r; exact .base (.str _)
  | .lst _, v, r, _ => by
    unfold Rep at r
    obtain ⟨a, vs, rfl, g, _⟩ := r
    exact .base (.lst (s _ _ g))
  | .tup _, v, r, _ => by
    unfold Rep at r
    obtain ⟨a, vs, rfl, g, _⟩ := r
    exact .base (.tup (s _ _ g))
  | .op _, _, _, h => absurd rfl h
  | .rol _, _, _, h => absurd rfl h
theorem cd_isi {d : D} {t : String} {r : Bool} (ht : tyD d ≠ "") (hk : kitB (tyD d) t = some r) (q : S (.fz (.bl r))) : CD X (.builtin "isinstance") [d, .op (.ty t)] S := ⟨_, call_isi, fun G H vs k s rs z => by
  unfold Reps at rs
  obtain ⟨v, r1, rfl, rv, rn⟩ := rs
  unfold Reps Rep at rn
  obtain ⟨v2, r2, rfl, rfl, rn⟩ := rn
  unfold Reps at rn
  subst rn
  exact ⟨v, .ty t, _, _, r, rfl, .ty t, tyOf_D s rv ht, kit_ty hk, z (.bl r) _ G H q (Same.refl _) (Same.refl _) s (fun _ h => .inl h) (by unfold Rep; rfl)⟩⟩
theorem cd_list {ds : List D} (q : S (.fz (.lst ds))) : CD X (.type "list") [.lst ds] S := ⟨_, call_list_of, fun G H vs k s rs z => by
  unfold Reps Rep at rs
  obtain ⟨v, r, rfl, ⟨a, ws, rfl, g, rs⟩, rn⟩ := rs
  unfold Reps at rn
  subst rn
  exact ⟨a, ws, rfl, .inl (.of (s _ _ g)), fun l n => new_lst (W := fun d => S (.fz d)) s rs q n z⟩⟩
theorem reps_bls {K : PySem.W.Frag} {G : Hp} : ∀ {bs : List Bool} {vs : List V}, Reps K G (bs.map D.bl) vs → vs = bs.map V.bl
  | [], _, h => by unfold Reps at h; exact h
  | b :: bs, vs, h => by
    rw [List.map_cons] at h
    unfold Reps Rep at h
    obtain ⟨v, r, rfl, rfl, h2⟩ := h
    rw [reps_bls h2, List.map_cons]
theorem reps_intsV {K : PySem.W.Frag} {G : Hp} : ∀ {bs : List Int} {vs : List V}, Reps K G (bs.map D.int) vs → vs = bs.map V.int
  | [], _, h => by unfold Reps at h; exact h
  | b :: bs, vs, h => by
    rw [List.map_cons] at h
    unfold Reps Rep at h
    obtain ⟨v, r, rfl, rfl, h2⟩ := h
    rw [reps_intsV h2, List.map_cons]
theorem one_lst {K : PySem.W.Frag} {G : Hp} {ds : List D} {vs : List V} (rs : Reps K G [.lst ds] vs) : ∃ a ws, vs = [.ref a] ∧ G a = some (.lst ws) ∧ Reps K G ds ws := by
  unfold Reps Rep at rs
  obtain ⟨v, r, rfl, ⟨a, ws, rfl, g, rs⟩, rn⟩ := rs
  unfold Reps at rn
  subst rn
  exact ⟨a, ws, rfl, g, rs⟩
theorem cd_all (hc : X.calm = true) {bs : List Bool} (q : S (.fz (.bl (bs.all id)))) : CD X (.builtin "all") [.lst (bs.map .bl)] S := ⟨_, cr_all hc, fun G H vs k s rs z => by
  obtain ⟨a, ws, rfl, g, rs⟩ := one_lst rs
  cases reps_bls rs
  exact ⟨a, bs, rfl, .of (s _ _ g), z (.bl _) _ G H q (Same.refl _) (Same.refl _) s (fun _ h => .inl h) (by unfold Rep; rfl)⟩⟩
theorem cd_any (hc : X.calm = true) {bs : List Bool} (q : S (.fz (.bl (bs.any id)))) : CD X (.builtin "any") [.lst (bs.map .bl)] S := ⟨_, cr_any hc, fun G H vs k s rs z => by
  obtain ⟨a, ws, rfl, g, rs⟩ := one_lst rs
  cases reps_bls rs
  exact ⟨a, bs, rfl, .of (s _ _ g), z (.bl _) _ G H q (Same.refl _) (Same.refl _) s (fun _ h => .inl h) (by unfold Rep; rfl)⟩⟩
theorem cd_sum (hc : X.calm = true) {ns : List Int} (q : S (.fz (.int ns.sum))) : CD X (.builtin "sum") [.lst (ns.map .int)] S := ⟨_, cr_sum hc, fun G H vs k s rs z => by
  obtain ⟨a, ws, rfl, g, rs⟩ := one_lst rs
  cases reps_intsV rs
  exact ⟨a, ns, rfl, .of (s _ _ g), z (.int _) _ G H q (Same.refl _) (Same.refl _) s (fun _ h => .inl h) (by unfold Rep; rfl)⟩⟩
theorem cd_maxL (hc : X.calm = true) {ns : List Int} (hl : 0 < ns.length) (q : ∀ m, m ∈ ns → (∀ y, y ∈ ns → y ≤ m) → S (.fz (.int m))) : CD X (.builtin "max") [.lst (ns.map .int)] S := ⟨_, cr_max hc, fun G H vs k s rs z => by
  obtain ⟨a, ws, rfl, g, rs⟩ := one_lst rs
  cases reps_intsV rs
  exact ⟨a, ns, rfl, .of (s _ _ g), hl, fun m h1 h2 => z (.int m) _ G H (q m h1 h2) (Same.refl _) (Same.refl _) s (fun _ h => .inl h) (by unfold Rep; rfl)⟩⟩
theorem two_int {K : PySem.W.Frag} {G : Hp} {i j : Int} {vs : List V} (rs : Reps K G [.int i, .int j] vs) : vs = [.int i, .int j] := by
  unfold Reps Rep at rs
  obtain ⟨v, r, rfl, rfl, rn⟩ := rs
  unfold Reps Rep at rn
  obtain ⟨v2, r2, rfl, rfl, rn⟩ := rn
  unfold Reps at rn
  subst rn
  rfl
theorem cd_max2 (hc : X.calm = true) {i j : Int} (q : S (.fz (.int (if j > i then j else i)))) : CD X (.builtin "max") [.int i, .int j] S := ⟨_, call_max2 hc, fun G H vs k s rs z => by
  cases two_int rs
  exact ⟨i, j, rfl, z (.int _) _ G H q (Same.refl _) (Same.refl _) s (fun _ h => .inl h) (by unfold Rep; rfl)⟩⟩
theorem cd_min2 (hc : X.calm = true) {i j : Int} (q : S (.fz (.int (if j < i then j else i)))) : CD X (.builtin "min") [.int i, .int j] S := ⟨_, call_min2 hc, fun G H vs k s rs z => by
  cases two_int rs
  exact ⟨i, j, rfl, z (.int _) _ G H q (Same.refl _) (Same.refl _) s (fun _ h => .inl h) (by unfold Rep; rfl)⟩⟩
end
end Vl

namespace Vl
open PySem PySem.Spec PyProof.Rows L2
/-- a list of frozen things as an object of one's own -/
abbrev ol (a : Addr) (ds : List D) : OD := .own a (ds.map .fz)
section
variable {X : Cx} {e a b c tg : Expr} {es ts : List Expr} {st : Stmt} {sts bd orelse : List Stmt} {δ : En} {Q Q' : OD → En → Prop} {R R' : Bool → En → Prop} {P P' : DE} {pos p p2 p3 : Pos} {x y : Str}
/-! ### blocks -/
theorem eb_nil (q : P.nx δ) : Eb X [] δ P := fun G H σ s => wB_of pss_nil ⟨G, δ, s.step, q⟩
theorem eb_cons (h : Es X st δ { P with nx := fun δ' => Eb X sts δ' P }) : Eb X (st :: sts) δ P := fun G H σ s =>
  wB_of (pss_cons wS_ps wB_ps) ((h G H σ s).imp ⟨fun σ' H' ⟨G', δ', s', q⟩ => (q G' H' σ' s'.st).imp (DE.le s' (fun _ z => z) (fun _ _ z => z) (fun _ z => z) fun _ z => z), fun _ _ z => z, fun _ _ z => z, fun _ _ z => z⟩)
theorem eb_one (h : Es X st δ P) : Eb X [st] δ P := fun G H σ s => wB_of (pss_one wS_ps) (h G H σ s)
theorem es_pass (q : P.nx δ) : Es X (.Pass pos) δ P := fun G H σ s => wS_of ps_pass ⟨G, δ, s.step, q⟩
theorem es_break (q : P.bk δ) : Es X (.Break pos) δ P := fun G H σ s => wS_of ps_break ⟨G, δ, s.step, q⟩
theorem es_cont (q : P.ct δ) : Es X (.Continue pos) δ P := fun G H σ s => wS_of ps_continue ⟨G, δ, s.step, q⟩
theorem es_expr (h : Ev X e δ fun _ δ1 => P.nx δ1) (hs : swapsWith e none pos.line X.env = pure false := by rfl) : Es X (.Expr e pos) δ P := fun G H σ s =>
  wS_of (ps_expr wE_pe hs) ((h G H σ s).imp fun v H1 ⟨x, G1, d1, s1, q⟩ => ⟨G1, d1, s1.pop, q⟩)
theorem es_ret (h : Ev X e δ fun x δ1 => P.rt x δ1) : Es X (.Return (some e) pos) δ P := fun G H σ s =>
  wS_of (ps_ret wE_pe) ((h G H σ s).imp fun v H1 ⟨x, G1, d1, s1, q⟩ => ⟨x, G1, σ, d1, s1, q⟩)
theorem es_retN (h : P.rt (.fz .non) δ) : Es X (.Return none pos) δ P := fun G H σ s =>
  wS_of ps_retN ⟨_, G, σ, δ, s.stepF (by unfold Rep; rfl), h⟩
theorem es_if (h : Et X c δ fun k δ1 => (k = true → Eb X sts δ1 P) ∧ (k = false → Eb X bd δ1 P)) : Es X (.If c sts bd pos) δ P := fun G H σ s =>
  wS_of (ps_if wT_pt wB_ps wB_ps) ((h G H σ s).imp fun k H1 ⟨G1, d1, s1, h1, h2⟩ => by
    cases k with
    | true => exact (h1 rfl G1 H1 σ s1.st).imp (DE.le s1 (fun _ z => z) (fun _ _ z => z) (fun _ z => z) fun _ z => z)
    | false => exact (h2 rfl G1 H1 σ s1.st).imp (DE.le s1 (fun _ z => z) (fun _ _ z => z) (fun _ z => z) fun _ z => z))
/-! ### targets -/
theorem eg_name (i : Nat) {z : OD} {T : En → Prop} (hN : X.N.Nodup) (hi : X.N[i]? = some x) (hx : Loc X.env.scope x) (hl : i < δ.length) (q : T (δ.set i (some z))) (hf : X.fn x = true ∨ X.env.scope.names.lookup x = some .local := by first | exact .inl rfl | exact .inr rfl | assumption) :
    Eg X (.Name x pos) z δ T := fun G H σ v s => wG_of (pg_name hN hi hx hf) ⟨G, _, ⟨s.set hl, Grow.refl, fun a ha => .inl (by
      unfold feet
      rcases feet_set_mem a ha with h | h
      · exact List.mem_append_left _ h
      · exact List.mem_append_right _ h)⟩, q⟩
/-- several targets take frozen data -/
def Egs (X : Cx) (ts : List Expr) (ds : List D) (δ : En) (T : En → Prop) : Prop :=
  ∀ G H σ vs, Stt X.K G H σ δ → Reps X.K G ds vs → wGs X ts vs σ H fun σ' H' => ∃ G' δ', Step X.K G H δ G' H' σ' δ' ∧ T δ'
theorem feet_fz {d : D} {δ : En} : feet (some (.fz d) :: δ) = feet δ := by
  rw [show feet (some (.fz d) :: δ) = foot (.fz d) ++ feet δ from by rw [feet], show foot (.fz d) = [] from by rw [foot]]
  rfl
theorem Step.unfz {K : PySem.W.Frag} {G H G' H' : Hp} {σ' : L2.St} {δ' : En} {d : D} (s : Step K G H (some (.fz d) :: δ) G' H' σ' δ') : Step K G H δ G' H' σ' δ' := ⟨s.st, by have := s.gr; rw [feet_fz] at this; exact this, by have := s.ft; rw [feet_fz] at this; exact this⟩
theorem Step.tofz {K : PySem.W.Frag} {G H G' H' : Hp} {σ' : L2.St} {δ' : En} {d : D} (s : Step K G H δ G' H' σ' δ') : Step K G H (some (.fz d) :: δ) G' H' σ' δ' := ⟨s.st, by have := s.gr; rw [feet_fz]; exact this, by have := s.ft; rw [feet_fz]; exact this⟩
theorem egs_nil {T : En → Prop} (q : T δ) : Egs X [] [] δ T := fun G H σ vs s r => wGs_of pgs_nil ⟨by unfold Reps at r; exact r, G, δ, s.step, q⟩
theorem egs_cons {d : D} {ds : List D} {T : En → Prop} (h : Eg X tg (.fz d) δ fun δ' => Egs X ts ds δ' T) (hs : (assignEach (tg :: ts) X.env).map (·.2) = assign tg X.env :: (assignEach ts X.env).map (·.2) := by rfl) : Egs X (tg :: ts) (d :: ds) δ T := fun G H σ vs s r => by
  unfold Reps at r
  obtain ⟨v, w, e1, r1, r2⟩ := r
  refine wGs_of (pgs_cons wG_pg wGs_pg hs) ⟨v, w, e1, (h G H σ v (s.pushF r1)).imp fun σ1 H1 ⟨G1, δ1, s1, h1⟩ => ?_⟩
  exact (h1 G1 H1 σ1 w s1.st (Reps.mono s1.gr.g _ _ r2)).imp fun σ2 H2 ⟨G2, δ2, s2, q⟩ => ⟨G2, δ2, s1.unfz.trans s2, q⟩
theorem eg_tup {ds : List D} {kk : Nat} {T : En → Prop} (hc : X.calm = true) (h : Egs X ts ds δ T) (hl : ds.length = ts.length) (hn : (assignEach ts X.env).length = ts.length := by rfl) (hst : (assignEach ts X.env).findIdx? (·.1) = none := by rfl) : Eg X (.Tuple ts kk pos) (.fz (.tup ds)) δ T := fun G H σ v s => by
  have r := top_fz s rfl
  unfold Rep at r
  obtain ⟨a, vs, e1, g, rs⟩ := r
  exact wG_of (pg_tup (n := ts.length) hc wGs_pg hn hst) ⟨a, vs, e1, .of (s.ex _ _ g), rs.length.trans hl, (h G H σ vs s.pop rs).imp fun σ' H' ⟨G', δ', s', q⟩ => ⟨G', δ', s'.tofz, q⟩⟩
/-! ### assignments -/
theorem es_set (i : Nat) (hN : X.N.Nodup) (hi : X.N[i]? = some x) (hx : Loc X.env.scope x) (h : Ev X e δ fun z δ1 => i < δ1.length ∧ P.nx (δ1.set i (some z))) (hs : swapsWith e (some (.Name x p)) pos.line X.env = pure false := by rfl)
    (hf : X.fn x = true ∨ X.env.scope.names.lookup x = some .local := by first | exact .inl rfl | exact .inr rfl | assumption) : Es X (.Assign [.Name x p] e pos) δ P := fun G H σ s =>
  wS_of (ps_set hN hi hx wE_pe hs hf) ((h G H σ s).imp fun v H1 ⟨z, G1, d1, s1, hl, q⟩ => ⟨G1, _, s1.set hl, q⟩)
theorem es_asg (h : Ev X e δ fun z δ1 => Eg X tg z δ1 P.nx) (hs : swapsWithSole [tg] e pos.line X.env = pure false := by rfl) (hw : swappedStores [tg] e X.env = pure none := by rfl) (h1 : (assignEach [tg] X.env).map (·.2) = [assign tg X.env] := by rfl) : Es X (.Assign [tg] e pos) δ P := fun G H σ s =>
  wS_of (ps_asg wE_pe wG_pg hs hw h1) ((h G H σ s).imp fun v H1 ⟨z, G1, d1, s1, q⟩ => (q G1 H1 σ v s1.st).imp fun σ2 H2 ⟨G2, δ2, s2, q2⟩ => ⟨G2, δ2, s1.trans s2, q2⟩)
theorem es_par (i j : Nat) {px py pt : Pos} {kt k2 pt2} (hc : X.calm = true) (hN : X.N.Nodup) (hi : X.N[i]? = some x) (hj : X.N[j]? = some y) (hij : i ≠ j) (hx : X.env.scope.names.lookup x = some .local) (hy : X.env.scope.names.lookup y = some .local)
    (h : Ev X a δ fun u δ1 => Ev X b δ1 fun w δ2 => i < δ2.length ∧ j < δ2.length ∧ P.nx ((δ2.set i (some u)).set j (some w)))
    (hw : swappedStores [.Tuple [.Name x px, .Name y py] kt pt] (.Tuple [a, b] k2 pt2) X.env = pure (some [x, y]) := by rfl)
    (hs : swapsWithSole [.Tuple [.Name x px, .Name y py] kt pt] (.Tuple [a, b] k2 pt2) pos.line X.env = pure false := by rfl)
    (h1 : starEach [a, b] X.env = (false, eval a X.env) :: starEach [b] X.env := by rfl) (h2 : starEach [b] X.env = (false, eval b X.env) :: starEach [] X.env := by rfl) :
    Es X (.Assign [.Tuple [.Name x px, .Name y py] kt pt] (.Tuple [a, b] k2 pt2) pos) δ P := fun G H σ s =>
  wS_of (ps_par hc hN hi hj hij hx hy (pa_cons wE_pe (pa_cons wE_pe pa_nil h2) h1) hw hs) ((h G H σ s).imp fun v H1 ⟨u, G1, d1, s1, q⟩ => (q G1 H1 σ s1.st.pop).imp fun w H2 ⟨z, G2, d2, s2, hl, hm, q2⟩ => by
    refine ⟨v, w, rfl, G2, _, ?_, q2⟩
    -- both wait at the top: the first under the second
    have t1 : Stt X.K G2 H2 (some v :: some w :: σ) (some u :: some z :: d2) := s1.st.frame s2
    have f1 : ∀ a ∈ feet (some u :: some z :: d2), a ∈ feet δ ∨ H a = none := fun a ha => by
      unfold feet at ha
      rcases List.mem_append.mp ha with h | h
      · exact s1.ft a (by unfold feet; exact List.mem_append_left _ h)
      · rcases s2.ft a h with h | h
        · exact s1.pop.ft a h
        · refine .inr ?_
          cases e : H a with
          | none => rfl
          | some o => exact absurd h (s1.gr.there a (by rw [e]; simp))
    have big : Step X.K G H δ G2 H2 (some v :: some w :: σ) (some u :: some z :: d2) := ⟨t1, s1.gr.trans s2.gr s1.pop.ft, f1⟩
    have big2 := (big.set (i := i + 1) (by simp; omega))
    simp only [List.set_cons_succ] at big2
    have big3 := (big2.set (i := j) (by simpa using hm))
    exact big3)
/-! ### own lists -/
theorem own_run {K : PySem.W.Frag} {G H : Hp} {σ : L2.St} {i : Nat} {l : Addr} {ds : List D} (s : Stt K G H σ δ) (hδ : δ[i]? = some (some (ol l ds))) : σ[i]? = some (some (.ref l)) ∧ ∃ vs, H l = some (.lst vs) ∧ Reps K G ds vs := by
  obtain ⟨v, e1, r⟩ := s.rep i _ hδ
  unfold ol RepO at r
  obtain ⟨e2, vs, h1, h2⟩ := r
  exact ⟨by rw [e1, e2], vs, h1, repOs_fz h2⟩
/-- an own list's new content -/
theorem Step.own {K : PySem.W.Frag} {G H : Hp} {σ : L2.St} {i : Nat} {l : Addr} {ds es : List D} {vs : List V} (s : Stt K G H σ δ) (hδ : δ[i]? = some (some (ol l ds))) (r : Reps K G es vs) :
    Step K G H δ G (upd H l (.lst vs)) σ (δ.set i (some (ol l es))) := by
  have hi : i < δ.length := (List.getElem?_eq_some_iff.mp hδ).1
  have lf : l ∈ foot (ol l ds) := by unfold ol foot; exact List.mem_cons_self
  have lin : l ∈ feet δ := foot_in_feet hδ l lf
  have f0 : ∀ es : List D, foot (ol l es) = [l] := fun es => by unfold ol foot; rw [foots_fz]
  have ex : Same G (upd H l (.lst vs)) := fun b o e => by
    rw [upd_ne (fun z => by rw [z, (s.off l lin).1] at e; cases e)]
    exact s.ex b o e
  -- no other slot knows l
  have apart : ∀ (δ : En) (i j : Nat) (y z : OD), (feet δ).Nodup → δ[i]? = some (some y) → δ[j]? = some (some z) → i ≠ j → ∀ b ∈ foot y, b ∉ foot z := by
    intro δ
    induction δ with
    | nil => intro i j y z _ h; simp at h
    | cons w r ih =>
      intro i j y z nd h1 h2 hij b hb hz
      have ndr : (feet r).Nodup := by
        cases w with
        | none => simpa only [feet] using nd
        | some w => unfold feet at nd; exact (List.nodup_append.mp nd).2.1
      cases i with
      | zero =>
        cases j with
        | zero => exact hij rfl
        | succ j =>
          simp at h1 h2
          subst h1
          unfold feet at nd
          exact (List.nodup_append.mp nd).2.2 b hb b (foot_in_feet h2 b hz) rfl
      | succ i =>
        cases j with
        | zero =>
          simp at h1 h2
          subst h2
          unfold feet at nd
          exact (List.nodup_append.mp nd).2.2 b hz b (foot_in_feet h1 b hb) rfl
        | succ j => exact ih i j y z ndr (by simpa using h1) (by simpa using h2) (fun q => hij (by rw [q])) b hb hz
  have memS : ∀ a ∈ feet (δ.set i (some (ol l es))), a ∈ feet δ := fun a ha => by
    rcases feet_set_mem a ha with h | h
    · rw [f0] at h
      simp at h
      subst h
      exact lin
    · exact h
  refine ⟨⟨ex, by rw [List.length_set]; exact s.len, fun j y hy => ?_, ?_, fun a ha => ?_⟩, ⟨Same.refl _, fun a o ha e => ?_, fun a h => .inl h, fun a h => ?_⟩, fun a ha => .inl (memS a ha)⟩
  · by_cases e : j = i
    · subst e
      rw [List.getElem?_set_self hi] at hy
      cases hy
      refine ⟨.ref l, (own_run s hδ).1, ?_⟩
      unfold ol RepO
      exact ⟨rfl, vs, upd_same, repOs_of r⟩
    · rw [List.getElem?_set_ne (Ne.symm e)] at hy
      obtain ⟨v, e1, r1⟩ := s.rep j y hy
      refine ⟨v, e1, RepO.mono (Same.refl _) y v (fun b hb o ho => ?_) r1⟩
      rw [upd_ne]
      · exact ho
      · intro z
        subst z
        exact apart δ i j _ _ s.nd hδ hy (Ne.symm e) b lf hb
  · -- feet of a set slot with the same foot
    have same : ∀ (δ : En) (i : Nat) (y z : OD), δ[i]? = some (some y) → foot z = foot y → feet (δ.set i (some z)) = feet δ := by
      intro δ
      induction δ with
      | nil => intro i y z h; simp at h
      | cons w r ih =>
        intro i y z h hz
        cases i with
        | zero => simp at h; subst h; simp only [List.set_cons_zero, feet, hz]
        | succ i =>
          have := ih i y z (by simpa using h) hz
          cases w <;> simp only [List.set_cons_succ, feet, this]
    rw [same δ i _ _ hδ ((f0 es).trans (f0 ds).symm)]
    exact s.nd
  · have q := s.off a (memS a ha)
    refine ⟨q.1, ?_⟩
    by_cases z : a = l
    · subst z; rw [upd_same]; simp
    · rw [upd_ne z]; exact q.2
  · rw [upd_ne (fun z => ha (by rw [z]; exact lin))]
    exact e
  · by_cases z : a = l
    · subst z; rw [upd_same]; simp
    · rw [upd_ne z]; exact h
/-- x.append(e) -/
theorem es_app (i : Nat) {l : Addr} {ds : List D} {apos cpos : Pos} (hN : X.N[i]? = some x) (hv : Vis X.env.scope x) (hδ0 : δ[i]? = some (some (ol l ds))) (hz : ds.length < 100000)
    (h : Ev X e δ fun y δ1 => ∃ d, y = .fz d ∧ δ1[i]? = some (some (ol l ds)) ∧ P.nx (δ1.set i (some (ol l (ds ++ [d]))))) (hd : (x == ("__debug__" : Str)) = false := by decide) (hcd : (x == ("__classdict__" : Str)) = false := by decide)
    (hbase : attributeBase (.Name x p) "append" X.env (eval (.Name x p) X.env) = eval (.Name x p) X.env := by rfl)
    (hfew : ((backTo cpos (starEach (e :: []) X.env)).all (fun x => !x.1) && (backToKw cpos (keywordEach [] X.env)).all (fun x => x.1.isSome)
      && decide ((e :: ([] : List Expr)).length + ([] : List Keyword).length + (if ([] : List Keyword).isEmpty then 0 else 1) < 30)) = true := by rfl)
    (hline : (apos.endLine == cpos.line) = true := by rfl) (hs : starEach (e :: []) X.env = (false, eval e X.env) :: starEach [] X.env := by rfl) (hplain : (backTo cpos (starEach [] X.env)).any (·.1) = false := by rfl)
    (hsw : swapsWith (.Call (.Attribute (.Name x p) "append" apos) [e] [] cpos) none pos.line X.env = pure false := by rfl) : Es X (.Expr (.Call (.Attribute (.Name x p) "append" apos) [e] [] cpos) pos) δ P := fun G H σ s => by
  obtain ⟨e1, vs, hl, rs⟩ := own_run s hδ0
  refine wS_of (ps_expr (pe_bm PySem.F.plainAttrs_list PySem.F.slot_list_append PySem.F.type_list_append mt_append (pe_var hN hv hd hcd) (pa_cons wE_pe pa_nil hs) hbase hfew hline hs hplain) hsw) ?_
  refine ⟨.ref l, e1, .inl ⟨rfl, vs, .of hl⟩, (h G H σ s).imp fun v H1 ⟨y, G1, d1, s1, d, ey, hδ, q⟩ => ?_⟩
  have r := top_fz s1.st ey
  obtain ⟨_, ws, hl1, rs1⟩ := own_run s1.st.pop hδ
  refine ⟨l, ws, v, rfl, rfl, hl1, by rw [rs1.length, sizeLine_eq]; omega, G1, _, s1.pop.trans (Step.own (es := ds ++ [d]) s1.st.pop hδ (Reps.app rs1 (Reps.cons r Reps.nil))), q⟩
/-- own objects are looked at, what comes of it is no object -/
def scalD : D → Bool
  | .non | .bl _ | .int _ | .str _ => true
  | _ => false
theorem rep_scal {K : PySem.W.Frag} {G G' : Hp} : ∀ {d : D} {v : V}, scalD d = true → Rep K G d v → Rep K G' d v
  | .non, _, _, r => by unfold Rep at r ⊢; exact r
  | .bl _, _, _, r => by unfold Rep at r ⊢; exact r
  | .int _, _, _, r => by unfold Rep at r ⊢; exact r
  | .str _, _, _, r => by unfold Rep at r ⊢; exact r
  | .lst _, _, h, _ => by cases h
  | .tup _, _, h, _ => by cases h
  | .op _, _, h, _ => by cases h
  | .rol _, _, h, _ => by cases h
theorem feet_thaw : ∀ δ : En, feet (thaw δ) = []
  | [] => rfl
  | none :: r => by show feet (none :: thaw r) = []; unfold feet; exact feet_thaw r
  | some x :: r => by show feet (some (.fz (dat x)) :: thaw r) = []; unfold feet foot; rw [feet_thaw r]; rfl
theorem Stt.thaw {K : PySem.W.Frag} {G H : Hp} {σ : L2.St} (s : Stt K G H σ δ) : Stt K H H σ (thaw δ) where
  ex := Same.refl _
  len := by rw [← s.len]; unfold Vl.thaw; rw [List.length_map]
  rep := fun i x hx => by
    unfold Vl.thaw at hx
    rw [List.getElem?_map] at hx
    cases q : δ[i]? with
    | none => rw [q] at hx; cases hx
    | some o =>
      rw [q] at hx
      cases o with
      | none => cases hx
      | some y =>
        simp at hx
        subst hx
        obtain ⟨v, e1, r⟩ := s.rep i y q
        refine ⟨v, e1, ?_⟩
        unfold RepO
        exact RepO.dat s.ex y v r
  nd := by rw [feet_thaw]; exact List.nodup_nil
  off := fun a ha => by rw [feet_thaw] at ha; cases ha
theorem unthaw {K : PySem.W.Frag} {G H G' H' : Hp} {σ : L2.St} (s : Stt K G H σ δ) (t : Step K H H (thaw δ) G' H' σ (thaw δ)) : Step K G H δ G H' σ δ := by
  have k : Same H H' := fun a o e => t.gr.h a o (by rw [feet_thaw]; simp) e
  exact ⟨s.keep (Same.refl _) (s.ex.trans k) (fun a _ o e => k a o e) (fun a ha => (s.off a ha).1), ⟨Same.refl _, fun a o _ e => k a o e, fun _ h => .inl h, t.gr.there⟩, fun a ha => .inl ha⟩
theorem ev_look (h : Ev X e (thaw δ) fun x δ1 => δ1 = thaw δ ∧ ∃ d, x = .fz d ∧ scalD d = true ∧ Q (.fz d) δ) : Ev X e δ Q := fun G H σ s => (h H H σ s.thaw).imp fun v H1 ⟨x, G1, d1, s1, e2, d, e1, hs, q⟩ => by
  subst e2
  exact ⟨_, G, δ, (unthaw s s1.pop).pushF (rep_scal hs (top_fz s1.st e1)), q⟩
theorem et_look (h : Et X e (thaw δ) fun k δ1 => δ1 = thaw δ ∧ R k δ) : Et X e δ R := fun G H σ s => (h H H σ s.thaw).imp fun k H1 ⟨G1, d1, s1, e2, q⟩ => by
  subst e2
  exact ⟨G, δ, unthaw s s1, q⟩
end
end Vl

namespace Vl
open PySem PySem.Spec PyProof.Rows L2
/-! ### what is walked -/
/-- the iterator J gives the data ds, whatever grows meanwhile -/
def ItOk (K : PySem.W.Frag) (J : It) (G1 : Hp) (ds : List D) : Prop := ∃ (Gd : Hp → Prop) (Y : Nat → Hp → V → Hp → Prop), Walk J ds.length Gd Y ∧ (∀ H2, Same G1 H2 → Gd H2) ∧
  ∀ (i : Nat) (H2 : Hp) (v : V) (H3 : Hp) (G2 : Hp) (d : D), Same G1 G2 → Same G2 H2 → Y i H2 v H3 → ds[i]? = some d →
    ∃ G3, Same G2 G3 ∧ Same H2 H3 ∧ Same G3 H3 ∧ (∀ a, G3 a ≠ none → G2 a ≠ none ∨ H2 a = none) ∧ Rep K G3 d v
structure wI (X : Cx) (tg iter : Expr) (σ : L2.St) (H : Hp) (R : It → Hp → Prop) : Prop where
  run : ∀ pins s, Inv X pins σ H s → wpAny (model X.prog X.w) X.A (eval iter X.env) (fun v s1 => wpAny (model X.prog X.w) X.A (pyIter v) (PIE X pins σ tg R) X.xe s1) X.xe s
theorem wI_pi {X : Cx} {tg iter : Expr} : PI X tg iter (wI X tg iter) := ⟨fun pins s _ _ _ I h => h.run pins s I⟩
theorem wI_of {X : Cx} {tg iter : Expr} {wi : TI} {σ : L2.St} {H : Hp} {R : It → Hp → Prop} (h : PI X tg iter wi) (q : wi σ H R) : wI X tg iter σ H R := .mk fun pins s I => h.run pins s σ H R I q
theorem wI.imp {X : Cx} {tg iter : Expr} {σ : L2.St} {H : Hp} {R R' : It → Hp → Prop} (h : wI X tg iter σ H R) (q : ∀ J H', R J H' → R' J H') : wI X tg iter σ H R' := .mk fun pins s I =>
  thn (h.run pins s I) fun v s1 z => thn z fun itv s2 ⟨it, fp, tn, J, H', e1, I', T, t0, f, r⟩ => ⟨it, fp, tn, J, H', e1, I', T, t0, f, q J H' r⟩
def Ei (X : Cx) (tg iter : Expr) (δ : En) (R : List D → En → Prop) : Prop := ∀ G H σ, Stt X.K G H σ δ → wI X tg iter σ H fun J H1 => ∃ G1 ds δ1, Step X.K G H δ G1 H1 σ δ1 ∧ R ds δ1 ∧ ItOk X.K J G1 ds
section
variable {X : Cx} {e a b c tg iter : Expr} {es ts : List Expr} {st : Stmt} {sts bd orelse : List Stmt} {δ : En} {Q Q' : OD → En → Prop} {R : List D → En → Prop} {P P' : DE} {pos p p2 p3 : Pos} {x y : Str}
theorem itok_list {K : PySem.W.Frag} {G : Hp} {l : Addr} {ds : List D} {vs : List V} (g : G l = some (.lst vs)) (r : Reps K G ds vs) : ItOk K (Itl K l) G ds := by
  refine ⟨fun H => SqL K H l vs, YAt vs, by rw [← r.length]; exact walk_list, fun H2 s => .of (s _ _ g), fun i H2 v H3 G2 d s1 s2 y hd => ?_⟩
  obtain ⟨e1, e2⟩ := y
  subst e1
  obtain ⟨v', e3, rv⟩ := r.get hd
  rw [e2] at e3
  cases e3
  exact ⟨G2, Same.refl _, Same.refl _, s2, fun _ h => .inl h, Rep.mono s1 _ _ rv⟩
theorem ei_list (h : Ev X iter δ fun x δ1 => ∃ ds, x = .fz (.lst ds) ∧ R ds δ1) : Ei X tg iter δ R := fun G H σ s => wI_of (pi_list wE_pe) ((h G H σ s).imp fun v H1 ⟨x, G1, δ1, s1, ds, e1, q⟩ => by
  have r := top_fz s1.st e1
  unfold Rep at r
  obtain ⟨l, vs, rfl, g, rs⟩ := r
  exact ⟨l, rfl, ⟨vs, .of (s1.st.ex _ _ g)⟩, G1, ds, δ1, s1.pop, q, itok_list g rs⟩)
theorem ei_rol (h : Ev X iter δ fun x δ1 => ∃ ns, x = .fz (.rol ns) ∧ R (ns.map .int) δ1) : Ei X tg iter δ R := fun G H σ s => wI_of (pi_list wE_pe) ((h G H σ s).imp fun v H1 ⟨x, G1, δ1, s1, ns, e1, q⟩ => by
  have r := top_fz s1.st e1
  unfold Rep at r
  obtain ⟨l, rfl, g⟩ := r
  refine ⟨l, rfl, ⟨_, s1.st.ex.seq g⟩, G1, _, δ1, s1.pop, q, fun H => SqL X.K H l (ns.map V.int), YAt (ns.map V.int), by rw [List.length_map, ← List.length_map (f := V.int)]; exact walk_list, fun H2 s => s.seq g, fun i H2 v H3 G2 d t1 t2 y hd => ?_⟩
  obtain ⟨e3, e2⟩ := y
  subst e3
  refine ⟨G2, Same.refl _, Same.refl _, t2, fun _ h => .inl h, ?_⟩
  rw [List.getElem?_map] at e2 hd
  cases z : ns[i]? with
  | none => rw [z] at hd; cases hd
  | some n =>
    rw [z] at e2 hd
    simp at e2 hd
    subst e2
    subst hd
    unfold Rep
    rfl)
theorem itok_range {K : PySem.W.Frag} {G : Hp} {lo : Int} {n : Nat} : ItOk K (Itr lo n) G ((List.range n).map fun (i : Nat) => D.int (lo + i)) := by
  refine ⟨fun _ => True, YFn fun i => .int (lo + i), by rw [List.length_map, List.length_range]; exact walk_range, fun _ _ => trivial, fun i H2 v H3 G2 d s1 s2 y hd => ?_⟩
  obtain ⟨e1, e2⟩ := y
  subst e1
  refine ⟨G2, Same.refl _, Same.refl _, s2, fun _ h => .inl h, ?_⟩
  rw [List.getElem?_map] at hd
  cases z : (List.range n)[i]? with
  | none => rw [z] at hd; cases hd
  | some m =>
    have hm : m = i := by
      obtain ⟨h1, h2⟩ := List.getElem?_eq_some_iff.mp z
      simpa using h2.symm
    rw [z] at hd
    simp at hd
    subst hd
    subst hm
    subst e2
    unfold Rep
    rfl
theorem one_int {K : PySem.W.Frag} {G : Hp} {i : Int} {vs : List V} (rs : Reps K G [.int i] vs) : vs = [.int i] := by
  unfold Reps Rep at rs
  obtain ⟨v, r, rfl, rfl, rn⟩ := rs
  unfold Reps at rn
  subst rn
  rfl
theorem ei_range1 (hg : Gl X "range") (hm : X.mg "range" = none) (h : Ea X [a] δ fun xs δ1 => ∃ j : Int, xs = [.d (.int j)] ∧ -(2 ^ 62) ≤ j ∧ j < 2 ^ 62 ∧ R ((List.range j.toNat).map fun (i : Nat) => D.int (0 + i)) δ1) (hs : starEach [a] X.env = [(false, eval a X.env)] := by rfl) :
    Ei X tg (.Call (.Name "range" p) [a] [] pos) δ R := fun G H σ s => wI_of (pi_range1 hg hm wA_pa hs) ((h G H σ s).imp fun vs H1 ⟨xs, G1, δ1, s1, rs, j, e1, h1, h2, q⟩ => by
  subst e1
  have r := one_int (repAs_d (ds := [.int j]) rs)
  exact ⟨j, r, h1, h2, G1, _, δ1, s1, q, itok_range⟩)
theorem ei_range2 (hg : Gl X "range") (hm : X.mg "range" = none) (h : Ea X [a, b] δ fun xs δ1 => ∃ i j : Int, xs = [.d (.int i), .d (.int j)] ∧ (-(2 ^ 62) ≤ i ∧ i < 2 ^ 62 ∧ -(2 ^ 62) ≤ j ∧ j < 2 ^ 62) ∧ R ((List.range (j - i).toNat).map fun (k : Nat) => D.int (i + k)) δ1)
    (hs : starEach [a, b] X.env = [(false, eval a X.env), (false, eval b X.env)] := by rfl) (hs2 : starEach [b] X.env = [(false, eval b X.env)] := by rfl) :
    Ei X tg (.Call (.Name "range" p) [a, b] [] pos) δ R := fun G H σ s => wI_of (pi_range2 hg hm wA_pa hs hs2) ((h G H σ s).imp fun vs H1 ⟨xs, G1, δ1, s1, rs, i, j, e1, h1, q⟩ => by
  subst e1
  have r := two_int (repAs_d (ds := [.int i, .int j]) rs)
  exact ⟨i, j, r, h1, G1, _, δ1, s1, q, itok_range⟩)
/-- a new pair at each turn -/
theorem pair_new {K : PySem.W.Frag} {G2 H2 H3 : Hp} {v : V} {f g : Nat → Option V} {i : Nat} {d1 d2 : D} (s2 : Same G2 H2) (y : YPair f g i H2 v H3) (r1 : ∀ x, f i = some x → Rep K G2 d1 x) (r2 : ∀ x, g i = some x → Rep K G2 d2 x) :
    ∃ G3, Same G2 G3 ∧ Same H2 H3 ∧ Same G3 H3 ∧ (∀ a, G3 a ≠ none → G2 a ≠ none ∨ H2 a = none) ∧ Rep K G3 (.tup [d1, d2]) v := by
  obtain ⟨T, x, z, rfl, n, rfl, e1, e2⟩ := y
  refine ⟨_, new_g s2 n, new_h n, new_gh s2, new_n n, ?_⟩
  unfold Rep
  exact ⟨T, [x, z], rfl, upd_same, Reps.mono (new_g s2 n) _ _ (Reps.cons (r1 x e1) (Reps.cons (r2 z e2) Reps.nil))⟩
def enD (k : Nat) (ds : List D) : List D := ds.mapIdx fun i d => .tup [.int ((i + k : Nat) : Int), d]
theorem ei_enum {elts : List Expr} {kk : Nat} {tpos : Pos} (hg : Gl X "enumerate") (hm : X.mg "enumerate" = none) (h : Ea X [e] δ fun xs δ1 => ∃ ds, xs = [.d (.lst ds)] ∧ R (enD 0 ds) δ1) (hs : starEach [e] X.env = [(false, eval e X.env)] := by rfl) :
    Ei X (.Tuple elts kk tpos) (.Call (.Name "enumerate" p) [e] [] pos) δ R := fun G H σ s => wI_of (pi_enum hg hm wA_pa hs) ((h G H σ s).imp fun vs H1 ⟨xs, G1, δ1, s1, rs, ds, e1, q⟩ => by
  subst e1
  obtain ⟨l, ws, rfl, g, rr⟩ := one_lst (repAs_d (ds := [.lst ds]) rs)
  refine ⟨l, ws, rfl, .of (s1.st.ex _ _ g), G1, _, δ1, s1, q, fun H => SqL X.K H l ws, _, by unfold enD; rw [List.length_mapIdx, ← rr.length]; exact walk_enum, fun H2 s => .of (s _ _ g), fun i H2 v H3 G2 d t1 t2 y hd => ?_⟩
  unfold enD at hd
  rw [List.getElem?_mapIdx] at hd
  cases z : ds[i]? with
  | none => rw [z] at hd; cases hd
  | some d' =>
    rw [z] at hd
    simp at hd
    subst hd
    obtain ⟨v', e3, rv⟩ := rr.get z
    refine pair_new t2 y (fun x ex => ?_) fun x ex => ?_
    · cases ex
      unfold Rep
      rfl
    · rw [e3] at ex
      cases ex
      exact Rep.mono t1 _ _ rv)
theorem two_lst {K : PySem.W.Frag} {G : Hp} {ds es : List D} {vs : List V} (rs : Reps K G [.lst ds, .lst es] vs) : ∃ a b ws us, vs = [.ref a, .ref b] ∧ G a = some (.lst ws) ∧ G b = some (.lst us) ∧ Reps K G ds ws ∧ Reps K G es us := by
  unfold Reps Rep at rs
  obtain ⟨v, r, rfl, ⟨a, ws, rfl, g, r1⟩, rn⟩ := rs
  obtain ⟨b, us, e, g2, r2⟩ := one_lst rn
  subst e
  exact ⟨a, b, ws, us, rfl, g, g2, r1, r2⟩
theorem ei_zip {e2 : Expr} {elts : List Expr} {kk : Nat} {tpos : Pos} (hg : Gl X "zip") (hm : X.mg "zip" = none) (h : Ea X [e, e2] δ fun xs δ1 => ∃ ds es, xs = [.d (.lst ds), .d (.lst es)] ∧ R (List.zipWith (fun d c => .tup [d, c]) ds es) δ1)
    (hs : starEach (e :: [e2]) X.env = (false, eval e X.env) :: starEach [e2] X.env := by rfl) (hs2 : (backTo pos (starEach [e2] X.env)).any (·.1) = false := by rfl) : Ei X (.Tuple elts kk tpos) (.Call (.Name "zip" p) [e, e2] [] pos) δ R := fun G H σ s => wI_of (pi_zip hg hm wA_pa hs hs2) ((h G H σ s).imp fun vs H1 ⟨xs, G1, δ1, s1, rs, ds, es, e1, q⟩ => by
  subst e1
  obtain ⟨l, m, ws, us, rfl, g, g2, rr, r2⟩ := two_lst (repAs_d (ds := [.lst ds, .lst es]) rs)
  refine ⟨l, m, ws, us, rfl, .of (s1.st.ex _ _ g), .of (s1.st.ex _ _ g2), G1, _, δ1, s1, q, fun H => SqL X.K H l ws ∧ SqL X.K H m us, _, walk_zip (by rw [List.length_zipWith, rr.length, r2.length]), fun H2 s => ⟨.of (s _ _ g), .of (s _ _ g2)⟩, fun i H2 v H3 G2 d t1 t2 y hd => ?_⟩
  rw [List.getElem?_zipWith] at hd
  cases z : ds[i]? with
  | none => rw [z] at hd; simp at hd
  | some d1 =>
    cases z2 : es[i]? with
    | none => rw [z, z2] at hd; simp at hd
    | some d2 =>
      rw [z, z2] at hd
      simp at hd
      subst hd
      obtain ⟨v1, e3, rv⟩ := rr.get z
      obtain ⟨v2, e4, rw2⟩ := r2.get z2
      refine pair_new t2 y (fun x ex => ?_) fun x ex => ?_
      · rw [e3] at ex
        cases ex
        exact Rep.mono t1 _ _ rv
      · rw [e4] at ex
        cases ex
        exact Rep.mono t1 _ _ rw2)
/-! ### for -/
theorem Step.item {K : PySem.W.Frag} {G H G' H' H3 G3 : Hp} {σ : L2.St} {δ1 : En} {v : V} {d : D} (s : Step K G H δ G' H' σ δ1) (g : Same G' G3) (h : Same H' H3) (e : Same G3 H3) (n : ∀ a, G3 a ≠ none → G' a ≠ none ∨ H' a = none) (r : Rep K G3 d v) : Step K G H δ G3 H3 (some v :: σ) (some (.fz d) :: δ1) :=
  (s.grow g h e n).pushF r
theorem es_for {ds : List D} (hp : PassesOwn (model X.prog X.w) X.A X.env X.xe) (hc : X.calm = true) (I : Nat → En → Prop) (hi : Ei X tg iter δ fun r δ1 => r = ds ∧ I 0 δ1)
    (step : ∀ i d δ1, ds[i]? = some d → I i δ1 → Eg X tg (.fz d) δ1 fun δ2 => Eb X bd δ2 { P with nx := I (i + 1), ct := I (i + 1), bk := P.nx }) (hd : ∀ δ', I ds.length δ' → P.nx δ') (hs : ∀ x, foldedSetIterable iter X.env x = pure x := by intro _; rfl) : Es X (.For tg iter bd [] pos) δ P := fun G H σ s => by
  refine wS_of (ps_for hp hc wI_pi wG_pg wB_ps hs) ((hi G H σ s).imp fun J H1 ⟨G1, ds', δ0, s1, ⟨e1, h0⟩, Gd, Y, W, hG, hY⟩ => ?_)
  subst e1
  refine for_it W (fun i σ' H' => ∃ Gi δi, Step X.K G1 H1 δ0 Gi H' σ' δi ∧ I i δi) ⟨G1, δ0, s1.st.step, h0⟩ (fun i σ' H' _ ⟨Gi, δi, si, _⟩ => hG H' (si.gr.g.trans si.st.ex)) (fun i v σ' H' H3 hlt ⟨Gi, δi, si, hI⟩ y => ?_) fun σ' H' ⟨Gi, δi, si, hI⟩ => ⟨Gi, δi, s1.trans si, hd _ hI⟩
  obtain ⟨G3, g1, g2, g3, g4, rv⟩ := hY i H' v H3 Gi ds'[i] si.gr.g si.st.ex y (by simp [hlt])
  have t := si.item g1 g2 g3 g4 rv
  refine (step i ds'[i] δi (by simp [hlt]) hI G3 H3 σ' v t.st).imp fun σ2 H2 ⟨G2, δ2, s2, hb⟩ => ?_
  have t2 := t.trans s2
  refine (hb G2 H2 σ2 s2.st).imp ⟨fun σ4 H4 ⟨G4, δ4, s4, q⟩ => ⟨G4, δ4, t2.trans s4, q⟩, fun v4 H4 ⟨x4, G4, σ4, δ4, s4, q⟩ => ⟨x4, G4, σ4, δ4, (s1.trans t2).trans s4, q⟩, fun σ4 H4 ⟨G4, δ4, s4, q⟩ => ⟨G4, δ4, (s1.trans t2).trans s4, q⟩, fun σ4 H4 ⟨G4, δ4, s4, q⟩ => ⟨G4, δ4, t2.trans s4, q⟩⟩
end
end Vl

namespace Vl
open PySem PySem.Spec PyProof.Rows L2
/-! ### comprehensions -/
def wipeE (δ : En) : List Nat → En
  | [] => δ
  | v :: vs => (wipeE δ vs).set v none
/-- Y is a context of a block of X -/
def Blk (X : Cx) (scope : Scope) (Y : Cx) : Prop := ∃ s H C cl fp, Y = X.blk s H scope (compEnvC scope cl C X.env) fp
structure wTs (X : Cx) (ifs : List Expr) (σ : L2.St) (H : Hp) (Q : Bool → Hp → Prop) : Prop where
  run : ∀ pins s, Inv X pins σ H s →
  wpAny (model X.prog X.w) X.A (forIn ifs true fun c r => if r = true then do let ok ← isTrue c X.env (eval c X.env); pure (ForInStep.yield ok) else pure (ForInStep.yield r)) (TP X pins σ Q) X.xe s
theorem wTs_pt {X : Cx} {ifs : List Expr} : PTs X ifs (wTs X ifs) := ⟨fun pins s _ _ _ I h => h.run pins s I⟩
theorem wTs_of {X : Cx} {ifs : List Expr} {t : TT} {σ : L2.St} {H : Hp} {Q : Bool → Hp → Prop} (h : PTs X ifs t) (q : t σ H Q) : wTs X ifs σ H Q := .mk fun pins s I => h.run pins s σ H Q I q
theorem wTs.imp {X : Cx} {ifs : List Expr} {σ : L2.St} {H : Hp} {Q Q' : Bool → Hp → Prop} (h : wTs X ifs σ H Q) (q : ∀ b H', Q b H' → Q' b H') : wTs X ifs σ H Q' := .mk fun pins s I =>
  thn (h.run pins s I) fun _ _ ⟨H', I', z⟩ => ⟨H', I', q _ H' z⟩
def Ets (X : Cx) (ifs : List Expr) (δ : En) (R : Bool → En → Prop) : Prop := ∀ G H σ, Stt X.K G H σ δ → wTs X ifs σ H (PostB X.K G H σ δ R)
def Egb (X : Cx) (tg : Expr) (vs : List Nat) (d : D) (δ : En) (T : En → Prop) : Prop :=
  ∀ G H σ v, Stt X.K G H σ δ → Rep X.K G d v → wG X tg v σ H fun σ' H' => wipe σ' vs = wipe σ vs ∧ ∃ G' δ', Step X.K G H δ G' H' σ' δ' ∧ T δ'
def Egbs (X : Cx) (ts : List Expr) (vs : List Nat) (ds : List D) (δ : En) (T : En → Prop) : Prop :=
  ∀ G H σ us, Stt X.K G H σ δ → Reps X.K G ds us → wGs X ts us σ H fun σ' H' => wipe σ' vs = wipe σ vs ∧ ∃ G' δ', Step X.K G H δ G' H' σ' δ' ∧ T δ'
theorem wipe_get {σ : L2.St} : ∀ {vs : List Nat} {j : Nat}, (wipe σ vs)[j]? = if j ∈ vs ∧ j < σ.length then some none else σ[j]?
  | [], j => by simp [wipe]
  | v :: vs, j => by
    unfold wipe
    by_cases hv : v = j
    · subst hv
      by_cases hl : v < σ.length
      · rw [List.getElem?_set_self (by rw [wipe_length]; exact hl), if_pos ⟨List.mem_cons_self, hl⟩]
      · rw [if_neg (fun h => hl h.2), List.getElem?_eq_none (by rw [List.length_set, wipe_length]; omega), List.getElem?_eq_none (by omega)]
    · rw [List.getElem?_set_ne hv, wipe_get]
      by_cases h : j ∈ vs ∧ j < σ.length
      · rw [if_pos h, if_pos ⟨List.mem_cons_of_mem _ h.1, h.2⟩]
      · rw [if_neg h, if_neg (fun q => h ⟨(List.mem_cons.mp q.1).resolve_left (fun e => hv e.symm), q.2⟩)]
theorem wipeE_get {δ : En} : ∀ {vs : List Nat} {j : Nat}, (wipeE δ vs)[j]? = if j ∈ vs ∧ j < δ.length then some none else δ[j]?
  | [], j => by simp [wipeE]
  | v :: vs, j => by
    have hl' : (wipeE δ vs).length = δ.length := by
      clear wipeE_get
      induction vs with
      | nil => rfl
      | cons w ws ih => unfold wipeE; rw [List.length_set, ih]
    unfold wipeE
    by_cases hv : v = j
    · subst hv
      by_cases hl : v < δ.length
      · rw [List.getElem?_set_self (by rw [hl']; exact hl), if_pos ⟨List.mem_cons_self, hl⟩]
      · rw [if_neg (fun h => hl h.2), List.getElem?_eq_none (by rw [List.length_set, hl']; omega), List.getElem?_eq_none (by omega)]
    · rw [List.getElem?_set_ne hv, wipeE_get]
      by_cases h : j ∈ vs ∧ j < δ.length
      · rw [if_pos h, if_pos ⟨List.mem_cons_of_mem _ h.1, h.2⟩]
      · rw [if_neg h, if_neg (fun q => h ⟨(List.mem_cons.mp q.1).resolve_left (fun e => hv e.symm), q.2⟩)]
theorem wipeE_length {δ : En} : ∀ {vs : List Nat}, (wipeE δ vs).length = δ.length
  | [] => rfl
  | v :: vs => by unfold wipeE; rw [List.length_set, wipeE_length]
theorem wipe_set {σ : L2.St} {vs : List Nat} {i : Nat} {v : Option V} (h : i ∈ vs) : wipe (σ.set i v) vs = wipe σ vs := by
  apply List.ext_getElem?
  intro j
  rw [wipe_get, wipe_get, List.length_set]
  by_cases e : j ∈ vs ∧ j < σ.length
  · rw [if_pos e, if_pos e]
  · rw [if_neg e, if_neg e]
    by_cases z : i = j
    · subst z
      have : ¬ i < σ.length := fun q => e ⟨h, q⟩
      rw [List.getElem?_eq_none (by rw [List.length_set]; omega), List.getElem?_eq_none (by omega)]
    · rw [List.getElem?_set_ne z]
theorem wipe_wipe {σ : L2.St} {vs : List Nat} : wipe (wipe σ vs) vs = wipe σ vs := by
  apply List.ext_getElem?
  intro j
  simp only [wipe_get, wipe_length]
  by_cases z : j ∈ vs ∧ j < σ.length
  · simp only [if_pos z]
  · simp only [if_neg z]
section
variable {K : PySem.W.Frag} {G H G' H' : Hp} {σ σ' : L2.St} {δ δ' : En} {vs : List Nat}
theorem feet_wipe_sub : ∀ {vs : List Nat}, List.Sublist (feet (wipeE δ vs)) (feet δ)
  | [] => by unfold wipeE; exact List.Sublist.refl _
  | v :: vs => by
    unfold wipeE
    exact feet_none_sub.trans feet_wipe_sub
theorem Stt.wiped (s : Stt K G H σ δ) : Stt K G H (wipe σ vs) (wipeE δ vs) where
  ex := s.ex
  len := by rw [wipeE_length, wipe_length, s.len]
  rep := fun i x hx => by
    rw [wipeE_get] at hx
    by_cases h : i ∈ vs ∧ i < δ.length
    · rw [if_pos h] at hx; cases hx
    · rw [if_neg h] at hx
      obtain ⟨v, e, r⟩ := s.rep i x hx
      refine ⟨v, ?_, r⟩
      rw [wipe_get, if_neg (by rw [← s.len]; exact h)]
      exact e
  nd := s.nd.sublist feet_wipe_sub
  off := fun a ha => s.off a (feet_wipe_sub.subset ha)
theorem rep_fz (g : Same G G') {x : OD} {v : V} (h : foot x = []) (r : RepO K G H x v) : RepO K G' H' x v := RepO.mono g x v (fun a ha => by rw [h] at ha; cases ha) r
/-- a value waits while a step is done -/
theorem Step.frame {G0 H0 : Hp} {δ0 : En} {v : V} {x : OD} {σ1 : L2.St} {δ1 : En} (si : Step K G0 H0 δ0 G H (some v :: σ) (some x :: δ)) (u : Step K G H δ G' H' σ1 δ1) : Step K G0 H0 δ0 G' H' (some v :: σ1) (some x :: δ1) := by
  refine ⟨si.st.frame u, si.gr.trans u.gr si.pop.ft, fun a ha => ?_⟩
  unfold feet at ha
  rcases List.mem_append.mp ha with h | h
  · exact si.ft a (by unfold feet; exact List.mem_append_left _ h)
  · rcases u.ft a h with h | h
    · exact si.pop.ft a h
    · refine .inr ?_
      cases e : H0 a with
      | none => rfl
      | some o => exact absurd h (si.gr.there a (by rw [e]; simp))
theorem slot_of : ∀ {δ : En} {a : Addr}, a ∈ feet δ → ∃ (j : Nat) (y : OD), δ[j]? = some (some y) ∧ a ∈ foot y
  | [], a, h => by simp [feet] at h
  | none :: r, a, h => by
    simp only [feet] at h
    obtain ⟨j, y, q1, q2⟩ := slot_of h
    exact ⟨j + 1, y, by simpa using q1, q2⟩
  | some z :: r, a, h => by
    simp only [feet, List.mem_append] at h
    rcases h with h | h
    · exact ⟨0, z, rfl, h⟩
    · obtain ⟨j, y, q1, q2⟩ := slot_of h
      exact ⟨j + 1, y, by simpa using q1, q2⟩
theorem one_slot : ∀ {δ : En} {i j : Nat} {x y : OD} {a : Addr}, (feet δ).Nodup → δ[i]? = some (some x) → δ[j]? = some (some y) → a ∈ foot x → a ∈ foot y → i = j
  | [], _, _, _, _, _, _, h, _, _, _ => by simp at h
  | z :: r, i, j, x, y, a, nd, h1, h2, hx, hy => by
    have ndr : (feet r).Nodup := by
      cases z with
      | none => simpa only [feet] using nd
      | some z => unfold feet at nd; exact (List.nodup_append.mp nd).2.1
    cases i with
    | zero =>
      cases j with
      | zero => rfl
      | succ j =>
        simp at h1 h2
        subst h1
        unfold feet at nd
        exact ((List.nodup_append.mp nd).2.2 a hx a (foot_in_feet h2 a hy) rfl).elim
    | succ i =>
      cases j with
      | zero =>
        simp at h1 h2
        subst h2
        unfold feet at nd
        exact ((List.nodup_append.mp nd).2.2 a hy a (foot_in_feet h1 a hx) rfl).elim
      | succ j => exact congrArg (· + 1) (one_slot ndr (by simpa using h1) (by simpa using h2) hx hy)
/-- a wiped slot held no object -/
theorem wiped_fz {i : Nat} {x : OD} (hw : feet (wipeE δ vs) = feet δ) (hi : i ∈ vs) (hx : δ[i]? = some (some x)) (nd : (feet δ).Nodup) : foot x = [] := by
  cases hf : foot x with
  | nil => rfl
  | cons a r =>
    have ha : a ∈ foot x := by rw [hf]; exact List.mem_cons_self
    have hin := foot_in_feet hx a ha
    rw [← hw] at hin
    obtain ⟨j, y, q1, q2⟩ := slot_of hin
    rw [wipeE_get] at q1
    by_cases hj : j ∈ vs ∧ j < δ.length
    · rw [if_pos hj] at q1; cases q1
    · rw [if_neg hj] at q1
      have e := one_slot nd hx q1 ha q2
      exact absurd ⟨e ▸ hi, (List.getElem?_eq_some_iff.mp q1).1⟩ hj
/-- the block's end, seen from outside -/
theorem Stt.unwipe {δ3 : En} (s : Stt K G H σ δ) (t : Step K G H (wipeE δ vs) G' H' σ' δ') (e1 : wipe σ' vs = wipe σ vs) (e2 : wipeE δ' vs = wipeE δ3 vs) (h3 : ∀ j ∈ vs, δ3[j]? = δ[j]?) (hl : δ3.length = δ.length) (hw : feet (wipeE δ vs) = feet δ) (hw3 : feet (wipeE δ3 vs) = feet δ3) : Step K G H δ G' H' σ δ3 := by
  have gr : Grow (feet δ) G H G' H' := by rw [← hw]; exact t.gr
  have tw : Stt K G' H' (wipe σ vs) (wipeE δ3 vs) := by rw [← e1, ← e2]; exact t.st.wiped
  refine ⟨⟨t.st.ex, hl.trans s.len, fun i x hx => ?_, ?_, fun a ha => ?_⟩, gr, fun a ha => ?_⟩
  · by_cases hi : i ∈ vs
    · rw [h3 i hi] at hx
      obtain ⟨v, e, r⟩ := s.rep i x hx
      exact ⟨v, e, rep_fz t.gr.g (wiped_fz hw hi hx s.nd) r⟩
    · obtain ⟨v, e, r⟩ := tw.rep i x (by rw [wipeE_get, if_neg (fun h => hi h.1)]; exact hx)
      rw [wipe_get, if_neg (fun h => hi h.1)] at e
      exact ⟨v, e, r⟩
  · rw [← hw3]
    exact tw.nd
  · exact tw.off a (by rw [hw3]; exact ha)
  · rw [← hw3, ← e2] at ha
    have := t.ft a (feet_wipe_sub.subset ha)
    rw [hw] at this
    exact this
end
section
variable {X : Cx} {e a b c tg iter elt : Expr} {es ts ifs : List Expr} {st : Stmt} {sts bd : List Stmt} {δ : En} {Q Q' : OD → En → Prop} {P P' : DE} {pos p p2 p3 : Pos} {x y : Str} {scope : Scope} {vs : List Nat}
theorem ets_nil {R : Bool → En → Prop} (q : R true δ) : Ets X [] δ R := fun G H σ s => wTs_of pts_nil ⟨G, δ, s.step, q⟩
theorem ets_one {R : Bool → En → Prop} (h : Et X c δ R) : Ets X [c] δ R := fun G H σ s => wTs_of (pts_one wT_pt) (h G H σ s)
theorem egb_name (i : Nat) {d : D} {T : En → Prop} (hN : X.N.Nodup) (hi : X.N[i]? = some x) (hx : Loc X.env.scope x) (hl : i < δ.length) (hv : i ∈ vs) (q : T (δ.set i (some (.fz d)))) (hf : X.fn x = true ∨ X.env.scope.names.lookup x = some .local := by first | exact .inl rfl | exact .inr rfl | assumption) :
    Egb X (.Name x pos) vs d δ T := fun G H σ v s r => wG_of (pg_name hN hi hx hf) ⟨wipe_set hv, G, _, (s.stepF r).set hl, q⟩
theorem egbs_nil {T : En → Prop} (q : T δ) : Egbs X [] vs [] δ T := fun G H σ us s r => wGs_of pgs_nil ⟨by unfold Reps at r; exact r, rfl, G, δ, s.step, q⟩
theorem egbs_cons {d : D} {ds : List D} {T : En → Prop} (h : Egb X tg vs d δ fun δ' => Egbs X ts vs ds δ' T) (hs : (assignEach (tg :: ts) X.env).map (·.2) = assign tg X.env :: (assignEach ts X.env).map (·.2) := by rfl) : Egbs X (tg :: ts) vs (d :: ds) δ T := fun G H σ us s r => by
  unfold Reps at r
  obtain ⟨v, w, e1, r1, r2⟩ := r
  refine wGs_of (pgs_cons wG_pg wGs_pg hs) ⟨v, w, e1, (h G H σ v s r1).imp fun σ1 H1 ⟨q1, G1, δ1, s1, h1⟩ => ?_⟩
  exact (h1 G1 H1 σ1 w s1.st (Reps.mono s1.gr.g _ _ r2)).imp fun σ2 H2 ⟨q2, G2, δ2, s2, q⟩ => ⟨q2.trans q1, G2, δ2, s1.trans s2, q⟩
theorem egb_tup {ds : List D} {kk : Nat} {T : En → Prop} (hc : X.calm = true) (h : Egbs X ts vs ds δ T) (hl : ds.length = ts.length) (hn : (assignEach ts X.env).length = ts.length := by rfl) (hst : (assignEach ts X.env).findIdx? (·.1) = none := by rfl) : Egb X (.Tuple ts kk pos) vs (.tup ds) δ T := fun G H σ v s r => by
  unfold Rep at r
  obtain ⟨a, us, e1, g, rs⟩ := r
  exact wG_of (pg_tup (n := ts.length) hc wGs_pg hn hst) ⟨a, us, e1, .of (s.ex _ _ g), rs.length.trans hl, h G H σ us s rs⟩
def gBk (X : Cx) (scope : Scope) (tg : Expr) : TG := fun v σ H Q => ∀ Y, Blk X scope Y → wG Y tg v σ H Q
def tBk (X : Cx) (scope : Scope) (ifs : List Expr) : TT := fun σ H Q => ∀ Y, Blk X scope Y → wTs Y ifs σ H Q
def eBk (X : Cx) (scope : Scope) (elt : Expr) : TE := fun σ H Q => ∀ Y, Blk X scope Y → wE Y elt σ H Q
/-- the reading of a comprehension: I i acc δ' by the turn, what is made so far, the slots (the block's own wiped) -/
theorem lc_read {ds : List D} {own : List (Str × Nat)} (I : Nat → List D → En → Prop) (hi : Ei X tg iter δ fun r δ1 => r = ds ∧ I 0 [] δ1) (hz : ds.length ≤ 100000)
    (step : ∀ i d acc δ1, ds[i]? = some d → I i acc δ1 → feet (wipeE δ1 (own.map (·.2))) = feet δ1 ∧ ∃ t : En, wipeE t (own.map (·.2)) = wipeE δ1 (own.map (·.2)) ∧
      (∀ Y, Blk X scope Y → Egb Y tg (own.map (·.2)) d (wipeE δ1 (own.map (·.2))) fun δ2 => δ2 = t) ∧
      ∃ k : Bool, (∀ Y, Blk X scope Y → Ets Y ifs t fun r δ' => r = k ∧ δ' = t) ∧
        (k = false → I (i + 1) acc δ1) ∧
        (k = true → ∃ δ3, feet (wipeE δ3 (own.map (·.2))) = feet δ3 ∧ δ3.length = δ1.length ∧ (∀ j ∈ own.map (·.2), δ3[j]? = δ1[j]?) ∧ ∀ Y, Blk X scope Y → Ev Y elt t fun z δ' => wipeE δ' (own.map (·.2)) = wipeE δ3 (own.map (·.2)) ∧ ∃ d', z = .fz d' ∧ I (i + 1) (acc ++ [d']) δ3)) {G H : Hp} {σ : L2.St} (s : Stt X.K G H σ δ) :
    tLc (wI X tg iter) (gBk X scope tg) (tBk X scope ifs) (eBk X scope elt) (own.map (·.2)) σ H
      (fun v H' => ∃ l G' acc δ', v = .ref l ∧ Step X.K G H δ G' H' (some (.ref l) :: σ) (some (ol l acc) :: δ') ∧ I ds.length acc δ') := by
  refine (hi G H σ s).imp fun J H1 ⟨G1, ds', δ0, s1, ⟨e1, h0⟩, Gd, Y, W, hG, hY⟩ => ?_
  subst e1
  intro l nl
  refine lc_it (g := gBk X scope tg) (tt := tBk X scope ifs) (te := eBk X scope elt) (vs := own.map (·.2)) (σ := σ) (Qd := fun H' => ∃ l_1 G' acc δ', V.ref l = .ref l_1 ∧ Step X.K G H δ G' H' (some (.ref l_1) :: σ) (some (ol l_1 acc) :: δ') ∧ I ds'.length acc δ') W (fun i H' => ∃ Gi acc δi, Step X.K G1 H1 δ0 Gi H' (some (.ref l) :: σ) (some (ol l acc) :: δi) ∧ acc.length ≤ i ∧ I i acc δi) ⟨G1, [], δ0, s1.st.step.newOwn (ds := []) Reps.nil nl, Nat.le_refl _, h0⟩
    (fun i H' _ ⟨Gi, acc, δi, si, _⟩ => hG H' (si.gr.g.trans si.st.ex)) (fun i v H' H3 hlt ⟨Gi, acc, δi, si, hla, hI⟩ y => ?_) fun H' ⟨Gi, acc, δi, si, _, hI⟩ => ⟨l, Gi, acc, δi, rfl, s1.trans si, hI⟩
  have hd : ds'[i]? = some ds'[i] := by simp [hlt]
  obtain ⟨hw, t, et, hg, k, ht, hn, he⟩ := step i ds'[i] acc δi hd hI
  obtain ⟨G3, g1, g2, g3, g4, rv⟩ := hY i H' v H3 Gi ds'[i] si.gr.g si.st.ex y hd
  have sp := si.st.pop
  have t3 : Step X.K Gi H' (wipeE δi (own.map (·.2))) G3 H3 (wipe σ (own.map (·.2))) (wipeE δi (own.map (·.2))) := sp.wiped.step.grow g1 g2 g3 g4
  intro B hB
  obtain ⟨sB, HB, CB, clB, fpB, rfl⟩ := hB
  refine (hg _ ⟨sB, HB, CB, clB, fpB, rfl⟩ G3 H3 _ v t3.st rv).imp fun σ2 H2 ⟨q1, G2, δ2, s2, e2⟩ => ?_
  subst e2
  have w1 : wipe σ2 (own.map (·.2)) = wipe σ (own.map (·.2)) := q1.trans wipe_wipe
  have t2 := t3.trans s2
  refine ⟨w1, fun B hB => ?_⟩
  obtain ⟨sB, HB, CB, clB, fpB, rfl⟩ := hB
  refine (ht _ ⟨sB, HB, CB, clB, fpB, rfl⟩ G2 H2 σ2 s2.st).imp fun r H4 ⟨G4, δ4, s4, er, e4⟩ => ?_
  subst er
  subst e4
  have t4 := t2.trans s4
  cases hk : r with
  | false =>
    rw [if_neg Bool.false_ne_true]
    have u := sp.unwipe t4 w1 et (fun _ _ => rfl) rfl hw hw
    exact ⟨G4, acc, δi, si.frame u, by omega, hn hk⟩
  | true =>
    rw [if_pos rfl]
    obtain ⟨δ3, hw3, hl3, h3, he⟩ := he hk
    intro B hB
    obtain ⟨sB, HB, CB, clB, fpB, rfl⟩ := hB
    refine (he _ ⟨sB, HB, CB, clB, fpB, rfl⟩ G4 H4 σ2 s4.st).imp fun v5 H5 ⟨z, G5, δ5, s5, e5, d', ez, hI'⟩ => ?_
    have rz := top_fz s5.st ez
    have u := sp.unwipe (t4.trans s5.pop) w1 e5 h3 hl3 hw hw3
    have fr := si.frame u
    obtain ⟨_, ws, hl1, rs1⟩ := own_run (i := 0) fr.st rfl
    have fin := Step.own (i := 0) (es := acc ++ [d']) fr.st rfl (Reps.app rs1 (Reps.cons rz Reps.nil))
    exact ⟨ws, hl1, by rw [rs1.length, sizeLine_eq]; omega, G5, acc ++ [d'], δ3, fr.trans fin, by rw [List.length_append, List.length_singleton]; omega, hI'⟩
variable {own : List (Str × Nat)}
theorem gBk_pg (s : Shared) (H : Hp) (C : Addr) (cl : List (Str × Addr)) (fp : List Addr) : PG (X.blk s H scope (compEnvC scope cl C X.env) fp) tg (gBk X scope tg) := ⟨fun pins s0 _ _ _ u _ I r h => (h _ ⟨s, H, C, cl, fp, rfl⟩).run pins s0 u I r⟩
theorem tBk_pt (s : Shared) (H : Hp) (C : Addr) (cl : List (Str × Addr)) (fp : List Addr) : PTs (X.blk s H scope (compEnvC scope cl C X.env) fp) ifs (tBk X scope ifs) := ⟨fun pins s0 _ _ _ I h => (h _ ⟨s, H, C, cl, fp, rfl⟩).run pins s0 I⟩
theorem eBk_pe (s : Shared) (H : Hp) (C : Addr) (cl : List (Str × Addr)) (fp : List Addr) : PE (X.blk s H scope (compEnvC scope cl C X.env) fp) elt (eBk X scope elt) := ⟨fun pins s0 _ _ _ I h => (h _ ⟨s, H, C, cl, fp, rfl⟩).run pins s0 I⟩
/-- what a comprehension does, in one piece -/
structure LcOk (X : Cx) (elt tg iter : Expr) (ifs : List Expr) (scope : Scope) (own : List (Str × Nat)) (δ : En) (Q : Addr → List D → En → Prop) : Prop where
  ok : BlkOk X.N X.env.scope scope own
  run : ∃ (ds : List D) (I : Nat → List D → En → Prop), (Ei X tg iter δ fun r δ1 => r = ds ∧ I 0 [] δ1) ∧ ds.length ≤ 100000 ∧
    (∀ i d acc δ1, ds[i]? = some d → I i acc δ1 → feet (wipeE δ1 (own.map (·.2))) = feet δ1 ∧ ∃ t : En, wipeE t (own.map (·.2)) = wipeE δ1 (own.map (·.2)) ∧
      (∀ Y, Blk X scope Y → Egb Y tg (own.map (·.2)) d (wipeE δ1 (own.map (·.2))) fun δ2 => δ2 = t) ∧
      ∃ k : Bool, (∀ Y, Blk X scope Y → Ets Y ifs t fun r δ' => r = k ∧ δ' = t) ∧
        (k = false → I (i + 1) acc δ1) ∧
        (k = true → ∃ δ3, feet (wipeE δ3 (own.map (·.2))) = feet δ3 ∧ δ3.length = δ1.length ∧ (∀ j ∈ own.map (·.2), δ3[j]? = δ1[j]?) ∧ ∀ Y, Blk X scope Y → Ev Y elt t fun z δ' => wipeE δ' (own.map (·.2)) = wipeE δ3 (own.map (·.2)) ∧ ∃ d', z = .fz d' ∧ I (i + 1) (acc ++ [d']) δ3)) ∧
    ∀ l acc δ1, I ds.length acc δ1 → Q l acc δ1
theorem LcOk.read {Q : Addr → List D → En → Prop} (h : LcOk X elt tg iter ifs scope own δ Q) {G H : Hp} {σ : L2.St} (s : Stt X.K G H σ δ) {R : VK} (hR : ∀ l G' H' acc δ', Step X.K G H δ G' H' (some (.ref l) :: σ) (some (ol l acc) :: δ') → Q l acc δ' → R (.ref l) H') :
    tLc (wI X tg iter) (gBk X scope tg) (tBk X scope ifs) (eBk X scope elt) (own.map (·.2)) σ H R := by
  obtain ⟨ds, I, hi, hz, step, q⟩ := h.run
  have r := lc_read (scope := scope) (own := own) (elt := elt) (ifs := ifs) I hi hz step s
  refine wI.imp r fun J H1 z l nl => ?_
  obtain ⟨W, w0, turn⟩ := z l nl
  refine ⟨W, w0, fun i m H2 w => ?_⟩
  rcases turn i m H2 w with ⟨a, l', G', acc, δ', e1, s1, hI⟩ | c
  · refine .inl ⟨a, ?_⟩
    rw [e1]
    exact hR l' G' H2 acc δ' s1 (q l' acc δ' hI)
  · exact .inr c
/-- [elt for tg in iter if ..] as an object of one's own -/
theorem ev_lcO (hc : X.calm = true) (hN : X.N.Nodup) (h : LcOk X elt tg iter ifs scope own δ fun l acc δ1 => Q (ol l acc) δ1) (hs : ∀ x, foldedSetIterable iter X.env x = pure x := by intro _; rfl) : Ev X (.ListComp elt [⟨tg, iter, ifs, 0⟩] scope pos) δ Q := fun G H σ s => by
  have p := pe_lc (X := X) (elt := elt) (tg := tg) (iter := iter) (ifs := ifs) (pos := pos) hc hN wI_pi h.ok gBk_pg tBk_pt eBk_pe hs
  exact wE_of p (h.read s fun l G' H' acc δ' s' q => ⟨_, G', δ', s', q⟩)
theorem ev_lc (hc : X.calm = true) (hN : X.N.Nodup) (h : LcOk X elt tg iter ifs scope own δ fun _ acc δ1 => Q (.fz (.lst acc)) δ1) (hs : ∀ x, foldedSetIterable iter X.env x = pure x := by intro _; rfl) : Ev X (.ListComp elt [⟨tg, iter, ifs, 0⟩] scope pos) δ Q :=
  ev_frz (ev_lcO hc hN ⟨h.ok, by
    obtain ⟨ds, I, a1, a2, a3, a4⟩ := h.run
    refine ⟨ds, I, a1, a2, a3, fun l acc δ1 hI => ?_⟩
    have := a4 l acc δ1 hI
    show Q (.fz (dat (ol l acc))) δ1
    unfold dat
    rw [dats_fz]
    exact this⟩ hs)
/-- name = [..] on one line -/
theorem es_lcO (i : Nat) {py : Pos} (hc : X.calm = true) (hN : X.N.Nodup) (hy : X.N[i]? = some y) (hyl : X.env.scope.names.lookup y = some .local) (hsw : swapsWith (.ListComp elt [⟨tg, iter, ifs, 0⟩] scope p) (some (.Name y py)) pos.line X.env = pure true)
    (h : LcOk X elt tg iter ifs scope own δ fun l acc δ1 => i < δ1.length ∧ P.nx (δ1.set i (some (ol l acc)))) (hs : ∀ x, foldedSetIterable iter X.env x = pure x := by intro _; rfl) : Es X (.Assign [.Name y py] (.ListComp elt [⟨tg, iter, ifs, 0⟩] scope p) pos) δ P := fun G H σ s => by
  have pp := ps_setLc (X := X) (elt := elt) (tg := tg) (iter := iter) (ifs := ifs) (pos := p) (spos := pos) (i := i) hc hN hy hyl hsw wI_pi h.ok gBk_pg tBk_pt eBk_pe hs
  exact wS_of pp (h.read s fun l G' H' acc δ' s' q => ⟨G', _, s'.set q.1, q.2⟩)
end
end Vl

namespace Vl
open PySem PySem.Spec PyProof.Rows L2
/-! ### a def's contract over data -/
/-- for each datum i that the caller names: the arguments, what must hold, what comes out -/
structure Con where
  ι : Type
  args : ι → List OD
  pre : ι → Prop
  out : ι → OD → List OD → Prop
abbrev ens (xs : List OD) : En := xs.map some
def spC (K : PySem.W.Frag) (C : Con) : Sp := fun vs H Q _ => ∃ G i, Stt K G H (vs.map some) (ens (C.args i)) ∧ C.pre i ∧
  ∀ v x xs' G' H', Step K G H (ens (C.args i)) G' H' (some v :: vs.map some) (some x :: ens xs') → xs'.map foot = (C.args i).map foot → C.out i x xs' → Q v H'
/-- a def under its contract, where no text is being shown -/
structure FnG (P : Program) (w : World) (K : PySem.W.Frag) (mg : Str → Option Value) (base : Heap) (k : Nat) (f : Addr) (fd : FuncData) (ps : List Str) (sp : Sp) : Prop where
  len : ∀ vs H Q E, sp vs H Q E → vs.length = ps.length
  run : ∀ (A : Around) (outer : List Env) (s : Shared) (H : Hp) (args : Args) (us : List Value) (vs : List V) (Q : VK) (E : XK), A.guards = some [] → Room k A → Env0 P w K mg base A outer s H → BindsTo s fd args (ps.zip us) → Vals vs us → sp vs H Q E →
    codeAny (model P w) A (.call (.ref f) args) (CR CX0 outer P w H s Q E) s
theorem FnG.mono {P : Program} {w : World} {K : PySem.W.Frag} {mg : Str → Option Value} {base : Heap} {j k : Nat} {f : Addr} {fd : FuncData} {ps : List Str} {sp : Sp} (F : FnG P w K mg base j f fd ps sp) (h : j ≤ k) : FnG P w K mg base k f fd ps sp :=
  ⟨F.len, fun A outer s H args us vs Q E hg hr => F.run A outer s H args us vs Q E hg (hr.mono h)⟩
theorem deeper_guards (A : Around) (env : Env) : (A.deeper env).guards = A.guards := rfl
/-- a def by its body -/
theorem fnG_of {P : Program} {w : World} {K : PySem.W.Frag} {mg : Str → Option Value} {base : Heap} {x qual : Str} {st : Stmt} {f : Addr} {fd : FuncData} {N ps : List Str} {k : Nat} {sp : Sp} (F : Fun K x qual st f fd) (S : FnScope N ps (defScope st)) (len : ∀ vs H Q E, sp vs H Q E → vs.length = ps.length)
    (body : ∀ (cdv : Value) (A : Around) (outer : List Env) (s : Shared) (H : Hp) (vs : List V) (Q : VK) (E : XK), A.guards = some [] → Room k (A.deeper (envOfC qual (defScope st) s.heap.objs.size f cdv)) → sp vs H Q E →
      wB (cxOf CX0 P w K mg base N qual (defScope st) f cdv A outer s H E).nox (defBody st) { nx := fun _ H' => Q .non H', rt := Q } (L2.start N vs) H) : FnG P w K mg base (k + 1) f fd ps sp := by
  obtain ⟨oc, od, kV, doc, pm, an, cdv, ct, osl, rfl, lk, hcd⟩ := F.ex
  refine ⟨len, fun A outer s H args us vs Q E hg hr e0 hb rv hsp => ?_⟩
  have nl := len _ _ _ _ hsp
  have KX : K.In s.heap := e0.mod.kin.keeps fun b o q => (e0.bs b o q).1
  have kinds : ∀ y ∈ ps.zip us, (defScope st).names.lookup y.1 = some .local ∨ ((defScope st).names.lookup y.1 = some .cell ∧ ((cellsFrom (s.heap.objs.size + 1) (defScope st).names []).lookup y.1).isSome = true) := by
    rintro ⟨n, v⟩ hy
    rcases S.par n (List.of_mem_zip hy).1 with q | q
    · exact Or.inl q
    · exact Or.inr ⟨q, PySem.W.cellsFrom_some _ _ _ (Or.inl q)⟩
  refine codeAny_call_function hr.depth (KX f _ lk) rfl S.co S.gen rfl (PySem.W.codeRec_of KX hcd) (hb _ _ _ _ (wpAny_newFunctionEnv_cells S.kind kinds fun env he s1 xx => ?_))
  subst he
  have limit : s.heap.NoLimit := e0.mod.nolimit.keeps fun b o q => (e0.bs b o q).1
  refine ⟨limit.keeps xx.toInCall.keep, codeAny_func ?_⟩
  have I := inv_start (CX := CX0) (E := E) S hr.hd e0 nl rv xx
  have go := (body cdv A outer s H vs Q E hg (hr.deeper _) hsp).run [] s1 (I.wish _)
  refine wpAny_mono go (fun fl s' z => ?_) fun e s' z => z.elim
  have z' := z.unwish
  cases fl with
  | next => obtain ⟨σ', H', J, q⟩ := z'; exact ⟨.non, H', J.os, J.bare, J.base, J.hok, rfl, q⟩
  | ret u => obtain ⟨v, σ', H', J, r, q⟩ := z'; exact ⟨v, H', J.os, J.bare, J.base, J.hok, r, q⟩
  | brk => obtain ⟨_, _, _, q⟩ := z'; exact q.elim
  | cont => obtain ⟨_, _, _, q⟩ := z'; exact q.elim
/-- a call's run -/
theorem run_G {X : Cx} {k : Nat} {f : Addr} {fd : FuncData} {ps : List Str} {sp : Sp} {pins : List (Addr × Obj)} {σ : L2.St} {H : Hp} {s : Shared} {Q : VK} {us : List Value} {vs : List V} (F : FnG X.prog X.w X.K X.mg X.base k f fd ps sp) (hg : X.A.guards = some []) (hr : Room k X.A) (hb : Binds X.K fd ps [])
    (I : Inv X pins σ H s) (r : Vals vs us) (h : sp vs H Q E0) : wpAny (model X.prog X.w) X.A (call (.ref f) us) (EP X pins σ Q) X.xe s := by
  have nl : (us ++ []).length = ps.length := by rw [List.append_nil, ← r.length]; exact F.len _ _ _ _ h
  have hbb := hb s us I.kIn nl
  rw [List.append_nil] at hbb
  refine wpAny_call (codeAny_mono (F.run X.A X.stack s H ⟨us, []⟩ us vs Q E0 hg hr I.env0 hbb r h) fun res s' z => ?_)
  cases res with
  | error e => exact z.elim
  | ok fl =>
    cases fl with
    | ret u => exact I.after z
    | next => exact z.elim
    | brk => exact z.elim
    | cont => exact z.elim
section
variable {K : PySem.W.Frag} {G H G' H' G1 H1 : Hp} {σ σ' : L2.St} {δ δ' : En}
theorem feet_ens : ∀ xs : List OD, feet (ens xs) = foots xs
  | [] => by unfold ens List.map feet foots; rfl
  | x :: xs => by
    show feet (some x :: ens xs) = foots (x :: xs)
    unfold feet foots
    rw [feet_ens xs]
theorem repOs_get : ∀ {xs : List OD} {vs : List V} {i : Nat} {x : OD}, RepOs K G H xs vs → xs[i]? = some x → ∃ v, vs[i]? = some v ∧ RepO K G H x v
  | [], _, _, _, _, h => by simp at h
  | y :: ys, vs, i, x, r, h => by
    unfold RepOs at r
    obtain ⟨v, w, rfl, r1, r2⟩ := r
    cases i with
    | zero => simp at h; subst h; exact ⟨v, rfl, r1⟩
    | succ i => simpa using repOs_get (i := i) r2 (by simpa using h)
theorem repOs_len : ∀ {xs : List OD} {vs : List V}, RepOs K G H xs vs → vs.length = xs.length
  | [], vs, r => by unfold RepOs at r; subst r; rfl
  | y :: ys, vs, r => by
    unfold RepOs at r
    obtain ⟨v, w, rfl, _, r2⟩ := r
    rw [List.length_cons, List.length_cons, repOs_len r2]
theorem foots_mem : ∀ {xs : List OD} {x : OD} {a : Addr}, x ∈ xs → a ∈ foot x → a ∈ foots xs
  | [], _, _, h, _ => by cases h
  | y :: ys, x, a, h, ha => by
    unfold foots
    rcases List.mem_cons.mp h with e | h
    · subst e; exact List.mem_append_left _ ha
    · exact List.mem_append_right _ (foots_mem h ha)
theorem foots_find : ∀ {xs : List OD} {a : Addr}, a ∈ foots xs → ∃ x ∈ xs, a ∈ foot x
  | [], _, h => by unfold foots at h; cases h
  | y :: ys, a, h => by
    unfold foots at h
    rcases List.mem_append.mp h with h | h
    · exact ⟨y, List.mem_cons_self, h⟩
    · obtain ⟨x, h1, h2⟩ := foots_find h
      exact ⟨x, List.mem_cons_of_mem _ h1, h2⟩
/-- an object's value is the head of its foot -/
theorem ref_hd {x : OD} {v : V} {a : Addr} {rest : List Addr} (h : foot x = a :: rest) (r : RepO K G H x v) : v = .ref a := by
  cases x with
  | fz d => unfold foot at h; cases h
  | own b xs => unfold foot at h; unfold RepO at r; rw [r.1]; injection h with h1 _; rw [h1]
  | vol b φ => unfold foot at h; unfold RepO at r; rw [r.1]; injection h with h1 _; rw [h1]
  | otp b xs => unfold foot at h; unfold RepO at r; rw [r.1]; injection h with h1 _; rw [h1]
  | ins b dx C ns xs => unfold foot at h; unfold RepO at r; rw [r.1]; injection h with h1 _; rw [h1]
/-- an object's value is its address -/
theorem ref_of {x : OD} {v v' : V} (h : foot x ≠ []) (r : RepO K G H x v) (r' : RepO K G' H' x v') : v = v' := by
  cases x with
  | fz d => exact absurd (by unfold foot; rfl) h
  | own a xs => unfold RepO at r r'; rw [r.1, r'.1]
  | vol a φ => unfold RepO at r r'; rw [r.1, r'.1]
  | otp a xs => unfold RepO at r r'; rw [r.1, r'.1]
  | ins a dx C ns xs => unfold RepO at r r'; rw [r.1, r'.1]
/-- the arguments as objects -/
def resolve (δ : En) : List AR → Option (List OD)
  | [] => some []
  | .d d :: r => (resolve δ r).map (.fz d :: ·)
  | .s i :: r => match δ[i]? with
    | some (some x) => (resolve δ r).map (x :: ·)
    | _ => none
/-- the slots behind a call -/
def upds : En → List AR → List OD → En
  | δ, .s i :: as, x :: xs => upds (δ.set i (some x)) as xs
  | δ, .d _ :: as, _ :: xs => upds δ as xs
  | δ, _, _ => δ
theorem resolve_get : ∀ {as : List AR} {xs : List OD}, resolve δ as = some xs → as.length = xs.length ∧ ∀ (m : Nat) (x : OD), xs[m]? = some x → (∃ d, as[m]? = some (.d d) ∧ x = .fz d) ∨ ∃ n, as[m]? = some (.s n) ∧ δ[n]? = some (some x)
  | [], xs, h => by
    unfold resolve at h
    cases h
    exact ⟨rfl, fun m x h => by simp at h⟩
  | .d d :: r, xs, h => by
    unfold resolve at h
    cases e : resolve δ r with
    | none => rw [e] at h; cases h
    | some ys =>
      rw [e] at h
      cases h
      obtain ⟨h1, h2⟩ := resolve_get e
      refine ⟨by rw [List.length_cons, List.length_cons, h1], fun m x hx => ?_⟩
      cases m with
      | zero => simp at hx; subst hx; exact .inl ⟨d, rfl, rfl⟩
      | succ m => simpa using h2 m x (by simpa using hx)
  | .s i :: r, xs, h => by
    unfold resolve at h
    cases q : δ[i]? with
    | none => rw [q] at h; cases h
    | some o =>
      rw [q] at h
      cases o with
      | none => cases h
      | some y =>
        cases e : resolve δ r with
        | none => simp only [e] at h; cases h
        | some ys =>
          simp only [e] at h
          cases h
          obtain ⟨h1, h2⟩ := resolve_get e
          refine ⟨by rw [List.length_cons, List.length_cons, h1], fun m x hx => ?_⟩
          cases m with
          | zero => simp at hx; subst hx; exact .inr ⟨i, rfl, q⟩
          | succ m => simpa using h2 m x (by simpa using hx)
theorem repAs_get : ∀ {as : List AR} {vs : List V} {m : Nat} {a : AR}, RepAs K G σ as vs → as[m]? = some a → ∃ v, vs[m]? = some v ∧ RepA K G σ a v
  | [], _, _, _, _, h => by simp at h
  | b :: bs, vs, m, a, r, h => by
    unfold RepAs at r
    obtain ⟨v, w, rfl, r1, r2⟩ := r
    cases m with
    | zero => simp at h; subst h; exact ⟨v, rfl, r1⟩
    | succ m => simpa using repAs_get (m := m) r2 (by simpa using h)
theorem repAs_len : ∀ {as : List AR} {vs : List V}, RepAs K G σ as vs → vs.length = as.length
  | [], vs, r => by unfold RepAs at r; subst r; rfl
  | y :: ys, vs, r => by
    unfold RepAs at r
    obtain ⟨v, w, rfl, _, r2⟩ := r
    rw [List.length_cons, List.length_cons, repAs_len r2]
theorem upds_len : ∀ {as : List AR} {xs : List OD} {δ : En}, (upds δ as xs).length = δ.length
  | [], xs, δ => by cases xs <;> rfl
  | .d _ :: as, [], δ => rfl
  | .s _ :: as, [], δ => rfl
  | .d _ :: as, x :: xs, δ => by unfold upds; exact upds_len
  | .s i :: as, x :: xs, δ => by unfold upds; rw [upds_len, List.length_set]
theorem upds_get : ∀ {as : List AR} {xs : List OD} {δ : En} {j : Nat} {y : OD}, as.length = xs.length → (upds δ as xs)[j]? = some (some y) → (δ[j]? = some (some y) ∧ ∀ m : Nat, as[m]? ≠ some (.s j)) ∨ ∃ m : Nat, as[m]? = some (.s j) ∧ xs[m]? = some y
  | [], [], δ, j, y, _, h => .inl ⟨h, fun m => by simp⟩
  | [], _ :: _, _, _, _, hl, _ => by simp at hl
  | _ :: _, [], _, _, _, hl, _ => by simp at hl
  | .d d :: as, x :: xs, δ, j, y, hl, h => by
    unfold upds at h
    rcases upds_get (by simpa using hl) h with ⟨h1, h2⟩ | ⟨m, h1, h2⟩
    · refine .inl ⟨h1, fun m => ?_⟩
      cases m with
      | zero => simp
      | succ m => simpa using h2 m
    · exact .inr ⟨m + 1, by simpa using h1, by simpa using h2⟩
  | .s i :: as, x :: xs, δ, j, y, hl, h => by
    unfold upds at h
    rcases upds_get (by simpa using hl) h with ⟨h1, h2⟩ | ⟨m, h1, h2⟩
    · by_cases e : i = j
      · subst e
        by_cases hi : i < δ.length
        · rw [List.getElem?_set_self hi] at h1
          cases h1
          exact .inr ⟨0, rfl, rfl⟩
        · rw [List.getElem?_eq_none (by rw [List.length_set]; omega)] at h1
          cases h1
      · rw [List.getElem?_set_ne e] at h1
        refine .inl ⟨h1, fun m => ?_⟩
        cases m with
        | zero => simpa using e
        | succ m => simpa using h2 m
    · exact .inr ⟨m + 1, by simpa using h1, by simpa using h2⟩
theorem feet_set_same : ∀ {δ : En} {i : Nat} {y z : OD}, δ[i]? = some (some y) → foot z = foot y → feet (δ.set i (some z)) = feet δ
  | [], _, _, _, h, _ => by simp at h
  | w :: r, 0, y, z, h, hz => by simp at h; subst h; simp only [List.set_cons_zero, feet, hz]
  | w :: r, i + 1, y, z, h, hz => by
    have := feet_set_same (δ := r) (i := i) (by simpa using h) hz
    cases w <;> simp only [List.set_cons_succ, feet, this]
theorem upds_feet : ∀ {as : List AR} {xs : List OD} {δ : En}, (∀ (m n : Nat) (x : OD), as[m]? = some (.s n) → xs[m]? = some x → ∃ z, δ[n]? = some (some z) ∧ foot x = foot z) → feet (upds δ as xs) = feet δ
  | [], xs, δ, _ => by cases xs <;> rfl
  | .d _ :: as, [], δ, _ => rfl
  | .s _ :: as, [], δ, _ => rfl
  | .d _ :: as, x :: xs, δ, h => by
    unfold upds
    exact upds_feet fun m n y h1 h2 => h (m + 1) n y (by simpa using h1) (by simpa using h2)
  | .s i :: as, x :: xs, δ, h => by
    unfold upds
    obtain ⟨z, hz, hf⟩ := h 0 i x rfl rfl
    rw [upds_feet fun m n y h1 h2 => ?_]
    · exact feet_set_same hz hf
    · obtain ⟨w, hw, hwf⟩ := h (m + 1) n y (by simpa using h1) (by simpa using h2)
      by_cases e : i = n
      · subst e
        rw [hz] at hw
        simp at hw
        subst hw
        exact ⟨x, by rw [List.getElem?_set_self (List.getElem?_eq_some_iff.mp hz).1], hwf.trans hf.symm⟩
      · exact ⟨w, by rw [List.getElem?_set_ne e]; exact hw, hwf⟩
/-- the arguments' own state within the caller's -/
theorem args_st {as : List AR} {xs : List OD} {vs : List V} (s : Stt K G H σ δ) (r : RepAs K G σ as vs) (hx : resolve δ as = some xs) (nd : (foots xs).Nodup) : Stt K G H (vs.map some) (ens xs) where
  ex := s.ex
  len := by rw [List.length_map, List.length_map, repAs_len r, (resolve_get hx).1]
  rep := fun i x hi => by
    unfold ens at hi
    rw [List.getElem?_map] at hi
    cases q : xs[i]? with
    | none => rw [q] at hi; cases hi
    | some y =>
      rw [q] at hi
      simp at hi
      subst hi
      rcases (resolve_get hx).2 i y q with ⟨d, e1, e2⟩ | ⟨n, e1, e2⟩
      · obtain ⟨v, e, r'⟩ := repAs_get r e1
        subst e2
        exact ⟨v, by rw [List.getElem?_map, e]; rfl, by unfold RepO; exact r'⟩
      · obtain ⟨v, e, r'⟩ := repAs_get r e1
        obtain ⟨u, e3, r3⟩ := s.rep n y e2
        have r' : σ[n]? = some (some v) := r'
        rw [r'] at e3
        cases e3
        exact ⟨v, by rw [List.getElem?_map, e]; rfl, r3⟩
  nd := by rw [feet_ens]; exact nd
  off := fun a ha => by
    rw [feet_ens] at ha
    obtain ⟨x, hxm, hax⟩ := foots_find ha
    obtain ⟨m, hm⟩ := List.getElem?_of_mem hxm
    rcases (resolve_get hx).2 m x hm with ⟨d, e1, e2⟩ | ⟨n, e1, e2⟩
    · subst e2; unfold foot at hax; cases hax
    · exact s.off a (foot_in_feet e2 a hax)
theorem map_foot {xs xs' : List OD} (h : xs'.map foot = xs.map foot) : xs'.length = xs.length ∧ foots xs' = foots xs ∧ ∀ (m : Nat) (x' : OD), xs'[m]? = some x' → ∃ x, xs[m]? = some x ∧ foot x' = foot x := by
  have hl : xs'.length = xs.length := by simpa using congrArg List.length h
  refine ⟨hl, ?_, fun m x' hm => ?_⟩
  · have flat : ∀ ys : List OD, foots ys = (ys.map foot).flatten := by
      intro ys
      induction ys with
      | nil => unfold foots; rfl
      | cons y ys ih => unfold foots; rw [ih]; rfl
    rw [flat, flat, h]
  · have hlt := (List.getElem?_eq_some_iff.mp hm).1
    refine ⟨xs[m]'(by omega), by simp [← hl, hlt], ?_⟩
    have := congrArg (fun l => l[m]?) h
    simp only [List.getElem?_map, hm] at this
    rw [List.getElem?_eq_getElem (by omega : m < xs.length)] at this
    simpa using this
/-- behind a call: the caller's state -/
theorem args_back {as : List AR} {xs xs' : List OD} {vs : List V} {v : V} {x : OD} (s : Stt K G H σ δ) (r : RepAs K G σ as vs) (hx : resolve δ as = some xs) (hf : xs'.map foot = xs.map foot) (t : Step K G H (ens xs) G' H' (some v :: vs.map some) (some x :: ens xs')) :
    Step K G H δ G' H' (some v :: σ) (some x :: upds δ as xs') := by
  obtain ⟨hlen, hfoots, hfoot⟩ := map_foot hf
  obtain ⟨hal, hget⟩ := resolve_get hx
  have inA : ∀ a ∈ feet (ens xs), a ∈ feet δ := fun a ha => by
    rw [feet_ens] at ha
    obtain ⟨y, hy, hay⟩ := foots_find ha
    obtain ⟨m, hm⟩ := List.getElem?_of_mem hy
    rcases hget m y hm with ⟨d, e1, e2⟩ | ⟨n, e1, e2⟩
    · subst e2; unfold foot at hay; cases hay
    · exact foot_in_feet e2 a hay
  have gr : Grow (feet δ) G H G' H' := ⟨t.gr.g, fun a o ha e => t.gr.h a o (fun z => ha (inA a z)) e, fun a ha => (t.gr.new a ha).elim .inl fun z => .inr (z.elim .inl fun q => .inr (inA a q)), t.gr.there⟩
  have ff : feet (upds δ as xs') = feet δ := upds_feet fun m n y h1 h2 => by
    obtain ⟨z, hz, hfz⟩ := hfoot m y h2
    rcases hget m z hz with ⟨d, e1, e2⟩ | ⟨n', e1, e2⟩
    · rw [h1] at e1; cases e1
    · rw [h1] at e1; cases e1; exact ⟨z, e2, hfz⟩
  have base : Stt K G' H' σ (upds δ as xs') := by
    refine ⟨t.st.ex, by rw [upds_len]; exact s.len, fun j y hy => ?_, by rw [ff]; exact s.nd, fun a ha => ?_⟩
    · rcases upds_get (by rw [hal, hlen]) hy with ⟨h1, h2⟩ | ⟨m, h1, h2⟩
      · obtain ⟨u, e, ru⟩ := s.rep j y h1
        refine ⟨u, e, RepO.mono t.gr.g y u (fun a ha o ho => t.gr.h a o (fun hz => ?_) ho) ru⟩
        rw [feet_ens] at hz
        obtain ⟨z, hzm, haz⟩ := foots_find hz
        obtain ⟨m, hm⟩ := List.getElem?_of_mem hzm
        rcases hget m z hm with ⟨d, e1, e2⟩ | ⟨n, e1, e2⟩
        · subst e2; unfold foot at haz; cases haz
        · have := one_slot s.nd h1 e2 ha haz
          subst this
          exact h2 m e1
      · obtain ⟨w, e1, r1⟩ := repAs_get r h1
        have r1 : σ[j]? = some (some w) := r1
        obtain ⟨w', e2, r2⟩ := t.st.pop.rep m y (by unfold ens; rw [List.getElem?_map, h2]; rfl)
        rw [List.getElem?_map, e1] at e2
        simp at e2
        subst e2
        exact ⟨w, r1, r2⟩
    · rw [ff] at ha
      refine ⟨?_, gr.there a (s.off a ha).2⟩
      cases q : G' a with
      | none => rfl
      | some o =>
        rcases t.gr.new a (by rw [q]; simp) with z | z | z
        · exact (z (s.off a ha).1).elim
        · exact ((s.off a ha).2 z).elim
        · have := (t.st.pop.off a (by rw [feet_ens, hfoots, ← feet_ens]; exact z)).1
          rw [q] at this
          cases this
  have top := t.st
  have ndx := top.nd
  unfold feet at ndx
  obtain ⟨n1, n2, n3⟩ := List.nodup_append.mp ndx
  have fresh : ∀ a ∈ foot x, a ∉ feet δ := fun a ha hd => by
    rcases t.ft a (by unfold feet; exact List.mem_append_left _ ha) with z | z
    · exact n3 a ha a (by rw [feet_ens, hfoots, ← feet_ens]; exact z) rfl
    · exact (s.off a hd).2 z
  refine ⟨base.push top.top n1 fun a ha => ⟨(top.off a (by unfold feet; exact List.mem_append_left _ ha)).1, (top.off a (by unfold feet; exact List.mem_append_left _ ha)).2, by rw [ff]; exact fresh a ha⟩, gr, fun a ha => ?_⟩
  unfold feet at ha
  rcases List.mem_append.mp ha with h | h
  · rcases t.ft a (by unfold feet; exact List.mem_append_left _ h) with z | z
    · exact .inl (inA a z)
    · exact .inr z
  · rw [ff] at h; exact .inl h
end
section
variable {X : Cx} {e : Expr} {es : List Expr} {δ : En} {Q : OD → En → Prop} {pos p : Pos} {x : Str} {k : Nat} {f : Addr} {fd : FuncData} {ps : List Str} {C : Con}
/-- f(e, ..) by f's contract -/
theorem ev_call (F : FnG X.prog X.w X.K X.mg X.base k f fd ps (spC X.K C)) (hgd : X.A.guards = some []) (hr : Room k X.A) (hg : Gl X x) (hm : X.mg x = some (.ref f)) (hk : PySem.W.keepIn X.K (.ref f) = true) (hb : Binds X.K fd ps [])
    (h : Ea X (e :: es) δ fun as δ1 => ∃ i, resolve δ1 as = some (C.args i) ∧ (foots (C.args i)).Nodup ∧ C.pre i ∧ ∀ y xs', xs'.map foot = (C.args i).map foot → C.out i y xs' → Q y (upds δ1 as xs')) (hdb : (x == ("__debug__" : Str)) = false := by decide)
    (he : starEach (e :: es) X.env = (false, eval e X.env) :: starEach es X.env := by rfl) (hpl : (backTo pos (starEach es X.env)).any (·.1) = false := by rfl) : Ev X (.Call (.Name x p) (e :: es) [] pos) δ Q := fun G H σ s => by
  refine .mk fun pins s0 I => ?_
  refine wpAny_Call_Name_kw (ld_glob I hg hm ?_ hdb)
  refine PySem.W.callWith_K (h₀ := X.base) I.ok.mod.kin hk (thn ((h G H σ s).run pos pins s0 I) fun us s1 ⟨vs, H1, I1, r1, as, G1, δ1, t1, rs, i, hx, nd, hp, q⟩ => ⟨I1.kIn, ?_⟩) he hpl
  refine run_G F hgd hr hb I1 r1 ⟨G1, i, args_st t1.st rs hx nd, hp, fun v y xs' G' H' t hf ho => ?_⟩
  exact ⟨y, G', _, t1.trans (args_back t1.st rs hx hf t), q y xs' hf ho⟩
/-- what a body owes at its end -/
structure KeepA (xs xs' : List OD) (δ' : En) : Prop where
  ft : xs'.map foot = xs.map foot
  on : ∀ (j : Nat) (x : OD), xs'[j]? = some x → (foot x ≠ [] → δ'[j]? = some (some x)) ∧ (foot x = [] → xs[j]? = some x)
theorem feet_pad : ∀ (xs : List OD) (n : Nat), feet (ens xs ++ List.replicate n none) = foots xs
  | [], n => by
    show feet (List.replicate n none) = foots []
    unfold foots
    induction n with
    | zero => rfl
    | succ n ih => rw [List.replicate_succ]; unfold feet; exact ih
  | x :: xs, n => by
    show feet (some x :: (ens xs ++ List.replicate n none)) = foots (x :: xs)
    unfold feet foots
    rw [feet_pad xs n]
theorem start_st {K : PySem.W.Frag} {G H : Hp} {N : List Str} {xs : List OD} {vs : List V} (s : Stt K G H (vs.map some) (ens xs)) : Stt K G H (L2.start N vs) (ens xs ++ List.replicate (N.length - xs.length) none) := by
  have l : vs.length = xs.length := by have := s.len; unfold ens at this; rw [List.length_map, List.length_map] at this; exact this.symm
  refine ⟨s.ex, by unfold L2.start; rw [List.length_append, List.length_append, List.length_replicate, List.length_replicate, ← s.len, l], fun i x hx => ?_, by rw [feet_pad]; have := s.nd; rw [feet_ens] at this; exact this, fun a ha => s.off a (by rw [feet_pad] at ha; rw [feet_ens]; exact ha)⟩
  by_cases hi : i < xs.length
  · rw [List.getElem?_append_left (by unfold ens; rw [List.length_map]; exact hi)] at hx
    obtain ⟨v, e, r⟩ := s.rep i x hx
    exact ⟨v, by unfold L2.start; rw [List.getElem?_append_left (by rw [List.length_map]; omega)]; exact e, r⟩
  · rw [List.getElem?_append_right (by unfold ens; rw [List.length_map]; omega), List.getElem?_replicate] at hx
    split at hx <;> cases hx
/-- the arguments as they are handed back -/
theorem end_st {K : PySem.W.Frag} {G H G' H' : Hp} {xs xs' : List OD} {vs : List V} {δ0 δ' : En} {σ' : L2.St} {v : V} {y : OD} (s : Stt K G H (vs.map some) (ens xs)) (s0 : Stt K G H (L2.start N vs) δ0) (f0 : feet δ0 = foots xs) (p0 : ∀ (j : Nat) (x : OD), xs[j]? = some x → δ0[j]? = some (some x))
    (t : Step K G H δ0 G' H' (some v :: σ') (some y :: δ')) (hk : KeepA xs xs' δ') :
    Step K G H (ens xs) G' H' (some v :: vs.map some) (some y :: ens xs') := by
  obtain ⟨hlen, hfoots, hfoot⟩ := map_foot hk.ft
  have base : Stt K G' H' (vs.map some) (ens xs') := by
    refine ⟨t.st.ex, by have := s.len; unfold ens at this ⊢; rw [List.length_map, hlen, ← this, List.length_map], fun j x hx => ?_, by rw [feet_ens, hfoots, ← feet_ens]; exact s.nd, fun a ha => ?_⟩
    · have hx' : xs'[j]? = some x := by
        unfold ens at hx
        rw [List.getElem?_map] at hx
        cases q : xs'[j]? with
        | none => rw [q] at hx; cases hx
        | some z => rw [q] at hx; simp at hx; rw [hx]
      obtain ⟨k1, k2⟩ := hk.on j x hx'
      by_cases hf : foot x = []
      · obtain ⟨u, e, r⟩ := s.rep j x (by unfold ens; rw [List.getElem?_map, k2 hf]; rfl)
        exact ⟨u, e, rep_fz t.gr.g hf r⟩
      · obtain ⟨z, hz, hfz⟩ := hfoot j x hx'
        obtain ⟨u, e, r⟩ := s.rep j z (by unfold ens; rw [List.getElem?_map, hz]; rfl)
        obtain ⟨u', e', r'⟩ := t.st.pop.rep j x (k1 hf)
        refine ⟨u, e, ?_⟩
        have : u = u' := by
          -- one address
          cases q : foot x with
          | nil => exact absurd q hf
          | cons a rest =>
            have q' : foot z = a :: rest := hfz.symm.trans q
            rw [ref_hd q r', ref_hd q' r]
        rw [this]
        exact r'
    · rw [feet_ens] at ha
      obtain ⟨x, hx, hax⟩ := foots_find ha
      obtain ⟨j, hj⟩ := List.getElem?_of_mem hx
      have hf : foot x ≠ [] := fun z => by rw [z] at hax; cases hax
      exact t.st.pop.off a (foot_in_feet ((hk.on j x hj).1 hf) a hax)
  have nd := t.st.nd
  unfold feet at nd
  obtain ⟨n1, n2, n3⟩ := List.nodup_append.mp nd
  refine ⟨base.push t.st.top n1 fun a ha => ⟨(t.st.off a (by unfold feet; exact List.mem_append_left _ ha)).1, (t.st.off a (by unfold feet; exact List.mem_append_left _ ha)).2, fun hz => ?_⟩, ?_, fun a ha => ?_⟩
  · rw [feet_ens] at hz
    obtain ⟨x, hx, hax⟩ := foots_find hz
    obtain ⟨j, hj⟩ := List.getElem?_of_mem hx
    have hf : foot x ≠ [] := fun z => by rw [z] at hax; cases hax
    exact n3 a ha a (foot_in_feet ((hk.on j x hj).1 hf) a hax) rfl
  · rw [feet_ens, ← f0]
    exact t.gr
  · rw [feet_ens, ← f0]
    unfold feet at ha
    rcases List.mem_append.mp ha with h | h
    · exact t.ft a (by unfold feet; exact List.mem_append_left _ h)
    · rw [feet_ens, hfoots, ← f0] at h
      exact .inl h
/-- THE RULE for a def -/
theorem fn_con {P : Program} {w : World} {K : PySem.W.Frag} {mg : Str → Option Value} {base : Heap} {x qual : Str} {st : Stmt} {f : Addr} {fd : FuncData} {N ps : List Str} {k : Nat} {C : Con} (F : Fun K x qual st f fd) (S : FnScope N ps (defScope st)) (len : ∀ i, (C.args i).length = ps.length)
    (body : ∀ (cdv : Value) (A : Around) (outer : List Env) (s : Shared) (H : Hp) (E : XK) (i : C.ι), A.guards = some [] → Room k (A.deeper (envOfC qual (defScope st) s.heap.objs.size f cdv)) → C.pre i →
      Eb (cxOf CX0 P w K mg base N qual (defScope st) f cdv A outer s H E).nox (defBody st) (ens (C.args i) ++ List.replicate (N.length - (C.args i).length) none)
        { nx := fun δ' => ∃ xs', KeepA (C.args i) xs' δ' ∧ C.out i (.fz .non) xs', rt := fun y δ' => ∃ xs', KeepA (C.args i) xs' δ' ∧ C.out i y xs' }) : FnG P w K mg base (k + 1) f fd ps (spC K C) := by
  refine fnG_of F S (fun vs H Q E ⟨G, i, s, _⟩ => ?_) fun cdv A outer s H vs Q E hg hr ⟨G, i, st0, hp, q⟩ => ?_
  · have := s.len
    unfold ens at this
    rw [List.length_map, List.length_map] at this
    rw [← this]
    exact len i
  · have p0 : ∀ (j : Nat) (x : OD), (C.args i)[j]? = some x → (ens (C.args i) ++ List.replicate (N.length - (C.args i).length) none)[j]? = some (some x) := fun j x h => by
      have hj := (List.getElem?_eq_some_iff.mp h).1
      rw [List.getElem?_append_left (by unfold ens; rw [List.length_map]; exact hj)]
      unfold ens
      rw [List.getElem?_map, h]
      rfl
    refine (body cdv A outer s H E i hg hr hp G H (L2.start N vs) (start_st st0)).imp ⟨fun σ' H' ⟨G', δ', t, xs', hk, ho⟩ => ?_, fun v H' ⟨y, G', σ', δ', t, xs', hk, ho⟩ => ?_, fun _ _ ⟨_, _, _, z⟩ => z, fun _ _ ⟨_, _, _, z⟩ => z⟩
    · exact q .non _ xs' G' H' (end_st (N := N) st0 (start_st st0) (feet_pad _ _) p0 (t.pushF (v := .non) (d := .non) (by unfold Rep; rfl)) hk) hk.ft ho
    · exact q v y xs' G' H' (end_st (N := N) st0 (start_st st0) (feet_pad _ _) p0 t hk) hk.ft ho
end
end Vl

namespace Vl
open PySem PySem.Spec PyProof.Rows L2
/-! ### plain expressions, each with its one value; nothing changes -/
abbrev Ed (X : Cx) (e : Expr) (δ : En) (x : OD) : Prop := Ev X e δ fun y δ' => y = x ∧ δ' = δ
abbrev Edt (X : Cx) (e : Expr) (δ : En) (k : Bool) : Prop := Et X e δ fun r δ' => r = k ∧ δ' = δ
abbrev Edw (X : Cx) (e : Expr) (δ : En) (k : Bool) : Prop := Ew X e δ fun r δ' => r = k ∧ δ' = δ
abbrev Eda (X : Cx) (es : List Expr) (δ : En) (as : List AR) : Prop := Ea X es δ fun r δ' => r = as ∧ δ' = δ
section
variable {X : Cx} {e a b c : Expr} {es : List Expr} {δ : En} {Q : OD → En → Prop} {P : DE} {pos p p2 : Pos} {x y z : OD} {k k2 : Bool} {xs : List AR} {nm : Str}
theorem Ev.use (h : Ed X e δ x) (q : Q x δ) : Ev X e δ Q := h.imp fun _ _ ⟨e1, e2⟩ => by subst e1; subst e2; exact q
theorem Et.use {R : Bool → En → Prop} (h : Edt X e δ k) (q : R k δ) : Et X e δ R := h.imp fun _ _ ⟨e1, e2⟩ => by subst e1; subst e2; exact q
theorem Ea.imp {R R' : List AR → En → Prop} (h : Ea X es δ R) (q : ∀ x δ', R x δ' → R' x δ') : Ea X es δ R' := fun G H σ s => (h G H σ s).imp fun _ _ ⟨x, G', d', s', r, z⟩ => ⟨x, G', d', s', r, q x d' z⟩
theorem Ea.use {R : List AR → En → Prop} (h : Eda X es δ xs) (q : R xs δ) : Ea X es δ R := h.imp fun _ _ ⟨e1, e2⟩ => by subst e1; subst e2; exact q
theorem Ev.is {x' : OD} (h : Ed X e δ x) (q : x = x') : Ed X e δ x' := h.use ⟨q, rfl⟩
theorem Et.is (h : Edt X e δ k) (q : k = k2) : Edt X e δ k2 := h.use ⟨q, rfl⟩
theorem ed_var (i : Nat) {x : Str} {d : D} (hN : X.N[i]? = some x) (hv : Vis X.env.scope x) (hδ : δ[i]? = some (some (.fz d))) (hd : (x == ("__debug__" : Str)) = false := by decide) (hcd : (x == ("__classdict__" : Str)) = false := by decide) : Ed X (.Name x pos) δ (.fz d) := ev_var i hN hv hδ ⟨rfl, rfl⟩ hd hcd
theorem ed_int {i : Int} {j} : Ed X (.Constant (.int i) j pos) δ (.fz (.int i)) := ev_int ⟨rfl, rfl⟩
theorem ed_bl {i : Bool} {j} : Ed X (.Constant (.bool i) j pos) δ (.fz (.bl i)) := ev_bl ⟨rfl, rfl⟩
theorem ed_non {j} : Ed X (.Constant .none j pos) δ (.fz .non) := ev_non ⟨rfl, rfl⟩
theorem ed_str {i : Str} {j} : Ed X (.Constant (.str i) j pos) δ (.fz (.str i)) := ev_str ⟨rfl, rfl⟩
theorem ed_bltn {v : V} {u : Value} (hg : Gl X nm) (hm : X.mg nm = none) (hv : bootBuiltins nm = some u) (r : RelV v u) (hn : nm ≠ "__name__" := by decide) (hd : (nm == ("__debug__" : Str)) = false := by decide) : Ed X (.Name nm pos) δ (.fz (.op v)) := ev_bltn hg hm hv r ⟨rfl, rfl⟩ hn hd
theorem ed_globR {i : Addr} (hg : Gl X nm) (hm : X.mg nm = some (.ref i)) (hd : (nm == ("__debug__" : Str)) = false := by decide) : Ed X (.Name nm pos) δ (.fz (.op (.ref i))) := ev_globR hg hm ⟨rfl, rfl⟩ hd
theorem ed_globI {i : Int} (hg : Gl X nm) (hm : ∃ t, X.mg nm = some (.int i t)) (hd : (nm == ("__debug__" : Str)) = false := by decide) : Ed X (.Name nm pos) δ (.fz (.int i)) := by
  obtain ⟨t, h⟩ := hm
  exact ev_globI hg h ⟨rfl, rfl⟩ hd
theorem RD.and {f : Value → Value → Sem Value} {B : Prop} (h : RD X f x y (· = z)) (hb : B) : RD X f x y (fun w => w = z ∧ B) := by
  obtain ⟨r, ho, d1, d2, e1, e2, od⟩ := h
  exact ⟨r, ho, d1, d2, e1, e2, fun G H v1 v2 kk s r1 r2 z => od G H v1 v2 kk s r1 r2 fun d v G' H' q => z d v G' H' ⟨q, hb⟩⟩
theorem RD.isB {f : Value → Value → Sem Value} {R : Bool → Prop} (h : RD X f x y (· = .fz (.bl k))) (hb : R k) : RD X f x y (Vl.isB R) := by
  obtain ⟨r, ho, d1, d2, e1, e2, od⟩ := h
  exact ⟨r, ho, d1, d2, e1, e2, fun G H v1 v2 kk s r1 r2 z => od G H v1 v2 kk s r1 r2 fun d v G' H' q => z d v G' H' ⟨k, q, hb⟩⟩
theorem ed_bin {op : Operator} (ha : Ed X a δ x) (hb : Ed X b δ y) (h : RD X (binaryOp op) x y (· = z)) : Ed X (.BinOp a op b pos) δ z := ev_bin (ha.use (hb.use (h.and rfl)))
theorem ed_cmp {op : CmpOp} (ha : Ed X a δ x) (hb : Ed X b δ y) (h : RD X (compareOp op) x y (· = z)) (hm : behindInMarks op b = false := by first | rfl | with_unfolding_all rfl) : Ed X (.Compare a [op] [b] pos) δ z := ev_cmp1 (ha.use (hb.use (h.and rfl))) hm
theorem ed_cmpT {op : CmpOp} (ha : Ed X a δ x) (hb : Ed X b δ y) (h : RD X (compareOp op) x y (· = .fz (.bl k))) (hm : behindInMarks op b = false := by first | rfl | with_unfolding_all rfl) : Edt X (.Compare a [op] [b] pos) δ k := et_cmp1 (ha.use (hb.use (h.isB ⟨rfl, rfl⟩))) hm
theorem ed_valT (h : Ed X e δ (.fz (.bl k))) (he : ∀ whole, isTrue e X.env whole = (do let v ← whole; standAt e.pos; holding [v] (truthy v)) := by intro _; rfl) : Edt X e δ k := et_val (h.use ⟨k, rfl, rfl, rfl⟩) he
theorem ed_notT (h : Edt X a δ k) : Edt X (.UnaryOp .Not a pos) δ (!k) := et_not (h.use ⟨rfl, rfl⟩)
theorem ed_and1 (h : Edt X a δ k) : Edw X (.BoolOp .And [a] pos) δ k := ew_and1 h
theorem ed_or1 (h : Edt X a δ k) : Edw X (.BoolOp .Or [a] pos) δ k := ew_or1 h
theorem ed_andW {rest : List Expr} (ha : Edt X a δ k) (hb : k = true → Edw X (.BoolOp .And (b :: rest) pos) δ k2) : Edw X (.BoolOp .And (a :: b :: rest) pos) δ (k && k2) := ew_and (ha.use ⟨fun q => by subst q; exact hb rfl, fun q => by subst q; exact ⟨rfl, rfl⟩⟩)
theorem ed_orW {rest : List Expr} (ha : Edt X a δ k) (hb : k = false → Edw X (.BoolOp .Or (b :: rest) pos) δ k2) : Edw X (.BoolOp .Or (a :: b :: rest) pos) δ (k || k2) := ew_or (ha.use ⟨fun q => by subst q; exact hb rfl, fun q => by subst q; exact ⟨rfl, rfl⟩⟩)
theorem ed_W {op : BoolOp} (h : Edw X (.BoolOp op es pos) δ k) : Edt X (.BoolOp op es pos) δ k := et_w h
theorem ed_one {op : BoolOp} (h : Ed X a δ x) : Ed X (.BoolOp op [a] pos) δ x := ev_one h
theorem ed_and {rest : List Expr} (ha : Ed X a δ (.fz (.bl k))) (hb : k = true → Ed X (.BoolOp .And (b :: rest) pos) δ (.fz (.bl k2))) : Ed X (.BoolOp .And (a :: b :: rest) pos) δ (.fz (.bl (k && k2))) :=
  ev_and (ha.use ⟨k, rfl, fun q => by subst q; exact hb rfl, fun q => by subst q; exact ⟨rfl, rfl⟩⟩)
theorem ed_or {rest : List Expr} (ha : Ed X a δ (.fz (.bl k))) (hb : k = false → Ed X (.BoolOp .Or (b :: rest) pos) δ (.fz (.bl k2))) : Ed X (.BoolOp .Or (a :: b :: rest) pos) δ (.fz (.bl (k || k2))) :=
  ev_or (ha.use ⟨k, rfl, fun q => by subst q; exact hb rfl, fun q => by subst q; exact ⟨rfl, rfl⟩⟩)
theorem ed_not (h : Ed X a δ (.fz (.bl k))) : Ed X (.UnaryOp .Not a pos) δ (.fz (.bl (!k))) := ev_not (h.use ⟨k, rfl, rfl, rfl⟩)
/-- a if c else b, both of one kind -/
theorem ed_ifD {d1 d2 : D} (hc : Edt X c δ k) (h1 : k = true → Ed X a δ (.fz d1)) (h2 : k = false → Ed X b δ (.fz d2)) : Ed X (.IfExp c a b pos) δ (.fz (if k = true then d1 else d2)) :=
  ev_if (hc.use ⟨fun q => by subst q; exact (h1 rfl).use ⟨rfl, rfl⟩, fun q => by subst q; exact (h2 rfl).use ⟨rfl, rfl⟩⟩)
theorem ed_ifI {i j : Int} (hc : Edt X c δ k) (h1 : k = true → Ed X a δ (.fz (.int i))) (h2 : k = false → Ed X b δ (.fz (.int j))) : Ed X (.IfExp c a b pos) δ (.fz (.int (if k = true then i else j))) :=
  ev_if (hc.use ⟨fun q => by subst q; exact (h1 rfl).use ⟨rfl, rfl⟩, fun q => by subst q; exact (h2 rfl).use ⟨rfl, rfl⟩⟩)
theorem ed_chain {op op' : CmpOp} (ha : Ed X a δ x) (hb : Ed X b δ y) (h1 : RD X (compareOp op) x y (· = .fz (.bl k))) (hc : k = true → Ed X c δ z) (h2 : k = true → RD X (compareOp op') y z (· = .fz (.bl k2)))
    (hm : lastMarks [op, op'] [b, c] = false := by with_unfolding_all rfl) : Edt X (.Compare a [op, op'] [b, c] pos) δ (k && k2) := by
  obtain ⟨r, ho, d1, d2, e1, e2, od⟩ := h1
  refine et_chain (ha.use (hb.use ⟨r, ho, d1, d2, e1, e2, fun G H v1 v2 kk s r1 r2 z => od G H v1 v2 kk s r1 r2 fun d v G' H' q g h e n rd => z d v G' H' ⟨k, q, fun q => ?_, fun q => by rw [q]; exact ⟨rfl, rfl⟩⟩ g h e n rd⟩)) hm
  exact (hc q).use ((h2 q).isB ⟨by rw [q]; rfl, rfl⟩)
theorem IxD.and {B : Prop} (h : IxD X x y (· = z)) (hb : B) : IxD X x y (fun w => w = z ∧ B) := by
  obtain ⟨r, ho, d1, d2, e1, e2, od⟩ := h
  exact ⟨r, ho, d1, d2, e1, e2, fun G H v1 v2 kk s r1 r2 z => od G H v1 v2 kk s r1 r2 fun d v G' H' q => z d v G' H' ⟨q, hb⟩⟩
theorem ed_ix (ha : Ed X a δ x) (hb : Ed X b δ y) (h : IxD X x y (· = z)) (hs : PlainIx b := by exact fun _ _ => rfl) : Ed X (.Subscript a b pos) δ z := ev_ix (ha.use (hb.use (h.and rfl))) hs
theorem Ep.use {o : Option Expr} {i : Option Int} {R : Option Int → Prop} (h : Ep X o δ (· = i)) (q : R i) : Ep X o δ R := by
  obtain ⟨i0, e, h⟩ := h
  exact ⟨i0, e ▸ q, h⟩
theorem ed_some {i : Int} (h : Ed X e δ (.fz (.int i))) : Ep X (some e) δ (· = some i) := ep_some h rfl
theorem SlD.and {B : Prop} {l u : Option Int} (h : SlD X x l u (· = z)) (hb : B) : SlD X x l u (fun w => w = z ∧ B) := by
  obtain ⟨r, ho, d1, e1, od⟩ := h
  exact ⟨r, ho, d1, e1, fun G H v1 kk s r1 z => od G H v1 kk s r1 fun d v G' H' q => z d v G' H' ⟨q, hb⟩⟩
theorem ed_sl {lo hi : Option Expr} {l u : Option Int} (he : Ed X e δ x) (hl : Ep X lo δ (· = l)) (hu : Ep X hi δ (· = u)) (h : SlD X x l u (· = z)) : Ed X (.Subscript e (.Slice lo hi none p2) pos) δ z := ev_sl (he.use (hl.use (hu.use (h.and rfl))))
theorem ed_anil : Eda X [] δ [] := ea_nil ⟨rfl, rfl⟩
theorem ed_acons {d : D} (h : Ed X e δ (.fz d)) (hr : Eda X es δ xs) (hs : starEach (e :: es) X.env = (false, eval e X.env) :: starEach es X.env := by rfl) : Eda X (e :: es) δ (.d d :: xs) := ea_cons (h.use ⟨d, rfl, hr.use ⟨rfl, rfl⟩⟩) hs
theorem ed_aslot (i : Nat) {x : Str} {y : OD} (hN : X.N[i]? = some x) (hv : Vis X.env.scope x) (hδ : δ[i]? = some (some y)) (h : Eda X es δ xs) (hs : starEach (.Name x pos :: es) X.env = (false, eval (.Name x pos) X.env) :: starEach es X.env := by rfl)
    (hd : (x == ("__debug__" : Str)) = false := by decide) (hcd : (x == ("__classdict__" : Str)) = false := by decide) : Eda X (.Name x pos :: es) δ (.s i :: xs) := ea_slot i hN hv hδ (h.use ⟨rfl, rfl⟩) hs hd hcd
theorem ed_lst {ds : List D} (h : Eda X es δ xs) (e1 : xs = ds.map .d) (hl : ds.length ≤ 100000) : Ed X (.List es pos) δ (.fz (.lst ds)) := ev_lst (h.use ⟨ds, e1, hl, rfl, rfl⟩)
theorem ed_tup {kk : Nat} {ds : List D} (h : Eda X es δ xs) (e1 : xs = ds.map .d) (hl : ds.length ≤ 100000) : Ed X (.Tuple es kk pos) δ (.fz (.tup ds)) := ev_tup (h.use ⟨ds, e1, hl, rfl, rfl⟩)
theorem CD.and {B : Prop} {f : Value} {ds : List D} (h : CD X f ds (· = z)) (hb : B) : CD X f ds (fun w => w = z ∧ B) := by
  obtain ⟨r, ho, od⟩ := h
  exact ⟨r, ho, fun G H vs kk s r1 z => od G H vs kk s r1 fun d v G' H' q => z d v G' H' ⟨q, hb⟩⟩
theorem ed_callB {id : String} {ds : List D} (hg : Gl X nm) (hm : X.mg nm = none) (hv : bootBuiltins nm = some (.builtin id)) (h : Eda X (e :: es) δ xs) (hx : xs = ds.map .d) (hc : CD X (.builtin id) ds (· = z)) (hn : nm ≠ "__name__" := by decide) (hdb : (nm == ("__debug__" : Str)) = false := by decide)
    (he : starEach (e :: es) X.env = (false, eval e X.env) :: starEach es X.env := by rfl) (hpl : (backTo pos (starEach es X.env)).any (·.1) = false := by rfl) : Ed X (.Call (.Name nm p) (e :: es) [] pos) δ z := ev_callB hg hm hv (h.use ⟨ds, hx, hc.and rfl⟩) hn hdb he hpl
theorem ed_callT {id : String} {ds : List D} (hg : Gl X nm) (hm : X.mg nm = none) (hv : bootBuiltins nm = some (.type id)) (h : Eda X (e :: es) δ xs) (hx : xs = ds.map .d) (hc : CD X (.type id) ds (· = z)) (hn : nm ≠ "__name__" := by decide) (hdb : (nm == ("__debug__" : Str)) = false := by decide)
    (he : starEach (e :: es) X.env = (false, eval e X.env) :: starEach es X.env := by rfl) (hpl : (backTo pos (starEach es X.env)).any (·.1) = false := by rfl) : Ed X (.Call (.Name nm p) (e :: es) [] pos) δ z := ev_callT hg hm hv (h.use ⟨ds, hx, hc.and rfl⟩) hn hdb he hpl
theorem es_never {st : Stmt} (h : False) : Es X st δ P := h.elim
/-- an if whose test is known -/
theorem es_ifK {a b : List Stmt} (hc : Edt X c δ k) (h1 : k = true → Eb X a δ P) (h2 : k = false → Eb X b δ P) : Es X (.If c a b pos) δ P := es_if (hc.use ⟨h1, h2⟩)
end
theorem bt_len : bootBuiltins "len" = some (.builtin "len") := by decide +kernel
theorem bt_isinstance : bootBuiltins "isinstance" = some (.builtin "isinstance") := by decide +kernel
theorem bt_int : bootBuiltins "int" = some (.type "int") := by decide +kernel
theorem bt_bool : bootBuiltins "bool" = some (.type "bool") := by decide +kernel
theorem bt_list : bootBuiltins "list" = some (.type "list") := by decide +kernel
theorem bt_tuple : bootBuiltins "tuple" = some (.type "tuple") := by decide +kernel
theorem bt_dict : bootBuiltins "dict" = some (.type "dict") := by decide +kernel
theorem bt_str : bootBuiltins "str" = some (.type "str") := by decide +kernel
theorem bt_min : bootBuiltins "min" = some (.builtin "min") := by decide +kernel
theorem bt_max : bootBuiltins "max" = some (.builtin "max") := by decide +kernel
theorem bt_all : bootBuiltins "all" = some (.builtin "all") := by decide +kernel
theorem bt_any : bootBuiltins "any" = some (.builtin "any") := by decide +kernel
theorem bt_sum : bootBuiltins "sum" = some (.builtin "sum") := by decide +kernel
theorem bt_sorted : bootBuiltins "sorted" = some (.builtin "sorted") := by decide +kernel
theorem bt_repr : bootBuiltins "repr" = some (.builtin "repr") := by decide +kernel
theorem bt_range : bootBuiltins "range" = some (.type "range") := by decide +kernel
theorem bt_enumerate : bootBuiltins "enumerate" = some (.type "enumerate") := by decide +kernel
theorem bt_zip : bootBuiltins "zip" = some (.type "zip") := by decide +kernel
theorem k_list_list : kitB "list" "list" = some true := by decide +kernel
theorem k_int_int : kitB "int" "int" = some true := by decide +kernel
theorem k_int_bool : kitB "int" "bool" = some false := by decide +kernel
/-! ### typed data -/
def LI (ns : List Int) : D := .lst (ns.map .int)
def LL (rows : List (List Int)) : D := .lst (rows.map LI)
section
variable {X : Cx} {S : OD → Prop}
theorem ix_I {ns : List Int} {i : Int} (h0 : 0 ≤ i) (h1 : i < ns.length) (q : S (.fz (.int (ns.getD i.toNat 0)))) : IxD X (.fz (LI ns)) (.fz (.int i)) S := ix_L (by
  obtain ⟨n, rfl⟩ : ∃ n : Nat, i = n := ⟨i.toNat, by omega⟩
  refine atI_nat ?_
  have hl : n < ns.length := by omega
  rw [List.getElem?_map, List.getElem?_eq_getElem hl]
  simp [hl]) q
theorem ix_LL {rows : List (List Int)} {i : Int} (h0 : 0 ≤ i) (h1 : i < rows.length) (q : S (.fz (LI (rows.getD i.toNat [])))) : IxD X (.fz (LL rows)) (.fz (.int i)) S := ix_L (by
  obtain ⟨n, rfl⟩ : ∃ n : Nat, i = n := ⟨i.toNat, by omega⟩
  refine atI_nat ?_
  have hl : n < rows.length := by omega
  rw [List.getElem?_map, List.getElem?_eq_getElem hl]
  simp [hl]) q
theorem len_I {ns : List Int} (q : S (.fz (.int ns.length))) : CD X (.builtin "len") [LI ns] S := cd_len (by rw [List.length_map]; exact q)
theorem len_LL {rows : List (List Int)} (q : S (.fz (.int rows.length))) : CD X (.builtin "len") [LL rows] S := cd_len (by rw [List.length_map]; exact q)
theorem isi_LI {ns : List Int} {t : String} {r : Bool} (hk : kitB "list" t = some r) (q : S (.fz (.bl r))) : CD X (.builtin "isinstance") [LI ns, .op (.ty t)] S := cd_isi (d := LI ns) (by show ("list" : String) ≠ ""; decide) hk q
theorem isi_LL {ns : List (List Int)} {t : String} {r : Bool} (hk : kitB "list" t = some r) (q : S (.fz (.bl r))) : CD X (.builtin "isinstance") [LL ns, .op (.ty t)] S := cd_isi (d := LL ns) (by show ("list" : String) ≠ ""; decide) hk q
theorem isi_int {n : Int} {t : String} {r : Bool} (hk : kitB "int" t = some r) (q : S (.fz (.bl r))) : CD X (.builtin "isinstance") [.int n, .op (.ty t)] S := cd_isi (d := .int n) (by show ("int" : String) ≠ ""; decide) hk q
end
/-! ### defs of the text, callees -/
structure Def (K : PySem.W.Frag) (mg : Str → Option Value) (nm : Str) (st : Stmt) (ps : List Str) : Prop where
  ex : ∃ f fd, Fun K nm nm st f fd ∧ mg nm = some (.ref f) ∧ Binds K fd ps []
structure Cl (P : Program) (w : World) (K : PySem.W.Frag) (mg : Str → Option Value) (base : Heap) (k : Nat) (nm : Str) (ps : List Str) (C : Con) : Prop where
  ex : ∃ f fd, FnG P w K mg base k f fd ps (spC K C) ∧ mg nm = some (.ref f) ∧ PySem.W.keepIn K (.ref f) = true ∧ Binds K fd ps []
section
variable {P : Program} {w : World} {K : PySem.W.Frag} {mg : Str → Option Value} {base : Heap} {k j : Nat} {nm : Str} {ps N : List Str} {C : Con} {st : Stmt}
theorem Cl.mono (c : Cl P w K mg base j nm ps C) (h : j ≤ k) : Cl P w K mg base k nm ps C := by
  obtain ⟨f, fd, F, r⟩ := c.ex
  exact ⟨f, fd, F.mono h, r⟩
/-- THE RULE for a def, once more -/
theorem Def.cl (D : Def K mg nm st ps) (S : FnScope N ps (defScope st)) (len : ∀ i, (C.args i).length = ps.length)
    (body : ∀ (f : Addr) (cdv : Value) (A : Around) (outer : List Env) (s : Shared) (H : Hp) (E : XK) (i : C.ι), A.guards = some [] → Room k (A.deeper (envOfC nm (defScope st) s.heap.objs.size f cdv)) → C.pre i →
      Eb (cxOf CX0 P w K mg base N nm (defScope st) f cdv A outer s H E).nox (defBody st) (ens (C.args i) ++ List.replicate (N.length - (C.args i).length) none)
        { nx := fun δ' => ∃ xs', KeepA (C.args i) xs' δ' ∧ C.out i (.fz .non) xs', rt := fun y δ' => ∃ xs', KeepA (C.args i) xs' δ' ∧ C.out i y xs' }) : Cl P w K mg base (k + 1) nm ps C := by
  obtain ⟨f, fd, F, g, b⟩ := D.ex
  exact ⟨f, fd, fn_con F S len (body f), g, F.kp, b⟩
end
def isFz : OD → Bool
  | .fz _ => true
  | _ => false
theorem isFz_foot {x : OD} (h : isFz x = true) : foot x = [] := by
  cases x with
  | fz d => unfold foot; rfl
  | own a xs => cases h
  | vol a φ => cases h
  | otp a xs => cases h
  | ins a dx C ns xs => cases h
theorem keep_fz {xs : List OD} {δ' : En} (h : xs.all isFz = true) : KeepA xs xs δ' := ⟨rfl, fun j x hx => ⟨fun hf => absurd (isFz_foot (List.all_eq_true.mp h x (List.mem_of_getElem? hx))) hf, fun _ => hx⟩⟩
/-- the first argument an object that stands in its slot -/
theorem keep_one {y y' : OD} {xs : List OD} {δ' : En} (h0 : δ'[0]? = some (some y')) (hf : foot y' = foot y) (hn : foot y ≠ []) (h : xs.all isFz = true) : KeepA (y :: xs) (y' :: xs) δ' := ⟨by rw [List.map_cons, List.map_cons, hf], fun j x hx => by
  cases j with
  | zero => simp at hx; subst hx; exact ⟨fun _ => h0, fun q => absurd (hf.symm.trans q) hn⟩
  | succ j =>
    have hx' : xs[j]? = some x := by simpa using hx
    exact ⟨fun hf => absurd (isFz_foot (List.all_eq_true.mp h x (List.mem_of_getElem? hx'))) hf, fun _ => by simpa using hx'⟩⟩
theorem foots_nil : ∀ {xs : List OD}, xs.all isFz = true → foots xs = []
  | [], _ => by unfold foots; rfl
  | x :: xs, h => by
    rw [List.all_cons, Bool.and_eq_true] at h
    unfold foots
    rw [foots_nil h.2, isFz_foot h.1]
    rfl
section
variable {X : Cx} {e : Expr} {es : List Expr} {δ : En} {Q : OD → En → Prop} {pos p : Pos} {z : OD} {nm : Str} {k : Nat} {ps : List Str} {C : Con} {as : List AR}
theorem ev_cl (c : Cl X.prog X.w X.K X.mg X.base k nm ps C) (hgd : X.A.guards = some []) (hr : Room k X.A) (hg : Gl X nm) (h : Ea X (e :: es) δ fun as δ1 => ∃ i, resolve δ1 as = some (C.args i) ∧ (foots (C.args i)).Nodup ∧ C.pre i ∧ ∀ y xs', xs'.map foot = (C.args i).map foot → C.out i y xs' → Q y (upds δ1 as xs'))
    (hdb : (nm == ("__debug__" : Str)) = false := by decide)
    (he : starEach (e :: es) X.env = (false, eval e X.env) :: starEach es X.env := by rfl) (hpl : (backTo pos (starEach es X.env)).any (·.1) = false := by rfl) : Ev X (.Call (.Name nm p) (e :: es) [] pos) δ Q := by
  obtain ⟨f, fd, F, g, kp, b⟩ := c.ex
  exact ev_call F hgd hr hg g kp b h hdb he hpl
theorem upds_d : ∀ {ds : List D} {xs : List OD} {δ : En}, upds δ (ds.map .d) xs = δ
  | [], xs, δ => by cases xs <;> rfl
  | d :: ds, [], δ => rfl
  | d :: ds, x :: xs, δ => by rw [List.map_cons]; unfold upds; exact upds_d
/-- f(e, ..) with plain arguments, whose answer is one -/
theorem ed_clF (c : Cl X.prog X.w X.K X.mg X.base k nm ps C) (hgd : X.A.guards = some []) (hr : Room k X.A) (hg : Gl X nm) {i : C.ι} {ds : List D} (h : Eda X (e :: es) δ as) (ha : as = ds.map .d) (hi : C.args i = ds.map .fz) (hp : C.pre i) (ho : ∀ y xs', C.out i y xs' → y = z) (hdb : (nm == ("__debug__" : Str)) = false := by decide)
    (he : starEach (e :: es) X.env = (false, eval e X.env) :: starEach es X.env := by rfl) (hpl : (backTo pos (starEach es X.env)).any (·.1) = false := by rfl) : Ed X (.Call (.Name nm p) (e :: es) [] pos) δ z := by
  subst ha
  have res : ∀ ds : List D, resolve δ (ds.map .d) = some (ds.map .fz) := by
    intro ds
    induction ds with
    | nil => rfl
    | cons d ds ih => rw [List.map_cons, List.map_cons]; unfold resolve; rw [ih]; rfl
  refine ev_cl c hgd hr hg (h.use ⟨i, by rw [hi]; exact res ds, ?_, hp, fun y xs' _ q => ⟨ho y xs' q, upds_d⟩⟩) hdb he hpl
  rw [hi, foots_fz]
  exact List.nodup_nil
end
/-- an item of enumerate -/
theorem enD_get {α : Type} {f : α → D} {xs : List α} {k i : Nat} {d : D} (dflt : α) (h : (enD k (xs.map f))[i]? = some d) : i < xs.length ∧ d = .tup [.int ((i + k : Nat) : Int), f (xs.getD i dflt)] := by
  unfold enD at h
  rw [List.getElem?_mapIdx, List.getElem?_map] at h
  cases e : xs[i]? with
  | none => rw [e] at h; cases h
  | some a =>
    rw [e] at h
    simp at h
    refine ⟨(List.getElem?_eq_some_iff.mp e).1, ?_⟩
    rw [← h, List.getD_eq_getElem?_getD, e]
    rfl
theorem map_get {α : Type} {f : α → D} {xs : List α} {i : Nat} {d : D} (dflt : α) (h : (xs.map f)[i]? = some d) : i < xs.length ∧ d = f (xs.getD i dflt) := by
  rw [List.getElem?_map] at h
  cases e : xs[i]? with
  | none => rw [e] at h; cases h
  | some a =>
    rw [e] at h
    simp at h
    refine ⟨(List.getElem?_eq_some_iff.mp e).1, ?_⟩
    rw [← h, List.getD_eq_getElem?_getD, e]
    rfl
end Vl

namespace Vl
open PySem PySem.Spec PyProof.Rows L2
section
variable {X : Cx} {e a b c tg iter elt : Expr} {es ts ifs : List Expr} {δ : En} {pos p p2 p3 : Pos} {x y : Str} {scope : Scope} {own : List (Str × Nat)} {S : OD → Prop}
theorem Ei.imp {R R' : List D → En → Prop} (h : Ei X tg iter δ R) (q : ∀ ds δ', R ds δ' → R' ds δ') : Ei X tg iter δ R' := fun G H σ s => (h G H σ s).imp fun J H1 ⟨G1, ds, δ1, s1, r, k⟩ => ⟨G1, ds, δ1, s1, q _ _ r, k⟩
theorem ed_lc {ds : List D} (f : Nat → Option D) (hc : X.calm = true) (hN : X.N.Nodup) (ok : BlkOk X.N X.env.scope scope own) (hi : Ei X tg iter δ fun r δ1 => r = ds ∧ δ1 = δ) (hz : ds.length ≤ 100000) (hw : feet (wipeE δ (own.map (·.2))) = feet δ)
    (step : ∀ i d, ds[i]? = some d → ∃ t : En, wipeE t (own.map (·.2)) = wipeE δ (own.map (·.2)) ∧ (∀ Y, Blk X scope Y → Egb Y tg (own.map (·.2)) d (wipeE δ (own.map (·.2))) fun δ2 => δ2 = t) ∧
      ∃ k : Bool, (∀ Y, Blk X scope Y → Ets Y ifs t fun r δ' => r = k ∧ δ' = t) ∧ (k = false → f i = none) ∧ (k = true → ∃ d', f i = some d' ∧ ∀ Y, Blk X scope Y → Ed Y elt t (.fz d')))
    (hs : ∀ x, foldedSetIterable iter X.env x = pure x := by intro _; rfl) : Ed X (.ListComp elt [⟨tg, iter, ifs, 0⟩] scope pos) δ (.fz (.lst ((List.range ds.length).filterMap f))) :=
  ev_lc (own := own) hc hN ⟨ok, ds, fun i acc δ1 => δ1 = δ ∧ acc = (List.range i).filterMap f, hi.imp fun r δ1 ⟨e1, e2⟩ => ⟨e1, e2, rfl⟩, hz, fun i d acc δ1 hd ⟨e1, e2⟩ => by
    subst e1
    obtain ⟨t, h1, h2, k, h3, h4, h5⟩ := step i d hd
    refine ⟨hw, t, h1, h2, k, h3, fun q => ⟨rfl, ?_⟩, fun q => ?_⟩
    · rw [List.range_succ, List.filterMap_append, ← e2]
      simp [h4 q]
    · obtain ⟨d', h6, h7⟩ := h5 q
      refine ⟨δ1, hw, rfl, fun _ _ => rfl, fun Y hY => (h7 Y hY).use ⟨h1, d', rfl, rfl, ?_⟩⟩
      rw [List.range_succ, List.filterMap_append, ← e2]
      simp [h6], fun l acc δ1 ⟨e1, e2⟩ => ⟨by rw [e2], e1⟩⟩ hs
theorem range_map_getD {α β : Type} (xs : List α) (h : α → β) : ∀ n, n ≤ xs.length → (List.range n).filterMap (fun i => (xs[i]?).map h) = (xs.take n).map h
  | 0, _ => by simp
  | n + 1, hn => by
    rw [List.range_succ, List.filterMap_append, range_map_getD xs h n (by omega), List.take_succ, List.map_append]
    congr 1
    have : n < xs.length := by omega
    simp [this]
theorem range_filter_getD {α β : Type} (xs : List α) (p : α → Bool) (h : α → β) : ∀ n, n ≤ xs.length → (List.range n).filterMap (fun i => (xs[i]?).bind fun x => if p x then some (h x) else none) = ((xs.take n).filter p).map h
  | 0, _ => by simp
  | n + 1, hn => by
    rw [List.range_succ, List.filterMap_append, range_filter_getD xs p h n (by omega), List.take_succ, List.filter_append, List.map_append]
    congr 1
    have : n < xs.length := by omega
    by_cases hp : p xs[n] <;> simp [this, hp]
/-- [elt for tg in iter]: each item by itself -/
theorem ed_lcM {α : Type} {xs : List α} {g h : α → D} (hc : X.calm = true) (hN : X.N.Nodup) (ok : BlkOk X.N X.env.scope scope own) (hi : Ei X tg iter δ fun r δ1 => r = xs.map g ∧ δ1 = δ) (hz : xs.length ≤ 100000) (hw : feet (wipeE δ (own.map (·.2))) = feet δ)
    (step : ∀ x ∈ xs, ∃ t : En, wipeE t (own.map (·.2)) = wipeE δ (own.map (·.2)) ∧ (∀ Y, Blk X scope Y → Egb Y tg (own.map (·.2)) (g x) (wipeE δ (own.map (·.2))) fun δ2 => δ2 = t) ∧ ∀ Y, Blk X scope Y → Ed Y elt t (.fz (h x)))
    (hs : ∀ x, foldedSetIterable iter X.env x = pure x := by intro _; rfl) : Ed X (.ListComp elt [⟨tg, iter, [], 0⟩] scope pos) δ (.fz (.lst (xs.map h))) := by
  have r := ed_lc (pos := pos) (ifs := []) (elt := elt) (fun i => (xs[i]?).map h) hc hN ok hi (by rw [List.length_map]; exact hz) hw (fun i d hd => by
    rw [List.getElem?_map] at hd
    cases e1 : xs[i]? with
    | none => rw [e1] at hd; cases hd
    | some z =>
      rw [e1] at hd
      simp at hd
      subst hd
      obtain ⟨t, h1, h2, h3⟩ := step z (List.mem_of_getElem? e1)
      exact ⟨t, h1, h2, true, fun Y hY => ets_nil ⟨rfl, rfl⟩, by simp, fun _ => ⟨h z, rfl, h3⟩⟩) hs
  rw [List.length_map, range_map_getD xs h _ (Nat.le_refl _), List.take_length] at r
  exact r
/-- [elt for tg in iter if test]: each item by itself -/
theorem ed_lcF {α : Type} {xs : List α} {g h : α → D} {p : α → Bool} (hc : X.calm = true) (hN : X.N.Nodup) (ok : BlkOk X.N X.env.scope scope own) (hi : Ei X tg iter δ fun r δ1 => r = xs.map g ∧ δ1 = δ) (hz : xs.length ≤ 100000) (hw : feet (wipeE δ (own.map (·.2))) = feet δ)
    (step : ∀ x ∈ xs, ∃ t : En, wipeE t (own.map (·.2)) = wipeE δ (own.map (·.2)) ∧ (∀ Y, Blk X scope Y → Egb Y tg (own.map (·.2)) (g x) (wipeE δ (own.map (·.2))) fun δ2 => δ2 = t) ∧ (∀ Y, Blk X scope Y → Ets Y ifs t fun r δ' => r = p x ∧ δ' = t) ∧ (p x = true → ∀ Y, Blk X scope Y → Ed Y elt t (.fz (h x))))
    (hs : ∀ x, foldedSetIterable iter X.env x = pure x := by intro _; rfl) : Ed X (.ListComp elt [⟨tg, iter, ifs, 0⟩] scope pos) δ (.fz (.lst ((xs.filter p).map h))) := by
  have r := ed_lc (pos := pos) (ifs := ifs) (elt := elt) (fun i => (xs[i]?).bind fun x => if p x then some (h x) else none) hc hN ok hi (by rw [List.length_map]; exact hz) hw (fun i d hd => by
    rw [List.getElem?_map] at hd
    cases e1 : xs[i]? with
    | none => rw [e1] at hd; cases hd
    | some z =>
      rw [e1] at hd
      simp at hd
      subst hd
      obtain ⟨t, h1, h2, h3, h4⟩ := step z (List.mem_of_getElem? e1)
      exact ⟨t, h1, h2, p z, h3, fun q => by simp [q], fun q => ⟨h z, by simp [q], h4 q⟩⟩) hs
  rw [List.length_map, range_filter_getD xs p h _ (Nat.le_refl _), List.take_length] at r
  exact r
theorem cd_allP (hc : X.calm = true) {α : Type} {xs : List α} {p : α → Bool} (q : S (.fz (.bl (xs.all p)))) : CD X (.builtin "all") [.lst (xs.map fun x => .bl (p x))] S := by
  have r := cd_all (S := S) hc (bs := xs.map p) (by rw [List.all_map]; exact q)
  rw [List.map_map] at r
  exact r
theorem cd_anyP (hc : X.calm = true) {α : Type} {xs : List α} {p : α → Bool} (q : S (.fz (.bl (xs.any p)))) : CD X (.builtin "any") [.lst (xs.map fun x => .bl (p x))] S := by
  have r := cd_any (S := S) hc (bs := xs.map p) (by rw [List.any_map]; exact q)
  rw [List.map_map] at r
  exact r
theorem cd_sumP (hc : X.calm = true) {α : Type} {xs : List α} {p : α → Int} (q : S (.fz (.int (xs.map p).sum))) : CD X (.builtin "sum") [.lst (xs.map fun x => .int (p x))] S := by
  have r := cd_sum (S := S) hc (ns := xs.map p) q
  rw [List.map_map] at r
  exact r
/-- a wide power -/
theorem op_powW : OpR X (binaryOp .Pow) (rI (fun i j => 0 ≤ j ∧ (Builtin.Int.intBits i : Int) * j ≤ 2 ^ 27) fun i j => .int (i ^ j.toNat)) := opI fun _ _ _ _ _ _ _ hc q => pow_int hc.1 hc.2 q
theorem pow_W {i j : Int} (h0 : 0 ≤ j) (h1 : (Builtin.Int.intBits i : Int) * j ≤ 2 ^ 27) (q : S (.fz (.int (i ^ j.toNat)))) : RD X (binaryOp .Pow) (.fz (.int i)) (.fz (.int j)) S := rd_I op_powW (fun _ => by unfold Rep; rfl) ⟨h0, h1⟩ q
end
end Vl

namespace Vl
open PySem PySem.Spec PyProof.Rows L2
/-! ### enumerate(list, k) -/
/-- the list at a, counted from k -/
def Itn (K : PySem.W.Frag) (a : Addr) (k : Int) : It :=
  ⟨fun i H => ∃ (xs : List V) (x : V), SqL K H a xs ∧ xs[i]? = some x, fun i H v H' => ∃ T x, v = .ref T ∧ H T = none ∧ H' = upd H T (.tup [.int (k + (i : Nat)), x]) ∧ ∀ xs, SqL K H a xs → xs[i]? = some x, fun i H => ∃ xs : List V, SqL K H a xs ∧ xs.length = i⟩
theorem turn_enumK {P : Program} {w : World} {K : PySem.W.Frag} {elts : List Expr} {kk : Nat} {tpos : Pos} (a e it : Addr) (k : Int) :
    Turn P w K (.Tuple elts kk tpos) (Itn K a k) [e, it] e (fun i h => (∃ old, IsEnum h e it (k + (i : Nat)) old) ∧ h.IsListIter it a i ∧ e ≠ it ∧ a ≠ e ∧ a ≠ it) where
  mem := by simp
  obj := fun i h st b hb => by
    obtain ⟨⟨old, he⟩, ⟨o, ho, hc, hd⟩, _⟩ := st
    rcases (show b = e ∨ b = it by simpa using hb) with z | z
    · subst z; exact ⟨_, he, fun v q => nomatch q⟩
    · subst z; exact ⟨o, ho, fun v q => by rw [hd] at q; cases q⟩
  keep := fun i h h' ⟨⟨old, he⟩, hi, r⟩ q => ⟨⟨old, q e (by simp) _ he⟩, hi.at fun o z => q it (by simp) o z, r⟩
  item := by
    rintro X rfl rfl rfl hc i pins s σ H E I hf ⟨⟨old, he⟩, hit, hne, ha, hb⟩ ⟨xs, x, hq, hx⟩
    obtain ⟨its, rv, p, hz⟩ := I.list hq
    obtain ⟨u, hu, ru⟩ := rv.get hx
    have D := Draws.list (prog := X.prog) (w := X.w) (A := X.A.in1) (I.ok.hd hc) it a hb its.toArray
    have hlt : i < its.toArray.size := by
      rw [List.size_toArray]
      exact (List.getElem?_eq_some_iff.mp hu).1
    refine wpAny_pyNext_enum_itemC D he ⟨hit, p.isList⟩ hlt hne (by simp [hne, ha.symm]) fun y h' tk hy ho hst hT hsz hk => ?_
    have hy' : y = u := by
      have hy : its.toArray[i]? = some y := hy
      rw [List.getElem?_toArray, hu] at hy
      exact (Option.some.inj hy).symm
    subst hy'
    have hel : e < s.heap.objs.size := Heap.lt_size he
    have hil : it < s.heap.objs.size := by obtain ⟨_, q, _⟩ := hit; exact Heap.lt_size q
    refine ⟨_, rfl, wpAny_letOwnedTupleGo_enum (s := { s with heap := h', toks := tk + 1 }) ho fun h'' he' sb => ?_⟩
    have hT2 := (sb.2 _ (Nat.ne_of_gt hel)).trans hT
    have hfree := I.hok.fresh (Nat.le_refl s.heap.objs.size)
    have new : ObjOk X.prog X.w (upd H s.heap.objs.size (.tup [.int (k + (i : Nat)), x])) h'' s.heap.objs.size (.tup [.int (k + (i : Nat)), x]) :=
      ⟨by show 2 ≤ sizeLine; decide, [.int (k + (i : Nat)) tk, y], .cons ⟨_, rfl⟩ (.cons ru .nil), ⟨_, hT2, rfl, _, rfl⟩⟩
    have I1 : Inv X pins σ (upd H s.heap.objs.size (.tup [.int (k + (i : Nat)), x])) { s with heap := h'', toks := tk + 1 } :=
      I.turnedNew (ch := [e, it]) (fun b ob hb q => by
        have n1 : b ≠ e := fun z => hb (by simp [z])
        have n2 : b ≠ it := fun z => hb (by simp [z])
        exact (sb.2 b n1).trans (hk b ob n1 n2 q)) hf (Nat.le_refl _) new
    refine ⟨.ref s.heap.objs.size, _, I1, rfl, ⟨_, x, rfl, hfree, rfl, fun ys hys => by rw [I.list_inj hys hq]; exact hx⟩, ⟨⟨y, ?_⟩, hst.1.at fun o q => (sb.2 it hne.symm).trans q, hne, ha, hb⟩, fun b hb' => ?_⟩
    · rw [show k + ((i + 1 : Nat) : Int) = k + (i : Nat) + 1 by omega]
      exact he'
    · rcases (show b = e ∨ b = it by simpa using hb') with z | z
      · subst z
        rw [upd_ne (Nat.ne_of_lt hel)]
        exact (hf b hb').1
      · subst z
        rw [upd_ne (Nat.ne_of_lt hil)]
        exact (hf b hb').1
  done := by
    rintro X rfl rfl rfl hc i pins s σ H E I hf ⟨⟨old, he⟩, hit, hne, ha, hb⟩ ⟨xs, hq, hx⟩
    obtain ⟨its, rv, p, hz⟩ := I.list hq
    obtain ⟨f0, f1, f2, f3, f4, f5⟩ := hf it (by simp)
    have D := Draws.list (prog := X.prog) (w := X.w) (A := X.A.in1) (I.ok.hd hc) it a hb its.toArray
    have hn : its.toArray.size = i := by rw [List.size_toArray, ← rv.length, hx]
    exact wpAny_pyNext_enum_endD D he (by rw [hn]; exact ⟨hit, p.isList⟩) fun h' eb => ⟨rfl, I.turned (t' := s.toks) (fun b o hb q => eb b o hb q) f0 f1 f3 f4 f5⟩
  self := fun A i s Q E ⟨⟨_, he⟩, _⟩ h => wpAny_pyIter_enum he h
def iEnumK (K : PySem.W.Frag) (ta : TA) : TI := fun σ H R => ta σ H fun vs H1 => ∃ a xs k, vs = [.ref a, .int k] ∧ SqL K H1 a xs ∧ (-(2 ^ 63) ≤ k ∧ k < 2 ^ 63) ∧ R (Itn K a k) H1
theorem pi_enumK {X : Cx} {e e2 : Expr} {ta : TA} {p pos tpos : Pos} {elts : List Expr} {kk : Nat} (hg : Gl X "enumerate") (hm : X.mg "enumerate" = none) (ha : PA X [e, e2] ta) (hs : starEach (e :: [e2]) X.env = (false, eval e X.env) :: starEach [e2] X.env := by rfl)
    (hs2 : (backTo pos (starEach [e2] X.env)).any (·.1) = false := by rfl) : PI X (.Tuple elts kk tpos) (.Call (.Name "enumerate" p) [e, e2] [] pos) (iEnumK X.K ta) := by
  refine ⟨fun pins s σ H R I h => ?_⟩
  refine wpAny_Call_Name_kw (ld_blt I hg hm boot_enumerate ?_ (by decide) (by decide))
  refine PyProof.Rows.callWith_type1 (thn (ha.run pos pins s σ H _ I h) fun us s1 ⟨vs, H1, I1, r1, a, xs, k, ex, hq, ⟨k1, k2⟩, q⟩ => ?_) hs hs2
  subst ex
  cases r1 with
  | cons r rr =>
    cases rr with
    | cons r' rr' =>
      cases rr'
      cases r
      obtain ⟨t, rfl⟩ := r'
      obtain ⟨its, rv, p', hz⟩ := I1.list hq
      have hal : a < s1.heap.objs.size := by obtain ⟨_, z, _⟩ := p'.isList; exact Heap.lt_size z
      refine enum_begins (begins_list a its.toArray) p'.isList k1 k2 fun h' he hit hsz hk => wpAny_pyIter_enum he ?_
      have I2 : Inv X pins σ H1 { s1 with heap := h' } := I1.kept (t' := s1.toks) hk
      refine ⟨s1.heap.objs.size + 1, [s1.heap.objs.size + 1, s1.heap.objs.size], _, _, H1, rfl, I2, turn_enumK a (s1.heap.objs.size + 1) s1.heap.objs.size k, ⟨⟨.none, by simpa using he⟩, ⟨_, hit, rfl, rfl⟩, Nat.succ_ne_self _, Nat.ne_of_lt (Nat.lt_succ_of_lt hal), Nat.ne_of_lt hal⟩, fun b hb => ?_, q⟩
      have hle : s1.heap.objs.size ≤ b := by
        rcases (show b = s1.heap.objs.size + 1 ∨ b = s1.heap.objs.size by simpa using hb) with z | z
        · rw [z]; exact Nat.le_succ _
        · rw [z]; exact Nat.le_refl _
      exact I1.fpOk hle (I1.hok.fresh hle)
theorem walk_enumK {K : PySem.W.Frag} {a : Addr} {xs : List V} {k : Int} : Walk (Itn K a k) xs.length (fun H => SqL K H a xs) (YPair (fun i => some (.int (k + (i : Nat)))) (fun i => xs[i]?)) := by
  refine ⟨fun i _ hi q => ⟨xs, xs[i], q, by simp [hi]⟩, fun _ q => ⟨xs, q, rfl⟩, fun i H v H' _ q y => ?_⟩
  obtain ⟨T, x, h1, h2, h3, h4⟩ := y
  exact ⟨T, .int (k + (i : Nat)), x, h1, h2, h3, rfl, h4 xs q⟩
theorem Reps.rev {K : PySem.W.Frag} {G : Hp} : ∀ {ds : List D} {vs : List V}, Reps K G ds vs → Reps K G ds.reverse vs.reverse
  | [], vs, h => by
    unfold Reps at h
    subst h
    exact Reps.nil
  | d :: ds, vs, h => by
    unfold Reps at h
    obtain ⟨v, r, rfl, h1, h2⟩ := h
    rw [List.reverse_cons, List.reverse_cons]
    exact Reps.app (Reps.rev h2) (Reps.cons h1 Reps.nil)
section
variable {X : Cx} {e e2 tg iter : Expr} {ts : List Expr} {bd : List Stmt} {δ : En} {R : List D → En → Prop} {P : DE} {pos p : Pos}
theorem two_lst_int {K : PySem.W.Frag} {G : Hp} {ds : List D} {k : Int} {vs : List V} (rs : Reps K G [.lst ds, .int k] vs) : ∃ a ws, vs = [.ref a, .int k] ∧ G a = some (.lst ws) ∧ Reps K G ds ws := by
  unfold Reps Rep at rs
  obtain ⟨v, r, rfl, ⟨a, ws, rfl, g, r1⟩, rn⟩ := rs
  rw [one_int rn]
  exact ⟨a, ws, rfl, g, r1⟩
theorem ei_enumK {elts : List Expr} {kk : Nat} {tpos : Pos} (hg : Gl X "enumerate") (hm : X.mg "enumerate" = none) (h : Ea X [e, e2] δ fun xs δ1 => ∃ ds k, xs = [.d (.lst ds), .d (.int ((k : Nat) : Int))] ∧ k < 1000000 ∧ R (enD k ds) δ1) (hs : starEach (e :: [e2]) X.env = (false, eval e X.env) :: starEach [e2] X.env := by rfl)
    (hs2 : (backTo pos (starEach [e2] X.env)).any (·.1) = false := by rfl) : Ei X (.Tuple elts kk tpos) (.Call (.Name "enumerate" p) [e, e2] [] pos) δ R := fun G H σ s => wI_of (pi_enumK hg hm wA_pa hs hs2) ((h G H σ s).imp fun vs H1 ⟨xs, G1, δ1, s1, rs, ds, k, e1, hk, q⟩ => by
  subst e1
  obtain ⟨l, ws, rfl, g, rr⟩ := two_lst_int (repAs_d (ds := [.lst ds, .int k]) rs)
  refine ⟨l, ws, k, rfl, .of (s1.st.ex _ _ g), ⟨by omega, by omega⟩, G1, _, δ1, s1, q, fun H => SqL X.K H l ws, _, by unfold enD; rw [List.length_mapIdx, ← rr.length]; exact walk_enumK, fun H2 s => .of (s _ _ g), fun i H2 v H3 G2 d t1 t2 y hd => ?_⟩
  unfold enD at hd
  rw [List.getElem?_mapIdx] at hd
  cases z : ds[i]? with
  | none => rw [z] at hd; cases hd
  | some d' =>
    rw [z] at hd
    simp at hd
    subst hd
    obtain ⟨v', e3, rv⟩ := rr.get z
    refine pair_new t2 y (fun x ex => ?_) fun x ex => ?_
    · cases ex
      unfold Rep
      rw [Int.add_comm]
    · rw [e3] at ex
      cases ex
      exact Rep.mono t1 _ _ rv)
/-- for tg in xs -/
theorem es_forM {α : Type} {xs : List α} {g : α → D} (hp : PassesOwn (model X.prog X.w) X.A X.env X.xe) (hc : X.calm = true) (I : Nat → En → Prop) (hi : Ei X tg iter δ fun r δ1 => r = xs.map g ∧ I 0 δ1)
    (step : ∀ i (h : i < xs.length) δ1, I i δ1 → Eg X tg (.fz (g xs[i])) δ1 fun δ2 => Eb X bd δ2 { P with nx := I (i + 1), ct := I (i + 1), bk := P.nx }) (hd : ∀ δ', I xs.length δ' → P.nx δ') (hs : ∀ x, foldedSetIterable iter X.env x = pure x := by intro _; rfl) : Es X (.For tg iter bd [] pos) δ P :=
  es_for hp hc I hi (fun i d δ1 h hI => by
    rw [List.getElem?_map] at h
    cases e1 : xs[i]? with
    | none => rw [e1] at h; cases h
    | some z =>
      rw [e1] at h
      simp at h
      subst h
      obtain ⟨hl, rfl⟩ := List.getElem?_eq_some_iff.mp e1
      exact step i hl δ1 hI) (fun δ' h => hd δ' (by rw [List.length_map] at h; exact h)) hs
/-- for i, tg in enumerate(xs, k) -/
theorem es_forE {α : Type} {xs : List α} {g : α → D} (k : Nat) (hp : PassesOwn (model X.prog X.w) X.A X.env X.xe) (hc : X.calm = true) (I : Nat → En → Prop) (hi : Ei X tg iter δ fun r δ1 => r = enD k (xs.map g) ∧ I 0 δ1)
    (step : ∀ i (h : i < xs.length) δ1, I i δ1 → Eg X tg (.fz (.tup [.int ((i + k : Nat) : Int), g xs[i]])) δ1 fun δ2 => Eb X bd δ2 { P with nx := I (i + 1), ct := I (i + 1), bk := P.nx }) (hd : ∀ δ', I xs.length δ' → P.nx δ') (hs : ∀ x, foldedSetIterable iter X.env x = pure x := by intro _; rfl) : Es X (.For tg iter bd [] pos) δ P :=
  es_for hp hc I hi (fun i d δ1 h hI => by
    unfold enD at h
    rw [List.getElem?_mapIdx, List.getElem?_map] at h
    cases e1 : xs[i]? with
    | none => rw [e1] at h; cases h
    | some z =>
      rw [e1] at h
      simp at h
      subst h
      obtain ⟨hl, rfl⟩ := List.getElem?_eq_some_iff.mp e1
      exact step i hl δ1 hI) (fun δ' h => hd δ' (by unfold enD at h; rw [List.length_mapIdx, List.length_map] at h; exact h)) hs
/-- for i in range(lo, lo + n) -/
theorem es_forR {n : Nat} {lo : Int} (hp : PassesOwn (model X.prog X.w) X.A X.env X.xe) (hc : X.calm = true) (I : Nat → En → Prop) (hi : Ei X tg iter δ fun r δ1 => r = ((List.range n).map fun (i : Nat) => D.int (lo + i)) ∧ I 0 δ1)
    (step : ∀ i, i < n → ∀ δ1, I i δ1 → Eg X tg (.fz (.int (lo + i))) δ1 fun δ2 => Eb X bd δ2 { P with nx := I (i + 1), ct := I (i + 1), bk := P.nx }) (hd : ∀ δ', I n δ' → P.nx δ') (hs : ∀ x, foldedSetIterable iter X.env x = pure x := by intro _; rfl) : Es X (.For tg iter bd [] pos) δ P :=
  es_forM (xs := List.range n) (g := fun (i : Nat) => D.int (lo + i)) hp hc I hi (fun i h δ1 hI => by
    rw [List.getElem_range]
    exact step i (by simpa using h) δ1 hI) (fun δ' h => hd δ' (by rw [List.length_range] at h; exact h)) hs
/-- xs[::-1] -/
theorem ed_rev {ds : List D} {k : Nat} {p1 p2 p3 : Pos} (h : Ed X e δ (.fz (.lst ds))) : Ed X (.Subscript e (.Slice none none (some (.UnaryOp .USub (.Constant (.int 1) k p1) p2)) p3) pos) δ (.fz (.lst ds.reverse)) := fun G H σ s =>
  wE_of (pe_revL wE_pe) ((h G H σ s).imp fun v H1 ⟨x, G1, d1, s1, e1, e2⟩ => by
    subst e1
    subst e2
    have r := top_fz s1.st rfl
    unfold Rep at r
    obtain ⟨a, ws, rfl, g, rs⟩ := r
    refine ⟨a, ws, rfl, .of (s1.st.ex _ _ g), fun q n => new_lst (W := fun d => d = .lst ds.reverse) s1.st.ex (ds := ds.reverse) (Reps.rev rs) rfl n fun d v G' H' w g1 g2 g3 g4 r => ?_⟩
    subst w
    exact ⟨_, G', _, (s1.pop.grow g1 g2 g3 g4).pushF r, rfl, rfl⟩)
end
end Vl

namespace Vl
open PySem PySem.Spec PyProof.Rows L2
section
variable {X Y : Cx} {e a b c tg iter elt : Expr} {es ts ifs : List Expr} {δ : En} {pos p p2 p3 : Pos} {x y : Str} {scope : Scope} {S : OD → Prop}
theorem blk_loc (h : scope.names.lookup x = some .local) (hY : Blk X scope Y) : Y.env.scope.names.lookup x = some .local := by
  obtain ⟨s, H, C, cl, fp, rfl⟩ := hY
  exact lookup_relabel_local h
theorem blk_N (hY : Blk X scope Y) : Y.N = X.N := by
  obtain ⟨s, H, C, cl, fp, rfl⟩ := hY
  rfl
theorem blk_calm (hY : Blk X scope Y) (h : X.calm = true) : Y.calm = true := by
  obtain ⟨s, H, C, cl, fp, rfl⟩ := hY
  exact h
/-- the slots in a block behind its target -/
def bk1 (δ : En) (i : Nat) (d : D) : En := (wipeE δ [i]).set i (some (.fz d))
def bk2 (δ : En) (i j : Nat) (d1 d2 : D) : En := ((wipeE δ [i, j]).set i (some (.fz d1))).set j (some (.fz d2))
theorem wipeE_set {δ : En} {vs : List Nat} {i : Nat} {v : Option OD} (h : i ∈ vs) : wipeE (δ.set i v) vs = wipeE δ vs := by
  apply List.ext_getElem?
  intro j
  rw [wipeE_get, wipeE_get, List.length_set]
  by_cases e : j ∈ vs ∧ j < δ.length
  · rw [if_pos e, if_pos e]
  · rw [if_neg e, if_neg e]
    by_cases z : i = j
    · subst z
      have : ¬ i < δ.length := fun q => e ⟨h, q⟩
      rw [List.getElem?_eq_none (by rw [List.length_set]; omega), List.getElem?_eq_none (by omega)]
    · rw [List.getElem?_set_ne z]
theorem wipeE_wipe {δ : En} {vs : List Nat} : wipeE (wipeE δ vs) vs = wipeE δ vs := by
  apply List.ext_getElem?
  intro j
  simp only [wipeE_get, wipeE_length]
  by_cases z : j ∈ vs ∧ j < δ.length
  · simp only [if_pos z]
  · simp only [if_neg z]
theorem bk1_wipe {i : Nat} {d : D} : wipeE (bk1 δ i d) [i] = wipeE δ [i] := by
  unfold bk1
  rw [wipeE_set (by simp), wipeE_wipe]
theorem bk2_wipe {i j : Nat} {d1 d2 : D} : wipeE (bk2 δ i j d1 d2) [i, j] = wipeE δ [i, j] := by
  unfold bk2
  rw [wipeE_set (by simp), wipeE_set (by simp), wipeE_wipe]
theorem bk1_get (i : Nat) {d : D} (hY : Blk X scope Y) (hN : X.N.Nodup) (hi : X.N[i]? = some x) (hl : i < δ.length) (hx : scope.names.lookup x = some .local) : Egb Y (.Name x p) [i] d (wipeE δ [i]) fun δ2 => δ2 = bk1 δ i d :=
  egb_name i (by rw [blk_N hY]; exact hN) (by rw [blk_N hY]; exact hi) (.inl (blk_loc hx hY)) (by rw [wipeE_length]; exact hl) (by simp) rfl (.inr (blk_loc hx hY))
theorem bk2_get (i j : Nat) {kk : Nat} {px py : Pos} {d1 d2 : D} (hc : X.calm = true) (hY : Blk X scope Y) (hN : X.N.Nodup) (hi : X.N[i]? = some x) (hj : X.N[j]? = some y) (hl : i < δ.length) (hl2 : j < δ.length) (hx : scope.names.lookup x = some .local) (hy : scope.names.lookup y = some .local) :
    Egb Y (.Tuple [.Name x px, .Name y py] kk p) [i, j] (.tup [d1, d2]) (wipeE δ [i, j]) fun δ2 => δ2 = bk2 δ i j d1 d2 := by
  refine egb_tup (blk_calm hY hc) (egbs_cons (egb_name i (by rw [blk_N hY]; exact hN) (by rw [blk_N hY]; exact hi) (.inl (blk_loc hx hY)) (by rw [wipeE_length]; exact hl) (by simp) ?_ (.inr (blk_loc hx hY)))) rfl
  exact egbs_cons (egb_name j (by rw [blk_N hY]; exact hN) (by rw [blk_N hY]; exact hj) (.inl (blk_loc hy hY)) (by rw [List.length_set, wipeE_length]; exact hl2) (by simp) (egbs_nil rfl) (.inr (blk_loc hy hY)))
variable {α : Type} {xs : List α} {g h : α → D} {t : α → Bool}
/-- [elt for x in iter] -/
theorem ed_lcN (i : Nat) (hc : X.calm = true) (hN : X.N.Nodup) (ok : BlkOk X.N X.env.scope scope [(x, i)]) (hl : i < δ.length) (hx : scope.names.lookup x = some .local) (hi : Ei X (.Name x p) iter δ fun r δ1 => r = xs.map g ∧ δ1 = δ) (hz : xs.length ≤ 100000) (hw : feet (wipeE δ [i]) = feet δ)
    (step : ∀ z ∈ xs, ∀ Y, Blk X scope Y → Ed Y elt (bk1 δ i (g z)) (.fz (h z)))
    (hs : ∀ x, foldedSetIterable iter X.env x = pure x := by intro _; rfl) : Ed X (.ListComp elt [⟨.Name x p, iter, [], 0⟩] scope pos) δ (.fz (.lst (xs.map h))) :=
  ed_lcM (own := [(x, i)]) hc hN ok hi hz hw (fun z hz => ⟨_, bk1_wipe, fun Y hY => bk1_get i hY hN (ok.ix (x, i) (by simp)) hl hx, step z hz⟩) hs
/-- [elt for x in iter if test] -/
theorem ed_lcNF (i : Nat) (hc : X.calm = true) (hN : X.N.Nodup) (ok : BlkOk X.N X.env.scope scope [(x, i)]) (hl : i < δ.length) (hx : scope.names.lookup x = some .local) (hi : Ei X (.Name x p) iter δ fun r δ1 => r = xs.map g ∧ δ1 = δ) (hz : xs.length ≤ 100000) (hw : feet (wipeE δ [i]) = feet δ)
    (test : ∀ z ∈ xs, ∀ Y, Blk X scope Y → Edt Y c (bk1 δ i (g z)) (t z)) (step : ∀ z ∈ xs, t z = true → ∀ Y, Blk X scope Y → Ed Y elt (bk1 δ i (g z)) (.fz (h z)))
    (hs : ∀ x, foldedSetIterable iter X.env x = pure x := by intro _; rfl) : Ed X (.ListComp elt [⟨.Name x p, iter, [c], 0⟩] scope pos) δ (.fz (.lst ((xs.filter t).map h))) :=
  ed_lcF (own := [(x, i)]) hc hN ok hi hz hw (fun z hz => ⟨_, bk1_wipe, fun Y hY => bk1_get i hY hN (ok.ix (x, i) (by simp)) hl hx, fun Y hY => ets_one (test z hz Y hY), step z hz⟩) hs
variable {g1 g2 : α → D}
/-- [elt for x, y in iter] -/
theorem ed_lcP (i j : Nat) {kk : Nat} {px py : Pos} (hc : X.calm = true) (hN : X.N.Nodup) (ok : BlkOk X.N X.env.scope scope [(x, i), (y, j)]) (hl : i < δ.length) (hl2 : j < δ.length) (hx : scope.names.lookup x = some .local) (hy : scope.names.lookup y = some .local)
    (hi : Ei X (.Tuple [.Name x px, .Name y py] kk p) iter δ fun r δ1 => r = xs.map (fun z => .tup [g1 z, g2 z]) ∧ δ1 = δ) (hz : xs.length ≤ 100000) (hw : feet (wipeE δ [i, j]) = feet δ)
    (step : ∀ z ∈ xs, ∀ Y, Blk X scope Y → Ed Y elt (bk2 δ i j (g1 z) (g2 z)) (.fz (h z)))
    (hs : ∀ x, foldedSetIterable iter X.env x = pure x := by intro _; rfl) : Ed X (.ListComp elt [⟨.Tuple [.Name x px, .Name y py] kk p, iter, [], 0⟩] scope pos) δ (.fz (.lst (xs.map h))) :=
  ed_lcM (own := [(x, i), (y, j)]) hc hN ok hi hz hw (fun z hz => ⟨_, bk2_wipe, fun Y hY => bk2_get i j hc hY hN (ok.ix (x, i) (by simp)) (ok.ix (y, j) (by simp)) hl hl2 hx hy, step z hz⟩) hs
theorem ed_lcPF (i j : Nat) {kk : Nat} {px py : Pos} (hc : X.calm = true) (hN : X.N.Nodup) (ok : BlkOk X.N X.env.scope scope [(x, i), (y, j)]) (hl : i < δ.length) (hl2 : j < δ.length) (hx : scope.names.lookup x = some .local) (hy : scope.names.lookup y = some .local)
    (hi : Ei X (.Tuple [.Name x px, .Name y py] kk p) iter δ fun r δ1 => r = xs.map (fun z => .tup [g1 z, g2 z]) ∧ δ1 = δ) (hz : xs.length ≤ 100000) (hw : feet (wipeE δ [i, j]) = feet δ)
    (test : ∀ z ∈ xs, ∀ Y, Blk X scope Y → Edt Y c (bk2 δ i j (g1 z) (g2 z)) (t z)) (step : ∀ z ∈ xs, t z = true → ∀ Y, Blk X scope Y → Ed Y elt (bk2 δ i j (g1 z) (g2 z)) (.fz (h z)))
    (hs : ∀ x, foldedSetIterable iter X.env x = pure x := by intro _; rfl) : Ed X (.ListComp elt [⟨.Tuple [.Name x px, .Name y py] kk p, iter, [c], 0⟩] scope pos) δ (.fz (.lst ((xs.filter t).map h))) :=
  ed_lcF (own := [(x, i), (y, j)]) hc hN ok hi hz hw (fun z hz => ⟨_, bk2_wipe, fun Y hY => bk2_get i j hc hY hN (ok.ix (x, i) (by simp)) (ok.ix (y, j) (by simp)) hl hl2 hx hy, fun Y hY => ets_one (test z hz Y hY), step z hz⟩) hs
end
end Vl

namespace Vl
open PySem PySem.Spec PyProof.Rows L2
def cut {α : Type} (xs : List α) (lo hi : Option Int) : List α := (xs.drop (HT.sIx xs.length 0 lo)).take (HT.sIx xs.length xs.length hi - HT.sIx xs.length 0 lo)
theorem cutD_map {α : Type} {f : α → D} {xs : List α} {lo hi : Option Int} : cutD (xs.map f) lo hi = (cut xs lo hi).map f := by
  unfold cutD cut
  rw [List.length_map, List.map_take, List.map_drop]
theorem zipD_map {α β : Type} {f : α → D} {g : β → D} {as : List α} {bs : List β} : List.zipWith (fun d c => D.tup [d, c]) (as.map f) (bs.map g) = (as.zip bs).map fun z => .tup [f z.1, g z.2] := by
  rw [List.zipWith_map, List.zip, List.map_zipWith]
section
variable {X : Cx} {S : OD → Prop} {l u : Option Int}
theorem sl_I {ns : List Int} (q : S (.fz (LI (cut ns l u)))) : SlD X (.fz (LI ns)) l u S := sl_L (by
  rw [cutD_map]
  exact q)
theorem sl_LL {ns : List (List Int)} (q : S (.fz (LL (cut ns l u)))) : SlD X (.fz (LL ns)) l u S := sl_L (by
  rw [cutD_map]
  exact q)
end
theorem cut_from {α : Type} {xs : List α} (i : Nat) : cut xs (some (i : Int)) none = xs.drop i := by
  unfold cut
  rw [HT.sIx_nat, HT.sIx_none]
  by_cases h : i ≤ xs.length
  · rw [Nat.min_eq_left h, List.take_of_length_le (by rw [List.length_drop]; omega)]
  · rw [Nat.min_eq_right (by omega), List.drop_length, List.drop_eq_nil_of_le (by omega), List.take_nil]
theorem cut_to {α : Type} {xs : List α} (i : Nat) : cut xs none (some (i : Int)) = xs.take i := by
  unfold cut
  rw [HT.sIx_nat, HT.sIx_none, Nat.sub_zero, List.drop_zero]
  by_cases h : i ≤ xs.length
  · rw [Nat.min_eq_left h]
  · rw [Nat.min_eq_right (by omega), List.take_length, List.take_of_length_le (by omega)]
theorem cut_all {α : Type} {xs : List α} : cut xs none none = xs := by
  unfold cut
  rw [HT.sIx_none, HT.sIx_none, Nat.sub_zero, List.drop_zero, List.take_length]
end Vl

namespace Vl
open PySem PySem.Spec PyProof.Rows L2
section
variable {K : PySem.W.Frag} {G H G' H' : Hp} {σ σ' : L2.St} {δ δ' : En} {i n : Nat} {x x' y z : OD} {u v : V} {l a : Addr} {o : HO} {xs ys : List OD}
theorem feet_set_nd2 : ∀ {δ : En} {i : Nat}, (feet δ).Nodup → δ[i]? = some (some x) → (foot x').Nodup → (∀ b ∈ foot x', b ∈ foot x ∨ b ∉ feet δ) → (feet (δ.set i (some x'))).Nodup
  | [], _, _, h, _, _ => by simp at h
  | w :: r, 0, nd, h, n', k => by
    simp at h
    subst h
    rw [List.set_cons_zero]
    unfold feet at nd k ⊢
    obtain ⟨n1, n2, n3⟩ := List.nodup_append.mp nd
    refine List.nodup_append.mpr ⟨n', n2, fun b hb c hc e => ?_⟩
    subst e
    rcases k b hb with q | q
    · exact n3 b q b hc rfl
    · exact q (List.mem_append_right _ hc)
  | none :: r, i + 1, nd, h, n', k => by
    rw [List.set_cons_succ]
    unfold feet at nd k ⊢
    exact feet_set_nd2 nd (by simpa using h) n' k
  | some w :: r, i + 1, nd, h, n', k => by
    rw [List.set_cons_succ]
    unfold feet at nd k ⊢
    obtain ⟨n1, n2, n3⟩ := List.nodup_append.mp nd
    have h : r[i]? = some (some x) := by simpa using h
    refine List.nodup_append.mpr ⟨n1, feet_set_nd2 n2 h n' fun b hb => (k b hb).imp id fun q w => q (List.mem_append_right _ w), fun b hb c hc e => ?_⟩
    subst e
    rcases feet_set_mem b hc with q | q
    · rcases k b q with w | w
      · exact n3 b hb b (foot_in_feet h b w) rfl
      · exact w (List.mem_append_left _ hb)
    · exact n3 b hb b q rfl
theorem foot_nd : ∀ {δ : En} {i : Nat}, (feet δ).Nodup → δ[i]? = some (some x) → (foot x).Nodup
  | [], _, _, h => by simp at h
  | w :: r, 0, nd, h => by
    simp at h
    subst h
    unfold feet at nd
    exact (List.nodup_append.mp nd).1
  | none :: r, i + 1, nd, h => by
    unfold feet at nd
    exact foot_nd nd (by simpa using h)
  | some w :: r, i + 1, nd, h => by
    unfold feet at nd
    exact foot_nd (List.nodup_append.mp nd).2.1 (by simpa using h)
theorem slot_apart {j : Nat} (nd : (feet δ).Nodup) (h1 : δ[i]? = some (some x)) (h2 : δ[j]? = some (some y)) (hij : j ≠ i) : ∀ b ∈ foot x, b ∉ foot y := fun b hb hc => hij (one_slot nd h2 h1 hc hb)
/-- an own object of slot i is written, a waiting value may go into it -/
theorem Step.put (s : Stt K G H (some v :: σ) (some z :: δ)) (hx : δ[i]? = some (some x)) (hu : σ[i]? = some (some u)) (hl : l ∈ foot x) (n' : (foot x').Nodup) (k : ∀ b ∈ foot x', b ∈ foot x ∨ b ∈ foot z) (r : RepO K G (upd H l o) x' u) :
    Step K G H (some z :: δ) G (upd H l o) σ (δ.set i (some x')) := by
  have hi : i < δ.length := (List.getElem?_eq_some_iff.mp hx).1
  have nd := s.nd
  unfold feet at nd
  obtain ⟨n1, n2, n3⟩ := List.nodup_append.mp nd
  have lin : l ∈ feet δ := foot_in_feet hx l hl
  have memS : ∀ b ∈ feet (δ.set i (some x')), b ∈ feet (some z :: δ) := fun b hb => by
    unfold feet
    rcases feet_set_mem b hb with q | q
    · rcases k b q with w | w
      · exact List.mem_append_right _ (foot_in_feet hx b w)
      · exact List.mem_append_left _ w
    · exact List.mem_append_right _ q
  have lin2 : l ∈ feet (some z :: δ) := by unfold feet; exact List.mem_append_right _ lin
  refine ⟨⟨fun b q e => ?_, by rw [List.length_set]; exact s.pop.len, fun j y hy => ?_, ?_, fun b hb => ?_⟩, ⟨Same.refl _, fun b q hb e => ?_, fun b h => .inl h, fun b h => ?_⟩, fun b hb => .inl (memS b hb)⟩
  · rw [upd_ne (fun w => by rw [w, (s.pop.off l lin).1] at e; cases e)]
    exact s.ex b q e
  · by_cases e : j = i
    · subst e
      rw [List.getElem?_set_self hi] at hy
      cases hy
      exact ⟨u, hu, r⟩
    · rw [List.getElem?_set_ne (Ne.symm e)] at hy
      obtain ⟨w, e1, r1⟩ := s.pop.rep j y hy
      refine ⟨w, e1, RepO.mono (Same.refl _) y w (fun b hb q hq => ?_) r1⟩
      rw [upd_ne (fun w => by subst w; exact slot_apart n2 hx hy e _ hl hb)]
      exact hq
  · exact feet_set_nd2 n2 hx n' fun b hb => (k b hb).imp id fun q w => n3 b q b w rfl
  · have q := s.off b (memS b hb)
    refine ⟨q.1, ?_⟩
    by_cases w : b = l
    · subst w; rw [upd_same]; simp
    · rw [upd_ne w]; exact q.2
  · rw [upd_ne (fun w => hb (by rw [w]; exact lin2))]
    exact e
  · by_cases w : b = l
    · subst w; rw [upd_same]; simp
    · rw [upd_ne w]; exact h
theorem RepOs.length : ∀ {xs : List OD} {vs : List V}, RepOs K G H xs vs → vs.length = xs.length
  | [], _, h => by unfold RepOs at h; subst h; rfl
  | d :: ds, vs, h => by
    unfold RepOs at h
    obtain ⟨v, r, e1, _, h2⟩ := h
    rw [e1, List.length_cons, List.length_cons, RepOs.length h2]
theorem RepOs.app : ∀ {xs : List OD} {vs : List V}, RepOs K G H xs vs → RepO K G H z v → RepOs K G H (xs ++ [z]) (vs ++ [v])
  | [], vs, h, r => by
    unfold RepOs at h
    subst h
    show RepOs K G H [z] [v]
    unfold RepOs
    exact ⟨v, [], rfl, r, by unfold RepOs; rfl⟩
  | d :: ds, vs, h, r => by
    unfold RepOs at h
    obtain ⟨w, q, rfl, h1, h2⟩ := h
    show RepOs K G H (d :: (ds ++ [z])) (w :: (q ++ [v]))
    unfold RepOs
    exact ⟨w, _, rfl, h1, RepOs.app h2 r⟩
theorem RepOs.at : ∀ {xs : List OD} {vs : List V} {n : Nat} {y : OD}, RepOs K G H xs vs → xs[n]? = some y → ∃ w, vs[n]? = some w ∧ RepO K G H y w
  | [], _, _, _, _, e => by simp at e
  | d :: ds, vs, n, y, h, e => by
    unfold RepOs at h
    obtain ⟨v, r, rfl, h1, h2⟩ := h
    cases n with
    | zero => simp at e; subst e; exact ⟨v, rfl, h1⟩
    | succ n => simpa using RepOs.at (n := n) h2 (by simpa using e)
/-- one item anew, the others as they stand -/
theorem RepOs.set : ∀ {xs : List OD} {vs : List V} {n : Nat}, RepOs K G H xs vs → (∀ (j : Nat) (y : OD), xs[j]? = some y → j ≠ n → ∀ b ∈ foot y, ∀ q, H b = some q → H' b = some q) → (n < xs.length → RepO K G H' z v) → RepOs K G H' (xs.set n z) (vs.set n v)
  | [], vs, n, h, k, r => by
    unfold RepOs at h
    subst h
    simp only [List.set_nil]
    unfold RepOs
    rfl
  | d :: ds, vs, n, h, k, r => by
    unfold RepOs at h
    obtain ⟨w, q, rfl, h1, h2⟩ := h
    cases n with
    | zero =>
      rw [List.set_cons_zero, List.set_cons_zero]
      unfold RepOs
      refine ⟨v, q, rfl, r (by simp), RepOs.mono (Same.refl _) ds q (fun b hb => ?_) h2⟩
      obtain ⟨y, hy, hby⟩ := foots_find hb
      obtain ⟨j, hj⟩ := List.getElem?_of_mem hy
      exact k (j + 1) y (by simpa using hj) (by simp) b hby
    | succ n =>
      rw [List.set_cons_succ, List.set_cons_succ]
      unfold RepOs
      refine ⟨w, _, rfl, RepO.mono (Same.refl _) d w (fun b hb => k 0 d rfl (by simp) b hb) h1, RepOs.set h2 (fun j y hj hn => k (j + 1) y (by simpa using hj) (by simpa using hn)) fun hl => r (by simpa using hl)⟩
theorem foots_cons : foots (x :: xs) = foot x ++ foots xs := by rw [foots]
theorem foots_append : ∀ {xs ys : List OD}, foots (xs ++ ys) = foots xs ++ foots ys
  | [], ys => by rw [show foots [] = [] from by unfold foots; rfl, List.nil_append, List.nil_append]
  | x :: xs, ys => by
    show foots (x :: (xs ++ ys)) = foots (x :: xs) ++ foots ys
    rw [foots_cons, foots_cons, foots_append, List.append_assoc]
theorem foots_one : foots [z] = foot z := by
  show foots (z :: []) = foot z
  unfold foots
  rw [show foots [] = [] by unfold foots; rfl, List.append_nil]
theorem foots_set : ∀ {xs : List OD} {n : Nat}, xs[n]? = some y → foot z = foot y → foots (xs.set n z) = foots xs
  | [], _, h, _ => by simp at h
  | x :: xs, 0, h, e => by
    simp at h
    subst h
    rw [List.set_cons_zero]
    unfold foots
    rw [e]
  | x :: xs, n + 1, h, e => by
    rw [List.set_cons_succ]
    unfold foots
    rw [foots_set (by simpa using h) e]
theorem foots_apart : ∀ {xs : List OD} {n j : Nat} {y w : OD}, (foots xs).Nodup → xs[n]? = some y → xs[j]? = some w → j ≠ n → ∀ b ∈ foot y, b ∉ foot w
  | [], _, _, _, _, _, h, _, _ => by simp at h
  | x :: xs, n, j, y, w, nd, h1, h2, hn => by
    unfold foots at nd
    obtain ⟨n1, n2, n3⟩ := List.nodup_append.mp nd
    intro b hb hc
    cases n with
    | zero =>
      cases j with
      | zero => exact hn rfl
      | succ j =>
        simp at h1 h2
        subst h1
        exact n3 b hb b (foots_mem (List.mem_of_getElem? h2) hc) rfl
    | succ n =>
      cases j with
      | zero =>
        simp at h1 h2
        subst h2
        exact n3 b hc b (foots_mem (List.mem_of_getElem? h1) hb) rfl
      | succ j => exact foots_apart n2 (by simpa using h1) (by simpa using h2) (by simpa using hn) b hb hc
/-- what stands in a slot goes out of it -/
theorem Stt.mov (s : Stt K G H σ δ) (hx : δ[i]? = some (some x)) : ∃ u, σ[i]? = some (some u) ∧ Step K G H δ G H (some u :: σ) (some x :: δ.set i none) := by
  obtain ⟨u, hu, r⟩ := s.rep i x hx
  have sub : List.Sublist (feet (δ.set i none)) (feet δ) := feet_none_sub
  have apart : ∀ b ∈ foot x, b ∉ feet (δ.set i none) := fun b hb hc => by
    obtain ⟨j, y, h1, h2⟩ := slot_of hc
    by_cases e : i = j
    · subst e
      rw [List.getElem?_set_self (List.getElem?_eq_some_iff.mp hx).1] at h1
      cases h1
    · rw [List.getElem?_set_ne e] at h1
      exact e (one_slot s.nd hx h1 hb h2)
  have t : Stt K G H σ (δ.set i none) := ⟨s.ex, by rw [List.length_set]; exact s.len, fun j y hy => by
    by_cases e : i = j
    · subst e
      rw [List.getElem?_set_self (List.getElem?_eq_some_iff.mp hx).1] at hy
      cases hy
    · rw [List.getElem?_set_ne e] at hy
      exact s.rep j y hy, s.nd.sublist sub, fun b hb => s.off b (sub.subset hb)⟩
  refine ⟨u, hu, t.push r (foot_nd s.nd hx) fun b hb => ⟨(s.off b (foot_in_feet hx b hb)).1, (s.off b (foot_in_feet hx b hb)).2, apart b hb⟩, Grow.refl, fun b hb => .inl ?_⟩
  unfold feet at hb
  rcases List.mem_append.mp hb with q | q
  · exact foot_in_feet hx b q
  · exact sub.subset q
theorem set_self {α : Type} {xs : List α} {i : Nat} {a : α} (h : xs[i]? = some a) : xs.set i a = xs := by
  apply List.ext_getElem?
  intro j
  by_cases e : i = j
  · subst e
    rw [List.getElem?_set_self (List.getElem?_eq_some_iff.mp h).1, h]
  · rw [List.getElem?_set_ne e]
/-- frozen where it stands -/
theorem Stt.frzAt (s : Stt K G H σ δ) (hx : δ[i]? = some (some x)) : ∃ G', Step K G H δ G' H σ (δ.set i (some (.fz (dat x)))) := by
  obtain ⟨u, hu, t⟩ := s.mov hx
  obtain ⟨G', t'⟩ := t.frost
  have hi := (List.getElem?_eq_some_iff.mp hx).1
  have q := t'.set (i := i) (by rw [List.length_set]; exact hi)
  rw [List.set_set, set_self hu] at q
  exact ⟨G', q⟩
end
section
variable {X : Cx} {e : Expr} {st : Stmt} {sts : List Stmt} {δ : En} {Q : OD → En → Prop} {R : Bool → En → Prop} {P : DE} {pos : Pos} {nm : Str} {i : Nat} {x : OD}
/-- the slot's own object goes out -/
theorem ev_mov (i : Nat) (hN : X.N[i]? = some nm) (hv : Vis X.env.scope nm) (hx : δ[i]? = some (some x)) (q : Q x (δ.set i none)) (hd : (nm == ("__debug__" : Str)) = false := by decide) (hcd : (nm == ("__classdict__" : Str)) = false := by decide) : Ev X (.Name nm pos) δ Q := fun G H σ s => by
  obtain ⟨u, hu, t⟩ := s.mov hx
  exact wE_of (pe_var hN hv hd hcd) ⟨u, hu, x, G, _, t, q⟩
theorem eb_frz (i : Nat) (hx : δ[i]? = some (some x)) (h : Eb X sts (δ.set i (some (.fz (dat x)))) P) : Eb X sts δ P := fun G H σ s => by
  obtain ⟨G1, t⟩ := s.frzAt hx
  exact (h G1 H σ t.st).imp (DE.le t (fun _ z => z) (fun _ _ z => z) (fun _ z => z) fun _ z => z)
theorem es_frz (i : Nat) (hx : δ[i]? = some (some x)) (h : Es X st (δ.set i (some (.fz (dat x)))) P) : Es X st δ P := fun G H σ s => by
  obtain ⟨G1, t⟩ := s.frzAt hx
  exact (h G1 H σ t.st).imp (DE.le t (fun _ z => z) (fun _ _ z => z) (fun _ z => z) fun _ z => z)
theorem ev_frzAt (i : Nat) (hx : δ[i]? = some (some x)) (h : Ev X e (δ.set i (some (.fz (dat x)))) Q) : Ev X e δ Q := fun G H σ s => by
  obtain ⟨G1, t⟩ := s.frzAt hx
  exact (h G1 H σ t.st).imp fun v H1 z => Post.back t z
end
end Vl

namespace Vl
open PySem PySem.Spec PyProof.Rows L2
/-! ### a place in an own object -/
inductive At : OD → Addr → List OD → (List OD → OD) → Prop
  | top {l : Addr} {ys : List OD} : At (.own l ys) l ys (fun zs => .own l zs)
  | into {a : Addr} {xs : List OD} {n : Nat} {y : OD} {l : Addr} {ys : List OD} {f : List OD → OD} (h : xs[n]? = some y) (r : At y l ys f) : At (.own a xs) l ys (fun zs => .own a (xs.set n (f zs)))
  | intoT {a : Addr} {xs : List OD} {n : Nat} {y : OD} {l : Addr} {ys : List OD} {f : List OD → OD} (h : xs[n]? = some y) (r : At y l ys f) : At (.otp a xs) l ys (fun zs => .otp a (xs.set n (f zs)))
theorem foot_own {a : Addr} {xs : List OD} : foot (.own a xs) = a :: foots xs := by rw [foot]
theorem foot_otp {a : Addr} {xs : List OD} : foot (.otp a xs) = a :: foots xs := by rw [foot]
section
variable {K : PySem.W.Frag} {G H G' H' : Hp} {σ : L2.St} {δ : En} {i : Nat} {x z : OD} {u v : V} {l : Addr} {ys zs : List OD} {f : List OD → OD}
theorem foots_set_mem : ∀ {xs : List OD} {n : Nat} {z : OD}, ∀ b ∈ foots (xs.set n z), b ∈ foot z ∨ b ∈ foots xs
  | [], _, _ => fun b h => .inr (by simpa using h)
  | x :: xs, 0, z => fun b h => by
    rw [List.set_cons_zero, foots_cons] at h
    rw [foots_cons]
    rcases List.mem_append.mp h with h | h
    · exact .inl h
    · exact .inr (List.mem_append_right _ h)
  | x :: xs, n + 1, z => fun b h => by
    rw [List.set_cons_succ, foots_cons] at h
    rw [foots_cons]
    rcases List.mem_append.mp h with h | h
    · exact .inr (List.mem_append_left _ h)
    · rcases foots_set_mem b h with h | h
      · exact .inl h
      · exact .inr (List.mem_append_right _ h)
theorem foots_set_nd : ∀ {xs : List OD} {n : Nat} {y z : OD}, (foots xs).Nodup → xs[n]? = some y → (foot z).Nodup → (∀ b ∈ foot z, b ∈ foot y ∨ b ∉ foots xs) → (foots (xs.set n z)).Nodup
  | [], _, _, _, _, h, _, _ => by simp at h
  | w :: r, 0, y, z, nd, h, n', k => by
    simp at h
    subst h
    rw [List.set_cons_zero]
    rw [foots_cons] at nd k ⊢
    obtain ⟨n1, n2, n3⟩ := List.nodup_append.mp nd
    refine List.nodup_append.mpr ⟨n', n2, fun b hb c hc e => ?_⟩
    subst e
    rcases k b hb with q | q
    · exact n3 b q b hc rfl
    · exact q (List.mem_append_right _ hc)
  | w :: r, n + 1, y, z, nd, h, n', k => by
    rw [List.set_cons_succ]
    rw [foots_cons] at nd k ⊢
    obtain ⟨n1, n2, n3⟩ := List.nodup_append.mp nd
    have h : r[n]? = some y := by simpa using h
    refine List.nodup_append.mpr ⟨n1, foots_set_nd n2 h n' fun b hb => (k b hb).imp id fun q w => q (List.mem_append_right _ w), fun b hb c hc e => ?_⟩
    subst e
    rcases foots_set_mem b hc with q | q
    · rcases k b q with w | w
      · exact n3 b hb b (foots_mem (List.mem_of_getElem? h) w) rfl
      · exact w (List.mem_append_left _ hb)
    · exact n3 b hb b q rfl
theorem foots_get_nd : ∀ {xs : List OD} {n : Nat} {y : OD}, (foots xs).Nodup → xs[n]? = some y → (foot y).Nodup
  | [], _, _, _, h => by simp at h
  | w :: r, 0, y, nd, h => by
    simp at h
    subst h
    rw [foots_cons] at nd
    exact (List.nodup_append.mp nd).1
  | w :: r, n + 1, y, nd, h => by
    rw [foots_cons] at nd
    exact foots_get_nd (List.nodup_append.mp nd).2.1 (by simpa using h)
theorem At.sub (a : At x l ys f) : l ∈ foot x ∧ ∀ b ∈ foots ys, b ∈ foot x := by
  induction a with
  | top => rw [foot_own]; exact ⟨List.mem_cons_self, fun b hb => List.mem_cons_of_mem _ hb⟩
  | into h r ih =>
    rw [foot_own]
    exact ⟨List.mem_cons_of_mem _ (foots_mem (List.mem_of_getElem? h) ih.1), fun b hb => List.mem_cons_of_mem _ (foots_mem (List.mem_of_getElem? h) (ih.2 b hb))⟩
  | intoT h r ih =>
    rw [foot_otp]
    exact ⟨List.mem_cons_of_mem _ (foots_mem (List.mem_of_getElem? h) ih.1), fun b hb => List.mem_cons_of_mem _ (foots_mem (List.mem_of_getElem? h) (ih.2 b hb))⟩
theorem At.lys (a : At x l ys f) (nd : (foot x).Nodup) : (foots ys).Nodup ∧ l ∉ foots ys := by
  induction a with
  | top => rw [foot_own] at nd; exact ⟨(List.nodup_cons.mp nd).2, (List.nodup_cons.mp nd).1⟩
  | into h r ih =>
    rw [foot_own] at nd
    have n2 := (List.nodup_cons.mp nd).2
    exact ih (foots_get_nd n2 h)
  | intoT h r ih =>
    rw [foot_otp] at nd
    have n2 := (List.nodup_cons.mp nd).2
    exact ih (foots_get_nd n2 h)
theorem At.mem (a : At x l ys f) (k : ∀ b ∈ foots zs, b ∈ foots ys ∨ b ∈ foot z) : ∀ b ∈ foot (f zs), b ∈ foot x ∨ b ∈ foot z := by
  induction a with
  | top =>
    intro b hb
    rw [foot_own] at hb ⊢
    rcases List.mem_cons.mp hb with q | q
    · exact .inl (q ▸ List.mem_cons_self)
    · exact (k b q).imp (fun w => List.mem_cons_of_mem _ w) id
  | into h r ih =>
    intro b hb
    rw [foot_own] at hb ⊢
    rcases List.mem_cons.mp hb with q | q
    · exact .inl (q ▸ List.mem_cons_self)
    · rcases foots_set_mem b q with w | w
      · exact (ih k b w).imp (fun w => List.mem_cons_of_mem _ (foots_mem (List.mem_of_getElem? h) w)) id
      · exact .inl (List.mem_cons_of_mem _ w)
  | intoT h r ih =>
    intro b hb
    rw [foot_otp] at hb ⊢
    rcases List.mem_cons.mp hb with q | q
    · exact .inl (q ▸ List.mem_cons_self)
    · rcases foots_set_mem b q with w | w
      · exact (ih k b w).imp (fun w => List.mem_cons_of_mem _ (foots_mem (List.mem_of_getElem? h) w)) id
      · exact .inl (List.mem_cons_of_mem _ w)
theorem At.nd (a : At x l ys f) (nd : (foot x).Nodup) (n' : (foots zs).Nodup) (k : ∀ b ∈ foots zs, b ∈ foots ys ∨ b ∉ foot x) : (foot (f zs)).Nodup := by
  induction a with
  | top =>
    rw [foot_own] at nd k ⊢
    refine List.nodup_cons.mpr ⟨fun h => ?_, n'⟩
    rcases k _ h with q | q
    · exact (List.nodup_cons.mp nd).1 q
    · exact q List.mem_cons_self
  | into h r ih =>
    rw [foot_own] at nd k ⊢
    obtain ⟨n1, n2⟩ := List.nodup_cons.mp nd
    have sub := fun b hb => foots_mem (a := b) (List.mem_of_getElem? h) hb
    rename_i a xs n y l' ys' f'
    have ndy : (foot y).Nodup := foots_get_nd n2 h
    have mem : ∀ b ∈ foot (f' zs), b ∈ foot y ∨ b ∉ a :: foots xs := fun b hb => by
      rcases Classical.em (b ∈ foot y) with q | q
      · exact .inl q
      · rcases r.mem (z := .own 0 zs) (zs := zs) (fun c hc => .inr (by rw [foot_own]; exact List.mem_cons_of_mem _ hc)) b hb with w | w
        · exact .inl w
        · exact .inr fun w' => by
            have hbz : b ∈ foots zs := by
              have key : ∀ {x : OD} {l : Addr} {ys : List OD} {f : List OD → OD}, At x l ys f → b ∈ foot (f zs) → b ∈ foot x ∨ b ∈ foots zs := by
                intro x l ys f at1
                induction at1 with
                | top =>
                  intro hb
                  rw [foot_own] at hb ⊢
                  rcases List.mem_cons.mp hb with q | q
                  · exact .inl (q ▸ List.mem_cons_self)
                  · exact .inr q
                | into h r ih =>
                  intro hb
                  rw [foot_own] at hb ⊢
                  rcases List.mem_cons.mp hb with q | q
                  · exact .inl (q ▸ List.mem_cons_self)
                  · rcases foots_set_mem b q with w | w
                    · exact (ih w).imp (fun w => List.mem_cons_of_mem _ (foots_mem (List.mem_of_getElem? h) w)) id
                    · exact .inl (List.mem_cons_of_mem _ w)
                | intoT h r ih =>
                  intro hb
                  rw [foot_otp] at hb ⊢
                  rcases List.mem_cons.mp hb with q | q
                  · exact .inl (q ▸ List.mem_cons_self)
                  · rcases foots_set_mem b q with w | w
                    · exact (ih w).imp (fun w => List.mem_cons_of_mem _ (foots_mem (List.mem_of_getElem? h) w)) id
                    · exact .inl (List.mem_cons_of_mem _ w)
              exact (key r hb).resolve_left q
            rcases k b hbz with p | p
            · exact q (r.sub.2 b p)
            · exact p w'
    refine List.nodup_cons.mpr ⟨fun hb => ?_, foots_set_nd n2 h (ih ndy fun b hb => (k b hb).imp id fun q w => q (List.mem_cons_of_mem _ (sub b w))) fun b hb => (mem b hb).imp id fun q w => q (List.mem_cons_of_mem _ w)⟩
    rcases foots_set_mem a hb with q | q
    · rcases mem a q with w | w
      · exact n1 (sub a w)
      · exact w List.mem_cons_self
    · exact n1 q
  | intoT h r ih =>
    rw [foot_otp] at nd k ⊢
    obtain ⟨n1, n2⟩ := List.nodup_cons.mp nd
    have sub := fun b hb => foots_mem (a := b) (List.mem_of_getElem? h) hb
    rename_i a xs n y l' ys' f'
    have ndy : (foot y).Nodup := foots_get_nd n2 h
    have mem : ∀ b ∈ foot (f' zs), b ∈ foot y ∨ b ∉ a :: foots xs := fun b hb => by
      rcases Classical.em (b ∈ foot y) with q | q
      · exact .inl q
      · rcases r.mem (z := .own 0 zs) (zs := zs) (fun c hc => .inr (by rw [foot_own]; exact List.mem_cons_of_mem _ hc)) b hb with w | w
        · exact .inl w
        · exact .inr fun w' => by
            have hbz : b ∈ foots zs := by
              have key : ∀ {x : OD} {l : Addr} {ys : List OD} {f : List OD → OD}, At x l ys f → b ∈ foot (f zs) → b ∈ foot x ∨ b ∈ foots zs := by
                intro x l ys f at1
                induction at1 with
                | top =>
                  intro hb
                  rw [foot_own] at hb ⊢
                  rcases List.mem_cons.mp hb with q | q
                  · exact .inl (q ▸ List.mem_cons_self)
                  · exact .inr q
                | into h r ih =>
                  intro hb
                  rw [foot_own] at hb ⊢
                  rcases List.mem_cons.mp hb with q | q
                  · exact .inl (q ▸ List.mem_cons_self)
                  · rcases foots_set_mem b q with w | w
                    · exact (ih w).imp (fun w => List.mem_cons_of_mem _ (foots_mem (List.mem_of_getElem? h) w)) id
                    · exact .inl (List.mem_cons_of_mem _ w)
                | intoT h r ih =>
                  intro hb
                  rw [foot_otp] at hb ⊢
                  rcases List.mem_cons.mp hb with q | q
                  · exact .inl (q ▸ List.mem_cons_self)
                  · rcases foots_set_mem b q with w | w
                    · exact (ih w).imp (fun w => List.mem_cons_of_mem _ (foots_mem (List.mem_of_getElem? h) w)) id
                    · exact .inl (List.mem_cons_of_mem _ w)
              exact (key r hb).resolve_left q
            rcases k b hbz with p | p
            · exact q (r.sub.2 b p)
            · exact p w'
    refine List.nodup_cons.mpr ⟨fun hb => ?_, foots_set_nd n2 h (ih ndy fun b hb => (k b hb).imp id fun q w => q (List.mem_cons_of_mem _ (sub b w))) fun b hb => (mem b hb).imp id fun q w => q (List.mem_cons_of_mem _ w)⟩
    rcases foots_set_mem a hb with q | q
    · rcases mem a q with w | w
      · exact n1 (sub a w)
      · exact w List.mem_cons_self
    · exact n1 q
theorem At.read (a : At x l ys f) (r : RepO K G H x u) : ∃ vs, H l = some (.lst vs) ∧ RepOs K G H ys vs := by
  induction a generalizing u with
  | top =>
    unfold RepO at r
    obtain ⟨_, vs, h1, h2⟩ := r
    exact ⟨vs, h1, h2⟩
  | into h r' ih =>
    unfold RepO at r
    obtain ⟨_, vs, h1, h2⟩ := r
    obtain ⟨w, _, hw⟩ := h2.at h
    exact ih hw
  | intoT h r' ih =>
    unfold RepO at r
    obtain ⟨_, vs, h1, h2⟩ := r
    obtain ⟨w, _, hw⟩ := h2.at h
    exact ih hw
theorem At.write (a : At x l ys f) {vs : List V} (nd : (foot x).Nodup) (r : RepO K G H x u) (rz : RepOs K G (upd H l (.lst vs)) zs vs) : RepO K G (upd H l (.lst vs)) (f zs) u := by
  induction a generalizing u with
  | top =>
    unfold RepO at r ⊢
    exact ⟨r.1, vs, upd_same, rz⟩
  | into h r' ih =>
    rw [foot_own] at nd
    obtain ⟨n1, n2⟩ := List.nodup_cons.mp nd
    rename_i a xs n y l' ys' f'
    unfold RepO at r ⊢
    obtain ⟨e1, ws, h1, h2⟩ := r
    obtain ⟨w, hw, rw'⟩ := h2.at h
    have lin : l' ∈ foot y := r'.sub.1
    have ndy : (foot y).Nodup := foots_get_nd n2 h
    refine ⟨e1, ws, ?_, ?_⟩
    · rw [upd_ne (fun q => n1 (by rw [q]; exact foots_mem (List.mem_of_getElem? h) lin))]
      exact h1
    · have := h2.set (z := f' zs) (v := w) (n := n) (H' := upd H l' (.lst vs)) (fun j y' hj hne b hb q hq => by
        rw [upd_ne (fun e => by subst e; exact foots_apart n2 h hj hne _ lin hb)]
        exact hq) (fun _ => ih ndy rw' rz)
      rw [set_self hw] at this
      exact this
  | intoT h r' ih =>
    rw [foot_otp] at nd
    obtain ⟨n1, n2⟩ := List.nodup_cons.mp nd
    rename_i a xs n y l' ys' f'
    unfold RepO at r ⊢
    obtain ⟨e1, ws, h1, h2⟩ := r
    obtain ⟨w, hw, rw'⟩ := h2.at h
    have lin : l' ∈ foot y := r'.sub.1
    have ndy : (foot y).Nodup := foots_get_nd n2 h
    refine ⟨e1, ws, ?_, ?_⟩
    · rw [upd_ne (fun q => n1 (by rw [q]; exact foots_mem (List.mem_of_getElem? h) lin))]
      exact h1
    · have := h2.set (z := f' zs) (v := w) (n := n) (H' := upd H l' (.lst vs)) (fun j y' hj hne b hb q hq => by
        rw [upd_ne (fun e => by subst e; exact foots_apart n2 h hj hne _ lin hb)]
        exact hq) (fun _ => ih ndy rw' rz)
      rw [set_self hw] at this
      exact this
/-- an own list, wherever it stands, gets a new content; a waiting value may go into it -/
theorem Step.putAt (s : Stt K G H (some v :: σ) (some z :: δ)) (hx : δ[i]? = some (some x)) (a : At x l ys f) {vs : List V} (n' : (foots zs).Nodup) (k : ∀ b ∈ foots zs, b ∈ foots ys ∨ b ∈ foot z) (rz : RepOs K G (upd H l (.lst vs)) zs vs) :
    Step K G H (some z :: δ) G (upd H l (.lst vs)) σ (δ.set i (some (f zs))) := by
  obtain ⟨u, hu, r⟩ := s.pop.rep i x hx
  have ndx := foot_nd s.pop.nd hx
  have nd := s.nd
  unfold feet at nd
  obtain ⟨n1, n2, n3⟩ := List.nodup_append.mp nd
  exact Step.put s hx hu a.sub.1 (a.nd ndx n' fun b hb => (k b hb).imp id fun q w => n3 b q b (foot_in_feet hx b w) rfl) (a.mem k) (a.write ndx r rz)
end
end Vl

namespace Vl
open PySem PySem.Spec PyProof.Rows L2
/-- own lists one deep: their own items by where they lie -/
def hdD : OD → D
  | .fz d => d
  | .own b _ => .op (.ref b)
  | .vol b _ => .op (.ref b)
  | .otp b _ => .op (.ref b)
  | .ins b _ _ _ _ => .op (.ref b)
def datR : OD → D
  | .fz d => d
  | .own _ xs => .lst (xs.map hdD)
  | .vol b _ => .op (.ref b)
  | .otp _ xs => .tup (xs.map hdD)
  | .ins b _ _ _ _ => .op (.ref b)
def thawR (δ : En) : En := δ.map fun o => o.map fun x => .fz (datR x)
section
variable {K : PySem.W.Frag} {G H G' H' : Hp} {σ : L2.St} {δ : En}
theorem RepO.hdD (e : Same G H) {x : OD} {v : V} (r : RepO K G H x v) : Rep K H (hdD x) v := by
  cases x with
  | fz d => unfold RepO at r; unfold Vl.hdD; exact Rep.mono e d v r
  | own a xs => unfold RepO at r; unfold Vl.hdD Rep; exact r.1
  | vol a φ => unfold RepO at r; unfold Vl.hdD Rep; exact r.1
  | otp a xs => unfold RepO at r; unfold Vl.hdD Rep; exact r.1
  | ins a dx C ns xs => unfold RepO at r; unfold Vl.hdD Rep; exact r.1
theorem RepOs.hdD (e : Same G H) : ∀ {xs : List OD} {vs : List V}, RepOs K G H xs vs → Reps K H (xs.map Vl.hdD) vs
  | [], _, r => by
    unfold RepOs at r
    subst r
    exact Reps.nil
  | x :: xs, vs, r => by
    unfold RepOs at r
    obtain ⟨v, w, rfl, r1, r2⟩ := r
    exact Reps.cons (RepO.hdD e r1) (RepOs.hdD e r2)
theorem RepO.datR (e : Same G H) {x : OD} {v : V} (r : RepO K G H x v) : Rep K H (datR x) v := by
  cases x with
  | fz d => unfold RepO at r; unfold Vl.datR; exact Rep.mono e d v r
  | own a xs =>
    unfold RepO at r
    obtain ⟨e1, vs, h1, h2⟩ := r
    unfold Vl.datR Rep
    exact ⟨a, vs, e1, h1, h2.hdD e⟩
  | vol a φ => unfold RepO at r; unfold Vl.datR Rep; exact r.1
  | otp a xs =>
    unfold RepO at r
    obtain ⟨e1, vs, h1, h2⟩ := r
    unfold Vl.datR Rep
    exact ⟨a, vs, e1, h1, h2.hdD e⟩
  | ins a dx C ns xs => unfold RepO at r; unfold Vl.datR Rep; exact r.1
theorem feet_thawR : ∀ δ : En, feet (thawR δ) = []
  | [] => rfl
  | none :: r => by show feet (none :: thawR r) = []; unfold feet; exact feet_thawR r
  | some x :: r => by show feet (some (.fz (datR x)) :: thawR r) = []; unfold feet foot; rw [feet_thawR r]; rfl
theorem Stt.thawR (s : Stt K G H σ δ) : Stt K H H σ (thawR δ) where
  ex := Same.refl _
  len := by rw [← s.len]; unfold Vl.thawR; rw [List.length_map]
  rep := fun i x hx => by
    unfold Vl.thawR at hx
    rw [List.getElem?_map] at hx
    cases q : δ[i]? with
    | none => rw [q] at hx; cases hx
    | some o =>
      rw [q] at hx
      cases o with
      | none => cases hx
      | some y =>
        simp at hx
        subst hx
        obtain ⟨v, e1, r⟩ := s.rep i y q
        refine ⟨v, e1, ?_⟩
        unfold RepO
        exact RepO.datR s.ex r
  nd := by rw [feet_thawR]; exact List.nodup_nil
  off := fun a ha => by rw [feet_thawR] at ha; cases ha
theorem unthawR (s : Stt K G H σ δ) (t : Step K H H (Vl.thawR δ) G' H' σ (Vl.thawR δ)) : Step K G H δ G H' σ δ := by
  have k : Same H H' := fun a o e => t.gr.h a o (by rw [feet_thawR]; simp) e
  exact ⟨s.keep (Same.refl _) (s.ex.trans k) (fun a _ o e => k a o e) (fun a ha => (s.off a ha).1), ⟨Same.refl _, fun a o _ e => k a o e, fun _ h => .inl h, t.gr.there⟩, fun a ha => .inl ha⟩
end
theorem atN {n j : Nat} (h : j < n) : ixN n (j : Int) = some j := by
  unfold ixN
  simp [h]
/-- e is the own list at l -/
def Sub (X : Cx) (e : Expr) (δ : En) (l : Addr) : Prop := ∀ G H σ, Stt X.K G H σ δ → wE X e σ H fun v H1 => v = .ref l ∧ Step X.K G H δ G H1 σ δ
section
variable {X : Cx} {e o b : Expr} {es : List Expr} {δ : En} {Q : OD → En → Prop} {P : DE} {pos p apos cpos : Pos} {nm : Str} {l : Addr} {x z : OD} {ys : List OD} {f : List OD → OD}
theorem sub_name (i : Nat) (hN : X.N[i]? = some nm) (hv : Vis X.env.scope nm) (hx : δ[i]? = some (some (.own l ys))) (hd : (nm == ("__debug__" : Str)) = false := by decide) (hcd : (nm == ("__classdict__" : Str)) = false := by decide) : Sub X (.Name nm p) δ l := fun G H σ s => by
  obtain ⟨u, hu, r⟩ := s.rep i _ hx
  unfold RepO at r
  exact wE_of (pe_var hN hv hd hcd) ⟨u, hu, r.1, s.step⟩
theorem sub_ev (h : Ed X e (thawR δ) (.fz (.op (.ref l)))) : Sub X e δ l := fun G H σ s => (h H H σ s.thawR).imp fun v H1 ⟨y, G1, d1, s1, e1, e2⟩ => by
  subst e1
  subst e2
  have r := top_fz s1.st rfl
  unfold Rep at r
  exact ⟨r, unthawR s s1.pop⟩
/-- the n-th item of an own list, an own one -/
theorem sub_ix {j : Int} {n : Nat} {xs : List OD} (ha : Ed X o (thawR δ) (.fz (.lst (xs.map hdD)))) (hb : Ed X b (thawR δ) (.fz (.int j))) (hj : j = n) (hn : xs[n]? = some (.own l ys)) (hs : PlainIx b := by exact fun _ _ => rfl) : Sub X (.Subscript o b pos) δ l :=
  sub_ev (ed_ix ha hb (ix_L (by
    subst hj
    refine atI_nat ?_
    rw [List.getElem?_map, hn]
    rfl) rfl) hs)
/-- o.append(e) on an own list -/
theorem es_appA (i : Nat) (ho : Sub X o δ l) (hx : δ[i]? = some (some x)) (a : At x l ys f) (hz : ys.length < 100000)
    (h : Ev X e δ fun y δ1 => δ1[i]? = some (some x) ∧ P.nx (δ1.set i (some (f (ys ++ [y])))))
    (hbase : attributeBase o "append" X.env (eval o X.env) = eval o X.env := by rfl)
    (hfew : ((backTo cpos (starEach (e :: []) X.env)).all (fun x => !x.1) && (backToKw cpos (keywordEach [] X.env)).all (fun x => x.1.isSome)
      && decide ((e :: ([] : List Expr)).length + ([] : List Keyword).length + (if ([] : List Keyword).isEmpty then 0 else 1) < 30)) = true := by rfl)
    (hline : (apos.endLine == cpos.line) = true := by rfl) (hs : starEach (e :: []) X.env = (false, eval e X.env) :: starEach [] X.env := by rfl) (hplain : (backTo cpos (starEach [] X.env)).any (·.1) = false := by rfl)
    (hsw : swapsWith (.Call (.Attribute o "append" apos) [e] [] cpos) none pos.line X.env = pure false := by rfl) : Es X (.Expr (.Call (.Attribute o "append" apos) [e] [] cpos) pos) δ P := fun G H σ s => by
  refine wS_of (ps_expr (pe_bm PySem.F.plainAttrs_list PySem.F.slot_list_append PySem.F.type_list_append mt_append wE_pe (pa_cons wE_pe pa_nil hs) hbase hfew hline hs hplain) hsw) ?_
  refine (ho G H σ s).imp fun v0 H0 ⟨ev, s0⟩ => ?_
  subst ev
  obtain ⟨u0, _, r0⟩ := s0.st.rep i x hx
  obtain ⟨vs0, hl0, _⟩ := a.read r0
  refine ⟨.inl ⟨rfl, vs0, .of hl0⟩, (h G H0 σ s0.st).imp fun v H1 ⟨y, G1, d1, s1, hδ, q⟩ => ?_⟩
  obtain ⟨u, hu, r⟩ := s1.st.pop.rep i x hδ
  obtain ⟨ws, hl1, rs⟩ := a.read r
  have ndx := foot_nd s1.st.pop.nd hδ
  have ny := s1.st.nd
  unfold feet at ny
  obtain ⟨n1, n2, n3⟩ := List.nodup_append.mp ny
  have lx := foot_in_feet hδ l a.sub.1
  have lout : ∀ b ∈ foot y, b ≠ l := fun b hb e => n3 b hb l lx e
  refine ⟨l, ws, v, rfl, rfl, hl1, by rw [rs.length, sizeLine_eq]; omega, G1, _, (s0.trans s1).trans (Step.putAt (zs := ys ++ [y]) s1.st hδ a ?_ (fun b hb => ?_) (RepOs.app (RepOs.mono (Same.refl _) ys ws (fun b hb o ho => ?_) rs) (RepO.mono (Same.refl _) y v (fun b hb o ho => ?_) s1.st.top))), q⟩
  · rw [foots_append, foots_one]
    exact List.nodup_append.mpr ⟨(a.lys ndx).1, n1, fun b hb c hc e => n3 c hc b (foot_in_feet hδ b (a.sub.2 b hb)) e.symm⟩
  · rw [foots_append, foots_one] at hb
    exact List.mem_append.mp hb
  · rw [upd_ne (fun e => by subst e; exact (a.lys ndx).2 hb)]
    exact ho
  · rw [upd_ne (lout b hb)]
    exact ho
/-- o[b] = .. on an own list -/
theorem eg_setA (i : Nat) {j : Int} {T : En → Prop} (ho : Sub X o δ l) (hx : δ[i]? = some (some x)) (a : At x l ys f) (hb : Ed X b δ (.fz (.int j))) (h0 : 0 ≤ j) (h1 : j < ys.length) (q : T (δ.set i (some (f (ys.set j.toNat z)))))
    (ha : ∀ v, assign (.Subscript o b pos) X.env v = (do
      let ov ← holding [v] (eval o X.env)
      let iv ← holding [v, ov] (eval b X.env)
      standAt pos
      holding [v, ov, iv] (setItem ov iv v)
      release [v, ov, iv] []) := by intro _; rfl) : Eg X (.Subscript o b pos) z δ T := fun G H σ v s => by
  refine wG_of (pg_sub wE_pe wE_pe set_list ha) ?_
  refine (ho G H σ s.pop).imp fun v0 H0 ⟨ev, s0⟩ => ?_
  subst ev
  have t0 := s.step.frame s0
  refine (hb G H0 σ s0.st).imp fun vi H1 ⟨yi, G1, d1, s1, e1, e2⟩ => ?_
  subst e1
  subst e2
  have t1 := t0.st.step.frame s1.pop
  have rj := top_fz s1.st rfl
  unfold Rep at rj
  subst rj
  obtain ⟨u, hu, r⟩ := s1.st.pop.rep i x hx
  obtain ⟨ws, hl1, rs⟩ := a.read r
  obtain ⟨n, rfl⟩ : ∃ n : Nat, j = n := ⟨j.toNat, by omega⟩
  have ndx := foot_nd s1.st.pop.nd hx
  have ny := t1.st.nd
  unfold feet at ny
  obtain ⟨n1, n2, n3⟩ := List.nodup_append.mp ny
  have lx := foot_in_feet hx l a.sub.1
  have hn : n < ys.length := by omega
  obtain ⟨y0, hy0⟩ : ∃ y0, ys[n]? = some y0 := ⟨ys[n], by simp [hn]⟩
  have nz : ∀ b ∈ foot z, b ∉ foots ys := fun b hb hc => n3 b hb b (foot_in_feet hx b (a.sub.2 b hc)) rfl
  refine ⟨l, ws, n, n, rfl, rfl, hl1, ?_, G1, _, (t0.trans t1).trans (Step.putAt (zs := ys.set n z) t1.st hx a (foots_set_nd (a.lys ndx).1 hy0 n1 fun b hb => .inr (nz b hb)) (fun b hb => (foots_set_mem b hb).symm) (RepOs.set rs (fun j' y' hj' hne b hb q hq => ?_) fun _ => RepO.mono (Same.refl _) z v (fun b hb o ho => ?_) t1.st.top)), by simpa using q⟩
  · rw [rs.length]
    exact atN hn
  · rw [upd_ne (fun e => by subst e; exact (a.lys ndx).2 (foots_mem (List.mem_of_getElem? hj') hb))]
    exact hq
  · rw [upd_ne (fun e => by subst e; exact n3 _ hb _ lx rfl)]
    exact ho
end
end Vl

namespace Vl
open PySem PySem.Spec PyProof.Rows L2
section
variable {K : PySem.W.Frag} {G H G' H' : Hp} {σ σ' : L2.St} {δ δ' : En} {x y z : OD} {u v w : V} {l q : Addr}
theorem feet_app : ∀ {xs : List OD} {δ : En}, feet (xs.map some ++ δ) = foots xs ++ feet δ
  | [], δ => by rw [show foots [] = [] from by unfold foots; rfl]; rfl
  | x :: xs, δ => by
    show feet (some x :: (xs.map some ++ δ)) = _
    rw [foots_cons, List.append_assoc, ← feet_app (xs := xs), show feet (some x :: (xs.map some ++ δ)) = foot x ++ feet (xs.map some ++ δ) from by rw [feet]]
theorem feet_some {x : OD} {δ : En} : feet (some x :: δ) = foot x ++ feet δ := by rw [feet]
theorem stack_reps : ∀ {xs : List OD} {vs : List V}, xs.length = vs.length → Stt K G H (vs.map some ++ σ) (xs.map some ++ δ) → RepOs K G H xs vs ∧ Stt K G H σ δ
  | [], [], _, s => ⟨by unfold RepOs; rfl, s⟩
  | [], _ :: _, h, _ => by simp at h
  | _ :: _, [], h, _ => by simp at h
  | x :: xs, v :: vs, h, s => by
    have s' : Stt K G H (some v :: (vs.map some ++ σ)) (some x :: (xs.map some ++ δ)) := s
    obtain ⟨r, t⟩ := stack_reps (by simpa using h) s'.pop
    refine ⟨?_, t⟩
    unfold RepOs
    exact ⟨v, vs, rfl, s'.top, r⟩
/-- waiting values go into a new list -/
theorem Step.gather {xs : List OD} {vs : List V} (hl : xs.length = vs.length) (s : Stt K G H (vs.map some ++ σ) (xs.map some ++ δ)) (n : H q = none) : Step K G H (xs.map some ++ δ) G (upd H q (.lst vs)) (some (.ref q) :: σ) (some (.own q xs) :: δ) := by
  obtain ⟨r, t⟩ := stack_reps hl s
  have nd := s.nd
  rw [feet_app] at nd
  obtain ⟨n1, n2, n3⟩ := List.nodup_append.mp nd
  have up : Same H (upd H q (.lst vs)) := new_h n
  have offA : ∀ b ∈ foots xs, G b = none ∧ H b ≠ none := fun b hb => s.off b (by rw [feet_app]; exact List.mem_append_left _ hb)
  have t1 : Stt K G (upd H q (.lst vs)) σ δ := t.keep (Same.refl _) (t.ex.trans up) (fun a _ o e => up a o e) fun a ha => (t.off a ha).1
  have hq : G q = none := by
    cases e : G q with
    | none => rfl
    | some o => rw [t.ex q o e] at n; cases n
  have notin : ∀ {b : Addr}, H b ≠ none → b ≠ q := fun h e => h (e ▸ n)
  refine ⟨t1.push (by
    unfold RepO
    exact ⟨rfl, vs, upd_same, RepOs.mono (Same.refl _) xs vs (fun b _ o e => up b o e) r⟩) ?_ fun b hb => ?_, ⟨Same.refl _, fun a o _ e => up a o e, fun a h => .inl h, fun a h => ?_⟩, fun b hb => ?_⟩
  · rw [foot_own]
    exact List.nodup_cons.mpr ⟨fun h => notin (offA q h).2 rfl, n1⟩
  · rw [foot_own] at hb
    rcases List.mem_cons.mp hb with e | e
    · subst e
      exact ⟨hq, by rw [upd_same]; simp, fun h => notin (t.off b h).2 rfl⟩
    · refine ⟨(offA b e).1, ?_, fun h => n3 b e b h rfl⟩
      rw [upd_ne (notin (offA b e).2)]
      exact (offA b e).2
  · by_cases z : a = q
    · subst z; exact absurd n h
    · rw [upd_ne z]; exact h
  · rw [feet_some, foot_own] at hb
    rw [feet_app]
    rcases List.mem_append.mp hb with h | h
    · rcases List.mem_cons.mp h with e | e
      · subst e; exact .inr n
      · exact .inl (List.mem_append_left _ e)
    · exact .inl (List.mem_append_right _ h)
/-- an own list becomes frozen, its items own as they are -/
theorem Stt.scatter {xs : List OD} (s : Stt K G H (some v :: σ) (some (.own l xs) :: δ)) : ∃ (vs : List V) (G1 : Hp), v = .ref l ∧ xs.length = vs.length ∧ G1 l = some (.lst vs) ∧ Step K G H (some (.own l xs) :: δ) G1 H (vs.map some ++ σ) (xs.map some ++ δ) := by
  have r := s.top
  unfold RepO at r
  obtain ⟨e1, vs, h1, h2⟩ := r
  have nd := s.nd
  rw [feet_some, foot_own] at nd
  obtain ⟨n1, n2, n3⟩ := List.nodup_append.mp nd
  obtain ⟨n4, n5⟩ := List.nodup_cons.mp n1
  have lin : l ∈ feet (some (.own l xs) :: δ) := by rw [feet_some, foot_own]; exact List.mem_append_left _ List.mem_cons_self
  have g : Same G (upd G l (.lst vs)) := fun b o e => by
    rw [upd_ne (fun z => by rw [z, (s.off l lin).1] at e; cases e)]
    exact e
  have ex : Same (upd G l (.lst vs)) H := fun b o e => by
    by_cases z : b = l
    · subst z
      rw [upd_same] at e
      cases e
      exact h1
    · rw [upd_ne z] at e
      exact s.ex b o e
  have t : Stt K (upd G l (.lst vs)) H σ δ := s.pop.keep g ex (fun _ _ _ h => h) fun a ha => by
    rw [upd_ne (fun z => n3 l List.mem_cons_self a ha z.symm)]
    exact (s.pop.off a ha).1
  have all : ∀ {ys : List OD} {us : List V}, RepOs K G H ys us → (foots ys).Nodup → (∀ b ∈ foots ys, b ∈ foots xs) → Stt K (upd G l (.lst vs)) H (us.map some ++ σ) (ys.map some ++ δ) := by
    intro ys
    induction ys with
    | nil =>
      intro us r _ _
      unfold RepOs at r
      subst r
      exact t
    | cons y ys ih =>
      intro us r nd sub
      unfold RepOs at r
      obtain ⟨u, us', rfl, r1, r2⟩ := r
      rw [foots_cons] at nd sub
      obtain ⟨m1, m2, m3⟩ := List.nodup_append.mp nd
      have t' := ih r2 m2 fun b hb => sub b (List.mem_append_right _ hb)
      refine t'.push (RepO.mono g y u (fun _ _ _ h => h) r1) m1 fun b hb => ?_
      have bx := sub b (List.mem_append_left _ hb)
      have hb' := s.off b (by rw [feet_some, foot_own]; exact List.mem_append_left _ (List.mem_cons_of_mem _ bx))
      refine ⟨?_, hb'.2, fun h => ?_⟩
      · rw [upd_ne (fun z => by subst z; exact n4 bx)]
        exact hb'.1
      · rw [feet_app] at h
        rcases List.mem_append.mp h with h | h
        · exact m3 b hb b h rfl
        · exact n3 b (List.mem_cons_of_mem _ bx) b h rfl
  refine ⟨vs, upd G l (.lst vs), e1, h2.length.symm, upd_same, all h2 n5 fun _ h => h, ⟨g, fun _ _ _ h => h, fun a ha => ?_, fun _ h => h⟩, fun b hb => .inl ?_⟩
  · by_cases z : a = l
    · subst z; exact .inr (.inr lin)
    · rw [upd_ne z] at ha; exact .inl ha
  · rw [feet_app] at hb
    rw [feet_some, foot_own]
    rcases List.mem_append.mp hb with h | h
    · exact List.mem_append_left _ (List.mem_cons_of_mem _ h)
    · exact List.mem_append_right _ h
/-- many values wait while a step is done -/
theorem Step.frames : ∀ {xs : List OD} {vs : List V}, xs.length = vs.length → Stt K G H (vs.map some ++ σ) (xs.map some ++ δ) → Step K G H δ G' H' σ' δ' → Step K G H (xs.map some ++ δ) G' H' (vs.map some ++ σ') (xs.map some ++ δ')
  | [], [], _, _, t => t
  | [], _ :: _, h, _, _ => by simp at h
  | _ :: _, [], h, _, _ => by simp at h
  | x :: xs, v :: vs, h, s, t => by
    have s' : Stt K G H (some v :: (vs.map some ++ σ)) (some x :: (xs.map some ++ δ)) := s
    exact s'.step.frame (Step.frames (by simpa using h) s'.pop t)
theorem Stt.swap {a b : Option V} {x y : Option OD} (s : Stt K G H (a :: b :: σ) (x :: y :: δ)) : Stt K G H (b :: a :: σ) (y :: x :: δ) := by
  have e : (feet (y :: x :: δ)).Perm (feet (x :: y :: δ)) := by
    cases x with
    | none => cases y <;> exact List.Perm.refl _
    | some x =>
      cases y with
      | none => exact List.Perm.refl _
      | some y =>
        rw [feet_some, feet_some, feet_some, feet_some, ← List.append_assoc, ← List.append_assoc]
        exact List.perm_append_comm.append_right _
  refine ⟨s.ex, by have := s.len; simpa using this, fun i z hz => ?_, e.nodup_iff.mpr s.nd, fun c hc => s.off c (e.mem_iff.mp hc)⟩
  match i with
  | 0 => exact s.rep 1 z hz
  | 1 => exact s.rep 0 z hz
  | i + 2 => exact s.rep (i + 2) z hz
/-- the top goes below the others -/
theorem Stt.sink : ∀ {xs : List OD} {vs : List V}, xs.length = vs.length → Stt K G H (some v :: (vs.map some ++ σ)) (some x :: (xs.map some ++ δ)) → Stt K G H (vs.map some ++ some v :: σ) (xs.map some ++ some x :: δ)
  | [], [], _, s => s
  | [], _ :: _, h, _ => by simp at h
  | _ :: _, [], h, _ => by simp at h
  | y :: xs, u :: vs, h, s => by
    have s1 : Stt K G H (some u :: some v :: (vs.map some ++ σ)) (some y :: some x :: (xs.map some ++ δ)) := Stt.swap s
    have s2 := Stt.sink (by simpa using h) s1.pop
    have nd := s1.nd
    rw [feet_some] at nd
    obtain ⟨n1, n2, n3⟩ := List.nodup_append.mp nd
    refine s2.push s1.top n1 fun b hb => ?_
    have ob := s1.off b (by rw [feet_some]; exact List.mem_append_left _ hb)
    refine ⟨ob.1, ob.2, fun hc => n3 b hb b ?_ rfl⟩
    rw [feet_app, feet_some] at hc
    rw [feet_some, feet_app]
    rcases List.mem_append.mp hc with q | q
    · exact List.mem_append_right _ (List.mem_append_left _ q)
    · rcases List.mem_append.mp q with q | q
      · exact List.mem_append_left _ q
      · exact List.mem_append_right _ (List.mem_append_right _ q)
end
/-- several values, own ones among them, each waits -/
def Eo (X : Cx) (es : List Expr) (δ : En) (Q : List OD → En → Prop) : Prop := ∀ G H σ, Stt X.K G H σ δ → wA X es σ H fun vs H' => ∃ xs G' δ', xs.length = vs.length ∧ Step X.K G H δ G' H' (vs.map some ++ σ) (xs.map some ++ δ') ∧ Q xs δ'
section
variable {X : Cx} {e tg iter : Expr} {es : List Expr} {bd : List Stmt} {δ : En} {Q : OD → En → Prop} {P : DE} {pos : Pos}
theorem eo_nil {Q : List OD → En → Prop} (q : Q [] δ) : Eo X [] δ Q := fun G H σ s => wA_of pa_nil ⟨[], G, δ, rfl, s.step, q⟩
theorem eo_cons {Q : List OD → En → Prop} (h : Ev X e δ fun x δ1 => Eo X es δ1 fun xs => Q (x :: xs)) (hs : starEach (e :: es) X.env = (false, eval e X.env) :: starEach es X.env := by rfl) : Eo X (e :: es) δ Q := fun G H σ s =>
  wA_of (pa_cons wE_pe wA_pa hs) ((h G H σ s).imp fun v H1 ⟨x, G1, d1, s1, h2⟩ =>
    (h2 G1 H1 σ s1.st.pop).imp fun vs H2 ⟨xs, G2, d2, hl, s2, q⟩ => ⟨x :: xs, G2, d2, by simpa using hl, s1.frame s2, q⟩)
/-- [e, ..] as an own list of own things -/
theorem ev_lstE (h : Eo X es δ fun xs δ1 => xs.length ≤ 100000 ∧ ∀ a, Q (.own a xs) δ1) : Ev X (.List es pos) δ Q := fun G H σ s =>
  wE_of (pe_lst wA_pa) ((h G H σ s).imp fun vs H1 ⟨xs, G1, d1, hl, s1, hz, q⟩ =>
    ⟨by rw [← hl, sizeLine_eq]; omega, fun p n => ⟨_, G1, d1, s1.trans (Step.gather hl s1.st n), q p⟩⟩)
/-- for name in a list of own things that nothing else knows -/
theorem es_forO {xs : List OD} (hp : PassesOwn (model X.prog X.w) X.A X.env X.xe) (hc : X.calm = true) (I : Nat → En → Prop) (hi : Ev X iter δ fun x δ1 => (∃ l, x = .own l xs) ∧ I 0 δ1)
    (step : ∀ i (h : i < xs.length) δ1, I i δ1 → Eg X tg xs[i] δ1 fun δ2 => Eb X bd δ2 { P with nx := I (i + 1), ct := I (i + 1), bk := P.nx }) (hd : ∀ δ', I xs.length δ' → P.nx δ') (hs : ∀ x, foldedSetIterable iter X.env x = pure x := by intro _; rfl) : Es X (.For tg iter bd [] pos) δ P := fun G H σ s => by
  have pi : PI X tg iter _ := pi_list (tg := tg) (wE_pe (X := X) (e := iter))
  refine wS_of (ps_for hp hc pi wG_pg wB_ps hs) ((hi G H σ s).imp fun v H1 ⟨x, G1, δ1, s1, ⟨l, ex⟩, h0⟩ => ?_)
  subst ex
  obtain ⟨vs, G2, ev, hl, hg, s2⟩ := s1.st.scatter
  have t0 := s1.trans s2
  refine ⟨l, ev, ⟨vs, .of (t0.st.ex _ _ hg)⟩, ?_⟩
  refine for_it (walk_list (xs := vs)) (fun i σ' H' => ∃ Gi δi, Step X.K G2 H1 (xs.map some ++ δ1) Gi H' ((vs.drop i).map some ++ σ') ((xs.drop i).map some ++ δi) ∧ I i δi) ⟨G2, δ1, t0.st.step, h0⟩ (fun i σ' H' _ ⟨Gi, δi, si, _⟩ => .of (si.st.ex _ _ (si.gr.g _ _ hg))) (fun i v σ' H' H3 hlt ⟨Gi, δi, si, hI⟩ y => ?_) fun σ' H' ⟨Gi, δi, si, hI⟩ => ?_
  · obtain ⟨e3, e2⟩ := y
    subst e3
    have hv : vs[i] = v := by
      obtain ⟨_, e⟩ := List.getElem?_eq_some_iff.mp e2
      exact e
    have hx : i < xs.length := by omega
    have d1 : (vs.drop i).map some ++ σ' = some v :: ((vs.drop (i + 1)).map some ++ σ') := by rw [List.drop_eq_getElem_cons hlt, hv]; rfl
    have d2 : (xs.drop i).map some ++ δi = some xs[i] :: ((xs.drop (i + 1)).map some ++ δi) := by rw [List.drop_eq_getElem_cons hx]; rfl
    rw [d1, d2] at si
    have hl2 : (xs.drop (i + 1)).length = (vs.drop (i + 1)).length := by rw [List.length_drop, List.length_drop, hl]
    have sk := Stt.sink hl2 si.st
    have low := (stack_reps hl2 sk).2
    have bk : ∀ b, b ∈ feet ((xs.drop (i + 1)).map some ++ some xs[i] :: δi) ↔ b ∈ feet (some xs[i] :: ((xs.drop (i + 1)).map some ++ δi)) := fun b => by
      rw [feet_app, feet_some, feet_some, feet_app]
      simp only [List.mem_append]
      constructor
      · rintro (h | h | h)
        · exact .inr (.inl h)
        · exact .inl h
        · exact .inr (.inr h)
      · rintro (h | h | h)
        · exact .inr (.inl h)
        · exact .inl h
        · exact .inr (.inr h)
    have base : Step X.K G2 H1 (xs.map some ++ δ1) Gi H3 ((vs.drop (i + 1)).map some ++ some v :: σ') ((xs.drop (i + 1)).map some ++ some xs[i] :: δi) := ⟨sk, si.gr, fun b hb => si.ft b ((bk b).mp hb)⟩
    refine (step i hx δi hI Gi H3 σ' v low).imp fun σ4 H4 ⟨G4, δ4, s4, hb⟩ => ?_
    have f4 := base.trans (Step.frames hl2 base.st s4)
    refine (hb G4 H4 σ4 s4.st).imp ⟨fun σ5 H5 ⟨G5, δ5, s5, q⟩ => ⟨G5, δ5, f4.trans (Step.frames hl2 f4.st s5), q⟩, fun v5 H5 ⟨x5, G5, σ5, δ5, s5, q⟩ => ?_, fun σ5 H5 ⟨G5, δ5, s5, q⟩ => ?_, fun σ5 H5 ⟨G5, δ5, s5, q⟩ => ⟨G5, δ5, f4.trans (Step.frames hl2 f4.st s5), q⟩⟩
    · have f5 := t0.trans (f4.trans (Step.frames hl2 f4.st s5))
      exact ⟨x5, G5, σ5, δ5, ⟨s5.st, f5.gr, fun b hb => f5.ft b (by rw [feet_app]; exact List.mem_append_right _ hb)⟩, q⟩
    · have f5 := t0.trans (f4.trans (Step.frames hl2 f4.st s5))
      exact ⟨G5, δ5, ⟨s5.st, f5.gr, fun b hb => f5.ft b (by rw [feet_app]; exact List.mem_append_right _ hb)⟩, q⟩
  · have e1 : vs.drop vs.length = [] := List.drop_length
    have e2 : xs.drop vs.length = [] := by rw [← hl]; exact List.drop_length
    rw [e1, e2] at si
    rw [← hl] at hI
    exact ⟨Gi, δi, t0.trans si, hd _ hI⟩
end
end Vl

namespace Vl
open PySem PySem.Spec PyProof.Rows L2
section
variable {X Y : Cx} {e a b c tg iter elt : Expr} {es ts ifs : List Expr} {δ : En} {Q : OD → En → Prop} {P : DE} {pos p p2 p3 : Pos} {x y : Str} {scope : Scope}
/-- the reading of a comprehension that makes own things; the slots stand -/
theorem lc_readE {ds : List D} {own : List (Str × Nat)} (R : Nat → OD → Prop) (hi : Ei X tg iter δ fun r δ1 => r = ds ∧ δ1 = δ) (hz : ds.length ≤ 100000) (hw : feet (wipeE δ (own.map (·.2))) = feet δ)
    (step : ∀ i d, ds[i]? = some d → ∃ t : En, wipeE t (own.map (·.2)) = wipeE δ (own.map (·.2)) ∧
      (∀ Y, Blk X scope Y → Egb Y tg (own.map (·.2)) d (wipeE δ (own.map (·.2))) fun δ2 => δ2 = t) ∧
      ∀ Y, Blk X scope Y → Ev Y elt t fun z δ' => wipeE δ' (own.map (·.2)) = wipeE δ (own.map (·.2)) ∧ R i z) {G H : Hp} {σ : L2.St} (s : Stt X.K G H σ δ) :
    tLc (wI X tg iter) (gBk X scope tg) (tBk X scope []) (eBk X scope elt) (own.map (·.2)) σ H
      (fun v H' => ∃ l G' acc, v = .ref l ∧ Step X.K G H δ G' H' (some (.ref l) :: σ) (some (.own l acc) :: δ) ∧ acc.length = ds.length ∧ ∀ (i : Nat) (z : OD), acc[i]? = some z → R i z) := by
  refine (hi G H σ s).imp fun J H1 ⟨G1, ds', δ0, s1, ⟨e1, e0⟩, Gd, Y, W, hG, hY⟩ => ?_
  subst e1
  subst e0
  intro l nl
  refine lc_it (g := gBk X scope tg) (tt := tBk X scope []) (te := eBk X scope elt) (vs := own.map (·.2)) (σ := σ) (Qd := fun H' => ∃ l_1 G' acc, V.ref l = .ref l_1 ∧ Step X.K G H δ0 G' H' (some (.ref l_1) :: σ) (some (.own l_1 acc) :: δ0) ∧ acc.length = ds'.length ∧ ∀ (i : Nat) (z : OD), acc[i]? = some z → R i z) W (fun i H' => ∃ Gi acc, Step X.K G1 H1 δ0 Gi H' (some (.ref l) :: σ) (some (.own l acc) :: δ0) ∧ acc.length = i ∧ ∀ (j : Nat) (z : OD), acc[j]? = some z → R j z) ⟨G1, [], s1.st.step.newOwn (ds := []) Reps.nil nl, rfl, fun j z h => by simp at h⟩
    (fun i H' _ ⟨Gi, acc, si, _⟩ => hG H' (si.gr.g.trans si.st.ex)) (fun i v H' H3 hlt ⟨Gi, acc, si, hla, hI⟩ y => ?_) fun H' ⟨Gi, acc, si, hl, hI⟩ => ⟨l, Gi, acc, rfl, s1.trans si, hl, hI⟩
  have hd : ds'[i]? = some ds'[i] := by simp [hlt]
  obtain ⟨t, et, hg, he⟩ := step i ds'[i] hd
  obtain ⟨G3, g1, g2, g3, g4, rv⟩ := hY i H' v H3 Gi ds'[i] si.gr.g si.st.ex y hd
  have sp := si.st.pop
  have t3 : Step X.K Gi H' (wipeE δ0 (own.map (·.2))) G3 H3 (wipe σ (own.map (·.2))) (wipeE δ0 (own.map (·.2))) := sp.wiped.step.grow g1 g2 g3 g4
  intro B hB
  refine (hg _ hB G3 H3 _ v (by obtain ⟨sB, HB, CB, clB, fpB, rfl⟩ := hB; exact t3.st) (by obtain ⟨sB, HB, CB, clB, fpB, rfl⟩ := hB; exact rv)).imp fun σ2 H2 ⟨q1, G2, δ2, s2, e2⟩ => ?_
  subst e2
  have w1 : wipe σ2 (own.map (·.2)) = wipe σ (own.map (·.2)) := q1.trans wipe_wipe
  have s2 : Step X.K G3 H3 (wipeE δ0 (own.map (·.2))) G2 H2 σ2 δ2 := by obtain ⟨sB, HB, CB, clB, fpB, rfl⟩ := hB; exact s2
  have t2 := t3.trans s2
  refine ⟨w1, fun B hB => ?_⟩
  refine wTs_of pts_nil ?_
  unfold tYes
  simp only [if_true]
  intro B hB
  have t2B : Stt B.K G2 H2 σ2 δ2 := by obtain ⟨sB, HB, CB, clB, fpB, rfl⟩ := hB; exact s2.st
  refine (he _ hB G2 H2 σ2 t2B).imp fun v5 H5 ⟨z, G5, δ5, s5, e5, hR⟩ => ?_
  have s5 : Step X.K G2 H2 δ2 G5 H5 (some v5 :: σ2) (some z :: δ5) := by obtain ⟨sB, HB, CB, clB, fpB, rfl⟩ := hB; exact s5
  have tt := t2.trans s5
  have u := sp.unwipe (t2.trans s5.pop) w1 e5 (fun _ _ => rfl) rfl hw hw
  have fr := si.st.step.frame u
  have nd5 := s5.st.nd
  rw [feet_some] at nd5
  obtain ⟨n1, n2, n3⟩ := List.nodup_append.mp nd5
  have fz : ∀ b ∈ foot z, b ∈ feet δ0 ∨ H' b = none := fun b hb => by
    rcases tt.ft b (by rw [feet_some]; exact List.mem_append_left _ hb) with q | q
    · exact .inl (feet_wipe_sub.subset q)
    · exact .inr q
  have δz : ∀ b ∈ foot z, b ∉ feet δ0 := fun b hb hc => by
    rw [← hw, ← e5] at hc
    exact n3 b hb b (feet_wipe_sub.subset hc) rfl
  have az : ∀ b ∈ foot z, b ∉ foot (.own l acc) := fun b hb hc => by
    rcases fz b hb with q | q
    · have nd := si.st.nd
      rw [feet_some] at nd
      exact (List.nodup_append.mp nd).2.2 b hc b q rfl
    · exact (si.st.off b (by rw [feet_some]; exact List.mem_append_left _ hc)).2 q
  have push : Stt X.K G5 H5 (some v5 :: some (.ref l) :: σ) (some z :: some (.own l acc) :: δ0) := fr.st.push s5.st.top n1 fun b hb => by
    have o := s5.st.off b (by rw [feet_some]; exact List.mem_append_left _ hb)
    refine ⟨o.1, o.2, fun hc => ?_⟩
    rw [feet_some] at hc
    rcases List.mem_append.mp hc with q | q
    · exact az b hb q
    · exact δz b hb q
  have sz : Step X.K Gi H' (some (.own l acc) :: δ0) G5 H5 (some v5 :: some (.ref l) :: σ) (some z :: some (.own l acc) :: δ0) := ⟨push, fr.gr, fun b hb => by
    rw [feet_some] at hb
    rcases List.mem_append.mp hb with q | q
    · rcases fz b q with w | w
      · exact .inl (by rw [feet_some]; exact List.mem_append_right _ w)
      · exact .inr w
    · exact .inl q⟩
  obtain ⟨ul, hul, rl⟩ := fr.st.rep 0 _ rfl
  obtain ⟨ws, hl1, rs⟩ := At.top.read rl
  have ndl := foot_nd fr.st.nd (i := 0) rfl
  have fin := Step.putAt (i := 0) (zs := acc ++ [z]) (vs := ws ++ [v5]) push rfl .top (by
    rw [foots_append, foots_one]
    rw [foot_own] at ndl
    exact List.nodup_append.mpr ⟨(List.nodup_cons.mp ndl).2, n1, fun b hb c hc e => az c hc (by rw [foot_own, ← e]; exact List.mem_cons_of_mem _ hb)⟩) (fun b hb => by
    rw [foots_append, foots_one] at hb
    exact List.mem_append.mp hb) (RepOs.app (RepOs.mono (Same.refl _) acc ws (fun b hb o ho => by
      rw [foot_own] at ndl
      rw [upd_ne (fun e => by subst e; exact (List.nodup_cons.mp ndl).1 hb)]
      exact ho) rs) (RepO.mono (Same.refl _) z v5 (fun b hb o ho => by
      rw [upd_ne (fun e => by subst e; exact az _ hb (by rw [foot_own]; exact List.mem_cons_self))]
      exact ho) s5.st.top))
  refine ⟨ws, hl1, by rw [rs.length, sizeLine_eq]; omega, G5, acc ++ [z], si.trans (sz.trans fin), by rw [List.length_append, List.length_singleton, hla], fun j z' hj => ?_⟩
  by_cases hlt2 : j < acc.length
  · rw [List.getElem?_append_left hlt2] at hj
    exact hI j z' hj
  · have : j = acc.length := by
      have := (List.getElem?_eq_some_iff.mp hj).1
      rw [List.length_append, List.length_singleton] at this
      omega
    subst this
    simp at hj
    subst hj
    rw [hla]
    exact hR
theorem lcE_run {own : List (Str × Nat)} {H : Hp} {σ : L2.St} {R R' : VK} (h : tLc (wI X tg iter) (gBk X scope tg) (tBk X scope ifs) (eBk X scope elt) (own.map (·.2)) σ H R) (q : ∀ v H', R v H' → R' v H') : tLc (wI X tg iter) (gBk X scope tg) (tBk X scope ifs) (eBk X scope elt) (own.map (·.2)) σ H R' :=
  wI.imp h fun J H1 z l nl => by
    obtain ⟨W, w0, turn⟩ := z l nl
    refine ⟨W, w0, fun i m H2 w => ?_⟩
    rcases turn i m H2 w with ⟨a, k⟩ | k
    · exact .inl ⟨a, q _ _ k⟩
    · exact .inr k
variable {α : Type} {xs : List α} {g h : α → D} {t : α → Bool}
/-- what the own items are -/
def Each (xs : List α) (R : α → OD → Prop) (ys : List OD) : Prop := ys.length = xs.length ∧ ∀ (i : Nat) (x : α) (y : OD), xs[i]? = some x → ys[i]? = some y → R x y
theorem lcN_read (R : α → OD → Prop) (i : Nat) (hN : X.N.Nodup) (ok : BlkOk X.N X.env.scope scope [(x, i)]) (hl : i < δ.length) (hx : scope.names.lookup x = some .local) (hi : Ei X (.Name x p) iter δ fun r δ1 => r = xs.map g ∧ δ1 = δ) (hz : xs.length ≤ 100000) (hw : feet (wipeE δ [i]) = feet δ)
    (step : ∀ z ∈ xs, ∀ Y, Blk X scope Y → Ev Y elt (bk1 δ i (g z)) fun y δ' => wipeE δ' [i] = wipeE δ [i] ∧ R z y) {G H : Hp} {σ : L2.St} (s : Stt X.K G H σ δ) :
    tLc (wI X (.Name x p) iter) (gBk X scope (.Name x p)) (tBk X scope []) (eBk X scope elt) ([(x, i)].map (·.2)) σ H
      (fun v H' => ∃ l G' ys, v = .ref l ∧ Step X.K G H δ G' H' (some (.ref l) :: σ) (some (.own l ys) :: δ) ∧ Each xs R ys) := by
  refine lcE_run (own := [(x, i)]) (lc_readE (own := [(x, i)]) (fun j y => ∀ z, xs[j]? = some z → R z y) hi (by rw [List.length_map]; exact hz) hw (fun j d hd => ?_) s) fun v H' ⟨l, G', acc, e1, s', hl, hR⟩ => ⟨l, G', acc, e1, s', by rw [hl, List.length_map], fun j z y hz hy => hR j y hy z hz⟩
  rw [List.getElem?_map] at hd
  cases e1 : xs[j]? with
  | none => rw [e1] at hd; cases hd
  | some z =>
    rw [e1] at hd
    simp at hd
    subst hd
    refine ⟨bk1 δ i (g z), bk1_wipe, fun Y hY => bk1_get i hY hN (ok.ix (x, i) (by simp)) hl hx, fun Y hY => (step z (List.mem_of_getElem? e1) Y hY).imp fun y δ' ⟨q1, q2⟩ => ⟨q1, fun z' hz' => ?_⟩⟩
    cases hz'
    exact q2
/-- [elt for x in iter], its items own things -/
theorem ev_lcE (R : α → OD → Prop) (i : Nat) (hc : X.calm = true) (hN : X.N.Nodup) (ok : BlkOk X.N X.env.scope scope [(x, i)]) (hl : i < δ.length) (hx : scope.names.lookup x = some .local) (hi : Ei X (.Name x p) iter δ fun r δ1 => r = xs.map g ∧ δ1 = δ) (hz : xs.length ≤ 100000) (hw : feet (wipeE δ [i]) = feet δ)
    (step : ∀ z ∈ xs, ∀ Y, Blk X scope Y → Ev Y elt (bk1 δ i (g z)) fun y δ' => wipeE δ' [i] = wipeE δ [i] ∧ R z y) (q : ∀ l ys, Each xs R ys → Q (.own l ys) δ)
    (hs : ∀ x, foldedSetIterable iter X.env x = pure x := by intro _; rfl) : Ev X (.ListComp elt [⟨.Name x p, iter, [], 0⟩] scope pos) δ Q := fun G H σ s => by
  have pp := pe_lc (X := X) (elt := elt) (tg := .Name x p) (iter := iter) (ifs := []) (pos := pos) hc hN wI_pi ok gBk_pg tBk_pt eBk_pe hs
  exact wE_of pp (lcE_run (own := [(x, i)]) (lcN_read R i hN ok hl hx hi hz hw step s) fun v H' ⟨l, G', ys, e1, s', hE⟩ => by subst e1; exact ⟨_, G', δ, s', q l ys hE⟩)
/-- y = [elt for x in iter] on one line, its items own things -/
theorem es_lcE (R : α → OD → Prop) (i j : Nat) {py : Pos} (hc : X.calm = true) (hN : X.N.Nodup) (hy : X.N[j]? = some y) (hyl : X.env.scope.names.lookup y = some .local) (hsw : swapsWith (.ListComp elt [⟨.Name x p, iter, [], 0⟩] scope p2) (some (.Name y py)) pos.line X.env = pure true)
    (ok : BlkOk X.N X.env.scope scope [(x, i)]) (hl : i < δ.length) (hlj : j < δ.length) (hx : scope.names.lookup x = some .local) (hi : Ei X (.Name x p) iter δ fun r δ1 => r = xs.map g ∧ δ1 = δ) (hz : xs.length ≤ 100000) (hw : feet (wipeE δ [i]) = feet δ)
    (step : ∀ z ∈ xs, ∀ Y, Blk X scope Y → Ev Y elt (bk1 δ i (g z)) fun y δ' => wipeE δ' [i] = wipeE δ [i] ∧ R z y) (q : ∀ l ys, Each xs R ys → P.nx (δ.set j (some (.own l ys))))
    (hs : ∀ x, foldedSetIterable iter X.env x = pure x := by intro _; rfl) : Es X (.Assign [.Name y py] (.ListComp elt [⟨.Name x p, iter, [], 0⟩] scope p2) pos) δ P := fun G H σ s => by
  have pp := ps_setLc (X := X) (elt := elt) (tg := .Name x p) (iter := iter) (ifs := []) (pos := p2) (spos := pos) (i := j) hc hN hy hyl hsw wI_pi ok gBk_pg tBk_pt eBk_pe hs
  exact wS_of pp (lcE_run (own := [(x, i)]) (lcN_read R i hN ok hl hx hi hz hw step s) fun v H' ⟨l, G', ys, e1, s', hE⟩ => by subst e1; exact ⟨G', _, s'.set hlj, q l ys hE⟩)
theorem each_fz {ys : List OD} (h' : Each xs (fun z y => y = .fz (h z)) ys) : ys = (xs.map h).map .fz := by
  apply List.ext_getElem?
  intro j
  rw [List.getElem?_map, List.getElem?_map]
  cases e1 : xs[j]? with
  | none => rw [List.getElem?_eq_none (by rw [h'.1]; exact List.getElem?_eq_none_iff.mp e1)]; rfl
  | some z =>
    have hj := (List.getElem?_eq_some_iff.mp e1).1
    have hy : ys[j]? = some (ys[j]'(by rw [h'.1]; exact hj)) := by simp [h'.1, hj]
    rw [hy, h'.2 j z _ e1 hy]
    rfl
/-- y = [elt for x in iter] on one line -/
theorem es_lcN (i j : Nat) {py : Pos} (hc : X.calm = true) (hN : X.N.Nodup) (hy : X.N[j]? = some y) (hyl : X.env.scope.names.lookup y = some .local) (hsw : swapsWith (.ListComp elt [⟨.Name x p, iter, [], 0⟩] scope p2) (some (.Name y py)) pos.line X.env = pure true)
    (ok : BlkOk X.N X.env.scope scope [(x, i)]) (hl : i < δ.length) (hlj : j < δ.length) (hx : scope.names.lookup x = some .local) (hi : Ei X (.Name x p) iter δ fun r δ1 => r = xs.map g ∧ δ1 = δ) (hz : xs.length ≤ 100000) (hw : feet (wipeE δ [i]) = feet δ)
    (step : ∀ z ∈ xs, ∀ Y, Blk X scope Y → Ed Y elt (bk1 δ i (g z)) (.fz (h z))) (q : P.nx (δ.set j (some (.fz (.lst (xs.map h))))))
    (hs : ∀ x, foldedSetIterable iter X.env x = pure x := by intro _; rfl) : Es X (.Assign [.Name y py] (.ListComp elt [⟨.Name x p, iter, [], 0⟩] scope p2) pos) δ P := fun G H σ s => by
  have pp := ps_setLc (X := X) (elt := elt) (tg := .Name x p) (iter := iter) (ifs := []) (pos := p2) (spos := pos) (i := j) hc hN hy hyl hsw wI_pi ok gBk_pg tBk_pt eBk_pe hs
  refine wS_of pp (lcE_run (own := [(x, i)]) (lcN_read (fun z y => y = .fz (h z)) i hN ok hl hx hi hz hw (fun z hz Y hY => (step z hz Y hY).use ⟨bk1_wipe, rfl⟩) s) fun v H' ⟨l, G', ys, e1, s', hE⟩ => ?_)
  subst e1
  rw [each_fz hE] at s'
  obtain ⟨G2, s2⟩ := s'.frost
  rw [show dat (.own l ((xs.map h).map OD.fz)) = .lst (xs.map h) from by unfold dat; rw [dats_fz]] at s2
  exact ⟨G2, _, s2.set hlj, q⟩
end
end Vl

namespace Vl
open PySem PySem.Spec PyProof.Rows L2
def iBk (X : Cx) (scope : Scope) (tg iter : Expr) : TI := fun σ H Q => ∀ Y, Blk X scope Y → wI Y tg iter σ H Q
section
variable {X Y : Cx} {e a b c tg iter tg1 iter1 elt : Expr} {es ts ifs ifs1 : List Expr} {δ : En} {Q : OD → En → Prop} {P : DE} {pos p p2 p3 : Pos} {x y : Str} {scope : Scope}
theorem iBk_pi (s : Shared) (H : Hp) (C : Addr) (cl : List (Str × Addr)) (fp : List Addr) : PI (X.blk s H scope (compEnvC scope cl C X.env) fp) tg iter (iBk X scope tg iter) := ⟨fun pins s0 _ _ _ I h => (h _ ⟨s, H, C, cl, fp, rfl⟩).run pins s0 I⟩
theorem blk_K (hY : Blk X scope Y) : Y.K = X.K := by
  obtain ⟨s, H, C, cl, fp, rfl⟩ := hY
  rfl
variable {α β : Type} {xs : List α} {inner : α → List β} {g : α → D} {g1 : α → β → D} {h : α → β → D} {t1 : α → En} {t2 : α → β → En} {k1 : α → Bool} {k2 : α → β → Bool}
/-- what two loops in a comprehension make -/
def twoL (xs : List α) (inner : α → List β) (k1 : α → Bool) (k2 : α → β → Bool) (h : α → β → D) : List D := (xs.filter k1).flatMap fun z => ((inner z).filter (k2 z)).map (h z)
theorem lc2_read {own : List (Str × Nat)} {vs1 : List Nat} (hi : Ei X tg iter δ fun r δ1 => r = xs.map g ∧ δ1 = δ) (hw : feet (wipeE δ (own.map (·.2))) = feet δ) (hv1 : ∀ i ∈ vs1, i ∈ own.map (·.2))
    (e1 : ∀ z, wipeE (t1 z) (own.map (·.2)) = wipeE δ (own.map (·.2))) (e2 : ∀ z y, wipeE (t2 z y) vs1 = wipeE (t1 z) vs1) (f1 : ∀ z, feet (wipeE (t1 z) vs1) = feet (t1 z)) (f0 : ∀ z, feet (t1 z) = feet δ)
    (hg : ∀ z ∈ xs, ∀ Y, Blk X scope Y → Egb Y tg (own.map (·.2)) (g z) (wipeE δ (own.map (·.2))) fun δ2 => δ2 = t1 z)
    (ht : ∀ z ∈ xs, ∀ Y, Blk X scope Y → Ets Y ifs (t1 z) fun r δ' => r = k1 z ∧ δ' = t1 z)
    (hi1 : ∀ z ∈ xs, k1 z = true → ∀ Y, Blk X scope Y → Ei Y tg1 iter1 (t1 z) fun r δ1 => r = (inner z).map (g1 z) ∧ δ1 = t1 z)
    (hg1 : ∀ z ∈ xs, ∀ y ∈ inner z, ∀ Y, Blk X scope Y → Egb Y tg1 vs1 (g1 z y) (wipeE (t1 z) vs1) fun δ2 => δ2 = t2 z y)
    (ht1 : ∀ z ∈ xs, ∀ y ∈ inner z, ∀ Y, Blk X scope Y → Ets Y ifs1 (t2 z y) fun r δ' => r = k2 z y ∧ δ' = t2 z y)
    (he : ∀ z ∈ xs, ∀ y ∈ inner z, k1 z = true → k2 z y = true → ∀ Y, Blk X scope Y → Ed Y elt (t2 z y) (.fz (h z y)))
    (hz : (twoL xs inner k1 k2 h).length < 100000) {G H : Hp} {σ : L2.St} (s : Stt X.K G H σ δ) {R : VK}
    (hR : ∀ l G' H', Step X.K G H δ G' H' (some (.ref l) :: σ) (some (ol l (twoL xs inner k1 k2 h)) :: δ) → R (.ref l) H') :
    tLc2 (wI X tg iter) (gBk X scope tg) (tBk X scope ifs) (iBk X scope tg1 iter1) (gBk X scope tg1) (tBk X scope ifs1) (eBk X scope elt) (own.map (·.2)) vs1 σ H R := by
  refine (hi G H σ s).imp fun J H1 ⟨G1, ds', δ0, s1, ⟨ed, e0⟩, Gd, Yd, W, hG, hY⟩ => ?_
  subst ed
  subst e0
  intro l nl
  rw [List.length_map] at W
  -- the outer state
  let Pv : Nat → Hp → Prop := fun i H' => ∃ Gi, Step X.K G1 H1 δ0 Gi H' (some (.ref l) :: σ) (some (ol l (twoL (xs.take i) inner k1 k2 h)) :: δ0)
  have tw : ∀ i, (hlt : i < xs.length) → twoL (xs.take (i + 1)) inner k1 k2 h = twoL (xs.take i) inner k1 k2 h ++ (if k1 xs[i] = true then ((inner xs[i]).filter (k2 xs[i])).map (h xs[i]) else []) := fun i hlt => by
    unfold twoL
    rw [List.take_succ_eq_append_getElem hlt, List.filter_append, List.flatMap_append]
    congr 1
    by_cases hk : k1 xs[i] = true
    · simp [hk]
    · simp [hk]
  have twle : ∀ i, (twoL (xs.take i) inner k1 k2 h).length ≤ (twoL xs inner k1 k2 h).length := fun i => by
    have : twoL xs inner k1 k2 h = twoL (xs.take i) inner k1 k2 h ++ twoL (xs.drop i) inner k1 k2 h := by
      unfold twoL
      rw [← List.flatMap_append, ← List.filter_append, List.take_append_drop]
    rw [this, List.length_append]
    omega
  refine ⟨fun i m H' => m = xs.length - i ∧ i ≤ xs.length ∧ Pv i H', ⟨xs.length, by simp, Nat.zero_le _, G1, by
    have := s1.st.step.newOwn (ds := []) Reps.nil nl
    exact this⟩, ?_⟩
  rintro i m H' ⟨rfl, hile, Gi, si⟩
  have gd := hG H' (si.gr.g.trans si.st.ex)
  by_cases hlt : i < xs.length
  · refine .inr ⟨W.goes i H' hlt gd, Pv (i + 1), fun H'' p' => ⟨xs.length - (i + 1), by omega, rfl, hlt, p'⟩, fun v H3 yv => ?_⟩
    have yv := W.yields i H' v H3 hlt gd yv
    have hd : (xs.map g)[i]? = some (g xs[i]) := by simp [hlt]
    have hm : xs[i] ∈ xs := List.getElem_mem hlt
    obtain ⟨G3, g1', g2, g3, g4, rv⟩ := hY i H' v H3 Gi _ si.gr.g si.st.ex yv hd
    have sp := si.st.pop
    have t3 : Step X.K Gi H' (wipeE δ0 (own.map (·.2))) G3 H3 (wipe σ (own.map (·.2))) (wipeE δ0 (own.map (·.2))) := sp.wiped.step.grow g1' g2 g3 g4
    intro B hB
    refine (hg _ hm _ hB G3 H3 _ v (by rw [blk_K hB]; exact t3.st) (by rw [blk_K hB]; exact rv)).imp fun σ2 H2 ⟨q1, G2, δ2, s2, ed2⟩ => ?_
    subst ed2
    rw [blk_K hB] at s2
    have w1 : wipe σ2 (own.map (·.2)) = wipe σ (own.map (·.2)) := q1.trans wipe_wipe
    have u2 := t3.trans s2
    refine ⟨w1, fun B hB => ?_⟩
    refine (ht _ hm _ hB G2 H2 σ2 (by rw [blk_K hB]; exact s2.st)).imp fun r H4 ⟨G4, δ4, s4, er, e4⟩ => ?_
    subst er
    subst e4
    rw [blk_K hB] at s4
    have u4 := u2.trans s4
    cases hk : k1 xs[i] with
    | false =>
      rw [if_neg Bool.false_ne_true]
      have u := sp.unwipe u4 w1 (e1 _) (fun _ _ => rfl) rfl hw hw
      refine ⟨G4, ?_⟩
      rw [tw i hlt, hk, if_neg Bool.false_ne_true, List.append_nil]
      exact si.frame u
    | true =>
      rw [if_pos rfl]
      intro B hB
      refine (hi1 _ hm hk _ hB G4 H4 σ2 (by rw [blk_K hB]; exact s4.st)).imp fun J1 H5 ⟨G5, ds1, δ5, s5, ⟨ed5, e5⟩, it1⟩ => ?_
      subst ed5
      subst e5
      rw [blk_K hB] at s5 it1
      obtain ⟨Gd1, Y1, W1, hG1, hY1⟩ := it1
      rw [List.length_map] at W1
      have u5 := u4.trans s5
      have u50 := sp.unwipe u5 w1 (e1 _) (fun _ _ => rfl) rfl hw hw
      let Pw : Nat → Hp → Prop := fun j H' => ∃ Gj, Stt X.K Gj H' σ2 (t1 xs[i]) ∧ Same G5 Gj ∧ Step X.K G1 H1 δ0 Gj H' (some (.ref l) :: σ) (some (ol l (twoL (xs.take i) inner k1 k2 h ++ (((inner xs[i]).take j).filter (k2 xs[i])).map (h xs[i]))) :: δ0)
      refine ⟨fun j m H' => m = (inner xs[i]).length - j ∧ j ≤ (inner xs[i]).length ∧ Pw j H', ⟨_, rfl, Nat.zero_le _, G5, s5.st, Same.refl _, by
        have := si.frame u50
        simpa using this⟩, ?_⟩
      rintro j m H6 ⟨rfl, hjle, Gj, sj, gj, fj⟩
      have gd1 := hG1 H6 (gj.trans sj.ex)
      by_cases hj : j < (inner xs[i]).length
      · refine .inr ⟨W1.goes j H6 hj gd1, Pw (j + 1), fun H'' p' => ⟨_, by omega, rfl, hj, p'⟩, fun v H7 yv => ?_⟩
        have yv := W1.yields j H6 v H7 hj gd1 yv
        have hd1 : ((inner xs[i]).map (g1 xs[i]))[j]? = some (g1 xs[i] (inner xs[i])[j]) := by simp [hj]
        have hm1 : (inner xs[i])[j] ∈ inner xs[i] := List.getElem_mem hj
        obtain ⟨G7, a1, a2, a3, a4, rv7⟩ := hY1 j H6 v H7 Gj _ gj sj.ex yv hd1
        have t7 : Step X.K Gj H6 (wipeE (t1 xs[i]) vs1) G7 H7 (wipe σ2 vs1) (wipeE (t1 xs[i]) vs1) := sj.wiped.step.grow a1 a2 a3 a4
        intro B hB
        refine (hg1 _ hm _ hm1 _ hB G7 H7 _ v (by rw [blk_K hB]; exact t7.st) (by rw [blk_K hB]; exact rv7)).imp fun σ3 H8 ⟨q8, G8, δ8, s8, e8⟩ => ?_
        subst e8
        rw [blk_K hB] at s8
        have w8 : wipe σ3 vs1 = wipe σ2 vs1 := q8.trans wipe_wipe
        have u8 := t7.trans s8
        refine ⟨w8, fun B hB => ?_⟩
        refine (ht1 _ hm _ hm1 _ hB G8 H8 σ3 (by rw [blk_K hB]; exact s8.st)).imp fun r H9 ⟨G9, δ9, s9, er9, e9⟩ => ?_
        subst er9
        subst e9
        rw [blk_K hB] at s9
        have u9 := u8.trans s9
        have back : ∀ {G' H' : Hp}, Step X.K Gj H6 (wipeE (t1 xs[i]) vs1) G' H' σ3 (t2 xs[i] (inner xs[i])[j]) → Step X.K Gj H6 (t1 xs[i]) G' H' σ2 (t1 xs[i]) := fun t => sj.unwipe t w8 (e2 _ _) (fun _ _ => rfl) rfl (f1 _) (f1 _)
        -- the same, seen from outside
        have outer : ∀ {G' H' : Hp}, Step X.K Gj H6 (t1 xs[i]) G' H' σ2 (t1 xs[i]) → Step X.K Gj H6 δ0 G' H' σ δ0 := fun {G' H'} t => by
          have ww : feet (wipeE δ0 (own.map (·.2))) = feet (t1 xs[i]) := hw.trans (f0 _).symm
          have q : Step X.K Gj H6 (wipeE δ0 (own.map (·.2))) G' H' σ2 (t1 xs[i]) := ⟨t.st, by rw [ww]; exact t.gr, fun b hb => by rw [ww]; exact t.ft b hb⟩
          exact fj.st.pop.unwipe q w1 (e1 _) (fun _ _ => rfl) rfl hw hw
        have tj : ∀ ys : List β, ys = (inner xs[i]).take (j + 1) → ys = (inner xs[i]).take j ++ [(inner xs[i])[j]] := fun ys e => by rw [e, List.take_succ_eq_append_getElem hj]
        cases hk2 : k2 xs[i] (inner xs[i])[j] with
        | false =>
          rw [if_neg Bool.false_ne_true]
          have bk := back u9
          refine ⟨G9, bk.st, gj.trans bk.gr.g, ?_⟩
          rw [List.take_succ_eq_append_getElem hj, List.filter_append, List.filter_cons_of_neg (by simp [hk2]), List.filter_nil, List.append_nil]
          exact fj.trans (fj.st.step.frame (outer bk))
        | true =>
          rw [if_pos rfl]
          intro B hB
          refine (he _ hm _ hm1 hk hk2 _ hB G9 H9 σ3 (by rw [blk_K hB]; exact s9.st)).imp fun v10 H10 ⟨z, G10, δ10, s10, ez, e10⟩ => ?_
          subst ez
          subst e10
          rw [blk_K hB] at s10
          have rz := top_fz s10.st rfl
          have bk := back (u9.trans s10.pop)
          have fr := fj.st.step.frame (outer bk)
          obtain ⟨_, ws, hl1, rs1⟩ := own_run (i := 0) fr.st rfl
          have fin := Step.own (i := 0) (es := twoL (xs.take i) inner k1 k2 h ++ (((inner xs[i]).take j).filter (k2 xs[i])).map (h xs[i]) ++ [h xs[i] (inner xs[i])[j]]) fr.st rfl (Reps.app rs1 (Reps.cons rz Reps.nil))
          have lG : G10 l = none := (fr.st.off l (by rw [feet_some]; refine List.mem_append_left _ ?_; unfold ol; rw [foot_own]; exact List.mem_cons_self)).1
          have grow : Stt X.K G10 (upd H10 l (.lst (ws ++ [v10]))) σ2 (t1 xs[i]) := by
            have lno : l ∉ feet (t1 xs[i]) := by
              rw [f0]
              have nd := fj.st.nd
              rw [feet_some] at nd
              intro hc
              exact (List.nodup_append.mp nd).2.2 l (by unfold ol; rw [foot_own]; exact List.mem_cons_self) l hc rfl
            refine bk.st.keep (Same.refl _) (fun b o e => ?_) (fun b hb o e => ?_) fun b hb => (bk.st.off b hb).1
            · rw [upd_ne (fun q => by rw [q, lG] at e; cases e)]
              exact bk.st.ex b o e
            · rw [upd_ne (fun q => by subst q; exact lno hb)]
              exact e
          refine ⟨ws, hl1, ?_, G10, grow, gj.trans bk.gr.g, ?_⟩
          · have := twle (i + 1)
            rw [tw i hlt, hk, if_pos rfl, List.length_append, List.length_map] at this
            have l1 : (((inner xs[i]).take j).filter (k2 xs[i])).length ≤ ((inner xs[i]).filter (k2 xs[i])).length := (List.Sublist.filter _ (List.take_sublist _ _)).length_le
            rw [rs1.length, sizeLine_eq, List.length_append, List.length_map]
            omega
          · rw [List.take_succ_eq_append_getElem hj, List.filter_append, List.filter_cons_of_pos (by simp [hk2]), List.filter_nil, List.map_append, ← List.append_assoc]
            exact fj.trans (fr.trans fin)
      · have ej : j = (inner xs[i]).length := by omega
        subst ej
        refine .inl ⟨W1.stops H6 gd1, Gj, ?_⟩
        rw [tw i hlt, hk, if_pos rfl]
        rw [List.take_length] at fj
        exact fj
  · have e : i = xs.length := by omega
    subst e
    refine .inl ⟨W.stops H' gd, hR l Gi H' ?_⟩
    have := s1.trans si
    rw [List.take_length] at this
    exact this
theorem ed_lc2 {own : List (Str × Nat)} {vs1 : List Nat} (hc : X.calm = true) (hN : X.N.Nodup) (ok : BlkOk X.N X.env.scope scope own) (hi : Ei X tg iter δ fun r δ1 => r = xs.map g ∧ δ1 = δ) (hw : feet (wipeE δ (own.map (·.2))) = feet δ) (hv1 : ∀ i ∈ vs1, i ∈ own.map (·.2))
    (e1 : ∀ z, wipeE (t1 z) (own.map (·.2)) = wipeE δ (own.map (·.2))) (e2 : ∀ z y, wipeE (t2 z y) vs1 = wipeE (t1 z) vs1) (f1 : ∀ z, feet (wipeE (t1 z) vs1) = feet (t1 z)) (f0 : ∀ z, feet (t1 z) = feet δ)
    (hg : ∀ z ∈ xs, ∀ Y, Blk X scope Y → Egb Y tg (own.map (·.2)) (g z) (wipeE δ (own.map (·.2))) fun δ2 => δ2 = t1 z)
    (ht : ∀ z ∈ xs, ∀ Y, Blk X scope Y → Ets Y ifs (t1 z) fun r δ' => r = k1 z ∧ δ' = t1 z)
    (hi1 : ∀ z ∈ xs, k1 z = true → ∀ Y, Blk X scope Y → Ei Y tg1 iter1 (t1 z) fun r δ1 => r = (inner z).map (g1 z) ∧ δ1 = t1 z)
    (hg1 : ∀ z ∈ xs, ∀ y ∈ inner z, ∀ Y, Blk X scope Y → Egb Y tg1 vs1 (g1 z y) (wipeE (t1 z) vs1) fun δ2 => δ2 = t2 z y)
    (ht1 : ∀ z ∈ xs, ∀ y ∈ inner z, ∀ Y, Blk X scope Y → Ets Y ifs1 (t2 z y) fun r δ' => r = k2 z y ∧ δ' = t2 z y)
    (he : ∀ z ∈ xs, ∀ y ∈ inner z, k1 z = true → k2 z y = true → ∀ Y, Blk X scope Y → Ed Y elt (t2 z y) (.fz (h z y)))
    (hz : (twoL xs inner k1 k2 h).length < 100000) (q : ∀ l, Q (ol l (twoL xs inner k1 k2 h)) δ) (hs : ∀ x, foldedSetIterable iter X.env x = pure x := by intro _; rfl) (hs1 : ∀ env x, foldedSetIterable iter1 env x = pure x := by intro _ _; rfl) :
    Ev X (.ListComp elt [⟨tg, iter, ifs, 0⟩, ⟨tg1, iter1, ifs1, 0⟩] scope pos) δ Q := fun G H σ s => by
  have pp := pe_lc2 (X := X) (pos := pos) hc hN wI_pi ok hv1 (gBk_pg (X := X) (tg := tg)) (tBk_pt (X := X) (ifs := ifs)) (iBk_pi (X := X) (tg := tg1) (iter := iter1)) (gBk_pg (X := X) (tg := tg1)) (tBk_pt (X := X) (ifs := ifs1)) (eBk_pe (X := X) (elt := elt)) hs hs1
  exact wE_of pp (lc2_read hi hw hv1 e1 e2 f1 f0 hg ht hi1 hg1 ht1 he hz s fun l G' H' s' => ⟨_, G', δ, s', q l⟩)
/-- [elt for x in iter for y in iter1] -/
theorem ed_lc2N (i j : Nat) {px py : Pos} (hc : X.calm = true) (hN : X.N.Nodup) (ok : BlkOk X.N X.env.scope scope [(x, i), (y, j)]) (hl : i < δ.length) (hl2 : j < δ.length) (hx : scope.names.lookup x = some .local) (hy : scope.names.lookup y = some .local) (hij : i ≠ j)
    (hi : Ei X (.Name x px) iter δ fun r δ1 => r = xs.map g ∧ δ1 = δ) (hw : feet (wipeE δ [i, j]) = feet δ) (hwz : ∀ z, feet (((wipeE δ [i, j]).set i (some (.fz (g z))))) = feet δ) (hwz2 : ∀ z, wipeE ((wipeE δ [i, j]).set i (some (.fz (g z)))) [j] = (wipeE δ [i, j]).set i (some (.fz (g z))))
    (hi1 : ∀ z ∈ xs, ∀ Y, Blk X scope Y → Ei Y (.Name y py) iter1 ((wipeE δ [i, j]).set i (some (.fz (g z)))) fun r δ1 => r = (inner z).map (g1 z) ∧ δ1 = (wipeE δ [i, j]).set i (some (.fz (g z))))
    (he : ∀ z ∈ xs, ∀ y ∈ inner z, ∀ Y, Blk X scope Y → Ed Y elt (((wipeE δ [i, j]).set i (some (.fz (g z)))).set j (some (.fz (g1 z y)))) (.fz (h z y)))
    (hz : (xs.flatMap fun z => (inner z).map (h z)).length < 100000) (q : ∀ l, Q (ol l (xs.flatMap fun z => (inner z).map (h z))) δ) (hs : ∀ x, foldedSetIterable iter X.env x = pure x := by intro _; rfl) (hs1 : ∀ env x, foldedSetIterable iter1 env x = pure x := by intro _ _; rfl) :
    Ev X (.ListComp elt [⟨.Name x px, iter, [], 0⟩, ⟨.Name y py, iter1, [], 0⟩] scope pos) δ Q := by
  have e0 : (xs.flatMap fun z => (inner z).map (h z)) = twoL xs inner (fun _ => true) (fun _ _ => true) h := by
    unfold twoL
    rw [List.filter_eq_self.mpr (by simp)]
    simp only [List.filter_eq_self.mpr (fun _ _ => rfl)]
  rw [e0] at hz q
  refine ed_lc2 (own := [(x, i), (y, j)]) (vs1 := [j]) (t1 := fun z => (wipeE δ [i, j]).set i (some (.fz (g z)))) (t2 := fun z w => ((wipeE δ [i, j]).set i (some (.fz (g z)))).set j (some (.fz (g1 z w)))) (k1 := fun _ => true) (k2 := fun _ _ => true) hc hN ok hi hw (by simp) (fun z => ?_) (fun z w => wipeE_set (by simp)) (fun z => by rw [hwz2]) hwz (fun z hz Y hY => ?_) (fun z hz Y hY => ets_nil ⟨rfl, rfl⟩) (fun z hz _ => hi1 z hz) (fun z hz w hw Y hY => ?_) (fun z hz w hw Y hY => ets_nil ⟨rfl, rfl⟩) (fun z hz w hw _ _ => he z hz w hw) hz q hs hs1
  · show wipeE _ [i, j] = wipeE δ [i, j]
    rw [wipeE_set (by simp), wipeE_wipe]
  · exact egb_name i (by rw [blk_N hY]; exact hN) (by rw [blk_N hY]; exact ok.ix (x, i) (by simp)) (.inl (blk_loc hx hY)) (by rw [wipeE_length]; exact hl) (by simp) rfl (.inr (blk_loc hx hY))
  · rw [hwz2]
    exact egb_name j (by rw [blk_N hY]; exact hN) (by rw [blk_N hY]; exact ok.ix (y, j) (by simp)) (.inl (blk_loc hy hY)) (by rw [List.length_set, wipeE_length]; exact hl2) (by simp) rfl (.inr (blk_loc hy hY))
end
end Vl

namespace Vl
open PySem PySem.Spec PyProof.Rows L2
/-! ### repr -/
mutual
def Shw : D → Prop
  | .non => True
  | .bl _ => True
  | .int i => i.natAbs < 2 ^ 1900
  | .str s => ∀ c ∈ s.cps.toList, c < 16 ^ 8
  | .lst ds => Shws ds
  | .tup ds => Shws ds
  | .op _ => False
  | .rol _ => False
def Shws : List D → Prop
  | [] => True
  | d :: ds => Shw d ∧ Shws ds
end
mutual
def blk : D → Nat
  | .lst ds => blks ds
  | .tup ds => blks ds
  | .str s => s.cps.size
  | .non => 0
  | .bl _ => 0
  | .int _ => 0
  | .op _ => 0
  | .rol _ => 0
def blks : List D → Nat
  | [] => 0
  | d :: ds => blk d + 1 + blks ds
end
mutual
def dep : D → Nat
  | .lst ds => deps ds + 1
  | .tup ds => deps ds + 1
  | .str _ => 0
  | .non => 0
  | .bl _ => 0
  | .int _ => 0
  | .op _ => 0
  | .rol _ => 0
def deps : List D → Nat
  | [] => 0
  | d :: ds => max (dep d) (deps ds)
end
mutual
theorem Shw.py : ∀ d : D, Shw d → ∃ x, py d = some x ∧ x.showable = true ∧ x.hasDict = false ∧ x.leavesShort 1921 = true ∧ x.bulk = blk d ∧ x.depth = dep d
  | .non, _ => ⟨.none, by unfold Vl.py; rfl, rfl, rfl, rfl, by unfold blk; rfl, by unfold dep; rfl⟩
  | .bl b, _ => ⟨.bool b, by unfold Vl.py; rfl, rfl, rfl, rfl, by unfold blk; rfl, by unfold dep; rfl⟩
  | .int i, h => by
    unfold Shw at h
    have l1 : i.natAbs.log2 < 1900 := PySem.Flt.log2_lt_of (by decide) h
    refine ⟨.int i, by unfold Vl.py; rfl, ?_, rfl, ?_, by unfold blk; rfl, by unfold dep; rfl⟩
    · show decide (i.natAbs.log2 < 1920) = true
      exact decide_eq_true (by omega)
    · have e := int_text_length_le (k := 1900) (by decide) l1
      show decide ((PyData.shown (.int i)).length ≤ 1921) = true
      refine decide_eq_true ?_
      show (Str.ofString (toString i)).length ≤ 1921
      rw [PySem.ofString_length]
      omega
  | .str s, h => by
    unfold Shw at h
    refine ⟨.str s, by unfold Vl.py; rfl, rfl, rfl, ?_, by unfold blk; rfl, by unfold dep; rfl⟩
    show (s.cps.toList.all fun c => decide (c < 16 ^ 8)) = true
    exact List.all_eq_true.mpr fun c hc => decide_eq_true (h c hc)
  | .lst ds, h => by
    unfold Shw at h
    obtain ⟨xs, h1, h2, h3, h4, h5, h6⟩ := Shws.py ds h
    refine ⟨.list xs, by unfold Vl.py; rw [h1]; rfl, h2, h3, h4, ?_, ?_⟩
    · unfold blk; exact h5
    · unfold dep; rw [← h6]; rfl
  | .tup ds, h => by
    unfold Shw at h
    obtain ⟨xs, h1, h2, h3, h4, h5, h6⟩ := Shws.py ds h
    refine ⟨.tuple xs, by unfold Vl.py; rw [h1]; rfl, h2, h3, h4, ?_, ?_⟩
    · unfold blk; exact h5
    · unfold dep; rw [← h6]; rfl
  | .op _, h => by unfold Shw at h; exact h.elim
  | .rol _, h => by unfold Shw at h; exact h.elim
theorem Shws.py : ∀ ds : List D, Shws ds → ∃ xs, pys ds = some xs ∧ PyData.showableAll xs = true ∧ PyData.hasDictAll xs = false ∧ PyData.leavesShortAll 1921 xs = true ∧ PyData.bulkAll xs = blks ds ∧ PyData.depthAll xs = deps ds
  | [], _ => ⟨[], by unfold pys; rfl, rfl, rfl, rfl, by unfold blks; rfl, by unfold deps; rfl⟩
  | d :: ds, h => by
    unfold Shws at h
    obtain ⟨x, h1, h2, h3, h4, h5, h6⟩ := Shw.py d h.1
    obtain ⟨xs, a1, a2, a3, a4, a5, a6⟩ := Shws.py ds h.2
    refine ⟨x :: xs, by unfold pys; rw [h1, a1]; rfl, ?_, ?_, ?_, ?_, ?_⟩
    · show (x.showable && PyData.showableAll xs) = true
      rw [h2, a2]; rfl
    · show (x.hasDict || PyData.hasDictAll xs) = false
      rw [h3, a3]; rfl
    · show (x.leavesShort 1921 && PyData.leavesShortAll 1921 xs) = true
      rw [h4, a4]; rfl
    · unfold blks
      rw [← h5, ← a5]; rfl
    · unfold deps
      rw [← h6, ← a6]; rfl
end
/-- the text of data -/
def rp (d : D) : Str := ((py d).getD .none).shown
def rRepr (K : PySem.W.Frag) : List V → Hp → VK → Prop := fun vs H Q => ∃ (a : Addr) (x : PyData), vs = [.ref a] ∧ Dp K H (.ref a) x ∧ x.showable = true ∧ x.hasDict = false ∧ x.depth ≤ 60 ∧ x.shown.length ≤ sizeLine ∧ Q (.str x.shown) H
section
variable {X : Cx} {e a b c tg iter elt : Expr} {es rest : List Expr} {st : Stmt} {sts bd : List Stmt} {δ : En} {pos p : Pos} {S : OD → Prop} {P : DE} {x : OD} {k k2 : Bool}
theorem cr_repr (hg : X.A.guards = some []) (hu : X.A.units + 64 < cLine) : CallR X (.builtin "repr") (rRepr X.K) := by
  intro pins s σ H vs us Q I r h
  obtain ⟨a, x, rfl, hd, hs, hn, hp, hz, q⟩ := h
  cases r with
  | cons r rr =>
    cases rr
    cases r
    obtain ⟨as, r1⟩ := Dp.reads I x (.ref a) (.ref a) hd rfl
    exact repr_of_reads' r1 hs (fun e => by rw [hn] at e; cases e) hg (by omega) (fun _ _ e => e) (fun h' u tk hk => ⟨.str _, H, I.kept (t' := tk) hk, ⟨_, rfl⟩, q⟩) hz
theorem cd_repr {d : D} (hg : X.A.guards = some []) (hu : X.A.units + 64 < cLine) (hs : Shw d) (hl : (∃ ds, d = .lst ds) ∨ ∃ ds, d = .tup ds) (hd : dep d ≤ 60) (hb : blk d ≤ 8000) (q : S (.fz (.str (rp d)))) : CD X (.builtin "repr") [d] S := ⟨_, cr_repr hg hu, fun G H vs kk s rs z => by
  obtain ⟨x, h1, h2, h3, h4, h5, h6⟩ := hs.py
  have er : rp d = x.shown := by unfold rp; rw [h1]; rfl
  unfold Reps at rs
  obtain ⟨v, r, rfl, r1, rn⟩ := rs
  unfold Reps at rn
  subst rn
  have dp := Rep.dp s d v x r1 h1
  obtain ⟨ad, rfl⟩ : ∃ ad, v = .ref ad := by
    rcases hl with ⟨ds, rfl⟩ | ⟨ds, rfl⟩
    · unfold Rep at r1
      exact ⟨_, r1.choose_spec.choose_spec.1⟩
    · unfold Rep at r1
      exact ⟨_, r1.choose_spec.choose_spec.1⟩
  refine ⟨ad, x, rfl, dp, h2, h3, by omega, ?_, z (.str (rp d)) _ G H q (Same.refl _) (Same.refl _) s (fun _ h => .inl h) (by unfold Rep; rw [er])⟩
  have := PyData.shown_le_bulk 1921 (by decide) x h4
  rw [sizeLine_eq]
  have : (1921 + 2) * x.bulk ≤ 1923 * 8000 := Nat.mul_le_mul (by decide) (by omega)
  omega⟩
theorem eq_S {s1 s2 : Str} (q : S (.fz (.bl (decide (s1 = s2))))) : RD X (compareOp .Eq) (.fz (.str s1)) (.fz (.str s2)) S := ⟨_, op_eq, _, _, rfl, rfl, fun G H v1 v2 k s r1 r2 z => by
  unfold Rep at r1 r2
  subst r1
  subst r2
  refine ⟨rfl, z (.bl (decide (s1 = s2))) _ G H q (Same.refl _) (Same.refl _) s (fun _ h => .inl h) ?_⟩
  unfold Rep
  rw [show decide (V.str s1 = V.str s2) = decide (s1 = s2) by simp]⟩
theorem ne_S {s1 s2 : Str} (q : S (.fz (.bl (!decide (s1 = s2))))) : RD X (compareOp .NotEq) (.fz (.str s1)) (.fz (.str s2)) S := ⟨_, op_ne, _, _, rfl, rfl, fun G H v1 v2 k s r1 r2 z => by
  unfold Rep at r1 r2
  subst r1
  subst r2
  refine ⟨rfl, z (.bl (!decide (s1 = s2))) _ G H q (Same.refl _) (Same.refl _) s (fun _ h => .inl h) ?_⟩
  unfold Rep
  rw [show decide (V.str s1 = V.str s2) = decide (s1 = s2) by simp]⟩
/-! ### known tests -/
theorem Ew.use {R : Bool → En → Prop} (h : Edw X e δ k) (q : R k δ) : Ew X e δ R := fun G H σ s => (h G H σ s).imp fun r H1 ⟨G1, d1, s1, e1, e2⟩ => by subst e1; subst e2; exact ⟨G1, _, s1, q⟩
theorem ed_andF (ha : Ed X a δ (.fz (.bl k))) (hk : k = false) : Ed X (.BoolOp .And (a :: b :: rest) pos) δ (.fz (.bl false)) :=
  ev_and (ha.use ⟨k, rfl, fun q => (by rw [hk] at q; cases q), fun _ => ⟨rfl, rfl⟩⟩)
theorem ed_andT (ha : Ed X a δ (.fz (.bl k))) (hk : k = true) (hb : Ed X (.BoolOp .And (b :: rest) pos) δ x) : Ed X (.BoolOp .And (a :: b :: rest) pos) δ x :=
  ev_and (ha.use ⟨k, rfl, fun _ => hb.use ⟨rfl, rfl⟩, fun q => (by rw [hk] at q; cases q)⟩)
theorem ed_orT (ha : Ed X a δ (.fz (.bl k))) (hk : k = true) : Ed X (.BoolOp .Or (a :: b :: rest) pos) δ (.fz (.bl true)) :=
  ev_or (ha.use ⟨k, rfl, fun q => (by rw [hk] at q; cases q), fun _ => ⟨rfl, rfl⟩⟩)
theorem ed_orF (ha : Ed X a δ (.fz (.bl k))) (hk : k = false) (hb : Ed X (.BoolOp .Or (b :: rest) pos) δ x) : Ed X (.BoolOp .Or (a :: b :: rest) pos) δ x :=
  ev_or (ha.use ⟨k, rfl, fun _ => hb.use ⟨rfl, rfl⟩, fun q => (by rw [hk] at q; cases q)⟩)
theorem ed_andWF (ha : Edt X a δ k) (hk : k = false) : Edw X (.BoolOp .And (a :: b :: rest) pos) δ false :=
  ew_and (ha.use ⟨fun q => (by rw [hk] at q; cases q), fun _ => ⟨rfl, rfl⟩⟩)
theorem ed_andWT (ha : Edt X a δ k) (hk : k = true) (hb : Edw X (.BoolOp .And (b :: rest) pos) δ k2) : Edw X (.BoolOp .And (a :: b :: rest) pos) δ k2 :=
  ew_and (ha.use ⟨fun _ => Ew.use hb ⟨rfl, rfl⟩, fun q => (by rw [hk] at q; cases q)⟩)
theorem ed_orWT (ha : Edt X a δ k) (hk : k = true) : Edw X (.BoolOp .Or (a :: b :: rest) pos) δ true :=
  ew_or (ha.use ⟨fun q => (by rw [hk] at q; cases q), fun _ => ⟨rfl, rfl⟩⟩)
theorem ed_orWF (ha : Edt X a δ k) (hk : k = false) (hb : Edw X (.BoolOp .Or (b :: rest) pos) δ k2) : Edw X (.BoolOp .Or (a :: b :: rest) pos) δ k2 :=
  ew_or (ha.use ⟨fun _ => Ew.use hb ⟨rfl, rfl⟩, fun q => (by rw [hk] at q; cases q)⟩)
theorem ed_ifT (hc : Edt X c δ k) (hk : k = true) (h1 : Ed X a δ x) : Ed X (.IfExp c a b pos) δ x :=
  ev_if (hc.use ⟨fun _ => h1.use ⟨rfl, rfl⟩, fun q => (by rw [hk] at q; cases q)⟩)
theorem ed_ifF (hc : Edt X c δ k) (hk : k = false) (h1 : Ed X b δ x) : Ed X (.IfExp c a b pos) δ x :=
  ev_if (hc.use ⟨fun q => (by rw [hk] at q; cases q), fun _ => h1.use ⟨rfl, rfl⟩⟩)
theorem es_ifT (hc : Edt X c δ k) (hk : k = true) (h1 : Eb X sts δ P) : Es X (.If c sts bd pos) δ P := es_if (hc.use ⟨fun _ => h1, fun q => (by rw [hk] at q; cases q)⟩)
theorem es_ifF (hc : Edt X c δ k) (hk : k = false) (h2 : Eb X bd δ P) : Es X (.If c sts bd pos) δ P := es_if (hc.use ⟨fun q => (by rw [hk] at q; cases q), fun _ => h2⟩)
/-- a number or None -/
def oI : Option Int → D
  | none => .non
  | some i => .int i
theorem isN_O {o : Option Int} (q : S (.fz (.bl o.isNone))) : RD X (compareOp .Is) (.fz (oI o)) (.fz .non) S := by
  cases o with
  | none => exact isN_non q
  | some i => exact isN_int q
theorem notN_O {o : Option Int} (q : S (.fz (.bl o.isSome))) : RD X (compareOp .IsNot) (.fz (oI o)) (.fz .non) S := by
  cases o with
  | none => exact notN_non q
  | some i => exact notN_int q
end
end Vl

namespace Vl
open PySem PySem.Spec PyProof.Rows L2
/-! ### calls by name -/
/-- a callee with its def at hand -/
structure ClS (P : Program) (w : World) (K : PySem.W.Frag) (mg : Str → Option Value) (base : Heap) (k : Nat) (nm : Str) (st : Stmt) (ps : List Str) (C : Con) : Prop where
  ex : ∃ f fd, Fun K nm nm st f fd ∧ FnG P w K mg base k f fd ps (spC K C) ∧ mg nm = some (.ref f) ∧ PySem.W.keepIn K (.ref f) = true ∧ Binds K fd ps []
section
variable {P : Program} {w : World} {K : PySem.W.Frag} {mg : Str → Option Value} {base : Heap} {k j : Nat} {nm : Str} {ps N : List Str} {C : Con} {st : Stmt}
theorem ClS.cl (c : ClS P w K mg base k nm st ps C) : Cl P w K mg base k nm ps C := by
  obtain ⟨f, fd, F, r⟩ := c.ex
  exact ⟨f, fd, r⟩
theorem ClS.mono (c : ClS P w K mg base j nm st ps C) (h : j ≤ k) : ClS P w K mg base k nm st ps C := by
  obtain ⟨f, fd, F, G, r⟩ := c.ex
  exact ⟨f, fd, F, G.mono h, r⟩
theorem Def.clS (D : Def K mg nm st ps) (S : FnScope N ps (defScope st)) (len : ∀ i, (C.args i).length = ps.length)
    (body : ∀ (f : Addr) (cdv : Value) (A : Around) (outer : List Env) (s : Shared) (H : Hp) (E : XK) (i : C.ι), A.guards = some [] → Room k (A.deeper (envOfC nm (defScope st) s.heap.objs.size f cdv)) → C.pre i →
      Eb (cxOf CX0 P w K mg base N nm (defScope st) f cdv A outer s H E).nox (defBody st) (ens (C.args i) ++ List.replicate (N.length - (C.args i).length) none)
        { nx := fun δ' => ∃ xs', KeepA (C.args i) xs' δ' ∧ C.out i (.fz .non) xs', rt := fun y δ' => ∃ xs', KeepA (C.args i) xs' δ' ∧ C.out i y xs' }) : ClS P w K mg base (k + 1) nm st ps C := by
  obtain ⟨f, fd, F, g, b⟩ := D.ex
  exact ⟨f, fd, F, fn_con F S len (body f), g, F.kp, b⟩
end
def pick {α : Type} (idx : List Nat) (xs : List α) : List α := idx.filterMap (xs[·]?)
theorem pick_cons {α : Type} {i : Nat} {idx : List Nat} {xs : List α} {a : α} (h : xs[i]? = some a) : pick (i :: idx) xs = a :: pick idx xs := by
  unfold pick
  rw [List.filterMap_cons, h]
theorem pick_vals {vs : List V} {us : List Value} (r : Vals vs us) : ∀ idx : List Nat, (∀ i ∈ idx, i < vs.length) → Vals (pick idx vs) (pick idx us)
  | [], _ => .nil
  | i :: idx, h => by
    have hi := h i List.mem_cons_self
    obtain ⟨u, hu, ru⟩ := r.get (show vs[i]? = some vs[i] by simp [hi])
    rw [pick_cons (show vs[i]? = some vs[i] by simp [hi]), pick_cons hu]
    exact .cons ru (pick_vals r idx fun j hj => h j (List.mem_cons_of_mem _ hj))
theorem pick_reps {K : PySem.W.Frag} {G : Hp} {σ : L2.St} {as : List AR} {vs : List V} (r : RepAs K G σ as vs) : ∀ idx : List Nat, (∀ i ∈ idx, i < as.length) → RepAs K G σ (pick idx as) (pick idx vs)
  | [], _ => by
    show RepAs K G σ [] []
    unfold RepAs
    rfl
  | i :: idx, h => by
    have hi := h i List.mem_cons_self
    obtain ⟨v, hv, rv⟩ := repAs_get r (show as[i]? = some as[i] by simp [hi])
    rw [pick_cons (show as[i]? = some as[i] by simp [hi]), pick_cons hv]
    unfold RepAs
    exact ⟨v, _, rfl, rv, pick_reps r idx fun j hj => h j (List.mem_cons_of_mem _ hj)⟩
structure wK (X : Cx) (kws : List Keyword) (σ : L2.St) (H : Hp) (Q : List V → Hp → Prop) : Prop where
  run : ∀ (pos : Pos) pins s, Inv X pins σ H s → wpAny (model X.prog X.w) X.A (evalAll ((backToKw pos (keywordEach kws X.env)).map (·.2))) (AP X pins σ Q) X.xe s
/-- the keywords' values -/
def Ek (X : Cx) (kws : List Keyword) (δ : En) (Q : List AR → En → Prop) : Prop := ∀ G H σ, Stt X.K G H σ δ → wK X kws σ H (PostA X.K G H σ δ Q)
section
variable {X : Cx} {e : Expr} {kws : List Keyword} {δ : En} {Q : OD → En → Prop} {pos p kpos : Pos} {nm : Str} {ps ks : List Str} {C : Con} {k : Nat} {st : Stmt} {n : Option Str}
theorem wK_pk : PK X kws (wK X kws) := ⟨fun pos pins s _ _ _ I h => h.run pos pins s I⟩
theorem wK_of {t : TA} {σ : L2.St} {H : Hp} {R : List V → Hp → Prop} (h : PK X kws t) (q : t σ H R) : wK X kws σ H R := .mk fun pos pins s I => h.run pos pins s σ H R I q
theorem wK.imp {σ : L2.St} {H : Hp} {R R' : List V → Hp → Prop} (h : wK X kws σ H R) (q : ∀ v H', R v H' → R' v H') : wK X kws σ H R' := .mk fun pos pins s I =>
  thn (h.run pos pins s I) fun _ _ ⟨v, H', I', r, z⟩ => ⟨v, H', I', r, q v H' z⟩
theorem ek_nil {Q : List AR → En → Prop} (q : Q [] δ) : Ek X [] δ Q := fun G H σ s => wK_of pk_nil ⟨[], G, δ, s.step, by unfold RepAs; rfl, q⟩
theorem ek_cons {Q : List AR → En → Prop} (h : Ev X e δ fun x δ1 => ∃ d, x = .fz d ∧ Ek X kws δ1 fun xs => Q (.d d :: xs)) : Ek X (⟨n, e, kpos⟩ :: kws) δ Q := fun G H σ s =>
  wK_of (pk_cons wE_pe wK_pk) ((h G H σ s).imp fun v H1 ⟨x, G1, d1, s1, d, e1, h2⟩ => by
    have r := top_fz s1.st e1
    refine (h2 G1 H1 σ s1.st.pop).imp fun vs H2 ⟨xs, G2, d2, s2, rs, q⟩ => ?_
    exact ⟨.d d :: xs, G2, d2, s1.pop.trans s2, by unfold RepAs RepA; exact ⟨v, vs, rfl, Rep.mono s2.gr.g d v r, rs⟩, q⟩)
/-- f(k = e, ..), nothing by position -/
theorem ev_clK (c : ClS X.prog X.w X.K X.mg X.base k nm st ps C) (hgd : X.A.guards = some []) (hr : Room k X.A) (hg : Gl X nm) (idx : List Nat)
    (kb : ∀ f fd, Fun X.K nm nm st f fd → ∀ (s : Shared) (ws : List Value), ws.length = ks.length → BindsTo s fd ⟨[], ks.zip ws⟩ (ps.zip (pick idx ws))) (hix : ∀ i ∈ idx, i < ks.length)
    (h : Ek X kws δ fun as δ1 => as.length = ks.length ∧ ∃ i, resolve δ1 (pick idx as) = some (C.args i) ∧ (foots (C.args i)).Nodup ∧ C.pre i ∧ ∀ y xs', xs'.map foot = (C.args i).map foot → C.out i y xs' → Q y (upds δ1 (pick idx as) xs'))
    (hdb : (nm == ("__debug__" : Str)) = false := by decide) (hall : (backToKw pos (keywordEach kws X.env)).all (·.1.isSome) = true := by rfl) (hks : (backToKw pos (keywordEach kws X.env)).filterMap (·.1) = ks := by rfl)
    (hpl : ((backTo pos (starEach [] X.env)).any (·.1) || (backToKw pos (keywordEach kws X.env)).any (·.1.isNone)) = false := by rfl) : Ev X (.Call (.Name nm p) [] kws pos) δ Q := fun G H σ s => by
  obtain ⟨f, fd, Fn, F, hm, hk, hb⟩ := c.ex
  refine .mk fun pins s0 I => ?_
  refine wpAny_Call_Name_kw (ld_glob I hg hm ?_ hdb)
  refine PySem.W.callWith_KW0 (h₀ := X.base) I.ok.mod.kin hk hall (thn ((h G H σ s).run pos pins s0 I) fun us s1 ⟨vs, H1, I1, r1, as, G1, δ1, t1, rs, hl, i, hx, nd, hp, q⟩ => ⟨I1.kIn, ?_⟩) hpl
  rw [hks]
  have lv : vs.length = ks.length := (repAs_len rs).trans hl
  have rp := pick_vals r1 idx fun j hj => by rw [lv]; exact hix j hj
  have ra := pick_reps rs idx fun j hj => by rw [hl]; exact hix j hj
  have hsp : spC X.K C (pick idx vs) H1 (Post X.K G H σ δ Q) E0 := ⟨G1, i, args_st t1.st ra hx nd, hp, fun v y xs' G' H' t hf ho => ⟨y, G', _, t1.trans (args_back t1.st ra hx hf t), q y xs' hf ho⟩⟩
  refine wpAny_call (codeAny_mono (F.run X.A X.stack s1 H1 ⟨[], ks.zip us⟩ (pick idx us) (pick idx vs) _ E0 hgd hr I1.env0 (kb f fd Fn s1 us (by rw [← r1.length, lv])) rp hsp) fun res s' z => ?_)
  cases res with
  | error e => exact z.elim
  | ok fl =>
    cases fl with
    | ret u => exact I1.after z
    | next => exact z.elim
    | brk => exact z.elim
    | cont => exact z.elim
end
end Vl

namespace Vl
open PySem PySem.Spec PyProof.Rows L2
theorem subLB : isSubtype (.type "list") (.type "bytes") = pure false := by rw [isSubtype_type]; kernel_rfl
theorem subLA : isSubtype (.type "list") (.type "bytearray") = pure false := by rw [isSubtype_type]; kernel_rfl
theorem args_sum2 (a b : Value) : argsOk "sum" ⟨[a, b], []⟩ := by unfold argsOk; kernel_rfl
section
variable {prog : Program} {w : World} {A : Around} {R : Result → Shared → Prop}
/-- sum's loop where lists are put together -/
theorem sum_lists_loop {I ax S : Addr} (hh : A.handled = none) (hI : ax ≠ I) (hSI : S ≠ I) (hSa : S ≠ ax) (items : Array Value) (q : Nat → Addr) (L : Nat → List Value) (hq : ∀ i, i < items.size → items[i]? = some (.ref (q i)) ∧ q i ≠ I ∧ q i ≠ S) (N : Nat) :
    ∀ (k i : Nat) (s : Shared) (c : Addr) (acc : List Value) (nn cc : Nat), items.size - i = k → i ≤ items.size → s.heap.IsListIter I ax i → s.heap.IsList ax items →
    s.heap.get? S = some { cls := .type "list", dict := none, data := .seq #[.ref c] cc, slots := #[] } → s.heap.get? c = some { cls := .type "list", data := .seq acc.toArray nn } → c ≠ I → c ≠ S →
    (∀ j, j < items.size → ∃ n, s.heap.get? (q j) = some { cls := .type "list", data := .seq (L j).toArray n }) → N ≤ S → acc.length + (((List.range k).map fun j => (L (i + j)).length).sum) ≤ sizeLine →
    (∀ h' tk c' n', (∀ b o, b ≠ I → b ≠ S → s.heap.get? b = some o → h'.get? b = some o) → h'.get? c' = some { cls := .type "list", data := .seq (acc ++ ((List.range k).map fun j => L (i + j)).flatten).toArray n' } → (k = 0 ∧ c' = c ∨ N ≤ c') → R (.ok (.ret (.ref c'))) { s with heap := h', toks := tk }) →
    codeAny (model prog w) A (.builtin "sum.loop" ⟨[.ref I, .ref S, rawInt 2, rawInt 0], []⟩) R s := by
  have W := Walks.list (prog := prog) (w := w) (A := A.in1) hh I ax hI items
  intro k
  induction k with
  | zero =>
    intro i s c acc nn cc hk hi hit hl hS hc hcI hcS hL hN hz hR
    have hin : i = items.size := by omega
    subst hin
    refine codeAny_builtin F.entry_sum_loop ?_
    rw [Around.under_plainId F.plain_sum_loop _]
    show wpAny _ A.in1 (seqItems? (.ref S) >>= _) _ _ s
    refine wpAny_bind (wpAny_seqItems hS rfl ?_)
    show wpAny _ A.in1 (tryCatch (pyNext (.ref I)) _ >>= _) _ _ s
    refine wpAny_bind (wpAny_tryCatch (W.done s _ _ ⟨hit, hl⟩ fun h' tk hk' => ?_))
    refine wpAny_pure (hR h' tk c nn (fun b o hb _ e => hk' b o (by simpa using hb) e) ?_ (.inl ⟨rfl, rfl⟩))
    simpa using hk' c _ (by simpa using hcI) hc
  | succ k ih =>
    intro i s c acc nn cc hk hi hit hl hS hc hcI hcS hL hN hz hR
    have hlt : i < items.size := by omega
    refine codeAny_builtin F.entry_sum_loop ?_
    rw [Around.under_plainId F.plain_sum_loop _]
    show wpAny _ A.in1 (seqItems? (.ref S) >>= _) _ _ s
    refine wpAny_bind (wpAny_seqItems hS rfl ?_)
    show wpAny _ A.in1 (tryCatch (pyNext (.ref I)) _ >>= _) _ _ s
    refine wpAny_bind (wpAny_tryCatch (W.item i s _ _ hlt ⟨hit, hl⟩ fun v h' tk hP hst' hk' => ?_))
    obtain ⟨hqi, hqI, hqS⟩ := hq i hlt
    have hv : v = .ref (q i) := by rw [hqi] at hP; exact (Option.some.inj hP).symm
    subst hv
    have kp : ∀ b o, b ≠ I → s.heap.get? b = some o → h'.get? b = some o := fun b o hb e => hk' b o (by simpa using hb) e
    have hS' := kp S _ hSI hS
    have hc' := kp c _ hcI hc
    obtain ⟨nq, hLi⟩ := hL i hlt
    have hLi' := kp _ _ hqI hLi
    have e0 : ((List.range (k + 1)).map fun j => L (i + j)) = L i :: ((List.range k).map fun j => L (i + 1 + j)) := by
      rw [List.range_succ_eq_map, List.map_cons, List.map_map]
      congr 1
      refine List.map_congr_left fun j _ => ?_
      show L (i + (j + 1)) = L (i + 1 + j)
      congr 1
      omega
    have e1 : ((List.range (k + 1)).map fun j => (L (i + j)).length) = (L i).length :: ((List.range k).map fun j => (L (i + 1 + j)).length) := by
      rw [List.range_succ_eq_map, List.map_cons, List.map_map]
      congr 1
      refine List.map_congr_left fun j _ => ?_
      show (L (i + (j + 1))).length = (L (i + 1 + j)).length
      congr 2
      omega
    rw [e1, List.sum_cons] at hz
    show wpAny _ A.in1 ((holding [Value.ref (q i)] (binaryOp .Add (.ref c) (.ref (q i)))).attempt >>= _) _ _ _
    refine wpAny_bind (wpAny_attempt (wpAny_holding (PySem.P.add_list hc' hLi' ?_ (by rw [List.size_toArray, List.size_toArray]; omega))))
    show wpAny _ A.in1 (updateSeq S (fun _ => #[.ref h'.objs.size]) >>= _) _ _ _
    refine wpAny_bind ?_
    have ps : ∀ b o, h'.get? b = some o → (h'.push { cls := .type "list", data := .seq (acc.toArray ++ (L i).toArray) }).get? b = some o := fun b o e => Heap.get?_push_of_some _ e
    have hS2 := ps S _ hS'
    refine wpAny_updateSeq hS2 rfl ?_
    have hS3 := Heap.get?_update_self (Obj.mapSeq fun _ => #[Value.ref h'.objs.size]) hS2 rfl
    refine wpAny_bind (wpAny_letGo ?_)
    refine wpAny_bind ?_
    refine wpAny_updateSeq hS3 rfl (wpAny_pure ⟨plainId_quiet F.plain_sum_loop _, ?_⟩)
    have fresh : ∀ b o, h'.get? b = some o → b ≠ h'.objs.size := fun b o e => Nat.ne_of_lt (Heap.lt_size e)
    have upd1 : ∀ b o, b ≠ S → h'.get? b = some o → (((h'.push { cls := .type "list", data := .seq (acc.toArray ++ (L i).toArray) }).update S (Obj.mapSeq fun _ => #[Value.ref h'.objs.size])).update S (Obj.mapSeq fun _ => #[Value.ref h'.objs.size])).get? b = some o := fun b o hb e =>
      (Heap.get?_update_other _ _ (Ne.symm hb)).trans ((Heap.get?_update_other _ _ (Ne.symm hb)).trans (ps b o e))
    have hnew : (((h'.push { cls := .type "list", data := .seq (acc.toArray ++ (L i).toArray) }).update S (Obj.mapSeq fun _ => #[Value.ref h'.objs.size])).update S (Obj.mapSeq fun _ => #[Value.ref h'.objs.size])).get? h'.objs.size = some { cls := .type "list", data := .seq (acc.toArray ++ (L i).toArray) } :=
      (Heap.get?_update_other _ _ (fresh S _ hS')).trans ((Heap.get?_update_other _ _ (fresh S _ hS')).trans (Heap.get?_push_size _ rfl))
    have ea : acc.toArray ++ (L i).toArray = (acc ++ L i).toArray := by simp
    have hcnew : (((h'.push { cls := .type "list", data := .seq (acc.toArray ++ (L i).toArray) }).update S (Obj.mapSeq fun _ => #[Value.ref h'.objs.size])).update S (Obj.mapSeq fun _ => #[Value.ref h'.objs.size])).get? h'.objs.size = some { cls := .type "list", data := .seq (acc ++ L i).toArray } := by
      rw [hnew, ea]
    obtain ⟨oI, hoI, _, _⟩ := id hst'.1
    have Ilt : I ≠ h'.objs.size := fresh I _ hoI
    have axo : ∀ o, h'.get? ax = some o → _ := fun o e => upd1 ax o (Ne.symm hSa) e
    have Slt : S < h'.objs.size := Heap.lt_size hS'
    refine ih (i + 1) _ h'.objs.size (acc ++ L i) 0 cc (by omega) hlt (hst'.1.at fun o e => upd1 I o (Ne.symm hSI) e) (hst'.2.at axo) ?_ hcnew (Ne.symm Ilt) (Ne.symm (fresh S _ hS')) (fun j hj => ?_) hN (by rw [List.length_append]; omega) fun h'' tk'' c' n' hk'' hc'' hor => ?_
    · exact Heap.get?_update_self (Obj.mapSeq fun _ => #[Value.ref h'.objs.size]) hS3 rfl
    · obtain ⟨nj, hj'⟩ := hL j hj
      obtain ⟨_, hjI, hjS⟩ := hq j hj
      exact ⟨nj, upd1 _ _ hjS (kp _ _ hjI hj')⟩
    · refine hR h'' tk'' c' n' (fun b o hbI hbS e => hk'' b o hbI hbS (upd1 b o hbS (kp b o hbI e))) ?_ ?_
      · rw [e0, List.flatten_cons, ← List.append_assoc]
        exact hc''
      · rcases hor with ⟨_, e⟩ | e
        · right
          rw [e]
          exact Nat.le_of_lt (Nat.lt_of_le_of_lt hN Slt)
        · exact .inr e
/-- sum(lists, list) -/
theorem call_sum_lists {E : Value → Shared → Prop} {s : Shared} {a b : Addr} {Q : Value → Shared → Prop} (hh : A.handled = none) (items : Array Value) (q : Nat → Addr) (L : Nat → List Value) (acc : List Value) {nb : Nat} (ha : s.heap.IsList a items) (hb : s.heap.get? b = some { cls := .type "list", data := .seq acc.toArray nb })
    (hq : ∀ i, i < items.size → items[i]? = some (.ref (q i))) (hL : ∀ j, j < items.size → ∃ n, s.heap.get? (q j) = some { cls := .type "list", data := .seq (L j).toArray n }) (hz : acc.length + (((List.range items.size).map fun j => (L j).length).sum) ≤ sizeLine)
    (hQ : ∀ h' tk c' n', (∀ b o, s.heap.get? b = some o → h'.get? b = some o) → h'.get? c' = some { cls := .type "list", data := .seq (acc ++ ((List.range items.size).map fun j => L j).flatten).toArray n' } → (items.size = 0 ∧ c' = b ∨ s.heap.objs.size ≤ c') → Q (.ref c') { s with heap := h', toks := tk }) :
    wpAny (model prog w) A (call (.builtin "sum") [.ref a, .ref b]) Q E s := by
  refine call_function_tree F.kind_sum F.plain_sum F.entry_sum (args_sum2 _ _) ?_
  unfold Builtin.«sum»
  simp only [List.length_cons, List.length_nil]
  rw [if_neg (by decide)]
  refine wpAny_bind (wpAny_of_eq (show Builtin.Builtins.bindParams "sum" ["start"] 0 { pos := [.ref b] } = pure [some (.ref b)] from rfl) ?_)
  refine wpAny_bind (wpAny_pyIter_list ha ?_)
  refine wpAny_bind (wpAny_pure ?_)
  have ps : ∀ c o, s.heap.get? c = some o → (s.heap.push { cls := .type "list_iterator", data := .fields #[.ref a, .int 0 0] }).get? c = some o := fun c o e => Heap.get?_push_of_some _ e
  have tb : Shared.TypeIs { s with heap := s.heap.push { cls := .type "list_iterator", data := .fields #[.ref a, .int 0 0] } } (.ref b) "list" := ⟨_, ps _ _ hb, rfl⟩
  simp only [List.forIn_cons, List.forIn_nil]
  refine wpAny_bind (wpAny_bind (wpAny_bind (wpAny_isInstance (T := "list") (b := false) tb sub_list_str ?_)))
  simp only [Bool.false_eq_true, if_false]
  refine wpAny_pure (wpAny_bind (wpAny_bind (wpAny_isInstance (T := "list") (b := false) tb subLB ?_)))
  simp only [Bool.false_eq_true, if_false]
  refine wpAny_pure (wpAny_bind (wpAny_bind (wpAny_isInstance (T := "list") (b := false) tb subLA ?_)))
  simp only [Bool.false_eq_true, if_false]
  refine wpAny_pure (wpAny_pure ?_)
  refine wpAny_bind (wpAny_newObj_type ?_)
  have pp : ∀ c o, s.heap.get? c = some o → ((s.heap.push { cls := .type "list_iterator", data := .fields #[.ref a, .int 0 0] }).push { cls := .type "list", data := .seq #[.ref b] }).get? c = some o := fun c o e => Heap.get?_push_of_some _ (ps c o e)
  have hs1 : (s.heap.push { cls := .type "list_iterator", data := .fields #[.ref a, .int 0 0] }).objs.size = s.heap.objs.size + 1 := Heap.size_push ..
  have hI : (s.heap.push { cls := .type "list_iterator", data := .fields #[.ref a, .int 0 0] }).get? s.heap.objs.size = some { cls := .type "list_iterator", data := .fields #[.ref a, .int 0 0] } := Heap.get?_push_size _ rfl
  obtain ⟨oa, hoa, _⟩ := id ha
  have la : a < s.heap.objs.size := Heap.lt_size hoa
  have lb : b < s.heap.objs.size := Heap.lt_size hb
  refine wpAny_pure ⟨plainId_quiet F.plain_sum_loop _, ?_⟩
  show codeAny (model prog w) A (.builtin "sum.loop" ⟨[.ref s.heap.objs.size, .ref (s.heap.push { cls := .type "list_iterator", data := .fields #[.ref a, .int 0 0] }).objs.size, rawInt 2, rawInt 0], []⟩) _ _
  rw [hs1]
  refine sum_lists_loop (I := s.heap.objs.size) (ax := a) (S := s.heap.objs.size + 1) hh (Nat.ne_of_lt la) (Nat.succ_ne_self _) (Nat.ne_of_gt (Nat.lt_succ_of_lt la)) items q L (fun i hi => ?_) s.heap.objs.size items.size 0 _ b acc nb 0 (Nat.sub_zero _) (Nat.zero_le _) ⟨_, Heap.get?_push_of_some _ hI, rfl, rfl⟩ (ha.at fun o e => pp a o e) ?_ (pp _ _ hb) (Nat.ne_of_lt lb) (Nat.ne_of_lt (Nat.lt_succ_of_lt lb)) (fun j hj => ?_) (Nat.le_succ _) ?_ fun h' tk c' n' hk hc hor => ?_
  · obtain ⟨n, hn⟩ := hL i hi
    have lq := Heap.lt_size hn
    exact ⟨hq i hi, Nat.ne_of_lt lq, Nat.ne_of_lt (Nat.lt_succ_of_lt lq)⟩
  · have := Heap.get?_push_size (s.heap.push { cls := .type "list_iterator", data := .fields #[.ref a, .int 0 0] }) (o := { cls := .type "list", data := .seq #[.ref b] }) rfl
    rw [hs1] at this
    exact this
  · obtain ⟨n, hn⟩ := hL j hj
    exact ⟨n, pp _ _ hn⟩
  · simpa using hz
  · refine hQ h' tk c' n' (fun c o e => hk c o (Nat.ne_of_lt (Heap.lt_size e)) (Nat.ne_of_lt (Nat.lt_succ_of_lt (Heap.lt_size e))) (pp c o e)) ?_ hor
    simpa using hc
end
end Vl

namespace Vl
open PySem PySem.Spec PyProof.Rows L2
def rSumL (K : PySem.W.Frag) : List V → Hp → VK → Prop := fun vs H Q => ∃ (a b : Addr) (ls : List Addr) (ys : Nat → List V) (acc : List V), vs = [.ref a, .ref b] ∧ H a = some (.lst (ls.map .ref)) ∧ H b = some (.lst acc) ∧
  (∀ (i : Nat) (l : Addr), ls[i]? = some l → H l = some (.lst (ys i))) ∧ acc.length + ((List.range ls.length).map fun j => (ys j).length).sum ≤ sizeLine ∧ (ls = [] → Q (.ref b) H) ∧ (∀ p, H p = none → Q (.ref p) (upd H p (.lst (acc ++ ((List.range ls.length).map ys).flatten))))
theorem vals_flat {f : Nat → List V} {g : Nat → List Value} : ∀ n, (∀ j, j < n → Vals (f j) (g j)) → Vals ((List.range n).map f).flatten ((List.range n).map g).flatten
  | 0, _ => .nil
  | n + 1, h => by
    rw [List.range_succ, List.map_append, List.map_append, List.flatten_append, List.flatten_append]
    refine (vals_flat n fun j hj => h j (by omega)).append ?_
    simpa using h n (by omega)
section
variable {X : Cx} {S : OD → Prop}
theorem cr_sumL (hc : X.calm = true) : CallR X (.builtin "sum") (rSumL X.K) := by
  intro pins s σ H vs us Q I r h
  obtain ⟨a, b, ls, ys, acc, rfl, ha, hb, hl, hz, q1, q2⟩ := h
  cases r with
  | cons r rr =>
    cases rr with
    | cons r' rr' =>
      cases rr'
      cases r
      cases r'
      obtain ⟨_, its, n, rv, el, e⟩ := I.lstM ha
      obtain ⟨_, its2, n2, rv2, el2, e2⟩ := I.lstM hb
      have hll : its.length = ls.length := by rw [← el, List.length_map]
      have item : ∀ (i : Nat) (l : Addr), ls[i]? = some l → its[i]? = some (.ref l) := fun i l hi => by
        obtain ⟨u, hu, ru⟩ := rv.get (show (ls.map V.ref)[i]? = some (.ref l) by rw [List.getElem?_map, hi]; rfl)
        rw [hu]
        cases ru
        rfl
      have ex : ∀ j : Nat, ∃ Lj : List Value, ∀ l, ls[j]? = some l → Vals (ys j) Lj ∧ ∃ n, s.heap.get? l = some { cls := .type "list", data := .seq Lj.toArray n } := fun j => by
        cases e1 : ls[j]? with
        | none => exact ⟨[], fun l h => by cases h⟩
        | some l =>
          obtain ⟨_, itj, nj, rj, _, ej⟩ := I.lstM (hl j l e1)
          exact ⟨itj, fun l' h => by cases h; exact ⟨rj, nj, ej⟩⟩
      have hsz : its.toArray.size = ls.length := by rw [List.size_toArray, hll]
      have get : ∀ j, j < its.toArray.size → ls[j]? = some (ls.getD j 0) := fun j hj => by
        rw [hsz] at hj
        simp [hj]
      have vl : ∀ j, j < ls.length → Vals (ys j) (Classical.choose (ex j)) := fun j hj => (Classical.choose_spec (ex j) _ (get j (by rw [hsz]; exact hj))).1
      have hsum : ((List.range its.toArray.size).map fun j => (Classical.choose (ex j)).length) = (List.range ls.length).map fun j => (ys j).length := by
        rw [hsz]
        refine List.map_congr_left fun j hj => ?_
        exact (vl j (by simpa using hj)).length.symm
      refine call_sum_lists (I.ok.hd hc) its.toArray (fun i => ls.getD i 0) (fun j => Classical.choose (ex j)) its2 ⟨_, e, rfl, _, rfl⟩ e2 (fun i hi => ?_) (fun j hj => (Classical.choose_spec (ex j) _ (get j hj)).2) (by rw [hsum, ← el2]; exact hz) fun h' tk c' n' hk hcc hor => ?_
      · rw [List.getElem?_toArray]
        exact item i _ (get i hi)
      · rcases hor with ⟨e4, e3⟩ | e3
        · subst e3
          exact ⟨.ref c', H, I.kept (t' := tk) hk, rfl, q1 (List.eq_nil_of_length_eq_zero (hsz.symm.trans e4))⟩
        · refine ⟨.ref c', upd H c' (.lst (acc ++ ((List.range ls.length).map ys).flatten)), I.laid (t' := tk) hk e3 ⟨?_, _, n', rv2.append (vals_flat _ vl), by rw [hsz] at hcc; exact hcc⟩, rfl, q2 c' (I.hok.fresh e3)⟩
          rw [List.length_append, List.length_flatten, List.map_map]
          exact hz
theorem flat_range {α : Type} (xss : List (List α)) : ((List.range xss.length).map fun j => xss.getD j []).flatten = xss.flatten := by
  congr 1
  apply List.ext_getElem?
  intro j
  rw [List.getElem?_map]
  by_cases h : j < xss.length
  · simp [h]
  · simp [h]
theorem reps_flat {K : PySem.W.Frag} {G : Hp} {f : Nat → List D} {g : Nat → List V} : ∀ n, (∀ j, j < n → Reps K G (f j) (g j)) → Reps K G ((List.range n).map f).flatten ((List.range n).map g).flatten
  | 0, _ => Reps.nil
  | n + 1, h => by
    rw [List.range_succ, List.map_append, List.map_append, List.flatten_append, List.flatten_append]
    refine (reps_flat n fun j hj => h j (by omega)).app ?_
    simpa using h n (by omega)
theorem reps_lists {K : PySem.W.Frag} {G : Hp} : ∀ {xss : List (List D)} {vs : List V}, Reps K G (xss.map .lst) vs → ∃ (ls : List Addr) (ys : Nat → List V), vs = ls.map .ref ∧ ls.length = xss.length ∧ (∀ (i : Nat) (l : Addr), ls[i]? = some l → G l = some (.lst (ys i))) ∧ ∀ j, j < xss.length → Reps K G (xss.getD j []) (ys j)
  | [], vs, h => by
    unfold List.map Reps at h
    subst h
    exact ⟨[], fun _ => [], rfl, rfl, fun i l h => by simp at h, fun j h => by simp at h⟩
  | xs :: xss, vs, h => by
    rw [List.map_cons] at h
    unfold Reps Rep at h
    obtain ⟨v, r, rfl, ⟨a, ws, rfl, g, rs⟩, rn⟩ := h
    obtain ⟨ls, ys, rfl, hl, h1, h2⟩ := reps_lists rn
    refine ⟨a :: ls, fun i => i.casesOn ws ys, rfl, by simpa using hl, fun i l hi => ?_, fun j hj => ?_⟩
    · cases i with
      | zero => simp at hi; subst hi; exact g
      | succ i => exact h1 i l (by simpa using hi)
    · cases j with
      | zero => exact rs
      | succ j => exact h2 j (by simpa using hj)
/-- sum(lists, list) -/
theorem cd_sumL (hc : X.calm = true) {xss : List (List D)} {es : List D} (hz : es.length + xss.flatten.length ≤ 100000) (q : S (.fz (.lst (es ++ xss.flatten)))) : CD X (.builtin "sum") [.lst (xss.map .lst), .lst es] S := ⟨_, cr_sumL hc, fun G H vs k s rs z => by
  obtain ⟨a, b, ws, us, rfl, g1, g2, r1, r2⟩ := two_lst rs
  obtain ⟨ls, ys, rfl, hl, h1, h2⟩ := reps_lists r1
  have rf := reps_flat (K := X.K) (G := G) (f := fun j => xss.getD j []) (g := ys) xss.length h2
  rw [flat_range] at rf
  have rall := Reps.app r2 rf
  have len := rall.length
  refine ⟨a, b, ls, ys, us, rfl, s _ _ g1, s _ _ g2, fun i l hi => s _ _ (h1 i l hi), ?_, fun e => ?_, fun p n => ?_⟩
  · have : ((List.range ls.length).map fun j => (ys j).length).sum = ((List.range xss.length).map ys).flatten.length := by
      rw [List.length_flatten, List.map_map, hl]
      rfl
    rw [this, rf.length, r2.length, sizeLine_eq]
    omega
  · have e2 : xss = [] := List.eq_nil_of_length_eq_zero (by rw [← hl, e]; rfl)
    subst e2
    exact z (.lst (es ++ [])) _ G H q (Same.refl _) (Same.refl _) s (fun _ h => .inl h) (by rw [List.append_nil]; unfold Rep; exact ⟨b, us, rfl, g2, r2⟩)
  · rw [hl]
    exact new_lst s rall q n z⟩
theorem sum_LL (hc : X.calm = true) {rows : List (List Int)} (hz : rows.flatten.length ≤ 100000) (q : S (.fz (LI rows.flatten))) : CD X (.builtin "sum") [LL rows, .lst []] S := by
  have e : LL rows = .lst ((rows.map (List.map D.int)).map .lst) := by
    unfold LL LI
    rw [List.map_map]
    rfl
  have f : (rows.map (List.map D.int)).flatten = rows.flatten.map D.int := by rw [List.map_flatten]
  rw [e]
  refine cd_sumL hc (by rw [f, List.length_map]; simpa using hz) ?_
  rw [f, List.nil_append]
  exact q
end
end Vl

namespace Vl
open PySem PySem.Spec PyProof.Rows L2
section
variable {X : Cx} {S : OD → Prop}
theorem pys_ints : ∀ ns : List Int, pys (ns.map D.int) = some (ns.map PyData.int)
  | [] => by unfold List.map pys; rfl
  | n :: ns => by
    rw [List.map_cons]
    unfold pys
    rw [pys_ints ns]
    unfold py
    rfl
theorem py_LI (ns : List Int) : py (LI ns) = some (.list (ns.map .int)) := by
  unfold LI py
  rw [pys_ints]
  rfl
theorem py_nil : py (.lst []) = some (.list []) := by
  unfold py pys
  rfl
theorem eqv_nil (ns : List Int) : PyData.eqv (.list (ns.map .int)) (.list []) = decide (ns = []) := by
  cases ns with
  | nil => rfl
  | cons n ns => rfl
theorem lay_ints : ∀ ns : List Int, PyData.canLayAll0 (ns.map .int) = true ∧ PyData.depthAll (ns.map .int) = 0
  | [] => ⟨rfl, rfl⟩
  | n :: ns => ⟨by
      rw [List.map_cons]
      unfold PyData.canLayAll0
      rw [(lay_ints ns).1]
      rfl, by
      rw [List.map_cons]
      unfold PyData.depthAll
      rw [(lay_ints ns).2]
      rfl⟩
theorem shaped_ints (ns : List Int) : SeqAt.shaped (.list (ns.map .int)) = true := by
  unfold SeqAt.shaped PyData.canLay0 PyData.depth
  rw [(lay_ints ns).1, (lay_ints ns).2]
  rfl
theorem eq_LN {ns : List Int} (hu : X.A.units + 64 < cLine) (q : S (.fz (.bl (decide (ns = []))))) : RD X (compareOp .Eq) (.fz (LI ns)) (.fz (.lst [])) S :=
  eq_D hu (py_LI ns) py_nil (shaped_ints ns) rfl (by rw [eqv_nil]; exact q)
theorem ne_LN {ns : List Int} (hu : X.A.units + 64 < cLine) (q : S (.fz (.bl (!decide (ns = []))))) : RD X (compareOp .NotEq) (.fz (LI ns)) (.fz (.lst [])) S :=
  ne_D hu (py_LI ns) py_nil (shaped_ints ns) rfl (by rw [eqv_nil]; exact q)
end
end Vl

namespace Vl
open PySem PySem.Spec PyProof.Rows L2
section
variable {X : Cx} {e a b c : Expr} {es : List Expr} {δ : En} {Q : OD → En → Prop} {pos p p2 : Pos} {S : OD → Prop} {d : D} {nm dn : Str} {k : Nat}
theorem ed_look (h : Ed X e (thaw δ) (.fz d)) (hs : scalD d = true) : Ed X e δ (.fz d) := ev_look (h.use ⟨rfl, d, rfl, hs, rfl, rfl⟩)
/-- the draws of a law: figures, count, way -/
def dr (ad : Addr) (n k : Int) (b : Bool) : OD := .own ad [.fz (.int n), .fz (.int k), .fz (.bl b)]
theorem dr_foot {ad : Addr} {n k : Int} {b : Bool} : foot (dr ad n k b) = [ad] := by
  unfold dr
  rw [foot_own, foots_cons, foots_cons, foots_one]
  unfold foot
  rfl
def c_next : Con := ⟨Addr × Int × Int × Bool, fun i => [dr i.1 i.2.1 i.2.2.1 i.2.2.2], fun i => 0 ≤ i.2.1 ∧ 0 ≤ i.2.2.1 ∧ i.2.2.1 < 2 ^ 60, fun i x xs' => ∃ z n' : Int, x = .fz (.int z) ∧ 0 ≤ z ∧ z < 2 ^ 31 ∧ 0 ≤ n' ∧ xs' = [dr i.1 n' (i.2.2.1 + 1) i.2.2.2]⟩
/-- int(_law_next(draws)) -/
theorem ev_inx (i : Nat) {ad : Addr} {n kk : Int} {w : Bool} (c : Cl X.prog X.w X.K X.mg X.base k nm ["draws"] c_next) (hgd : X.A.guards = some []) (hr : Room k X.A) (hgi : Gl X "int") (hmi : X.mg "int" = none) (hg : Gl X nm) (hN : X.N[i]? = some dn) (hv : Vis X.env.scope dn) (hδ : δ[i]? = some (some (dr ad n kk w)))
    (h0 : 0 ≤ n) (h1 : 0 ≤ kk) (h2 : kk < 2 ^ 60) (q : ∀ z n' : Int, 0 ≤ z → z < 2 ^ 31 → 0 ≤ n' → Q (.fz (.int z)) (δ.set i (some (dr ad n' (kk + 1) w))))
    (hd : (dn == ("__debug__" : Str)) = false := by decide) (hcd : (dn == ("__classdict__" : Str)) = false := by decide) (hdb : (nm == ("__debug__" : Str)) = false := by decide)
    (he1 : starEach [.Call (.Name nm p) [.Name dn p2] [] pos] X.env = [(false, eval (.Call (.Name nm p) [.Name dn p2] [] pos) X.env)] := by rfl) (hs1 : starEach [.Name dn p2] X.env = [(false, eval (.Name dn p2) X.env)] := by rfl) {pi pc : Pos} :
    Ev X (.Call (.Name "int" pi) [.Call (.Name nm p) [.Name dn p2] [] pos] [] pc) δ Q := by
  refine ev_callT (T := "int") hgi hmi bt_int (ea_cons (ev_cl c hgd hr hg (ea_slot i hN hv hδ (ea_nil ⟨(ad, n, kk, w), ?_, ?_, ⟨h0, h1, h2⟩, fun y xs' hf ho => ?_⟩) hs1 hd hcd) hdb hs1 rfl) he1) (by decide) (by decide) he1 rfl
  · show resolve δ [.s i] = some [dr ad n kk w]
    unfold resolve
    simp only [hδ]
    unfold resolve
    rfl
  · show (foots [dr ad n kk w]).Nodup
    rw [foots_one, dr_foot]
    simp
  · obtain ⟨z, n', rfl, z0, z1, n0, rfl⟩ := ho
    refine ⟨.int z, rfl, ea_nil ⟨[.int z], rfl, cd_int ?_⟩⟩
    exact q z n' z0 z1 n0
theorem cmul_B {i j : Int} (hi : -(2 ^ 300) < i ∧ i < 2 ^ 300) (hj : -(2 ^ 300) < j ∧ j < 2 ^ 300) : CMulW i j := wide_mul (a := 300) (b := 300) (by omega) (by omega) (by decide) (by decide) (by decide)
theorem mul_B {i j : Int} (hi : -(2 ^ 300) < i ∧ i < 2 ^ 300) (hj : -(2 ^ 300) < j ∧ j < 2 ^ 300) (q : S (.fz (.int (i * j)))) : RD X (binaryOp .Mult) (.fz (.int i)) (.fz (.int j)) S := mul_I (cmul_B hi hj) q
theorem mul_lt {x y a b : Int} (h0 : 0 ≤ x) (h1 : x < a) (g0 : 0 ≤ y) (g1 : y < b) : 0 ≤ x * y ∧ x * y < a * b := ⟨Int.mul_nonneg h0 g0, Int.lt_of_le_of_lt (Int.mul_le_mul_of_nonneg_left (Int.le_of_lt g1) h0) (Int.mul_lt_mul_of_pos_right h1 (by omega))⟩
end
end Vl

namespace Vl
open PySem PySem.Spec PyProof.Rows L2
section
variable {X : Cx} {tg iter : Expr} {bd : List Stmt} {δ : En} {P : DE} {pos : Pos}
/-- what a loop owes from its start on -/
def Lp (X : Cx) (tg : Expr) (bd : List Stmt) (P : DE) (ds : List D) (δ0 : En) : Prop := ∃ I : Nat → En → Prop, I 0 δ0 ∧ (∀ i d δ1, ds[i]? = some d → I i δ1 → Eg X tg (.fz d) δ1 fun δ2 => Eb X bd δ2 { P with nx := I (i + 1), ct := I (i + 1), bk := P.nx }) ∧ ∀ δ', I ds.length δ' → P.nx δ'
theorem es_forC (hp : PassesOwn (model X.prog X.w) X.A X.env X.xe) (hc : X.calm = true) (hi : Ei X tg iter δ fun ds δ0 => Lp X tg bd P ds δ0) (hs : ∀ x, foldedSetIterable iter X.env x = pure x := by intro _; rfl) : Es X (.For tg iter bd [] pos) δ P := fun G H σ s => by
  refine wS_of (ps_for hp hc wI_pi wG_pg wB_ps hs) ((hi G H σ s).imp fun J H1 ⟨G1, ds', δ0, s1, ⟨I, h0, step, hd⟩, Gd, Y, W, hG, hY⟩ => ?_)
  refine for_it W (fun i σ' H' => ∃ Gi δi, Step X.K G1 H1 δ0 Gi H' σ' δi ∧ I i δi) ⟨G1, δ0, s1.st.step, h0⟩ (fun i σ' H' _ ⟨Gi, δi, si, _⟩ => hG H' (si.gr.g.trans si.st.ex)) (fun i v σ' H' H3 hlt ⟨Gi, δi, si, hI⟩ y => ?_) fun σ' H' ⟨Gi, δi, si, hI⟩ => ⟨Gi, δi, s1.trans si, hd _ hI⟩
  obtain ⟨G3, g1, g2, g3, g4, rv⟩ := hY i H' v H3 Gi ds'[i] si.gr.g si.st.ex y (by simp [hlt])
  have t := si.item g1 g2 g3 g4 rv
  refine (step i ds'[i] δi (by simp [hlt]) hI G3 H3 σ' v t.st).imp fun σ2 H2 ⟨G2, δ2, s2, hb⟩ => ?_
  have t2 := t.trans s2
  refine (hb G2 H2 σ2 s2.st).imp ⟨fun σ4 H4 ⟨G4, δ4, s4, q⟩ => ⟨G4, δ4, t2.trans s4, q⟩, fun v4 H4 ⟨x4, G4, σ4, δ4, s4, q⟩ => ⟨x4, G4, σ4, δ4, (s1.trans t2).trans s4, q⟩, fun σ4 H4 ⟨G4, δ4, s4, q⟩ => ⟨G4, δ4, (s1.trans t2).trans s4, q⟩, fun σ4 H4 ⟨G4, δ4, s4, q⟩ => ⟨G4, δ4, t2.trans s4, q⟩⟩
theorem lp_M {α : Type} {xs : List α} {g : α → D} {δ0 : En} (I : Nat → En → Prop) (h0 : I 0 δ0) (step : ∀ i (h : i < xs.length) δ1, I i δ1 → Eg X tg (.fz (g xs[i])) δ1 fun δ2 => Eb X bd δ2 { P with nx := I (i + 1), ct := I (i + 1), bk := P.nx }) (hd : ∀ δ', I xs.length δ' → P.nx δ') : Lp X tg bd P (xs.map g) δ0 :=
  ⟨I, h0, fun i d δ1 h hI => by
    rw [List.getElem?_map] at h
    cases e1 : xs[i]? with
    | none => rw [e1] at h; cases h
    | some z =>
      rw [e1] at h
      simp at h
      subst h
      obtain ⟨hl, rfl⟩ := List.getElem?_eq_some_iff.mp e1
      exact step i hl δ1 hI, fun δ' h => hd δ' (by rw [List.length_map] at h; exact h)⟩
theorem lp_R {n : Nat} {lo : Int} {δ0 : En} (I : Nat → En → Prop) (h0 : I 0 δ0) (step : ∀ i, i < n → ∀ δ1, I i δ1 → Eg X tg (.fz (.int (lo + i))) δ1 fun δ2 => Eb X bd δ2 { P with nx := I (i + 1), ct := I (i + 1), bk := P.nx }) (hd : ∀ δ', I n δ' → P.nx δ') :
    Lp X tg bd P ((List.range n).map fun (i : Nat) => D.int (lo + i)) δ0 :=
  lp_M (xs := List.range n) (g := fun (i : Nat) => D.int (lo + i)) I h0 (fun i h δ1 hI => by
    rw [List.getElem_range]
    exact step i (by simpa using h) δ1 hI) (fun δ' h => hd δ' (by rw [List.length_range] at h; exact h))
end
end Vl

namespace Vl
open PySem PySem.Spec PyProof.Rows L2
/-- own lists of numbers -/
def RowsOD (xs : List OD) (rows : List (List Int)) : Prop := xs.length = rows.length ∧ ∀ i, i < rows.length → ∃ a, xs[i]? = some (ol a ((rows.getD i []).map .int))
theorem RowsOD.dats {xs : List OD} {rows : List (List Int)} (h : RowsOD xs rows) : Vl.dats xs = rows.map LI := by
  obtain ⟨hl, h⟩ := h
  induction xs generalizing rows with
  | nil =>
    cases rows with
    | nil => unfold Vl.dats; rfl
    | cons r rs => simp at hl
  | cons x xs ih =>
    cases rows with
    | nil => simp at hl
    | cons r rs =>
      unfold Vl.dats
      rw [ih (rows := rs) (by simpa using hl) fun i hi => by
        obtain ⟨a, ha⟩ := h (i + 1) (by simpa using hi)
        exact ⟨a, by simpa using ha⟩]
      obtain ⟨a, ha⟩ := h 0 (by simp)
      simp at ha
      subst ha
      rw [List.map_cons]
      congr 1
      unfold dat
      rw [dats_fz]
      rfl
theorem RowsOD.set {xs : List OD} {rows : List (List Int)} {n : Nat} {r : List Int} {a : Addr} (h : RowsOD xs rows) : RowsOD (xs.set n (ol a (r.map .int))) (rows.set n r) := by
  refine ⟨by rw [List.length_set, List.length_set, h.1], fun i hi => ?_⟩
  rw [List.length_set] at hi
  by_cases e : n = i
  · subst e
    exact ⟨a, by rw [List.getElem?_set_self (by rw [h.1]; exact hi), List.getD_eq_getElem?_getD, List.getElem?_set_self hi]; rfl⟩
  · rw [List.getElem?_set_ne e, List.getD_eq_getElem?_getD, List.getElem?_set_ne e, ← List.getD_eq_getElem?_getD]
    exact h.2 i hi
theorem RowsOD.dat {xs : List OD} {rows : List (List Int)} {l : Addr} (h : RowsOD xs rows) : Vl.dat (.own l xs) = LL rows := by
  unfold Vl.dat
  rw [h.dats]
  rfl
theorem scal_oI (o : Option Int) : scalD (oI o) = true := by cases o <;> rfl
end Vl

namespace Vl
open PySem PySem.Spec PyProof.Rows L2
section
variable {X : Cx} {e : Expr} {δ : En} {pos : Pos} {S : OD → Prop}
theorem ed_neg {i : Int} (h : Ed X e δ (.fz (.int i))) : Ed X (.UnaryOp .USub e pos) δ (.fz (.int (-i))) := fun G H σ s =>
  wE_of (pe_un un_neg wE_pe) ((h G H σ s).imp fun v H1 ⟨x, G1, d1, s1, e1, e2⟩ => by
    subst e1
    subst e2
    have r := top_fz s1.st rfl
    unfold Rep at r
    exact ⟨i, r, _, G1, _, s1.pop.pushF (by unfold Rep; rfl), rfl, rfl⟩)
theorem cd_max_2 (hc : X.calm = true) {a b : Int} (q : S (.fz (.int (max a b)))) : CD X (.builtin "max") [.lst [.int a, .int b]] S :=
  cd_maxL (ns := [a, b]) hc (by simp) fun m hm hle => by
    have h1 := hle a (by simp)
    have h2 := hle b (by simp)
    have h3 : m = a ∨ m = b := by simpa using hm
    have e : m = max a b := by omega
    rw [e]
    exact q
theorem oI_get {o : Option Int} (h : o.isNone = false) : oI o = .int (o.getD 0) := by
  cases o with
  | none => cases h
  | some i => rfl
end
end Vl

namespace Vl
open PySem PySem.Spec PyProof.Rows L2
/-! ### what repr takes -/
def Rpr (d : D) : Prop := Shw d ∧ dep d ≤ 60 ∧ blk d ≤ 8000
theorem shws_ints : ∀ {ns : List Int}, (∀ n ∈ ns, n.natAbs < 2 ^ 1900) → Shws (ns.map D.int)
  | [], _ => by unfold List.map Shws; trivial
  | n :: ns, h => by
    rw [List.map_cons]
    unfold Shws Shw
    exact ⟨h n List.mem_cons_self, shws_ints fun m hm => h m (List.mem_cons_of_mem _ hm)⟩
theorem meas_ints : ∀ ns : List Int, blks (ns.map D.int) = ns.length ∧ deps (ns.map D.int) = 0
  | [] => by unfold List.map blks deps; exact ⟨rfl, rfl⟩
  | n :: ns => by
    rw [List.map_cons]
    unfold blks deps
    rw [(meas_ints ns).1, (meas_ints ns).2]
    unfold blk dep
    exact ⟨by rw [List.length_cons]; omega, rfl⟩
theorem shw_LI {ns : List Int} (h : ∀ n ∈ ns, n.natAbs < 2 ^ 1900) : Shw (LI ns) := by
  unfold LI Shw
  exact shws_ints h
theorem meas_LI (ns : List Int) : blk (LI ns) = ns.length ∧ dep (LI ns) = 1 := by
  unfold LI blk dep
  rw [(meas_ints ns).1, (meas_ints ns).2]
  exact ⟨rfl, rfl⟩
theorem shws_LLs : ∀ {rows : List (List Int)}, (∀ r ∈ rows, ∀ n ∈ r, n.natAbs < 2 ^ 1900) → Shws (rows.map LI)
  | [], _ => by unfold List.map Shws; trivial
  | r :: rows, h => by
    rw [List.map_cons]
    unfold Shws
    exact ⟨shw_LI (h r List.mem_cons_self), shws_LLs fun m hm => h m (List.mem_cons_of_mem _ hm)⟩
theorem meas_LLs : ∀ rows : List (List Int), blks (rows.map LI) = rows.flatten.length + rows.length ∧ deps (rows.map LI) ≤ 1
  | [] => by unfold List.map blks deps; exact ⟨rfl, by omega⟩
  | r :: rows => by
    rw [List.map_cons]
    unfold blks deps
    rw [(meas_LLs rows).1, (meas_LI r).1, (meas_LI r).2]
    have := (meas_LLs rows).2
    exact ⟨by rw [List.flatten_cons, List.length_append, List.length_cons]; omega, by omega⟩
theorem shw_LL {rows : List (List Int)} (h : ∀ r ∈ rows, ∀ n ∈ r, n.natAbs < 2 ^ 1900) : Shw (LL rows) := by
  unfold LL Shw
  exact shws_LLs h
theorem meas_LL (rows : List (List Int)) : blk (LL rows) = rows.flatten.length + rows.length ∧ dep (LL rows) ≤ 2 := by
  unfold LL blk dep
  have := (meas_LLs rows).2
  exact ⟨(meas_LLs rows).1, by omega⟩
theorem rpr_LI {ns : List Int} (h : ∀ n ∈ ns, n.natAbs < 2 ^ 1900) (hl : ns.length ≤ 3000) : Rpr (LI ns) := ⟨shw_LI h, by rw [(meas_LI ns).2]; omega, by rw [(meas_LI ns).1]; omega⟩
theorem rpr_LL {rows : List (List Int)} (h : ∀ r ∈ rows, ∀ n ∈ r, n.natAbs < 2 ^ 1900) (hl : rows.flatten.length + rows.length ≤ 3000) : Rpr (LL rows) := ⟨shw_LL h, by have := (meas_LL rows).2; omega, by rw [(meas_LL rows).1]; omega⟩
theorem rpr_two {a b : D} (ha : Shw a) (hb : Shw b) (da : dep a ≤ 50) (db : dep b ≤ 50) (hl : blk a + blk b ≤ 7000) : Rpr (.lst [a, b]) := by
  refine ⟨?_, ?_, ?_⟩
  · unfold Shw Shws Shws Shws
    exact ⟨ha, hb, trivial⟩
  · unfold dep deps deps deps
    omega
  · unfold blk blks blks blks
    omega
theorem rpr_bl (a b : Bool) : Rpr (.lst [.bl a, .bl b]) := rpr_two (by unfold Shw; trivial) (by unfold Shw; trivial) (by unfold dep; omega) (by unfold dep; omega) (by unfold blk; omega)
theorem rpr_pair {gs : List Int} {rows : List (List Int)} (hg : ∀ n ∈ gs, n.natAbs < 2 ^ 1900) (h : ∀ r ∈ rows, ∀ n ∈ r, n.natAbs < 2 ^ 1900) (hl : gs.length + rows.flatten.length + rows.length ≤ 3000) : Rpr (.lst [LI gs, LL rows]) :=
  rpr_two (shw_LI hg) (shw_LL h) (by rw [(meas_LI gs).2]; omega) (by have := (meas_LL rows).2; omega) (by rw [(meas_LI gs).1, (meas_LL rows).1]; omega)
theorem rpr_LI2 {ns : List Int} (h : ∀ n ∈ ns, n.natAbs < 2 ^ 1900) (hl : ns.length ≤ 3000) : Rpr (.lst [LI ns, LI ns]) := rpr_two (shw_LI h) (shw_LI h) (by rw [(meas_LI ns).2]; omega) (by rw [(meas_LI ns).2]; omega) (by rw [(meas_LI ns).1]; omega)
theorem dat_ol {a : Addr} {ns : List Int} : dat (ol a (ns.map .int)) = LI ns := by
  unfold dat
  rw [dats_fz]
  rfl
theorem dat_two {t a b : Addr} {ns ms : List Int} : dat (.own t [ol a (ns.map .int), ol b (ms.map .int)]) = .lst [LI ns, LI ms] := by
  rw [← dat_ol (a := a), ← dat_ol (a := b)]
  generalize ol a (ns.map D.int) = x
  generalize ol b (ms.map D.int) = y
  unfold dat
  rw [show dats [x, y] = [dat x, dat y] from by unfold dats dats dats; rfl]
  cases x <;> cases y <;> rfl
section
variable {X : Cx} {e : Expr} {es : List Expr} {kws : List Keyword} {δ : En} {Q : OD → En → Prop} {S : OD → Prop} {pos p kpos : Pos} {nm : Str} {ps ks : List Str} {C : Con} {k : Nat} {st : Stmt} {n : Option Str} {as : List AR} {z : OD}
theorem cd_rpr {d : D} (hg : X.A.guards = some []) (hu : X.A.units + 64 < cLine) (h : Rpr d) (hl : (∃ ds, d = .lst ds) ∨ ∃ ds, d = .tup ds) (q : S (.fz (.str (rp d)))) : CD X (.builtin "repr") [d] S := cd_repr hg hu h.1 hl h.2.1 h.2.2 q
theorem resolve_d : ∀ ds : List D, resolve δ (ds.map .d) = some (ds.map .fz)
  | [] => rfl
  | d :: ds => by
    rw [List.map_cons, List.map_cons]
    unfold resolve
    rw [resolve_d ds]
    rfl
/-- f(e, ..) with plain arguments -/
theorem ev_clD (c : Cl X.prog X.w X.K X.mg X.base k nm ps C) (hgd : X.A.guards = some []) (hr : Room k X.A) (hg : Gl X nm) {i : C.ι} {ds : List D} (h : Eda X (e :: es) δ as) (ha : as = ds.map .d) (hi : C.args i = ds.map .fz) (hp : C.pre i) (q : ∀ y xs', C.out i y xs' → Q y δ) (hdb : (nm == ("__debug__" : Str)) = false := by decide)
    (he : starEach (e :: es) X.env = (false, eval e X.env) :: starEach es X.env := by rfl) (hpl : (backTo pos (starEach es X.env)).any (·.1) = false := by rfl) : Ev X (.Call (.Name nm p) (e :: es) [] pos) δ Q := by
  subst ha
  refine ev_cl c hgd hr hg (h.use ⟨i, by rw [hi]; exact resolve_d ds, ?_, hp, fun y xs' _ ho => by rw [upds_d]; exact q y xs' ho⟩) hdb he hpl
  rw [hi, foots_fz]
  exact List.nodup_nil
/-- f(e, ..) whose answer is a new list that nothing else knows, frozen -/
theorem ed_clO (c : Cl X.prog X.w X.K X.mg X.base k nm ps C) (hgd : X.A.guards = some []) (hr : Room k X.A) (hg : Gl X nm) {i : C.ι} {ds : List D} {zs : List D} (h : Eda X (e :: es) δ as) (ha : as = ds.map .d) (hi : C.args i = ds.map .fz) (hp : C.pre i) (q : ∀ y xs', C.out i y xs' → ∃ a, y = ol a zs) (hdb : (nm == ("__debug__" : Str)) = false := by decide)
    (he : starEach (e :: es) X.env = (false, eval e X.env) :: starEach es X.env := by rfl) (hpl : (backTo pos (starEach es X.env)).any (·.1) = false := by rfl) : Ed X (.Call (.Name nm p) (e :: es) [] pos) δ (.fz (.lst zs)) :=
  ev_frz (ev_clD c hgd hr hg h ha hi hp (fun y xs' ho => by
    obtain ⟨a, rfl⟩ := q y xs' ho
    refine ⟨?_, rfl⟩
    unfold dat
    rw [dats_fz]) hdb he hpl)
abbrev Edk (X : Cx) (kws : List Keyword) (δ : En) (as : List AR) : Prop := Ek X kws δ fun r δ' => r = as ∧ δ' = δ
theorem Ek.use {R : List AR → En → Prop} (h : Edk X kws δ as) (q : R as δ) : Ek X kws δ R := fun G H σ s => (h G H σ s).imp fun _ _ ⟨x, G', d', s', r, e1, e2⟩ => by subst e1; subst e2; exact ⟨_, G', _, s', r, q⟩
theorem ed_knil : Edk X [] δ [] := ek_nil ⟨rfl, rfl⟩
theorem ed_kcons {d : D} (h : Ed X e δ (.fz d)) (hr : Edk X kws δ as) : Edk X (⟨n, e, kpos⟩ :: kws) δ (.d d :: as) := ek_cons (h.use ⟨d, rfl, Ek.use hr ⟨rfl, rfl⟩⟩)
theorem pick_map {α β : Type} {f : α → β} {xs : List α} : ∀ idx : List Nat, pick idx (xs.map f) = (pick idx xs).map f
  | [] => rfl
  | i :: idx => by
    have ih := pick_map (f := f) (xs := xs) idx
    unfold pick at ih ⊢
    rw [List.filterMap_cons, List.filterMap_cons, List.getElem?_map]
    cases xs[i]? with
    | none => exact ih
    | some a =>
      show f a :: _ = f a :: _
      rw [ih]
/-- f(k = e, ..) with plain arguments -/
theorem ev_clKD (c : ClS X.prog X.w X.K X.mg X.base k nm st ps C) (hgd : X.A.guards = some []) (hr : Room k X.A) (hg : Gl X nm) (idx : List Nat)
    (kb : ∀ f fd, Fun X.K nm nm st f fd → ∀ (s : Shared) (ws : List Value), ws.length = ks.length → BindsTo s fd ⟨[], ks.zip ws⟩ (ps.zip (pick idx ws))) (hix : ∀ i ∈ idx, i < ks.length) {i : C.ι} {ds : List D}
    (h : Edk X kws δ as) (ha : as = ds.map .d) (hl : ds.length = ks.length) (hi : C.args i = (pick idx ds).map .fz) (hp : C.pre i) (q : ∀ y xs', C.out i y xs' → Q y δ)
    (hdb : (nm == ("__debug__" : Str)) = false := by decide) (hall : (backToKw pos (keywordEach kws X.env)).all (·.1.isSome) = true := by rfl) (hks : (backToKw pos (keywordEach kws X.env)).filterMap (·.1) = ks := by rfl)
    (hpl : ((backTo pos (starEach [] X.env)).any (·.1) || (backToKw pos (keywordEach kws X.env)).any (·.1.isNone)) = false := by rfl) : Ev X (.Call (.Name nm p) [] kws pos) δ Q := by
  subst ha
  refine ev_clK c hgd hr hg idx kb hix (Ek.use h ⟨by rw [List.length_map]; exact hl, i, ?_, ?_, hp, fun y xs' _ ho => ?_⟩) hdb hall hks hpl
  · rw [pick_map, hi]
    exact resolve_d _
  · rw [hi, foots_fz]
    exact List.nodup_nil
  · rw [pick_map, upds_d]
    exact q y xs' ho
theorem ed_clKF (c : ClS X.prog X.w X.K X.mg X.base k nm st ps C) (hgd : X.A.guards = some []) (hr : Room k X.A) (hg : Gl X nm) (idx : List Nat)
    (kb : ∀ f fd, Fun X.K nm nm st f fd → ∀ (s : Shared) (ws : List Value), ws.length = ks.length → BindsTo s fd ⟨[], ks.zip ws⟩ (ps.zip (pick idx ws))) (hix : ∀ i ∈ idx, i < ks.length) {i : C.ι} {ds : List D}
    (h : Edk X kws δ as) (ha : as = ds.map .d) (hl : ds.length = ks.length) (hi : C.args i = (pick idx ds).map .fz) (hp : C.pre i) (ho : ∀ y xs', C.out i y xs' → y = z)
    (hdb : (nm == ("__debug__" : Str)) = false := by decide) (hall : (backToKw pos (keywordEach kws X.env)).all (·.1.isSome) = true := by rfl) (hks : (backToKw pos (keywordEach kws X.env)).filterMap (·.1) = ks := by rfl)
    (hpl : ((backTo pos (starEach [] X.env)).any (·.1) || (backToKw pos (keywordEach kws X.env)).any (·.1.isNone)) = false := by rfl) : Ed X (.Call (.Name nm p) [] kws pos) δ z :=
  ev_clKD c hgd hr hg idx kb hix h ha hl hi hp (fun y xs' o => ⟨ho y xs' o, rfl⟩) hdb hall hks hpl
end
end Vl

namespace Vl
open PySem PySem.Spec PyProof.Rows L2
theorem blkOk_nf {N : List Str} {sc0 scope : Scope} {own : List (Str × Nat)} (h : blkC N sc0 scope own = true) (hf : (scope.names.all fun y => decide (y.2 ≠ .free)) = true) (sc : Scope) : BlkOk N sc scope own := by
  have k := blkOk_by h
  refine ⟨k.kind, k.uniq, k.ix, fun y hy e => ?_, k.own⟩
  have := List.all_eq_true.mp hf y hy
  simp only [decide_eq_true_eq] at this
  exact absurd e this
section
variable {X : Cx} {e tg iter : Expr} {es : List Expr} {bd : List Stmt} {δ : En} {Q : OD → En → Prop} {P : DE} {pos p : Pos} {S : OD → Prop}
theorem eqv_ints : ∀ ns ms : List Int, PyData.eqv (.list (ns.map .int)) (.list (ms.map .int)) = decide (ns = ms)
  | [], [] => rfl
  | [], _ :: _ => rfl
  | _ :: _, [] => rfl
  | n :: ns, m :: ms => by
    have ih := eqv_ints ns ms
    unfold PyData.eqv at ih ⊢
    rw [List.map_cons, List.map_cons]
    unfold PyData.eqvAll
    rw [ih]
    rw [Bool.eq_iff_iff]
    simp [PyData.eqv]
theorem eq_LI2 {ns ms : List Int} (hu : X.A.units + 64 < cLine) (q : S (.fz (.bl (decide (ns = ms))))) : RD X (compareOp .Eq) (.fz (LI ns)) (.fz (LI ms)) S :=
  eq_D hu (py_LI ns) (py_LI ms) (shaped_ints ns) (shaped_ints ms) (by rw [eqv_ints]; exact q)
/-- list(e) as a list of one's own -/
theorem ev_listO (hg : Gl X "list") (hm : X.mg "list" = none) (h : Ea X [e] δ fun xs δ1 => ∃ ds : List D, xs = [.d (.lst ds)] ∧ ∀ a, Q (ol a ds) δ1) (he : starEach [e] X.env = (false, eval e X.env) :: starEach [] X.env := by rfl) : Ev X (.Call (.Name "list" p) [e] [] pos) δ Q := fun G H σ s => by
  refine .mk fun pins s0 I => ?_
  refine wpAny_Call_Name_kw (ld_blt I hg hm bt_list ?_ (by decide) (by decide))
  refine PyProof.Rows.callWith_type1 (thn ((h G H σ s).run pos pins s0 I) fun us s1 ⟨vs, H1, I1, r1, xs, G1, d1, t1, rs, ds, e1, q⟩ => ?_) he rfl
  subst e1
  obtain ⟨l, ws, rfl, g, rr⟩ := one_lst (repAs_d (ds := [.lst ds]) rs)
  exact call_list_of pins s1 σ H1 _ us _ I1 r1 ⟨l, ws, rfl, .inl (.of (t1.st.ex _ _ g)), fun q' n => ⟨_, G1, d1, t1.newOwn rr n, q q'⟩⟩
/-- what a loop over own things owes -/
def LpO (X : Cx) (tg : Expr) (bd : List Stmt) (P : DE) (xs : List OD) (δ0 : En) : Prop := ∃ I : Nat → En → Prop, I 0 δ0 ∧ (∀ i (h : i < xs.length) δ1, I i δ1 → Eg X tg xs[i] δ1 fun δ2 => Eb X bd δ2 { P with nx := I (i + 1), ct := I (i + 1), bk := P.nx }) ∧ ∀ δ', I xs.length δ' → P.nx δ'
theorem es_forOC (hp : PassesOwn (model X.prog X.w) X.A X.env X.xe) (hc : X.calm = true) (hi : Ev X iter δ fun x δ1 => ∃ l xs, x = .own l xs ∧ LpO X tg bd P xs δ1) (hs : ∀ x, foldedSetIterable iter X.env x = pure x := by intro _; rfl) : Es X (.For tg iter bd [] pos) δ P := fun G H σ s => by
  have pi : PI X tg iter _ := pi_list (tg := tg) (wE_pe (X := X) (e := iter))
  refine wS_of (ps_for hp hc pi wG_pg wB_ps hs) ((hi G H σ s).imp fun v H1 ⟨x, G1, δ1, s1, l, xs, ex, I, h0, step, hd⟩ => ?_)
  subst ex
  obtain ⟨vs, G2, ev, hl, hg, s2⟩ := s1.st.scatter
  have t0 := s1.trans s2
  refine ⟨l, ev, ⟨vs, .of (t0.st.ex _ _ hg)⟩, ?_⟩
  refine for_it (walk_list (xs := vs)) (fun i σ' H' => ∃ Gi δi, Step X.K G2 H1 (xs.map some ++ δ1) Gi H' ((vs.drop i).map some ++ σ') ((xs.drop i).map some ++ δi) ∧ I i δi) ⟨G2, δ1, t0.st.step, h0⟩ (fun i σ' H' _ ⟨Gi, δi, si, _⟩ => .of (si.st.ex _ _ (si.gr.g _ _ hg))) (fun i v σ' H' H3 hlt ⟨Gi, δi, si, hI⟩ y => ?_) fun σ' H' ⟨Gi, δi, si, hI⟩ => ?_
  · obtain ⟨e3, e2⟩ := y
    subst e3
    have hv : vs[i] = v := (List.getElem?_eq_some_iff.mp e2).2
    have hx : i < xs.length := by omega
    have d1 : (vs.drop i).map some ++ σ' = some v :: ((vs.drop (i + 1)).map some ++ σ') := by rw [List.drop_eq_getElem_cons hlt, hv]; rfl
    have d2 : (xs.drop i).map some ++ δi = some xs[i] :: ((xs.drop (i + 1)).map some ++ δi) := by rw [List.drop_eq_getElem_cons hx]; rfl
    rw [d1, d2] at si
    have hl2 : (xs.drop (i + 1)).length = (vs.drop (i + 1)).length := by rw [List.length_drop, List.length_drop, hl]
    have sk := Stt.sink hl2 si.st
    have low := (stack_reps hl2 sk).2
    have bk : ∀ b, b ∈ feet ((xs.drop (i + 1)).map some ++ some xs[i] :: δi) → b ∈ feet (some xs[i] :: ((xs.drop (i + 1)).map some ++ δi)) := fun b => by
      rw [feet_app, feet_some, feet_some, feet_app]
      simp only [List.mem_append]
      rintro (h | h | h)
      · exact .inr (.inl h)
      · exact .inl h
      · exact .inr (.inr h)
    have base : Step X.K G2 H1 (xs.map some ++ δ1) Gi H3 ((vs.drop (i + 1)).map some ++ some v :: σ') ((xs.drop (i + 1)).map some ++ some xs[i] :: δi) := ⟨sk, si.gr, fun b hb => si.ft b (bk b hb)⟩
    refine (step i hx δi hI Gi H3 σ' v low).imp fun σ4 H4 ⟨G4, δ4, s4, hb⟩ => ?_
    have f4 := base.trans (Step.frames hl2 base.st s4)
    refine (hb G4 H4 σ4 s4.st).imp ⟨fun σ5 H5 ⟨G5, δ5, s5, q⟩ => ⟨G5, δ5, f4.trans (Step.frames hl2 f4.st s5), q⟩, fun v5 H5 ⟨x5, G5, σ5, δ5, s5, q⟩ => ?_, fun σ5 H5 ⟨G5, δ5, s5, q⟩ => ?_, fun σ5 H5 ⟨G5, δ5, s5, q⟩ => ⟨G5, δ5, f4.trans (Step.frames hl2 f4.st s5), q⟩⟩
    · have f5 := t0.trans (f4.trans (Step.frames hl2 f4.st s5))
      exact ⟨x5, G5, σ5, δ5, ⟨s5.st, f5.gr, fun b hb => f5.ft b (by rw [feet_app]; exact List.mem_append_right _ hb)⟩, q⟩
    · have f5 := t0.trans (f4.trans (Step.frames hl2 f4.st s5))
      exact ⟨G5, δ5, ⟨s5.st, f5.gr, fun b hb => f5.ft b (by rw [feet_app]; exact List.mem_append_right _ hb)⟩, q⟩
  · have e1 : vs.drop vs.length = [] := List.drop_length
    have e2 : xs.drop vs.length = [] := by rw [← hl]; exact List.drop_length
    rw [e1, e2] at si
    rw [← hl] at hI
    exact ⟨Gi, δi, t0.trans si, hd _ hI⟩
end
end Vl

namespace Vl
open PySem PySem.Spec PyProof.Rows L2
section
variable {X : Cx} {st : Stmt} {sts : List Stmt} {δ : En} {P P' : DE}
theorem Es.imp (h : Es X st δ P) (nx : ∀ δ', P.nx δ' → P'.nx δ') (rt : ∀ x δ', P.rt x δ' → P'.rt x δ') (bk : ∀ δ', P.bk δ' → P'.bk δ') (ct : ∀ δ', P.ct δ' → P'.ct δ') : Es X st δ P' :=
  fun G H σ s => (h G H σ s).imp (DE.le s.step nx rt bk ct)
/-- a statement, what stands behind it, the rest -/
theorem eb_seq (M : En → Prop) (h : Es X st δ { P with nx := M }) (q : ∀ δ', M δ' → Eb X sts δ' P) : Eb X (st :: sts) δ P :=
  eb_cons (Es.imp h (fun δ' z => q δ' z) (fun _ _ z => z) (fun _ z => z) fun _ z => z)
end
end Vl

namespace Vl
open PySem PySem.Spec PyProof.Rows L2
theorem foot_opt {e : Option D} {x : OD} (h : (some (e.map OD.fz) : Option (Option OD)) = some (some x)) : foot x = [] := by
  cases e with
  | none => cases h
  | some d =>
    cases h
    unfold foot
    rfl
theorem feet_set_none : ∀ {δ : En} {i : Nat}, (∀ x, δ[i]? = some (some x) → foot x = []) → feet (δ.set i none) = feet δ
  | [], _, _ => by simp
  | none :: r, 0, _ => by rw [List.set_cons_zero]
  | some y :: r, 0, h => by
    rw [List.set_cons_zero, feet_some, h y rfl, List.nil_append]
    show feet (none :: r) = feet r
    rw [feet]
  | none :: r, i + 1, h => by
    rw [List.set_cons_succ]
    show feet (none :: r.set i none) = feet (none :: r)
    rw [feet, feet, feet_set_none (fun x hx => h x (by simpa using hx))]
  | some y :: r, i + 1, h => by
    rw [List.set_cons_succ, feet_some, feet_some, feet_set_none (fun x hx => h x (by simpa using hx))]
theorem feet_wipe1 {δ : En} {i : Nat} (h : ∀ x, δ[i]? = some (some x) → foot x = []) : feet (wipeE δ [i]) = feet δ := feet_set_none h
end Vl

namespace Vl
open PySem PySem.Spec PyProof.Rows L2
section
variable {P : Program} {w : World} {K : PySem.W.Frag} {mg mb : Str → Option Value} {k : Nat} {fa a : Addr} {fd : FuncData} {x : Str} {sp : Sp} {t : Shared} {us : List Value} {sc : List Int}
/-- a heap in which nothing but the script is told -/
theorem only_script (KX : K.In t.heap) (ho : t.heap.get? a = some { cls := .type "list", data := .seq us.toArray }) (hi : IntsAre us sc) (hz : sc.length ≤ sizeLine) :
    ∃ H : Hp, Only H ∧ SqL K H a (sc.map V.int) ∧ HOk P w H t.heap ∧ (∀ b, H b ≠ none → b = a) ∧ (H a ≠ none → K.lookup a = none) := by
  have rel := vals_ints hi
  cases own : K.lookup a with
  | some o =>
    have same := KX a o own
    rw [ho] at same
    cases same
    refine ⟨fun _ => none, fun _ => .inl rfl, .inr ⟨_, us.toArray, _, own, rfl, rfl, rfl, ?_, by simpa using rel⟩, fun b u e => (by have e : (none : Option HO) = some u := e; cases e), fun b e => absurd rfl e, fun e => absurd rfl e⟩
    rw [List.size_toArray, hi.length]
    exact hz
  | none =>
    refine ⟨fun b => if b = a then some (.frz { cls := .type "list", data := .seq us.toArray } (.lst (sc.map V.int))) else none, fun b => ?_, .inl (.inr ⟨_, if_pos rfl⟩), fun b u e => ?_, fun b e => ?_, fun _ => rfl⟩
    · rcases Decidable.em (b = a) with q | q
      · exact .inr ⟨_, _, if_pos q⟩
      · exact .inl (if_neg q)
    · rcases Decidable.em (b = a) with q | q
      · subst q
        dsimp only at e
        rw [if_pos rfl] at e
        cases e
        exact ⟨ho, by rw [List.length_map]; exact hz, us, _, rel, ho⟩
      · dsimp only at e
        rw [if_neg q] at e
        cases e
    · rcases Decidable.em (b = a) with q | q
      · exact q
      · dsimp only at e
        rw [if_neg q] at e
        exact absurd rfl e
theorem end_call (KX : K.In t.heap) (hmain : t.heap.Ns mainGlobals mg) (hblt : t.heap.Ns builtinsNs mb) (hboot : ∀ y : Str, y ≠ "__name__" → mb y = bootBuiltins y) (hlim : t.heap.NoLimit) (hgen : t.gens = #[])
    (ho : t.heap.get? a = some { cls := .type "list", data := .seq us.toArray }) (hi : IntsAre us sc) (hz : sc.length ≤ sizeLine) (hr : Room k callerA)
    (F : ∀ base : Heap, K.In base → base.Ns mainGlobals mg → ∃ fd : FuncData, FnG P w K mg base k fa fd [x] sp ∧ Binds K fd [x] [])
    (hsp : ∀ H : Hp, Only H → SqL K H a (sc.map V.int) → sp [.ref a] H (fun v _ => v = .bl true) E0) :
    codeAny (model P w) callerA (.call (.ref fa) ⟨[.ref a], []⟩) (fun r s' => r = .ok (.ret (.bool true)) ∧ OldK t.heap s'.heap ∧ s'.os = t.os ∧ AllBare s'.gens) t := by
  obtain ⟨H, only, seq, hok, at_a, at_k⟩ := only_script (P := P) (w := w) KX ho hi hz
  have under : ∀ {b : Addr} {o : Obj}, t.heap.get? b = some o → H b = none → (hidT t.heap H).get? b = some o := fun e n => hidT_get e n
  have dict0 : ∀ {b : Addr} {o : Obj} {es : Array DictEntry} {ep : Nat}, t.heap.get? b = some o → o.data = .dict es ep → H b = none := fun {b o es ep} e de => by
    cases told : H b with
    | none => rfl
    | some z =>
      have ba := at_a b (by rw [told]; simp)
      subst ba
      rw [ho] at e
      cases e
      exact nomatch (show Data.seq us.toArray _ = Data.dict es ep from de)
  have spaces : ∀ {b : Addr} {m : Str → Option Value}, t.heap.Ns b m → (hidT t.heap H).Ns b m := fun ⟨o, es, ep, e, de, r⟩ => ⟨o, es, ep, under e (dict0 e de), de, r⟩
  have KB : K.In (hidT t.heap H) := fun b o e => by
    refine under (KX b o e) ?_
    cases told : H b with
    | none => rfl
    | some z =>
      have ba := at_a b (by rw [told]; simp)
      subst ba
      rw [at_k (by rw [told]; simp)] at e
      cases e
  obtain ⟨mc, lim1, lim2⟩ := hlim
  have env0 : Env0 P w K mg (hidT t.heap H) callerA [] t H :=
    ⟨rfl, ⟨KB, spaces hmain, ⟨mb, spaces hblt, hboot⟩, ⟨mc, spaces lim1, lim2⟩⟩, fun b o e => of_hidT e, Nat.le_of_eq (hidT_size _ _), trivial, fun b e => absurd (show b ∈ ([] : List Addr) from e) (by simp), hok, .of_eq hgen⟩
  obtain ⟨fd, Fd, hb⟩ := F _ KB (spaces hmain)
  refine codeAny_mono (Fd.run callerA [] t H ⟨[.ref a], []⟩ [.ref a] [.ref a] _ E0 rfl hr env0 (hb t [.ref a] KX rfl) (.cons rfl .nil) (hsp H only seq)) fun res t' z => ?_
  cases res with
  | error err => exact z.elim
  | ok fl =>
    cases fl with
    | next => exact False.elim z
    | brk => exact False.elim z
    | cont => exact False.elim z
    | ret val =>
      obtain ⟨v, H2, os, bare, un, hok2, rv, ev⟩ := z
      have ev : v = .bl true := ev
      subst ev
      obtain rfl : val = Value.bool true := rv
      refine ⟨rfl, OldK.of_keep fun b o e => ?_, os, bare⟩
      cases told : H b with
      | none => exact un.keep b o e told (fun e => absurd (show b ∈ ([] : List Addr) from e) (by simp)) (by simp)
      | some z =>
        rcases only b with n | ⟨o1, xs, fz⟩
        · rw [told] at n
          cases n
        · have was := (hok b _ fz).1
          rw [e] at was
          cases was
          exact (hok2 b _ (un.frzs b _ _ fz)).1
end
/-- the head of a law, its def under a contract -/
theorem walk_G {l : PySem.W.OpenLaw} {n k : Nat} {q : Program} {loose : List Str} {XP : (Str → Option Value) → Heap → Prop} {YP : World → Heap → Prop} {d : DefRec} {K : Params → PySem.W.Frag} {C : Con} {nm : Str}
    (hn : l.most = some n) (hn2 : n ≤ sizeLine) (hdf : d.params.defaults = []) (hr : Room k callerA) (hY : ∀ (w : World) (h : Heap), YP w h → (K w.params).In h) (hname : d.name = nm)
    (F : ∀ (w : World) (mg : Str → Option Value) (h : Heap), (K w.params).In h → h.Ns mainGlobals mg → ∀ base : Heap, (K w.params).In base → base.Ns mainGlobals mg → Cl l.prog w (K w.params) mg base k nm ["script"] C)
    (hC : ∀ ns : List Int, ns.length ≤ n → ∃ i : C.ι, C.args i = [.fz (.rol ns)] ∧ C.pre i ∧ ∀ y xs', C.out i y xs' → y = .fz (.bl true)) :
    PySem.W.WalkO q loose XP YP l.row.toRowW d [] (fun f vs => PySem.call f vs) := by
  refine Att.attach_call hn hdf fun w s0 t mg mb fa o pm cd doc a us sc G Y _ _ _ hmg hobj hints hlen hgen => ?_
  have KX := hY w _ Y
  obtain ⟨i, hi, hp, ho⟩ := hC sc hlen
  refine end_call (x := "script") (sp := spC (K w.params) C) KX G.T.g G.T.b G.T.builtins G.T.nolimit hgen hobj hints (Nat.le_trans hlen hn2) hr (fun base kb ns => ?_) fun H only seq => ?_
  · obtain ⟨f, fd, Fd, e, _, b⟩ := (F w mg _ KX G.T.g base kb ns).ex
    rw [← hname, hmg] at e
    cases e
    exact ⟨fd, Fd, b⟩
  · refine ⟨H, i, ?_, hp, fun v y xs' G' H' st _ hq => ?_⟩
    · rw [hi]
      refine (Stt.pushF (d := .rol sc) ⟨Same.refl _, rfl, fun i x h => by simp at h, by unfold feet; exact List.nodup_nil, fun b h => by unfold feet at h; cases h⟩ ?_)
      unfold Rep
      exact ⟨a, rfl, seq⟩
    · have e := ho y xs' hq
      subst e
      have r := st.st.top
      unfold RepO Rep at r
      exact r
end Vl

namespace PySem
open Sem (wp)
open AutoSeq1 (wpAny_loadPart')
theorem meets_enumerate_newT (l : Addr) (items : Array Value) (n : Nat) (dct : Option Addr) (sl : Array (Option Value)) :
    Meets (Builtin.«enumerate.__new__» ⟨[.type "enumerate", .ref l], []⟩) (fun _ R s => s.heap.get? l = some { cls := .type "tuple", dict := dct, data := .seq items n, slots := sl } ∧
      R (.ok (.ret (.ref (s.heap.push { cls := .type "tuple_iterator", data := .fields #[.ref l, .int 0 0] }).objs.size)))
        { s with heap := (s.heap.push { cls := .type "tuple_iterator", data := .fields #[.ref l, .int 0 0] }).push { cls := .type "enumerate", data := .fields #[.none, .bool false, .ref s.heap.objs.size, rawInt 0, .none, .none] } }) :=
  .of_wp fun prog w A R s h => by
    obtain ⟨hp, g, d, tk, os⟩ := s; obtain ⟨hl, h⟩ := h
    have hsub := sub_enumerate
    have hL : Heap.IsTuple (Shared.heap ⟨hp, g, d, tk, os⟩) l items := ⟨_, hl, rfl, n, rfl⟩
    wp_walk using wpAny_loadPart' hl
    refine wpAny_stack_any fun st => wpAny_pure ?_
    split
    · rename_i c _ _ _ _ _
      cases (c == Value.type "enumerate")
      · wp_walk using wpAny_loadPart' hl, wpAny_pyIter_tuple hL
        exact ⟨_, rfl, h⟩
      · wp_walk using wpAny_loadPart' hl, wpAny_pyIter_tuple hL
        exact ⟨_, rfl, h⟩
    · wp_walk using wpAny_loadPart' hl, wpAny_pyIter_tuple hL
      exact ⟨_, rfl, h⟩
theorem call_enumerate_tup {prog : Program} {w : World} {A : Around} {E : Value → Shared → Prop} {s : Shared} {l : Addr} {items : Array Value} {Q : Value → Shared → Prop} (hL : s.heap.IsTuple l items)
    (h : ∀ h', IsEnum h' (s.heap.objs.size + 1) s.heap.objs.size 0 .none → h'.IsTupleIter s.heap.objs.size l 0 → h'.objs.size = s.heap.objs.size + 2 →
      (∀ b o, s.heap.get? b = some o → h'.get? b = some o) → Q (.ref (s.heap.objs.size + 1)) { s with heap := h' }) :
    wpAny (model prog w) A (call (.type "enumerate") [.ref l]) Q E s := by
  obtain ⟨⟨c, dct, dt, sl⟩, hl, hc, n, hd⟩ := hL
  replace hc : c = .type "tuple" := hc
  replace hd : dt = .seq items n := hd
  subst hc hd
  refine callType_new F.called_enumerate (by decide) (F.typeCall_enumerate_1 _) (F.newCall_enumerate_1 _) (fun obj => F.args_object_init_2 obj _) F.entry_enumerate_new
    (meets_enumerate_newT l items n dct sl) ⟨hl, ?_⟩
  have hz : (s.heap.push { cls := .type "tuple_iterator", data := .fields #[.ref l, .int 0 0] }).objs.size = s.heap.objs.size + 1 := Heap.size_push ..
  show _ ∧ _
  rw [hz]
  have he : IsEnum ((s.heap.push { cls := .type "tuple_iterator", data := .fields #[.ref l, .int 0 0] }).push
      { cls := .type "enumerate", data := .fields #[.none, .bool false, .ref s.heap.objs.size, rawInt 0, .none, .none] }) (s.heap.objs.size + 1) s.heap.objs.size 0 .none := by
    have := Heap.get?_push_size (s.heap.push { cls := .type "tuple_iterator", data := .fields #[.ref l, .int 0 0] })
      (o := { cls := .type "enumerate", data := .fields #[.none, .bool false, .ref s.heap.objs.size, rawInt 0, .none, .none] }) rfl
    rw [hz] at this; exact this
  refine ⟨⟨_, he, rfl⟩, h _ he ⟨_, Heap.get?_push_of_some _ (Heap.get?_push_size _ rfl), rfl, rfl⟩ (by rw [Heap.size_push, hz]) fun b o x => Heap.get?_push_of_some _ (Heap.get?_push_of_some _ x)⟩
/-- sum of a tuple of ints -/
theorem sum_tupG {prog : Program} {w : World} {A : Around} {E : Value → Shared → Prop} {s : Shared} {l : Addr} {its : Array Value} {val : Nat → Int} {Q : Value → Shared → Prop} (hh : A.handled = none) (hl : s.heap.IsTuple l its)
    (hv : ∀ (i : Nat) (v : Value), its[i]? = some v → ∃ t, v = Value.int (val i) t)
    (h : ∀ h' tk t', (∀ b o, s.heap.get? b = some o → h'.get? b = some o) → Q (.int (preSum val its.size) t') { s with heap := h', toks := tk }) :
    wpAny (model prog w) A (call (.builtin "sum") [.ref l]) Q E s := by
  have ll : l < s.heap.objs.size := by obtain ⟨o, ho, _⟩ := hl; exact Heap.lt_size ho
  refine call_sum_walkG (wpAny_pyIter_tuple hl ?_)
  refine ⟨_, _, _, _, _, _, val, rfl, Walks.tuple (A := A.in1) hh _ l (Nat.ne_of_lt ll) its, ⟨⟨_, Heap.get?_push_size _ rfl, rfl, rfl⟩, hl.push _⟩, fun b hb => ?_, hv, fun h' tk t' hk => ?_⟩
  · show b < (s.heap.push _).objs.size
    rw [Heap.size_push]
    rcases List.mem_cons.mp hb with rfl | hb
    · exact Nat.lt_succ_self _
    · rcases List.mem_cons.mp hb with rfl | hb
      · exact Nat.lt_succ_of_lt ll
      · cases hb
  · exact h h' tk t' fun b o e => hk b o (fun hm => Nat.ne_of_lt (Heap.lt_size e) (by simpa using hm)) (Heap.get?_push_of_some _ e)
end PySem
namespace Vl
open PySem PySem.Spec PyProof.Rows L2
/-- the list at a, counted from k -/
def ItnT (K : PySem.W.Frag) (a : Addr) (k : Int) : It :=
  ⟨fun i H => ∃ (xs : List V) (x : V), SqT K H a xs ∧ xs[i]? = some x, fun i H v H' => ∃ T x, v = .ref T ∧ H T = none ∧ H' = upd H T (.tup [.int (k + (i : Nat)), x]) ∧ ∀ xs, SqT K H a xs → xs[i]? = some x, fun i H => ∃ xs : List V, SqT K H a xs ∧ xs.length = i⟩
theorem turn_enumT {P : Program} {w : World} {K : PySem.W.Frag} {elts : List Expr} {kk : Nat} {tpos : Pos} (a e it : Addr) (k : Int) :
    Turn P w K (.Tuple elts kk tpos) (ItnT K a k) [e, it] e (fun i h => (∃ old, IsEnum h e it (k + (i : Nat)) old) ∧ h.IsTupleIter it a i ∧ e ≠ it ∧ a ≠ e ∧ a ≠ it) where
  mem := by simp
  obj := fun i h st b hb => by
    obtain ⟨⟨old, he⟩, ⟨o, ho, hc, hd⟩, _⟩ := st
    rcases (show b = e ∨ b = it by simpa using hb) with z | z
    · subst z; exact ⟨_, he, fun v q => nomatch q⟩
    · subst z; exact ⟨o, ho, fun v q => by rw [hd] at q; cases q⟩
  keep := fun i h h' ⟨⟨old, he⟩, hi, r⟩ q => ⟨⟨old, q e (by simp) _ he⟩, hi.at fun o z => q it (by simp) o z, r⟩
  item := by
    rintro X rfl rfl rfl hc i pins s σ H E I hf ⟨⟨old, he⟩, hit, hne, ha, hb⟩ ⟨xs, x, hq, hx⟩
    obtain ⟨its, rv, p, hz⟩ := I.tuple hq
    obtain ⟨u, hu, ru⟩ := rv.get hx
    have D := Draws.tuple (prog := X.prog) (w := X.w) (A := X.A.in1) (I.ok.hd hc) it a hb its.toArray
    have hlt : i < its.toArray.size := by
      rw [List.size_toArray]
      exact (List.getElem?_eq_some_iff.mp hu).1
    refine wpAny_pyNext_enum_itemC D he ⟨hit, p⟩ hlt hne (by simp [hne, ha.symm]) fun y h' tk hy ho hst hT hsz hk => ?_
    have hy' : y = u := by
      have hy : its.toArray[i]? = some y := hy
      rw [List.getElem?_toArray, hu] at hy
      exact (Option.some.inj hy).symm
    subst hy'
    have hel : e < s.heap.objs.size := Heap.lt_size he
    have hil : it < s.heap.objs.size := by obtain ⟨_, q, _⟩ := hit; exact Heap.lt_size q
    refine ⟨_, rfl, wpAny_letOwnedTupleGo_enum (s := { s with heap := h', toks := tk + 1 }) ho fun h'' he' sb => ?_⟩
    have hT2 := (sb.2 _ (Nat.ne_of_gt hel)).trans hT
    have hfree := I.hok.fresh (Nat.le_refl s.heap.objs.size)
    have new : ObjOk X.prog X.w (upd H s.heap.objs.size (.tup [.int (k + (i : Nat)), x])) h'' s.heap.objs.size (.tup [.int (k + (i : Nat)), x]) :=
      ⟨by show 2 ≤ sizeLine; decide, [.int (k + (i : Nat)) tk, y], .cons ⟨_, rfl⟩ (.cons ru .nil), ⟨_, hT2, rfl, _, rfl⟩⟩
    have I1 : Inv X pins σ (upd H s.heap.objs.size (.tup [.int (k + (i : Nat)), x])) { s with heap := h'', toks := tk + 1 } :=
      I.turnedNew (ch := [e, it]) (fun b ob hb q => by
        have n1 : b ≠ e := fun z => hb (by simp [z])
        have n2 : b ≠ it := fun z => hb (by simp [z])
        exact (sb.2 b n1).trans (hk b ob n1 n2 q)) hf (Nat.le_refl _) new
    refine ⟨.ref s.heap.objs.size, _, I1, rfl, ⟨_, x, rfl, hfree, rfl, fun ys hys => by rw [I.tuple_inj hys hq]; exact hx⟩, ⟨⟨y, ?_⟩, hst.1.at fun o q => (sb.2 it hne.symm).trans q, hne, ha, hb⟩, fun b hb' => ?_⟩
    · rw [show k + ((i + 1 : Nat) : Int) = k + (i : Nat) + 1 by omega]
      exact he'
    · rcases (show b = e ∨ b = it by simpa using hb') with z | z
      · subst z
        rw [upd_ne (Nat.ne_of_lt hel)]
        exact (hf b hb').1
      · subst z
        rw [upd_ne (Nat.ne_of_lt hil)]
        exact (hf b hb').1
  done := by
    rintro X rfl rfl rfl hc i pins s σ H E I hf ⟨⟨old, he⟩, hit, hne, ha, hb⟩ ⟨xs, hq, hx⟩
    obtain ⟨its, rv, p, hz⟩ := I.tuple hq
    obtain ⟨f0, f1, f2, f3, f4, f5⟩ := hf it (by simp)
    have D := Draws.tuple (prog := X.prog) (w := X.w) (A := X.A.in1) (I.ok.hd hc) it a hb its.toArray
    have hn : its.toArray.size = i := by rw [List.size_toArray, ← rv.length, hx]
    exact wpAny_pyNext_enum_endD D he (by rw [hn]; exact ⟨hit, p⟩) fun h' eb => ⟨rfl, I.turned (t' := s.toks) (fun b o hb q => eb b o hb q) f0 f1 f3 f4 f5⟩
  self := fun A i s Q E ⟨⟨_, he⟩, _⟩ h => wpAny_pyIter_enum he h
theorem walk_enumT {K : PySem.W.Frag} {a : Addr} {xs : List V} {k : Int} : Walk (ItnT K a k) xs.length (fun H => SqT K H a xs) (YPair (fun i => some (.int (k + (i : Nat)))) (fun i => xs[i]?)) := by
  refine ⟨fun i _ hi q => ⟨xs, xs[i], q, by simp [hi]⟩, fun _ q => ⟨xs, q, rfl⟩, fun i H v H' _ q y => ?_⟩
  obtain ⟨T, x, h1, h2, h3, h4⟩ := y
  exact ⟨T, .int (k + (i : Nat)), x, h1, h2, h3, rfl, h4 xs q⟩

def iEnumT (K : PySem.W.Frag) (ta : TA) : TI := fun σ H R => ta σ H fun vs H1 => ∃ a xs, vs = [.ref a] ∧ SqT K H1 a xs ∧ R (ItnT K a 0) H1
theorem pi_enumT {X : Cx} {e : Expr} {ta : TA} {p pos tpos : Pos} {elts : List Expr} {kk : Nat} (hg : Gl X "enumerate") (hm : X.mg "enumerate" = none) (ha : PA X [e] ta) (hs : starEach [e] X.env = [(false, eval e X.env)] := by rfl) :
    PI X (.Tuple elts kk tpos) (.Call (.Name "enumerate" p) [e] [] pos) (iEnumT X.K ta) := by
  refine ⟨fun pins s σ H R I h => ?_⟩
  refine Call_ (ld_blt I hg hm boot_enumerate (PyProof.Rows.callWith_type1 (thn (ha.run pos pins s σ H _ I h) fun us s1 ⟨vs, H1, I1, r1, q1⟩ => ?_) hs rfl))
  obtain ⟨a, xs, ex, hq, q⟩ := q1
  subst ex
  cases r1 with
  | cons r rr =>
    cases rr
    cases r
    obtain ⟨its, rv, p', hz⟩ := I1.tuple hq
    have hal : a < s1.heap.objs.size := by obtain ⟨_, z, _⟩ := p'; exact Heap.lt_size z
    refine call_enumerate_tup p' fun h' he hit hsz hk => wpAny_pyIter_enum he ?_
    have I2 : Inv X pins σ H1 { s1 with heap := h' } := I1.kept (t' := s1.toks) hk
    refine ⟨s1.heap.objs.size + 1, [s1.heap.objs.size + 1, s1.heap.objs.size], _, _, H1, rfl, I2, turn_enumT a (s1.heap.objs.size + 1) s1.heap.objs.size 0, ⟨⟨.none, by simpa using he⟩, hit, Nat.succ_ne_self _, Nat.ne_of_lt (Nat.lt_succ_of_lt hal), Nat.ne_of_lt hal⟩, fun b hb => ?_, q⟩
    have e' : b = s1.heap.objs.size + 1 ∨ b = s1.heap.objs.size := by simpa using hb
    have hle : s1.heap.objs.size ≤ b := by
      rcases e' with z | z
      · rw [z]; exact Nat.le_add_right _ _
      · rw [z]; exact Nat.le_refl _
    exact I1.fpOk hle (I1.hok.fresh hle)
section
variable {X : Cx} {e e2 tg iter : Expr} {ts : List Expr} {bd : List Stmt} {δ : En} {R : List D → En → Prop} {P : DE} {pos p : Pos} {S : OD → Prop}
theorem one_tup {K : PySem.W.Frag} {G : Hp} {ds : List D} {vs : List V} (rs : Reps K G [.tup ds] vs) : ∃ a ws, vs = [.ref a] ∧ G a = some (.tup ws) ∧ Reps K G ds ws := by
  unfold Reps Rep at rs
  obtain ⟨v, r, rfl, ⟨a, ws, rfl, g, r1⟩, rn⟩ := rs
  unfold Reps at rn
  subst rn
  exact ⟨a, ws, rfl, g, r1⟩
/-- enumerate(t), t a tuple -/
theorem ei_enumT {elts : List Expr} {kk : Nat} {tpos : Pos} (hg : Gl X "enumerate") (hm : X.mg "enumerate" = none) (h : Ea X [e] δ fun xs δ1 => ∃ ds, xs = [.d (.tup ds)] ∧ R (enD 0 ds) δ1) (hs : starEach [e] X.env = [(false, eval e X.env)] := by rfl) :
    Ei X (.Tuple elts kk tpos) (.Call (.Name "enumerate" p) [e] [] pos) δ R := fun G H σ s => wI_of (pi_enumT hg hm wA_pa hs) ((h G H σ s).imp fun vs H1 ⟨xs, G1, δ1, s1, rs, ds, e1, q⟩ => by
  subst e1
  obtain ⟨l, ws, rfl, g, rr⟩ := one_tup (repAs_d (ds := [.tup ds]) rs)
  refine ⟨l, ws, rfl, .inl (.of (s1.st.ex _ _ g)), G1, _, δ1, s1, q, fun H => SqT X.K H l ws, _, by unfold enD; rw [List.length_mapIdx, ← rr.length]; exact walk_enumT, fun H2 s => .inl (.of (s _ _ g)), fun i H2 v H3 G2 d t1 t2 y hd => ?_⟩
  unfold enD at hd
  rw [List.getElem?_mapIdx] at hd
  cases z : ds[i]? with
  | none => rw [z] at hd; cases hd
  | some d' =>
    rw [z] at hd
    simp at hd
    subst hd
    obtain ⟨v', e3, rv⟩ := rr.get z
    refine pair_new t2 y (fun x ex => ?_) fun x ex => ?_
    · cases ex
      unfold Rep
      rw [Int.zero_add]
    · rw [e3] at ex
      cases ex
      exact Rep.mono t1 _ _ rv)
/-! ### tuples -/
def rSumT (K : PySem.W.Frag) : List V → Hp → VK → Prop := fun vs H Q => ∃ (a : Addr) (ns : List Int), vs = [V.ref a] ∧ SqT K H a (ns.map V.int) ∧ Q (.int ns.sum) H
theorem preSum_take (ns : List Int) : ∀ n, n ≤ ns.length → preSum (fun i => ns.getD i 0) n = (ns.take n).sum
  | 0, _ => rfl
  | n + 1, h => by
    show preSum _ n + ns.getD n 0 = _
    rw [preSum_take ns n (Nat.le_of_succ_le h), List.take_succ, List.sum_append]
    simp [List.getElem?_eq_getElem (show n < ns.length from h)]
theorem cr_sumT (hc : X.calm = true) : CallR X (.builtin "sum") (rSumT X.K) := by
  intro pins s σ H vs us Q I r h
  obtain ⟨a, ns, rfl, hs, q⟩ := h
  obtain ⟨its, rv, hl, _⟩ := I.tuple hs
  rw [Vals.ref1 r]
  have hi := rv.ints
  have hlen : its.toArray.size = ns.length := by rw [List.size_toArray, ← rv.length, List.length_map]
  refine sum_tupG (val := fun i => ns.getD i 0) (I.ok.hd hc) hl (fun i v hv => ?_) fun h' tk t' hk => ⟨.int _, H, I.kept hk, ⟨_, rfl⟩, ?_⟩
  · have hv : its[i]? = some v := by simpa using hv
    have hi' : i < ns.length := by
      have := (List.getElem?_eq_some_iff.mp hv).1
      rw [← rv.length, List.length_map] at this
      exact this
    obtain ⟨u, hu, ru⟩ := rv.get (i := i) (x := .int (ns.getD i 0)) (by rw [List.getElem?_map, List.getD_eq_getElem?_getD, List.getElem?_eq_getElem hi']; rfl)
    rw [hv] at hu
    cases hu
    exact ru
  · rw [hlen, preSum_take ns _ (Nat.le_refl _), List.take_length]
    exact q
theorem cd_sumT (hc : X.calm = true) {ns : List Int} (q : S (.fz (.int ns.sum))) : CD X (.builtin "sum") [.tup (ns.map .int)] S := ⟨_, cr_sumT hc, fun G H vs k s rs z => by
  obtain ⟨a, ws, rfl, g, rs⟩ := one_tup rs
  have e : ws = ns.map V.int := by
    have := reps_ints (K := X.K) (G := G) ns
    have uniq : ∀ (ns : List Int) (ws : List V), Reps X.K G (ns.map D.int) ws → ws = ns.map V.int := by
      intro ns
      induction ns with
      | nil => intro ws h; unfold Reps at h; exact h
      | cons n ns ih =>
        intro ws h
        unfold Reps at h
        obtain ⟨v, r, rfl, h1, h2⟩ := h
        unfold Rep at h1
        rw [h1, ih r h2]
        rfl
    exact uniq ns ws rs
  subst e
  exact ⟨a, ns, rfl, .inl (.of (s _ _ g)), z (.int ns.sum) _ G H q (Same.refl _) (Same.refl _) s (fun _ h => .inl h) (by unfold Rep; rfl)⟩⟩
theorem cd_tuple {ds : List D} (q : S (.fz (.tup ds))) : CD X (.type "tuple") [.lst ds] S := ⟨_, call_tuple_of, fun G H vs k s rs z => by
  unfold Reps Rep at rs
  obtain ⟨v, r, rfl, ⟨a, ws, rfl, g, rs⟩, rn⟩ := rs
  unfold Reps at rn
  subst rn
  exact ⟨a, ws, rfl, .inl ⟨.of (s _ _ g), fun p n => new_tup s rs q n z⟩⟩⟩
theorem add_T {ds es : List D} (h1 : ds ≠ []) (hl : ds.length + es.length ≤ 100000) (q : S (.fz (.tup (ds ++ es)))) : RD X (binaryOp .Add) (.fz (.tup ds)) (.fz (.tup es)) S :=
  ⟨_, op_catT, _, _, rfl, rfl, fun G H v1 v2 k s r1 r2 z => by
    have r1' := r1
    unfold Rep at r1 r2
    obtain ⟨a1, w1, rfl, g1, rs1⟩ := r1
    obtain ⟨a2, w2, rfl, g2, rs2⟩ := r2
    have l1 := rs1.length
    have l2 := rs2.length
    refine ⟨a1, a2, w1, w2, rfl, rfl, .inl (.of (s _ _ g1)), .inl (.of (s _ _ g2)), fun e => h1 (by rw [e] at l1; exact List.length_eq_zero_iff.mp l1.symm), by rw [sizeLine_eq]; omega, fun e => ?_, fun _ p n => new_tup s (Reps.app rs1 rs2) q n z⟩
    have : es = [] := by rw [e] at l2; exact List.length_eq_zero_iff.mp l2.symm
    subst this
    rw [List.append_nil] at q
    exact z (.tup ds) _ G H q (Same.refl _) (Same.refl _) s (fun _ h => .inl h) r1'⟩
theorem add_TA {ds es : List D} (hl : ds.length + es.length ≤ 100000) (q : S (.fz (.tup (ds ++ es)))) : RD X (binaryOp .Add) (.fz (.tup ds)) (.fz (.tup es)) S :=
  ⟨_, op_catA, _, _, rfl, rfl, fun G H v1 v2 k s r1 r2 z => by
    have r1' := r1
    have r2' := r2
    unfold Rep at r1 r2
    obtain ⟨a1, w1, rfl, g1, rs1⟩ := r1
    obtain ⟨a2, w2, rfl, g2, rs2⟩ := r2
    have l1 := rs1.length
    have l2 := rs2.length
    refine ⟨a1, a2, w1, w2, rfl, rfl, .inl (.of (s _ _ g1)), .inl (.of (s _ _ g2)), by rw [sizeLine_eq]; omega, fun e => ?_, fun _ e => ?_, fun _ _ p n => new_tup s (Reps.app rs1 rs2) q n z⟩
    · have : ds = [] := by rw [e] at l1; exact List.length_eq_zero_iff.mp l1.symm
      subst this
      exact z (.tup es) _ G H q (Same.refl _) (Same.refl _) s (fun _ h => .inl h) r2'
    · have : es = [] := by rw [e] at l2; exact List.length_eq_zero_iff.mp l2.symm
      subst this
      rw [List.append_nil] at q
      exact z (.tup ds) _ G H q (Same.refl _) (Same.refl _) s (fun _ h => .inl h) r1'⟩
theorem sl_T {ds : List D} {l u : Option Int} (q : S (.fz (.tup (cutD ds l u)))) : SlD X (.fz (.tup ds)) l u S := ⟨_, sl_tupA, _, rfl, fun G H v k s r1 z => by
  have r1' := r1
  unfold Rep at r1
  obtain ⟨a, w, rfl, g, rs⟩ := r1
  refine ⟨a, w, rfl, .inl (.of (s _ _ g)), fun e => ?_, fun _ p n => ?_⟩
  · have hl := rs.length
    rw [hl] at e
    have : cutD ds l u = ds := by
      unfold cutD
      rw [e.1, e.2, List.drop_zero, Nat.sub_zero, List.take_length]
    rw [this] at q
    exact z (.tup ds) _ G H q (Same.refl _) (Same.refl _) s (fun _ h => .inl h) r1'
  · refine new_tup s (ds := cutD ds l u) ?_ q n z
    unfold cutD cutV
    rw [rs.length]
    exact (rs.drop _).take _⟩
/-! ### list(range(a, b)) -/
theorem rgV_reps {K : PySem.W.Frag} {G : Hp} (a b : Int) : Reps K G ((List.range (b - a).toNat).map fun (i : Nat) => D.int (a + i)) (rgV a b) := by
  unfold rgV
  generalize (b - a).toNat = n
  generalize List.range n = l
  induction l with
  | nil => exact Reps.nil
  | cons x l ih => exact Reps.cons (by unfold Rep; rfl) ih
theorem ev_listRg2 {a b : Expr} {i j : Int} {pr p2 : Pos} {Q : OD → En → Prop} (hc : X.calm = true) (hg : Gl X "list") (hm : X.mg "list" = none) (hgr : Gl X "range") (hmr : X.mg "range" = none) (ha : Ed X a δ (.fz (.int i))) (hb : Ed X b δ (.fz (.int j))) (ok : RgOk i j)
    (q : Q (.fz (.lst ((List.range (j - i).toNat).map fun (k : Nat) => D.int (i + k)))) δ)
    (n2 : starEach [.Call (.Name "range" p) [a, b] [] pos] X.env = (false, eval (.Call (.Name "range" p) [a, b] [] pos) X.env) :: starEach [] X.env := by rfl) (na : starEach (a :: [b]) X.env = (false, eval a X.env) :: starEach [b] X.env := by rfl)
    (nb : starEach [b] X.env = (false, eval b X.env) :: starEach [] X.env := by rfl) (hp : (backTo pos (starEach [b] X.env)).any (·.1) = false := by rfl) :
    Ev X (.Call (.Name "list" pr) [.Call (.Name "range" p) [a, b] [] pos] [] p2) δ Q := fun G H σ s =>
  wE_of (pe_listRg hc hg hm (prg_2 hgr hmr wE_pe wE_pe na nb hp) n2) ((ha G H σ s).imp fun v H1 ⟨x, G1, d1, s1, e1, e2⟩ => by
    subst e1; subst e2
    refine (hb G1 H1 σ s1.st.pop).imp fun w H2 ⟨y, G2, d2, s2, e3, e4⟩ => ?_
    subst e3; subst e4
    have r1 := top_fz s1.st rfl
    have r2 := top_fz s2.st rfl
    unfold Rep at r1 r2
    refine ⟨i, j, r1, r2, ok, fun l n => ?_⟩
    have st := s1.pop.trans s2.pop
    exact ⟨_, _, _, (st.grow (new_g st.st.ex n) (new_h n) (new_gh st.st.ex) (new_n n)).pushF (by unfold Rep; exact ⟨l, _, rfl, upd_same, rgV_reps i j⟩), q⟩)
end
end Vl

namespace Vl
open PySem PySem.Spec PyProof.Rows L2
/-! ### dicts: keys ints, or tuples of ints; values scalars -/
abbrev dcT (a : Addr) (kvs : List (List L2.Key × V)) : OD := .vol a fun o => o = .dT kvs
abbrev dcK (a : Addr) (kvs : List (L2.Key × V)) : OD := .vol a fun o => o = .dK kvs
def tk (ns : List Int) : List L2.Key := ns.map Sum.inl
section
variable {X : Cx} {e k o tg iter value : Expr} {es : List Expr} {bd : List Stmt} {δ : En} {Q : OD → En → Prop} {R : Bool → En → Prop} {P : DE} {pos p : Pos} {S : OD → Prop} {nm : Str} {l : Addr} {kvs : List (List L2.Key × V)} {kks : List (L2.Key × V)} {ns : List Int} {n : Int} {op : Operator} {x : Str}
theorem foot_vol {a : Addr} {φ : HO → Prop} : foot (.vol a φ) = [a] := by unfold foot; rfl
theorem Step.newVol {K : PySem.W.Frag} {G H G1 H1 : Hp} {σ : L2.St} {δ1 : En} {q : Addr} {ho : HO} {φ : HO → Prop} (s : Step K G H δ G1 H1 σ δ1) (n : H1 q = none) (hφ : φ ho) :
    Step K G H δ G1 (upd H1 q ho) (some (.ref q) :: σ) (some (.vol q φ) :: δ1) := by
  have gp : G1 q = none := g_none s.st.ex n
  have np : q ∉ feet δ1 := fun z => (s.st.off q z).2 n
  have s2 : Stt K G1 (upd H1 q ho) σ δ1 := s.st.keep (Same.refl _) (s.st.ex.trans (new_h n)) (fun a ha o ho => new_h n a o ho) fun a ha => (s.st.off a ha).1
  refine s.trans ⟨s2.push ?_ ?_ fun a ha => ?_, grow_same (Same.refl _) (new_h n) (fun _ h => .inl h), fun a ha => ?_⟩
  · unfold RepO
    exact ⟨rfl, ho, upd_same, hφ⟩
  · rw [foot_vol]
    simp
  · rw [foot_vol] at ha
    simp at ha
    subst ha
    exact ⟨gp, by rw [upd_same]; simp, np⟩
  · unfold feet at ha
    rw [foot_vol] at ha
    simp at ha
    rcases ha with h | h
    · subst h; exact .inr n
    · exact .inl h
theorem ev_dnewT (q : ∀ a, Q (dcT a []) δ) : Ev X (.Dict [] [] pos) δ Q := fun G H σ s => wE_of pe_dnewT fun p n => ⟨_, G, δ, s.step.newVol (φ := fun o => o = .dT []) n rfl, q p⟩
theorem ev_dnewK (q : ∀ a, Q (dcK a []) δ) : Ev X (.Dict [] [] pos) δ Q := fun G H σ s => wE_of pe_dnewK fun p n => ⟨_, G, δ, s.step.newVol (φ := fun o => o = .dK []) n rfl, q p⟩
theorem sub_vol (i : Nat) {φ : HO → Prop} (hN : X.N[i]? = some nm) (hv : Vis X.env.scope nm) (hx : δ[i]? = some (some (.vol l φ))) (hd : (nm == ("__debug__" : Str)) = false := by decide) (hcd : (nm == ("__classdict__" : Str)) = false := by decide) : Sub X (.Name nm p) δ l := fun G H σ s => by
  obtain ⟨u, hu, r⟩ := s.rep i _ hx
  unfold RepO at r
  exact wE_of (pe_var hN hv hd hcd) ⟨u, hu, r.1, s.step⟩
theorem vol_at {K : PySem.W.Frag} {G H : Hp} {σ : L2.St} {i : Nat} {φ : HO → Prop} (s : Stt K G H σ δ) (hx : δ[i]? = some (some (.vol l φ))) : σ[i]? = some (some (.ref l)) ∧ ∃ o, H l = some o ∧ φ o := by
  obtain ⟨u, hu, r⟩ := s.rep i _ hx
  unfold RepO at r
  exact ⟨by rw [hu, r.1], r.2⟩
theorem rep_tk {K : PySem.W.Frag} {G : Hp} : ∀ {ns : List Int} {ws : List V}, Reps K G (ns.map D.int) ws → ws = (tk ns).map kV
  | [], ws, h => by unfold Reps at h; exact h
  | n :: ns, ws, h => by
    unfold Reps at h
    obtain ⟨v, r, rfl, h1, h2⟩ := h
    unfold Rep at h1
    rw [h1, rep_tk h2]
    rfl
theorem rep_tup {K : PySem.W.Frag} {G : Hp} {v : V} (h : Rep K G (.tup (ns.map D.int)) v) : ∃ b, v = .ref b ∧ G b = some (.tup ((tk ns).map kV)) := by
  unfold Rep at h
  obtain ⟨b, ws, e1, g, r⟩ := h
  exact ⟨b, e1, by rw [g, rep_tk r]⟩
/-! key (not) in d, as a test -/
theorem et_dnotT (i : Nat) (hu : X.A.units + 64 < cLine) (hk : Ed X k δ (.fz (.tup (ns.map .int)))) (ho : Sub X o δ l) (hx : δ[i]? = some (some (dcT l kvs))) (hm : behindInMarks .NotIn o = false := by first | exact nobehind _ (by decide) (by decide) | rfl) :
    Edt X (.Compare k [.NotIn] [o] pos) δ (!(valV kvs (tk ns)).isSome) := fun G H σ s =>
  wT_of (pt_cmp (pc_dnotin (by omega) wE_pe wE_pe) hm) ((hk G H σ s).imp fun v H1 ⟨y, G1, d1, s1, e1, e2⟩ => by
    subst e1; subst e2
    refine (ho G1 H1 σ s1.st.pop).imp fun u H2 ⟨e3, s2⟩ => ?_
    subst e3
    obtain ⟨b, rfl, gb⟩ := rep_tup (Rep.mono s2.gr.g _ _ (top_fz s1.st rfl))
    obtain ⟨_, ob, hob, rfl⟩ := vol_at s2.st hx
    exact ⟨l, _, rfl, DGet.t hob (s2.st.ex _ _ gb), _, rfl, G2_ok (s1.pop.trans s2)⟩)
where
  G2_ok {K : PySem.W.Frag} {G H G2 H2 : Hp} {σ : L2.St} {δ : En} {b : Bool} (s : Step K G H δ G2 H2 σ δ) : PostB K G H σ δ (fun r δ' => r = b ∧ δ' = δ) b H2 := ⟨G2, δ, s, rfl, rfl⟩
theorem et_dinT (i : Nat) (hu : X.A.units + 64 < cLine) (hk : Ed X k δ (.fz (.tup (ns.map .int)))) (ho : Sub X o δ l) (hx : δ[i]? = some (some (dcT l kvs))) (hm : behindInMarks .In o = false := by first | exact nobehind _ (by decide) (by decide) | rfl) :
    Edt X (.Compare k [.In] [o] pos) δ (valV kvs (tk ns)).isSome := fun G H σ s =>
  wT_of (pt_cmp (pc_din (by omega) wE_pe wE_pe) hm) ((hk G H σ s).imp fun v H1 ⟨y, G1, d1, s1, e1, e2⟩ => by
    subst e1; subst e2
    refine (ho G1 H1 σ s1.st.pop).imp fun u H2 ⟨e3, s2⟩ => ?_
    subst e3
    obtain ⟨b, rfl, gb⟩ := rep_tup (Rep.mono s2.gr.g _ _ (top_fz s1.st rfl))
    obtain ⟨_, ob, hob, rfl⟩ := vol_at s2.st hx
    exact ⟨l, _, rfl, DGet.t hob (s2.st.ex _ _ gb), _, rfl, ⟨_, _, s1.pop.trans s2, rfl, rfl⟩⟩)
theorem et_dnotK (i : Nat) (hu : X.A.units + 64 < cLine) (hk : Ed X k δ (.fz (.int n))) (ho : Sub X o δ l) (hx : δ[i]? = some (some (dcK l kks))) (hm : behindInMarks .NotIn o = false := by first | exact nobehind _ (by decide) (by decide) | rfl) :
    Edt X (.Compare k [.NotIn] [o] pos) δ (!(valV kks (.inl n)).isSome) := fun G H σ s =>
  wT_of (pt_cmp (pc_dnotin (by omega) wE_pe wE_pe) hm) ((hk G H σ s).imp fun v H1 ⟨y, G1, d1, s1, e1, e2⟩ => by
    subst e1; subst e2
    refine (ho G1 H1 σ s1.st.pop).imp fun u H2 ⟨e3, s2⟩ => ?_
    subst e3
    have r := top_fz s1.st rfl
    unfold Rep at r
    subst r
    obtain ⟨_, ob, hob, rfl⟩ := vol_at s2.st hx
    exact ⟨l, _, rfl, DGet.k (k := .inl n) hob, _, rfl, ⟨_, _, s1.pop.trans s2, rfl, rfl⟩⟩)
theorem et_dinK (i : Nat) (hu : X.A.units + 64 < cLine) (hk : Ed X k δ (.fz (.int n))) (ho : Sub X o δ l) (hx : δ[i]? = some (some (dcK l kks))) (hm : behindInMarks .In o = false := by first | exact nobehind _ (by decide) (by decide) | rfl) :
    Edt X (.Compare k [.In] [o] pos) δ (valV kks (.inl n)).isSome := fun G H σ s =>
  wT_of (pt_cmp (pc_din (by omega) wE_pe wE_pe) hm) ((hk G H σ s).imp fun v H1 ⟨y, G1, d1, s1, e1, e2⟩ => by
    subst e1; subst e2
    refine (ho G1 H1 σ s1.st.pop).imp fun u H2 ⟨e3, s2⟩ => ?_
    subst e3
    have r := top_fz s1.st rfl
    unfold Rep at r
    subst r
    obtain ⟨_, ob, hob, rfl⟩ := vol_at s2.st hx
    exact ⟨l, _, rfl, DGet.k (k := .inl n) hob, _, rfl, ⟨_, _, s1.pop.trans s2, rfl, rfl⟩⟩)
/-! d[key] -/
theorem ed_dgetT (i : Nat) {d : D} {v0 : V} (hu : X.A.units + 64 < cLine) (ho : Sub X o δ l) (hk : Ed X k δ (.fz (.tup (ns.map .int)))) (hx : δ[i]? = some (some (dcT l kvs))) (hg : valV kvs (tk ns) = some v0) (hr : ∀ G, Rep X.K G d v0) (hs : NoSl k := by exact fun _ _ => rfl) :
    Ed X (.Subscript o k pos) δ (.fz d) := fun G H σ s =>
  wE_of (pe_dget (by omega) wE_pe wE_pe hs) ((ho G H σ s).imp fun u H1 ⟨e1, s1⟩ => by
    subst e1
    refine (hk G H1 σ s1.st).imp fun v H2 ⟨y, G2, d2, s2, e2, e3⟩ => ?_
    subst e2; subst e3
    obtain ⟨b, rfl, gb⟩ := rep_tup (top_fz s2.st rfl)
    obtain ⟨_, ob, hob, rfl⟩ := vol_at s2.st.pop hx
    refine ⟨l, v0, rfl, ?_, _, G2, _, (s1.trans s2.pop).pushF (hr G2), rfl, rfl⟩
    rw [← hg]
    exact DGet.t hob (s2.st.ex _ _ gb))
theorem ed_dgetK (i : Nat) {d : D} {v0 : V} (hu : X.A.units + 64 < cLine) (ho : Sub X o δ l) (hk : Ed X k δ (.fz (.int n))) (hx : δ[i]? = some (some (dcK l kks))) (hg : valV kks (.inl n) = some v0) (hr : ∀ G, Rep X.K G d v0) (hs : NoSl k := by exact fun _ _ => rfl) :
    Ed X (.Subscript o k pos) δ (.fz d) := fun G H σ s =>
  wE_of (pe_dget (by omega) wE_pe wE_pe hs) ((ho G H σ s).imp fun u H1 ⟨e1, s1⟩ => by
    subst e1
    refine (hk G H1 σ s1.st).imp fun v H2 ⟨y, G2, d2, s2, e2, e3⟩ => ?_
    subst e2; subst e3
    have r := top_fz s2.st rfl
    unfold Rep at r
    subst r
    obtain ⟨_, ob, hob, rfl⟩ := vol_at s2.st.pop hx
    refine ⟨l, v0, rfl, ?_, _, G2, _, (s1.trans s2.pop).pushF (hr G2), rfl, rfl⟩
    rw [← hg]
    exact DGet.k (k := .inl n) hob)
/-! d[key] = value -/
theorem Step.volPut {K : PySem.W.Frag} {G H : Hp} {σ : L2.St} {i : Nat} {v : V} {d : D} {ho : HO} {φ : HO → Prop} {ψ : HO → Prop} (s : Stt K G H (some v :: σ) (some (.fz d) :: δ)) (hx : δ[i]? = some (some (.vol l φ))) (hψ : ψ ho) :
    Step K G H (some (.fz d) :: δ) G (upd H l ho) σ (δ.set i (some (.vol l ψ))) := by
  refine Step.put s hx (vol_at s.pop hx).1 (by rw [foot_vol]; simp) (by rw [foot_vol]; simp) (fun b hb => by rw [foot_vol] at hb ⊢; exact .inl hb) ?_
  unfold RepO
  exact ⟨rfl, ho, upd_same, hψ⟩
theorem es_dputT (i : Nat) {v0 : V} (hu : X.A.units + 64 < cLine) (h : Ev X value δ fun z δ1 => ∃ d, z = .fz d ∧ (∀ G v, Rep X.K G d v → v = v0) ∧ δ1[i]? = some (some (dcT l kvs)) ∧ Sub X o δ1 l ∧ Ed X k δ1 (.fz (.tup (ns.map .int))) ∧ kvs.length < 16777216 ∧ P.nx (δ1.set i (some (dcT l (putK kvs (tk ns) v0)))))
    (hs : swapsWith value (some (.Subscript o k p)) pos.line X.env = pure false := by rfl) : Es X (.Assign [.Subscript o k p] value pos) δ P := fun G H σ s =>
  wS_of (ps_dput (by omega) wE_pe wE_pe wE_pe hs) ((h G H σ s).imp fun v H1 ⟨z, G1, d1, s1, d, e1, hv, hx, ho, hk, hl, q⟩ => by
    subst e1
    have ev := hv _ _ (top_fz s1.st rfl)
    subst ev
    refine (ho G1 H1 σ s1.st.pop).imp fun u H2 ⟨e2, s2⟩ => ?_
    subst e2
    refine (hk G1 H2 σ s2.st).imp fun w H3 ⟨y, G3, d3, s3, e3, e4⟩ => ?_
    subst e3; subst e4
    obtain ⟨b, rfl, gb⟩ := rep_tup (top_fz s3.st rfl)
    obtain ⟨_, ob, hob, rfl⟩ := vol_at s3.st.pop hx
    exact ⟨l, _, rfl, DPut.t hob (s3.st.ex _ _ gb) (by rw [sizeLine_eq]; exact hl), G3, _, (s1.pop.trans s2).trans (s3.trans (Step.volPut (ψ := fun o => o = _) s3.st hx rfl)), q⟩)
theorem es_dputK (i : Nat) {v0 : V} (hu : X.A.units + 64 < cLine) (h : Ev X value δ fun z δ1 => ∃ d, z = .fz d ∧ (∀ G v, Rep X.K G d v → v = v0) ∧ δ1[i]? = some (some (dcK l kks)) ∧ Sub X o δ1 l ∧ Ed X k δ1 (.fz (.int n)) ∧ kks.length < 16777216 ∧ P.nx (δ1.set i (some (dcK l (putK kks (.inl n) v0)))))
    (hs : swapsWith value (some (.Subscript o k p)) pos.line X.env = pure false := by rfl) : Es X (.Assign [.Subscript o k p] value pos) δ P := fun G H σ s =>
  wS_of (ps_dput (by omega) wE_pe wE_pe wE_pe hs) ((h G H σ s).imp fun v H1 ⟨z, G1, d1, s1, d, e1, hv, hx, ho, hk, hl, q⟩ => by
    subst e1
    have ev := hv _ _ (top_fz s1.st rfl)
    subst ev
    refine (ho G1 H1 σ s1.st.pop).imp fun u H2 ⟨e2, s2⟩ => ?_
    subst e2
    refine (hk G1 H2 σ s2.st).imp fun w H3 ⟨y, G3, d3, s3, e3, e4⟩ => ?_
    subst e3; subst e4
    have r := top_fz s3.st rfl
    unfold Rep at r
    subst r
    obtain ⟨_, ob, hob, rfl⟩ := vol_at s3.st.pop hx
    exact ⟨l, _, rfl, DPut.k (k := .inl n) hob (by rw [sizeLine_eq]; exact hl), G3, _, (s1.pop.trans s2).trans (s3.trans (Step.volPut (ψ := fun o => o = _) s3.st hx rfl)), q⟩)
/-! ### x op= e, ints -/
theorem ip_mulW : PIp X .Mult (fun x y H Q => ∃ i j, x = .int i ∧ y = .int j ∧ CMulW i j ∧ Q (.int (i * j)) H) := by
  intro pins s σ H x y v u Q I r1 r2 h
  obtain ⟨i, j, e1, e2, hc, q⟩ := h
  subst e1; subst e2
  obtain ⟨t, rfl⟩ := r1
  obtain ⟨t', rfl⟩ := r2
  exact imul_int ⟨.int _, H, I.tok _, ⟨_, rfl⟩, q⟩ hc.ok
theorem es_augI (i : Nat) {ti : TIp} {f : Int → Int → Int} {a b : Int} {C : Prop} (hN : X.N.Nodup) (hi : X.N[i]? = some x) (hx : Loc X.env.scope x) (ho : PIp X op ti) (hti : ∀ H Q, C → Q (.int (f a b)) H → ti (.int a) (.int b) H Q) (hC : C) (hδ : δ[i]? = some (some (.fz (.int a)))) (h : Ed X e δ (.fz (.int b))) (q : P.nx (δ.set i (some (.fz (.int (f a b))))))
    (hf : X.fn x = true ∨ X.env.scope.names.lookup x = some .local := by first | exact .inl rfl | exact .inr rfl | assumption) : Es X (.AugAssign (.Name x p) op e pos) δ P := fun G H σ s => by
  obtain ⟨u, hu, r⟩ := s.rep i _ hδ
  unfold RepO Rep at r
  subst r
  refine wS_of (ps_aug hN hi hx wE_pe ho hf) ⟨_, hu, (h G H σ s).imp fun v H1 ⟨y, G1, d1, s1, e1, e2⟩ => ?_⟩
  subst e1; subst e2
  have r1 := top_fz s1.st rfl
  unfold Rep at r1
  subst r1
  refine hti _ _ hC ⟨G1, _, ?_, q⟩
  have hl : i < d1.length := (List.getElem?_eq_some_iff.mp hδ).1
  exact (s1.pop.pushF (v := .int (f a b)) (d := .int (f a b)) (by unfold Rep; rfl)).set hl
theorem es_aug_add (i : Nat) {a b : Int} (hN : X.N.Nodup) (hi : X.N[i]? = some x) (hx : Loc X.env.scope x) (hδ : δ[i]? = some (some (.fz (.int a)))) (h : Ed X e δ (.fz (.int b))) (q : P.nx (δ.set i (some (.fz (.int (a + b))))))
    (hf : X.fn x = true ∨ X.env.scope.names.lookup x = some .local := by first | exact .inl rfl | exact .inr rfl | assumption) : Es X (.AugAssign (.Name x p) .Add e pos) δ P :=
  es_augI i (f := fun a b => a + b) (C := True) hN hi hx ip_add (fun _ _ _ q => ⟨_, _, rfl, rfl, q⟩) trivial hδ h q hf
theorem es_aug_sub (i : Nat) {a b : Int} (hN : X.N.Nodup) (hi : X.N[i]? = some x) (hx : Loc X.env.scope x) (hδ : δ[i]? = some (some (.fz (.int a)))) (h : Ed X e δ (.fz (.int b))) (q : P.nx (δ.set i (some (.fz (.int (a - b))))))
    (hf : X.fn x = true ∨ X.env.scope.names.lookup x = some .local := by first | exact .inl rfl | exact .inr rfl | assumption) : Es X (.AugAssign (.Name x p) .Sub e pos) δ P :=
  es_augI i (f := fun a b => a - b) (C := True) hN hi hx ip_sub (fun _ _ _ q => ⟨_, _, rfl, rfl, q⟩) trivial hδ h q hf
theorem es_aug_mul (i : Nat) {a b : Int} (hN : X.N.Nodup) (hi : X.N[i]? = some x) (hx : Loc X.env.scope x) (hC : CMulW a b) (hδ : δ[i]? = some (some (.fz (.int a)))) (h : Ed X e δ (.fz (.int b))) (q : P.nx (δ.set i (some (.fz (.int (a * b))))))
    (hf : X.fn x = true ∨ X.env.scope.names.lookup x = some .local := by first | exact .inl rfl | exact .inr rfl | assumption) : Es X (.AugAssign (.Name x p) .Mult e pos) δ P :=
  es_augI i (f := fun a b => a * b) (C := CMulW a b) hN hi hx ip_mulW (fun _ _ c q => ⟨_, _, rfl, rfl, c, q⟩) hC hδ h q hf
theorem cdiv_B {i j : Int} (h0 : 0 < j) (hj : j < 2 ^ 300) : CDivW i j := wide_div (b := 300) h0 (by omega) (by decide) (by decide)
theorem div_B {i j : Int} (h0 : 0 < j) (hj : j < 2 ^ 300) (q : S (.fz (.int (i / j)))) : RD X (binaryOp .FloorDiv) (.fz (.int i)) (.fz (.int j)) S := div_I (cdiv_B h0 hj) q
end
end Vl

namespace Vl
open PySem PySem.Spec PyProof.Rows L2
section
variable {X Y : Cx} {e a b c tg iter tg1 iter1 elt : Expr} {es ts ifs ifs1 : List Expr} {δ : En} {Q : OD → En → Prop} {P : DE} {pos p p2 p3 : Pos} {x y z : Str} {scope : Scope} {S : OD → Prop}
variable {α β : Type} {xs : List α} {inner : α → List β} {g g0 : α → D} {g1 : α → β → D} {h : α → β → D}
theorem dat_olD {a : Addr} {ds : List D} : dat (ol a ds) = .lst ds := by
  unfold dat
  rw [dats_fz]
theorem twoL_all : (xs.flatMap fun z => (inner z).map (h z)) = twoL xs inner (fun _ => true) (fun _ _ => true) h := by
  unfold twoL
  rw [List.filter_eq_self.mpr (by simp)]
  simp only [List.filter_eq_self.mpr (fun _ _ => rfl)]
/-- [elt for x in iter for y in iter1], frozen -/
theorem ed_lc2F (i j : Nat) {px py : Pos} (hc : X.calm = true) (hN : X.N.Nodup) (ok : BlkOk X.N X.env.scope scope [(x, i), (y, j)]) (hl : i < δ.length) (hl2 : j < δ.length) (hx : scope.names.lookup x = some .local) (hy : scope.names.lookup y = some .local) (hij : i ≠ j)
    (hi : Ei X (.Name x px) iter δ fun r δ1 => r = xs.map g ∧ δ1 = δ) (hw : feet (wipeE δ [i, j]) = feet δ) (hwz : ∀ z, feet (((wipeE δ [i, j]).set i (some (.fz (g z))))) = feet δ) (hwz2 : ∀ z, wipeE ((wipeE δ [i, j]).set i (some (.fz (g z)))) [j] = (wipeE δ [i, j]).set i (some (.fz (g z))))
    (hi1 : ∀ z ∈ xs, ∀ Y, Blk X scope Y → Ei Y (.Name y py) iter1 ((wipeE δ [i, j]).set i (some (.fz (g z)))) fun r δ1 => r = (inner z).map (g1 z) ∧ δ1 = (wipeE δ [i, j]).set i (some (.fz (g z))))
    (hz : (xs.flatMap fun z => (inner z).map (h z)).length < 100000)
    (he : ∀ z ∈ xs, ∀ y ∈ inner z, ∀ Y, Blk X scope Y → Ed Y elt (((wipeE δ [i, j]).set i (some (.fz (g z)))).set j (some (.fz (g1 z y)))) (.fz (h z y)))
    (hs : ∀ x, foldedSetIterable iter X.env x = pure x := by intro _; rfl) (hs1 : ∀ env x, foldedSetIterable iter1 env x = pure x := by intro _ _; rfl) :
    Ed X (.ListComp elt [⟨.Name x px, iter, [], 0⟩, ⟨.Name y py, iter1, [], 0⟩] scope pos) δ (.fz (.lst (xs.flatMap fun z => (inner z).map (h z)))) :=
  ev_frz (ed_lc2N i j hc hN ok hl hl2 hx hy hij hi hw hwz hwz2 hi1 he hz (fun l => by rw [dat_olD]; exact ⟨rfl, rfl⟩) hs hs1)
/-- [elt for x, y in iter for z in iter1], frozen -/
theorem ed_lc2P (i j k : Nat) {kk : Nat} {px py pz : Pos} (hc : X.calm = true) (hN : X.N.Nodup) (ok : BlkOk X.N X.env.scope scope [(x, i), (y, j), (z, k)]) (hl : i < δ.length) (hl2 : j < δ.length) (hl3 : k < δ.length) (hx : scope.names.lookup x = some .local) (hy : scope.names.lookup y = some .local) (hzn : scope.names.lookup z = some .local)
    (hi : Ei X (.Tuple [.Name x px, .Name y py] kk p) iter δ fun r δ1 => r = xs.map (fun z => .tup [g z, g0 z]) ∧ δ1 = δ) (hw : feet (wipeE δ [i, j, k]) = feet δ) (hwz : ∀ z, feet (((wipeE δ [i, j, k]).set i (some (.fz (g z)))).set j (some (.fz (g0 z)))) = feet δ)
    (hwz2 : ∀ z, wipeE (((wipeE δ [i, j, k]).set i (some (.fz (g z)))).set j (some (.fz (g0 z)))) [k] = (((wipeE δ [i, j, k]).set i (some (.fz (g z)))).set j (some (.fz (g0 z)))))
    (hi1 : ∀ z0 ∈ xs, ∀ Y, Blk X scope Y → Ei Y (.Name z pz) iter1 (((wipeE δ [i, j, k]).set i (some (.fz (g z0)))).set j (some (.fz (g0 z0)))) fun r δ1 => r = (inner z0).map (g1 z0) ∧ δ1 = ((wipeE δ [i, j, k]).set i (some (.fz (g z0)))).set j (some (.fz (g0 z0))))
    (hz : (xs.flatMap fun z => (inner z).map (h z)).length < 100000)
    (he : ∀ z ∈ xs, ∀ y ∈ inner z, ∀ Y, Blk X scope Y → Ed Y elt ((((wipeE δ [i, j, k]).set i (some (.fz (g z)))).set j (some (.fz (g0 z)))).set k (some (.fz (g1 z y)))) (.fz (h z y)))
    (hs : ∀ x, foldedSetIterable iter X.env x = pure x := by intro _; rfl) (hs1 : ∀ env x, foldedSetIterable iter1 env x = pure x := by intro _ _; rfl) :
    Ed X (.ListComp elt [⟨.Tuple [.Name x px, .Name y py] kk p, iter, [], 0⟩, ⟨.Name z pz, iter1, [], 0⟩] scope pos) δ (.fz (.lst (xs.flatMap fun z => (inner z).map (h z)))) := by
  refine ev_frz ?_
  rw [twoL_all] at hz ⊢
  refine ed_lc2 (own := [(x, i), (y, j), (z, k)]) (vs1 := [k]) (t1 := fun z => ((wipeE δ [i, j, k]).set i (some (.fz (g z)))).set j (some (.fz (g0 z)))) (t2 := fun z w => (((wipeE δ [i, j, k]).set i (some (.fz (g z)))).set j (some (.fz (g0 z)))).set k (some (.fz (g1 z w)))) (k1 := fun _ => true) (k2 := fun _ _ => true) hc hN ok hi hw (by simp) (fun z0 => ?_) (fun z0 w => wipeE_set (by simp)) (fun z0 => by rw [hwz2]) hwz (fun z0 hz Y hY => ?_) (fun z0 hz Y hY => ets_nil ⟨rfl, rfl⟩) (fun z0 hz _ => hi1 z0 hz) (fun z0 hz w hw Y hY => ?_) (fun z0 hz w hw Y hY => ets_nil ⟨rfl, rfl⟩) (fun z0 hz w hw _ _ => he z0 hz w hw) hz (fun l => by rw [dat_olD]; exact ⟨rfl, rfl⟩) hs hs1
  · show wipeE _ [i, j, k] = wipeE δ [i, j, k]
    rw [wipeE_set (by simp), wipeE_set (by simp), wipeE_wipe]
  · exact egb_tup (by exact blk_calm hY hc) (egbs_cons (egb_name i (by rw [blk_N hY]; exact hN) (by rw [blk_N hY]; exact ok.ix (x, i) (by simp)) (.inl (blk_loc hx hY)) (by rw [wipeE_length]; exact hl) (by simp) (egbs_cons (egb_name j (by rw [blk_N hY]; exact hN) (by rw [blk_N hY]; exact ok.ix (y, j) (by simp)) (.inl (blk_loc hy hY)) (by rw [List.length_set, wipeE_length]; exact hl2) (by simp) (egbs_nil rfl) (.inr (blk_loc hy hY)))) (.inr (blk_loc hx hY)))) rfl
  · rw [hwz2]
    exact egb_name k (by rw [blk_N hY]; exact hN) (by rw [blk_N hY]; exact ok.ix (z, k) (by simp)) (.inl (blk_loc hzn hY)) (by rw [List.length_set, List.length_set, wipeE_length]; exact hl3) (by simp) rfl (.inr (blk_loc hzn hY))
/-! ### lists of ints -/
theorem ed_LI {ns : List Int} {as : List AR} (h : Eda X es δ as) (e1 : as = ns.map fun n => .d (.int n)) (hl : ns.length ≤ 100000) : Ed X (.List es pos) δ (.fz (LI ns)) :=
  ed_lst (ds := ns.map .int) h (by rw [e1, List.map_map]; rfl) (by rw [List.length_map]; exact hl)
theorem add_LI {a b : List Int} (hl : a.length + b.length ≤ 100000) (q : S (.fz (LI (a ++ b)))) : RD X (binaryOp .Add) (.fz (LI a)) (.fz (LI b)) S := add_L (by rw [List.length_map, List.length_map]; exact hl) (by unfold LI at q; rw [List.map_append] at q; exact q)
theorem add_LL {a b : List (List Int)} (hl : a.length + b.length ≤ 100000) (q : S (.fz (LL (a ++ b)))) : RD X (binaryOp .Add) (.fz (LL a)) (.fz (LL b)) S := add_L (by rw [List.length_map, List.length_map]; exact hl) (by unfold LL at q; rw [List.map_append] at q; exact q)
theorem flat_one (ns : List Int) : ∀ m, (List.replicate m ns).flatten.map D.int = (List.replicate m (ns.map D.int)).flatten
  | 0 => rfl
  | m + 1 => by rw [List.replicate_succ, List.replicate_succ, List.flatten_cons, List.flatten_cons, List.map_append, flat_one ns m]
theorem mul_LI {ns : List Int} {n : Int} (h1 : -(2 ^ 63) ≤ n) (h2 : n < 2 ^ 63) (hl : ns.length * n.toNat ≤ 100000) (q : S (.fz (LI (List.replicate n.toNat ns).flatten))) : RD X (binaryOp .Mult) (.fz (LI ns)) (.fz (.int n)) S :=
  mul_L h1 h2 (by rw [List.length_map]; exact hl) (by unfold LI at q; rw [flat_one] at q; exact q)
/-- a tuple of ints -/
def TN (ns : List Int) : D := .tup (ns.map .int)
theorem cd_tupleI {ns : List Int} (q : S (.fz (TN ns))) : CD X (.type "tuple") [LI ns] S := cd_tuple q
theorem sl_TN {ns : List Int} {l u : Option Int} (q : S (.fz (TN (cut ns l u)))) : SlD X (.fz (TN ns)) l u S := sl_T (by rw [cutD_map]; exact q)
theorem add_TN {a b : List Int} (hl : a.length + b.length ≤ 100000) (q : S (.fz (TN (a ++ b)))) : RD X (binaryOp .Add) (.fz (TN a)) (.fz (TN b)) S := add_TA (by rw [List.length_map, List.length_map]; exact hl) (by unfold TN at q; rw [List.map_append] at q; exact q)
theorem ed_TN {kk : Nat} {ns : List Int} {as : List AR} (h : Eda X es δ as) (e1 : as = ns.map fun n => .d (.int n)) (hl : ns.length ≤ 100000) : Ed X (.Tuple es kk pos) δ (.fz (TN ns)) :=
  ed_tup (ds := ns.map .int) h (by rw [e1, List.map_map]; rfl) (by rw [List.length_map]; exact hl)
theorem ix_TN {ns : List Int} {i : Int} (h0 : 0 ≤ i) (h1 : i < ns.length) (q : S (.fz (.int (ns.getD i.toNat 0)))) : IxD X (.fz (TN ns)) (.fz (.int i)) S := ix_T (d := .int (ns.getD i.toNat 0)) (by
  unfold atI
  obtain ⟨j, rfl⟩ : ∃ j : Nat, i = j := ⟨i.toNat, by omega⟩
  rw [List.length_map, atN (by omega)]
  show (ns.map D.int)[j]? = some (D.int (ns.getD j 0))
  rw [List.getElem?_map, List.getD_eq_getElem?_getD, List.getElem?_eq_getElem (by omega : j < ns.length)]
  rfl) q
theorem sum_TN (hc : X.calm = true) {ns : List Int} (q : S (.fz (.int ns.sum))) : CD X (.builtin "sum") [TN ns] S := cd_sumT hc q
theorem sum_LI (hc : X.calm = true) {ns : List Int} (q : S (.fz (.int ns.sum))) : CD X (.builtin "sum") [LI ns] S := cd_sum hc q
/-! naturals as ints -/
abbrev up (ls : List Nat) : List Int := ls.map fun (n : Nat) => (n : Int)
theorem up_getD (ls : List Nat) (i : Nat) : (up ls).getD i 0 = (ls.getD i 0 : Nat) := by
  rw [List.getD_eq_getElem?_getD, List.getElem?_map, List.getD_eq_getElem?_getD]
  cases ls[i]? <;> rfl
theorem up_cut (ls : List Nat) (l u : Option Int) : cut (up ls) l u = up (cut ls l u) := by
  unfold cut up
  rw [List.map_take, List.map_drop, List.length_map]
end
end Vl

namespace Vl
open PySem PySem.Spec PyProof.Rows L2
theorem lookup_relabel_cell {env : Env} : ∀ {names : List (Str × NameKind)} {x : Str}, names.lookup x = some .cell →
    (names.map fun (n, k) => if (k == NameKind.free && env.scope.kind == .function && env.kindOf n == some .cell) then (n, NameKind.cell) else (n, k)).lookup x = some .cell
  | [], _, h => by simp at h
  | (n, k) :: r, x, h => by
    have ih := @lookup_relabel_cell env r x
    show List.lookup x ((if (k == NameKind.free && env.scope.kind == .function && env.kindOf n == some .cell) = true then (n, NameKind.cell) else (n, k)) :: _) = _
    cases hx : x == n with
    | true =>
      simp only [List.lookup_cons, hx] at h
      cases h
      simp [List.lookup_cons, hx]
    | false =>
      simp only [List.lookup_cons, hx] at h
      split <;> simpa [List.lookup_cons, hx] using ih h
theorem lookup_relabel_free {env : Env} : ∀ {names : List (Str × NameKind)} {x : Str}, names.lookup x = some .free →
    (names.map fun (n, k) => if (k == NameKind.free && env.scope.kind == .function && env.kindOf n == some .cell) then (n, NameKind.cell) else (n, k)).lookup x = some .cell ∨
    (names.map fun (n, k) => if (k == NameKind.free && env.scope.kind == .function && env.kindOf n == some .cell) then (n, NameKind.cell) else (n, k)).lookup x = some .free
  | [], _, h => by simp at h
  | (n, k) :: r, x, h => by
    have ih := @lookup_relabel_free env r x
    show List.lookup x ((if (k == NameKind.free && env.scope.kind == .function && env.kindOf n == some .cell) = true then (n, NameKind.cell) else (n, k)) :: _) = _ ∨ List.lookup x ((if (k == NameKind.free && env.scope.kind == .function && env.kindOf n == some .cell) = true then (n, NameKind.cell) else (n, k)) :: _) = _
    cases hx : x == n with
    | true =>
      simp only [List.lookup_cons, hx] at h
      cases h
      split
      · left; simp [List.lookup_cons, hx]
      · right; simp [List.lookup_cons, hx]
    | false =>
      simp only [List.lookup_cons, hx] at h
      split <;> simpa [List.lookup_cons, hx] using ih h
/-- a comprehension within another one: its scope over the outer one as written -/
theorem blkOk_rel {N : List Str} {sc0 scope : Scope} {own : List (Str × Nat)} {env : Env} (h : BlkOk N sc0 scope own) : BlkOk N (relabel sc0 env) scope own :=
  ⟨h.kind, h.uniq, h.ix, fun y hy e => by
    rcases h.free y hy e with q | q
    · exact .inl (lookup_relabel_cell q)
    · exact lookup_relabel_free q, h.own⟩
def Lc (scope : Scope) (x : Str) : Prop := scope.names.lookup x = some .local ∨ scope.names.lookup x = some .cell
section
variable {X Y : Cx} {e a b c tg iter tg1 iter1 elt : Expr} {es ts ifs ifs1 : List Expr} {δ : En} {Q : OD → En → Prop} {P : DE} {pos p p2 p3 : Pos} {x y z : Str} {scope : Scope} {S : OD → Prop}
theorem blk_Lc (h : Lc scope x) (hY : Blk X scope Y) : Loc Y.env.scope x ∧ (Y.fn x = true ∨ Y.env.scope.names.lookup x = some .local) := by
  obtain ⟨s, H, C, cl, fp, rfl⟩ := hY
  rcases h with h | h
  · exact ⟨.inl (lookup_relabel_local h), .inr (lookup_relabel_local h)⟩
  · refine ⟨.inr (lookup_relabel_cell h), .inl ?_⟩
    show (scope.names.lookup x == some .cell) = true
    rw [h]
    rfl
theorem bk1_getc (i : Nat) {d : D} (hY : Blk X scope Y) (hN : X.N.Nodup) (hi : X.N[i]? = some x) (hl : i < δ.length) (hx : Lc scope x) : Egb Y (.Name x p) [i] d (wipeE δ [i]) fun δ2 => δ2 = bk1 δ i d :=
  egb_name i (by rw [blk_N hY]; exact hN) (by rw [blk_N hY]; exact hi) (blk_Lc hx hY).1 (by rw [wipeE_length]; exact hl) (by simp) rfl (blk_Lc hx hY).2
theorem bk2_getc (i j : Nat) {kk : Nat} {px py : Pos} {d1 d2 : D} (hc : X.calm = true) (hY : Blk X scope Y) (hN : X.N.Nodup) (hi : X.N[i]? = some x) (hj : X.N[j]? = some y) (hl : i < δ.length) (hl2 : j < δ.length) (hx : Lc scope x) (hy : Lc scope y) :
    Egb Y (.Tuple [.Name x px, .Name y py] kk p) [i, j] (.tup [d1, d2]) (wipeE δ [i, j]) fun δ2 => δ2 = bk2 δ i j d1 d2 := by
  refine egb_tup (blk_calm hY hc) (egbs_cons (egb_name i (by rw [blk_N hY]; exact hN) (by rw [blk_N hY]; exact hi) (blk_Lc hx hY).1 (by rw [wipeE_length]; exact hl) (by simp) ?_ (blk_Lc hx hY).2)) rfl
  exact egbs_cons (egb_name j (by rw [blk_N hY]; exact hN) (by rw [blk_N hY]; exact hj) (blk_Lc hy hY).1 (by rw [List.length_set, wipeE_length]; exact hl2) (by simp) (egbs_nil rfl) (blk_Lc hy hY).2)
variable {α : Type} {xs : List α} {g h : α → D} {t : α → Bool}
/-- [elt for x in iter] -/
theorem ed_lcNc (i : Nat) (hc : X.calm = true) (hN : X.N.Nodup) (ok : BlkOk X.N X.env.scope scope [(x, i)]) (hl : i < δ.length) (hx : Lc scope x) (hi : Ei X (.Name x p) iter δ fun r δ1 => r = xs.map g ∧ δ1 = δ) (hz : xs.length ≤ 100000) (hw : feet (wipeE δ [i]) = feet δ)
    (step : ∀ z ∈ xs, ∀ Y, Blk X scope Y → Ed Y elt (bk1 δ i (g z)) (.fz (h z)))
    (hs : ∀ x, foldedSetIterable iter X.env x = pure x := by intro _; rfl) : Ed X (.ListComp elt [⟨.Name x p, iter, [], 0⟩] scope pos) δ (.fz (.lst (xs.map h))) :=
  ed_lcM (own := [(x, i)]) hc hN ok hi hz hw (fun z hz => ⟨_, bk1_wipe, fun Y hY => bk1_getc i hY hN (ok.ix (x, i) (by simp)) hl hx, step z hz⟩) hs
/-- [elt for x in iter if test] -/
theorem ed_lcNFc (i : Nat) (hc : X.calm = true) (hN : X.N.Nodup) (ok : BlkOk X.N X.env.scope scope [(x, i)]) (hl : i < δ.length) (hx : Lc scope x) (hi : Ei X (.Name x p) iter δ fun r δ1 => r = xs.map g ∧ δ1 = δ) (hz : xs.length ≤ 100000) (hw : feet (wipeE δ [i]) = feet δ)
    (test : ∀ z ∈ xs, ∀ Y, Blk X scope Y → Edt Y c (bk1 δ i (g z)) (t z)) (step : ∀ z ∈ xs, t z = true → ∀ Y, Blk X scope Y → Ed Y elt (bk1 δ i (g z)) (.fz (h z)))
    (hs : ∀ x, foldedSetIterable iter X.env x = pure x := by intro _; rfl) : Ed X (.ListComp elt [⟨.Name x p, iter, [c], 0⟩] scope pos) δ (.fz (.lst ((xs.filter t).map h))) :=
  ed_lcF (own := [(x, i)]) hc hN ok hi hz hw (fun z hz => ⟨_, bk1_wipe, fun Y hY => bk1_getc i hY hN (ok.ix (x, i) (by simp)) hl hx, fun Y hY => ets_one (test z hz Y hY), step z hz⟩) hs
variable {g1 g2 : α → D}
/-- [elt for x, y in iter] -/
theorem ed_lcPc (i j : Nat) {kk : Nat} {px py : Pos} (hc : X.calm = true) (hN : X.N.Nodup) (ok : BlkOk X.N X.env.scope scope [(x, i), (y, j)]) (hl : i < δ.length) (hl2 : j < δ.length) (hx : Lc scope x) (hy : Lc scope y)
    (hi : Ei X (.Tuple [.Name x px, .Name y py] kk p) iter δ fun r δ1 => r = xs.map (fun z => .tup [g1 z, g2 z]) ∧ δ1 = δ) (hz : xs.length ≤ 100000) (hw : feet (wipeE δ [i, j]) = feet δ)
    (step : ∀ z ∈ xs, ∀ Y, Blk X scope Y → Ed Y elt (bk2 δ i j (g1 z) (g2 z)) (.fz (h z)))
    (hs : ∀ x, foldedSetIterable iter X.env x = pure x := by intro _; rfl) : Ed X (.ListComp elt [⟨.Tuple [.Name x px, .Name y py] kk p, iter, [], 0⟩] scope pos) δ (.fz (.lst (xs.map h))) :=
  ed_lcM (own := [(x, i), (y, j)]) hc hN ok hi hz hw (fun z hz => ⟨_, bk2_wipe, fun Y hY => bk2_getc i j hc hY hN (ok.ix (x, i) (by simp)) (ok.ix (y, j) (by simp)) hl hl2 hx hy, step z hz⟩) hs
theorem ed_lcPFc (i j : Nat) {kk : Nat} {px py : Pos} (hc : X.calm = true) (hN : X.N.Nodup) (ok : BlkOk X.N X.env.scope scope [(x, i), (y, j)]) (hl : i < δ.length) (hl2 : j < δ.length) (hx : Lc scope x) (hy : Lc scope y)
    (hi : Ei X (.Tuple [.Name x px, .Name y py] kk p) iter δ fun r δ1 => r = xs.map (fun z => .tup [g1 z, g2 z]) ∧ δ1 = δ) (hz : xs.length ≤ 100000) (hw : feet (wipeE δ [i, j]) = feet δ)
    (test : ∀ z ∈ xs, ∀ Y, Blk X scope Y → Edt Y c (bk2 δ i j (g1 z) (g2 z)) (t z)) (step : ∀ z ∈ xs, t z = true → ∀ Y, Blk X scope Y → Ed Y elt (bk2 δ i j (g1 z) (g2 z)) (.fz (h z)))
    (hs : ∀ x, foldedSetIterable iter X.env x = pure x := by intro _; rfl) : Ed X (.ListComp elt [⟨.Tuple [.Name x px, .Name y py] kk p, iter, [c], 0⟩] scope pos) δ (.fz (.lst ((xs.filter t).map h))) :=
  ed_lcF (own := [(x, i), (y, j)]) hc hN ok hi hz hw (fun z hz => ⟨_, bk2_wipe, fun Y hY => bk2_getc i j hc hY hN (ok.ix (x, i) (by simp)) (ok.ix (y, j) (by simp)) hl hl2 hx hy, fun Y hY => ets_one (test z hz Y hY), step z hz⟩) hs
end
section
variable {X Y : Cx} {e a b c tg iter tg1 iter1 elt : Expr} {es ts ifs ifs1 : List Expr} {δ : En} {Q : OD → En → Prop} {P : DE} {pos p p2 p3 : Pos} {x y z : Str} {scope : Scope} {S : OD → Prop}
variable {α β : Type} {inner : α → List β} {g g0 : α → D} {g1 : α → β → D} {h : α → β → D} {xs : List α}
/-- [elt for x in iter for y in iter1] -/
theorem ed_lc2Nc (i j : Nat) {px py : Pos} (hc : X.calm = true) (hN : X.N.Nodup) (ok : BlkOk X.N X.env.scope scope [(x, i), (y, j)]) (hl : i < δ.length) (hl2 : j < δ.length) (hx : Lc scope x) (hy : Lc scope y) (hij : i ≠ j)
    (hi : Ei X (.Name x px) iter δ fun r δ1 => r = xs.map g ∧ δ1 = δ) (hw : feet (wipeE δ [i, j]) = feet δ) (hwz : ∀ z, feet (((wipeE δ [i, j]).set i (some (.fz (g z))))) = feet δ) (hwz2 : ∀ z, wipeE ((wipeE δ [i, j]).set i (some (.fz (g z)))) [j] = (wipeE δ [i, j]).set i (some (.fz (g z))))
    (hi1 : ∀ z ∈ xs, ∀ Y, Blk X scope Y → Ei Y (.Name y py) iter1 ((wipeE δ [i, j]).set i (some (.fz (g z)))) fun r δ1 => r = (inner z).map (g1 z) ∧ δ1 = (wipeE δ [i, j]).set i (some (.fz (g z))))
    (he : ∀ z ∈ xs, ∀ y ∈ inner z, ∀ Y, Blk X scope Y → Ed Y elt (((wipeE δ [i, j]).set i (some (.fz (g z)))).set j (some (.fz (g1 z y)))) (.fz (h z y)))
    (hz : (xs.flatMap fun z => (inner z).map (h z)).length < 100000) (q : ∀ l, Q (ol l (xs.flatMap fun z => (inner z).map (h z))) δ) (hs : ∀ x, foldedSetIterable iter X.env x = pure x := by intro _; rfl) (hs1 : ∀ env x, foldedSetIterable iter1 env x = pure x := by intro _ _; rfl) :
    Ev X (.ListComp elt [⟨.Name x px, iter, [], 0⟩, ⟨.Name y py, iter1, [], 0⟩] scope pos) δ Q := by
  have e0 : (xs.flatMap fun z => (inner z).map (h z)) = twoL xs inner (fun _ => true) (fun _ _ => true) h := by
    unfold twoL
    rw [List.filter_eq_self.mpr (by simp)]
    simp only [List.filter_eq_self.mpr (fun _ _ => rfl)]
  rw [e0] at hz q
  refine ed_lc2 (own := [(x, i), (y, j)]) (vs1 := [j]) (t1 := fun z => (wipeE δ [i, j]).set i (some (.fz (g z)))) (t2 := fun z w => ((wipeE δ [i, j]).set i (some (.fz (g z)))).set j (some (.fz (g1 z w)))) (k1 := fun _ => true) (k2 := fun _ _ => true) hc hN ok hi hw (by simp) (fun z => ?_) (fun z w => wipeE_set (by simp)) (fun z => by rw [hwz2]) hwz (fun z hz Y hY => ?_) (fun z hz Y hY => ets_nil ⟨rfl, rfl⟩) (fun z hz _ => hi1 z hz) (fun z hz w hw Y hY => ?_) (fun z hz w hw Y hY => ets_nil ⟨rfl, rfl⟩) (fun z hz w hw _ _ => he z hz w hw) hz q hs hs1
  · show wipeE _ [i, j] = wipeE δ [i, j]
    rw [wipeE_set (by simp), wipeE_wipe]
  · exact egb_name i (by rw [blk_N hY]; exact hN) (by rw [blk_N hY]; exact ok.ix (x, i) (by simp)) (blk_Lc hx hY).1 (by rw [wipeE_length]; exact hl) (by simp) rfl (blk_Lc hx hY).2
  · rw [hwz2]
    exact egb_name j (by rw [blk_N hY]; exact hN) (by rw [blk_N hY]; exact ok.ix (y, j) (by simp)) (blk_Lc hy hY).1 (by rw [List.length_set, wipeE_length]; exact hl2) (by simp) rfl (blk_Lc hy hY).2
/-- [elt for x in iter for y in iter1], frozen -/
theorem ed_lc2Fc (i j : Nat) {px py : Pos} (hc : X.calm = true) (hN : X.N.Nodup) (ok : BlkOk X.N X.env.scope scope [(x, i), (y, j)]) (hl : i < δ.length) (hl2 : j < δ.length) (hx : Lc scope x) (hy : Lc scope y) (hij : i ≠ j)
    (hi : Ei X (.Name x px) iter δ fun r δ1 => r = xs.map g ∧ δ1 = δ) (hw : feet (wipeE δ [i, j]) = feet δ) (hwz : ∀ z, feet (((wipeE δ [i, j]).set i (some (.fz (g z))))) = feet δ) (hwz2 : ∀ z, wipeE ((wipeE δ [i, j]).set i (some (.fz (g z)))) [j] = (wipeE δ [i, j]).set i (some (.fz (g z))))
    (hi1 : ∀ z ∈ xs, ∀ Y, Blk X scope Y → Ei Y (.Name y py) iter1 ((wipeE δ [i, j]).set i (some (.fz (g z)))) fun r δ1 => r = (inner z).map (g1 z) ∧ δ1 = (wipeE δ [i, j]).set i (some (.fz (g z))))
    (hz : (xs.flatMap fun z => (inner z).map (h z)).length < 100000)
    (he : ∀ z ∈ xs, ∀ y ∈ inner z, ∀ Y, Blk X scope Y → Ed Y elt (((wipeE δ [i, j]).set i (some (.fz (g z)))).set j (some (.fz (g1 z y)))) (.fz (h z y)))
    (hs : ∀ x, foldedSetIterable iter X.env x = pure x := by intro _; rfl) (hs1 : ∀ env x, foldedSetIterable iter1 env x = pure x := by intro _ _; rfl) :
    Ed X (.ListComp elt [⟨.Name x px, iter, [], 0⟩, ⟨.Name y py, iter1, [], 0⟩] scope pos) δ (.fz (.lst (xs.flatMap fun z => (inner z).map (h z)))) :=
  ev_frz (ed_lc2Nc i j hc hN ok hl hl2 hx hy hij hi hw hwz hwz2 hi1 he hz (fun l => by rw [dat_olD]; exact ⟨rfl, rfl⟩) hs hs1)
/-- [elt for x, y in iter for z in iter1], frozen -/
theorem ed_lc2Pc (i j k : Nat) {kk : Nat} {px py pz : Pos} (hc : X.calm = true) (hN : X.N.Nodup) (ok : BlkOk X.N X.env.scope scope [(x, i), (y, j), (z, k)]) (hl : i < δ.length) (hl2 : j < δ.length) (hl3 : k < δ.length) (hx : Lc scope x) (hy : Lc scope y) (hzn : Lc scope z)
    (hi : Ei X (.Tuple [.Name x px, .Name y py] kk p) iter δ fun r δ1 => r = xs.map (fun z => .tup [g z, g0 z]) ∧ δ1 = δ) (hw : feet (wipeE δ [i, j, k]) = feet δ) (hwz : ∀ z, feet (((wipeE δ [i, j, k]).set i (some (.fz (g z)))).set j (some (.fz (g0 z)))) = feet δ)
    (hwz2 : ∀ z, wipeE (((wipeE δ [i, j, k]).set i (some (.fz (g z)))).set j (some (.fz (g0 z)))) [k] = (((wipeE δ [i, j, k]).set i (some (.fz (g z)))).set j (some (.fz (g0 z)))))
    (hi1 : ∀ z0 ∈ xs, ∀ Y, Blk X scope Y → Ei Y (.Name z pz) iter1 (((wipeE δ [i, j, k]).set i (some (.fz (g z0)))).set j (some (.fz (g0 z0)))) fun r δ1 => r = (inner z0).map (g1 z0) ∧ δ1 = ((wipeE δ [i, j, k]).set i (some (.fz (g z0)))).set j (some (.fz (g0 z0))))
    (hz : (xs.flatMap fun z => (inner z).map (h z)).length < 100000)
    (he : ∀ z ∈ xs, ∀ y ∈ inner z, ∀ Y, Blk X scope Y → Ed Y elt ((((wipeE δ [i, j, k]).set i (some (.fz (g z)))).set j (some (.fz (g0 z)))).set k (some (.fz (g1 z y)))) (.fz (h z y)))
    (hs : ∀ x, foldedSetIterable iter X.env x = pure x := by intro _; rfl) (hs1 : ∀ env x, foldedSetIterable iter1 env x = pure x := by intro _ _; rfl) :
    Ed X (.ListComp elt [⟨.Tuple [.Name x px, .Name y py] kk p, iter, [], 0⟩, ⟨.Name z pz, iter1, [], 0⟩] scope pos) δ (.fz (.lst (xs.flatMap fun z => (inner z).map (h z)))) := by
  refine ev_frz ?_
  rw [twoL_all] at hz ⊢
  refine ed_lc2 (own := [(x, i), (y, j), (z, k)]) (vs1 := [k]) (t1 := fun z => ((wipeE δ [i, j, k]).set i (some (.fz (g z)))).set j (some (.fz (g0 z)))) (t2 := fun z w => (((wipeE δ [i, j, k]).set i (some (.fz (g z)))).set j (some (.fz (g0 z)))).set k (some (.fz (g1 z w)))) (k1 := fun _ => true) (k2 := fun _ _ => true) hc hN ok hi hw (by simp) (fun z0 => ?_) (fun z0 w => wipeE_set (by simp)) (fun z0 => by rw [hwz2]) hwz (fun z0 hz Y hY => ?_) (fun z0 hz Y hY => ets_nil ⟨rfl, rfl⟩) (fun z0 hz _ => hi1 z0 hz) (fun z0 hz w hw Y hY => ?_) (fun z0 hz w hw Y hY => ets_nil ⟨rfl, rfl⟩) (fun z0 hz w hw _ _ => he z0 hz w hw) hz (fun l => by rw [dat_olD]; exact ⟨rfl, rfl⟩) hs hs1
  · show wipeE _ [i, j, k] = wipeE δ [i, j, k]
    rw [wipeE_set (by simp), wipeE_set (by simp), wipeE_wipe]
  · exact egb_tup (by exact blk_calm hY hc) (egbs_cons (egb_name i (by rw [blk_N hY]; exact hN) (by rw [blk_N hY]; exact ok.ix (x, i) (by simp)) (blk_Lc hx hY).1 (by rw [wipeE_length]; exact hl) (by simp) (egbs_cons (egb_name j (by rw [blk_N hY]; exact hN) (by rw [blk_N hY]; exact ok.ix (y, j) (by simp)) (blk_Lc hy hY).1 (by rw [List.length_set, wipeE_length]; exact hl2) (by simp) (egbs_nil rfl) (blk_Lc hy hY).2)) (blk_Lc hx hY).2)) rfl
  · rw [hwz2]
    exact egb_name k (by rw [blk_N hY]; exact hN) (by rw [blk_N hY]; exact ok.ix (z, k) (by simp)) (blk_Lc hzn hY).1 (by rw [List.length_set, List.length_set, wipeE_length]; exact hl3) (by simp) rfl (blk_Lc hzn hY).2

/-- enumerate(xs, k) item by item -/
theorem enD_rng {α : Type} {f : α → D} {xs : List α} {k : Nat} (dflt : α) : enD k (xs.map f) = (List.range xs.length).map fun i => D.tup [.int ((i + k : Nat) : Int), f (xs.getD i dflt)] := by
  unfold enD
  refine List.ext_getElem (by simp) fun i h1 h2 => ?_
  simp at h1
  simp [h1]
theorem enD_rI {xs : List Int} {k : Nat} : enD k (xs.map D.int) = (List.range xs.length).map fun i => D.tup [.int ((i + k : Nat) : Int), .int (xs.getD i 0)] := enD_rng 0
theorem enD_rL {xs : List (List Int)} {k : Nat} : enD k (xs.map LI) = (List.range xs.length).map fun i => D.tup [.int ((i + k : Nat) : Int), LI (xs.getD i [])] := enD_rng []
end
end Vl

namespace Vl
open PySem PySem.Spec PyProof.Rows L2
section
variable {X : Cx} {e a b c tg iter elt : Expr} {es ts ifs : List Expr} {sts : List Stmt} {δ : En} {pos p p2 p3 : Pos} {x y : Str} {scope : Scope} {own : List (Str × Nat)} {S : OD → Prop} {Q : Addr → List D → En → Prop} {P : DE}
/-- what a comprehension owes, item by item -/
theorem lcok {ds : List D} (f : Nat → Option D) (ok : BlkOk X.N X.env.scope scope own) (hi : Ei X tg iter δ fun r δ1 => r = ds ∧ δ1 = δ) (hz : ds.length ≤ 100000) (hw : feet (wipeE δ (own.map (·.2))) = feet δ)
    (step : ∀ i d, ds[i]? = some d → ∃ t : En, wipeE t (own.map (·.2)) = wipeE δ (own.map (·.2)) ∧ (∀ Y, Blk X scope Y → Egb Y tg (own.map (·.2)) d (wipeE δ (own.map (·.2))) fun δ2 => δ2 = t) ∧
      ∃ k : Bool, (∀ Y, Blk X scope Y → Ets Y ifs t fun r δ' => r = k ∧ δ' = t) ∧ (k = false → f i = none) ∧ (k = true → ∃ d', f i = some d' ∧ ∀ Y, Blk X scope Y → Ed Y elt t (.fz d')))
    (q : ∀ l, Q l ((List.range ds.length).filterMap f) δ) : LcOk X elt tg iter ifs scope own δ Q :=
  ⟨ok, ds, fun i acc δ1 => δ1 = δ ∧ acc = (List.range i).filterMap f, hi.imp fun r δ1 ⟨e1, e2⟩ => ⟨e1, e2, rfl⟩, hz, fun i d acc δ1 hd ⟨e1, e2⟩ => by
    subst e1
    obtain ⟨t, h1, h2, k, h3, h4, h5⟩ := step i d hd
    refine ⟨hw, t, h1, h2, k, h3, fun q => ⟨rfl, ?_⟩, fun q => ?_⟩
    · rw [List.range_succ, List.filterMap_append, ← e2]
      simp [h4 q]
    · obtain ⟨d', h6, h7⟩ := h5 q
      refine ⟨δ1, hw, rfl, fun _ _ => rfl, fun Y hY => (h7 Y hY).use ⟨h1, d', rfl, rfl, ?_⟩⟩
      rw [List.range_succ, List.filterMap_append, ← e2]
      simp [h6], fun l acc δ1 ⟨e1, e2⟩ => by subst e1; subst e2; exact q l⟩
variable {α : Type} {xs : List α} {g h g1 g2 : α → D} {t : α → Bool}
theorem lcokM (ok : BlkOk X.N X.env.scope scope own) (hi : Ei X tg iter δ fun r δ1 => r = xs.map g ∧ δ1 = δ) (hz : xs.length ≤ 100000) (hw : feet (wipeE δ (own.map (·.2))) = feet δ)
    (step : ∀ x ∈ xs, ∃ t : En, wipeE t (own.map (·.2)) = wipeE δ (own.map (·.2)) ∧ (∀ Y, Blk X scope Y → Egb Y tg (own.map (·.2)) (g x) (wipeE δ (own.map (·.2))) fun δ2 => δ2 = t) ∧ ∀ Y, Blk X scope Y → Ed Y elt t (.fz (h x)))
    (q : ∀ l, Q l (xs.map h) δ) : LcOk X elt tg iter [] scope own δ Q := by
  refine lcok (ifs := []) (elt := elt) (fun i => (xs[i]?).map h) ok hi (by rw [List.length_map]; exact hz) hw (fun i d hd => ?_) fun l => ?_
  · rw [List.getElem?_map] at hd
    cases e1 : xs[i]? with
    | none => rw [e1] at hd; cases hd
    | some z =>
      rw [e1] at hd
      simp at hd
      subst hd
      obtain ⟨t, h1, h2, h3⟩ := step z (List.mem_of_getElem? e1)
      exact ⟨t, h1, h2, true, fun Y hY => ets_nil ⟨rfl, rfl⟩, by simp, fun _ => ⟨h z, rfl, h3⟩⟩
  · rw [List.length_map, range_map_getD xs h _ (Nat.le_refl _), List.take_length]
    exact q l
theorem lcokF (ok : BlkOk X.N X.env.scope scope own) (hi : Ei X tg iter δ fun r δ1 => r = xs.map g ∧ δ1 = δ) (hz : xs.length ≤ 100000) (hw : feet (wipeE δ (own.map (·.2))) = feet δ)
    (step : ∀ x ∈ xs, ∃ u : En, wipeE u (own.map (·.2)) = wipeE δ (own.map (·.2)) ∧ (∀ Y, Blk X scope Y → Egb Y tg (own.map (·.2)) (g x) (wipeE δ (own.map (·.2))) fun δ2 => δ2 = u) ∧ (∀ Y, Blk X scope Y → Ets Y ifs u fun r δ' => r = t x ∧ δ' = u) ∧ (t x = true → ∀ Y, Blk X scope Y → Ed Y elt u (.fz (h x))))
    (q : ∀ l, Q l ((xs.filter t).map h) δ) : LcOk X elt tg iter ifs scope own δ Q := by
  refine lcok (ifs := ifs) (elt := elt) (fun i => (xs[i]?).bind fun x => if t x then some (h x) else none) ok hi (by rw [List.length_map]; exact hz) hw (fun i d hd => ?_) fun l => ?_
  · rw [List.getElem?_map] at hd
    cases e1 : xs[i]? with
    | none => rw [e1] at hd; cases hd
    | some z =>
      rw [e1] at hd
      simp at hd
      subst hd
      obtain ⟨u, h1, h2, h3, h4⟩ := step z (List.mem_of_getElem? e1)
      exact ⟨u, h1, h2, t z, h3, fun q => by simp [q], fun q => ⟨h z, by simp [q], h4 q⟩⟩
  · rw [List.length_map, range_filter_getD xs t h _ (Nat.le_refl _), List.take_length]
    exact q l
theorem lcokN (i : Nat) (hN : X.N.Nodup) (ok : BlkOk X.N X.env.scope scope [(x, i)]) (hl : i < δ.length) (hx : Lc scope x) (hi : Ei X (.Name x p) iter δ fun r δ1 => r = xs.map g ∧ δ1 = δ) (hz : xs.length ≤ 100000) (hw : feet (wipeE δ [i]) = feet δ)
    (step : ∀ z ∈ xs, ∀ Y, Blk X scope Y → Ed Y elt (bk1 δ i (g z)) (.fz (h z))) (q : ∀ l, Q l (xs.map h) δ) : LcOk X elt (.Name x p) iter [] scope [(x, i)] δ Q :=
  lcokM (own := [(x, i)]) ok hi hz hw (fun z hz => ⟨_, bk1_wipe, fun Y hY => bk1_getc i hY hN (ok.ix (x, i) (by simp)) hl hx, step z hz⟩) q
theorem lcokNF (i : Nat) (hN : X.N.Nodup) (ok : BlkOk X.N X.env.scope scope [(x, i)]) (hl : i < δ.length) (hx : Lc scope x) (hi : Ei X (.Name x p) iter δ fun r δ1 => r = xs.map g ∧ δ1 = δ) (hz : xs.length ≤ 100000) (hw : feet (wipeE δ [i]) = feet δ)
    (test : ∀ z ∈ xs, ∀ Y, Blk X scope Y → Edt Y c (bk1 δ i (g z)) (t z)) (step : ∀ z ∈ xs, t z = true → ∀ Y, Blk X scope Y → Ed Y elt (bk1 δ i (g z)) (.fz (h z))) (q : ∀ l, Q l ((xs.filter t).map h) δ) : LcOk X elt (.Name x p) iter [c] scope [(x, i)] δ Q :=
  lcokF (own := [(x, i)]) ok hi hz hw (fun z hz => ⟨_, bk1_wipe, fun Y hY => bk1_getc i hY hN (ok.ix (x, i) (by simp)) hl hx, fun Y hY => ets_one (test z hz Y hY), step z hz⟩) q
theorem lcokP (i j : Nat) {kk : Nat} {px py : Pos} (hc : X.calm = true) (hN : X.N.Nodup) (ok : BlkOk X.N X.env.scope scope [(x, i), (y, j)]) (hl : i < δ.length) (hl2 : j < δ.length) (hx : Lc scope x) (hy : Lc scope y)
    (hi : Ei X (.Tuple [.Name x px, .Name y py] kk p) iter δ fun r δ1 => r = xs.map (fun z => .tup [g1 z, g2 z]) ∧ δ1 = δ) (hz : xs.length ≤ 100000) (hw : feet (wipeE δ [i, j]) = feet δ)
    (step : ∀ z ∈ xs, ∀ Y, Blk X scope Y → Ed Y elt (bk2 δ i j (g1 z) (g2 z)) (.fz (h z))) (q : ∀ l, Q l (xs.map h) δ) : LcOk X elt (.Tuple [.Name x px, .Name y py] kk p) iter [] scope [(x, i), (y, j)] δ Q :=
  lcokM (own := [(x, i), (y, j)]) ok hi hz hw (fun z hz => ⟨_, bk2_wipe, fun Y hY => bk2_getc i j hc hY hN (ok.ix (x, i) (by simp)) (ok.ix (y, j) (by simp)) hl hl2 hx hy, step z hz⟩) q
theorem lcokPF (i j : Nat) {kk : Nat} {px py : Pos} (hc : X.calm = true) (hN : X.N.Nodup) (ok : BlkOk X.N X.env.scope scope [(x, i), (y, j)]) (hl : i < δ.length) (hl2 : j < δ.length) (hx : Lc scope x) (hy : Lc scope y)
    (hi : Ei X (.Tuple [.Name x px, .Name y py] kk p) iter δ fun r δ1 => r = xs.map (fun z => .tup [g1 z, g2 z]) ∧ δ1 = δ) (hz : xs.length ≤ 100000) (hw : feet (wipeE δ [i, j]) = feet δ)
    (test : ∀ z ∈ xs, ∀ Y, Blk X scope Y → Edt Y c (bk2 δ i j (g1 z) (g2 z)) (t z)) (step : ∀ z ∈ xs, t z = true → ∀ Y, Blk X scope Y → Ed Y elt (bk2 δ i j (g1 z) (g2 z)) (.fz (h z))) (q : ∀ l, Q l ((xs.filter t).map h) δ) : LcOk X elt (.Tuple [.Name x px, .Name y py] kk p) iter [c] scope [(x, i), (y, j)] δ Q :=
  lcokF (own := [(x, i), (y, j)]) ok hi hz hw (fun z hz => ⟨_, bk2_wipe, fun Y hY => bk2_getc i j hc hY hN (ok.ix (x, i) (by simp)) (ok.ix (y, j) (by simp)) hl hl2 hx hy, fun Y hY => ets_one (test z hz Y hY), step z hz⟩) q
theorem eb_frzL (i : Nat) {l : Addr} {ds : List D} (hx : δ[i]? = some (some (ol l ds))) (h : Eb X sts (δ.set i (some (.fz (.lst ds)))) P) : Eb X sts δ P := eb_frz i hx (by rw [dat_olD]; exact h)
end
end Vl

namespace Vl
open PySem PySem.Spec PyProof.Rows L2
section
variable {X Y : Cx} {e a b c tg iter elt : Expr} {es ts ifs : List Expr} {δ : En} {Q : OD → En → Prop} {P : DE} {pos p p2 p3 : Pos} {x y : Str} {scope : Scope} {own : List (Str × Nat)}
variable {α : Type} {xs : List α} {g h g1 g2 : α → D} {t : α → Bool}
theorem lcG_read (R : α → OD → Prop) (hi : Ei X tg iter δ fun r δ1 => r = xs.map g ∧ δ1 = δ) (hz : xs.length ≤ 100000) (hw : feet (wipeE δ (own.map (·.2))) = feet δ)
    (step : ∀ z ∈ xs, ∃ u : En, wipeE u (own.map (·.2)) = wipeE δ (own.map (·.2)) ∧ (∀ Y, Blk X scope Y → Egb Y tg (own.map (·.2)) (g z) (wipeE δ (own.map (·.2))) fun δ2 => δ2 = u) ∧ ∀ Y, Blk X scope Y → Ev Y elt u fun y δ' => wipeE δ' (own.map (·.2)) = wipeE δ (own.map (·.2)) ∧ R z y)
    {G H : Hp} {σ : L2.St} (s : Stt X.K G H σ δ) :
    tLc (wI X tg iter) (gBk X scope tg) (tBk X scope []) (eBk X scope elt) (own.map (·.2)) σ H
      (fun v H' => ∃ l G' ys, v = .ref l ∧ Step X.K G H δ G' H' (some (.ref l) :: σ) (some (.own l ys) :: δ) ∧ Each xs R ys) := by
  refine lcE_run (own := own) (lc_readE (own := own) (fun j y => ∀ z, xs[j]? = some z → R z y) hi (by rw [List.length_map]; exact hz) hw (fun j d hd => ?_) s) fun v H' ⟨l, G', acc, e1, s', hl, hR⟩ => ⟨l, G', acc, e1, s', by rw [hl, List.length_map], fun j z y hz hy => hR j y hy z hz⟩
  rw [List.getElem?_map] at hd
  cases e1 : xs[j]? with
  | none => rw [e1] at hd; cases hd
  | some z =>
    rw [e1] at hd
    simp at hd
    subst hd
    obtain ⟨u, h1, h2, h3⟩ := step z (List.mem_of_getElem? e1)
    refine ⟨u, h1, h2, fun Y hY => (h3 Y hY).imp fun y δ' ⟨q1, q2⟩ => ⟨q1, fun z' hz' => ?_⟩⟩
    cases hz'
    exact q2
theorem ev_lcEG (R : α → OD → Prop) (hc : X.calm = true) (hN : X.N.Nodup) (ok : BlkOk X.N X.env.scope scope own) (hi : Ei X tg iter δ fun r δ1 => r = xs.map g ∧ δ1 = δ) (hz : xs.length ≤ 100000) (hw : feet (wipeE δ (own.map (·.2))) = feet δ)
    (step : ∀ z ∈ xs, ∃ u : En, wipeE u (own.map (·.2)) = wipeE δ (own.map (·.2)) ∧ (∀ Y, Blk X scope Y → Egb Y tg (own.map (·.2)) (g z) (wipeE δ (own.map (·.2))) fun δ2 => δ2 = u) ∧ ∀ Y, Blk X scope Y → Ev Y elt u fun y δ' => wipeE δ' (own.map (·.2)) = wipeE δ (own.map (·.2)) ∧ R z y)
    (q : ∀ l ys, Each xs R ys → Q (.own l ys) δ) (hs : ∀ x, foldedSetIterable iter X.env x = pure x := by intro _; rfl) : Ev X (.ListComp elt [⟨tg, iter, [], 0⟩] scope pos) δ Q := fun G H σ s => by
  have pp := pe_lc (X := X) (elt := elt) (tg := tg) (iter := iter) (ifs := []) (pos := pos) hc hN wI_pi ok gBk_pg tBk_pt eBk_pe hs
  exact wE_of pp (lcE_run (own := own) (lcG_read (own := own) R hi hz hw step s) fun v H' ⟨l, G', ys, e1, s', hE⟩ => by subst e1; exact ⟨_, G', δ, s', q l ys hE⟩)
theorem es_lcEG (R : α → OD → Prop) (j : Nat) {py : Pos} (hc : X.calm = true) (hN : X.N.Nodup) (hy : X.N[j]? = some y) (hyl : X.env.scope.names.lookup y = some .local) (hsw : swapsWith (.ListComp elt [⟨tg, iter, [], 0⟩] scope p2) (some (.Name y py)) pos.line X.env = pure true)
    (ok : BlkOk X.N X.env.scope scope own) (hlj : j < δ.length) (hi : Ei X tg iter δ fun r δ1 => r = xs.map g ∧ δ1 = δ) (hz : xs.length ≤ 100000) (hw : feet (wipeE δ (own.map (·.2))) = feet δ)
    (step : ∀ z ∈ xs, ∃ u : En, wipeE u (own.map (·.2)) = wipeE δ (own.map (·.2)) ∧ (∀ Y, Blk X scope Y → Egb Y tg (own.map (·.2)) (g z) (wipeE δ (own.map (·.2))) fun δ2 => δ2 = u) ∧ ∀ Y, Blk X scope Y → Ev Y elt u fun y δ' => wipeE δ' (own.map (·.2)) = wipeE δ (own.map (·.2)) ∧ R z y)
    (q : ∀ l ys, Each xs R ys → P.nx (δ.set j (some (.own l ys)))) (hs : ∀ x, foldedSetIterable iter X.env x = pure x := by intro _; rfl) : Es X (.Assign [.Name y py] (.ListComp elt [⟨tg, iter, [], 0⟩] scope p2) pos) δ P := fun G H σ s => by
  have pp := ps_setLc (X := X) (elt := elt) (tg := tg) (iter := iter) (ifs := []) (pos := p2) (spos := pos) (i := j) hc hN hy hyl hsw wI_pi ok gBk_pg tBk_pt eBk_pe hs
  exact wS_of pp (lcE_run (own := own) (lcG_read (own := own) R hi hz hw step s) fun v H' ⟨l, G', ys, e1, s', hE⟩ => by subst e1; exact ⟨G', _, s'.set hlj, q l ys hE⟩)
/-- the turns of a comprehension over one name, over two -/
theorem stepN (i : Nat) {R : α → OD → Prop} (hN : X.N.Nodup) (ok : BlkOk X.N X.env.scope scope [(x, i)]) (hl : i < δ.length) (hx : Lc scope x) (step : ∀ z ∈ xs, ∀ Y, Blk X scope Y → Ev Y elt (bk1 δ i (g z)) fun y δ' => wipeE δ' [i] = wipeE δ [i] ∧ R z y) :
    ∀ z ∈ xs, ∃ u : En, wipeE u ([(x, i)].map (·.2)) = wipeE δ ([(x, i)].map (·.2)) ∧ (∀ Y, Blk X scope Y → Egb Y (.Name x p) ([(x, i)].map (·.2)) (g z) (wipeE δ ([(x, i)].map (·.2))) fun δ2 => δ2 = u) ∧ ∀ Y, Blk X scope Y → Ev Y elt u fun y δ' => wipeE δ' ([(x, i)].map (·.2)) = wipeE δ ([(x, i)].map (·.2)) ∧ R z y :=
  fun z hz => ⟨_, bk1_wipe, fun Y hY => bk1_getc i hY hN (ok.ix (x, i) (by simp)) hl hx, step z hz⟩
theorem stepP (i j : Nat) {R : α → OD → Prop} {kk : Nat} {px py : Pos} (hc : X.calm = true) (hN : X.N.Nodup) (ok : BlkOk X.N X.env.scope scope [(x, i), (y, j)]) (hl : i < δ.length) (hl2 : j < δ.length) (hx : Lc scope x) (hy : Lc scope y) (step : ∀ z ∈ xs, ∀ Y, Blk X scope Y → Ev Y elt (bk2 δ i j (g1 z) (g2 z)) fun y δ' => wipeE δ' [i, j] = wipeE δ [i, j] ∧ R z y) :
    ∀ z ∈ xs, ∃ u : En, wipeE u ([(x, i), (y, j)].map (·.2)) = wipeE δ ([(x, i), (y, j)].map (·.2)) ∧ (∀ Y, Blk X scope Y → Egb Y (.Tuple [.Name x px, .Name y py] kk p) ([(x, i), (y, j)].map (·.2)) (.tup [g1 z, g2 z]) (wipeE δ ([(x, i), (y, j)].map (·.2))) fun δ2 => δ2 = u) ∧ ∀ Y, Blk X scope Y → Ev Y elt u fun v δ' => wipeE δ' ([(x, i), (y, j)].map (·.2)) = wipeE δ ([(x, i), (y, j)].map (·.2)) ∧ R z v :=
  fun z hz => ⟨_, bk2_wipe, fun Y hY => bk2_getc i j hc hY hN (ok.ix (x, i) (by simp)) (ok.ix (y, j) (by simp)) hl hl2 hx hy, step z hz⟩
/-- each item a list of its own: rows -/
theorem Each.rows {rows : α → List Int} {ys : List OD} (h : Each xs (fun z y => ∃ a, y = ol a ((rows z).map .int)) ys) : RowsOD ys (xs.map rows) :=
  ⟨by rw [h.1, List.length_map], fun i hi => by
    rw [List.length_map] at hi
    obtain ⟨a, ha⟩ := h.2 i xs[i] (ys[i]'(by rw [h.1]; exact hi)) (by simp [hi]) (by simp [h.1, hi])
    refine ⟨a, ?_⟩
    rw [List.getElem?_eq_getElem (by rw [h.1]; exact hi), ha, List.getD_eq_getElem?_getD, List.getElem?_map, List.getElem?_eq_getElem hi]
    rfl⟩
end
end Vl

namespace Vl
open PySem PySem.Spec PyProof.Rows L2
section
variable {X : Cx} {e o b : Expr} {δ : En} {pos p : Pos} {l l2 : Addr} {x : OD} {ys zs : List OD} {f : List OD → OD}
/-- an own thing within an own thing: where it lies -/
theorem sub_at (i : Nat) {j : Int} {n : Nat} (ho : Sub X o δ l) (hx : δ[i]? = some (some x)) (a : At x l ys f) (hb : Ed X b (thawR δ) (.fz (.int j))) (hj : j = n) (hn : ys[n]? = some (.own l2 zs)) (hs : PlainIx b := by exact fun _ _ => rfl) : Sub X (.Subscript o b pos) δ l2 := fun G H σ s =>
  wE_of (pe_ix ix_list wE_pe wE_pe hs) ((ho G H σ s).imp fun v H1 ⟨e1, s1⟩ => by
    subst e1
    refine (hb H1 H1 σ s1.st.thawR).imp fun w H2 ⟨y, G2, d2, s2, e2, e3⟩ => ?_
    subst e2; subst e3
    have r := top_fz s2.st rfl
    unfold Rep at r
    subst r
    have t := unthawR s1.st s2.pop
    obtain ⟨u, hu, ru⟩ := t.st.rep i x hx
    obtain ⟨vs, hl, rs⟩ := a.read ru
    obtain ⟨w, hw, rw'⟩ := rs.at hn
    unfold RepO at rw'
    refine ⟨l, vs, j, w, rfl, rfl, .of hl, ?_, rw'.1, s1.trans t⟩
    subst hj
    exact atI_nat hw)
end
section
variable {α : Type} {xs : List α}
theorem Each.imp {R R' : α → OD → Prop} {ys : List OD} (h : Each xs R ys) (q : ∀ x ∈ xs, ∀ y, R x y → R' x y) : Each xs R' ys := ⟨h.1, fun i x y hx hy => q x (List.mem_of_getElem? hx) y (h.2 i x y hx hy)⟩
end
end Vl

namespace Vl
open PySem PySem.Spec PyProof.Rows L2
theorem keep_snd {d : D} {y y' : OD} {δ' : En} (h1 : δ'[1]? = some (some y')) (hf : foot y' = foot y) (hn : foot y ≠ []) : KeepA [.fz d, y] [.fz d, y'] δ' := ⟨by simp [hf], fun j x hx => by
  match j, hx with
  | 0, hx =>
    simp at hx
    subst hx
    exact ⟨fun h => absurd (by unfold foot; rfl) h, fun _ => rfl⟩
  | 1, hx =>
    simp at hx
    subst hx
    exact ⟨fun _ => h1, fun h => absurd (hf ▸ h) hn⟩
  | j + 2, hx => simp at hx⟩
theorem tk_inj {ns ms : List Int} (h : tk ns = tk ms) : ns = ms := by
  unfold tk at h
  induction ns generalizing ms with
  | nil => cases ms with
    | nil => rfl
    | cons m ms => simp at h
  | cons n ns ih => cases ms with
    | nil => simp at h
    | cons m ms =>
      simp at h
      rw [h.1, ih h.2]
/-- what a dict of tuples knows: unlike keys, each with what is due -/
def KnT (P : List Int → V → Prop) (kvs : List (List L2.Key × V)) : Prop := (kvs.map (·.1)).Nodup ∧ ∀ p ∈ kvs, ∃ ns, p.1 = tk ns ∧ P ns p.2
theorem KnT.nil {P : List Int → V → Prop} : KnT P [] := ⟨List.nodup_nil, fun _ h => by cases h⟩
theorem KnT.get {P : List Int → V → Prop} {kvs : List (List L2.Key × V)} {ns : List Int} {v : V} (h : KnT P kvs) (hv : valV kvs (tk ns) = some v) : P ns v := by
  unfold valV at hv
  cases e : kvs.find? (fun kv => decide (kv.1 = tk ns)) with
  | none => rw [e] at hv; cases hv
  | some p =>
    rw [e] at hv
    simp at hv
    subst hv
    have h1 := List.find?_some e
    simp at h1
    obtain ⟨ms, h2, h3⟩ := h.2 p (List.mem_of_find?_eq_some e)
    rw [h1] at h2
    rw [tk_inj h2]
    exact h3
theorem KnT.put {P : List Int → V → Prop} {kvs : List (List L2.Key × V)} {ns : List Int} {v : V} (h : KnT P kvs) (hv : P ns v) : KnT P (putK kvs (tk ns) v) := by
  unfold putK
  split
  · refine ⟨?_, fun p hp => ?_⟩
    · rw [List.map_map]
      have : ((fun p : List L2.Key × V => p.1) ∘ fun kv : List L2.Key × V => if kv.1 = tk ns then (kv.1, v) else kv) = fun p => p.1 := by
        funext kv
        simp only [Function.comp]
        split <;> rfl
      rw [this]
      exact h.1
    · obtain ⟨q, hq, rfl⟩ := List.mem_map.mp hp
      split
      · rename_i e
        exact ⟨ns, e, hv⟩
      · exact h.2 q hq
  · rename_i hn
    refine ⟨?_, fun p hp => ?_⟩
    · rw [List.map_append]
      refine List.nodup_append.mpr ⟨h.1, by simp, fun a ha b hb e => hn ?_⟩
      simp at hb
      subst hb
      obtain ⟨p, hp, rfl⟩ := List.mem_map.mp ha
      exact List.any_eq_true.mpr ⟨p, hp, by simpa using e⟩
    · rcases List.mem_append.mp hp with q | q
      · exact h.2 p q
      · simp at q
        subst q
        exact ⟨ns, rfl, hv⟩
theorem KnT.len {P : List Int → V → Prop} {kvs : List (List L2.Key × V)} {L : List (List Int)} (h : KnT P kvs) (hL : ∀ ns v, P ns v → ns ∈ L) : kvs.length ≤ L.length := by
  have nd : ∀ (xs : List (List L2.Key)) (ys : List (List Int)), xs.Nodup → (∀ x ∈ xs, ∃ ns ∈ ys, x = tk ns) → xs.length ≤ ys.length := by
    intro xs
    induction xs with
    | nil => intro ys _ _; exact Nat.zero_le _
    | cons x xs ih =>
      intro ys hn hm
      obtain ⟨h1, h2⟩ := List.nodup_cons.mp hn
      obtain ⟨ns, hns, e⟩ := hm x List.mem_cons_self
      have := ih (ys.erase ns) h2 fun y hy => by
        obtain ⟨ms, hms, e2⟩ := hm y (List.mem_cons_of_mem _ hy)
        refine ⟨ms, (List.mem_erase_of_ne (fun q => h1 ?_)).mpr hms, e2⟩
        rw [e, ← q, ← e2]
        exact hy
      rw [List.length_erase_of_mem hns] at this
      have := List.length_pos_of_mem hns
      rw [List.length_cons]
      omega
  have := nd (kvs.map (·.1)) L h.1 fun x hx => by
    obtain ⟨p, hp, rfl⟩ := List.mem_map.mp hx
    obtain ⟨ns, e, hP⟩ := h.2 p hp
    exact ⟨ns, hL ns _ hP, e⟩
  rw [List.length_map] at this
  exact this
end Vl

namespace Vl
open PySem PySem.Spec PyProof.Rows L2
/-! ### calls whose arguments are fresh things of one's own -/
section
variable {K : PySem.W.Frag} {G H G' H' G0 H0 : Hp} {σ : L2.St} {δ δ0 : En} {v : V} {x : OD}
theorem Stt.mids {xs : List OD} {vs : List V} (hl : xs.length = vs.length) (s : Stt K G H (some v :: (vs.map some ++ σ)) (some x :: (xs.map some ++ δ))) : Stt K G H (some v :: σ) (some x :: δ) := by
  obtain ⟨_, t⟩ := stack_reps hl s.pop
  have nd := s.nd
  rw [feet_some, feet_app] at nd
  refine t.push s.top (List.nodup_append.mp nd).1 fun a ha => ?_
  have o := s.off a (by rw [feet_some]; exact List.mem_append_left _ ha)
  exact ⟨o.1, o.2, fun hc => (List.nodup_append.mp nd).2.2 a ha a (List.mem_append_right _ hc) rfl⟩
theorem Step.mids {xs : List OD} {vs : List V} (hl : xs.length = vs.length) (s : Step K G0 H0 δ0 G H (some v :: (vs.map some ++ σ)) (some x :: (xs.map some ++ δ))) : Step K G0 H0 δ0 G H (some v :: σ) (some x :: δ) :=
  ⟨s.st.mids hl, s.gr, fun a ha => s.ft a (by
    rw [feet_some] at ha
    rw [feet_some, feet_app]
    rcases List.mem_append.mp ha with h | h
    · exact List.mem_append_left _ h
    · exact List.mem_append_right _ (List.mem_append_right _ h))⟩
theorem resolve_rng : ∀ (xs : List OD) (k : Nat) (δ : En), (∀ j (h : j < xs.length), δ[k + j]? = some (some xs[j])) → resolve δ ((List.range' k xs.length).map .s) = some xs
  | [], _, _, _ => rfl
  | x :: xs, k, δ, h => by
    have h0 := h 0 (Nat.succ_pos _)
    have ih := resolve_rng xs (k + 1) δ fun j hj => by
      have := h (j + 1) (by simpa using hj)
      rw [show k + 1 + j = k + (j + 1) by omega]
      exact this
    rw [List.length_cons, List.range'_succ, List.map_cons]
    unfold resolve
    rw [show δ[k]? = some (some x) from h0, ih]
    rfl
theorem upds_rng : ∀ (xs xs' : List OD) (pre δ : En), xs'.length = xs.length → upds (pre ++ (xs.map some ++ δ)) ((List.range' pre.length xs.length).map .s) xs' = pre ++ (xs'.map some ++ δ)
  | [], [], pre, δ, _ => rfl
  | [], _ :: _, _, _, h => by simp at h
  | _ :: _, [], _, _, h => by simp at h
  | x :: xs, x' :: xs', pre, δ, h => by
    rw [List.length_cons, List.range'_succ, List.map_cons]
    show upds ((pre ++ (List.map some (x :: xs) ++ δ)).set pre.length (some x')) ((List.range' (pre.length + 1) xs.length).map .s) xs' = _
    have e : (pre ++ (List.map some (x :: xs) ++ δ)).set pre.length (some x') = (pre ++ [some x']) ++ (xs.map some ++ δ) := by
      rw [List.set_append_right _ _ (Nat.le_refl _), Nat.sub_self]
      simp
    rw [e, show pre.length + 1 = (pre ++ [some x']).length by simp, upds_rng xs xs' (pre ++ [some x']) δ (by simpa using h)]
    simp
theorem repAs_rng {G : Hp} : ∀ (vs : List V) (k : Nat) (σ : L2.St), (∀ j (h : j < vs.length), σ[k + j]? = some (some vs[j])) → RepAs K G σ ((List.range' k vs.length).map .s) vs
  | [], _, _, _ => by unfold RepAs; rfl
  | v :: vs, k, σ, h => by
    rw [List.length_cons, List.range'_succ, List.map_cons]
    unfold RepAs
    refine ⟨v, vs, rfl, h 0 (Nat.succ_pos _), repAs_rng vs (k + 1) σ fun j hj => ?_⟩
    have := h (j + 1) (by simpa using hj)
    rw [show k + 1 + j = k + (j + 1) by omega]
    exact this
end
section
variable {X : Cx} {e : Expr} {es : List Expr} {kws : List Keyword} {δ : En} {Q : OD → En → Prop} {nm : Str} {ps ks : List Str} {C : Con} {k : Nat} {pos p : Pos} {st : Stmt} {as : List AR} {S : OD → Prop}
/-- a call, each argument a fresh thing or data -/
theorem ev_clE (c : Cl X.prog X.w X.K X.mg X.base k nm ps C) (hgd : X.A.guards = some []) (hr : Room k X.A) (hg : Gl X nm) (h : Eo X (e :: es) δ fun xs δ1 => ∃ i, xs = C.args i ∧ C.pre i ∧ ∀ y xs', C.out i y xs' → Q y δ1)
    (hdb : (nm == ("__debug__" : Str)) = false := by decide)
    (he : starEach (e :: es) X.env = (false, eval e X.env) :: starEach es X.env := by rfl) (hpl : (backTo pos (starEach es X.env)).any (·.1) = false := by rfl) : Ev X (.Call (.Name nm p) (e :: es) [] pos) δ Q := by
  obtain ⟨f, fd, F, g, kp, b⟩ := c.ex
  intro G H σ s
  refine .mk fun pins s0 I => ?_
  refine wpAny_Call_Name_kw (ld_glob I hg g ?_ hdb)
  refine PySem.W.callWith_K (h₀ := X.base) I.ok.mod.kin kp (thn ((h G H σ s).run pos pins s0 I) fun us s1 ⟨vs, H1, I1, r1, xs, G1, δ1, hl, t1, i, hx, hp, q⟩ => ⟨I1.kIn, ?_⟩) he hpl
  subst hx
  have rA : RepAs X.K G1 (vs.map some ++ σ) ((List.range' 0 vs.length).map .s) vs := repAs_rng vs 0 _ fun j hj => by
    rw [Nat.zero_add, List.getElem?_append_left (by simpa using hj), List.getElem?_map, List.getElem?_eq_getElem hj]
    rfl
  rw [← hl] at rA
  have hx : resolve ((C.args i).map some ++ δ1) ((List.range' 0 (C.args i).length).map .s) = some (C.args i) := resolve_rng _ 0 _ fun j hj => by
    rw [Nat.zero_add, List.getElem?_append_left (by simpa using hj), List.getElem?_map, List.getElem?_eq_getElem hj]
    rfl
  have nd : (foots (C.args i)).Nodup := by
    have := t1.st.nd
    rw [feet_app] at this
    exact (List.nodup_append.mp this).1
  refine run_G F hgd hr b I1 r1 ⟨G1, i, args_st t1.st rA hx nd, hp, fun v y xs' G' H' t hf ho => ?_⟩
  have hle : xs'.length = (C.args i).length := (map_foot hf).1
  have ab := args_back t1.st rA hx hf t
  have e2 := upds_rng (C.args i) xs' [] δ1 hle
  have e2 : upds ((C.args i).map some ++ δ1) ((List.range' 0 (C.args i).length).map .s) xs' = xs'.map some ++ δ1 := e2
  rw [e2] at ab
  exact ⟨y, G', _, t1.trans (ab.mids (by rw [hle, hl])), q y xs' ho⟩
/-- a call, its answer frozen -/
theorem ed_clG (d : D) (c : Cl X.prog X.w X.K X.mg X.base k nm ps C) (hgd : X.A.guards = some []) (hr : Room k X.A) (hg : Gl X nm) {i : C.ι} {ds : List D} (h : Eda X (e :: es) δ as) (ha : as = ds.map .d) (hi : C.args i = ds.map .fz) (hp : C.pre i) (q : ∀ y xs', C.out i y xs' → dat y = d) (hdb : (nm == ("__debug__" : Str)) = false := by decide)
    (he : starEach (e :: es) X.env = (false, eval e X.env) :: starEach es X.env := by rfl) (hpl : (backTo pos (starEach es X.env)).any (·.1) = false := by rfl) : Ed X (.Call (.Name nm p) (e :: es) [] pos) δ (.fz d) :=
  ev_frz (ev_clD c hgd hr hg h ha hi hp (fun y xs' ho => ⟨by rw [q y xs' ho], rfl⟩) hdb he hpl)
theorem ed_clKG (d : D) (c : ClS X.prog X.w X.K X.mg X.base k nm st ps C) (hgd : X.A.guards = some []) (hr : Room k X.A) (hg : Gl X nm) (idx : List Nat)
    (kb : ∀ f fd, Fun X.K nm nm st f fd → ∀ (s : Shared) (ws : List Value), ws.length = ks.length → BindsTo s fd ⟨[], ks.zip ws⟩ (ps.zip (pick idx ws))) (hix : ∀ i ∈ idx, i < ks.length) {i : C.ι} {ds : List D}
    (h : Edk X kws δ as) (ha : as = ds.map .d) (hl : ds.length = ks.length) (hi : C.args i = (pick idx ds).map .fz) (hp : C.pre i) (q : ∀ y xs', C.out i y xs' → dat y = d)
    (hdb : (nm == ("__debug__" : Str)) = false := by decide) (hall : (backToKw pos (keywordEach kws X.env)).all (·.1.isSome) = true := by rfl) (hks : (backToKw pos (keywordEach kws X.env)).filterMap (·.1) = ks := by rfl)
    (hpl : ((backTo pos (starEach [] X.env)).any (·.1) || (backToKw pos (keywordEach kws X.env)).any (·.1.isNone)) = false := by rfl) : Ed X (.Call (.Name nm p) [] kws pos) δ (.fz d) :=
  ev_frz (ev_clKD c hgd hr hg idx kb hix h ha hl hi hp (fun y xs' o => ⟨by rw [q y xs' o], rfl⟩) hdb hall hks hpl)
theorem ne_LI2 {ns ms : List Int} (hu : X.A.units + 64 < cLine) (q : S (.fz (.bl (!decide (ns = ms))))) : RD X (compareOp .NotEq) (.fz (LI ns)) (.fz (LI ms)) S :=
  ne_D hu (py_LI ns) (py_LI ms) (shaped_ints ns) (shaped_ints ms) (by rw [eqv_ints]; exact q)
end
/-! ### what repr shows -/
theorem shw_lst {ds : List D} : Shw (.lst ds) = Shws ds := by rw [Shw]
theorem shw_tup {ds : List D} : Shw (.tup ds) = Shws ds := by rw [Shw]
theorem shws_cons {d : D} {ds : List D} : Shws (d :: ds) = (Shw d ∧ Shws ds) := by rw [Shws]
theorem shws_nil : Shws [] = True := by rw [Shws]
theorem blk_lst {ds : List D} : blk (.lst ds) = blks ds := by rw [blk]
theorem blk_tup {ds : List D} : blk (.tup ds) = blks ds := by rw [blk]
theorem blks_cons {d : D} {ds : List D} : blks (d :: ds) = blk d + 1 + blks ds := by rw [blks]
theorem blks_nil : blks [] = 0 := by rw [blks]
theorem dep_lst {ds : List D} : dep (.lst ds) = deps ds + 1 := by rw [dep]
theorem dep_tup {ds : List D} : dep (.tup ds) = deps ds + 1 := by rw [dep]
theorem deps_cons {d : D} {ds : List D} : deps (d :: ds) = max (dep d) (deps ds) := by rw [deps]
theorem deps_nil : deps [] = 0 := by rw [deps]
end Vl

namespace Vl
open PySem PySem.Spec PyProof.Rows L2
/-! ### == of nested data -/
/-- things of a type as data that can be compared -/
structure PyT (α : Type) [DecidableEq α] (f : α → D) (k : Nat) where
  p : α → PyData
  py : ∀ a, Vl.py (f a) = some (p a)
  eq : ∀ a b, PyData.eqv (p a) (p b) = decide (a = b)
  lay : ∀ a, (p a).canLay0 = true
  dep : ∀ a, (p a).depth ≤ k
def PyT.int : PyT Int D.int 0 := ⟨.int, fun a => by unfold Vl.py; rfl, fun a b => by
  unfold PyData.eqv
  rw [Bool.eq_iff_iff]
  simp, fun a => by unfold PyData.canLay0; rfl, fun a => by unfold PyData.depth; exact Nat.le_refl _⟩
section
variable {α β : Type} [DecidableEq α] [DecidableEq β] {f : α → D} {g : β → D} {k k2 : Nat}
theorem PyT.pys (T : PyT α f k) : ∀ xs : List α, Vl.pys (xs.map f) = some (xs.map T.p)
  | [] => by unfold List.map Vl.pys; rfl
  | x :: xs => by
    rw [List.map_cons]
    unfold Vl.pys
    rw [PyT.pys T xs, T.py]
    rfl
theorem PyT.eqs (T : PyT α f k) : ∀ xs ys : List α, PyData.eqvAll (xs.map T.p) (ys.map T.p) = decide (xs = ys)
  | [], [] => by unfold List.map PyData.eqvAll; rfl
  | [], _ :: _ => by unfold List.map PyData.eqvAll; rfl
  | _ :: _, [] => by unfold List.map PyData.eqvAll; rfl
  | x :: xs, y :: ys => by
    rw [List.map_cons, List.map_cons]
    unfold PyData.eqvAll
    rw [PyT.eqs T xs ys, T.eq, Bool.eq_iff_iff]
    simp
theorem PyT.lays (T : PyT α f k) : ∀ xs : List α, PyData.canLayAll0 (xs.map T.p) = true ∧ PyData.depthAll (xs.map T.p) ≤ k
  | [] => ⟨by unfold List.map PyData.canLayAll0; rfl, by unfold List.map PyData.depthAll; exact Nat.zero_le _⟩
  | x :: xs => by
    have ih := PyT.lays T xs
    rw [List.map_cons]
    unfold PyData.canLayAll0 PyData.depthAll
    rw [ih.1, T.lay]
    have := T.dep x
    exact ⟨rfl, by omega⟩
def PyT.lst (T : PyT α f k) : PyT (List α) (fun xs => .lst (xs.map f)) (k + 1) := ⟨fun xs => .list (xs.map T.p), fun xs => by
  unfold Vl.py
  rw [T.pys]
  rfl, fun xs ys => by
  unfold PyData.eqv
  exact T.eqs xs ys, fun xs => by unfold PyData.canLay0; exact (T.lays xs).1, fun xs => by
  unfold PyData.depth
  have := (T.lays xs).2
  omega⟩
def PyT.tup (T : PyT α f k) : PyT (List α) (fun xs => .tup (xs.map f)) (k + 1) := ⟨fun xs => .tuple (xs.map T.p), fun xs => by
  unfold Vl.py
  rw [T.pys]
  rfl, fun xs ys => by
  unfold PyData.eqv
  exact T.eqs xs ys, fun xs => by unfold PyData.canLay0; exact (T.lays xs).1, fun xs => by
  unfold PyData.depth
  have := (T.lays xs).2
  omega⟩
/-- a tuple of two things -/
def PyT.two (T : PyT α f k) (U : PyT β g k2) : PyT (α × β) (fun z => .tup [f z.1, g z.2]) (max k k2 + 1) := ⟨fun z => .tuple [T.p z.1, U.p z.2], fun z => by
  unfold Vl.py Vl.pys Vl.pys Vl.pys
  rw [T.py, U.py]
  rfl, fun z w => by
  unfold PyData.eqv PyData.eqvAll PyData.eqvAll PyData.eqvAll
  rw [T.eq, U.eq, Bool.eq_iff_iff]
  obtain ⟨a, b⟩ := z
  obtain ⟨c, d⟩ := w
  simp, fun z => by
  unfold PyData.canLay0 PyData.canLayAll0 PyData.canLayAll0 PyData.canLayAll0
  rw [T.lay, U.lay]
  rfl, fun z => by
  unfold PyData.depth PyData.depthAll PyData.depthAll PyData.depthAll
  have := T.dep z.1
  have := U.dep z.2
  omega⟩
theorem PyT.shaped (T : PyT α f k) (hk : k ≤ 64) (a : α) : SeqAt.shaped (T.p a) = true := by
  unfold SeqAt.shaped
  rw [T.lay, decide_eq_true (Nat.le_trans (T.dep a) hk)]
  rfl
variable {X : Cx} {S : OD → Prop}
theorem PyT.eqR (T : PyT α f k) {a b : α} (hk : k ≤ 64) (hu : X.A.units + 64 < cLine) (q : S (.fz (.bl (decide (a = b))))) : RD X (compareOp .Eq) (.fz (f a)) (.fz (f b)) S :=
  eq_D hu (T.py a) (T.py b) (T.shaped hk a) (T.shaped hk b) (by rw [T.eq]; exact q)
theorem PyT.neR (T : PyT α f k) {a b : α} (hk : k ≤ 64) (hu : X.A.units + 64 < cLine) (q : S (.fz (.bl (!decide (a = b))))) : RD X (compareOp .NotEq) (.fz (f a)) (.fz (f b)) S :=
  ne_D hu (T.py a) (T.py b) (T.shaped hk a) (T.shaped hk b) (by rw [T.eq]; exact q)
end
section
variable {X : Cx} {S : OD → Prop}
def ptLI : PyT (List Int) LI 1 := PyT.int.lst
def ptLL : PyT (List (List Int)) LL 2 := ptLI.lst
def ptTN : PyT (List Int) TN 1 := PyT.int.tup
theorem eq_LL {a b : List (List Int)} (hu : X.A.units + 64 < cLine) (q : S (.fz (.bl (decide (a = b))))) : RD X (compareOp .Eq) (.fz (LL a)) (.fz (LL b)) S := ptLL.eqR (by decide) hu q
theorem ne_LL {a b : List (List Int)} (hu : X.A.units + 64 < cLine) (q : S (.fz (.bl (!decide (a = b))))) : RD X (compareOp .NotEq) (.fz (LL a)) (.fz (LL b)) S := ptLL.neR (by decide) hu q
theorem eq_TN {a b : List Int} (hu : X.A.units + 64 < cLine) (q : S (.fz (.bl (decide (a = b))))) : RD X (compareOp .Eq) (.fz (TN a)) (.fz (TN b)) S := ptTN.eqR (by decide) hu q
theorem ne_TN {a b : List Int} (hu : X.A.units + 64 < cLine) (q : S (.fz (.bl (!decide (a = b))))) : RD X (compareOp .NotEq) (.fz (TN a)) (.fz (TN b)) S := ptTN.neR (by decide) hu q
end
end Vl

namespace Vl
open PySem PySem.Spec PyProof.Rows L2
/-! ### new flat lists made while own objects are looked at -/
section
variable {X : Cx} {e a b c o tg iter : Expr} {es ts : List Expr} {bd body : List Stmt} {δ : En} {Q : OD → En → Prop} {R : Bool → En → Prop} {P : DE} {pos p p2 apos cpos : Pos} {S : OD → Prop} {x y nm : Str} {l : Addr}
theorem reps_scal {K : PySem.W.Frag} {G G' : Hp} : ∀ {ds : List D} {vs : List V}, ds.all scalD = true → Reps K G ds vs → Reps K G' ds vs
  | [], _, _, h => by unfold Reps at h ⊢; exact h
  | d :: ds, vs, hs, h => by
    rw [List.all_cons, Bool.and_eq_true] at hs
    unfold Reps at h ⊢
    obtain ⟨v, r, e1, h1, h2⟩ := h
    exact ⟨v, r, e1, rep_scal hs.1 h1, reps_scal hs.2 h2⟩
theorem ev_lookO (h : Ev X e (thaw δ) fun x δ1 => δ1 = thaw δ ∧ ∃ a ds, x = ol a ds ∧ ds.all scalD = true ∧ Q (ol a ds) δ) : Ev X e δ Q := fun G H σ s => (h H H σ s.thaw).imp fun v H1 ⟨x, G1, d1, s1, e2, a, ds, e1, hs, q⟩ => by
  subst e2; subst e1
  have t := unthaw s s1.pop
  have off := s1.st.off a (by rw [feet_some]; refine List.mem_append_left _ ?_; rw [foot_own]; exact List.mem_cons_self)
  have hH : H a = none := by
    cases z : H a with
    | none => rfl
    | some o => have := s1.gr.g a o z; rw [off.1] at this; cases this
  have hG : G a = none := by
    cases z : G a with
    | none => rfl
    | some o => have := s.ex a o z; rw [hH] at this; cases this
  have r := s1.st.top
  unfold RepO at r
  obtain ⟨ev, vs, h1, h2⟩ := r
  have fo : foot (ol a ds) = [a] := by rw [foot_own, foots_fz]
  refine ⟨_, G, δ, ⟨t.st.push ?_ (by rw [fo]; simp) fun c hc => ?_, t.gr, fun c hc => ?_⟩, q⟩
  · unfold RepO
    exact ⟨ev, vs, h1, repOs_of (reps_scal hs (repOs_fz h2))⟩
  · rw [fo] at hc
    simp at hc
    subst hc
    exact ⟨hG, off.2, fun hz => (s.off c hz).2 hH⟩
  · rw [feet_some, fo] at hc
    rcases List.mem_append.mp hc with q | q
    · simp at q; subst q; exact .inr hH
    · exact .inl q
/-- a list plus a list, one's own -/
theorem ev_addO {ds es : List D} (ha : Ed X a δ (.fz (.lst ds))) (hb : Ed X b δ (.fz (.lst es))) (hl : ds.length + es.length ≤ 100000) (q : ∀ l, Q (ol l (ds ++ es)) δ) : Ev X (.BinOp a .Add b pos) δ Q := fun G H σ s =>
  wE_of (pe_op op_cat wE_pe wE_pe) ((ha G H σ s).imp fun v H1 ⟨x, G1, d1, s1, e1, e2⟩ => by
    subst e1; subst e2
    refine (hb G1 H1 σ s1.st.pop).imp fun w H2 ⟨y, G2, d2, s2, e3, e4⟩ => ?_
    subst e3; subst e4
    have r1 := Rep.mono s2.gr.g _ _ (top_fz s1.st rfl)
    have r2 := top_fz s2.st rfl
    unfold Rep at r1 r2
    obtain ⟨a1, w1, rfl, g1, rs1⟩ := r1
    obtain ⟨a2, w2, rfl, g2, rs2⟩ := r2
    refine ⟨a1, a2, w1, w2, rfl, rfl, s2.st.ex _ _ g1, s2.st.ex _ _ g2, by rw [rs1.length, rs2.length, sizeLine_eq]; omega, fun p n => ⟨_, G2, _, (s1.pop.trans s2.pop).newOwn (Reps.app rs1 rs2) n, q p⟩⟩)
/-- a slice of a list, one's own -/
theorem ev_slO {lo hi : Option Expr} {l u : Option Int} {ds : List D} (he : Ed X e δ (.fz (.lst ds))) (hl : Ep X lo δ (· = l)) (hu : Ep X hi δ (· = u)) (q : ∀ a, Q (ol a (cutD ds l u)) δ) : Ev X (.Subscript e (.Slice lo hi none p2) pos) δ Q := fun G H σ s => by
  refine .mk fun pins s0 I => ?_
  refine Subscript_ (thn ((he G H σ s).run pins s0 I) fun v s1 ⟨v1, H1, I1, r1, x1, G1, δ1, t1, e1, e2⟩ => ?_)
  subst e1; subst e2
  obtain ⟨l0, el0, h2⟩ := hl
  obtain ⟨u0, eu0, h3⟩ := hu
  obtain ⟨tl, pl, q1⟩ := h2 G1 H1 σ t1.st.pop
  refine wpAny_Slice (thn (pl.run pins s1 σ H1 _ I1 q1) fun vl s2 ⟨l', H2, I2, ql, G2, t2, el⟩ => ?_)
  obtain ⟨th, ph, q2⟩ := h3 G2 H2 σ t2.st
  refine thn (ph.run pins s2 σ H2 _ I2 q2) fun vu s3 ⟨u', H3, I3, qu, G3, t3, eu⟩ => ?_
  subst el eu el0 eu0
  rw [evalPart_none]
  refine wpAny_pure ?_
  have I4 : Inv X pins σ H3 { s3 with heap := s3.heap.push { cls := .type "slice", data := .fields #[vl, vu, .none] } } := I3.kept (t' := s3.toks) fun b ob q => Heap.get?_push_of_some _ q
  have rr := top_fz (t1.st.frame (t2.trans t3)) rfl
  unfold Rep at rr
  obtain ⟨a1, w1, rfl, g1, rs1⟩ := rr
  have run : rSlL X.K (.ref a1) l' u' H3 (Post X.K G H σ δ1 Q) := ⟨a1, w1, rfl, .of (t3.st.ex _ _ g1), fun p n => ⟨_, G3, δ1, ((t1.pop.trans t2).trans t3).newOwn (ds := cutD ds l' u') (by
    unfold cutD cutV
    rw [rs1.length]
    exact (rs1.drop _).take _) n, q p⟩⟩
  obtain ⟨T, id, hT, ht, hg⟩ := sl_list pins _ σ H3 _ _ _ _ _ _ _ _ I4 r1 (Heap.IsSliceOf.new ..) ql qu run
  exact tail_any (s := { s3 with heap := s3.heap.push { cls := .type "slice", data := .fields #[vl, vu, .none] } }) (ops := [.ref s3.heap.objs.size, v]) ht hT hg (by with_unfolding_all rfl)
/-! ### while -/
theorem es_while (hp : PassesOwn (model X.prog X.w) X.A X.env X.xe) (I : Nat → En → Prop) (m0 : Nat) (h0 : I m0 δ)
    (step : ∀ m δ1, I m δ1 → Et X c δ1 fun k δ2 => (k = true → Eb X body δ2 { P with nx := fun δ' => ∃ m', m' < m ∧ I m' δ', ct := fun δ' => ∃ m', m' < m ∧ I m' δ', bk := P.nx }) ∧ (k = false → P.nx δ2)) : Es X (.While c body [] pos) δ P := fun G H σ s =>
  wS_of (ps_while hp wT_pt wB_ps) ⟨fun m σ' H' => ∃ G' δ', Step X.K G H δ G' H' σ' δ' ∧ I m δ', ⟨m0, G, δ, s.step, h0⟩, fun m σ1 H1 ⟨G1, δ1, s1, hI⟩ => (step m δ1 hI G1 H1 σ1 s1.st).imp fun k H2 ⟨G2, δ2, s2, h1, h2⟩ => by
    cases k with
    | true =>
      rw [if_pos rfl]
      refine ⟨fun σ' H' => ∃ G' δ', Step X.K G H δ G' H' σ' δ' ∧ ∃ m', m' < m ∧ I m' δ', fun σ' H' ⟨G', δ', s', m', hm, hI'⟩ => ⟨m', hm, G', δ', s', hI'⟩, ?_⟩
      have t := s1.trans s2
      refine (h1 rfl G2 H2 σ1 s2.st).imp ⟨fun σ' H' ⟨G', δ', s', q⟩ => ⟨G', δ', t.trans s', q⟩, fun v H' q => ?_, fun σ' H' q => ?_, fun σ' H' q => ?_⟩
      · obtain ⟨x, G', σ'', δ', s', q⟩ := q
        exact ⟨x, G', σ'', δ', t.trans s', q⟩
      · obtain ⟨G', δ', s', q⟩ := q
        exact ⟨G', δ', t.trans s', q⟩
      · obtain ⟨G', δ', s', q⟩ := q
        exact ⟨G', δ', t.trans s', q⟩
    | false =>
      rw [if_neg Bool.false_ne_true]
      exact ⟨G2, δ2, s1.trans s2, h2 rfl⟩⟩
/-! ### own tuples -/
theorem Step.gatherT {K : PySem.W.Frag} {G H : Hp} {σ : L2.St} {q : Addr} {xs : List OD} {vs : List V} (hl : xs.length = vs.length) (s : Stt K G H (vs.map some ++ σ) (xs.map some ++ δ)) (n : H q = none) : Step K G H (xs.map some ++ δ) G (upd H q (.tup vs)) (some (.ref q) :: σ) (some (.otp q xs) :: δ) := by
  obtain ⟨r, t⟩ := stack_reps hl s
  have nd := s.nd
  rw [feet_app] at nd
  obtain ⟨n1, n2, n3⟩ := List.nodup_append.mp nd
  have gq : G q = none := g_none s.ex n
  have mem : ∀ b ∈ foots xs, b ∈ feet (xs.map some ++ δ) := fun b hb => by rw [feet_app]; exact List.mem_append_left _ hb
  have memδ : ∀ b ∈ feet δ, b ∈ feet (xs.map some ++ δ) := fun b hb => by rw [feet_app]; exact List.mem_append_right _ hb
  have qx : q ∉ foots xs := fun h => (s.off q (mem q h)).2 n
  have qδ : q ∉ feet δ := fun h => (t.off q h).2 n
  have t2 : Stt K G (upd H q (.tup vs)) σ δ := t.keep (Same.refl _) (t.ex.trans (new_h n)) (fun b hb o ho => by rw [upd_ne (fun e => by subst e; exact qδ hb)]; exact ho) (fun b hb => (t.off b hb).1)
  refine ⟨t2.push ?_ ?_ fun b hb => ?_, grow_same (Same.refl _) (new_h n) (fun _ h => .inl h), fun b hb => ?_⟩
  · unfold RepO
    refine ⟨rfl, vs, upd_same, RepOs.mono (Same.refl _) xs vs (fun b hb o ho => ?_) r⟩
    rw [upd_ne (fun e => by subst e; exact qx hb)]
    exact ho
  · rw [foot_otp]
    exact List.nodup_cons.mpr ⟨qx, n1⟩
  · rw [foot_otp] at hb
    rcases List.mem_cons.mp hb with h | h
    · subst h; exact ⟨gq, by rw [upd_same]; simp, qδ⟩
    · have := s.off b (mem b h)
      exact ⟨this.1, by rw [upd_ne (fun e => by subst e; exact qx h)]; exact this.2, fun hd => n3 b h b hd rfl⟩
  · rw [feet_some, foot_otp] at hb
    rcases List.mem_append.mp hb with h | h
    · rcases List.mem_cons.mp h with h | h
      · subst h; exact .inr n
      · exact .inl (mem b h)
    · exact .inl (memδ b h)
/-- (e, ..) as a tuple of own things -/
theorem ev_tupE {kk : Nat} (h : Eo X es δ fun xs δ1 => xs.length ≤ 100000 ∧ ∀ a, Q (.otp a xs) δ1) : Ev X (.Tuple es kk pos) δ Q := fun G H σ s =>
  wE_of (pe_tup wA_pa) ((h G H σ s).imp fun vs H1 ⟨xs, G1, d1, hl, s1, hz, q⟩ =>
    ⟨by rw [← hl, sizeLine_eq]; omega, fun p n => ⟨_, G1, d1, s1.trans (Step.gatherT hl s1.st n), q p⟩⟩)
/-! unpacking -/
theorem Stt.rot {K : PySem.W.Frag} {G H : Hp} : ∀ {σ : L2.St} {δ : En} {v : V} {x : OD} {xs : List OD} {vs : List V}, xs.length = vs.length → Stt K G H (some v :: (vs.map some ++ σ)) (some x :: (xs.map some ++ δ)) → Stt K G H (vs.map some ++ (some v :: σ)) (xs.map some ++ (some x :: δ))
  | _, _, _, _, [], [], _, s => s
  | _, _, _, _, [], _ :: _, h, _ => by simp at h
  | _, _, _, _, _ :: _, [], h, _ => by simp at h
  | σ, δ, v, x, y :: ys, w :: ws, h, s => by
    have s2 : Stt K G H (some w :: some v :: (ws.map some ++ σ)) (some y :: some x :: (ys.map some ++ δ)) := s.swap
    have r := Stt.rot (by simpa using h) s2.pop
    -- put y back on top
    have nd := s2.nd
    rw [feet_some] at nd
    obtain ⟨n1, n2, n3⟩ := List.nodup_append.mp nd
    refine r.push s2.top n1 fun a ha => ?_
    have o := s2.off a (by rw [feet_some]; exact List.mem_append_left _ ha)
    refine ⟨o.1, o.2, fun hc => n3 a ha a ?_ rfl⟩
    rw [feet_app, feet_some] at hc
    rw [feet_some, feet_app]
    rcases List.mem_append.mp hc with q | q
    · exact List.mem_append_right _ (List.mem_append_left _ q)
    · rcases List.mem_append.mp q with q | q
      · exact List.mem_append_left _ q
      · exact List.mem_append_right _ (List.mem_append_right _ q)
def EgsO (X : Cx) (ts : List Expr) (xs : List OD) (δ : En) (T : En → Prop) : Prop :=
  ∀ G H σ vs, xs.length = vs.length → Stt X.K G H (vs.map some ++ σ) (xs.map some ++ δ) → wGs X ts vs σ H fun σ' H' => ∃ G' δ', Step X.K G H (xs.map some ++ δ) G' H' σ' δ' ∧ T δ'
theorem egsO_nil {T : En → Prop} (q : T δ) : EgsO X [] [] δ T := fun G H σ vs hl s => by
  have : vs = [] := List.length_eq_zero_iff.mp hl.symm
  subst this
  exact wGs_of pgs_nil ⟨rfl, G, δ, s.step, q⟩
theorem egsO_cons {x : OD} {xs : List OD} {T : En → Prop} (h : Eg X tg x δ fun δ' => EgsO X ts xs δ' T) (hs : (assignEach (tg :: ts) X.env).map (·.2) = assign tg X.env :: (assignEach ts X.env).map (·.2) := by rfl) : EgsO X (tg :: ts) (x :: xs) δ T := fun G H σ vs hl s => by
  cases vs with
  | nil => simp at hl
  | cons v vs =>
    have hl : xs.length = vs.length := by simpa using hl
    have s' : Stt X.K G H (some v :: (vs.map some ++ σ)) (some x :: (xs.map some ++ δ)) := s
    have sr := Stt.rot hl s'
    refine wGs_of (pgs_cons wG_pg wGs_pg hs) ⟨v, vs, rfl, (h G H σ v (s'.mids hl)).imp fun σ1 H1 ⟨G1, δ1, s1, h1⟩ => ?_⟩
    have fr := Step.frames hl sr s1
    refine (h1 G1 H1 σ1 vs hl fr.st).imp fun σ2 H2 ⟨G2, δ2, s2, q⟩ => ⟨G2, δ2, ?_, q⟩
    have t := fr.trans s2
    have e : ∀ a, a ∈ feet (xs.map some ++ (some x :: δ)) ↔ a ∈ feet (List.map some (x :: xs) ++ δ) := fun a => by
      show a ∈ feet (xs.map some ++ (some x :: δ)) ↔ a ∈ feet (some x :: (xs.map some ++ δ))
      rw [feet_app, feet_some, feet_some, feet_app]
      simp only [List.mem_append]
      constructor
      · rintro (h | h | h)
        · exact .inr (.inl h)
        · exact .inl h
        · exact .inr (.inr h)
      · rintro (h | h | h)
        · exact .inr (.inl h)
        · exact .inl h
        · exact .inr (.inr h)
    exact ⟨t.st, ⟨t.gr.g, fun a o ha ho => t.gr.h a o (fun hc => ha ((e a).mp hc)) ho, fun a h => (t.gr.new a h).imp id fun q => q.imp id (e a).mp, t.gr.there⟩, fun a ha => (t.ft a ha).imp (fun q => (e a).mp q) id⟩
/-- an own tuple taken apart -/
theorem eg_tupO {a : Addr} {xs : List OD} {kk : Nat} {T : En → Prop} (hc : X.calm = true) (h : EgsO X ts xs δ T) (hl : xs.length = ts.length) (hn : (assignEach ts X.env).length = ts.length := by rfl) (hst : (assignEach ts X.env).findIdx? (·.1) = none := by rfl) : Eg X (.Tuple ts kk pos) (.otp a xs) δ T := fun G H σ v s => by
  have r := s.top
  unfold RepO at r
  obtain ⟨rfl, vs, hH, rs⟩ := r
  have nd := s.nd
  rw [feet_some, foot_otp] at nd
  obtain ⟨n1, n2, n3⟩ := List.nodup_append.mp nd
  have n1 := (List.nodup_cons.mp n1).2
  have mem : ∀ b ∈ foots xs, b ∈ feet (some (.otp a xs) :: δ) := fun b hb => by rw [feet_some, foot_otp]; exact List.mem_append_left _ (List.mem_cons_of_mem _ hb)
  have hlv : xs.length = vs.length := rs.length.symm
  -- its items wait
  have up : ∀ (xs : List OD) (vs : List V), RepOs X.K G H xs vs → (foots xs).Nodup → (∀ b ∈ foots xs, G b = none ∧ H b ≠ none ∧ b ∉ feet δ) → Stt X.K G H (vs.map some ++ σ) (xs.map some ++ δ) := by
    intro xs
    induction xs with
    | nil => intro vs r _ _; unfold RepOs at r; subst r; exact s.pop
    | cons x xs ih =>
      intro vs r nd off
      unfold RepOs at r
      obtain ⟨w, ws, rfl, r1, r2⟩ := r
      rw [foots_cons] at nd off
      obtain ⟨m1, m2, m3⟩ := List.nodup_append.mp nd
      have t := ih ws r2 m2 fun b hb => off b (List.mem_append_right _ hb)
      refine t.push r1 m1 fun b hb => ?_
      have o := off b (List.mem_append_left _ hb)
      refine ⟨o.1, o.2.1, fun hc => ?_⟩
      rw [feet_app] at hc
      rcases List.mem_append.mp hc with q | q
      · exact m3 b hb b q rfl
      · exact o.2.2 q
  have t := up xs vs rs n1 fun b hb => by
    have o := s.off b (mem b hb)
    exact ⟨o.1, o.2, fun hc => n3 b (List.mem_cons_of_mem _ hb) b hc rfl⟩
  refine wG_of (pg_tup (n := ts.length) hc wGs_pg hn hst) ⟨a, vs, rfl, .of hH, hlv.symm.trans hl, (h G H σ vs hlv t).imp fun σ' H' ⟨G', δ', s', q⟩ => ⟨G', δ', ?_, q⟩⟩
  have e : ∀ b, b ∈ feet (xs.map some ++ δ) → b ∈ feet (some (.otp a xs) :: δ) := fun b hb => by
    rw [feet_app] at hb
    rw [feet_some, foot_otp]
    rcases List.mem_append.mp hb with q | q
    · exact List.mem_append_left _ (List.mem_cons_of_mem _ q)
    · exact List.mem_append_right _ q
  exact ⟨s'.st, ⟨s'.gr.g, fun b o hb ho => s'.gr.h b o (fun hc => hb (e b hc)) ho, fun b h => (s'.gr.new b h).imp id fun q => q.imp id (e b), s'.gr.there⟩, fun b hb => (s'.ft b hb).imp (e b) id⟩
end
end Vl

namespace Vl
open PySem PySem.Spec PyProof.Rows L2
/-! ### looking into own objects some levels deep -/
def viewD : Nat → OD → D
  | 0, x => hdD x
  | n + 1, .own _ xs => .lst (xs.map (viewD n))
  | n + 1, .otp _ xs => .tup (xs.map (viewD n))
  | _ + 1, x => hdD x
def thawN (n : Nat) (δ : En) : En := δ.map fun o => o.map fun x => .fz (viewD n x)
section
variable {K : PySem.W.Frag} {G H G' H' : Hp} {σ : L2.St} {δ : En}
mutual
theorem RepO.view (e : Same G H) : ∀ (n : Nat) (x : OD) (v : V), RepO K G H x v → Rep K H (viewD n x) v
  | 0, x, v, r => by unfold viewD; exact RepO.hdD e r
  | n + 1, .fz d, v, r => by unfold viewD; exact RepO.hdD e r
  | n + 1, .vol _ _, v, r => by unfold viewD; exact RepO.hdD e r
  | n + 1, .ins _ _ _ _ _, v, r => by unfold viewD; exact RepO.hdD e r
  | n + 1, .own a xs, v, r => by
    unfold RepO at r
    obtain ⟨e1, vs, h1, h2⟩ := r
    unfold viewD Rep
    exact ⟨a, vs, e1, h1, RepOs.view e n xs vs h2⟩
  | n + 1, .otp a xs, v, r => by
    unfold RepO at r
    obtain ⟨e1, vs, h1, h2⟩ := r
    unfold viewD Rep
    exact ⟨a, vs, e1, h1, RepOs.view e n xs vs h2⟩
theorem RepOs.view (e : Same G H) : ∀ (n : Nat) (xs : List OD) (vs : List V), RepOs K G H xs vs → Reps K H (xs.map (viewD n)) vs
  | _, [], _, r => by
    unfold RepOs at r
    subst r
    exact Reps.nil
  | n, x :: xs, vs, r => by
    unfold RepOs at r
    obtain ⟨v, w, rfl, r1, r2⟩ := r
    exact Reps.cons (RepO.view e n x v r1) (RepOs.view e n xs w r2)
end
theorem feet_thawN (n : Nat) : ∀ δ : En, feet (thawN n δ) = []
  | [] => rfl
  | none :: r => by show feet (none :: thawN n r) = []; unfold feet; exact feet_thawN n r
  | some x :: r => by show feet (some (.fz (viewD n x)) :: thawN n r) = []; unfold feet foot; rw [feet_thawN n r]; rfl
theorem Stt.thawN (n : Nat) (s : Stt K G H σ δ) : Stt K H H σ (thawN n δ) where
  ex := Same.refl _
  len := by rw [← s.len]; unfold Vl.thawN; rw [List.length_map]
  rep := fun i x hx => by
    unfold Vl.thawN at hx
    rw [List.getElem?_map] at hx
    cases q : δ[i]? with
    | none => rw [q] at hx; cases hx
    | some o =>
      rw [q] at hx
      cases o with
      | none => cases hx
      | some y =>
        simp at hx
        subst hx
        obtain ⟨v, e1, r⟩ := s.rep i y q
        refine ⟨v, e1, ?_⟩
        unfold RepO
        exact RepO.view s.ex n y v r
  nd := by rw [feet_thawN]; exact List.nodup_nil
  off := fun a ha => by rw [feet_thawN] at ha; cases ha
theorem unthawN {n : Nat} (s : Stt K G H σ δ) (t : Step K H H (Vl.thawN n δ) G' H' σ (Vl.thawN n δ)) : Step K G H δ G H' σ δ := by
  have k : Same H H' := fun a o e => t.gr.h a o (by rw [feet_thawN]; simp) e
  exact ⟨s.keep (Same.refl _) (s.ex.trans k) (fun a _ o e => k a o e) (fun a ha => (s.off a ha).1), ⟨Same.refl _, fun a o _ e => k a o e, fun _ h => .inl h, t.gr.there⟩, fun a ha => .inl ha⟩
end
section
variable {X : Cx} {e a b c o tg iter : Expr} {es ts : List Expr} {bd body : List Stmt} {δ : En} {Q : OD → En → Prop} {P : DE} {pos p p2 apos cpos : Pos} {S : OD → Prop} {x y : OD} {ys zs : List OD} {f : List OD → OD} {nm : Str} {l : Addr}
/-- an own thing where a look some levels deep leads to -/
theorem sub_evN (n : Nat) (h : Ed X e (thawN n δ) (.fz (.op (.ref l)))) : Sub X e δ l := fun G H σ s => (h H H σ (s.thawN n)).imp fun v H1 ⟨y, G1, d1, s1, e1, e2⟩ => by
  subst e1
  subst e2
  have r := top_fz s1.st rfl
  unfold Rep at r
  exact ⟨r, unthawN s s1.pop⟩
theorem RepOs.dropLast {K : PySem.W.Frag} {G H : Hp} : ∀ {xs : List OD} {vs : List V}, RepOs K G H xs vs → RepOs K G H xs.dropLast vs.dropLast
  | [], vs, r => by
    unfold RepOs at r
    subst r
    unfold RepOs
    rfl
  | [x], vs, r => by
    unfold RepOs at r
    obtain ⟨v, w, rfl, r1, r2⟩ := r
    unfold RepOs at r2
    subst r2
    show RepOs K G H [] []
    unfold RepOs
    rfl
  | x :: y :: xs, vs, r => by
    unfold RepOs at r
    obtain ⟨v, w, rfl, r1, r2⟩ := r
    have := RepOs.dropLast r2
    unfold RepOs at r2
    obtain ⟨v2, w2, rfl, _, _⟩ := r2
    show RepOs K G H (x :: (y :: xs).dropLast) (v :: (v2 :: w2).dropLast)
    unfold RepOs
    exact ⟨v, _, rfl, r1, this⟩
/-- o.pop() on an own list -/
theorem es_popA (i : Nat) (ho : Sub X o δ l) (hx : δ[i]? = some (some x)) (a : At x l ys f) (hz : ys ≠ [])
    (h : P.nx (δ.set i (some (f ys.dropLast))))
    (hbase : attributeBase o "pop" X.env (eval o X.env) = eval o X.env := by rfl)
    (hline : (apos.endLine == cpos.line) = true := by rfl)
    (hsw : swapsWith (.Call (.Attribute o "pop" apos) [] [] cpos) none pos.line X.env = pure false := by rfl) : Es X (.Expr (.Call (.Attribute o "pop" apos) [] [] cpos) pos) δ P := fun G H σ s => by
  refine wS_of (ps_expr (pe_bm0 PySem.F.plainAttrs_list PySem.F.slot_list_pop PySem.F.type_list_pop mt_pop wE_pe hbase hline) hsw) ?_
  refine (ho G H σ s).imp fun v0 H0 ⟨ev, s0⟩ => ?_
  subst ev
  obtain ⟨u0, _, r0⟩ := s0.st.rep i x hx
  obtain ⟨vs0, hl0, rs⟩ := a.read r0
  have hne : vs0 ≠ [] := fun q => by
    subst q
    exact hz (List.length_eq_zero_iff.mp rs.length.symm)
  have ndx := foot_nd s0.st.nd hx
  refine ⟨.inl ⟨rfl, vs0, .of hl0⟩, l, vs0, vs0.getLast hne, rfl, rfl, hl0, by rw [List.getLast_eq_getElem]; simp, ?_⟩
  have ey : foots ys = foots ys.dropLast ++ foot (ys.getLast hz) := by
    conv => lhs; rw [← List.dropLast_concat_getLast hz]
    rw [foots_append, foots_one]
  have q1 := s0.pushF (v := vs0.getLast hne) (d := .op (vs0.getLast hne)) (by unfold Rep; rfl)
  have nd := (a.lys ndx).1
  rw [ey] at nd
  refine ⟨G, _, q1.trans (Step.putAt (zs := ys.dropLast) q1.st hx a (List.nodup_append.mp nd).1 (fun b hb => .inl (by rw [ey]; exact List.mem_append_left _ hb)) (RepOs.dropLast (RepOs.mono (Same.refl _) ys vs0 (fun b hb o ho => ?_) rs))), h⟩
  rw [upd_ne (fun e => by subst e; exact (a.lys ndx).2 hb)]
  exact ho
/-- for name in an own list of own things, somewhere within an own thing -/
theorem es_forS {as : List Addr} (hp : PassesOwn (model X.prog X.w) X.A X.env X.xe) (hc : X.calm = true) (i : Nat) (ho : Sub X iter δ l) (I : Nat → En → Prop) (h0 : I 0 δ)
    (hI : ∀ k δ', I k δ' → ∃ x ys f, δ'[i]? = some (some x) ∧ At x l ys f ∧ ys.map hdD = as.map fun a => .op (.ref a))
    (step : ∀ k (h : k < as.length) δ1, I k δ1 → Eg X tg (.fz (.op (.ref as[k]))) δ1 fun δ2 => Eb X bd δ2 { P with nx := I (k + 1), ct := I (k + 1), bk := P.nx }) (hd : ∀ δ', I as.length δ' → P.nx δ') (hs : ∀ x, foldedSetIterable iter X.env x = pure x := by intro _; rfl) : Es X (.For tg iter bd [] pos) δ P := fun G H σ s => by
  have pi : PI X tg iter _ := pi_list (tg := tg) (wE_pe (X := X) (e := iter))
  have rd : ∀ {k : Nat} {δ' : En} {G' H' : Hp} {σ' : L2.St}, Stt X.K G' H' σ' δ' → I k δ' → H' l = some (.lst (as.map .ref)) := fun {k δ' G' H' σ'} t h => by
    obtain ⟨x, ys, f, e1, e2, e3⟩ := hI k δ' h
    obtain ⟨u, _, r⟩ := t.rep i x e1
    obtain ⟨vs, h1, h2⟩ := e2.read r
    have h3 := RepOs.hdD t.ex h2
    rw [e3] at h3
    have : ∀ (as : List Addr) (vs : List V), Reps X.K H' (as.map fun a => D.op (.ref a)) vs → vs = as.map .ref := by
      intro as
      induction as with
      | nil => intro vs r; unfold Reps at r; exact r
      | cons b bs ih =>
        intro vs r
        rw [List.map_cons] at r
        unfold Reps Rep at r
        obtain ⟨v, w, rfl, rfl, r2⟩ := r
        rw [ih w r2]
        rfl
    rw [h1, this as vs h3]
  refine wS_of (ps_for hp hc pi wG_pg wB_ps hs) ((ho G H σ s).imp fun v H1 ⟨ev, s1⟩ => ?_)
  subst ev
  refine ⟨l, rfl, ⟨_, .of (rd s1.st h0)⟩, ?_⟩
  refine for_it (walk_list (xs := as.map .ref)) (fun k σ' H' => ∃ G' δ', Step X.K G H δ G' H' σ' δ' ∧ I k δ') ⟨G, δ, s1, h0⟩ (fun k σ' H' _ ⟨G', δ', s', hI'⟩ => .of (rd s'.st hI')) (fun k v σ' H' H3 hlt ⟨G', δ', s', hI'⟩ y => ?_) fun σ' H' ⟨G', δ', s', hI'⟩ => ⟨G', δ', s', hd _ (by rw [List.length_map] at hI'; exact hI')⟩
  obtain ⟨e3, e2⟩ := y
  subst e3
  have hk : k < as.length := by rw [List.length_map] at hlt; exact hlt
  have hv : v = .ref as[k] := by
    rw [List.getElem?_map, List.getElem?_eq_getElem hk] at e2
    exact (Option.some.inj e2).symm
  subst hv
  refine (step k hk δ' hI' G' H3 σ' _ (s'.st.pushF (d := .op (.ref as[k])) (by unfold Rep; rfl))).imp fun σ4 H4 ⟨G4, δ4, s4, hb⟩ => ?_
  have f4 := (s'.pushF (d := .op (.ref as[k])) (by unfold Rep; rfl)).trans s4
  exact (hb G4 H4 σ4 s4.st).imp ⟨fun σ5 H5 ⟨G5, δ5, s5, q⟩ => ⟨G5, δ5, f4.trans s5, q⟩, fun v5 H5 ⟨x5, G5, σ5, δ5, s5, q⟩ => ⟨x5, G5, σ5, δ5, f4.trans s5, q⟩, fun σ5 H5 ⟨G5, δ5, s5, q⟩ => ⟨G5, δ5, f4.trans s5, q⟩, fun σ5 H5 ⟨G5, δ5, s5, q⟩ => ⟨G5, δ5, f4.trans s5, q⟩⟩
/-! sorted ints -/
def sortI (ns : List Int) : List Int := ns.mergeSort fun a b => decide (a ≤ b)
theorem sortI_perm (ns : List Int) : (sortI ns).Perm ns := List.mergeSort_perm ..
theorem sortI_srt (ns : List Int) : (sortI ns).Pairwise (· ≤ ·) := (List.pairwise_mergeSort (le := fun a b : Int => decide (a ≤ b)) (fun a b c => by simp; omega) (fun a b => by simp; omega) ns).imp fun h => by simpa using h
theorem srt_uniq : ∀ {a b : List Int}, a.Perm b → a.Pairwise (· ≤ ·) → b.Pairwise (· ≤ ·) → a = b
  | [], b, p, _, _ => p.symm.eq_nil.symm ▸ rfl
  | x :: a, [], p, _, _ => absurd p.eq_nil (by simp)
  | x :: a, y :: b, p, ha, hb => by
    obtain ⟨h1, h2⟩ := List.pairwise_cons.mp ha
    obtain ⟨h3, h4⟩ := List.pairwise_cons.mp hb
    have e : x = y := by
      have m1 : x ∈ y :: b := p.subset List.mem_cons_self
      have m2 : y ∈ x :: a := p.symm.subset List.mem_cons_self
      rcases List.mem_cons.mp m1 with q | q
      · exact q
      · rcases List.mem_cons.mp m2 with q2 | q2
        · exact q2.symm
        · have := h3 x q
          have := h1 y q2
          omega
    subst e
    rw [srt_uniq ((List.perm_cons _).mp p) h2 h4]
theorem sortI_eq {a b : List Int} (h : a.Perm b) : sortI a = sortI b := srt_uniq (((sortI_perm a).trans h).trans (sortI_perm b).symm) (sortI_srt a) (sortI_srt b)
theorem cd_sortI {ns : List Int} (q : S (.fz (LI (sortI ns)))) : CD X (.builtin "sorted") [LI ns] S := ⟨_, cr_sortedI, fun G H vs k s rs z => by
  obtain ⟨a, ws, rfl, g, rs⟩ := one_lst rs
  cases reps_intsV rs
  refine ⟨a, ns, rfl, .of (s _ _ g), fun ns' p h1 h2 n => ?_⟩
  rw [srt_uniq (h1.trans (sortI_perm ns).symm) h2 (sortI_srt ns)]
  exact new_lst (W := fun d => S (.fz d)) s (ds := (sortI ns).map .int) (reps_ints _) q n z⟩
/-! in, not in -/
theorem inV_ints {i : Int} {ns : List Int} : inV (.int i) (ns.map V.int) = decide (i ∈ ns) := by
  unfold inV
  rw [List.any_map]
  induction ns with
  | nil => simp
  | cons n ns ih =>
    rw [List.any_cons, ih]
    show ((n == i) || decide (i ∈ ns)) = decide (i ∈ n :: ns)
    by_cases h : n = i
    · subst h; simp
    · have h2 : ¬ i = n := fun q => h q.symm
      simp [h, h2]
theorem in_LI {i : Int} {ns : List Int} (q : S (.fz (.bl (decide (i ∈ ns))))) : RD X (compareOp .In) (.fz (.int i)) (.fz (LI ns)) S :=
  ⟨_, op_in_seq, _, _, rfl, rfl, fun G H v1 v2 k s r1 r2 z => by
    unfold Rep at r1
    subst r1
    unfold LI Rep at r2
    obtain ⟨a, vs, rfl, g, rs⟩ := r2
    cases reps_intsV rs
    refine ⟨a, _, rfl, .inl (.of (s _ _ g)), rfl, by rw [List.all_map]; exact List.all_eq_true.mpr fun _ _ => rfl, ?_⟩
    rw [inV_ints]
    exact z (.bl _) _ G H q (Same.refl _) (Same.refl _) s (fun _ h => .inl h) (by unfold Rep; rfl)⟩
theorem notIn_LI {i : Int} {ns : List Int} (q : S (.fz (.bl (!decide (i ∈ ns))))) : RD X (compareOp .NotIn) (.fz (.int i)) (.fz (LI ns)) S :=
  ⟨_, op_notIn_seq, _, _, rfl, rfl, fun G H v1 v2 k s r1 r2 z => by
    unfold Rep at r1
    subst r1
    unfold LI Rep at r2
    obtain ⟨a, vs, rfl, g, rs⟩ := r2
    cases reps_intsV rs
    refine ⟨a, _, rfl, .inl (.of (s _ _ g)), rfl, by rw [List.all_map]; exact List.all_eq_true.mpr fun _ _ => rfl, ?_⟩
    rw [inV_ints]
    exact z (.bl _) _ G H q (Same.refl _) (Same.refl _) s (fun _ h => .inl h) (by unfold Rep; rfl)⟩
/-! list.count -/
def scV : D → V
  | .non => .non
  | .bl b => .bl b
  | .int i => .int i
  | .str s => .str s
  | _ => .non
theorem rep_scV {K : PySem.W.Frag} {G : Hp} : ∀ {d : D} {v : V}, scalD d = true → Rep K G d v → v = scV d ∧ flatV v = true
  | .non, _, _, r => by unfold Rep at r; subst r; exact ⟨rfl, rfl⟩
  | .bl _, _, _, r => by unfold Rep at r; subst r; exact ⟨rfl, rfl⟩
  | .int _, _, _, r => by unfold Rep at r; subst r; exact ⟨rfl, rfl⟩
  | .str _, _, _, r => by unfold Rep at r; subst r; exact ⟨rfl, rfl⟩
theorem reps_scV {K : PySem.W.Frag} {G : Hp} : ∀ {ds : List D} {vs : List V}, ds.all scalD = true → Reps K G ds vs → vs = ds.map scV ∧ vs.all flatV = true
  | [], _, _, r => by unfold Reps at r; subst r; exact ⟨rfl, rfl⟩
  | d :: ds, _, h, r => by
    rw [List.all_cons, Bool.and_eq_true] at h
    unfold Reps at r
    obtain ⟨v, w, rfl, r1, r2⟩ := r
    obtain ⟨e1, f1⟩ := rep_scV h.1 r1
    obtain ⟨e2, f2⟩ := reps_scV h.2 r2
    subst e1; subst e2
    exact ⟨rfl, by rw [List.all_cons, f1, f2]; rfl⟩
def rCount (K : PySem.W.Frag) : V → List V → Hp → VK → Prop := fun x vs H Q => ∃ l xs y, x = .ref l ∧ vs = [y] ∧ SqL K H l xs ∧ flatV y = true ∧ xs.all flatV = true ∧ Q (.int (xs.countP fun z => eqV z y : Nat)) H
theorem countP_eqU {x : V} : ∀ {xs : List V} {us : List Value}, Vals xs us → xs.all flatV = true → us.countP (eqU x) = xs.countP fun y => eqV y x
  | _, _, .nil, _ => rfl
  | y :: xs, u :: us, .cons r t, f => by
    rw [List.all_cons, Bool.and_eq_true] at f
    rw [List.countP_cons, List.countP_cons, eqU_of r f.1, countP_eqU t f.2]
theorem mt_count : MtR X "list.count" (rCount X.K) := by
  intro pins s σ H x vs v us Q I rx rv h
  obtain ⟨l, xs, y, rfl, rfl, hq, fy, fs, q⟩ := h
  cases rx
  obtain ⟨u, rfl, ru⟩ := rv.one
  obtain ⟨its, r, pl, hz⟩ := I.list hq
  obtain ⟨⟨cls, dd, data, sl⟩, n, ho, hc, hd, hdata⟩ := id pl
  simp only at hc hd hdata
  subst hc hd hdata
  have hT : s.TypeIs (.ref l) "list" := ⟨_, ho, rfl⟩
  refine call_meets PySem.F.slot_list_count hT PySem.F.entry_list_count (PySem.F.args_list_count_2 _ _) (SeqAt.list_countAt l its.toArray n none sl u (eqU y)) ⟨ho, fun w hw => mem_eqAt ru fy r fs w (by simpa using hw), ?_⟩
  refine ⟨.int _, H, I.kept (t' := s.toks + 1) fun b ob q => q, ⟨_, rfl⟩, ?_⟩
  show Q (.int ((its.countP (eqU y) : Nat) : Int)) H
  rw [countP_eqU r fs]
  exact q
/-- xs.count(e), flat items -/
theorem ed_count {ds : List D} {d : D} (ho : Ed X o δ (.fz (.lst ds))) (he : Ed X e δ (.fz d)) (h1 : ds.all scalD = true) (h2 : scalD d = true)
    (hbase : attributeBase o "count" X.env (eval o X.env) = eval o X.env := by rfl)
    (hfew : ((backTo cpos (starEach (e :: []) X.env)).all (fun x => !x.1) && (backToKw cpos (keywordEach [] X.env)).all (fun x => x.1.isSome)
      && decide ((e :: ([] : List Expr)).length + ([] : List Keyword).length + (if ([] : List Keyword).isEmpty then 0 else 1) < 30)) = true := by rfl)
    (hline : (apos.endLine == cpos.line) = true := by rfl) (hs : starEach (e :: []) X.env = (false, eval e X.env) :: starEach [] X.env := by rfl) (hplain : (backTo cpos (starEach [] X.env)).any (·.1) = false := by rfl) : Ed X (.Call (.Attribute o "count" apos) [e] [] cpos) δ (.fz (.int (ds.countP fun x => eqV (scV x) (scV d) : Nat))) := fun G H σ s => by
  refine wE_of (pe_bm PySem.F.plainAttrs_list PySem.F.slot_list_count PySem.F.type_list_count mt_count wE_pe (pa_cons wE_pe pa_nil hs) hbase hfew hline hs hplain) ?_
  refine (ho G H σ s).imp fun v0 H0 ⟨y0, G0, d0, s0, e1, e2⟩ => ?_
  subst e1; subst e2
  have r0 := top_fz s0.st rfl
  unfold Rep at r0
  obtain ⟨a, vs, rfl, g, rs⟩ := r0
  obtain ⟨ev, fv⟩ := reps_scV h1 rs
  refine ⟨.inl ⟨rfl, vs, .inl (.of (s0.st.ex _ _ g))⟩, (he G0 H0 σ s0.st.pop).imp fun v H1 ⟨y1, G1, d1, s1, e3, e4⟩ => ?_⟩
  subst e3; subst e4
  have r1 := top_fz s1.st rfl
  obtain ⟨ew, fw⟩ := rep_scV h2 r1
  refine ⟨a, vs, v, rfl, rfl, .inl (.of (s1.st.ex _ _ (s1.gr.g _ _ g))), fw, fv, ?_⟩
  subst ev; subst ew
  rw [List.countP_map]
  exact ⟨_, G1, _, (s0.pop.trans s1.pop).pushF (d := .int _) (by unfold Rep; rfl), rfl, rfl⟩
/-! int(bool) -/
theorem cd_intB {k : Bool} (q : S (.fz (.int (if k then 1 else 0)))) : CD X (.type "int") [.bl k] S := ⟨_, call_int1, fun G H vs c s rs z => by
  unfold Reps Rep at rs
  obtain ⟨v, w, rfl, rfl, r⟩ := rs
  unfold Reps at r
  subst r
  exact .inr ⟨k, rfl, z (.int _) _ G H q (Same.refl _) (Same.refl _) s (fun _ h => .inl h) (by unfold Rep; rfl)⟩⟩
end
end Vl

namespace Vl
open PySem PySem.Spec PyProof.Rows L2
/-! ### contracts weakened -/
section
variable {P : Program} {w : World} {K : PySem.W.Frag} {mg : Str → Option Value} {base : Heap} {k : Nat} {nm : Str} {ps : List Str} {C C' : Con} {st : Stmt}
theorem spC_cov (f : C'.ι → C.ι) (ha : ∀ i, C'.args i = C.args (f i)) (hp : ∀ i, C'.pre i → C.pre (f i)) (ho : ∀ i x xs', C'.pre i → C.out (f i) x xs' → C'.out i x xs') {vs : List V} {H : Hp} {Q : VK} {E : XK} (h : spC K C' vs H Q E) : spC K C vs H Q E := by
  obtain ⟨G, i, s, p, q⟩ := h
  refine ⟨G, f i, by rw [← ha]; exact s, hp i p, fun v x xs' G' H' t hf o => q v x xs' G' H' (by rw [ha]; exact t) (by rw [ha]; exact hf) (ho i x xs' p o)⟩
theorem FnG.cov {f : Addr} {fd : FuncData} (F : FnG P w K mg base k f fd ps (spC K C)) (g : C'.ι → C.ι) (ha : ∀ i, C'.args i = C.args (g i)) (hp : ∀ i, C'.pre i → C.pre (g i)) (ho : ∀ i x xs', C'.pre i → C.out (g i) x xs' → C'.out i x xs') : FnG P w K mg base k f fd ps (spC K C') :=
  ⟨fun vs H Q E h => F.len vs H Q E (spC_cov g ha hp ho h), fun A outer s H args us vs Q E hg hr e0 hb rv hsp => F.run A outer s H args us vs Q E hg hr e0 hb rv (spC_cov g ha hp ho hsp)⟩
theorem Cl.cov (c : Cl P w K mg base k nm ps C) (g : C'.ι → C.ι) (ha : ∀ i, C'.args i = C.args (g i)) (hp : ∀ i, C'.pre i → C.pre (g i)) (ho : ∀ i x xs', C'.pre i → C.out (g i) x xs' → C'.out i x xs') : Cl P w K mg base k nm ps C' := by
  obtain ⟨f, fd, F, r⟩ := c.ex
  exact ⟨f, fd, F.cov g ha hp ho, r⟩
end
/-! ### own lists put together -/
section
variable {X : Cx} {e a b c o tg iter : Expr} {es ts : List Expr} {bd body : List Stmt} {δ : En} {Q : OD → En → Prop} {P : DE} {pos p p2 apos cpos : Pos} {S : OD → Prop} {x y : OD} {xs ys zs : List OD} {f : List OD → OD} {nm : Str} {l : Addr}
theorem RepOs.apps {K : PySem.W.Frag} {G H : Hp} {ys : List OD} {ws : List V} : ∀ {xs : List OD} {vs : List V}, RepOs K G H xs vs → RepOs K G H ys ws → RepOs K G H (xs ++ ys) (vs ++ ws)
  | [], vs, h, r => by
    unfold RepOs at h
    subst h
    exact r
  | d :: ds, vs, h, r => by
    unfold RepOs at h
    obtain ⟨w, q, rfl, h1, h2⟩ := h
    show RepOs K G H (d :: (ds ++ ys)) (w :: (q ++ ws))
    unfold RepOs
    exact ⟨w, _, rfl, h1, RepOs.apps h2 r⟩
theorem Step.merge {K : PySem.W.Frag} {G H : Hp} {σ : L2.St} {va vb : V} {a b q : Addr} (s : Stt K G H (some va :: some vb :: σ) (some (.own a xs) :: some (.own b ys) :: δ)) : ∃ vs ws, va = .ref a ∧ vb = .ref b ∧ H a = some (.lst vs) ∧ H b = some (.lst ws) ∧ vs.length = xs.length ∧ ws.length = ys.length ∧
    ∀ q, H q = none → Step K G H (some (.own a xs) :: some (.own b ys) :: δ) G (upd H q (.lst (vs ++ ws))) (some (.ref q) :: σ) (some (.own q (xs ++ ys)) :: δ) := by
  have r1 := s.top
  have r2 := s.pop.top
  unfold RepO at r1 r2
  obtain ⟨e1, vs, g1, h1⟩ := r1
  obtain ⟨e2, ws, g2, h2⟩ := r2
  refine ⟨vs, ws, e1, e2, g1, g2, h1.length, h2.length, fun q n => ?_⟩
  have nd := s.nd
  rw [feet_some, foot_own, feet_some, foot_own] at nd
  obtain ⟨n1, n2, n3⟩ := List.nodup_append.mp nd
  obtain ⟨m1, m2, m3⟩ := List.nodup_append.mp n2
  have n1 := (List.nodup_cons.mp n1).2
  have m1 := (List.nodup_cons.mp m1).2
  have gq : G q = none := g_none s.ex n
  have mx : ∀ c ∈ foots xs, c ∈ feet (some (.own a xs) :: some (.own b ys) :: δ) := fun c hc => by rw [feet_some, foot_own]; exact List.mem_append_left _ (List.mem_cons_of_mem _ hc)
  have my : ∀ c ∈ foots ys, c ∈ feet (some (.own a xs) :: some (.own b ys) :: δ) := fun c hc => by rw [feet_some, feet_some, foot_own (a := b)]; exact List.mem_append_right _ (List.mem_append_left _ (List.mem_cons_of_mem _ hc))
  have mδ : ∀ c ∈ feet δ, c ∈ feet (some (.own a xs) :: some (.own b ys) :: δ) := fun c hc => by rw [feet_some, feet_some]; exact List.mem_append_right _ (List.mem_append_right _ hc)
  have out : ∀ {c}, c ∈ feet (some (.own a xs) :: some (.own b ys) :: δ) → c ≠ q := fun {c} h e => by subst e; exact (s.off c h).2 n
  have t := s.pop.pop
  have t2 : Stt K G (upd H q (.lst (vs ++ ws))) σ δ := t.keep (Same.refl _) (t.ex.trans (new_h n)) (fun c hc o ho => by rw [upd_ne (out (mδ c hc))]; exact ho) (fun c hc => (t.off c hc).1)
  have k1 := RepOs.mono (Same.refl G) xs vs (fun c hc o ho => (by rw [upd_ne (out (mx c hc))]; exact ho : upd H q (.lst (vs ++ ws)) c = some o)) h1
  have k2 := RepOs.mono (Same.refl G) ys ws (fun c hc o ho => (by rw [upd_ne (out (my c hc))]; exact ho : upd H q (.lst (vs ++ ws)) c = some o)) h2
  refine ⟨t2.push ?_ ?_ fun c hc => ?_, grow_same (Same.refl _) (new_h n) (fun _ h => .inl h), fun c hc => ?_⟩
  · unfold RepO
    exact ⟨rfl, _, upd_same, RepOs.apps k1 k2⟩
  · rw [foot_own, foots_append]
    refine List.nodup_cons.mpr ⟨fun h => ?_, List.nodup_append.mpr ⟨n1, m1, fun c hc d hd e => ?_⟩⟩
    · rcases List.mem_append.mp h with h | h
      · exact out (mx q h) rfl
      · exact out (my q h) rfl
    · subst e
      exact n3 c (List.mem_cons_of_mem _ hc) c (List.mem_append_left _ (List.mem_cons_of_mem _ hd)) rfl
  · rw [foot_own, foots_append] at hc
    rcases List.mem_cons.mp hc with h | h
    · subst h
      exact ⟨gq, by rw [upd_same]; simp, fun hd => out (mδ c hd) rfl⟩
    · rcases List.mem_append.mp h with h | h
      · have o := s.off c (mx c h)
        exact ⟨o.1, by rw [upd_ne (out (mx c h))]; exact o.2, fun hd => n3 c (List.mem_cons_of_mem _ h) c (List.mem_append_right _ hd) rfl⟩
      · have o := s.off c (my c h)
        exact ⟨o.1, by rw [upd_ne (out (my c h))]; exact o.2, fun hd => m3 c (List.mem_cons_of_mem _ h) c hd rfl⟩
  · rw [feet_some, foot_own, foots_append] at hc
    rcases List.mem_append.mp hc with h | h
    · rcases List.mem_cons.mp h with h | h
      · subst h; exact .inr n
      · rcases List.mem_append.mp h with h | h
        · exact .inl (mx c h)
        · exact .inl (my c h)
    · exact .inl (mδ c h)
/-- two own lists put together: their items go into the new one -/
theorem ev_catO (h : Ev X a δ fun x δ1 => ∃ la xs, x = .own la xs ∧ Ev X b δ1 fun y δ2 => ∃ lb ys, y = .own lb ys ∧ xs.length + ys.length ≤ 100000 ∧ ∀ l, Q (.own l (xs ++ ys)) δ2) : Ev X (.BinOp a .Add b pos) δ Q := fun G H σ s =>
  wE_of (pe_op op_cat wE_pe wE_pe) ((h G H σ s).imp fun v H1 ⟨u, G1, d1, s1, la, xs, e1, q⟩ => (q G1 H1 σ s1.st.pop).imp fun w H2 ⟨z, G2, d2, s2, lb, ys, e2, hz, q2⟩ => by
    subst e1; subst e2
    have t1 : Stt X.K G2 H2 (some v :: some w :: σ) (some (.own la xs) :: some (.own lb ys) :: d2) := s1.st.frame s2
    have f1 : ∀ a ∈ feet (some (.own la xs) :: some (.own lb ys) :: d2), a ∈ feet δ ∨ H a = none := fun a ha => by
      unfold feet at ha
      rcases List.mem_append.mp ha with h | h
      · exact s1.ft a (by unfold feet; exact List.mem_append_left _ h)
      · rcases s2.ft a h with h | h
        · exact s1.pop.ft a h
        · refine .inr ?_
          cases e : H a with
          | none => rfl
          | some o => exact absurd h (s1.gr.there a (by rw [e]; simp))
    have big : Step X.K G H δ G2 H2 (some v :: some w :: σ) (some (.own la xs) :: some (.own lb ys) :: d2) := ⟨t1, s1.gr.trans s2.gr s1.pop.ft, f1⟩
    obtain ⟨vs, ws, ev, ew, g1, g2, l1, l2, m⟩ := Step.merge (q := 0) t1
    exact ⟨la, lb, vs, ws, ev, ew, g1, g2, by rw [l1, l2, sizeLine_eq]; omega, fun p n => ⟨_, G2, d2, big.trans (m p n), q2 p⟩⟩)
/-! ### lists of lists of data -/
def LD (R : List (List D)) : D := .lst (R.map .lst)
theorem len_LD {R : List (List D)} (q : S (.fz (.int R.length))) : CD X (.builtin "len") [LD R] S := cd_len (by rw [List.length_map]; exact q)
theorem len_D {ds : List D} (q : S (.fz (.int ds.length))) : CD X (.builtin "len") [.lst ds] S := cd_len q
theorem ix_LD {R : List (List D)} {i : Int} (h0 : 0 ≤ i) (h1 : i < R.length) (q : S (.fz (.lst (R.getD i.toNat [])))) : IxD X (.fz (LD R)) (.fz (.int i)) S := ix_L (by
  unfold atI
  obtain ⟨j, rfl⟩ : ∃ j : Nat, i = j := ⟨i.toNat, by omega⟩
  rw [List.length_map, atN (by omega)]
  show (R.map D.lst)[j]? = some (D.lst (R.getD j []))
  rw [List.getElem?_map, List.getD_eq_getElem?_getD, List.getElem?_eq_getElem (by omega : j < R.length)]
  rfl) q
theorem ix_D {ds : List D} {i : Int} (h0 : 0 ≤ i) (h1 : i < ds.length) (q : S (.fz (ds.getD i.toNat .non))) : IxD X (.fz (.lst ds)) (.fz (.int i)) S := ix_L (by
  unfold atI
  obtain ⟨j, rfl⟩ : ∃ j : Nat, i = j := ⟨i.toNat, by omega⟩
  rw [atN (by omega)]
  show ds[j]? = some (ds.getD j .non)
  rw [List.getD_eq_getElem?_getD, List.getElem?_eq_getElem (by omega : j < ds.length)]
  rfl) q
/-- own rows, of any data -/
def RowsDD (xs : List OD) (R : List (List D)) : Prop := xs.length = R.length ∧ ∀ i, i < R.length → ∃ a, xs[i]? = some (ol a (R.getD i []))
theorem RowsDD.dats {xs : List OD} {R : List (List D)} (h : RowsDD xs R) : Vl.dats xs = R.map .lst := by
  obtain ⟨hl, h⟩ := h
  induction xs generalizing R with
  | nil =>
    cases R with
    | nil => unfold Vl.dats; rfl
    | cons r rs => simp at hl
  | cons x xs ih =>
    cases R with
    | nil => simp at hl
    | cons r rs =>
      unfold Vl.dats
      rw [ih (R := rs) (by simpa using hl) fun i hi => by
        obtain ⟨a, ha⟩ := h (i + 1) (by simpa using hi)
        exact ⟨a, by simpa using ha⟩]
      obtain ⟨a, ha⟩ := h 0 (by simp)
      simp at ha
      subst ha
      rw [List.map_cons, dat_olD]
theorem RowsDD.dat {xs : List OD} {R : List (List D)} {l : Addr} (h : RowsDD xs R) : Vl.dat (.own l xs) = LD R := by
  unfold Vl.dat
  rw [h.dats]
  rfl
theorem RowsDD.set {xs : List OD} {R : List (List D)} {n : Nat} {r : List D} {a : Addr} (h : RowsDD xs R) : RowsDD (xs.set n (ol a r)) (R.set n r) := by
  refine ⟨by rw [List.length_set, List.length_set, h.1], fun i hi => ?_⟩
  rw [List.length_set] at hi
  by_cases e : n = i
  · subst e
    exact ⟨a, by rw [List.getElem?_set_self (by rw [h.1]; exact hi), List.getD_eq_getElem?_getD, List.getElem?_set_self hi]; rfl⟩
  · rw [List.getElem?_set_ne e, List.getD_eq_getElem?_getD, List.getElem?_set_ne e, ← List.getD_eq_getElem?_getD]
    exact h.2 i hi
theorem RowsDD.app {xs : List OD} {R : List (List D)} {r : List D} {a : Addr} (h : RowsDD xs R) : RowsDD (xs ++ [ol a r]) (R ++ [r]) := by
  refine ⟨by rw [List.length_append, List.length_append, h.1]; rfl, fun i hi => ?_⟩
  rw [List.length_append, List.length_singleton] at hi
  by_cases e : i < R.length
  · obtain ⟨b, hb⟩ := h.2 i e
    exact ⟨b, by rw [List.getElem?_append_left (by rw [h.1]; exact e), hb, List.getD_eq_getElem?_getD, List.getD_eq_getElem?_getD, List.getElem?_append_left e]⟩
  · have e2 : i = R.length := by omega
    subst e2
    refine ⟨a, ?_⟩
    rw [← h.1, List.getElem?_append_right (Nat.le_refl _), Nat.sub_self, h.1, List.getD_eq_getElem?_getD, List.getElem?_append_right (Nat.le_refl _), Nat.sub_self]
    rfl
theorem getD_mapI {rows : List (List Int)} {i : Nat} : (rows.map fun r => r.map D.int).getD i [] = (rows.getD i []).map .int := by
  rw [List.getD_eq_getElem?_getD, List.getElem?_map, List.getD_eq_getElem?_getD]
  cases rows[i]? <;> rfl
theorem rowsDD_iff {xs : List OD} {rows : List (List Int)} : RowsDD xs (rows.map fun r => r.map D.int) ↔ RowsOD xs rows := by
  unfold RowsDD RowsOD
  rw [List.length_map]
  simp only [getD_mapI]
theorem LD_ints {rows : List (List Int)} : LD (rows.map fun r => r.map D.int) = LL rows := by
  unfold LD LL
  rw [List.map_map]
  rfl
end
end Vl

namespace Vl
open PySem PySem.Spec PyProof.Rows L2
section
variable {X : Cx} {S : OD → Prop}
/-- the last of a list -/
theorem ix_m1 {ns : List Int} (h : 0 < ns.length) (q : S (.fz (.int (ns.getD (ns.length - 1) 0)))) : IxD X (.fz (LI ns)) (.fz (.int (-1))) S := ix_L (by
  unfold atI ixN
  rw [List.length_map]
  show (if _ then _ else _ : Option Nat).bind _ = _
  rw [if_neg (by omega), if_pos (by omega)]
  rw [show (-1 + (ns.length : Int)).toNat = ns.length - 1 by omega]
  show (ns.map D.int)[ns.length - 1]? = some (D.int (ns.getD (ns.length - 1) 0))
  rw [List.getElem?_map, List.getD_eq_getElem?_getD, List.getElem?_eq_getElem (by omega : ns.length - 1 < ns.length)]
  rfl) q
end
end Vl

namespace Vl
open PySem PySem.Spec PyProof.Rows L2
section
variable {X : Cx} {e o b : Expr} {δ : En} {pos p : Pos} {l l2 : Addr} {x : OD} {ys zs : List OD} {f : List OD → OD} {d : D}
/-- a frozen item of an own list -/
theorem ed_itemF (i : Nat) {j : Int} {n : Nat} (ho : Sub X o δ l) (hx : δ[i]? = some (some x)) (a : At x l ys f) (hb : Ed X b (thawR δ) (.fz (.int j))) (hj : j = n) (hn : ys[n]? = some (.fz d)) (hs : PlainIx b := by exact fun _ _ => rfl) : Ed X (.Subscript o b pos) δ (.fz d) := fun G H σ s =>
  wE_of (pe_ix ix_list wE_pe wE_pe hs) ((ho G H σ s).imp fun v H1 ⟨e1, s1⟩ => by
    subst e1
    refine (hb H1 H1 σ s1.st.thawR).imp fun w H2 ⟨y, G2, d2, s2, e2, e3⟩ => ?_
    subst e2; subst e3
    have r := top_fz s2.st rfl
    unfold Rep at r
    subst r
    have t := unthawR s1.st s2.pop
    obtain ⟨u, hu, ru⟩ := t.st.rep i x hx
    obtain ⟨vs, hl, rs⟩ := a.read ru
    obtain ⟨w, hw, rw'⟩ := rs.at hn
    unfold RepO at rw'
    refine ⟨l, vs, j, w, rfl, rfl, .of hl, ?_, ⟨_, _, _, (s1.trans t).pushF rw', rfl, rfl⟩⟩
    subst hj
    exact atI_nat hw)
theorem foot_thaw {δ : En} {i : Nat} {x : OD} (h : (thaw δ)[i]? = some (some x)) : foot x = [] := by
  unfold thaw at h
  rw [List.getElem?_map] at h
  cases q : δ[i]? with
  | none => rw [q] at h; cases h
  | some o =>
    rw [q] at h
    cases o with
    | none => cases h
    | some y =>
      simp at h
      subst h
      unfold foot
      rfl
theorem feet_wipe_thaw {δ : En} {i : Nat} : feet (wipeE (thaw δ) [i]) = feet (thaw δ) := feet_wipe1 fun _ h => foot_thaw h
/-! own rows by their addresses -/
structure RowsA (as : List Addr) (xs : List OD) (R : List (List D)) : Prop where
  lx : xs.length = R.length
  la : as.length = R.length
  at' : ∀ i (h : i < as.length), xs[i]? = some (ol as[i] (R.getD i []))
theorem RowsDD.addrs : ∀ {xs : List OD} {R : List (List D)}, RowsDD xs R → ∃ as, RowsA as xs R
  | [], [], _ => ⟨[], rfl, rfl, fun i h => by cases h⟩
  | [], _ :: _, h => by cases h.1
  | _ :: _, [], h => by cases h.1
  | x :: xs, r :: R, h => by
    obtain ⟨a, ha⟩ := h.2 0 (by simp)
    have t : RowsDD xs R := ⟨by simpa using h.1, fun i hi => by
      obtain ⟨b, hb⟩ := h.2 (i + 1) (by simpa using hi)
      exact ⟨b, by simpa using hb⟩⟩
    obtain ⟨as, A⟩ := RowsDD.addrs t
    refine ⟨a :: as, by simpa using A.lx, by simpa using A.la, fun i hi => ?_⟩
    cases i with
    | zero => simpa using ha
    | succ i => simpa using A.at' i (by simpa using hi)
theorem RowsA.dd {as : List Addr} {xs : List OD} {R : List (List D)} (A : RowsA as xs R) : RowsDD xs R := ⟨A.lx, fun i hi => ⟨as[i]'(by rw [A.la]; exact hi), A.at' i (by rw [A.la]; exact hi)⟩⟩
theorem RowsA.hd {as : List Addr} {xs : List OD} {R : List (List D)} (A : RowsA as xs R) : xs.map hdD = as.map fun a => .op (.ref a) := by
  refine List.ext_getElem (by rw [List.length_map, List.length_map, A.lx, A.la]) fun i h1 h2 => ?_
  rw [List.length_map] at h1 h2
  rw [List.getElem_map, List.getElem_map]
  have := A.at' i h2
  rw [List.getElem?_eq_getElem h1] at this
  rw [Option.some.inj this]
  rfl
theorem RowsA.app {as : List Addr} {xs : List OD} {R : List (List D)} (A : RowsA as xs R) {k : Nat} (hk : k < as.length) (d : D) : RowsA as (xs.set k (.own as[k] ((R.getD k []).map .fz ++ [.fz d]))) (R.set k (R.getD k [] ++ [d])) := by
  refine ⟨by rw [List.length_set, List.length_set, A.lx], by rw [List.length_set, A.la], fun i hi => ?_⟩
  have e : OD.own as[k] ((R.getD k []).map OD.fz ++ [.fz d]) = ol as[k] (R.getD k [] ++ [d]) := by
    unfold ol
    rw [List.map_append]
    rfl
  rw [e]
  by_cases q : k = i
  · subst q
    rw [List.getElem?_set_self (by rw [A.lx, ← A.la]; exact hk), List.getD_eq_getElem?_getD (l := R.set _ _), List.getElem?_set_self (by rw [← A.la]; exact hk)]
    rfl
  · rw [List.getElem?_set_ne q, List.getD_eq_getElem?_getD, List.getElem?_set_ne q, ← List.getD_eq_getElem?_getD]
    exact A.at' i hi
/-- the first k rows with something behind -/
def apR (d : D) (R : List (List D)) (k : Nat) : List (List D) := (R.take k).map (· ++ [d]) ++ R.drop k
theorem apR_zero {R : List (List D)} : apR d R 0 = R := rfl
theorem apR_all {R : List (List D)} : apR d R R.length = R.map (· ++ [d]) := by unfold apR; rw [List.take_length, List.drop_length, List.append_nil]
theorem apR_len {R : List (List D)} {k : Nat} : (apR d R k).length = R.length := by unfold apR; rw [List.length_append, List.length_map, List.length_take, List.length_drop]; omega
theorem apR_at {R : List (List D)} {k : Nat} (hk : k < R.length) : (apR d R k).getD k [] = R.getD k [] := by
  unfold apR
  rw [List.getD_eq_getElem?_getD, List.getElem?_append_right (by rw [List.length_map, List.length_take]; omega), List.getElem?_drop, List.length_map, List.length_take, show k + (k - min k R.length) = k by omega, List.getD_eq_getElem?_getD]
theorem apR_succ {R : List (List D)} {k : Nat} (hk : k < R.length) : (apR d R k).set k ((apR d R k).getD k [] ++ [d]) = apR d R (k + 1) := by
  rw [apR_at hk]
  unfold apR
  rw [List.set_append_right _ _ (by rw [List.length_map, List.length_take]; omega), List.length_map, List.length_take, show k - min k R.length = 0 by omega, List.drop_eq_getElem_cons hk, List.set_cons_zero, List.take_succ, List.getElem?_eq_getElem hk, List.map_append, List.append_assoc, List.getD_eq_getElem?_getD, List.getElem?_eq_getElem hk]
  rfl
end
end Vl

namespace Vl
open PySem PySem.Spec PyProof.Rows L2
section
variable {α β γ : Type} [DecidableEq α] [DecidableEq β] [DecidableEq γ] {f : α → D} {g : β → D} {h : γ → D} {k k2 k3 : Nat}
def PyT.three (T : PyT α f k) (U : PyT β g k2) (W : PyT γ h k3) : PyT (α × β × γ) (fun z => .tup [f z.1, g z.2.1, h z.2.2]) (max (max k k2) k3 + 1) := ⟨fun z => .tuple [T.p z.1, U.p z.2.1, W.p z.2.2], fun z => by
  unfold Vl.py Vl.pys Vl.pys Vl.pys Vl.pys
  rw [T.py, U.py, W.py]
  rfl, fun z w => by
  unfold PyData.eqv PyData.eqvAll PyData.eqvAll PyData.eqvAll PyData.eqvAll
  rw [T.eq, U.eq, W.eq, Bool.eq_iff_iff]
  obtain ⟨a, b, c⟩ := z
  obtain ⟨d, e, f⟩ := w
  simp, fun z => by
  unfold PyData.canLay0 PyData.canLayAll0 PyData.canLayAll0 PyData.canLayAll0 PyData.canLayAll0
  rw [T.lay, U.lay, W.lay]
  rfl, fun z => by
  unfold PyData.depth PyData.depthAll PyData.depthAll PyData.depthAll PyData.depthAll
  have := T.dep z.1
  have := U.dep z.2.1
  have := W.dep z.2.2
  omega⟩
def PyT.suc : PyT Nat (fun n => D.int ((n + 1 : Nat) : Int)) 0 := ⟨fun n => .int ((n + 1 : Nat) : Int), fun a => by unfold Vl.py; rfl, fun a b => by
  unfold PyData.eqv
  rw [Bool.eq_iff_iff]
  simp
  omega, fun a => by unfold PyData.canLay0; rfl, fun a => by unfold PyData.depth; exact Nat.le_refl _⟩
end
section
variable {X : Cx} {S : OD → Prop}
/-- a piece and a row -/
def TP (r : List Int × List (List Int) × Nat) : D := .tup [LI r.1, LL r.2.1, .int ((r.2.2 + 1 : Nat) : Int)]
def ptTP : PyT (List Int × List (List Int) × Nat) TP 3 := PyT.three ptLI ptLL PyT.suc
theorem eq_TP {a b : List Int × List (List Int) × Nat} (hu : X.A.units + 64 < cLine) (q : S (.fz (.bl (decide (a = b))))) : RD X (compareOp .Eq) (.fz (TP a)) (.fz (TP b)) S := ptTP.eqR (by decide) hu q
theorem ne_TP {a b : List Int × List (List Int) × Nat} (hu : X.A.units + 64 < cLine) (q : S (.fz (.bl (!decide (a = b))))) : RD X (compareOp .NotEq) (.fz (TP a)) (.fz (TP b)) S := ptTP.neR (by decide) hu q
end
end Vl

namespace Hs
/-! plain: pieces -/
def MsOk (ms : List Int) : Prop := 1 ≤ ms.length ∧ ms.length ≤ 8 ∧ ∀ i, i < ms.length → 0 ≤ ms.getD i 0 ∧ ms.getD i 0 ≤ (if 0 < i then ms.getD (i - 1) 0 else 8)
def RowsOk (ms : List Int) (rows : List (List Int)) : Prop := rows.length = ms.length ∧ ∀ i, i < ms.length → ms.getD i 0 + (rows.getD i []).length ≤ (if 0 < i then ms.getD (i - 1) 0 + (rows.getD (i - 1) []).length else 8)
/-- the number at a cell, counted from 0 -/
def look (ms : List Int) (rows : List (List Int)) (h w : Int) : Option Int :=
  if 0 ≤ h ∧ h < rows.length then
    (if 0 ≤ w - ms.getD h.toNat 0 ∧ w - ms.getD h.toNat 0 < (rows.getD h.toNat []).length then some ((rows.getD h.toNat []).getD (w - ms.getD h.toNat 0).toNat 0) else none)
  else none
def aboveBad (ms : List Int) (rows : List (List Int)) (i at' : Nat) (x : Int) : Bool :=
  match look ms rows (i - 1) (ms.getD i 0 + at') with
  | none => false
  | some a => decide (x ≤ a)
def fallsB (ms : List Int) (rows : List (List Int)) (i : Nat) : Bool :=
  ((rows.getD i []).zip ((rows.getD i []).drop 1)).any (fun z => decide (z.2 < z.1)) || (List.range (rows.getD i []).length).any fun p => aboveBad ms rows i p ((rows.getD i []).getD p 0)
def wrongR (ms : List Int) (rows : List (List Int)) : List Int := ((List.range rows.length).filter (fallsB ms rows)).map fun i => ((i + 1 : Nat) : Int)
def goodRow (ms : List Int) (rows : List (List Int)) (i : Nat) : Bool :=
  (List.range (rows.getD i []).length).all fun p => !(decide (0 < p) && decide ((rows.getD i []).getD p 0 < (rows.getD i []).getD (p - 1) 0)) && !aboveBad ms rows i p ((rows.getD i []).getD p 0)
def goodB (ms : List Int) (rows : List (List Int)) : Bool := (List.range rows.length).all (goodRow ms rows)
theorem rows_le {ms : List Int} {rows : List (List Int)} (h : RowsOk ms rows) : ∀ i, i < ms.length → ms.getD i 0 + (rows.getD i []).length ≤ 8
  | 0, hi => by simpa using h.2 0 hi
  | i + 1, hi => by
    have h1 := h.2 (i + 1) hi
    rw [if_pos (Nat.succ_pos i), Nat.add_sub_cancel] at h1
    have h2 := rows_le h i (by omega)
    omega
theorem row_le {ms : List Int} {rows : List (List Int)} (hm : MsOk ms) (h : RowsOk ms rows) (i : Nat) : (rows.getD i []).length ≤ 8 := by
  by_cases hi : i < ms.length
  · have h1 := rows_le h i hi
    have h2 := (hm.2.2 i hi).1
    omega
  · have : rows.getD i [] = [] := by
      rw [List.getD_eq_getElem?_getD, List.getElem?_eq_none (by rw [h.1]; omega)]
      rfl
    rw [this]
    simp
theorem flat_le {ms : List Int} {rows : List (List Int)} (hm : MsOk ms) (h : RowsOk ms rows) : rows.flatten.length ≤ 64 := by
  rw [List.length_flatten]
  have h8 : ∀ x ∈ rows.map List.length, x ≤ 8 := fun x hx => by
    obtain ⟨r, hr, rfl⟩ := List.mem_map.mp hx
    obtain ⟨i, hi⟩ := List.getElem?_of_mem hr
    have := row_le hm h i
    rwa [List.getD_eq_getElem?_getD, hi] at this
  have key : ∀ l : List Nat, (∀ x ∈ l, x ≤ 8) → l.sum ≤ 8 * l.length := by
    intro l
    induction l with
    | nil => simp
    | cons x l ih =>
      intro hx
      have h1 := hx x List.mem_cons_self
      have h2 := ih fun y hy => hx y (List.mem_cons_of_mem _ hy)
      rw [List.sum_cons, List.length_cons]
      omega
  have := key _ h8
  rw [List.length_map] at this
  have := hm.2.1
  have := h.1
  omega
theorem zip_any (l : List Int) : (l.zip (l.drop 1)).any (fun z => decide (z.2 < z.1)) = (List.range l.length).any fun p => decide (0 < p) && decide (l.getD p 0 < l.getD (p - 1) 0) := by
  rw [Bool.eq_iff_iff, List.any_eq_true, List.any_eq_true]
  constructor
  · rintro ⟨z, hz, h⟩
    obtain ⟨i, hi⟩ := List.getElem?_of_mem hz
    rw [List.getElem?_zip_eq_some, List.getElem?_drop] at hi
    obtain ⟨h1, h2⟩ := hi
    refine ⟨1 + i, List.mem_range.mpr (List.getElem?_eq_some_iff.mp h2).1, ?_⟩
    have e1 : l.getD (1 + i) 0 = z.2 := by rw [List.getD_eq_getElem?_getD, h2]; rfl
    have e2 : l.getD (1 + i - 1) 0 = z.1 := by rw [show 1 + i - 1 = i by omega, List.getD_eq_getElem?_getD, h1]; rfl
    rw [e1, e2, show decide (0 < 1 + i) = true from decide_eq_true (by omega), Bool.true_and]
    exact h
  · rintro ⟨p, hp, h⟩
    have hp := List.mem_range.mp hp
    simp only [Bool.and_eq_true, decide_eq_true_eq] at h
    obtain ⟨h0, h1⟩ := h
    refine ⟨(l.getD (p - 1) 0, l.getD p 0), ?_, by simpa using h1⟩
    refine List.mem_of_getElem? (i := p - 1) ?_
    rw [List.getElem?_zip_eq_some, List.getElem?_drop]
    have : 1 + (p - 1) = p := by omega
    rw [this]
    refine ⟨?_, ?_⟩
    · show l[p - 1]? = some (l.getD (p - 1) 0)
      simp [show p - 1 < l.length by omega]
    · show l[p]? = some (l.getD p 0)
      simp [hp]
theorem good_row (ms : List Int) (rows : List (List Int)) (i : Nat) : goodRow ms rows i = !fallsB ms rows i := by
  unfold goodRow fallsB
  rw [zip_any]
  rw [Bool.eq_iff_iff]
  simp only [List.all_eq_true, Bool.not_eq_true', Bool.or_eq_false_iff, List.any_eq_false, Bool.and_eq_true, List.mem_range]
  constructor
  · intro h
    exact ⟨fun p hp => by have := (h p hp).1; simpa using this, fun p hp => by have := (h p hp).2; simpa using this⟩
  · rintro ⟨h1, h2⟩ p hp
    exact ⟨by have := h1 p hp; simpa using this, by have := h2 p hp; simpa using this⟩
theorem good_wrong (ms : List Int) (rows : List (List Int)) : decide (wrongR ms rows = []) = goodB ms rows := by
  rw [Bool.eq_iff_iff, decide_eq_true_eq]
  unfold wrongR goodB
  rw [List.map_eq_nil_iff, List.filter_eq_nil_iff, List.all_eq_true]
  constructor
  · intro h i hi
    rw [good_row]
    have := h i hi
    simpa using this
  · intro h i hi
    have := h i hi
    rw [good_row] at this
    simpa using this
end Hs
namespace Hs
def ShOk (ls : List Int) (high wide : Nat) : Prop := 1 ≤ ls.length ∧ ls.length ≤ high ∧ ∀ i, i < ls.length → 1 ≤ ls.getD i 0 ∧ ls.getD i 0 ≤ (if 0 < i then ls.getD (i - 1) 0 else (wide : Int))
def ShInv (ls : List Int) (m : Int) (wide : Nat) : Prop := (∀ i, i < ls.length → 1 ≤ ls.getD i 0 ∧ ls.getD i 0 ≤ (if 0 < i then ls.getD (i - 1) 0 else (wide : Int))) ∧ 1 ≤ m ∧ m ≤ (if 0 < ls.length then ls.getD (ls.length - 1) 0 else (wide : Int))
theorem ShInv.step {ls : List Int} {m m' : Int} {wide : Nat} (h : ShInv ls m wide) (h1 : 1 ≤ m') (h2 : m' ≤ m) : ShInv (ls ++ [m]) m' wide := by
  obtain ⟨a, b, c⟩ := h
  refine ⟨fun i hi => ?_, h1, ?_⟩
  · rw [List.length_append, List.length_singleton] at hi
    by_cases hlt : i < ls.length
    · have e1 : (ls ++ [m]).getD i 0 = ls.getD i 0 := by simp [List.getD_eq_getElem?_getD, List.getElem?_append_left hlt]
      have e2 : (ls ++ [m]).getD (i - 1) 0 = ls.getD (i - 1) 0 := by simp [List.getD_eq_getElem?_getD, List.getElem?_append_left (show i - 1 < ls.length by omega)]
      rw [e1, e2]
      exact a i hlt
    · have e : i = ls.length := by omega
      subst e
      have e1 : (ls ++ [m]).getD ls.length 0 = m := by simp
      rw [e1]
      refine ⟨b, ?_⟩
      by_cases h0 : 0 < ls.length
      · have e2 : (ls ++ [m]).getD (ls.length - 1) 0 = ls.getD (ls.length - 1) 0 := by simp [List.getD_eq_getElem?_getD, List.getElem?_append_left (show ls.length - 1 < ls.length by omega)]
        rw [if_pos h0] at c ⊢
        rw [e2]
        exact c
      · rw [if_neg h0] at c ⊢
        exact c
  · rw [if_pos (by simp), List.length_append, List.length_singleton, Nat.add_sub_cancel]
    have e1 : (ls ++ [m]).getD ls.length 0 = m := by simp
    rw [e1]
    exact h2
theorem sel3 (i : Int) (h0 : 0 ≤ i) (h1 : i < 3) : 0 < ([3, 3, 9] : List Int).getD i.toNat 0 := by
  have : i = 0 ∨ i = 1 ∨ i = 2 := by omega
  rcases this with rfl | rfl | rfl <;> decide
end Hs
namespace Hs
theorem rng_lo {z h : Int} (h0 : 0 < h) (h1 : h ≤ 1000) : -(2 ^ 62) ≤ 1 + z % h := by
  have := Int.emod_nonneg z (show h ≠ 0 by omega)
  omega
theorem rng_hi {z h : Int} (h0 : 0 < h) (h1 : h ≤ 1000) : 1 + z % h < 2 ^ 62 := by
  have := Int.emod_lt_of_pos z h0
  omega
end Hs
namespace Hs
/-- gone cells within lengths -/
def WiOk (gs ls : List Int) : Prop := gs.length = ls.length ∧ ∀ i, i < ls.length → 0 ≤ gs.getD i 0 ∧ gs.getD i 0 ≤ ls.getD i 0 ∧ gs.getD i 0 ≤ (if 0 < i then gs.getD (i - 1) 0 else ls.getD 0 0)
def WiInv (gs ls : List Int) (m : Int) : Prop := gs.length ≤ ls.length ∧ (∀ i, i < gs.length → 0 ≤ gs.getD i 0 ∧ gs.getD i 0 ≤ ls.getD i 0 ∧ gs.getD i 0 ≤ (if 0 < i then gs.getD (i - 1) 0 else ls.getD 0 0)) ∧ 0 ≤ m ∧ m ≤ (if 0 < gs.length then gs.getD (gs.length - 1) 0 else ls.getD 0 0)
theorem getD_app {l : List Int} {m : Int} {i : Nat} (h : i < l.length) : (l ++ [m]).getD i 0 = l.getD i 0 := by simp [List.getD_eq_getElem?_getD, List.getElem?_append_left h]
theorem getD_end {l : List Int} {m : Int} : (l ++ [m]).getD l.length 0 = m := by simp
theorem WiInv.step {gs ls : List Int} {m m' : Int} (h : WiInv gs ls m) (hl : gs.length < ls.length) (h1 : 0 ≤ m') (h2 : m' ≤ m) (h3 : m' ≤ ls.getD gs.length 0) : WiInv (gs ++ [m']) ls m' := by
  obtain ⟨a0, a, b, c⟩ := h
  refine ⟨by rw [List.length_append, List.length_singleton]; omega, fun i hi => ?_, h1, ?_⟩
  · rw [List.length_append, List.length_singleton] at hi
    by_cases hlt : i < gs.length
    · rw [getD_app hlt, getD_app (show i - 1 < gs.length by omega)]
      exact a i hlt
    · have e : i = gs.length := by omega
      subst e
      rw [getD_end]
      refine ⟨h1, h3, ?_⟩
      by_cases h0 : 0 < gs.length
      · rw [if_pos h0] at c ⊢
        rw [getD_app (show gs.length - 1 < gs.length by omega)]
        omega
      · rw [if_neg h0] at c ⊢
        omega
  · rw [if_pos (by simp), List.length_append, List.length_singleton, Nat.add_sub_cancel, getD_end]
    omega
end Hs

namespace Hs
def rowOf (rows : List (List Int)) (i : Nat) : List Int := rows.getD i []
def cellOk (gs : List Int) (rows : List (List Int)) (j p : Nat) : Prop := (0 < p → (rowOf rows j).getD (p - 1) 0 ≤ (rowOf rows j).getD p 0) ∧ ∀ a, look gs rows ((j : Int) - 1) (gs.getD j 0 + p) = some a → a < (rowOf rows j).getD p 0
theorem good_iff (gs : List Int) (rows : List (List Int)) : goodB gs rows = true ↔ ∀ j, j < rows.length → ∀ p, p < (rowOf rows j).length → cellOk gs rows j p := by
  unfold goodB goodRow aboveBad cellOk rowOf
  simp only [List.all_eq_true, List.mem_range, Bool.and_eq_true, Bool.not_eq_true', Bool.and_eq_false_iff, decide_eq_false_iff_not]
  refine ⟨fun h j hj p hp => ?_, fun h j hj p hp => ?_⟩
  · obtain ⟨h1, h2⟩ := h j hj p hp
    refine ⟨fun h0 => ?_, fun a ha => ?_⟩
    · rcases h1 with h1 | h1
      · exact absurd h0 h1
      · omega
    · rw [ha] at h2
      simp only [decide_eq_false_iff_not] at h2
      omega
  · obtain ⟨h1, h2⟩ := h j hj p hp
    refine ⟨?_, ?_⟩
    · by_cases h0 : 0 < p
      · have := h1 h0
        right
        omega
      · exact .inl h0
    · cases e : look gs rows ((j : Int) - 1) (gs.getD j 0 + p) with
      | none => rfl
      | some a =>
        have := h2 a e
        simp only [decide_eq_false_iff_not]
        omega
theorem rowOf_set {rows : List (List Int)} {i j : Nat} {r : List Int} (hi : i < rows.length) : rowOf (rows.set i r) j = if j = i then r else rowOf rows j := by
  unfold rowOf
  by_cases h : j = i
  · subst h
    rw [if_pos rfl, List.getD_eq_getElem?_getD, List.getElem?_set_self hi]
    rfl
  · rw [if_neg h, List.getD_eq_getElem?_getD, List.getElem?_set_ne (Ne.symm h), ← List.getD_eq_getElem?_getD]
theorem look_set {gs : List Int} {rows : List (List Int)} {i : Nat} {r : List Int} {h w : Int} (hi : i < rows.length) (hne : h ≠ i) : look gs (rows.set i r) h w = look gs rows h w := by
  unfold look
  rw [List.length_set]
  by_cases hc : 0 ≤ h ∧ h < rows.length
  · rw [if_pos hc, if_pos hc]
    have : (rows.set i r).getD h.toNat [] = rows.getD h.toNat [] := by
      have := rowOf_set (r := r) (j := h.toNat) hi
      rw [if_neg (by omega)] at this
      exact this
    rw [this]
  · rw [if_neg hc, if_neg hc]
theorem look_row {gs : List Int} {rows : List (List Int)} {i : Nat} {w : Int} (hi : i < rows.length) : look gs rows i w = if 0 ≤ w - gs.getD i 0 ∧ w - gs.getD i 0 < (rowOf rows i).length then some ((rowOf rows i).getD (w - gs.getD i 0).toNat 0) else none := by
  unfold look rowOf
  rw [if_pos (by omega), Int.toNat_natCast]
structure PInv (gs ls : List Int) (rows : List (List Int)) (i t : Nat) : Prop where
  len : rows.length = ls.length
  done : ∀ j, j < i → ((rowOf rows j).length : Int) = ls.getD j 0 - gs.getD j 0
  cur : (rowOf rows i).length = t
  rest : ∀ j, i < j → rowOf rows j = []
  ok : ∀ j p, p < (rowOf rows j).length → cellOk gs rows j p ∧ -3 ≤ (rowOf rows j).getD p 0 ∧ (rowOf rows j).getD p 0 ≤ 1000 * (j + gs.getD j 0 + p + 1)
theorem PInv.above {gs ls : List Int} {rows : List (List Int)} {i t : Nat} (h : PInv gs ls rows i t) (hg : ∀ j, 0 ≤ gs.getD j 0) {a : Int} {w : Int} (ha : look gs rows ((i : Int) - 1) w = some a) : -3 ≤ a ∧ a ≤ 1000 * (i + w) := by
  unfold look at ha
  by_cases hc : 0 ≤ (i : Int) - 1 ∧ (i : Int) - 1 < rows.length
  · rw [if_pos hc] at ha
    have e : ((i : Int) - 1).toNat = i - 1 := by omega
    rw [e] at ha
    by_cases hd : 0 ≤ w - gs.getD (i - 1) 0 ∧ w - gs.getD (i - 1) 0 < (rows.getD (i - 1) []).length
    · rw [if_pos hd] at ha
      have hx := h.ok (i - 1) (w - gs.getD (i - 1) 0).toNat (by unfold rowOf; omega)
      have : a = (rowOf rows (i - 1)).getD (w - gs.getD (i - 1) 0).toNat 0 := (Option.some.inj ha).symm
      rw [← this] at hx
      refine ⟨hx.2.1, ?_⟩
      have := hx.2.2
      omega
    · rw [if_neg hd] at ha; cases ha
  · rw [if_neg hc] at ha; cases ha
theorem PInv.left {gs ls : List Int} {rows : List (List Int)} {i t : Nat} (h : PInv gs ls rows i t) (hi : i < rows.length) : (t = 0 ∧ look gs rows i (gs.getD i 0 + t - 1) = none) ∨ (0 < t ∧ look gs rows i (gs.getD i 0 + t - 1) = some ((rowOf rows i).getD (t - 1) 0) ∧ -3 ≤ (rowOf rows i).getD (t - 1) 0 ∧ (rowOf rows i).getD (t - 1) 0 ≤ 1000 * (i + gs.getD i 0 + t)) := by
  rw [look_row hi, h.cur]
  by_cases h0 : 0 < t
  · right
    have hx := h.ok i (t - 1) (by rw [h.cur]; omega)
    refine ⟨h0, ?_, hx.2.1, ?_⟩
    · rw [if_pos (by omega)]
      congr 2
      omega
    · have := hx.2.2
      omega
  · left
    exact ⟨by omega, by rw [if_neg (by omega)]⟩
theorem PInv.add {gs ls : List Int} {rows : List (List Int)} {i t : Nat} {v : Int} (h : PInv gs ls rows i t) (hi : i < rows.length) (hl : 0 < t → (rowOf rows i).getD (t - 1) 0 ≤ v) (ha : ∀ a, look gs rows ((i : Int) - 1) (gs.getD i 0 + t) = some a → a < v) (h3 : -3 ≤ v) (hv : v ≤ 1000 * (i + gs.getD i 0 + t + 1)) :
    PInv gs ls (rows.set i (rowOf rows i ++ [v])) i (t + 1) := by
  refine ⟨by rw [List.length_set]; exact h.len, fun j hj => ?_, ?_, fun j hj => ?_, fun j p hp => ?_⟩
  · rw [rowOf_set hi, if_neg (by omega)]
    exact h.done j hj
  · rw [rowOf_set hi, if_pos rfl, List.length_append, List.length_singleton, h.cur]
  · rw [rowOf_set hi, if_neg (by omega)]
    exact h.rest j hj
  · rw [rowOf_set hi] at hp ⊢
    by_cases hji : j = i
    · subst hji
      rw [if_pos rfl] at hp ⊢
      rw [List.length_append, List.length_singleton, h.cur] at hp
      unfold cellOk
      rw [rowOf_set hi, if_pos rfl, look_set hi (by omega)]
      by_cases hpt : p < t
      · have hx := h.ok j p (by rw [h.cur]; exact hpt)
        have hlen : p < (rowOf rows j).length := by rw [h.cur]; exact hpt
        rw [getD_app hlen, getD_app (show p - 1 < (rowOf rows j).length by omega)]
        exact hx
      · have e : p = (rowOf rows j).length := by rw [h.cur]; omega
        have et : p = t := by rw [e, h.cur]
        subst et
        rw [e, getD_end]
        refine ⟨⟨fun h0 => ?_, fun a hA => ?_⟩, h3, ?_⟩
        · rw [getD_app (by omega), ← e]
          exact hl (by omega)
        · rw [← e] at hA
          exact ha a hA
        · rw [← e]; exact hv
    · rw [if_neg hji] at hp ⊢
      have hx := h.ok j p hp
      have hji2 : j < i := by
        rcases Nat.lt_or_ge j i with q | q
        · exact q
        · rw [h.rest j (by omega)] at hp
          simp at hp
      unfold cellOk at hx ⊢
      rw [rowOf_set hi, if_neg hji, look_set hi (by omega)]
      exact hx
theorem PInv.next {gs ls : List Int} {rows : List (List Int)} {i t : Nat} (h : PInv gs ls rows i t) (ht : (t : Int) = ls.getD i 0 - gs.getD i 0) : PInv gs ls rows (i + 1) 0 :=
  ⟨h.len, fun j hj => by
    by_cases e : j = i
    · subst e
      rw [h.cur]
      exact ht
    · exact h.done j (by omega), by rw [h.rest (i + 1) (by omega)]; rfl, fun j hj => h.rest j (by omega), h.ok⟩
theorem PInv.start (gs ls : List Int) : PInv gs ls (ls.map fun _ => []) 0 0 := by
  have e : ∀ j, rowOf (ls.map fun _ => ([] : List Int)) j = [] := fun j => by
    unfold rowOf
    rw [List.getD_eq_getElem?_getD, List.getElem?_map]
    cases ls[j]? <;> rfl
  exact ⟨by rw [List.length_map], fun j hj => absurd hj (Nat.not_lt_zero _), by rw [e]; rfl, fun j _ => e j, fun j p hp => by rw [e] at hp; simp at hp⟩
/-- a piece as the law draws it -/
structure PcOk (gs ls : List Int) (rows : List (List Int)) : Prop where
  wi : WiOk gs ls
  len : rows.length = ls.length
  row : ∀ i, i < ls.length → ((rowOf rows i).length : Int) = ls.getD i 0 - gs.getD i 0
  good : goodB gs rows = true
  bnd : ∀ i p, p < (rowOf rows i).length → -3 ≤ (rowOf rows i).getD p 0 ∧ (rowOf rows i).getD p 0 < 100000
end Hs
namespace Hs
theorem ShOk.le {ls : List Int} {wide : Nat} (h : ∀ i, i < ls.length → 1 ≤ ls.getD i 0 ∧ ls.getD i 0 ≤ (if 0 < i then ls.getD (i - 1) 0 else (wide : Int))) : ∀ i, i < ls.length → 1 ≤ ls.getD i 0 ∧ ls.getD i 0 ≤ wide
  | 0, hi => by have := h 0 hi; simpa using this
  | i + 1, hi => by
    have h1 := h (i + 1) hi
    have h2 := ShOk.le h i (by omega)
    rw [if_pos (Nat.succ_pos i), Nat.add_sub_cancel] at h1
    omega
theorem WiOk.nn {gs ls : List Int} (h : WiOk gs ls) (j : Nat) : 0 ≤ gs.getD j 0 := by
  by_cases hj : j < ls.length
  · exact (h.2 j hj).1
  · rw [List.getD_eq_getElem?_getD, List.getElem?_eq_none (by rw [h.1]; omega)]
    exact Int.le_refl _
end Hs
namespace Hs
theorem ms_le {ms : List Int} (h : MsOk ms) : ∀ i, i < ms.length → 0 ≤ ms.getD i 0 ∧ ms.getD i 0 ≤ 8
  | 0, hi => by have := h.2.2 0 hi; simpa using this
  | i + 1, hi => by
    have h1 := h.2.2 (i + 1) hi
    have h2 := ms_le h i (by omega)
    rw [if_pos (Nat.succ_pos i), Nat.add_sub_cancel] at h1
    omega
theorem ms_small {ms : List Int} (h : MsOk ms) : ∀ n ∈ ms, n.natAbs < 2 ^ 1900 := fun n hn => by
  obtain ⟨i, hi⟩ := List.getElem?_of_mem hn
  have := ms_le h i (List.getElem?_eq_some_iff.mp hi).1
  rw [List.getD_eq_getElem?_getD, hi] at this
  have h2 : n.natAbs ≤ 8 := by
    have e : (some n).getD 0 = n := rfl
    rw [e] at this
    omega
  exact Nat.lt_of_le_of_lt h2 (by decide +kernel)
end Hs

namespace Hs
theorem PcOk.ms {gs ls : List Int} {rows : List (List Int)} (h : PcOk gs ls rows) (hs : ShOk ls 8 8) : MsOk gs ∧ RowsOk gs rows := by
  have hle := ShOk.le hs.2.2
  have hgl := h.wi.1
  refine ⟨⟨by have := hs.1; omega, by have := hs.2.1; omega, fun i hi => ?_⟩, by rw [h.len, hgl], fun i hi => ?_⟩
  · have h1 := h.wi.2 i (by omega)
    refine ⟨h1.1, ?_⟩
    by_cases h0 : 0 < i
    · rw [if_pos h0] at h1 ⊢
      exact h1.2.2
    · rw [if_neg h0] at h1 ⊢
      have := hle 0 (by have := hs.1; omega)
      omega
  · have hr := h.row i (by omega)
    have h1 := hs.2.2 i (by omega)
    unfold rowOf at hr
    by_cases h0 : 0 < i
    · rw [if_pos h0] at h1 ⊢
      have hr2 := h.row (i - 1) (by omega)
      unfold rowOf at hr2
      omega
    · rw [if_neg h0] at h1 ⊢
      have := hle i (by omega)
      omega
theorem PcOk.mem {gs ls : List Int} {rows : List (List Int)} (h : PcOk gs ls rows) : ∀ r ∈ rows, ∀ n ∈ r, -3 ≤ n ∧ n < 100000 := fun r hr n hn => by
  obtain ⟨i, hi⟩ := List.getElem?_of_mem hr
  obtain ⟨p, hp⟩ := List.getElem?_of_mem hn
  have er : rowOf rows i = r := by unfold rowOf; rw [List.getD_eq_getElem?_getD, hi]; rfl
  have := h.bnd i p (by rw [er]; exact (List.getElem?_eq_some_iff.mp hp).1)
  rw [er, List.getD_eq_getElem?_getD, hp] at this
  exact this
theorem rowOf_map {rows : List (List Int)} {g : Int → Int} (j : Nat) : rowOf (rows.map (·.map g)) j = (rowOf rows j).map g := by
  unfold rowOf
  rw [List.getD_eq_getElem?_getD, List.getD_eq_getElem?_getD, List.getElem?_map]
  cases rows[j]? <;> rfl
theorem getD_map {r : List Int} {g : Int → Int} {p : Nat} (h : p < r.length) : (r.map g).getD p 0 = g (r.getD p 0) := by simp [h]
theorem look_map {gs : List Int} {rows : List (List Int)} {g : Int → Int} {h w : Int} : look gs (rows.map (·.map g)) h w = (look gs rows h w).map g := by
  unfold look
  rw [List.length_map]
  by_cases hc : 0 ≤ h ∧ h < rows.length
  · rw [if_pos hc, if_pos hc]
    have e := rowOf_map (rows := rows) (g := g) h.toNat
    unfold rowOf at e
    rw [e, List.length_map]
    by_cases hd : 0 ≤ w - gs.getD h.toNat 0 ∧ w - gs.getD h.toNat 0 < (rows.getD h.toNat []).length
    · rw [if_pos hd, if_pos hd, getD_map (by omega)]
      rfl
    · rw [if_neg hd, if_neg hd]
      rfl
  · rw [if_neg hc, if_neg hc]
    rfl
theorem good_map {gs : List Int} {rows : List (List Int)} {g : Int → Int} (hg : ∀ a b, a < b → g a < g b) (h : goodB gs rows = true) : goodB gs (rows.map (·.map g)) = true := by
  rw [good_iff] at h ⊢
  intro j hj p hp
  rw [List.length_map] at hj
  rw [rowOf_map, List.length_map] at hp
  obtain ⟨h1, h2⟩ := h j hj p hp
  unfold cellOk
  rw [rowOf_map, look_map, getD_map hp]
  refine ⟨fun h0 => ?_, fun a ha => ?_⟩
  · rw [getD_map (show p - 1 < _ by omega)]
    have := h1 h0
    rcases Int.lt_or_eq_of_le this with q | q
    · exact Int.le_of_lt (hg _ _ q)
    · rw [q]; exact Int.le_refl _
  · cases e : look gs rows ((j : Int) - 1) (gs.getD j 0 + p) with
    | none => rw [e] at ha; cases ha
    | some v =>
      rw [e] at ha
      cases ha
      exact hg _ _ (h2 v e)
theorem rowsOk_map {gs : List Int} {rows : List (List Int)} {g : Int → Int} (h : RowsOk gs rows) : RowsOk gs (rows.map (·.map g)) := by
  refine ⟨by rw [List.length_map]; exact h.1, fun i hi => ?_⟩
  have e := rowOf_map (rows := rows) (g := g)
  unfold rowOf at e
  rw [e, e, List.length_map, List.length_map]
  exact h.2 i hi
theorem rowsOk_set {gs : List Int} {rows : List (List Int)} {n : Nat} {r : List Int} (h : RowsOk gs rows) (hn : n < rows.length) (hr : r.length = (rows.getD n []).length) : RowsOk gs (rows.set n r) := by
  refine ⟨by rw [List.length_set]; exact h.1, fun i hi => ?_⟩
  have e : ∀ j, ((rows.set n r).getD j []).length = (rows.getD j []).length := fun j => by
    have := rowOf_set (r := r) (j := j) hn
    unfold rowOf at this
    rw [this]
    by_cases q : j = n
    · subst q; rw [if_pos rfl, hr]
    · rw [if_neg q]
  rw [e, e]
  exact h.2 i hi
theorem set_bound {rows : List (List Int)} {n p : Nat} {v B : Int} (h : ∀ r ∈ rows, ∀ x ∈ r, -B ≤ x ∧ x ≤ B) (hv : -B ≤ v ∧ v ≤ B) : ∀ r ∈ rows.set n ((rows.getD n []).set p v), ∀ x ∈ r, -B ≤ x ∧ x ≤ B := fun r hr x hx => by
  rcases List.mem_or_eq_of_mem_set hr with q | q
  · exact h r q x hx
  · subst q
    rcases List.mem_or_eq_of_mem_set hx with q | q
    · rw [List.getD_eq_getElem?_getD] at q
      cases e : rows[n]? with
      | none => rw [e] at q; simp at q
      | some r' =>
        rw [e] at q
        exact h r' (List.mem_of_getElem? e) x q
    · rw [q]; exact hv
end Hs
namespace Hs
theorem small_of {rows : List (List Int)} (h : ∀ r ∈ rows, ∀ x ∈ r, -(2 * 10 ^ 62) ≤ x ∧ x ≤ 2 * 10 ^ 62) : ∀ r ∈ rows, ∀ n ∈ r, n.natAbs < 2 ^ 1900 := fun r hr n hn => by
  have := h r hr n hn
  have h2 : n.natAbs ≤ 2 * 10 ^ 62 := by omega
  exact Nat.lt_of_le_of_lt h2 (by decide +kernel)
theorem step_sel (z : Int) (h0 : 0 ≤ z) : ∃ s : Nat, ([1, 2, 3, 500] : List Int).getD (z % 4).toNat 0 = (s : Int) ∧ 1 ≤ s ∧ s ≤ 500 := by
  have : z % 4 = 0 ∨ z % 4 = 1 ∨ z % 4 = 2 ∨ z % 4 = 3 := by omega
  rcases this with e | e | e | e <;> rw [e]
  · exact ⟨1, rfl, by omega, by omega⟩
  · exact ⟨2, rfl, by omega, by omega⟩
  · exact ⟨3, rfl, by omega, by omega⟩
  · exact ⟨500, rfl, by omega, by omega⟩
/-- what is known of a piece while it is looked at -/
structure Pc (gs : List Int) (rows : List (List Int)) (B : Int) : Prop where
  ms : MsOk gs
  rw' : RowsOk gs rows
  bd : ∀ r ∈ rows, ∀ x ∈ r, -B ≤ x ∧ x ≤ B
end Hs
namespace Hs
theorem p_a : MsOk [0] ∧ RowsOk [0] [[]] := by unfold MsOk RowsOk; decide
theorem p_b : MsOk [8, 8, 8, 8, 8, 8, 8, 8] ∧ RowsOk [8, 8, 8, 8, 8, 8, 8, 8] [[], [], [], [], [], [], [], []] := by unfold MsOk RowsOk; decide
theorem p_c : MsOk [0, 0] ∧ RowsOk [0, 0] [[1, 1], [1]] := by unfold MsOk RowsOk; decide
theorem p_d : MsOk [1, 0] ∧ RowsOk [1, 0] [[2], [1, 3]] := by unfold MsOk RowsOk; decide
theorem g_c : goodB [0, 0] [[1, 1], [1]] = false := by decide
theorem g_d : wrongR [1, 0] [[2], [1, 3]] = [] := by decide
end Hs

namespace Hs
/-! ### slides, on partial fillings: a filling by places, none where there is no number -/
abbrev PF := Nat → Nat → Option Int
def put (g : PF) (i j : Nat) (v : Option Int) : PF := fun a b => if a = i ∧ b = j then v else g a b
theorem put_same (g : PF) (i j : Nat) (v : Option Int) : put g i j v i j = v := by unfold put; simp
theorem put_ne (g : PF) {i j a b : Nat} (v : Option Int) (h : ¬ (a = i ∧ b = j)) : put g i j v a b = g a b := by unfold put; rw [if_neg h]
/-- sorted: what stands farther right and lower is greater -/
def Gs (g : PF) : Prop := ∀ i j i' j' a b, g i j = some a → g i' j' = some b → i ≤ i' → j ≤ j' → (i < i' → a < b) ∧ (i = i' → a ≤ b)
/-- the cells from m on, before r, row by row; none farther than the row above; the cell (h, c) a hole -/
structure Cfg (m r : Nat → Nat) (g : PF) (h c : Nat) : Prop where
  mm : ∀ i, m (i + 1) ≤ m i
  rr : ∀ i, r (i + 1) ≤ r i
  hole : m h ≤ c ∧ c < r h
  dom : ∀ i j, (g i j).isSome = true ↔ (m i ≤ j ∧ j < r i) ∧ ¬ (i = h ∧ j = c)
  srt : Gs g
theorem anti_le {m : Nat → Nat} (h : ∀ i, m (i + 1) ≤ m i) {i i' : Nat} (hi : i ≤ i') : m i' ≤ m i := by
  induction hi with
  | refl => exact Nat.le_refl _
  | step _ ih => exact Nat.le_trans (h _) ih
section
variable {m r : Nat → Nat} {g : PF} {h c : Nat}
theorem Cfg.ex (C : Cfg m r g h c) {i j : Nat} (h1 : m i ≤ j) (h2 : j < r i) (h3 : ¬ (i = h ∧ j = c)) : ∃ a, g i j = some a := Option.isSome_iff_exists.mp ((C.dom i j).mpr ⟨⟨h1, h2⟩, h3⟩)
theorem Cfg.of (C : Cfg m r g h c) {i j : Nat} {a : Int} (e : g i j = some a) : (m i ≤ j ∧ j < r i) ∧ ¬ (i = h ∧ j = c) := (C.dom i j).mp (by rw [e]; rfl)
theorem Cfg.gap (C : Cfg m r g h c) : g h c = none := by
  cases e : g h c with
  | none => rfl
  | some a => exact absurd ⟨rfl, rfl⟩ (C.of e).2
/-- the lower number goes up -/
theorem Cfg.down (C : Cfg m r g h c) {d : Int} (hd : g (h + 1) c = some d) (hr : ∀ x, g h (c + 1) = some x → d ≤ x) : Cfg m r (put (put g h c (some d)) (h + 1) c none) (h + 1) c := by
  have gd := C.of hd
  refine ⟨C.mm, C.rr, gd.1, fun i j => ?_, ?_⟩
  · by_cases e1 : i = h + 1 ∧ j = c
    · obtain ⟨rfl, rfl⟩ := e1
      rw [put_same]
      simp
    · rw [put_ne _ _ e1]
      by_cases e2 : i = h ∧ j = c
      · obtain ⟨rfl, rfl⟩ := e2
        rw [put_same]
        simp
        exact C.hole
      · rw [put_ne _ _ e2, C.dom]
        simp [e1, e2]
  · intro i j i' j' a b ha hb hi hj
    by_cases e1 : i = h + 1 ∧ j = c
    · obtain ⟨rfl, rfl⟩ := e1
      rw [put_same] at ha
      cases ha
    by_cases e1' : i' = h + 1 ∧ j' = c
    · obtain ⟨rfl, rfl⟩ := e1'
      rw [put_same] at hb
      cases hb
    rw [put_ne _ _ e1] at ha
    rw [put_ne _ _ e1'] at hb
    by_cases e2 : i = h ∧ j = c
    · obtain ⟨rfl, rfl⟩ := e2
      rw [put_same] at ha
      cases ha
      by_cases e2' : i' = i ∧ j' = j
      · obtain ⟨rfl, rfl⟩ := e2'
        rw [put_same] at hb
        cases hb
        exact ⟨fun q => absurd q (Nat.lt_irrefl _), fun _ => Int.le_refl _⟩
      rw [put_ne _ _ e2'] at hb
      have gb := C.of hb
      by_cases hl : i' = i
      · subst hl
        -- in the same row, right of the hole
        have hj1 : j + 1 ≤ j' := by omega
        obtain ⟨x, hx⟩ := C.ex (i := i') (j := j + 1) (by have := C.hole.1; omega) (by omega) (by omega)
        have h1 := hr x hx
        have h2 := (C.srt _ _ _ _ _ _ hx hb (Nat.le_refl _) hj1).2 rfl
        exact ⟨fun q => absurd q (Nat.lt_irrefl _), fun _ => by omega⟩
      · have hi1 : i + 1 ≤ i' := by omega
        refine ⟨fun _ => ?_, fun q => by omega⟩
        by_cases hrow : i' = i + 1
        · subst hrow
          have hj1 : j + 1 ≤ j' := by omega
          have hm1 := C.rr i
          obtain ⟨x, hx⟩ := C.ex (i := i) (j := j + 1) (by have := C.hole.1; omega) (by omega) (by omega)
          have h1 := hr x hx
          have h2 := (C.srt _ _ _ _ _ _ hx hb (by omega) hj1).1 (by omega)
          omega
        · exact (C.srt _ _ _ _ _ _ hd hb hi1 hj).1 (by omega)
    · rw [put_ne _ _ e2] at ha
      by_cases e2' : i' = h ∧ j' = c
      · obtain ⟨rfl, rfl⟩ := e2'
        rw [put_same] at hb
        cases hb
        have h1 := (C.srt _ _ _ _ _ _ ha hd (by omega) hj).1 (by omega)
        exact ⟨fun _ => h1, fun _ => Int.le_of_lt h1⟩
      · rw [put_ne _ _ e2'] at hb
        exact C.srt _ _ _ _ _ _ ha hb hi hj
/-- the right number goes left -/
theorem Cfg.right (C : Cfg m r g h c) {x : Int} (hx : g h (c + 1) = some x) (hd : ∀ d, g (h + 1) c = some d → x < d) : Cfg m r (put (put g h c (some x)) h (c + 1) none) h (c + 1) := by
  have gx := C.of hx
  refine ⟨C.mm, C.rr, gx.1, fun i j => ?_, ?_⟩
  · by_cases e1 : i = h ∧ j = c + 1
    · obtain ⟨rfl, rfl⟩ := e1
      rw [put_same]
      simp
    · rw [put_ne _ _ e1]
      by_cases e2 : i = h ∧ j = c
      · obtain ⟨rfl, rfl⟩ := e2
        rw [put_same]
        simp
        exact C.hole
      · rw [put_ne _ _ e2, C.dom]
        simp [e1, e2]
  · intro i j i' j' a b ha hb hi hj
    by_cases e1 : i = h ∧ j = c + 1
    · obtain ⟨rfl, rfl⟩ := e1
      rw [put_same] at ha
      cases ha
    by_cases e1' : i' = h ∧ j' = c + 1
    · obtain ⟨rfl, rfl⟩ := e1'
      rw [put_same] at hb
      cases hb
    rw [put_ne _ _ e1] at ha
    rw [put_ne _ _ e1'] at hb
    by_cases e2 : i = h ∧ j = c
    · obtain ⟨rfl, rfl⟩ := e2
      rw [put_same] at ha
      cases ha
      by_cases e2' : i' = i ∧ j' = j
      · obtain ⟨rfl, rfl⟩ := e2'
        rw [put_same] at hb
        cases hb
        exact ⟨fun q => absurd q (Nat.lt_irrefl _), fun _ => Int.le_refl _⟩
      rw [put_ne _ _ e2'] at hb
      have gb := C.of hb
      by_cases hl : i' = i
      · subst hl
        have h2 := (C.srt _ _ _ _ _ _ hx hb (Nat.le_refl _) (by omega)).2 rfl
        exact ⟨fun q => absurd q (Nat.lt_irrefl _), fun _ => h2⟩
      · refine ⟨fun _ => ?_, fun q => by omega⟩
        by_cases hcol : j' = j
        · subst hcol
          -- below the hole
          have hr1 := anti_le C.rr (show i + 1 ≤ i' by omega)
          obtain ⟨d, hd'⟩ := C.ex (i := i + 1) (j := j') (by have := C.mm i; have := C.hole.1; omega) (by omega) (by omega)
          have h1 := hd d hd'
          by_cases hrow : i' = i + 1
          · subst hrow
            rw [hd'] at hb
            cases hb
            exact h1
          · have h2 := (C.srt _ _ _ _ _ _ hd' hb (by omega) (Nat.le_refl _)).1 (by omega)
            omega
        · exact (C.srt _ _ _ _ _ _ hx hb hi (by omega)).1 (by omega)
    · rw [put_ne _ _ e2] at ha
      by_cases e2' : i' = h ∧ j' = c
      · obtain ⟨rfl, rfl⟩ := e2'
        rw [put_same] at hb
        cases hb
        exact C.srt _ _ _ _ _ _ ha hx hi (by omega)
      · rw [put_ne _ _ e2'] at hb
        exact C.srt _ _ _ _ _ _ ha hb hi hj
/-- the upper number goes down -/
theorem Cfg.up (C : Cfg m r g (h + 1) c) {u : Int} (hu : g h c = some u) (hl : ∀ x, 0 < c → g (h + 1) (c - 1) = some x → x ≤ u) : Cfg m r (put (put g (h + 1) c (some u)) h c none) h c := by
  have gu := C.of hu
  refine ⟨C.mm, C.rr, gu.1, fun i j => ?_, ?_⟩
  · by_cases e1 : i = h ∧ j = c
    · obtain ⟨rfl, rfl⟩ := e1
      rw [put_same]
      simp
    · rw [put_ne _ _ e1]
      by_cases e2 : i = h + 1 ∧ j = c
      · obtain ⟨rfl, rfl⟩ := e2
        rw [put_same]
        simp
        exact C.hole
      · rw [put_ne _ _ e2, C.dom]
        simp [e1, e2]
  · intro i j i' j' a b ha hb hi hj
    by_cases e1 : i = h ∧ j = c
    · obtain ⟨rfl, rfl⟩ := e1
      rw [put_same] at ha
      cases ha
    by_cases e1' : i' = h ∧ j' = c
    · obtain ⟨rfl, rfl⟩ := e1'
      rw [put_same] at hb
      cases hb
    rw [put_ne _ _ e1] at ha
    rw [put_ne _ _ e1'] at hb
    by_cases e2' : i' = h + 1 ∧ j' = c
    · obtain ⟨rfl, rfl⟩ := e2'
      rw [put_same] at hb
      cases hb
      by_cases e2 : i = h + 1 ∧ j = j'
      · obtain ⟨rfl, rfl⟩ := e2
        rw [put_same] at ha
        cases ha
        exact ⟨fun q => absurd q (Nat.lt_irrefl _), fun _ => Int.le_refl _⟩
      rw [put_ne _ _ e2] at ha
      have ga := C.of ha
      by_cases hrow : i = h + 1
      · subst hrow
        have hj1 : j ≤ j' - 1 := by omega
        obtain ⟨x, hx⟩ := C.ex (i := h + 1) (j := j' - 1) (by omega) (by have := C.hole.2; omega) (by omega)
        have h1 := hl x (by omega) hx
        have h2 := (C.srt _ _ _ _ _ _ ha hx (Nat.le_refl _) hj1).2 rfl
        exact ⟨fun q => absurd q (Nat.lt_irrefl _), fun _ => by omega⟩
      · refine ⟨fun _ => ?_, fun q => by omega⟩
        by_cases hup : i = h
        · subst hup
          have hj1 : j ≤ j' - 1 := by omega
          have hm1 := C.mm i
          obtain ⟨x, hx⟩ := C.ex (i := i + 1) (j := j' - 1) (by omega) (by have := C.hole.2; omega) (by omega)
          have h1 := hl x (by omega) hx
          have h2 := (C.srt _ _ _ _ _ _ ha hx (by omega) hj1).1 (by omega)
          omega
        · exact (C.srt _ _ _ _ _ _ ha hu (by omega) hj).1 (by omega)
    · rw [put_ne _ _ e2'] at hb
      by_cases e2 : i = h + 1 ∧ j = c
      · obtain ⟨rfl, rfl⟩ := e2
        rw [put_same] at ha
        cases ha
        have h1 := (C.srt _ _ _ _ _ _ hu hb (by omega) hj).1 (by omega)
        exact ⟨fun _ => h1, fun _ => Int.le_of_lt h1⟩
      · rw [put_ne _ _ e2] at ha
        exact C.srt _ _ _ _ _ _ ha hb hi hj
/-- the left number goes right -/
theorem Cfg.left (C : Cfg m r g h (c + 1)) {x : Int} (hx : g h c = some x) (hu : ∀ u, 0 < h → g (h - 1) (c + 1) = some u → u < x) : Cfg m r (put (put g h (c + 1) (some x)) h c none) h c := by
  have gx := C.of hx
  refine ⟨C.mm, C.rr, gx.1, fun i j => ?_, ?_⟩
  · by_cases e1 : i = h ∧ j = c
    · obtain ⟨rfl, rfl⟩ := e1
      rw [put_same]
      simp
    · rw [put_ne _ _ e1]
      by_cases e2 : i = h ∧ j = c + 1
      · obtain ⟨rfl, rfl⟩ := e2
        rw [put_same]
        simp
        exact C.hole
      · rw [put_ne _ _ e2, C.dom]
        simp [e1, e2]
  · intro i j i' j' a b ha hb hi hj
    by_cases e1 : i = h ∧ j = c
    · obtain ⟨rfl, rfl⟩ := e1
      rw [put_same] at ha
      cases ha
    by_cases e1' : i' = h ∧ j' = c
    · obtain ⟨rfl, rfl⟩ := e1'
      rw [put_same] at hb
      cases hb
    rw [put_ne _ _ e1] at ha
    rw [put_ne _ _ e1'] at hb
    by_cases e2' : i' = h ∧ j' = c + 1
    · obtain ⟨rfl, rfl⟩ := e2'
      rw [put_same] at hb
      cases hb
      by_cases e2 : i = i' ∧ j = c + 1
      · obtain ⟨rfl, rfl⟩ := e2
        rw [put_same] at ha
        cases ha
        exact ⟨fun q => absurd q (Nat.lt_irrefl _), fun _ => Int.le_refl _⟩
      rw [put_ne _ _ e2] at ha
      have ga := C.of ha
      by_cases hrow : i = i'
      · subst hrow
        have h2 := (C.srt _ _ _ _ _ _ ha hx (Nat.le_refl _) (by omega)).2 rfl
        exact ⟨fun q => absurd q (Nat.lt_irrefl _), fun _ => h2⟩
      · refine ⟨fun _ => ?_, fun q => by omega⟩
        by_cases hcol : j = c + 1
        · subst hcol
          have hm1 := anti_le C.mm (show i ≤ i' - 1 by omega)
          have hr1 := anti_le C.rr (show i' - 1 ≤ i' by omega)
          obtain ⟨u, hu'⟩ := C.ex (i := i' - 1) (j := c + 1) (by omega) (by have := C.hole.2; omega) (by omega)
          have h1 := hu u (by omega) hu'
          by_cases hup : i = i' - 1
          · subst hup
            rw [hu'] at ha
            cases ha
            exact h1
          · have h2 := (C.srt _ _ _ _ _ _ ha hu' (by omega) (Nat.le_refl _)).1 (by omega)
            omega
        · exact (C.srt _ _ _ _ _ _ ha hx hi (by omega)).1 (by omega)
    · rw [put_ne _ _ e2'] at hb
      by_cases e2 : i = h ∧ j = c + 1
      · obtain ⟨rfl, rfl⟩ := e2
        rw [put_same] at ha
        cases ha
        exact C.srt _ _ _ _ _ _ hx hb hi (by omega)
      · rw [put_ne _ _ e2] at ha
        exact C.srt _ _ _ _ _ _ ha hb hi hj
end
end Hs
namespace Hs
/-! ### steps, and back -/
abbrev Sst := PF × Nat × Nat
inductive Fw : Sst → Sst → Prop
  | down {g : PF} {h c : Nat} {d : Int} (hd : g (h + 1) c = some d) (hr : ∀ x, g h (c + 1) = some x → d ≤ x) : Fw (g, h, c) (put (put g h c (some d)) (h + 1) c none, h + 1, c)
  | right {g : PF} {h c : Nat} {x : Int} (hx : g h (c + 1) = some x) (hd : ∀ d, g (h + 1) c = some d → x < d) : Fw (g, h, c) (put (put g h c (some x)) h (c + 1) none, h, c + 1)
inductive Bk : Sst → Sst → Prop
  | up {g : PF} {h c : Nat} {u : Int} (hu : g h c = some u) (hl : ∀ x, 0 < c → g (h + 1) (c - 1) = some x → x ≤ u) : Bk (g, h + 1, c) (put (put g (h + 1) c (some u)) h c none, h, c)
  | left {g : PF} {h c : Nat} {x : Int} (hx : g h c = some x) (hu : ∀ u, 0 < h → g (h - 1) (c + 1) = some u → u < x) : Bk (g, h, c + 1) (put (put g h (c + 1) (some x)) h c none, h, c)
def Tf (s : Sst) : Prop := s.1 s.2.1 (s.2.2 + 1) = none ∧ s.1 (s.2.1 + 1) s.2.2 = none
def Tb (s : Sst) : Prop := (0 < s.2.2 → s.1 s.2.1 (s.2.2 - 1) = none) ∧ (0 < s.2.1 → s.1 (s.2.1 - 1) s.2.2 = none)
def CfgS (m r : Nat → Nat) (s : Sst) : Prop := Cfg m r s.1 s.2.1 s.2.2
section
variable {m r : Nat → Nat} {s t : Sst}
theorem Fw.cfg (C : CfgS m r s) (f : Fw s t) : CfgS m r t := by
  cases f with
  | down hd hr => exact Cfg.down C hd hr
  | right hx hd => exact Cfg.right C hx hd
theorem Bk.cfg (C : CfgS m r s) (f : Bk s t) : CfgS m r t := by
  cases f with
  | up hu hl => exact Cfg.up C hu hl
  | left hx hu => exact Cfg.left C hx hu
theorem put_back {g : PF} {i j i' j' : Nat} {v : Option Int} (hne : ¬ (i' = i ∧ j' = j)) (h1 : g i j = none) (h2 : g i' j' = v) : put (put (put (put g i j v) i' j' none) i' j' v) i j none = g := by
  funext a b
  by_cases e1 : a = i ∧ b = j
  · obtain ⟨rfl, rfl⟩ := e1
    rw [put_same, h1]
  · rw [put_ne _ _ e1]
    by_cases e2 : a = i' ∧ b = j'
    · obtain ⟨rfl, rfl⟩ := e2
      rw [put_same, h2]
    · rw [put_ne _ _ e2, put_ne _ _ e2, put_ne _ _ e1]
theorem Fw.bk (C : CfgS m r s) (f : Fw s t) : Bk t s := by
  cases f with
  | @down g h c d hd hr =>
    have C : Cfg m r g h c := C
    have hc : put (put g h c (some d)) (h + 1) c none h c = some d := by rw [put_ne _ _ (by omega), put_same]
    have := Bk.up (g := put (put g h c (some d)) (h + 1) c none) (h := h) (c := c) hc fun x h0 hx => by
      rw [put_ne _ _ (by omega), put_ne _ _ (by omega)] at hx
      exact (C.srt _ _ _ _ _ _ hx hd (Nat.le_refl _) (by omega)).2 rfl
    rw [put_back (by omega) C.gap hd] at this
    exact this
  | @right g h c x hx hd =>
    have C : Cfg m r g h c := C
    have hc : put (put g h c (some x)) h (c + 1) none h c = some x := by rw [put_ne _ _ (by omega), put_same]
    have := Bk.left (g := put (put g h c (some x)) h (c + 1) none) (h := h) (c := c) hc fun u h0 hu => by
      rw [put_ne _ _ (by omega), put_ne _ _ (by omega)] at hu
      exact (C.srt _ _ _ _ _ _ hu hx (by omega) (Nat.le_refl _)).1 (by omega)
    rw [put_back (by omega) C.gap hx] at this
    exact this
theorem Bk.fw (C : CfgS m r s) (f : Bk s t) : Fw t s := by
  cases f with
  | @up g h c u hu hl =>
    have C : Cfg m r g (h + 1) c := C
    have hc : put (put g (h + 1) c (some u)) h c none (h + 1) c = some u := by rw [put_ne _ _ (by omega), put_same]
    have := Fw.down (g := put (put g (h + 1) c (some u)) h c none) (h := h) (c := c) hc fun x hx => by
      rw [put_ne _ _ (by omega), put_ne _ _ (by omega)] at hx
      exact (C.srt _ _ _ _ _ _ hu hx (Nat.le_refl _) (by omega)).2 rfl
    rw [put_back (by omega) C.gap hu] at this
    exact this
  | @left g h c x hx hu =>
    have C : Cfg m r g h (c + 1) := C
    have hc : put (put g h (c + 1) (some x)) h c none h (c + 1) = some x := by rw [put_ne _ _ (by omega), put_same]
    have := Fw.right (g := put (put g h (c + 1) (some x)) h c none) (h := h) (c := c) hc fun d hd => by
      rw [put_ne _ _ (by omega), put_ne _ _ (by omega)] at hd
      exact (C.srt _ _ _ _ _ _ hx hd (by omega) (Nat.le_refl _)).1 (by omega)
    rw [put_back (by omega) C.gap hx] at this
    exact this
theorem Fw.det {t' : Sst} (f : Fw s t) (f' : Fw s t') : t = t' := by
  cases f with
  | down hd hr => cases f' with
    | down hd' hr' => rw [hd] at hd'; cases hd'; rfl
    | right hx' hd' => have := hr _ hx'; have := hd' _ hd; omega
  | right hx hd => cases f' with
    | down hd' hr' => have := hd _ hd'; have := hr' _ hx; omega
    | right hx' hd' => rw [hx] at hx'; cases hx'; rfl
theorem Bk.det {t' : Sst} (f : Bk s t) (f' : Bk s t') : t = t' := by
  cases f with
  | up hu hl => cases f' with
    | up hu' hl' => rw [hu] at hu'; cases hu'; rfl
    | left hx' hu' => have := hl _ (by omega) hx'; have := hu' _ (by omega) hu; omega
  | @left g h c x hx hu =>
    generalize hs : (g, h, c + 1) = s0 at f'
    cases f' with
    | @up g' h' c' u' hu' hl' =>
      cases hs
      have := hl' _ (by omega) hx
      have := hu _ (by omega) hu'
      omega
    | left hx' hu' => cases hs; rw [hx] at hx'; cases hx'; rfl
theorem Fw.notT (f : Fw s t) : ¬ Tf s := fun h => by
  cases f with
  | down hd _ => have := h.2; simp only at this; rw [hd] at this; cases this
  | right hx _ => have := h.1; simp only at this; rw [hx] at this; cases this
theorem Bk.notT (f : Bk s t) : ¬ Tb s := fun h => by
  cases f with
  | up hu _ => have := h.2 (Nat.succ_pos _); simp only [Nat.add_sub_cancel] at this; rw [hu] at this; cases this
  | left hx _ => have := h.1 (Nat.succ_pos _); simp only [Nat.add_sub_cancel] at this; rw [hx] at this; cases this
end
/-- many steps -/
inductive Star (R : Sst → Sst → Prop) : Sst → Sst → Prop
  | refl {s : Sst} : Star R s s
  | head {s t u : Sst} (h : R s t) (r : Star R t u) : Star R s u
theorem Star.tail {R : Sst → Sst → Prop} {s t u : Sst} (h : Star R s t) (r : R t u) : Star R s u := by
  induction h with
  | refl => exact .head r .refl
  | head a _ ih => exact .head a (ih r)
theorem Star.cfgF {m r : Nat → Nat} {s t : Sst} (C : CfgS m r s) (h : Star Fw s t) : CfgS m r t := by
  induction h with
  | refl => exact C
  | head a _ ih => exact ih (a.cfg C)
theorem Star.cfgB {m r : Nat → Nat} {s t : Sst} (C : CfgS m r s) (h : Star Bk s t) : CfgS m r t := by
  induction h with
  | refl => exact C
  | head a _ ih => exact ih (a.cfg C)
theorem Star.back {m r : Nat → Nat} {s t : Sst} (C : CfgS m r s) (h : Star Fw s t) : Star Bk t s := by
  induction h with
  | refl => exact .refl
  | head a _ ih => exact (ih (a.cfg C)).tail (a.bk C)
theorem Star.forth {m r : Nat → Nat} {s t : Sst} (C : CfgS m r s) (h : Star Bk s t) : Star Fw t s := by
  induction h with
  | refl => exact .refl
  | head a _ ih => exact (ih (a.cfg C)).tail (a.fw C)
theorem Star.uniqF {s t t' : Sst} (h : Star Fw s t) (h' : Star Fw s t') (e : Tf t) (e' : Tf t') : t = t' := by
  induction h with
  | refl => cases h' with
    | refl => rfl
    | head a _ => exact absurd e a.notT
  | head a _ ih => cases h' with
    | refl => exact absurd e' a.notT
    | head b r => exact ih (by rw [a.det b]; exact r) e
theorem Star.uniqB {s t t' : Sst} (h : Star Bk s t) (h' : Star Bk s t') (e : Tb t) (e' : Tb t') : t = t' := by
  induction h with
  | refl => cases h' with
    | refl => rfl
    | head a _ => exact absurd e a.notT
  | head a _ ih => cases h' with
    | refl => exact absurd e' a.notT
    | head b r => exact ih (by rw [a.det b]; exact r) e
end Hs

namespace Hs
/-! ### slides of pieces told by lists -/
def gL (ms : List Int) (rows : List (List Int)) : PF := fun i j => look ms rows (i : Int) (j : Int)
def mN (ms : List Int) (i : Nat) : Nat := (ms.getD i 0).toNat
def rN (ms : List Int) (rows : List (List Int)) (i : Nat) : Nat := mN ms i + (rowOf rows i).length
def Nn (ms : List Int) : Prop := ∀ i, 0 ≤ ms.getD i 0
theorem mN_cast {ms : List Int} (h : Nn ms) (i : Nat) : ((mN ms i : Nat) : Int) = ms.getD i 0 := by have := h i; unfold mN; omega
theorem gL_eq {ms : List Int} (h : Nn ms) (rows : List (List Int)) (i j : Nat) : gL ms rows i j = if mN ms i ≤ j ∧ j < rN ms rows i then some ((rowOf rows i).getD (j - mN ms i) 0) else none := by
  unfold gL look rN
  have e := mN_cast h i
  rw [Int.toNat_natCast]
  by_cases hi : i < rows.length
  · rw [if_pos (by omega)]
    show (if 0 ≤ (j : Int) - ms.getD i 0 ∧ (j : Int) - ms.getD i 0 < ((rowOf rows i).length : Int) then some ((rowOf rows i).getD ((j : Int) - ms.getD i 0).toNat 0) else none) = _
    by_cases c : mN ms i ≤ j ∧ j < mN ms i + (rowOf rows i).length
    · rw [if_pos c, if_pos (by omega)]
      congr 2
      omega
    · rw [if_neg c, if_neg (by omega)]
  · rw [if_neg (by omega)]
    have : rowOf rows i = [] := by unfold rowOf; rw [List.getD_eq_getElem?_getD, List.getElem?_eq_none (by omega)]; rfl
    rw [this, if_neg (by simp)]
theorem gL_some {ms : List Int} (h : Nn ms) {rows : List (List Int)} {i j : Nat} : (gL ms rows i j).isSome = true ↔ mN ms i ≤ j ∧ j < rN ms rows i := by
  rw [gL_eq h]
  by_cases c : mN ms i ≤ j ∧ j < rN ms rows i
  · rw [if_pos c]; simp [c]
  · rw [if_neg c]; simp [c]
/-- a cell's number changed -/
def setC (ms : List Int) (rows : List (List Int)) (h c : Nat) (v : Int) : List (List Int) := rows.set h ((rowOf rows h).set (c - mN ms h) v)
theorem setC_len {ms : List Int} {rows : List (List Int)} {h c : Nat} {v : Int} : (setC ms rows h c v).length = rows.length := by unfold setC; rw [List.length_set]
theorem rowOf_set' {rows : List (List Int)} {i j : Nat} {r : List Int} : rowOf (rows.set i r) j = if j = i ∧ i < rows.length then r else rowOf rows j := by
  by_cases hi : i < rows.length
  · rw [rowOf_set hi]
    by_cases e : j = i
    · rw [if_pos e, if_pos ⟨e, hi⟩]
    · rw [if_neg e, if_neg (fun q => e q.1)]
  · rw [List.set_eq_of_length_le (by omega), if_neg (fun q => hi q.2)]
theorem setC_row {ms : List Int} {rows : List (List Int)} {h c : Nat} {v : Int} (i : Nat) : (rowOf (setC ms rows h c v) i).length = (rowOf rows i).length := by
  unfold setC
  rw [rowOf_set']
  split
  · rename_i q
    rw [List.length_set, q.1]
  · rfl
theorem row_lt {rows : List (List Int)} {i : Nat} (h : 0 < (rowOf rows i).length) : i < rows.length := by
  rcases Nat.lt_or_ge i rows.length with q | q
  · exact q
  · unfold rowOf at h
    rw [List.getD_eq_getElem?_getD, List.getElem?_eq_none q] at h
    simp at h
theorem gL_setC {ms : List Int} (hn : Nn ms) {rows : List (List Int)} {h c : Nat} (v : Int) (hc : mN ms h ≤ c ∧ c < rN ms rows h) : gL ms (setC ms rows h c v) = put (gL ms rows) h c (some v) := by
  funext i j
  have hl : h < rows.length := row_lt (by unfold rN at hc; omega)
  have er : rN ms (setC ms rows h c v) i = rN ms rows i := by unfold rN; rw [setC_row]
  rw [gL_eq hn, er]
  by_cases e : i = h ∧ j = c
  · obtain ⟨rfl, rfl⟩ := e
    rw [put_same, if_pos hc]
    unfold setC
    rw [rowOf_set', if_pos ⟨rfl, hl⟩]
    unfold rN at hc
    rw [List.getD_eq_getElem?_getD, List.getElem?_set_self (by omega)]
    rfl
  · rw [put_ne _ _ e, gL_eq hn]
    by_cases d : mN ms i ≤ j ∧ j < rN ms rows i
    · rw [if_pos d, if_pos d]
      congr 1
      unfold setC
      rw [rowOf_set']
      split
      · rename_i q
        obtain ⟨rfl, _⟩ := q
        rw [List.getD_eq_getElem?_getD, List.getElem?_set_ne (by omega), ← List.getD_eq_getElem?_getD]
      · rfl
    · rw [if_neg d, if_neg d]
theorem put_put {g : PF} {i j : Nat} {v w : Option Int} : put (put g i j v) i j w = put g i j w := by
  funext a b
  by_cases e : a = i ∧ b = j
  · obtain ⟨rfl, rfl⟩ := e; rw [put_same, put_same]
  · rw [put_ne _ _ e, put_ne _ _ e, put_ne _ _ e]
theorem put_comm {g : PF} {i j i' j' : Nat} {v w : Option Int} (h : ¬ (i = i' ∧ j = j')) : put (put g i j v) i' j' w = put (put g i' j' w) i j v := by
  funext a b
  by_cases e : a = i ∧ b = j
  · obtain ⟨rfl, rfl⟩ := e
    rw [put_ne _ _ h, put_same, put_same]
  · by_cases e' : a = i' ∧ b = j'
    · obtain ⟨rfl, rfl⟩ := e'
      rw [put_same, put_ne _ _ e, put_same]
    · rw [put_ne _ _ e', put_ne _ _ e, put_ne _ _ e, put_ne _ _ e']
/-! the numbers, in any order -/
theorem erase_perm : ∀ {l : List Int} {i : Nat} (h : i < l.length), l.Perm (l[i] :: l.eraseIdx i)
  | a :: r, 0, _ => List.Perm.refl _
  | a :: r, i + 1, h => ((erase_perm (l := r) (i := i) (by simpa using h)).cons a).trans (List.Perm.swap _ _ _)
theorem set_perm {l : List Int} {i : Nat} {x v : Int} {rest : List Int} (hi : l[i]? = some x) (hp : l.Perm (x :: rest)) : (l.set i v).Perm (v :: rest) := by
  induction l generalizing i rest with
  | nil => simp at hi
  | cons a r ih =>
    cases i with
    | zero =>
      simp at hi
      subst hi
      exact (List.Perm.cons_inv hp).cons v
    | succ i =>
      have hi : r[i]? = some x := by simpa using hi
      obtain ⟨hlt, hx⟩ := List.getElem?_eq_some_iff.mp hi
      have p1 : r.Perm (x :: r.eraseIdx i) := by rw [← hx]; exact erase_perm hlt
      have p2 := ih hi p1
      have p3 : (a :: r.eraseIdx i).Perm rest := by
        have q : (x :: a :: r.eraseIdx i).Perm (x :: rest) := (List.Perm.swap a x _).symm.symm.trans ((p1.symm.cons a).trans hp)
        exact q.cons_inv
      rw [List.set_cons_succ]
      exact ((p2.cons a).trans (List.Perm.swap v a _)).trans (p3.cons v)
/-- the content of a cell -/
def cellL (ms : List Int) (rows : List (List Int)) (h c : Nat) : Int := (rowOf rows h).getD (c - mN ms h) 0
theorem flat_row {rows : List (List Int)} {h : Nat} {r' : List Int} (hl : h < rows.length) {x v : Int} {rest : List Int} (hr : ∀ t : List Int, (rowOf rows h).Perm (x :: t) → r'.Perm (v :: t)) (hx : x ∈ rowOf rows h) (hp : rows.flatten.Perm (x :: rest)) : (rows.set h r').flatten.Perm (v :: rest) := by
  have e : rowOf rows h = rows[h] := by unfold rowOf; simp [hl]
  rw [e] at hr hx
  have s1 : rows = rows.take h ++ rows[h] :: rows.drop (h + 1) := by simp
  have s2 : rows.set h r' = rows.take h ++ r' :: rows.drop (h + 1) := by rw [List.set_eq_take_append_cons_drop, if_pos hl]
  have p1 : rows[h].Perm (x :: rows[h].erase x) := List.perm_cons_erase hx
  have p2 := hr _ p1
  have q1 : rows.flatten.Perm (x :: ((rows.take h).flatten ++ (rows[h].erase x ++ (rows.drop (h + 1)).flatten))) := by
    have : rows.flatten = (rows.take h).flatten ++ (rows[h] ++ (rows.drop (h + 1)).flatten) := by
      conv => lhs; rw [s1]
      rw [List.flatten_append, List.flatten_cons]
    rw [this]
    exact ((p1.append_right _).append_left _).trans List.perm_middle
  have q2 : (rows.set h r').flatten.Perm (v :: ((rows.take h).flatten ++ (rows[h].erase x ++ (rows.drop (h + 1)).flatten))) := by
    rw [s2, List.flatten_append, List.flatten_cons]
    exact ((p2.append_right _).append_left _).trans List.perm_middle
  exact q2.trans (((q1.symm.trans hp).cons_inv).cons v)
theorem setC_perm {ms : List Int} {rows : List (List Int)} {h c : Nat} {v : Int} {rest : List Int} (hc : mN ms h ≤ c ∧ c < rN ms rows h) (hp : rows.flatten.Perm (cellL ms rows h c :: rest)) : (setC ms rows h c v).flatten.Perm (v :: rest) := by
  unfold rN at hc
  have hlt : c - mN ms h < (rowOf rows h).length := by omega
  have hi : (rowOf rows h)[c - mN ms h]? = some (cellL ms rows h c) := by
    unfold cellL
    rw [List.getD_eq_getElem?_getD, List.getElem?_eq_getElem hlt]
    rfl
  exact flat_row (row_lt (by omega)) (fun t ht => set_perm hi ht) (List.mem_of_getElem? hi) hp
theorem last_perm {ms : List Int} {rows : List (List Int)} {h c : Nat} {rest : List Int} (hc : mN ms h ≤ c) (he : c + 1 = rN ms rows h) (hp : rows.flatten.Perm (cellL ms rows h c :: rest)) : (rows.set h (rowOf rows h).dropLast).flatten.Perm rest := by
  unfold rN at he
  have hlt : c - mN ms h < (rowOf rows h).length := by omega
  have hne : rowOf rows h ≠ [] := fun q => by rw [q] at hlt; simp at hlt
  have el : (rowOf rows h).getLast hne = cellL ms rows h c := by
    unfold cellL
    rw [List.getLast_eq_getElem, List.getD_eq_getElem?_getD, List.getElem?_eq_getElem hlt]
    simp only [Option.getD_some]
    congr 1
    omega
  have hx : cellL ms rows h c ∈ rowOf rows h := by rw [← el]; exact List.getLast_mem hne
  -- with any number ahead
  have key := flat_row (r' := 0 :: (rowOf rows h).dropLast) (v := 0) (row_lt (by omega)) (fun t ht => by
    have : (rowOf rows h).Perm (cellL ms rows h c :: (rowOf rows h).dropLast) := by
      conv => lhs; rw [← List.dropLast_concat_getLast hne, el]
      exact List.perm_append_singleton _ _
    exact ((this.symm.trans ht).cons_inv).cons 0) hx hp
  have hl : h < rows.length := row_lt (by omega)
  have s2 : ∀ r' : List Int, rows.set h r' = rows.take h ++ r' :: rows.drop (h + 1) := fun r' => by rw [List.set_eq_take_append_cons_drop, if_pos hl]
  rw [s2, List.flatten_append, List.flatten_cons] at key ⊢
  exact (List.perm_middle.symm.trans key).cons_inv
theorem first_perm {ms : List Int} {rows : List (List Int)} {h c : Nat} {rest : List Int} (hc : c = mN ms h) (he : c < rN ms rows h) (hp : rows.flatten.Perm (cellL ms rows h c :: rest)) : (rows.set h ((rowOf rows h).drop 1)).flatten.Perm rest := by
  subst hc
  unfold rN at he
  have hlt : 0 < (rowOf rows h).length := by omega
  obtain ⟨a, r, er⟩ : ∃ a r, rowOf rows h = a :: r := by
    cases q : rowOf rows h with
    | nil => rw [q] at hlt; simp at hlt
    | cons a r => exact ⟨a, r, rfl⟩
  have el : cellL ms rows h (mN ms h) = a := by unfold cellL; rw [er, Nat.sub_self]; rfl
  have key := flat_row (r' := 0 :: r) (v := 0) (row_lt hlt) (fun t ht => by
    rw [er, el] at ht
    exact (ht.cons_inv).cons 0) (by rw [er, el]; exact List.mem_cons_self) hp
  have hl : h < rows.length := row_lt hlt
  have s2 : ∀ r' : List Int, rows.set h r' = rows.take h ++ r' :: rows.drop (h + 1) := fun r' => by rw [List.set_eq_take_append_cons_drop, if_pos hl]
  rw [s2, List.flatten_append, List.flatten_cons] at key ⊢
  rw [er, List.drop_one, List.tail_cons]
  exact (List.perm_middle.symm.trans key).cons_inv
/-! the hole's way -/
def slidGo : Nat → List Int → List (List Int) → Nat → Nat → List (List Int) × Nat
  | 0, _, rows, h, _ => (rows, h)
  | n + 1, ms, rows, h, c =>
    match gL ms rows h (c + 1), gL ms rows (h + 1) c with
    | none, none => (rows.set h (rowOf rows h).dropLast, h)
    | none, some d => slidGo n ms (setC ms rows h c d) (h + 1) c
    | some x, none => slidGo n ms (setC ms rows h c x) h (c + 1)
    | some x, some d => if d ≤ x then slidGo n ms (setC ms rows h c d) (h + 1) c else slidGo n ms (setC ms rows h c x) h (c + 1)
def backGo : Nat → List Int → List (List Int) → Nat → Nat → List (List Int) × Nat
  | 0, _, rows, h, _ => (rows, h)
  | n + 1, ms, rows, h, c =>
    match look ms rows h ((c : Int) - 1), look ms rows ((h : Int) - 1) c with
    | none, none => (rows.set h ((rowOf rows h).drop 1), h)
    | none, some u => backGo n ms (setC ms rows h c u) (h - 1) c
    | some x, none => backGo n ms (setC ms rows h c x) h (c - 1)
    | some x, some u => if x ≤ u then backGo n ms (setC ms rows h c u) (h - 1) c else backGo n ms (setC ms rows h c x) h (c - 1)
/-- the state of a piece with a hole -/
def stL (ms : List Int) (rows : List (List Int)) (h c : Nat) : Sst := (put (gL ms rows) h c none, h, c)
structure SameShape (rows rows' : List (List Int)) : Prop where
  len : rows'.length = rows.length
  row : ∀ i, (rowOf rows' i).length = (rowOf rows i).length
theorem SameShape.refl (rows : List (List Int)) : SameShape rows rows := ⟨rfl, fun _ => rfl⟩
theorem SameShape.trans {a b c : List (List Int)} (h : SameShape a b) (h' : SameShape b c) : SameShape a c := ⟨h'.len.trans h.len, fun i => (h'.row i).trans (h.row i)⟩
theorem SameShape.setC {ms : List Int} {rows : List (List Int)} {h c : Nat} {v : Int} : SameShape rows (Hs.setC ms rows h c v) := ⟨setC_len, setC_row⟩
theorem SameShape.rN {rows rows' : List (List Int)} (h : SameShape rows rows') (ms : List Int) : Hs.rN ms rows' = Hs.rN ms rows := by funext i; unfold Hs.rN; rw [h.row]
/-- a number of a cell other than the hole -/
theorem gL_mask {ms : List Int} {rows : List (List Int)} {h c i j : Nat} (e : ¬ (i = h ∧ j = c)) : (stL ms rows h c).1 i j = gL ms rows i j := put_ne _ _ e
theorem cell_of {ms : List Int} (hn : Nn ms) {rows : List (List Int)} {i j : Nat} {v : Int} (h : gL ms rows i j = some v) : cellL ms rows i j = v := by
  rw [gL_eq hn] at h
  split at h
  · unfold cellL
    simpa using h
  · cases h
theorem cell_setC {ms : List Int} (hn : Nn ms) {rows : List (List Int)} {h c i j : Nat} {v w : Int} (hc : mN ms h ≤ c ∧ c < rN ms rows h) (e : ¬ (i = h ∧ j = c)) (hw : gL ms rows i j = some w) : cellL ms (setC ms rows h c v) i j = w := by
  refine cell_of hn ?_
  rw [gL_setC hn v hc, put_ne _ _ e]
  exact hw
theorem slidGo_ok {ms : List Int} (hn : Nn ms) {r : Nat → Nat} (hr8 : ∀ i, r i ≤ 8) (hr0 : r 8 = 0) : ∀ (n : Nat) (rows : List (List Int)) (h c : Nat) (rest : List Int), rN ms rows = r → CfgS (mN ms) r (stL ms rows h c) → 15 ≤ h + c + n → rows.flatten.Perm (cellL ms rows h c :: rest) →
    ∃ rows' h' c', slidGo n ms rows h c = (rows'.set h' (rowOf rows' h').dropLast, h') ∧ Star Fw (stL ms rows h c) (stL ms rows' h' c') ∧ Tf (stL ms rows' h' c') ∧ SameShape rows rows' ∧ rows'.flatten.Perm (cellL ms rows' h' c' :: rest)
  | n, rows, h, c, rest, er, C, hf, hp => by
    have C' : Cfg (mN ms) r (put (gL ms rows) h c none) h c := C
    have hc : mN ms h ≤ c ∧ c < rN ms rows h := by rw [er]; exact C'.hole
    have h8 : h < 8 := by
      rcases Nat.lt_or_ge h 8 with q | q
      · exact q
      · have := anti_le C'.rr q; have := C'.hole.2; omega
    have c8 : c < 8 := by have := C'.hole.2; have := hr8 h; omega
    cases n with
    | zero => omega
    | succ n =>
      have mR : (stL ms rows h c).1 h (c + 1) = gL ms rows h (c + 1) := gL_mask (by omega)
      have mD : (stL ms rows h c).1 (h + 1) c = gL ms rows (h + 1) c := gL_mask (by omega)
      -- a step down, a step to the right
      have down : ∀ d, gL ms rows (h + 1) c = some d → (∀ x, gL ms rows h (c + 1) = some x → d ≤ x) → ∃ rows' h' c', slidGo n ms (setC ms rows h c d) (h + 1) c = (rows'.set h' (rowOf rows' h').dropLast, h') ∧ Star Fw (stL ms rows h c) (stL ms rows' h' c') ∧ Tf (stL ms rows' h' c') ∧ SameShape rows rows' ∧ rows'.flatten.Perm (cellL ms rows' h' c' :: rest) := fun d hd hx => by
        have f : Fw (stL ms rows h c) (stL ms (setC ms rows h c d) (h + 1) c) := by
          have := Fw.down (g := (stL ms rows h c).1) (h := h) (c := c) (d := d) (by rw [mD]; exact hd) (by rw [mR]; exact hx)
          unfold stL at this ⊢
          rw [gL_setC hn d hc]
          rw [put_put] at this
          exact this
        obtain ⟨rows', h', c', e1, e2, e3, e4, e5⟩ := slidGo_ok hn hr8 hr0 n (setC ms rows h c d) (h + 1) c rest ((SameShape.setC.rN ms).trans er) (f.cfg C) (by omega) (by
          rw [cell_setC hn hc (by omega) hd]
          exact setC_perm hc hp)
        exact ⟨rows', h', c', e1, .head f e2, e3, SameShape.setC.trans e4, e5⟩
      have right : ∀ x, gL ms rows h (c + 1) = some x → (∀ d, gL ms rows (h + 1) c = some d → x < d) → ∃ rows' h' c', slidGo n ms (setC ms rows h c x) h (c + 1) = (rows'.set h' (rowOf rows' h').dropLast, h') ∧ Star Fw (stL ms rows h c) (stL ms rows' h' c') ∧ Tf (stL ms rows' h' c') ∧ SameShape rows rows' ∧ rows'.flatten.Perm (cellL ms rows' h' c' :: rest) := fun x hx hd => by
        have f : Fw (stL ms rows h c) (stL ms (setC ms rows h c x) h (c + 1)) := by
          have := Fw.right (g := (stL ms rows h c).1) (h := h) (c := c) (x := x) (by rw [mR]; exact hx) (by rw [mD]; exact hd)
          unfold stL at this ⊢
          rw [gL_setC hn x hc]
          rw [put_put] at this
          exact this
        obtain ⟨rows', h', c', e1, e2, e3, e4, e5⟩ := slidGo_ok hn hr8 hr0 n (setC ms rows h c x) h (c + 1) rest ((SameShape.setC.rN ms).trans er) (f.cfg C) (by omega) (by
          rw [cell_setC hn hc (by omega) hx]
          exact setC_perm hc hp)
        exact ⟨rows', h', c', e1, .head f e2, e3, SameShape.setC.trans e4, e5⟩
      unfold slidGo
      cases eR : gL ms rows h (c + 1) with
      | none => cases eD : gL ms rows (h + 1) c with
        | none => exact ⟨rows, h, c, rfl, .refl, ⟨mR.trans eR, mD.trans eD⟩, .refl _, hp⟩
        | some d => exact down d eD (fun x hx => by rw [eR] at hx; cases hx)
      | some x => cases eD : gL ms rows (h + 1) c with
        | none => exact right x eR (fun d hd => by rw [eD] at hd; cases hd)
        | some d =>
          show ∃ rows' h' c', (if d ≤ x then _ else _) = _ ∧ _
          by_cases hle : d ≤ x
          · rw [if_pos hle]
            exact down d eD (fun y hy => by rw [eR] at hy; cases hy; exact hle)
          · rw [if_neg hle]
            exact right x eR (fun y hy => by rw [eD] at hy; cases hy; omega)
end Hs

namespace Hs
theorem look_left {ms : List Int} (hn : Nn ms) (rows : List (List Int)) (h c : Nat) : look ms rows h ((c : Int) - 1) = if 0 < c then gL ms rows h (c - 1) else none := by
  by_cases h0 : 0 < c
  · rw [if_pos h0]
    unfold gL
    rw [show ((c - 1 : Nat) : Int) = (c : Int) - 1 by omega]
  · rw [if_neg h0]
    unfold look
    have := hn h
    rw [Int.toNat_natCast]
    split
    · rw [if_neg (by omega)]
    · rfl
theorem look_up {ms : List Int} (rows : List (List Int)) (h c : Nat) : look ms rows ((h : Int) - 1) c = if 0 < h then gL ms rows (h - 1) c else none := by
  by_cases h0 : 0 < h
  · rw [if_pos h0]
    unfold gL
    rw [show ((h - 1 : Nat) : Int) = (h : Int) - 1 by omega]
  · rw [if_neg h0]
    unfold look
    rw [if_neg (by omega)]
theorem backGo_ok {ms : List Int} (hn : Nn ms) {r : Nat → Nat} : ∀ (n : Nat) (rows : List (List Int)) (h c : Nat) (rest : List Int), rN ms rows = r → CfgS (mN ms) r (stL ms rows h c) → h + c < n → rows.flatten.Perm (cellL ms rows h c :: rest) →
    ∃ rows' h' c', backGo n ms rows h c = (rows'.set h' ((rowOf rows' h').drop 1), h') ∧ Star Bk (stL ms rows h c) (stL ms rows' h' c') ∧ Tb (stL ms rows' h' c') ∧ SameShape rows rows' ∧ rows'.flatten.Perm (cellL ms rows' h' c' :: rest)
  | n, rows, h, c, rest, er, C, hf, hp => by
    have C' : Cfg (mN ms) r (put (gL ms rows) h c none) h c := C
    have hc : mN ms h ≤ c ∧ c < rN ms rows h := by rw [er]; exact C'.hole
    cases n with
    | zero => omega
    | succ n =>
      have up : ∀ u, 0 < h → gL ms rows (h - 1) c = some u → (∀ x, 0 < c → gL ms rows h (c - 1) = some x → x ≤ u) → ∃ rows' h' c', backGo n ms (setC ms rows h c u) (h - 1) c = (rows'.set h' ((rowOf rows' h').drop 1), h') ∧ Star Bk (stL ms rows h c) (stL ms rows' h' c') ∧ Tb (stL ms rows' h' c') ∧ SameShape rows rows' ∧ rows'.flatten.Perm (cellL ms rows' h' c' :: rest) := fun u h0 hu hx => by
        obtain ⟨h, rfl⟩ : ∃ h', h = h' + 1 := ⟨h - 1, by omega⟩
        rw [Nat.add_sub_cancel] at hu ⊢
        have f : Bk (stL ms rows (h + 1) c) (stL ms (setC ms rows (h + 1) c u) h c) := by
          have := Bk.up (g := (stL ms rows (h + 1) c).1) (h := h) (c := c) (u := u) (by rw [gL_mask (by omega)]; exact hu) (fun x h0 hx' => hx x h0 (by rw [gL_mask (by omega)] at hx'; exact hx'))
          unfold stL at this ⊢
          rw [gL_setC hn u hc]
          rw [put_put] at this
          exact this
        obtain ⟨rows', h', c', e1, e2, e3, e4, e5⟩ := backGo_ok hn n (setC ms rows (h + 1) c u) h c rest ((SameShape.setC.rN ms).trans er) (f.cfg C) (by omega) (by
          rw [cell_setC hn hc (by omega) hu]
          exact setC_perm hc hp)
        exact ⟨rows', h', c', e1, .head f e2, e3, SameShape.setC.trans e4, e5⟩
      have left : ∀ x, 0 < c → gL ms rows h (c - 1) = some x → (∀ u, 0 < h → gL ms rows (h - 1) c = some u → u < x) → ∃ rows' h' c', backGo n ms (setC ms rows h c x) h (c - 1) = (rows'.set h' ((rowOf rows' h').drop 1), h') ∧ Star Bk (stL ms rows h c) (stL ms rows' h' c') ∧ Tb (stL ms rows' h' c') ∧ SameShape rows rows' ∧ rows'.flatten.Perm (cellL ms rows' h' c' :: rest) := fun x h0 hx hu => by
        obtain ⟨c, rfl⟩ : ∃ c', c = c' + 1 := ⟨c - 1, by omega⟩
        rw [Nat.add_sub_cancel] at hx ⊢
        have f : Bk (stL ms rows h (c + 1)) (stL ms (setC ms rows h (c + 1) x) h c) := by
          have := Bk.left (g := (stL ms rows h (c + 1)).1) (h := h) (c := c) (x := x) (by rw [gL_mask (by omega)]; exact hx) (fun u h0 hu' => hu u h0 (by rw [gL_mask (by omega)] at hu'; exact hu'))
          unfold stL at this ⊢
          rw [gL_setC hn x hc]
          rw [put_put] at this
          exact this
        obtain ⟨rows', h', c', e1, e2, e3, e4, e5⟩ := backGo_ok hn n (setC ms rows h (c + 1) x) h c rest ((SameShape.setC.rN ms).trans er) (f.cfg C) (by omega) (by
          rw [cell_setC hn hc (by omega) hx]
          exact setC_perm hc hp)
        exact ⟨rows', h', c', e1, .head f e2, e3, SameShape.setC.trans e4, e5⟩
      unfold backGo
      have eLm := look_left hn rows h c
      have eUm := look_up (ms := ms) rows h c
      have mL : 0 < c → (stL ms rows h c).1 h (c - 1) = gL ms rows h (c - 1) := fun q => gL_mask (by omega)
      have mU : 0 < h → (stL ms rows h c).1 (h - 1) c = gL ms rows (h - 1) c := fun q => gL_mask (by omega)
      cases eL : look ms rows h ((c : Int) - 1) with
      | none => cases eU : look ms rows ((h : Int) - 1) c with
        | none =>
          refine ⟨rows, h, c, rfl, .refl, ⟨fun q => ?_, fun q => ?_⟩, .refl _, hp⟩
          · have q : 0 < c := q
            rw [show (stL ms rows h c).2.1 = h from rfl, show (stL ms rows h c).2.2 = c from rfl, mL q]
            rw [eL, if_pos q] at eLm
            exact eLm.symm
          · have q : 0 < h := q
            rw [show (stL ms rows h c).2.1 = h from rfl, show (stL ms rows h c).2.2 = c from rfl, mU q]
            rw [eU, if_pos q] at eUm
            exact eUm.symm
        | some u =>
          rw [eU] at eUm
          have h0 : 0 < h := by rcases Nat.eq_zero_or_pos h with q | q; rw [if_neg (by omega)] at eUm; cases eUm; exact q
          rw [if_pos h0] at eUm
          refine up u h0 eUm.symm fun x c0 hx => ?_
          rw [eL, if_pos c0, hx] at eLm
          cases eLm
      | some x =>
        rw [eL] at eLm
        have c0 : 0 < c := by rcases Nat.eq_zero_or_pos c with q | q; rw [if_neg (by omega)] at eLm; cases eLm; exact q
        rw [if_pos c0] at eLm
        cases eU : look ms rows ((h : Int) - 1) c with
        | none =>
          refine left x c0 eLm.symm fun u h0 hu => ?_
          rw [eU, if_pos h0, hu] at eUm
          cases eUm
        | some u =>
          rw [eU] at eUm
          have h0 : 0 < h := by rcases Nat.eq_zero_or_pos h with q | q; rw [if_neg (by omega)] at eUm; cases eUm; exact q
          rw [if_pos h0] at eUm
          show ∃ rows' h' c', (if x ≤ u then _ else _) = _ ∧ _
          by_cases hle : x ≤ u
          · rw [if_pos hle]
            refine up u h0 eUm.symm fun y _ hy => ?_
            rw [← eLm] at hy
            cases hy
            exact hle
          · rw [if_neg hle]
            refine left x c0 eLm.symm fun y _ hy => ?_
            rw [← eUm] at hy
            cases hy
            omega
/-! ### pieces -/
def Piece (ms : List Int) (rows : List (List Int)) : Prop := MsOk ms ∧ RowsOk ms rows ∧ goodB ms rows = true
theorem MsOk.nn {ms : List Int} (h : MsOk ms) : Nn ms := fun i => by
  by_cases hi : i < ms.length
  · exact (h.2.2 i hi).1
  · rw [List.getD_eq_getElem?_getD, List.getElem?_eq_none (by omega)]
    exact Int.le_refl _
theorem getD_out {ms : List Int} {i : Nat} (h : ms.length ≤ i) : ms.getD i 0 = 0 := by rw [List.getD_eq_getElem?_getD, List.getElem?_eq_none h]; rfl
theorem rowOf_out {rows : List (List Int)} {i : Nat} (h : rows.length ≤ i) : rowOf rows i = [] := by unfold rowOf; rw [List.getD_eq_getElem?_getD, List.getElem?_eq_none h]; rfl
theorem MsOk.mm {ms : List Int} (h : MsOk ms) (i : Nat) : mN ms (i + 1) ≤ mN ms i := by
  unfold mN
  by_cases hi : i + 1 < ms.length
  · have := (h.2.2 (i + 1) hi).2
    rw [if_pos (by omega), Nat.add_sub_cancel] at this
    omega
  · rw [getD_out (by omega)]
    exact Nat.zero_le _
theorem RowsOk.rr {ms : List Int} {rows : List (List Int)} (hm : MsOk ms) (h : RowsOk ms rows) (i : Nat) : rN ms rows (i + 1) ≤ rN ms rows i := by
  have e1 := mN_cast hm.nn i
  have e2 := mN_cast hm.nn (i + 1)
  unfold rN
  by_cases hi : i + 1 < ms.length
  · have := h.2 (i + 1) hi
    rw [if_pos (by omega), Nat.add_sub_cancel] at this
    unfold rowOf
    omega
  · have := getD_out (ms := ms) (i := i + 1) (by omega)
    rw [rowOf_out (by rw [h.1]; omega)]
    simp
    omega
theorem RowsOk.r8 {ms : List Int} {rows : List (List Int)} (hm : MsOk ms) (h : RowsOk ms rows) : ∀ i, rN ms rows i ≤ 8 := fun i => by
  have h0 : rN ms rows 0 ≤ 8 := by
    have e1 := mN_cast hm.nn 0
    have := h.2 0 (by have := hm.1; omega)
    rw [if_neg (by omega)] at this
    unfold rN rowOf
    omega
  exact Nat.le_trans (anti_le (fun i => RowsOk.rr hm h i) (Nat.zero_le i)) h0
theorem RowsOk.r0 {ms : List Int} {rows : List (List Int)} (hm : MsOk ms) (h : RowsOk ms rows) {i : Nat} (hi : ms.length ≤ i) : rN ms rows i = 0 := by
  unfold rN mN
  rw [getD_out hi, rowOf_out (by rw [h.1]; exact hi)]
  rfl
/-- sorted cell by cell is sorted -/
theorem good_gs {ms : List Int} {rows : List (List Int)} (hm : MsOk ms) (hr : RowsOk ms rows) : goodB ms rows = true ↔ Gs (gL ms rows) := by
  have hn := hm.nn
  have mm := hm.mm
  have rr := fun i => RowsOk.rr hm hr i
  rw [good_iff]
  constructor
  · intro h
    have loc : ∀ i j a, gL ms rows i j = some a → (∀ b, 0 < j → gL ms rows i (j - 1) = some b → b ≤ a) ∧ (∀ b, 0 < i → gL ms rows (i - 1) j = some b → b < a) := by
      intro i j a ha
      have hs := (gL_some hn).mp (show (gL ms rows i j).isSome = true by rw [ha]; rfl)
      have hlt : j - mN ms i < (rowOf rows i).length := by unfold rN at hs; omega
      have c := h i (row_lt (by omega)) (j - mN ms i) hlt
      have ea : (rowOf rows i).getD (j - mN ms i) 0 = a := by
        rw [gL_eq hn, if_pos hs] at ha
        simpa using ha
      refine ⟨fun b hj hb => ?_, fun b hi hb => ?_⟩
      · have hsb := (gL_some hn).mp (show (gL ms rows i (j - 1)).isSome = true by rw [hb]; rfl)
        rw [gL_eq hn, if_pos hsb] at hb
        have := c.1 (by omega)
        rw [show j - mN ms i - 1 = j - 1 - mN ms i by omega, ea] at this
        simp only [Option.some.injEq] at hb
        omega
      · have e := mN_cast hn i
        have := c.2 b (by
          rw [show ms.getD i 0 + ((j - mN ms i : Nat) : Int) = (j : Int) by omega, look_up, if_pos hi]
          exact hb)
        rw [ea] at this
        exact this
    -- along a row, down a column
    have row : ∀ (d i j : Nat) (a b : Int), gL ms rows i j = some a → gL ms rows i (j + d) = some b → a ≤ b := by
      intro d
      induction d with
      | zero => intro i j a b ha hb; rw [Nat.add_zero] at hb; rw [ha] at hb; cases hb; exact Int.le_refl _
      | succ d ih =>
        intro i j a b ha hb
        have s1 := (gL_some hn).mp (show (gL ms rows i j).isSome = true by rw [ha]; rfl)
        have s2 := (gL_some hn).mp (show (gL ms rows i (j + (d + 1))).isSome = true by rw [hb]; rfl)
        obtain ⟨x, hx⟩ := Option.isSome_iff_exists.mp ((gL_some hn (rows := rows) (i := i) (j := j + d)).mpr ⟨by omega, by omega⟩)
        have q1 := ih i j a x ha hx
        have q2 := (loc i (j + (d + 1)) b hb).1 x (by omega) (by rw [show j + (d + 1) - 1 = j + d by omega]; exact hx)
        omega
    have col : ∀ (d i j : Nat) (a b : Int), gL ms rows i j = some a → gL ms rows (i + d) j = some b → (0 < d → a < b) ∧ a ≤ b := by
      intro d
      induction d with
      | zero => intro i j a b ha hb; rw [Nat.add_zero] at hb; rw [ha] at hb; cases hb; exact ⟨fun q => absurd q (Nat.lt_irrefl _), Int.le_refl _⟩
      | succ d ih =>
        intro i j a b ha hb
        have s1 := (gL_some hn).mp (show (gL ms rows i j).isSome = true by rw [ha]; rfl)
        have s2 := (gL_some hn).mp (show (gL ms rows (i + (d + 1)) j).isSome = true by rw [hb]; rfl)
        have m1 := anti_le mm (show i ≤ i + d by omega)
        have r1 := rr (i + d)
        have r2 : rN ms rows (i + (d + 1)) ≤ rN ms rows (i + d) := r1
        obtain ⟨x, hx⟩ := Option.isSome_iff_exists.mp ((gL_some hn (rows := rows) (i := i + d) (j := j)).mpr ⟨by omega, by omega⟩)
        have q1 := (ih i j a x ha hx).2
        have q2 := (loc (i + (d + 1)) j b hb).2 x (by omega) (by rw [show i + (d + 1) - 1 = i + d by omega]; exact hx)
        exact ⟨fun _ => by omega, by omega⟩
    intro i j i' j' a b ha hb hi hj
    have s1 := (gL_some hn).mp (show (gL ms rows i j).isSome = true by rw [ha]; rfl)
    have s2 := (gL_some hn).mp (show (gL ms rows i' j').isSome = true by rw [hb]; rfl)
    have r1 := anti_le rr hi
    obtain ⟨x, hx⟩ := Option.isSome_iff_exists.mp ((gL_some hn (rows := rows) (i := i) (j := j')).mpr ⟨by omega, by omega⟩)
    have q1 := row (j' - j) i j a x ha (by rw [show j + (j' - j) = j' by omega]; exact hx)
    have q2 := col (i' - i) i j' x b hx (by rw [show i + (i' - i) = i' by omega]; exact hb)
    exact ⟨fun q => by have := q2.1 (by omega); omega, fun q => by omega⟩
  · intro G j hj p hp
    have e := mN_cast hn j
    have ha : gL ms rows j (mN ms j + p) = some ((rowOf rows j).getD p 0) := by
      rw [gL_eq hn, if_pos ⟨by omega, by unfold rN; omega⟩]
      congr 2
      omega
    refine ⟨fun h0 => ?_, fun a hla => ?_⟩
    · have hb : gL ms rows j (mN ms j + (p - 1)) = some ((rowOf rows j).getD (p - 1) 0) := by
        rw [gL_eq hn, if_pos ⟨by omega, by unfold rN; omega⟩]
        congr 2
        omega
      exact (G _ _ _ _ _ _ hb ha (Nat.le_refl _) (by omega)).2 rfl
    · rw [show ms.getD j 0 + (p : Int) = ((mN ms j + p : Nat) : Int) by omega, look_up] at hla
      split at hla
      · exact (G _ _ _ _ _ _ hla ha (by omega) (Nat.le_refl _)).1 (by omega)
      · cases hla
/-- numbers in the same places: the same rows -/
theorem rows_ext {ms : List Int} (hn : Nn ms) {rows rows' : List (List Int)} (hl : rows'.length = rows.length) (h : gL ms rows' = gL ms rows) : rows' = rows := by
  have hr : ∀ i, rN ms rows' i = rN ms rows i := fun i => by
    have key : ∀ j, (mN ms i ≤ j ∧ j < rN ms rows' i) ↔ (mN ms i ≤ j ∧ j < rN ms rows i) := fun j => by rw [← gL_some hn, ← gL_some hn, h]
    have a1 : mN ms i ≤ rN ms rows' i := Nat.le_add_right _ _
    have a2 : mN ms i ≤ rN ms rows i := Nat.le_add_right _ _
    have k1 := key (rN ms rows i)
    have k2 := key (rN ms rows' i)
    omega
  refine List.ext_getElem hl fun i h1 h2 => ?_
  have e1 : rowOf rows' i = rows'[i] := by unfold rowOf; simp [h1]
  have e2 : rowOf rows i = rows[i] := by unfold rowOf; simp [h2]
  rw [← e1, ← e2]
  have hli : (rowOf rows' i).length = (rowOf rows i).length := by have := hr i; unfold rN at this; omega
  refine List.ext_getElem hli fun p p1 p2 => ?_
  have := congrFun (congrFun h i) (mN ms i + p)
  rw [gL_eq hn, gL_eq hn, if_pos ⟨by omega, by unfold rN; omega⟩, if_pos ⟨by omega, by unfold rN; omega⟩, show mN ms i + p - mN ms i = p by omega] at this
  simp only [Option.some.injEq] at this
  simpa [p1, p2] using this
end Hs

namespace Hs
/-! ### a slide, a slide back, of a piece -/
def holeB (ms : List Int) (h : Nat) : Bool := decide (ms.getD (h + 1) 0 < ms.getD h 0)
def slidL (ms : List Int) (rows : List (List Int)) (h : Nat) : List Int × List (List Int) × Nat :=
  let ms' := ms.set h (ms.getD h 0 - 1)
  let z := slidGo 20 ms' (rows.set h (0 :: rowOf rows h)) h (mN ms' h)
  (ms', z.1, z.2)
/-- a piece with a new row below, if the row is a new one -/
def extL (ms : List Int) (rows : List (List Int)) (h : Nat) : List Int × List (List Int) := if h < rows.length then (ms, rows) else (ms ++ [0], rows ++ [[]])
def endB (ms : List Int) (rows : List (List Int)) (h : Nat) : Bool :=
  if h < rows.length then decide (rN ms rows h < (if 0 < h then rN ms rows (h - 1) else 8)) else decide (h = rows.length ∧ h < 8 ∧ 0 < rN ms rows (h - 1))
def slidB (ms : List Int) (rows : List (List Int)) (h : Nat) : List Int × List (List Int) × Nat :=
  let e := extL ms rows h
  let z := backGo 20 e.1 (e.2.set h (rowOf e.2 h ++ [0])) h (rN e.1 e.2 h)
  (e.1.set z.2 (e.1.getD z.2 0 + 1), z.1, z.2)
theorem getD_set {ms : List Int} {h i : Nat} {v : Int} : (ms.set h v).getD i 0 = if i = h ∧ h < ms.length then v else ms.getD i 0 := by
  rw [List.getD_eq_getElem?_getD, List.getElem?_set]
  by_cases e : h = i
  · subst e
    by_cases hl : h < ms.length
    · rw [if_pos rfl, if_pos hl, if_pos ⟨rfl, hl⟩]; rfl
    · rw [if_pos rfl, if_neg hl, if_neg (fun q => hl q.2), getD_out (by omega)]; rfl
  · rw [if_neg e, if_neg (fun q => e q.1.symm), ← List.getD_eq_getElem?_getD]
theorem mN_set {ms : List Int} {h i : Nat} {v : Int} (hl : h < ms.length) : mN (ms.set h v) i = if i = h then v.toNat else mN ms i := by
  unfold mN
  rw [getD_set]
  by_cases e : i = h
  · rw [if_pos ⟨e, hl⟩, if_pos e]
  · rw [if_neg (fun q => e q.1), if_neg e]
theorem hole_lt {ms : List Int} (hm : MsOk ms) {h : Nat} (hh : holeB ms h = true) : h < ms.length ∧ mN ms (h + 1) < mN ms h := by
  unfold holeB at hh
  rw [decide_eq_true_eq] at hh
  have e1 := mN_cast hm.nn h
  have e2 := mN_cast hm.nn (h + 1)
  refine ⟨?_, by omega⟩
  rcases Nat.lt_or_ge h ms.length with q | q
  · exact q
  · rw [getD_out q] at hh
    have := hm.nn (h + 1)
    omega
/-- what a piece is, by its lengths and its filling -/
theorem piece_of {ms : List Int} {rows : List (List Int)} (h1 : 1 ≤ ms.length) (h8 : ms.length ≤ 8) (hl : rows.length = ms.length) (hn : Nn ms) (mm : ∀ i, mN ms (i + 1) ≤ mN ms i) (rr : ∀ i, rN ms rows (i + 1) ≤ rN ms rows i) (r8 : rN ms rows 0 ≤ 8) (G : Gs (gL ms rows)) : Piece ms rows := by
  have hm : MsOk ms := ⟨h1, h8, fun i hi => ⟨hn i, by
    have e1 := mN_cast hn i
    by_cases h0 : 0 < i
    · rw [if_pos h0]
      have := mm (i - 1)
      have e2 := mN_cast hn (i - 1)
      rw [Nat.sub_add_cancel h0] at this
      omega
    · rw [if_neg h0]
      have e : i = 0 := by omega
      subst e
      unfold rN at r8
      omega⟩⟩
  have hr : RowsOk ms rows := ⟨hl, fun i hi => by
    have e1 := mN_cast hn i
    by_cases h0 : 0 < i
    · rw [if_pos h0]
      have := rr (i - 1)
      have e2 := mN_cast hn (i - 1)
      rw [Nat.sub_add_cancel h0] at this
      unfold rN rowOf at this
      omega
    · rw [if_neg h0]
      have e : i = 0 := by omega
      subst e
      unfold rN rowOf at r8
      omega⟩
  exact ⟨hm, hr, (good_gs hm hr).mpr G⟩
section
variable {ms : List Int} {rows : List (List Int)} {h : Nat}
theorem cons_gL (hm : MsOk ms) (hr : RowsOk ms rows) (hh : holeB ms h = true) : put (gL (ms.set h (ms.getD h 0 - 1)) (rows.set h (0 :: rowOf rows h))) h (mN ms h - 1) none = gL ms rows ∧ Nn (ms.set h (ms.getD h 0 - 1)) ∧ (∀ i, rN (ms.set h (ms.getD h 0 - 1)) (rows.set h (0 :: rowOf rows h)) i = rN ms rows i) ∧ mN (ms.set h (ms.getD h 0 - 1)) h = mN ms h - 1 := by
  obtain ⟨hl, hlt⟩ := hole_lt hm hh
  have hn := hm.nn
  have e1 := mN_cast hn h
  have hlr : h < rows.length := by rw [hr.1]; exact hl
  have hn' : Nn (ms.set h (ms.getD h 0 - 1)) := fun i => by
    rw [getD_set]
    split
    · omega
    · exact hn i
  have em : ∀ i, mN (ms.set h (ms.getD h 0 - 1)) i = if i = h then mN ms h - 1 else mN ms i := fun i => by
    rw [mN_set hl]
    split
    · omega
    · rfl
  have er : ∀ i, rowOf (rows.set h (0 :: rowOf rows h)) i = if i = h then 0 :: rowOf rows h else rowOf rows i := fun i => by
    rw [rowOf_set']
    by_cases e : i = h
    · rw [if_pos ⟨e, hlr⟩, if_pos e]
    · rw [if_neg (fun q => e q.1), if_neg e]
  have eR : ∀ i, rN (ms.set h (ms.getD h 0 - 1)) (rows.set h (0 :: rowOf rows h)) i = rN ms rows i := fun i => by
    unfold rN
    rw [em, er]
    by_cases e : i = h
    · subst e
      rw [if_pos rfl, if_pos rfl, List.length_cons]
      omega
    · rw [if_neg e, if_neg e]
  refine ⟨?_, hn', eR, by rw [em, if_pos rfl]⟩
  funext i j
  by_cases e : i = h ∧ j = mN ms h - 1
  · obtain ⟨rfl, rfl⟩ := e
    rw [put_same, gL_eq hn, if_neg (by omega)]
  · rw [put_ne _ _ e, gL_eq hn', gL_eq hn, eR, em, er]
    by_cases ei : i = h
    · subst ei
      rw [if_pos rfl, if_pos rfl]
      by_cases c : mN ms i ≤ j ∧ j < rN ms rows i
      · rw [if_pos c, if_pos (by omega), show j - (mN ms i - 1) = (j - mN ms i) + 1 by omega]
        rfl
      · rw [if_neg c, if_neg (by omega)]
    · rw [if_neg ei, if_neg ei]
/-- a cell more, a hole -/
theorem hole_cfg (hm : MsOk ms) (hr : RowsOk ms rows) (G : Gs (gL ms rows)) (hh : holeB ms h = true) : Cfg (fun i => if i = h then mN ms h - 1 else mN ms i) (rN ms rows) (gL ms rows) h (mN ms h - 1) := by
  obtain ⟨hl, hlt⟩ := hole_lt hm hh
  have hn := hm.nn
  have mm := hm.mm
  refine ⟨fun i => ?_, fun i => RowsOk.rr hm hr i, ?_, fun i j => ?_, G⟩
  · have := mm i
    by_cases e : i = h
    · subst e
      rw [if_neg (by omega), if_pos rfl]
      omega
    · by_cases e' : i + 1 = h
      · rw [if_pos e', if_neg e]
        subst e'
        omega
      · rw [if_neg e', if_neg e]
        exact this
  · have : mN ms h ≤ rN ms rows h := Nat.le_add_right _ _
    show (if h = h then _ else _) ≤ _ ∧ _
    rw [if_pos rfl]
    omega
  · rw [gL_some hn]
    by_cases e : i = h
    · subst e
      rw [if_pos rfl]
      omega
    · rw [if_neg e]
      constructor
      · exact fun q => ⟨q, fun z => e z.1⟩
      · exact fun q => q.1
/-- the end of a slide -/
structure SlidOk (ms : List Int) (rows : List (List Int)) (h : Nat) (ms' : List Int) (rows' : List (List Int)) (k : Nat) : Prop where
  ems : ms' = ms.set h (ms.getD h 0 - 1)
  star : Star Fw (gL ms rows, h, mN ms h - 1) (gL ms' rows', k, rN ms rows k - 1)
  tf : Tf (gL ms' rows', k, rN ms rows k - 1)
  perm : rows'.flatten.Perm rows.flatten
  len : rows'.length = rows.length
  far : ∀ i, rN ms' rows' i = if i = k then rN ms rows k - 1 else rN ms rows i
  pos : 0 < rN ms rows k
  kl : k < rows.length
  low : rN ms rows (k + 1) < rN ms rows k
  pc : Piece ms' rows'
theorem slidL_ok (hp : Piece ms rows) (hh : holeB ms h = true) : ∃ ms' rows' k, slidL ms rows h = (ms', rows', k) ∧ SlidOk ms rows h ms' rows' k := by
  obtain ⟨hm, hr, hg⟩ := hp
  have G := (good_gs hm hr).mp hg
  obtain ⟨hl, hlt⟩ := hole_lt hm hh
  have hn := hm.nn
  obtain ⟨c1, hn', c3, c4⟩ := cons_gL hm hr hh
  have C := hole_cfg hm hr G hh
  have em : ∀ i, mN (ms.set h (ms.getD h 0 - 1)) i = if i = h then mN ms h - 1 else mN ms i := fun i => by
    have e1 := mN_cast hn h
    rw [mN_set hl]
    split
    · omega
    · rfl
  have hlr : h < rows.length := by rw [hr.1]; exact hl
  have es : stL (ms.set h (ms.getD h 0 - 1)) (rows.set h (0 :: rowOf rows h)) h (mN ms h - 1) = (gL ms rows, h, mN ms h - 1) := by unfold stL; rw [c1]
  have Cs : CfgS (mN (ms.set h (ms.getD h 0 - 1))) (rN ms rows) (stL (ms.set h (ms.getD h 0 - 1)) (rows.set h (0 :: rowOf rows h)) h (mN ms h - 1)) := by
    rw [es, show mN (ms.set h (ms.getD h 0 - 1)) = fun i => if i = h then mN ms h - 1 else mN ms i from funext em]
    exact C
  have hp0 : (rows.set h (0 :: rowOf rows h)).flatten.Perm (cellL (ms.set h (ms.getD h 0 - 1)) (rows.set h (0 :: rowOf rows h)) h (mN ms h - 1) :: rows.flatten) := by
    have : cellL (ms.set h (ms.getD h 0 - 1)) (rows.set h (0 :: rowOf rows h)) h (mN ms h - 1) = 0 := by
      unfold cellL
      rw [rowOf_set', if_pos ⟨rfl, hlr⟩, c4, Nat.sub_self]
      rfl
    rw [this]
    have e : rowOf rows h = rows[h] := by unfold rowOf; simp [hlr]
    have s1 : rows = rows.take h ++ rows[h] :: rows.drop (h + 1) := by simp
    rw [List.set_eq_take_append_cons_drop, if_pos hlr, List.flatten_append, List.flatten_cons, e]
    conv => rhs; rw [s1, List.flatten_append, List.flatten_cons]
    exact List.perm_middle
  obtain ⟨rows1, k, c', e1, e2, e3, e4, e5⟩ := slidGo_ok hn' (r := rN ms rows) (RowsOk.r8 hm hr) (RowsOk.r0 hm hr hm.2.1) 20 _ h (mN ms h - 1) rows.flatten (funext c3) Cs (by omega) hp0
  have Ck : Cfg (mN (ms.set h (ms.getD h 0 - 1))) (rN ms rows) _ k c' := e2.cfgF Cs
  have er1 : ∀ i, rN (ms.set h (ms.getD h 0 - 1)) rows1 i = rN ms rows i := fun i => by rw [congrFun (e4.rN _) i]; exact c3 i
  -- the hole is the last cell of its row
  have hend : c' + 1 = rN ms rows k := by
    have h1 := Ck.hole
    rcases Nat.lt_or_ge (c' + 1) (rN ms rows k) with q | q
    · obtain ⟨x, hx⟩ := Ck.ex (i := k) (j := c' + 1) (by omega) q (by omega)
      have := e3.1
      simp only [stL] at this hx
      rw [hx] at this
      cases this
    · omega
  have hk1 : k < rows1.length := by
    have h1 := Ck.hole
    refine row_lt ?_
    have := er1 k
    unfold rN at this h1
    omega
  have hk2 : k < rows.length := by have := e4.len; rw [List.length_set] at this; omega
  have erow : ∀ i, rowOf (rows1.set k (rowOf rows1 k).dropLast) i = if i = k then (rowOf rows1 k).dropLast else rowOf rows1 i := fun i => by
    rw [rowOf_set']
    by_cases e : i = k
    · rw [if_pos ⟨e, hk1⟩, if_pos e]
    · rw [if_neg (fun q => e q.1), if_neg e]
  have efar : ∀ i, rN (ms.set h (ms.getD h 0 - 1)) (rows1.set k (rowOf rows1 k).dropLast) i = if i = k then rN ms rows k - 1 else rN ms rows i := fun i => by
    have := er1 i
    have h1 := Ck.hole
    unfold rN at this ⊢
    rw [erow]
    by_cases e : i = k
    · subst e
      rw [if_pos rfl, if_pos rfl, List.length_dropLast]
      unfold rN at hend
      omega
    · rw [if_neg e, if_neg e]
      exact this
  have eg : gL (ms.set h (ms.getD h 0 - 1)) (rows1.set k (rowOf rows1 k).dropLast) = put (gL (ms.set h (ms.getD h 0 - 1)) rows1) k c' none := by
    funext i j
    rw [gL_eq hn', efar]
    by_cases e : i = k ∧ j = c'
    · obtain ⟨rfl, rfl⟩ := e
      rw [put_same, if_pos rfl, if_neg (by omega)]
    · rw [put_ne _ _ e, gL_eq hn', er1]
      by_cases ei : i = k
      · subst ei
        rw [if_pos rfl]
        by_cases c : mN (ms.set h (ms.getD h 0 - 1)) i ≤ j ∧ j < rN ms rows i
        · rw [if_pos c, if_pos (by omega), erow, if_pos rfl]
          congr 1
          have h2 := er1 i
          unfold rN at h2 c hend
          rw [List.getD_eq_getElem?_getD, List.getElem?_dropLast, if_pos (by omega), ← List.getD_eq_getElem?_getD]
        · rw [if_neg c, if_neg (by omega)]
      · rw [if_neg ei, erow, if_neg ei]
  have low : rN ms rows (k + 1) < rN ms rows k := by
    have h1 := Ck.hole
    have h2 := Ck.rr k
    rcases Nat.lt_or_ge (rN ms rows (k + 1)) (rN ms rows k) with q | q
    · exact q
    · obtain ⟨x, hx⟩ := Ck.ex (i := k + 1) (j := c') (by have := Ck.mm k; omega) (by omega) (by omega)
      have := e3.2
      simp only [stL] at this hx
      rw [hx] at this
      cases this
  refine ⟨_, _, k, ?_, rfl, ?_, ?_, ?_, ?_, efar, by omega, hk2, low, ?_⟩
  · show (_, (slidGo 20 _ _ h (mN (ms.set h (ms.getD h 0 - 1)) h)).1, (slidGo 20 _ _ h (mN (ms.set h (ms.getD h 0 - 1)) h)).2) = _
    rw [c4, e1]
  · rw [es] at e2
    unfold stL at e2
    rw [eg, show rN ms rows k - 1 = c' by omega]
    exact e2
  · unfold stL at e3
    rw [eg, show rN ms rows k - 1 = c' by omega]
    exact e3
  · refine last_perm (c := c') Ck.hole.1 (by rw [er1]; exact hend) e5
  · rw [List.length_set, e4.len, List.length_set]
  · refine piece_of (by rw [List.length_set]; exact hm.1) (by rw [List.length_set]; exact hm.2.1) (by rw [List.length_set, List.length_set, e4.len, List.length_set]; exact hr.1) hn' Ck.mm (fun i => ?_) ?_ ?_
    · rw [efar, efar]
      have := Ck.rr i
      by_cases a : i + 1 = k
      · rw [if_pos a, if_neg (by omega)]
        subst a
        omega
      · rw [if_neg a]
        by_cases b : i = k
        · subst b
          rw [if_pos rfl]
          omega
        · rw [if_neg b]
          exact this
    · rw [efar]
      have := RowsOk.r8 hm hr 0
      split
      · rename_i q
        subst q
        omega
      · exact this
    · rw [eg]
      exact Ck.srt
end
end Hs

namespace Hs
section
variable {ms : List Int} {rows : List (List Int)} {h : Nat}
theorem getD_app0 {ms : List Int} (i : Nat) : (ms ++ [0]).getD i 0 = ms.getD i 0 := by
  rcases Nat.lt_or_ge i ms.length with q | q
  · rw [List.getD_eq_getElem?_getD, List.getElem?_append_left q, ← List.getD_eq_getElem?_getD]
  · rw [getD_out q, List.getD_eq_getElem?_getD, List.getElem?_append_right q]
    cases (i - ms.length) <;> simp
theorem rowOf_app0 {rows : List (List Int)} (i : Nat) : rowOf (rows ++ [[]]) i = rowOf rows i := by
  rcases Nat.lt_or_ge i rows.length with q | q
  · unfold rowOf
    rw [List.getD_eq_getElem?_getD, List.getElem?_append_left q, ← List.getD_eq_getElem?_getD]
  · rw [rowOf_out q]
    unfold rowOf
    rw [List.getD_eq_getElem?_getD, List.getElem?_append_right q]
    cases (i - rows.length) <;> simp
/-- a new row without numbers changes no number -/
theorem ext_same (hp : Piece ms rows) : mN (extL ms rows h).1 = mN ms ∧ (∀ i, rowOf (extL ms rows h).2 i = rowOf rows i) ∧ gL (extL ms rows h).1 (extL ms rows h).2 = gL ms rows ∧ Nn (extL ms rows h).1 ∧ rN (extL ms rows h).1 (extL ms rows h).2 = rN ms rows ∧ (extL ms rows h).2.length = (extL ms rows h).1.length ∧ (extL ms rows h).2.flatten = rows.flatten := by
  have hn := hp.1.nn
  unfold extL
  split
  · exact ⟨rfl, fun _ => rfl, rfl, hn, rfl, hp.2.1.1, rfl⟩
  · have e1 : mN (ms ++ [0]) = mN ms := by funext i; unfold mN; rw [getD_app0]
    have e2 : ∀ i, rowOf (rows ++ [[]]) i = rowOf rows i := fun i => rowOf_app0 i
    have hn' : Nn (ms ++ [0]) := fun i => by rw [getD_app0]; exact hn i
    have e3 : rN (ms ++ [0]) (rows ++ [[]]) = rN ms rows := by funext i; unfold rN; rw [e1, e2]
    refine ⟨e1, e2, ?_, hn', e3, by rw [List.length_append, List.length_append, hp.2.1.1]; rfl, by simp⟩
    funext i j
    rw [gL_eq hn', gL_eq hn, e3, e2, e1]
theorem ext_len (hp : Piece ms rows) (he : endB ms rows h = true) : h < (extL ms rows h).2.length ∧ (extL ms rows h).2.length ≤ 8 ∧ rows.length ≤ (extL ms rows h).2.length := by
  have h8 := hp.1.2.1
  have hl := hp.2.1.1
  unfold endB at he
  unfold extL
  by_cases q : h < rows.length
  · rw [if_pos q]
    exact ⟨q, by show rows.length ≤ 8; omega, Nat.le_refl _⟩
  · rw [if_neg q, decide_eq_true_eq] at he
    rw [if_neg q]
    show h < (rows ++ [[]]).length ∧ (rows ++ [[]]).length ≤ 8 ∧ rows.length ≤ (rows ++ [[]]).length
    rw [List.length_append]
    exact ⟨by simp; omega, by simp; omega, by simp⟩
/-- the row reaches less far than the one above -/
theorem end_lt (hp : Piece ms rows) (he : endB ms rows h = true) : rN ms rows h < (if 0 < h then rN ms rows (h - 1) else 8) ∧ h < 8 := by
  have h8 := hp.1.2.1
  have hl := hp.2.1.1
  unfold endB at he
  split at he
  · rw [decide_eq_true_eq] at he
    exact ⟨he, by omega⟩
  · rw [decide_eq_true_eq] at he
    have := RowsOk.r0 hp.1 hp.2.1 (i := h) (by omega)
    have h1 := hp.1.1
    rw [if_pos (by omega)]
    omega
/-- the end of a slide back -/
structure BackOk (ms : List Int) (rows : List (List Int)) (h : Nat) (ms' : List Int) (rows' : List (List Int)) (k : Nat) : Prop where
  ems : ms' = (extL ms rows h).1.set k ((extL ms rows h).1.getD k 0 + 1)
  star : Star Bk (gL ms rows, h, rN ms rows h) (gL ms' rows', k, mN ms k)
  tb : Tb (gL ms' rows', k, mN ms k)
  perm : rows'.flatten.Perm rows.flatten
  len : rows'.length = (extL ms rows h).2.length
  far : ∀ i, rN ms' rows' i = if i = h then rN ms rows h + 1 else rN ms rows i
  kl : k < rows'.length
  hole : holeB ms' k = true
  pc : Piece ms' rows'
theorem slidB_ok (hp : Piece ms rows) (he : endB ms rows h = true) : ∃ ms' rows' k, slidB ms rows h = (ms', rows', k) ∧ BackOk ms rows h ms' rows' k := by
  obtain ⟨x1, x2, x3, x4, x5, x6, x7⟩ := ext_same (h := h) hp
  obtain ⟨y1, y2, y3⟩ := ext_len hp he
  obtain ⟨z1, z2⟩ := end_lt hp he
  have hm := hp.1
  have hr := hp.2.1
  have G := (good_gs hm hr).mp hp.2.2
  have mm := hm.mm
  have rr := fun i => RowsOk.rr hm hr i
  have r8 := RowsOk.r8 hm hr
  have ml : mN ms h ≤ rN ms rows h := Nat.le_add_right _ _
  generalize hX : (extL ms rows h).1 = mx at *
  generalize hY : (extL ms rows h).2 = rx at *
  -- the cell put at the end
  have er : ∀ i, rowOf (rx.set h (rowOf rx h ++ [0])) i = if i = h then rowOf rows h ++ [0] else rowOf rows i := fun i => by
    rw [rowOf_set']
    by_cases e : i = h
    · rw [if_pos ⟨e, y1⟩, if_pos e, x2]
    · rw [if_neg (fun q => e q.1), if_neg e, x2]
  have eR : ∀ i, rN mx (rx.set h (rowOf rx h ++ [0])) i = if i = h then rN ms rows h + 1 else rN ms rows i := fun i => by
    unfold rN
    rw [er, x1]
    by_cases e : i = h
    · subst e
      rw [if_pos rfl, if_pos rfl, List.length_append, List.length_singleton]
      omega
    · rw [if_neg e, if_neg e]
  have eR' : rN mx (rx.set h (rowOf rx h ++ [0])) = fun i => if i = h then rN ms rows h + 1 else rN ms rows i := funext eR
  have ech : rN mx rx h = rN ms rows h := congrFun x5 h
  have es : stL mx (rx.set h (rowOf rx h ++ [0])) h (rN ms rows h) = (gL ms rows, h, rN ms rows h) := by
    unfold stL
    congr 1
    funext i j
    by_cases e : i = h ∧ j = rN ms rows h
    · obtain ⟨rfl, rfl⟩ := e
      rw [put_same, gL_eq hm.nn, if_neg (by omega)]
    · rw [put_ne _ _ e, gL_eq x4, eR, x1, gL_eq hm.nn, er]
      by_cases ei : i = h
      · subst ei
        rw [if_pos rfl, if_pos rfl]
        by_cases c : mN ms i ≤ j ∧ j < rN ms rows i
        · rw [if_pos c, if_pos (by omega)]
          congr 1
          unfold rN at c
          rw [List.getD_eq_getElem?_getD, List.getElem?_append_left (by omega), ← List.getD_eq_getElem?_getD]
        · rw [if_neg c, if_neg (by omega)]
      · rw [if_neg ei, if_neg ei]
  have C : Cfg (mN ms) (fun i => if i = h then rN ms rows h + 1 else rN ms rows i) (gL ms rows) h (rN ms rows h) := by
    refine ⟨mm, fun i => ?_, ⟨ml, ?_⟩, fun i j => ?_, G⟩
    · have := rr i
      by_cases a : i + 1 = h
      · rw [if_pos a, if_neg (by omega)]
        rw [if_pos (by omega), show h - 1 = i by omega] at z1
        omega
      · rw [if_neg a]
        by_cases b : i = h
        · subst b
          rw [if_pos rfl]
          omega
        · rw [if_neg b]
          exact this
    · show rN ms rows h < (if h = h then _ else _)
      rw [if_pos rfl]
      omega
    · rw [gL_some hm.nn]
      by_cases e : i = h
      · subst e
        rw [if_pos rfl]
        omega
      · rw [if_neg e]
        exact ⟨fun q => ⟨q, fun z => e z.1⟩, fun q => q.1⟩
  have Cs : CfgS (mN mx) (rN mx (rx.set h (rowOf rx h ++ [0]))) (stL mx (rx.set h (rowOf rx h ++ [0])) h (rN ms rows h)) := by
    rw [es, x1, eR']
    exact C
  have c8 : rN ms rows h < 8 := by
    split at z1
    · have := r8 (h - 1); omega
    · exact z1
  have hp0 : (rx.set h (rowOf rx h ++ [0])).flatten.Perm (cellL mx (rx.set h (rowOf rx h ++ [0])) h (rN ms rows h) :: rows.flatten) := by
    have : cellL mx (rx.set h (rowOf rx h ++ [0])) h (rN ms rows h) = 0 := by
      unfold cellL
      rw [er, if_pos rfl, x1]
      unfold rN
      rw [Nat.add_sub_cancel_left, List.getD_eq_getElem?_getD, List.getElem?_append_right (Nat.le_refl _), Nat.sub_self]
      rfl
    rw [this, ← x7]
    have e : rowOf rx h = rx[h] := by unfold rowOf; simp [y1]
    have s1 : rx = rx.take h ++ rx[h] :: rx.drop (h + 1) := by simp
    rw [List.set_eq_take_append_cons_drop, if_pos y1, List.flatten_append, List.flatten_cons, e]
    conv => rhs; rw [s1, List.flatten_append, List.flatten_cons]
    have : (rx[h] ++ [0] ++ (rx.drop (h + 1)).flatten).Perm (0 :: (rx[h] ++ (rx.drop (h + 1)).flatten)) := by
      rw [List.append_assoc]
      exact List.perm_middle
    exact (this.append_left _).trans List.perm_middle
  obtain ⟨rows1, k, c', e1, e2, e3, e4, e5⟩ := backGo_ok x4 20 _ h (rN ms rows h) rows.flatten rfl Cs (by omega) hp0
  have Ck0 : CfgS (mN mx) (rN mx (rx.set h (rowOf rx h ++ [0]))) (stL mx rows1 k c') := e2.cfgB Cs
  rw [eR', x1] at Ck0
  have Ck : Cfg (mN ms) (fun i => if i = h then rN ms rows h + 1 else rN ms rows i) (put (gL mx rows1) k c' none) k c' := Ck0
  have er1 : ∀ i, rN mx rows1 i = if i = h then rN ms rows h + 1 else rN ms rows i := fun i => by rw [congrFun (e4.rN _) i]; exact eR i
  have hst : c' = mN ms k := by
    have h1 := Ck.hole.1
    rcases Nat.lt_or_ge (mN ms k) c' with q | q
    · obtain ⟨x, hx⟩ := Ck.ex (i := k) (j := c' - 1) (by omega) (by have := Ck.hole.2; omega) (by omega)
      have := e3.1 (show 0 < c' by omega)
      simp only [stL] at this hx
      rw [hx] at this
      cases this
    · omega
  have hk1 : k < rows1.length := by
    have h1 := Ck.hole
    refine row_lt ?_
    have h2 := er1 k
    have h3 : rN mx rows1 k = mN ms k + (rowOf rows1 k).length := by unfold rN; rw [x1]
    omega
  have hlen1 : rows1.length = rx.length := by have := e4.len; rw [List.length_set] at this; exact this
  have hkm : k < mx.length := by omega
  have ek : (mx.set k (mx.getD k 0 + 1)).getD k 0 = mx.getD k 0 + 1 := by rw [getD_set, if_pos ⟨rfl, hkm⟩]
  have hn' : Nn (mx.set k (mx.getD k 0 + 1)) := fun i => by
    rw [getD_set]
    split
    · have := x4 k; omega
    · exact x4 i
  have em : ∀ i, mN (mx.set k (mx.getD k 0 + 1)) i = if i = k then mN ms k + 1 else mN ms i := fun i => by
    rw [mN_set hkm, x1]
    split
    · have := mN_cast x4 k
      rw [x1] at this
      omega
    · rfl
  have erow : ∀ i, rowOf (rows1.set k ((rowOf rows1 k).drop 1)) i = if i = k then (rowOf rows1 k).drop 1 else rowOf rows1 i := fun i => by
    rw [rowOf_set']
    by_cases e : i = k
    · rw [if_pos ⟨e, hk1⟩, if_pos e]
    · rw [if_neg (fun q => e q.1), if_neg e]
  have efar : ∀ i, rN (mx.set k (mx.getD k 0 + 1)) (rows1.set k ((rowOf rows1 k).drop 1)) i = if i = h then rN ms rows h + 1 else rN ms rows i := fun i => by
    have h0 := er1 i
    have h1 := Ck.hole
    have h2 := er1 k
    have h3 : rN mx rows1 k = mN ms k + (rowOf rows1 k).length := by unfold rN; rw [x1]
    rw [← h0]
    unfold rN
    rw [erow, em, x1]
    by_cases e : i = k
    · subst e
      rw [if_pos rfl, if_pos rfl, List.length_drop]
      omega
    · rw [if_neg e, if_neg e]
  have eg : gL (mx.set k (mx.getD k 0 + 1)) (rows1.set k ((rowOf rows1 k).drop 1)) = put (gL mx rows1) k c' none := by
    funext i j
    rw [gL_eq hn', efar, em]
    by_cases e : i = k ∧ j = c'
    · obtain ⟨rfl, rfl⟩ := e
      rw [put_same, if_pos rfl, if_neg (by omega)]
    · rw [put_ne _ _ e, gL_eq x4, er1, x1, erow]
      by_cases ei : i = k
      · subst ei
        rw [if_pos rfl, if_pos rfl]
        by_cases c : mN ms i ≤ j ∧ j < (if i = h then rN ms rows h + 1 else rN ms rows i)
        · rw [if_pos c, if_pos (by omega)]
          congr 1
          rw [List.getD_eq_getElem?_getD, List.getElem?_drop, ← List.getD_eq_getElem?_getD]
          congr 1
          omega
        · rw [if_neg c, if_neg (by omega)]
      · rw [if_neg ei, if_neg ei]
  -- a cell above would be a number
  have hup : 0 < k → mN ms k + 1 ≤ mN ms (k - 1) := fun h0 => by
    rcases Nat.lt_or_ge (mN ms k) (mN ms (k - 1)) with q | q
    · exact q
    · obtain ⟨x, hx⟩ := Ck.ex (i := k - 1) (j := c') (by omega) (by have q2 : (if k = h then rN ms rows h + 1 else rN ms rows k) ≤ (if k - 1 = h then rN ms rows h + 1 else rN ms rows (k - 1)) := anti_le (m := fun i => if i = h then rN ms rows h + 1 else rN ms rows i) Ck.rr (show k - 1 ≤ k by omega); have := Ck.hole.2; omega) (by omega)
      have := e3.2 h0
      simp only [stL] at this hx
      rw [hx] at this
      cases this
  have mm' : ∀ i, mN (mx.set k (mx.getD k 0 + 1)) (i + 1) ≤ mN (mx.set k (mx.getD k 0 + 1)) i := fun i => by
    rw [em, em]
    have := mm i
    by_cases a : i + 1 = k
    · rw [if_pos a, if_neg (by omega)]
      have := hup (by omega)
      rw [show k - 1 = i by omega] at this
      exact this
    · rw [if_neg a]
      by_cases b : i = k
      · subst b
        rw [if_pos rfl]
        omega
      · rw [if_neg b]
        exact this
  refine ⟨_, _, k, ?_, ?_, ?_, ?_, ?_, ?_, efar, ?_, ?_, ?_⟩
  · have hE : extL ms rows h = (mx, rx) := Prod.ext hX hY
    unfold slidB
    rw [hE]
    show (mx.set (backGo 20 mx (rx.set h (rowOf rx h ++ [0])) h (rN mx rx h)).2 (mx.getD (backGo 20 mx (rx.set h (rowOf rx h ++ [0])) h (rN mx rx h)).2 0 + 1), (backGo 20 mx (rx.set h (rowOf rx h ++ [0])) h (rN mx rx h)).1, (backGo 20 mx (rx.set h (rowOf rx h ++ [0])) h (rN mx rx h)).2) = _
    rw [ech, e1]
  · rw [hX]
  · rw [es] at e2
    unfold stL at e2
    rw [eg, ← hst]
    exact e2
  · unfold stL at e3
    rw [eg, ← hst]
    exact e3
  · exact first_perm (c := c') (by rw [x1]; exact hst) (by rw [er1]; exact Ck.hole.2) e5
  · rw [hY, List.length_set, hlen1]
  · rw [List.length_set]; exact hk1
  · unfold holeB
    rw [decide_eq_true_eq]
    have a := mN_cast hn' k
    have b := mN_cast hn' (k + 1)
    rw [em, if_pos rfl] at a
    rw [em, if_neg (by omega)] at b
    have := mm k
    omega
  · refine piece_of (by rw [List.length_set]; omega) (by rw [List.length_set]; omega) (by rw [List.length_set, List.length_set]; omega) hn' mm' (fun i => ?_) ?_ ?_
    · rw [efar, efar]
      exact Ck.rr i
    · rw [efar]
      have := r8 0
      split
      · rename_i q
        subst q
        omega
      · exact this
    · rw [eg]
      exact Ck.srt
/-! ### there and back -/
theorem piece_row {ms' : List Int} {rows' : List (List Int)} {k : Nat} (hp : Piece ms rows) (S : SlidOk ms rows h ms' rows' k) : endB ms' rows' k = true := by
  unfold endB
  rw [if_pos (by rw [S.len]; exact S.kl), decide_eq_true_eq, S.far, if_pos rfl]
  have := S.pos
  split
  · rw [S.far, if_neg (by omega)]
    have := RowsOk.rr hp.1 hp.2.1 (k - 1)
    rw [show k - 1 + 1 = k by omega] at this
    omega
  · have := RowsOk.r8 hp.1 hp.2.1 k
    omega
/-- a slide, and the slide back from where it ended -/
theorem slide_back_inv (hp : Piece ms rows) (hh : holeB ms h = true) {ms' : List Int} {rows' : List (List Int)} {k : Nat} (e : slidL ms rows h = (ms', rows', k)) : slidB ms' rows' k = (ms, rows, h) := by
  obtain ⟨m1, r1, k1, e1, S⟩ := slidL_ok hp hh
  rw [e] at e1
  cases e1
  have he := piece_row hp S
  obtain ⟨m2, r2, k2, e2, B⟩ := slidB_ok S.pc he
  rw [e2]
  obtain ⟨hl, hlt⟩ := hole_lt hp.1 hh
  have hn := hp.1.nn
  have C : CfgS (fun i => if i = h then mN ms h - 1 else mN ms i) (rN ms rows) (gL ms rows, h, mN ms h - 1) := hole_cfg hp.1 hp.2.1 ((good_gs hp.1 hp.2.1).mp hp.2.2) hh
  have back := S.star.back C
  have tb : Tb (gL ms rows, h, mN ms h - 1) := by
    refine ⟨fun q => ?_, fun q => ?_⟩
    · show gL ms rows h (mN ms h - 1 - 1) = none
      rw [gL_eq hn, if_neg (by omega)]
    · show gL ms rows (h - 1) (mN ms h - 1) = none
      have q : 0 < h := q
      have := anti_le hp.1.mm (show h - 1 ≤ h by omega)
      rw [gL_eq hn, if_neg (by omega)]
  have st2 := B.star
  rw [S.far, if_pos rfl] at st2
  have u := st2.uniqB back B.tb tb
  injection u with u1 u2
  injection u2 with u2 u3
  have hx : extL ms' rows' k = (ms', rows') := by unfold extL; rw [if_pos (by rw [S.len]; exact S.kl)]
  have em : m2 = ms := by
    rw [B.ems, hx, u2, S.ems]
    refine List.ext_getElem (by simp) fun i h1 h2 => ?_
    have g : ∀ (l : List Int) (hi : i < l.length), l[i] = l.getD i 0 := fun l hi => by simp [hi]
    rw [g _ h1, g _ h2, getD_set]
    simp only [List.length_set]
    by_cases e : i = h
    · rw [if_pos ⟨e, hl⟩, getD_set, if_pos ⟨rfl, hl⟩, e]
      omega
    · rw [if_neg (fun q => e q.1), getD_set, if_neg (fun q => e q.1)]
  subst em
  have er : r2 = rows := rows_ext hn (by rw [B.len, hx]; exact S.len) u1
  rw [er, u2]
/-- a slide back, and the slide of the hole that it leaves -/
theorem back_slide_inv (hp : Piece ms rows) (he : endB ms rows h = true) {ms' : List Int} {rows' : List (List Int)} {k : Nat} (e : slidB ms rows h = (ms', rows', k)) : slidL ms' rows' k = ((extL ms rows h).1, (extL ms rows h).2, h) := by
  obtain ⟨m1, r1, k1, e1, B⟩ := slidB_ok hp he
  rw [e] at e1
  cases e1
  obtain ⟨m2, r2, k2, e2, S⟩ := slidL_ok B.pc B.hole
  rw [e2]
  obtain ⟨x1, x2, x3, x4, x5, x6, x7⟩ := ext_same (h := h) hp
  obtain ⟨z1, z2⟩ := end_lt hp he
  have hn := hp.1.nn
  have kl : k < (extL ms rows h).1.length := by have := B.kl; rw [B.len, x6] at this; exact this
  have emk : mN ms' k = mN ms k + 1 := by
    rw [B.ems, mN_set kl, if_pos rfl]
    have := mN_cast x4 k
    rw [x1] at this
    omega
  have ml : mN ms h ≤ rN ms rows h := Nat.le_add_right _ _
  -- the same hole, seen from the start
  have C : CfgS (mN ms) (fun i => if i = h then rN ms rows h + 1 else rN ms rows i) (gL ms rows, h, rN ms rows h) := by
    have G := (good_gs hp.1 hp.2.1).mp hp.2.2
    refine ⟨hp.1.mm, fun i => ?_, ⟨ml, ?_⟩, fun i j => ?_, G⟩
    · have := RowsOk.rr hp.1 hp.2.1 i
      by_cases a : i + 1 = h
      · rw [if_pos a, if_neg (by omega)]
        rw [if_pos (by omega), show h - 1 = i by omega] at z1
        omega
      · rw [if_neg a]
        by_cases b : i = h
        · subst b
          rw [if_pos rfl]
          omega
        · rw [if_neg b]
          exact this
    · show rN ms rows h < (if h = h then _ else _)
      rw [if_pos rfl]
      omega
    · show (gL ms rows i j).isSome = true ↔ _ ∧ ¬ (i = h ∧ j = rN ms rows h)
      rw [gL_some hn]
      by_cases e : i = h
      · subst e
        rw [if_pos rfl]
        omega
      · rw [if_neg e]
        exact ⟨fun q => ⟨q, fun z => e z.1⟩, fun q => q.1⟩
  have forth := B.star.forth C
  have tf : Tf (gL ms rows, h, rN ms rows h) := by
    refine ⟨?_, ?_⟩
    · show gL ms rows h (rN ms rows h + 1) = none
      rw [gL_eq hn, if_neg (by omega)]
    · show gL ms rows (h + 1) (rN ms rows h) = none
      have := RowsOk.rr hp.1 hp.2.1 h
      rw [gL_eq hn, if_neg (by omega)]
  have st2 := S.star
  rw [emk, Nat.add_sub_cancel] at st2
  have u := st2.uniqF forth S.tf tf
  injection u with u1 u2
  injection u2 with u2 u3
  have em : m2 = (extL ms rows h).1 := by
    rw [S.ems, B.ems]
    refine List.ext_getElem (by simp) fun i h1 h2 => ?_
    have g : ∀ (l : List Int) (hi : i < l.length), l[i] = l.getD i 0 := fun l hi => by simp [hi]
    rw [g _ h1, g _ h2, getD_set]
    simp only [List.length_set]
    by_cases e : i = k
    · rw [if_pos ⟨e, kl⟩, getD_set, if_pos ⟨rfl, kl⟩, e]
      omega
    · rw [if_neg (fun q => e q.1), getD_set, if_neg (fun q => e q.1)]
  have er : r2 = (extL ms rows h).2 := rows_ext x4 (by rw [S.len, B.len]) (by rw [← em, u1, em, x3])
  rw [em, er, u2]
end
end Hs

namespace Hs
/-! ### a slide under way -/
structure SRun (ms : List Int) (n : Nat) (rows : List (List Int)) (h c : Nat) (res : List (List Int) × Nat) : Prop where
  nn : Nn ms
  go : slidGo n ms rows h c = res
  cfg : CfgS (mN ms) (rN ms rows) (stL ms rows h c)
  r8 : ∀ i, rN ms rows i ≤ 8
  r0 : rN ms rows 8 = 0
  fu : 15 ≤ h + c + n
section
variable {ms : List Int} {n : Nat} {rows : List (List Int)} {h c : Nat} {res : List (List Int) × Nat}
theorem SRun.hole (S : SRun ms n rows h c res) : mN ms h ≤ c ∧ c < rN ms rows h ∧ h < 8 ∧ c < 8 ∧ 1 ≤ n ∧ h < rows.length := by
  have C : Cfg (mN ms) (rN ms rows) (put (gL ms rows) h c none) h c := S.cfg
  have hc := C.hole
  have h8 : h < 8 := by
    rcases Nat.lt_or_ge h 8 with q | q
    · exact q
    · have := anti_le C.rr q; have := S.r0; omega
  have := S.r8 h
  have := S.fu
  exact ⟨hc.1, hc.2, h8, by omega, by omega, row_lt (by unfold rN at hc; omega)⟩
theorem SRun.stop (S : SRun ms n rows h c res) (hr : gL ms rows h (c + 1) = none) (hd : gL ms rows (h + 1) c = none) : res = (rows.set h (rowOf rows h).dropLast, h) := by
  obtain ⟨m, rfl⟩ : ∃ m, n = m + 1 := ⟨n - 1, by have := S.hole; omega⟩
  rw [← S.go]
  unfold slidGo
  rw [hr, hd]
theorem SRun.next (S : SRun ms n rows h c res) {h' c' : Nat} {v : Int} (go : slidGo (n - 1) ms (setC ms rows h c v) h' c' = res) (f : Fw (stL ms rows h c) (stL ms (setC ms rows h c v) h' c')) (fu : h' + c' = h + c + 1) : SRun ms (n - 1) (setC ms rows h c v) h' c' res := by
  have e := SameShape.rN (SameShape.setC (ms := ms) (rows := rows) (h := h) (c := c) (v := v)) ms
  exact ⟨S.nn, go, by rw [e]; exact f.cfg S.cfg, by rw [e]; exact S.r8, by rw [e]; exact S.r0, by have := S.fu; have := S.hole; omega⟩
theorem SRun.down (S : SRun ms n rows h c res) {d : Int} (hd : gL ms rows (h + 1) c = some d) (hr : ∀ x, gL ms rows h (c + 1) = some x → d ≤ x) : SRun ms (n - 1) (setC ms rows h c d) (h + 1) c res := by
  obtain ⟨m, rfl⟩ : ∃ m, n = m + 1 := ⟨n - 1, by have := S.hole; omega⟩
  have hh := S.hole
  refine S.next ?_ ?_ (by omega)
  · have := S.go
    unfold slidGo at this
    rw [hd] at this
    rw [Nat.add_sub_cancel]
    cases eR : gL ms rows h (c + 1) with
    | none => rw [eR] at this; exact this
    | some x =>
      rw [eR] at this
      have e : (if d ≤ x then slidGo m ms (setC ms rows h c d) (h + 1) c else slidGo m ms (setC ms rows h c x) h (c + 1)) = res := this
      rw [if_pos (hr x eR)] at e
      exact e
  · have := Fw.down (g := (stL ms rows h c).1) (h := h) (c := c) (d := d) (by rw [gL_mask (by omega)]; exact hd) (by rw [gL_mask (by omega)]; exact hr)
    unfold stL at this ⊢
    rw [gL_setC S.nn d ⟨hh.1, hh.2.1⟩]
    rw [put_put] at this
    exact this
theorem SRun.right (S : SRun ms n rows h c res) {x : Int} (hx : gL ms rows h (c + 1) = some x) (hd : ∀ d, gL ms rows (h + 1) c = some d → x < d) : SRun ms (n - 1) (setC ms rows h c x) h (c + 1) res := by
  obtain ⟨m, rfl⟩ : ∃ m, n = m + 1 := ⟨n - 1, by have := S.hole; omega⟩
  have hh := S.hole
  refine S.next ?_ ?_ (by omega)
  · have := S.go
    unfold slidGo at this
    rw [hx] at this
    rw [Nat.add_sub_cancel]
    cases eD : gL ms rows (h + 1) c with
    | none => rw [eD] at this; exact this
    | some d =>
      rw [eD] at this
      have e : (if d ≤ x then slidGo m ms (setC ms rows h c d) (h + 1) c else slidGo m ms (setC ms rows h c x) h (c + 1)) = res := this
      rw [if_neg (by have := hd d eD; omega)] at e
      exact e
  · have := Fw.right (g := (stL ms rows h c).1) (h := h) (c := c) (x := x) (by rw [gL_mask (by omega)]; exact hx) (by rw [gL_mask (by omega)]; exact hd)
    unfold stL at this ⊢
    rw [gL_setC S.nn x ⟨hh.1, hh.2.1⟩]
    rw [put_put] at this
    exact this
theorem slid_start (hp : Piece ms rows) (hh : holeB ms h = true) : SRun (ms.set h (ms.getD h 0 - 1)) 20 (rows.set h (0 :: rowOf rows h)) h (mN ms h - 1) (slidL ms rows h).2 := by
  obtain ⟨hm, hr, hg⟩ := hp
  obtain ⟨c1, hn', c3, c4⟩ := cons_gL hm hr hh
  obtain ⟨hl, hlt⟩ := hole_lt hm hh
  have C := hole_cfg hm hr ((good_gs hm hr).mp hg) hh
  have em : ∀ i, mN (ms.set h (ms.getD h 0 - 1)) i = if i = h then mN ms h - 1 else mN ms i := fun i => by
    have e1 := mN_cast hm.nn h
    rw [mN_set hl]
    split
    · omega
    · rfl
  refine ⟨hn', ?_, ?_, fun i => by rw [c3]; exact RowsOk.r8 hm hr i, by rw [c3]; exact RowsOk.r0 hm hr hm.2.1, by omega⟩
  · show _ = ((slidGo 20 _ _ h (mN (ms.set h (ms.getD h 0 - 1)) h)).1, (slidGo 20 _ _ h (mN (ms.set h (ms.getD h 0 - 1)) h)).2)
    rw [c4]
  · have es : stL (ms.set h (ms.getD h 0 - 1)) (rows.set h (0 :: rowOf rows h)) h (mN ms h - 1) = (gL ms rows, h, mN ms h - 1) := by unfold stL; rw [c1]
    rw [es, show mN (ms.set h (ms.getD h 0 - 1)) = fun i => if i = h then mN ms h - 1 else mN ms i from funext em, funext c3]
    exact C
/-- a slide back under way -/
structure BRun (ms : List Int) (n : Nat) (rows : List (List Int)) (h c : Nat) (res : List (List Int) × Nat) : Prop where
  nn : Nn ms
  go : backGo n ms rows h c = res
  cfg : CfgS (mN ms) (rN ms rows) (stL ms rows h c)
  fu : h + c < n
theorem BRun.hole (S : BRun ms n rows h c res) : mN ms h ≤ c ∧ c < rN ms rows h ∧ 1 ≤ n ∧ h < rows.length := by
  have C : Cfg (mN ms) (rN ms rows) (put (gL ms rows) h c none) h c := S.cfg
  have hc := C.hole
  have := S.fu
  exact ⟨hc.1, hc.2, by omega, row_lt (by unfold rN at hc; omega)⟩
theorem BRun.stop (S : BRun ms n rows h c res) (hl : look ms rows h ((c : Int) - 1) = none) (hu : look ms rows ((h : Int) - 1) c = none) : res = (rows.set h ((rowOf rows h).drop 1), h) := by
  obtain ⟨m, rfl⟩ : ∃ m, n = m + 1 := ⟨n - 1, by have := S.hole; omega⟩
  rw [← S.go]
  unfold backGo
  rw [hl, hu]
theorem BRun.up (S : BRun ms n rows h c res) {u : Int} (hu : look ms rows ((h : Int) - 1) c = some u) (hl : ∀ x, look ms rows h ((c : Int) - 1) = some x → x ≤ u) : 0 < h ∧ BRun ms (n - 1) (setC ms rows h c u) (h - 1) c res := by
  obtain ⟨m, rfl⟩ : ∃ m, n = m + 1 := ⟨n - 1, by have := S.hole; omega⟩
  have hh := S.hole
  have eu := hu
  rw [look_up] at eu
  have h0 : 0 < h := by
    rcases Nat.eq_zero_or_pos h with q | q
    · rw [if_neg (by omega)] at eu; cases eu
    · exact q
  rw [if_pos h0] at eu
  refine ⟨h0, ?_⟩
  have e := SameShape.rN (SameShape.setC (ms := ms) (rows := rows) (h := h) (c := c) (v := u)) ms
  have f : Bk (stL ms rows h c) (stL ms (setC ms rows h c u) (h - 1) c) := by
    obtain ⟨h, rfl⟩ : ∃ h', h = h' + 1 := ⟨h - 1, by omega⟩
    rw [Nat.add_sub_cancel] at eu ⊢
    have := Bk.up (g := (stL ms rows (h + 1) c).1) (h := h) (c := c) (u := u) (by rw [gL_mask (by omega)]; exact eu) (fun x c0 hx => hl x (by
      rw [gL_mask (by omega)] at hx
      rw [look_left S.nn, if_pos c0]
      exact hx))
    unfold stL at this ⊢
    rw [gL_setC S.nn u ⟨hh.1, hh.2.1⟩]
    rw [put_put] at this
    exact this
  refine ⟨S.nn, ?_, by rw [e]; exact f.cfg S.cfg, by have := S.fu; omega⟩
  have := S.go
  unfold backGo at this
  rw [hu] at this
  rw [Nat.add_sub_cancel]
  cases eL : look ms rows h ((c : Int) - 1) with
  | none => rw [eL] at this; exact this
  | some x =>
    rw [eL] at this
    have e : (if x ≤ u then backGo m ms (setC ms rows h c u) (h - 1) c else backGo m ms (setC ms rows h c x) h (c - 1)) = res := this
    rw [if_pos (hl x eL)] at e
    exact e
theorem BRun.left (S : BRun ms n rows h c res) {x : Int} (hx : look ms rows h ((c : Int) - 1) = some x) (hu : ∀ u, look ms rows ((h : Int) - 1) c = some u → u < x) : 0 < c ∧ BRun ms (n - 1) (setC ms rows h c x) h (c - 1) res := by
  obtain ⟨m, rfl⟩ : ∃ m, n = m + 1 := ⟨n - 1, by have := S.hole; omega⟩
  have hh := S.hole
  have el := hx
  rw [look_left S.nn] at el
  have c0 : 0 < c := by
    rcases Nat.eq_zero_or_pos c with q | q
    · rw [if_neg (by omega)] at el; cases el
    · exact q
  rw [if_pos c0] at el
  refine ⟨c0, ?_⟩
  have e := SameShape.rN (SameShape.setC (ms := ms) (rows := rows) (h := h) (c := c) (v := x)) ms
  have f : Bk (stL ms rows h c) (stL ms (setC ms rows h c x) h (c - 1)) := by
    obtain ⟨c, rfl⟩ : ∃ c', c = c' + 1 := ⟨c - 1, by omega⟩
    rw [Nat.add_sub_cancel] at el ⊢
    have := Bk.left (g := (stL ms rows h (c + 1)).1) (h := h) (c := c) (x := x) (by rw [gL_mask (by omega)]; exact el) (fun u h0 hu' => hu u (by
      rw [gL_mask (by omega)] at hu'
      rw [look_up, if_pos h0]
      exact hu'))
    unfold stL at this ⊢
    rw [gL_setC S.nn x ⟨hh.1, hh.2.1⟩]
    rw [put_put] at this
    exact this
  refine ⟨S.nn, ?_, by rw [e]; exact f.cfg S.cfg, by have := S.fu; omega⟩
  have := S.go
  unfold backGo at this
  rw [hx] at this
  rw [Nat.add_sub_cancel]
  cases eU : look ms rows ((h : Int) - 1) c with
  | none => rw [eU] at this; exact this
  | some u =>
    rw [eU] at this
    have e : (if x ≤ u then backGo m ms (setC ms rows h c u) (h - 1) c else backGo m ms (setC ms rows h c x) h (c - 1)) = res := this
    rw [if_neg (by have := hu u eU; omega)] at e
    exact e
end
end Hs

namespace Hs
open Vl
section
variable {ms : List Int} {rows : List (List Int)} {h c : Nat}
theorem back_start (hp : Piece ms rows) (he : endB ms rows h = true) : BRun (extL ms rows h).1 20 ((extL ms rows h).2.set h (rowOf (extL ms rows h).2 h ++ [0])) h (rN ms rows h) (slidB ms rows h).2 := by
  show BRun (extL ms rows h).1 20 ((extL ms rows h).2.set h (rowOf (extL ms rows h).2 h ++ [0])) h (rN ms rows h) (backGo 20 (extL ms rows h).1 ((extL ms rows h).2.set h (rowOf (extL ms rows h).2 h ++ [0])) h (rN (extL ms rows h).1 (extL ms rows h).2 h))
  obtain ⟨x1, x2, x3, x4, x5, x6, x7⟩ := ext_same (h := h) hp
  obtain ⟨y1, y2, y3⟩ := ext_len hp he
  obtain ⟨z1, z2⟩ := end_lt hp he
  have hm := hp.1
  have hr := hp.2.1
  have G := (good_gs hm hr).mp hp.2.2
  have mm := hm.mm
  have rr := fun i => RowsOk.rr hm hr i
  have r8 := RowsOk.r8 hm hr
  have ml : mN ms h ≤ rN ms rows h := Nat.le_add_right _ _
  generalize hX : (extL ms rows h).1 = mx at *
  generalize hY : (extL ms rows h).2 = rx at *
  -- the cell put at the end
  have er : ∀ i, rowOf (rx.set h (rowOf rx h ++ [0])) i = if i = h then rowOf rows h ++ [0] else rowOf rows i := fun i => by
    rw [rowOf_set']
    by_cases e : i = h
    · rw [if_pos ⟨e, y1⟩, if_pos e, x2]
    · rw [if_neg (fun q => e q.1), if_neg e, x2]
  have eR : ∀ i, rN mx (rx.set h (rowOf rx h ++ [0])) i = if i = h then rN ms rows h + 1 else rN ms rows i := fun i => by
    unfold rN
    rw [er, x1]
    by_cases e : i = h
    · subst e
      rw [if_pos rfl, if_pos rfl, List.length_append, List.length_singleton]
      omega
    · rw [if_neg e, if_neg e]
  have eR' : rN mx (rx.set h (rowOf rx h ++ [0])) = fun i => if i = h then rN ms rows h + 1 else rN ms rows i := funext eR
  have ech : rN mx rx h = rN ms rows h := congrFun x5 h
  have es : stL mx (rx.set h (rowOf rx h ++ [0])) h (rN ms rows h) = (gL ms rows, h, rN ms rows h) := by
    unfold stL
    congr 1
    funext i j
    by_cases e : i = h ∧ j = rN ms rows h
    · obtain ⟨rfl, rfl⟩ := e
      rw [put_same, gL_eq hm.nn, if_neg (by omega)]
    · rw [put_ne _ _ e, gL_eq x4, eR, x1, gL_eq hm.nn, er]
      by_cases ei : i = h
      · subst ei
        rw [if_pos rfl, if_pos rfl]
        by_cases c : mN ms i ≤ j ∧ j < rN ms rows i
        · rw [if_pos c, if_pos (by omega)]
          congr 1
          unfold rN at c
          rw [List.getD_eq_getElem?_getD, List.getElem?_append_left (by omega), ← List.getD_eq_getElem?_getD]
        · rw [if_neg c, if_neg (by omega)]
      · rw [if_neg ei, if_neg ei]
  have C : Cfg (mN ms) (fun i => if i = h then rN ms rows h + 1 else rN ms rows i) (gL ms rows) h (rN ms rows h) := by
    refine ⟨mm, fun i => ?_, ⟨ml, ?_⟩, fun i j => ?_, G⟩
    · have := rr i
      by_cases a : i + 1 = h
      · rw [if_pos a, if_neg (by omega)]
        rw [if_pos (by omega), show h - 1 = i by omega] at z1
        omega
      · rw [if_neg a]
        by_cases b : i = h
        · subst b
          rw [if_pos rfl]
          omega
        · rw [if_neg b]
          exact this
    · show rN ms rows h < (if h = h then _ else _)
      rw [if_pos rfl]
      omega
    · rw [gL_some hm.nn]
      by_cases e : i = h
      · subst e
        rw [if_pos rfl]
        omega
      · rw [if_neg e]
        exact ⟨fun q => ⟨q, fun z => e z.1⟩, fun q => q.1⟩
  have Cs : CfgS (mN mx) (rN mx (rx.set h (rowOf rx h ++ [0]))) (stL mx (rx.set h (rowOf rx h ++ [0])) h (rN ms rows h)) := by
    rw [es, x1, eR']
    exact C
  have c8 : rN ms rows h < 8 := by
    split at z1
    · have := r8 (h - 1); omega
    · exact z1
  refine ⟨x4, by rw [ech], Cs, by omega⟩
/-! ### rows of data, ints but for the hole -/
def lookD (ms : List Int) (R : List (List D)) (r c : Int) : D :=
  if 0 ≤ r ∧ r < R.length then
    (if 0 ≤ c - ms.getD r.toNat 0 ∧ c - ms.getD r.toNat 0 < (R.getD r.toNat []).length then (R.getD r.toNat []).getD (c - ms.getD r.toNat 0).toNat .non else .non)
  else .non
def toD (rows : List (List Int)) : List (List D) := rows.map fun r => r.map D.int
theorem toD_len : (toD rows).length = rows.length := List.length_map ..
theorem toD_row (i : Nat) : (toD rows).getD i [] = (rowOf rows i).map .int := getD_mapI
theorem getD_I {ns : List Int} {j : Nat} (hj : j < ns.length) : (ns.map D.int).getD j .non = .int (ns.getD j 0) := by
  rw [List.getD_eq_getElem?_getD, List.getElem?_map, List.getD_eq_getElem?_getD, List.getElem?_eq_getElem hj]
  rfl
theorem lookD_ints (ms : List Int) (rows : List (List Int)) (r c : Int) : lookD ms (toD rows) r c = oI (look ms rows r c) := by
  unfold lookD look
  rw [toD_len, toD_row, List.length_map]
  split
  · have e : (rowOf rows r.toNat) = rows.getD r.toNat [] := rfl
    rw [e]
    split
    · rw [getD_I (by omega)]
      rfl
    · rfl
  · rfl
/-- ints, but for what lies at the hole -/
def HD (ms : List Int) (rows : List (List Int)) (h c : Nat) (d : D) : List (List D) := (toD rows).set h (((rowOf rows h).map .int).set (c - mN ms h) d)
structure HolD (ms : List Int) (rows : List (List Int)) (h c : Nat) (R : List (List D)) : Prop where
  ex : ∃ d, scalD d = true ∧ R = HD ms rows h c d
theorem HolD.len {R : List (List D)} (H : HolD ms rows h c R) : R.length = rows.length := by
  obtain ⟨d, _, rfl⟩ := H.ex
  unfold HD
  rw [List.length_set, toD_len]
theorem HD_row {d : D} (i : Nat) : (HD ms rows h c d).getD i [] = if i = h ∧ h < rows.length then ((rowOf rows h).map .int).set (c - mN ms h) d else (rowOf rows i).map .int := by
  unfold HD
  by_cases e : i = h
  · subst e
    by_cases hl : i < rows.length
    · rw [if_pos ⟨rfl, hl⟩, List.getD_eq_getElem?_getD, List.getElem?_set_self (by rw [toD_len]; exact hl)]
      rfl
    · rw [if_neg (fun q => hl q.2), List.getD_eq_getElem?_getD, List.getElem?_eq_none (by rw [List.length_set, toD_len]; omega), rowOf_out (by omega)]
      rfl
  · rw [if_neg (fun q => e q.1), List.getD_eq_getElem?_getD, List.getElem?_set_ne (fun q => e q.symm), ← List.getD_eq_getElem?_getD, toD_row]
theorem HolD.rowLen {R : List (List D)} (H : HolD ms rows h c R) (i : Nat) : (R.getD i []).length = (rowOf rows i).length := by
  obtain ⟨d, _, rfl⟩ := H.ex
  rw [HD_row]
  split
  · rename_i q
    rw [List.length_set, List.length_map, q.1]
  · rw [List.length_map]
theorem all_set {ds : List D} {d : D} (hd : scalD d = true) : ∀ {j : Nat}, ds.all scalD = true → (ds.set j d).all scalD = true := by
  induction ds with
  | nil => intro j h; rw [List.set_nil]; exact h
  | cons x ds ih =>
    intro j h
    rw [List.all_cons, Bool.and_eq_true] at h
    cases j with
    | zero => rw [List.set_cons_zero, List.all_cons, hd, h.2]; rfl
    | succ j => rw [List.set_cons_succ, List.all_cons, h.1, ih h.2]; rfl
theorem all_ints (ns : List Int) : (ns.map D.int).all scalD = true := by rw [List.all_map]; exact List.all_eq_true.mpr fun _ _ => rfl
theorem HolD.scal {R : List (List D)} (H : HolD ms rows h c R) (i : Nat) : (R.getD i []).all scalD = true := by
  obtain ⟨d, hd, rfl⟩ := H.ex
  rw [HD_row]
  split
  · exact all_set hd (all_ints _)
  · exact all_ints _
theorem HolD.look {R : List (List D)} (H : HolD ms rows h c R) (hn : Nn ms) (hc : mN ms h ≤ c) {r c' : Int} (ne : ¬ (r = h ∧ c' = c)) : lookD ms R r c' = oI (look ms rows r c') := by
  have hl := H.len
  have hrl := H.rowLen r.toNat
  obtain ⟨d, hd, rfl⟩ := H.ex
  have e0 := mN_cast hn r.toNat
  unfold lookD Hs.look
  rw [hl, hrl]
  have e1 : (rowOf rows r.toNat) = rows.getD r.toNat [] := rfl
  rw [e1]
  split
  · rename_i q
    split
    · rename_i q2
      rw [HD_row]
      split
      · rename_i q3
        rw [q3.1] at q2 ⊢
        rw [List.getD_eq_getElem?_getD, List.getElem?_set_ne, ← List.getD_eq_getElem?_getD]
        · have : rowOf rows h = rows.getD h [] := rfl
          rw [getD_I (by rw [this]; omega)]
          rfl
        · have e2 := mN_cast hn h
          intro q4
          apply ne
          have : r = (h : Int) := by omega
          exact ⟨this, by omega⟩
      · rw [e1, getD_I (by omega)]
        rfl
    · rfl
  · rfl
theorem set_getD {α : Type} {d : α} : ∀ {l : List α} {i : Nat}, l.set i (l.getD i d) = l
  | [], i => rfl
  | x :: l, 0 => rfl
  | x :: l, i + 1 => by
    rw [List.set_cons_succ]
    have : (x :: l).getD (i + 1) d = l.getD i d := rfl
    rw [this, set_getD]
theorem toD_hol (hc : mN ms h ≤ c ∧ c < rN ms rows h) : HolD ms rows h c (toD rows) := by
  refine ⟨.int ((rowOf rows h).getD (c - mN ms h) 0), rfl, ?_⟩
  unfold HD
  have e : ((rowOf rows h).map D.int).set (c - mN ms h) (.int ((rowOf rows h).getD (c - mN ms h) 0)) = (toD rows).getD h [] := by
    rw [toD_row, ← getD_I (by have := hc.2; unfold rN at this; omega)]
    exact set_getD
  rw [e, set_getD]
theorem HolD.put {R : List (List D)} (H : HolD ms rows h c R) (hl : h < rows.length) (v : Int) : R.set h ((R.getD h []).set (c - mN ms h) (.int v)) = toD (setC ms rows h c v) := by
  obtain ⟨d, _, rfl⟩ := H.ex
  rw [HD_row, if_pos ⟨rfl, hl⟩, List.set_set]
  unfold HD setC toD
  rw [List.set_set, List.map_set, List.map_set]
end
end Hs

namespace Hs
open Vl
/-! ### holes and ends, told in order -/
def up1 (n : Nat) (p : Nat → Bool) : List Int := ((List.range n).filter p).map fun i => ((i + 1 : Nat) : Int)
def holesL (ms : List Int) : List Int := up1 ms.length (holeB ms)
def farL (ms : List Int) (rows : List (List Int)) : List Int := (ms.zip rows).map fun z => z.1 + (z.2.length : Int)
def endsL (ms : List Int) (rows : List (List Int)) : List Int := up1 (rows.length + 1) (endB ms rows)
theorem mem_up1 {n : Nat} {p : Nat → Bool} {x : Int} : x ∈ up1 n p ↔ ∃ i, i < n ∧ p i = true ∧ x = ((i + 1 : Nat) : Int) := by
  unfold up1
  simp only [List.mem_map, List.mem_filter, List.mem_range]
  constructor
  · rintro ⟨i, ⟨h1, h2⟩, rfl⟩; exact ⟨i, h1, h2, rfl⟩
  · rintro ⟨i, h1, h2, rfl⟩; exact ⟨i, ⟨h1, h2⟩, rfl⟩
theorem up1_D {n : Nat} {p q : Nat → Bool} {f : Nat → D} (h : ∀ i, i < n → q i = p i) (hf : ∀ i, f i = .int ((i + 1 : Nat) : Int)) : ((List.range n).filter q).map f = (up1 n p).map D.int := by
  unfold up1
  rw [List.filter_congr (q := p) fun i hi => h i (List.mem_range.mp hi), List.map_map]
  exact List.map_congr_left fun i _ => hf i
theorem below_cut {ms : List Int} {i : Nat} : (cut ms (some 1) none ++ [0]).getD i 0 = ms.getD (i + 1) 0 := by
  rw [show cut ms (some 1) none = ms.drop 1 from cut_from 1, getD_app0, List.getD_eq_getElem?_getD, List.getElem?_drop, List.getD_eq_getElem?_getD, Nat.add_comm]
theorem holes_D {ms : List Int} : ((List.range ms.length).filter fun i => decide ((cut ms (some 1) none ++ [0]).getD (((i + 1 : Nat) : Int) - 1).toNat 0 < ms.getD i 0)).map (fun i => Vl.D.int ((i + 1 : Nat) : Int)) = (holesL ms).map D.int :=
  up1_D (fun i _ => by rw [show (((i + 1 : Nat) : Int) - 1).toNat = i by omega, below_cut]; rfl) fun _ => rfl
theorem holes_law_D {ms : List Int} : ((List.range ms.length).filter fun i => decide ((ms ++ [0]).getD (((i + 0 : Nat) : Int) + 1).toNat 0 < ms.getD i 0)).map (fun i => Vl.D.int (((i + 0 : Nat) : Int) + 1)) = (holesL ms).map D.int :=
  up1_D (fun i _ => by rw [show (((i + 0 : Nat) : Int) + 1).toNat = i + 1 by omega, getD_app0]; rfl) fun _ => by simp
theorem farL_len {ms : List Int} {rows : List (List Int)} (hl : rows.length = ms.length) : (farL ms rows).length = ms.length := by unfold farL; rw [List.length_map, List.length_zip, hl, Nat.min_self]
theorem farL_at {ms : List Int} {rows : List (List Int)} (hn : Nn ms) (hl : rows.length = ms.length) {i : Nat} (hi : i < ms.length) : (farL ms rows).getD i 0 = (rN ms rows i : Int) := by
  have e0 := mN_cast hn i
  unfold farL rN rowOf
  rw [List.getD_eq_getElem?_getD, List.getElem?_map, List.getElem?_eq_getElem (by rw [List.length_zip]; omega), List.getElem_zip]
  rw [List.getD_eq_getElem?_getD, List.getElem?_eq_getElem hi] at e0
  rw [List.getD_eq_getElem?_getD, List.getElem?_eq_getElem (show i < rows.length by omega)]
  show ms[i] + (rows[i].length : Int) = _
  have e0 : (mN ms i : Int) = ms[i] := e0
  rw [Option.getD_some]
  omega
theorem endsT_D {ms : List Int} {rows : List (List Int)} (hn : Nn ms) (hl : rows.length = ms.length) {q : Nat → Bool} {f : Nat → D}
    (hq : ∀ i, i < ms.length → q i = decide ((farL ms rows).getD i 0 < (if 0 < i then (farL ms rows).getD (i - 1) 0 else 8))) (hf : ∀ i, f i = .int ((i + 1 : Nat) : Int)) : ((List.range (farL ms rows).length).filter q).map f = (up1 rows.length (endB ms rows)).map D.int := by
  rw [farL_len hl, ← hl]
  refine up1_D (fun i hi => ?_) hf
  rw [hq i (by omega), farL_at hn hl (by omega)]
  unfold endB
  rw [if_pos hi]
  refine decide_eq_decide.mpr ?_
  by_cases h0 : 0 < i
  · rw [if_pos h0, if_pos h0, farL_at hn hl (by omega)]
    omega
  · rw [if_neg h0, if_neg h0]
    omega
theorem ends_app {ms : List Int} {rows : List (List Int)} (hn : Nn ms) (hl : rows.length = ms.length) (h1 : 1 ≤ ms.length) : endsL ms rows = up1 rows.length (endB ms rows) ++ (if rows.length < 8 ∧ 0 < (farL ms rows).getD (ms.length - 1) 0 then [((rows.length + 1 : Nat) : Int)] else []) := by
  unfold endsL up1
  rw [List.range_succ, List.filter_append, List.map_append]
  congr 1
  have e : endB ms rows rows.length = decide (rows.length < 8 ∧ 0 < (farL ms rows).getD (ms.length - 1) 0) := by
    unfold endB
    rw [if_neg (by omega), farL_at hn hl (by omega)]
    refine decide_eq_decide.mpr ?_
    rw [hl]
    omega
  by_cases c : rows.length < 8 ∧ 0 < (farL ms rows).getD (ms.length - 1) 0
  · rw [if_pos c, List.filter_cons_of_pos (by rw [e]; exact decide_eq_true c)]
    rfl
  · rw [if_neg c, List.filter_cons_of_neg (by rw [e]; simpa using c)]
    rfl
end Hs

namespace Hs
open Vl PySem PySem.Spec PyProof.Rows L2
section
variable {ms : List Int} {rows : List (List Int)} {h c : Nat}
theorem cut_set {α : Type} {xs : List α} {h : Nat} {a b : Int} (v : α) (ha : a = h) (hb : b = ((h + 1 : Nat) : Int)) (hl : h < xs.length) : cut xs none (some a) ++ [v] ++ cut xs (some b) none = xs.set h v := by
  subst ha hb
  rw [cut_to, cut_from, List.set_eq_take_append_cons_drop, if_pos hl, List.append_assoc]
  rfl
theorem cutD_last {ds : List D} : Vl.cutD ds none (some (-1)) = ds.dropLast := by
  unfold Vl.cutD
  have e : HT.sIx ds.length ds.length (some (-1)) = ((-1 : Int) + (ds.length : Int)).toNat := rfl
  have e2 : HT.sIx ds.length 0 none = 0 := rfl
  rw [e, e2, List.drop_zero, List.dropLast_eq_take, Nat.sub_zero]
  congr 1
  omega
theorem cutD_one {ds : List D} : Vl.cutD ds (some 1) none = ds.drop 1 := by
  unfold Vl.cutD
  have e : HT.sIx ds.length 0 (some 1) = min 1 ds.length := rfl
  have e2 : HT.sIx ds.length ds.length none = ds.length := rfl
  rw [e, e2]
  rw [List.take_of_length_le (by rw [List.length_drop]; exact Nat.le_refl _)]
  cases ds with
  | nil => rfl
  | cons x ds => rw [show min 1 (x :: ds).length = 1 by simp]
/-- the hole put before a row -/
theorem hol_first (hc : c = mN ms h) (hl : h < rows.length) : (toD rows).set h ([D.non] ++ (rowOf rows h).map .int) = HD ms (rows.set h (0 :: rowOf rows h)) h c .non := by
  unfold HD toD
  rw [List.map_set, List.set_set, rowOf_set', if_pos ⟨rfl, hl⟩, hc, Nat.sub_self]
  rfl
/-- the hole put behind a row -/
theorem hol_last (hc : c = rN ms rows h) (hl : h < rows.length) : (toD rows).set h ((rowOf rows h).map .int ++ [D.non]) = HD ms (rows.set h (rowOf rows h ++ [0])) h c .non := by
  unfold HD toD
  rw [List.map_set, List.set_set, rowOf_set', if_pos ⟨rfl, hl⟩, hc]
  unfold rN
  rw [Nat.add_sub_cancel_left, List.map_append]
  congr 1
  rw [List.set_append_right _ _ (by rw [List.length_map]; exact Nat.le_refl _), List.length_map, Nat.sub_self]
  rfl
theorem set_dropLast {α : Type} {l : List α} {i : Nat} {d : α} (h : i + 1 = l.length) : (l.set i d).dropLast = l.dropLast := by
  rw [List.dropLast_eq_take, List.dropLast_eq_take, List.length_set, List.take_set_of_le (by omega)]
/-- the hole at the end of a row cut off -/
theorem HolD.last {R : List (List D)} (H : HolD ms rows h c R) (hl : h < rows.length) (hc : c + 1 = rN ms rows h) (hm : mN ms h ≤ c) : R.set h (R.getD h []).dropLast = toD (rows.set h (rowOf rows h).dropLast) := by
  obtain ⟨d, _, rfl⟩ := H.ex
  rw [HD_row, if_pos ⟨rfl, hl⟩, set_dropLast (by rw [List.length_map]; unfold rN at hc; omega)]
  unfold HD toD
  rw [List.set_set, List.map_set, List.map_dropLast]
theorem HolD.first {R : List (List D)} (H : HolD ms rows h c R) (hl : h < rows.length) (hc : c = mN ms h) : R.set h ((R.getD h []).drop 1) = toD (rows.set h ((rowOf rows h).drop 1)) := by
  obtain ⟨d, _, rfl⟩ := H.ex
  rw [HD_row, if_pos ⟨rfl, hl⟩, hc, Nat.sub_self]
  unfold HD toD
  rw [List.set_set, List.map_set, List.map_drop]
  cases rowOf rows h <;> rfl
/-- an own row's item stored -/
theorem RowsDD.store {xs : List OD} {R : List (List D)} {n j : Nat} {r : List D} {a : Addr} {d : D} (h : RowsDD xs R) : RowsDD (xs.set n (.own a ((r.map .fz).set j (.fz d)))) (R.set n (r.set j d)) := by
  have e : OD.own a ((r.map OD.fz).set j (.fz d)) = ol a (r.set j d) := by
    unfold ol
    rw [List.map_set]
  rw [e]
  exact h.set
theorem RowsDD.popd {xs : List OD} {R : List (List D)} {n : Nat} {r : List D} {a : Addr} (h : RowsDD xs R) : RowsDD (xs.set n (.own a (r.map .fz).dropLast)) (R.set n r.dropLast) := by
  have e : OD.own a (r.map OD.fz).dropLast = ol a r.dropLast := by
    unfold ol
    rw [List.map_dropLast]
  rw [e]
  exact h.set
theorem RowsDD.appd {xs : List OD} {R : List (List D)} {n : Nat} {r : List D} {a : Addr} {d : D} (h : RowsDD xs R) : RowsDD (xs.set n (.own a (r.map .fz ++ [.fz d]))) (R.set n (r ++ [d])) := by
  have e : OD.own a (r.map OD.fz ++ [.fz d]) = ol a (r ++ [d]) := by
    unfold ol
    rw [List.map_append]
    rfl
  rw [e]
  exact h.set
end
end Hs

namespace Hs
open Vl PySem PySem.Spec PyProof.Rows L2
/-! ### what is shown -/
def Sml (rows : List (List Int)) : Prop := ∀ r ∈ rows, ∀ n ∈ r, n.natAbs < 2 ^ 1900
def tupD (r : List Int × List (List Int) × Nat) : D := .tup [LI r.1, LL r.2.1, .int ((r.2.2 + 1 : Nat) : Int)]
theorem Sml.perm {a b : List (List Int)} (h : Sml a) (p : b.flatten.Perm a.flatten) : Sml b := fun r hr n hn => by
  obtain ⟨q, h1, h2⟩ := List.mem_flatten.mp (p.subset (List.mem_flatten.mpr ⟨r, hr, hn⟩))
  exact h q h1 n h2
theorem rpr_pc {ms : List Int} {rows : List (List Int)} (hp : Piece ms rows) (hs : Sml rows) : Rpr (.lst [LI ms, LL rows]) := by
  have h1 := flat_le hp.1 hp.2.1
  have h2 := hp.1.2.1
  have h3 := hp.2.1.1
  exact rpr_pair (ms_small hp.1) hs (by omega)
theorem meas_tup {ms : List Int} {rows : List (List Int)} {k : Nat} (hp : Piece ms rows) (hs : Sml rows) (hk : k < 100) : Shw (tupD (ms, rows, k)) ∧ dep (tupD (ms, rows, k)) ≤ 5 ∧ blk (tupD (ms, rows, k)) ≤ 200 := by
  have h1 := flat_le hp.1 hp.2.1
  have h2 := hp.1.2.1
  have h3 := hp.2.1.1
  have m1 := meas_LI ms
  have m2 := meas_LL rows
  have hi : dep (.int ((k + 1 : Nat) : Int)) = 0 := by rw [dep]
  have hb : blk (.int ((k + 1 : Nat) : Int)) = 0 := by rw [blk]
  unfold tupD
  refine ⟨?_, ?_, ?_⟩
  · rw [shw_tup, shws_cons, shws_cons, shws_cons, shws_nil]
    refine ⟨shw_LI (ms_small hp.1), shw_LL hs, ?_, trivial⟩
    unfold Shw
    rw [Int.natAbs_natCast]
    exact Nat.lt_of_le_of_lt (show k + 1 ≤ 100 by omega) (by decide +kernel)
  · rw [dep_tup, deps_cons, deps_cons, deps_cons, deps_nil, m1.2, hi]
    have : dep (LL (ms, rows, k).2.1) ≤ 2 := m2.2
    omega
  · rw [blk_tup, blks_cons, blks_cons, blks_cons, blks_nil, m1.1, m2.1, hb]
    show ms.length + 1 + (rows.flatten.length + rows.length + 1 + (0 + 1 + 0)) ≤ 200
    omega
theorem rpr_tup {ms : List Int} {rows : List (List Int)} {k : Nat} (hp : Piece ms rows) (hs : Sml rows) (hk : k < 100) : Rpr (tupD (ms, rows, k)) ∧ Rpr (.lst [tupD (ms, rows, k), tupD (ms, rows, k)]) := by
  obtain ⟨a, b, c⟩ := meas_tup hp hs hk
  exact ⟨⟨a, by omega, by omega⟩, rpr_two a a (by omega) (by omega) (by omega)⟩
theorem dat_otp3 {t : Addr} {x y z : OD} : dat (.otp t [x, y, z]) = .tup [dat x, dat y, dat z] := by
  rw [Vl.dat, dats, dats, dats, dats]
theorem dat_own2 {t : Addr} {x y : OD} : dat (.own t [x, y]) = .lst [dat x, dat y] := by
  rw [Vl.dat, dats, dats, dats]
theorem dat_fzd {d : D} : dat (.fz d) = d := by rw [Vl.dat]
/-- none behind each row: one none in each -/
theorem count_non {ns : List Int} : (ns.map D.int ++ [D.non]).countP (fun x => eqV (scV x) (scV .non)) = 1 := by
  rw [List.countP_append, List.countP_map]
  have : ns.countP ((fun x => eqV (scV x) (scV .non)) ∘ D.int) = 0 := List.countP_eq_zero.mpr fun _ _ => by simp [scV, eqV]
  rw [this]
  rfl
theorem none_left {rows : List (List Int)} : ((apR .non (toD rows) (toD rows).length).filter fun ds => !decide (((ds.countP fun x => eqV (scV x) (scV .non) : Nat) : Int) = 1)).map Vl.D.lst = [] := by
  rw [apR_all]
  have : ((toD rows).map (· ++ [D.non])).filter (fun ds => !decide (((ds.countP fun x => eqV (scV x) (scV .non) : Nat) : Int) = 1)) = [] := by
    refine List.filter_eq_nil_iff.mpr fun ds hd => ?_
    unfold toD at hd
    rw [List.map_map] at hd
    obtain ⟨r, _, rfl⟩ := List.mem_map.mp hd
    show ¬ (!decide ((((r.map D.int ++ [D.non]).countP fun x => eqV (scV x) (scV .non) : Nat) : Int) = 1)) = true
    rw [count_non]
    simp
  rw [this]
  rfl
theorem all_none {rows : List (List Int)} : ∀ z ∈ apR .non (toD rows) (toD rows).length, z.all scalD = true := fun z hz => by
  rw [apR_all] at hz
  unfold toD at hz
  rw [List.map_map] at hz
  obtain ⟨r, _, rfl⟩ := List.mem_map.mp hz
  show (r.map D.int ++ [D.non]).all scalD = true
  rw [List.all_append, all_ints]
  rfl
end Hs

namespace Hs
open PySem PySem.Spec PyProof.Rows L2 Vl
def topS (i : Nat) : Stmt := PySem.Challenge.pw_holeslides_k10_whole_slides.main.body.getD i (.Pass ⟨0, 0, 0, 0⟩)
abbrev s_is_whole : Stmt := topS 9
theorem sc_is_whole : FnScope ["thing"] ["thing"] (defScope s_is_whole) := ⟨rfl, rfl, rfl, by decide +kernel, rfl, by decide +kernel, by decide +kernel⟩
abbrev s_check_missing : Stmt := topS 11
theorem sc_check_missing : FnScope ["missing", "index", "many"] ["missing"] (defScope s_check_missing) := ⟨rfl, rfl, rfl, by decide +kernel, rfl, by decide +kernel, by decide +kernel⟩
abbrev s_check_numbers : Stmt := topS 12
theorem sc_check_numbers : FnScope ["row", "index", "number"] ["row", "index"] (defScope s_check_numbers) := ⟨rfl, rfl, rfl, by decide +kernel, rfl, by decide +kernel, by decide +kernel⟩
abbrev s_check_rows : Stmt := topS 13
theorem sc_check_rows : FnScope ["missing", "rows", "index", "row"] ["missing", "rows"] (defScope s_check_rows) := ⟨rfl, rfl, rfl, by decide +kernel, rfl, by decide +kernel, by decide +kernel⟩
abbrev s_number_at : Stmt := topS 14
theorem sc_number_at : FnScope ["missing", "rows", "row", "column", "place"] ["missing", "rows", "row", "column"] (defScope s_number_at) := ⟨rfl, rfl, rfl, by decide +kernel, rfl, by decide +kernel, by decide +kernel⟩
abbrev s_wrong_rows : Stmt := topS 15
theorem sc_wrong_rows : FnScope ["missing", "rows", "told", "row", "numbers", "falls", "place", "number", "above", "left", "right"] ["missing", "rows"] (defScope s_wrong_rows) := ⟨rfl, rfl, rfl, by decide +kernel, rfl, by decide +kernel, by decide +kernel⟩
abbrev s_check_piece : Stmt := topS 16
theorem sc_check_piece : FnScope ["missing", "rows", "wrong"] ["missing", "rows"] (defScope s_check_piece) := ⟨rfl, rfl, rfl, by decide +kernel, rfl, by decide +kernel, by decide +kernel⟩
abbrev s_lengths_in : Stmt := topS 17
theorem sc_lengths_in : FnScope ["missing", "rows", "many", "row"] ["missing", "rows"] (defScope s_lengths_in) := ⟨rfl, rfl, rfl, by decide +kernel, rfl, by decide +kernel, by decide +kernel⟩
abbrev s_copied : Stmt := topS 18
theorem sc_copied : FnScope ["rows", "row"] ["rows"] (defScope s_copied) := ⟨rfl, rfl, rfl, by decide +kernel, rfl, by decide +kernel, by decide +kernel⟩
abbrev s_is_sorted : Stmt := topS 19
theorem sc_is_sorted : FnScope ["missing", "rows"] ["missing", "rows"] (defScope s_is_sorted) := ⟨rfl, rfl, rfl, by decide +kernel, rfl, by decide +kernel, by decide +kernel⟩
abbrev s_holes_in : Stmt := topS 21
theorem sc_holes_in : FnScope ["missing", "below", "row", "many"] ["missing"] (defScope s_holes_in) := ⟨rfl, rfl, rfl, by decide +kernel, rfl, by decide +kernel, by decide +kernel⟩
abbrev s_slid : Stmt := topS 22
theorem sc_slid : FnScope ["missing", "rows", "row", "here", "column", "right", "lower", "place"] ["missing", "rows", "row"] (defScope s_slid) := ⟨rfl, rfl, rfl, by decide +kernel, rfl, by decide +kernel, by decide +kernel⟩
abbrev s_slid_back : Stmt := topS 23
theorem sc_slid_back : FnScope ["missing", "rows", "row", "here", "column", "left", "upper", "place"] ["missing", "rows", "row"] (defScope s_slid_back) := ⟨rfl, rfl, rfl, by decide +kernel, rfl, by decide +kernel, by decide +kernel⟩
abbrev s_ends_in : Stmt := topS 24
theorem sc_ends_in : FnScope ["missing", "rows", "reach", "told", "row", "long"] ["missing", "rows"] (defScope s_ends_in) := ⟨rfl, rfl, rfl, by decide +kernel, rfl, by decide +kernel, by decide +kernel⟩
abbrev s_check_hole : Stmt := topS 25
theorem sc_check_hole : FnScope ["row", "missing"] ["row", "missing"] (defScope s_check_hole) := ⟨rfl, rfl, rfl, by decide +kernel, rfl, by decide +kernel, by decide +kernel⟩
abbrev s_check_end : Stmt := topS 26
theorem sc_check_end : FnScope ["row", "missing", "rows"] ["row", "missing", "rows"] (defScope s_check_end) := ⟨rfl, rfl, rfl, by decide +kernel, rfl, by decide +kernel, by decide +kernel⟩
abbrev s_holes : Stmt := topS 27
theorem sc_holes : FnScope ["missing"] ["missing"] (defScope s_holes) := ⟨rfl, rfl, rfl, by decide +kernel, rfl, by decide +kernel, by decide +kernel⟩
abbrev s_ends : Stmt := topS 28
theorem sc_ends : FnScope ["missing", "rows"] ["missing", "rows"] (defScope s_ends) := ⟨rfl, rfl, rfl, by decide +kernel, rfl, by decide +kernel, by decide +kernel⟩
abbrev s_slide : Stmt := topS 29
theorem sc_slide : FnScope ["missing", "rows", "row"] ["missing", "rows", "row"] (defScope s_slide) := ⟨rfl, rfl, rfl, by decide +kernel, rfl, by decide +kernel, by decide +kernel⟩
abbrev s_slide_back : Stmt := topS 30
theorem sc_slide_back : FnScope ["missing", "rows", "row"] ["missing", "rows", "row"] (defScope s_slide_back) := ⟨rfl, rfl, rfl, by decide +kernel, rfl, by decide +kernel, by decide +kernel⟩
abbrev s_law_draws : Stmt := topS 32
theorem sc_law_draws : FnScope ["cell"] ["cell"] (defScope s_law_draws) := ⟨rfl, rfl, rfl, by decide +kernel, rfl, by decide +kernel, by decide +kernel⟩
abbrev s_law_next : Stmt := topS 33
theorem sc_law_next : FnScope ["draws", "k", "number"] ["draws"] (defScope s_law_next) := ⟨rfl, rfl, rfl, by decide +kernel, rfl, by decide +kernel, by decide +kernel⟩
abbrev s_law_shape : Stmt := topS 34
theorem sc_law_shape : FnScope ["draws", "high", "wide", "told", "most", "turn", "pick"] ["draws", "high", "wide"] (defScope s_law_shape) := ⟨rfl, rfl, rfl, by decide +kernel, rfl, by decide +kernel, by decide +kernel⟩
abbrev s_law_within : Stmt := topS 35
theorem sc_law_within : FnScope ["draws", "lengths", "told", "most", "long"] ["draws", "lengths"] (defScope s_law_within) := ⟨rfl, rfl, rfl, by decide +kernel, rfl, by decide +kernel, by decide +kernel⟩
abbrev s_law_look : Stmt := topS 36
theorem sc_law_look : FnScope ["gone", "lines", "high", "wide", "at"] ["gone", "lines", "high", "wide"] (defScope s_law_look) := ⟨rfl, rfl, rfl, by decide +kernel, rfl, by decide +kernel, by decide +kernel⟩
abbrev s_law_piece : Stmt := topS 37
theorem sc_law_piece : FnScope ["draws", "lengths", "step", "gone", "lines", "high", "long", "wide", "left", "above", "low"] ["draws", "lengths", "step"] (defScope s_law_piece) := ⟨rfl, rfl, rfl, by decide +kernel, rfl, by decide +kernel, by decide +kernel⟩
abbrev s_law_slid : Stmt := topS 38
theorem sc_law_slid : FnScope ["gone", "lines", "high", "wide", "turn", "right", "lower", "line"] ["gone", "lines", "high"] (defScope s_law_slid) := ⟨rfl, rfl, rfl, by decide +kernel, rfl, by decide +kernel, by decide +kernel⟩
abbrev s_law_holes : Stmt := topS 39
theorem sc_law_holes : FnScope ["gone", "high", "many"] ["gone"] (defScope s_law_holes) := ⟨rfl, rfl, rfl, by decide +kernel, rfl, by decide +kernel, by decide +kernel⟩
abbrev s_law_ends : Stmt := topS 40
theorem sc_law_ends : FnScope ["gone", "lines", "far", "told", "many", "line", "high", "long"] ["gone", "lines"] (defScope s_law_ends) := ⟨rfl, rfl, rfl, by decide +kernel, rfl, by decide +kernel, by decide +kernel⟩
abbrev s_law_slide_right : Stmt := topS 41
theorem sc_law_slide_right : FnScope ["gone", "lines", "high", "before", "due", "told", "less", "now", "short", "line"] ["gone", "lines", "high"] (defScope s_law_slide_right) := ⟨rfl, rfl, rfl, by decide +kernel, rfl, by decide +kernel, by decide +kernel⟩
abbrev s_law_back_right : Stmt := topS 42
theorem sc_law_back_right : FnScope ["gone", "lines", "high", "before", "told", "less", "now", "more", "full", "line"] ["gone", "lines", "high"] (defScope s_law_back_right) := ⟨rfl, rfl, rfl, by decide +kernel, rfl, by decide +kernel, by decide +kernel⟩
abbrev s_law_right : Stmt := topS 43
theorem sc_law_right : FnScope ["gone", "lines", "before", "told", "both", "high"] ["gone", "lines"] (defScope s_law_right) := ⟨rfl, rfl, rfl, by decide +kernel, rfl, by decide +kernel, by decide +kernel⟩
abbrev s_law : Stmt := topS 44
theorem sc_law : FnScope ["script", "draws", "step", "gone", "lines", "line", "cell", "one"] ["script"] (defScope s_law) := ⟨rfl, rfl, rfl, by decide +kernel, rfl, by decide +kernel, by decide +kernel⟩
structure Txt (mg : Str → Option Value) : Prop where
  n_LookupError : mg "LookupError" = none
  n_ValueError : mg "ValueError" = none
  n_all : mg "all" = none
  n_any : mg "any" = none
  n_bool : mg "bool" = none
  n_enumerate : mg "enumerate" = none
  n_int : mg "int" = none
  n_isinstance : mg "isinstance" = none
  n_len : mg "len" = none
  n_list : mg "list" = none
  n_max : mg "max" = none
  n_min : mg "min" = none
  n_range : mg "range" = none
  n_repr : mg "repr" = none
  n_sorted : mg "sorted" = none
  n_sum : mg "sum" = none
  n_zip : mg "zip" = none
  c_MOST_ROWS : ∃ t, mg "MOST_ROWS" = some (.int 8 t)
  c_MOST_LONG : ∃ t, mg "MOST_LONG" = some (.int 8 t)
end Hs

set_option exponentiation.threshold 2000
set_option hygiene false
local macro_rules | `(tactic| walk_at "sd") => `(tactic| first | omega | assumption | (have q1 := ne_len h; omega) | (have q1 := List.mem_range.mp hz; omega) | (have q1 := List.mem_range.mp hzz; omega) | (have q1 := hbz z; have q2 := List.mem_range.mp hz; omega)  | (have q1 := hbz z; omega) | (have q1 := hbz z; have q2 := hbi z y; omega) | exact Int.pow_pos (by decide) | decide | (simp only [List.length_set, List.length_cons, List.length_nil]; omega) | (simp only [decide_eq_true_eq, decide_eq_false_iff_not, Bool.and_eq_true, Bool.not_eq_true', List.length_map] at *; omega))
local macro_rules | `(tactic| walk_at "Add") => `(tactic| first | exact add_I rfl | exact add_LI (by walk_at "len") rfl | exact add_TN (by walk_at "len") rfl | exact add_LL (by walk_at "len") rfl)
local macro_rules | `(tactic| walk_at "Sub") => `(tactic| first | exact sub_I rfl)
local macro_rules | `(tactic| walk_at "Lt") => `(tactic| first | exact lt_I rfl)
local macro_rules | `(tactic| walk_at "LtE") => `(tactic| first | exact le_I rfl)
local macro_rules | `(tactic| walk_at "Gt") => `(tactic| first | exact gt_I rfl)
local macro_rules | `(tactic| walk_at "GtE") => `(tactic| first | exact ge_I rfl)
local macro_rules | `(tactic| walk_at "Eq") => `(tactic| first | exact eq_I rfl | exact eq_S rfl | exact eq_LN hr.units rfl | exact eq_LI2 hr.units rfl | exact eq_LL hr.units rfl | exact eq_TN hr.units rfl | exact eq_TP hr.units rfl)
local macro_rules | `(tactic| walk_at "NotEq") => `(tactic| first | exact ne_I rfl | exact ne_S rfl | exact ne_LN hr.units rfl | exact ne_LI2 hr.units rfl | exact ne_LL hr.units rfl | exact ne_TN hr.units rfl | exact ne_TP hr.units rfl)
local macro_rules | `(tactic| walk_at "Is") => `(tactic| first | exact isN_non rfl | exact isN_int rfl | exact isN_O rfl)
local macro_rules | `(tactic| walk_at "IsNot") => `(tactic| first | exact notN_non rfl | exact notN_int rfl | exact notN_O rfl)
local macro_rules | `(tactic| walk_at "Mod") => `(tactic| exact mod_I (by walk_at "sd") rfl)
local macro_rules | `(tactic| walk_at "ix") => `(tactic| first | exact ix_m1 (by walk_at "sd") rfl | exact ix_L rfl rfl | exact ix_TN (by walk_at "sd") (by walk_at "sd") rfl | exact ix_I (by walk_at "sd") (by walk_at "sd") rfl | exact ix_LL (by walk_at "sd") (by walk_at "sd") rfl | exact ix_LD (by walk_at "sd") (by walk_at "sd") rfl | exact ix_T rfl rfl | exact ix_D (by walk_at "sd") (by walk_at "sd") rfl)
local macro_rules | `(tactic| walk_at "In") => `(tactic| exact in_LI rfl)
local macro_rules | `(tactic| walk_at "NotIn") => `(tactic| exact notIn_LI rfl)
local macro_rules | `(tactic| walk_at "sl") => `(tactic| first | exact sl_I rfl | exact sl_TN rfl | exact sl_LL rfl | exact sl_L rfl)
local macro_rules | `(tactic| walk_at "cd") => `(tactic| first | exact sum_LI rfl rfl | exact sum_TN rfl rfl | exact cd_tupleI rfl | exact cd_allP rfl rfl | exact cd_anyP rfl rfl | exact cd_sumP rfl rfl | exact isi_LI k_list_list rfl | exact isi_LL k_list_list rfl | exact isi_int k_int_int rfl | exact isi_int k_int_bool rfl | exact len_I rfl | exact len_LL rfl | exact len_LD rfl | exact cd_sortI rfl | exact cd_intB rfl | exact cd_int rfl | exact cd_rpr hgd hr.units (by assumption) (.inl ⟨_, rfl⟩) rfl | exact cd_rpr hgd hr.units (by assumption) (.inr ⟨_, rfl⟩) rfl | exact cd_max_2 rfl rfl | exact sum_LL rfl (by walk_at "len") rfl | exact cd_min2 rfl rfl | exact cd_max2 rfl rfl | exact len_D rfl)
local macro_rules | `(tactic| walk_at "pre") => `(tactic| first | exact True.intro | assumption | exact hpz z hz | exact hpi z hz zz hzz |  exact ⟨by walk_at "sd", by walk_at "sd"⟩)
local macro_rules | `(tactic| walk_at "out") => `(tactic| first | exact fun _ _ h => h)
local macro_rules | `(tactic| walk_at "dv") => `(tactic| exact ⟨by decide, by decide +kernel⟩)
local macro_rules | `(tactic| walk_at "Pow") => `(tactic| first | exact pow_W (by decide) (by decide +kernel) rfl)
local macro_rules | `(tactic| walk_at "hw") => `(tactic| first | rfl | exact feet_wipe1 (fun x hx => foot_opt hx) | exact feet_wipe_thaw)
local macro_rules | `(tactic| walk_at "Mult") => `(tactic| first | exact mul_LI (by decide) (by decide) (by first | decide | exact Nat.le_of_ble_eq_true rfl) rfl | exact mul_L (by decide) (by decide) (by exact Nat.le_of_ble_eq_true rfl) rfl | exact mul_L (by decide) (by decide) (by decide) rfl | exact mul_B (by walk_at "sd") (by walk_at "sd") rfl)
local macro_rules | `(tactic| walk_at "FloorDiv") => `(tactic| first | exact div_I (by walk_at "dv") rfl | exact div_B (by walk_at "sd") (by walk_at "sd") rfl)
local macro_rules | `(tactic| walk_at "rg") => `(tactic| first | walk_at "sd" | exact rng_lo (by walk_at "sd") (by walk_at "sd") | exact rng_hi (by walk_at "sd") (by walk_at "sd"))
local macro_rules | `(tactic| walk_at "tt") => `(tactic| first | assumption | rfl | (simp only [decide_eq_true_eq, decide_eq_false_iff_not] ; omega) | (simp; done) | (simp; omega) | (simp [*]; done))
local macro_rules | `(tactic| walk_at "len2") => `(tactic| first | (simp only [List.length_map]; exact Nat.lt_of_le_of_lt (List.length_filter_le _ _) (by rw [List.length_range]; omega)) | (simp only [List.length_map, List.length_nil]; omega) | (simp; omega) | simp)
local macro_rules | `(tactic| walk_at "len") => `(tactic| first | omega | exact hzl z | exact hzl zz | (simp only [List.length_map, List.length_zip, List.length_range] at *; omega) | (rw [List.length_range]; decide))
local macro_rules | `(tactic| walk_at "rgok") => `(tactic| exact ⟨by walk_at "sd", by walk_at "sd", by walk_at "sd", by walk_at "sd", by walk_at "sd"⟩)
local macro_rules | `(tactic| walk_at "hw2") => `(tactic| first | rfl | (simp only [wipeE]; rfl) | exact feet_wipe1 fun x hx => foot_opt hx)
local macro_rules | `(tactic| walk_at "len2l") => `(tactic| first | assumption | (simp; done) | (simp; omega))
local macro_rules | `(tactic| walk_at "enr") => `(tactic| first | exact enD_rI | exact enD_rL)
local macro_rules | `(tactic| walk_at "ne") => `(tactic| first | assumption | (simp; done))
local macro_rules | `(tactic| walk_at "augm") => `(tactic| first | assumption | exact cmul_B (by walk_at "sd") (by walk_at "sd"))
local macro_rules | `(tactic| walk_at "scl") => `(tactic| first | assumption | exact hsc z hz)
namespace Hs
open PySem PySem.Spec PyProof.Rows L2 Vl
variable {P : Program} {w : World} {K : PySem.W.Frag} {mg : Str → Option Value} {base : Heap}
--def is_whole
def c_is_whole : Con := ⟨Int, fun n => [.fz (.int n)], fun _ => True, fun _ x _ => x = .fz (.bl true)⟩
theorem t_is_whole (T : Txt mg) (D : Def K mg "is_whole" s_is_whole ["thing"]) : Cl P w K mg base 1 "is_whole" ["thing"] c_is_whole := by
  refine D.cl sc_is_whole (fun _ => rfl) fun f cdv A outer s H E i hgd hr hp => ?_
  refine eb_one (es_ret (Ev.use (ed_and (ed_callB (id := "isinstance") (ds := [_, _]) (by rfl) T.n_isinstance bt_isinstance (ed_acons (ed_var 0 rfl (Or.inl rfl) rfl) (ed_acons (ed_bltn (v := .ty "int") (by rfl) T.n_int bt_int rfl) ed_anil)) rfl (by walk_at "cd")) (fun h => (ed_one (ed_not (ed_callB (id := "isinstance") (ds := [_, _]) (by rfl) T.n_isinstance bt_isinstance (ed_acons (ed_var 0 rfl (Or.inl rfl) rfl) (ed_acons (ed_bltn (v := .ty "bool") (by rfl) T.n_bool bt_bool rfl) ed_anil)) rfl (by walk_at "cd")))))) ?_))
  exact ⟨_, keep_fz rfl, rfl⟩

--def check_missing
def c_check_missing : Con := ⟨List Int, fun ms => [.fz (LI ms)], MsOk, fun _ x _ => x = .fz .non⟩
theorem t_check_missing {k : Nat} (T : Txt mg) (D : Def K mg "check_missing" s_check_missing ["missing"]) (q_is_whole : Cl P w K mg base k "is_whole" ["thing"] c_is_whole) : Cl P w K mg base (k + 1) "check_missing" ["missing"] c_check_missing := by
  refine D.cl sc_check_missing (fun _ => rfl) fun f cdv A outer s H E (ms : List Int) hgd hr hp => ?_
  obtain ⟨h1, h2, h3⟩ : MsOk ms := hp
  refine eb_cons (es_ifF (ed_W (ed_orW (ed_notT (ed_valT (ed_callB (id := "isinstance") (ds := [_, _]) (by rfl) T.n_isinstance bt_isinstance (ed_acons (ed_var 0 rfl (Or.inl rfl) rfl) (ed_acons (ed_bltn (v := .ty "list") (by rfl) T.n_list bt_list rfl) ed_anil)) rfl (by walk_at "cd")))) (fun h => (ed_or1 (ed_notT (ed_chain ed_int (ed_callB (id := "len") (ds := [_]) (by rfl) T.n_len bt_len (ed_acons (ed_var 0 rfl (Or.inl rfl) rfl) ed_anil) rfl (by walk_at "cd")) (by walk_at "LtE") (fun h => (ed_globI (by rfl) T.c_MOST_ROWS)) (fun h => by walk_at "LtE"))))))) ?_ (eb_nil ?_))
  · simp
    omega
  refine eb_one (es_forE (xs := ms) (g := .int) 0 PassesOwn.never rfl (fun i δ' => ∃ a b, δ' = [some (.fz (LI ms)), a, b]) (ei_enum (by rfl) T.n_enumerate (Ea.use (ed_acons (ed_var 0 rfl (Or.inl rfl) rfl) ed_anil) ⟨_, rfl, rfl, ⟨none, none, rfl⟩⟩)) (fun i hi δ1 ⟨a, b, e⟩ => ?_) fun δ' h => ?_)
  · subst e
    refine (eg_tup rfl (egs_cons (eg_name 1 sc_check_missing.nd rfl (.inl rfl) (Nat.le_of_ble_eq_true rfl) (egs_cons (eg_name 2 sc_check_missing.nd rfl (.inl rfl) (Nat.le_of_ble_eq_true rfl) (egs_nil ?_))))) rfl)
    have h4 := h3 i hi
    have e4 : ms.getD i 0 = ms[i] := by simp [hi]
    rw [e4] at h4
    refine eb_one (es_ifF (ed_W (ed_orW (ed_notT (ed_valT (ed_clF q_is_whole hgd hr (by rfl) (i := ms[i]) (ds := [_]) (ed_acons (ed_var 2 rfl (Or.inl rfl) rfl) ed_anil) rfl rfl (by walk_at "pre") (by walk_at "out")))) (fun h => (ed_or1 (ed_notT (ed_chain ed_int (ed_var 2 rfl (Or.inl rfl) rfl) (by walk_at "LtE") (fun h => (ed_ifI (ed_cmpT (ed_var 1 rfl (Or.inl rfl) rfl) ed_int (by walk_at "Gt")) (fun h => (ed_ix (ed_var 0 rfl (Or.inl rfl) rfl) (ed_bin (ed_var 1 rfl (Or.inl rfl) rfl) ed_int (by walk_at "Sub")) (by walk_at "ix"))) (fun h => (ed_globI (by rfl) T.c_MOST_LONG)))) (fun h => by walk_at "LtE"))))))) ?_ (eb_nil ⟨_, _, rfl⟩))
    simp only [Bool.not_true, Bool.false_or, Bool.not_eq_false', Bool.and_eq_true, decide_eq_true_eq]
    refine ⟨h4.1, ?_⟩
    by_cases h0 : 0 < i
    · rw [if_pos h0] at h4
      rw [if_pos (by omega)]
      have : (((i + 0 : Nat) : Int) - 1).toNat = i - 1 := by omega
      rw [this]
      exact h4.2
    · rw [if_neg h0] at h4
      rw [if_neg (by omega)]
      exact h4.2
  · obtain ⟨a, b, rfl⟩ := h
    exact ⟨_, keep_fz rfl, rfl⟩

--def check_numbers
def c_check_numbers : Con := ⟨List Int × Int, fun i => [.fz (LI i.1), .fz (.int i.2)], fun i => i.1.length ≤ 100000, fun _ x _ => x = .fz .non⟩
theorem t_check_numbers {k : Nat} (T : Txt mg) (D : Def K mg "check_numbers" s_check_numbers ["row", "index"]) (q_is_whole : Cl P w K mg base k "is_whole" ["thing"] c_is_whole) : Cl P w K mg base (k + 1) "check_numbers" ["row", "index"] c_check_numbers := by
  refine D.cl sc_check_numbers (fun _ => rfl) fun f cdv A outer s H E ⟨ns, j⟩ hgd hr hp => ?_
  show Eb _ (defBody s_check_numbers) [some (.fz (LI ns)), some (.fz (.int j)), none] _
  have hp : ns.length ≤ 100000 := hp
  refine eb_one (es_ifF (ed_W (ed_orW (ed_notT (ed_valT (ed_callB (id := "isinstance") (ds := [_, _]) (by rfl) T.n_isinstance bt_isinstance (ed_acons (ed_var 0 rfl (Or.inl rfl) rfl) (ed_acons (ed_bltn (v := .ty "list") (by rfl) T.n_list bt_list rfl) ed_anil)) rfl (by walk_at "cd")))) (fun h => (ed_or1 (ed_notT (ed_valT (ed_callB (id := "all") (ds := [_]) (by rfl) T.n_all bt_all (ed_acons (ed_lcNc (xs := ns) (g := .int) (h := fun _ => .bl true) 2 rfl sc_check_numbers.nd (blkOk_by (own := [("number", 2)]) (N := ["row", "index", "number"]) (sc := defScope s_check_numbers) (by decide +kernel)) (Nat.le_of_ble_eq_true rfl) (by first | exact Or.inl rfl | exact Or.inr rfl) (ei_list (Ev.use (ed_var 0 rfl (Or.inl rfl) rfl) ⟨_, rfl, rfl, rfl⟩)) (by walk_at "len") (by walk_at "hw") (fun z hz Y hY => by obtain ⟨sB, HB, CB, clB, fpB, rfl⟩ := hY; exact (ed_clF q_is_whole hgd hr (by rfl) (i := z) (ds := [_]) (ed_acons (ed_var 2 rfl (by first | exact Or.inl rfl | exact Or.inr (Or.inl rfl) | exact Or.inr (Or.inr rfl)) rfl) ed_anil) rfl rfl (by walk_at "pre") (by walk_at "out")))) ed_anil) rfl (by walk_at "cd")))))))) ?_ (eb_nil ?_))
  · simp
  · exact ⟨_, keep_fz rfl, rfl⟩

--def check_rows
def c_check_rows : Con := ⟨List Int × List (List Int), fun i => [.fz (LI i.1), .fz (LL i.2)], fun i => MsOk i.1 ∧ RowsOk i.1 i.2, fun _ x _ => x = .fz .non⟩
theorem t_check_rows {k : Nat} (T : Txt mg) (D : Def K mg "check_rows" s_check_rows ["missing", "rows"]) (q_check_numbers : Cl P w K mg base k "check_numbers" ["row", "index"] c_check_numbers) : Cl P w K mg base (k + 1) "check_rows" ["missing", "rows"] c_check_rows := by
  refine D.cl sc_check_rows (fun _ => rfl) fun f cdv A outer s H E ⟨ms, rows⟩ hgd hr hp => ?_
  show Eb _ (defBody s_check_rows) [some (.fz (LI ms)), some (.fz (LL rows)), none, none] _
  have hp : MsOk ms ∧ RowsOk ms rows := hp
  obtain ⟨⟨h1, h2, h3⟩, hl, h5⟩ := id hp
  refine eb_cons (es_ifF (ed_W (ed_orW (ed_notT (ed_valT (ed_callB (id := "isinstance") (ds := [_, _]) (by rfl) T.n_isinstance bt_isinstance (ed_acons (ed_var 1 rfl (Or.inl rfl) rfl) (ed_acons (ed_bltn (v := .ty "list") (by rfl) T.n_list bt_list rfl) ed_anil)) rfl (by walk_at "cd")))) (fun h => (ed_or1 (ed_cmpT (ed_callB (id := "len") (ds := [_]) (by rfl) T.n_len bt_len (ed_acons (ed_var 1 rfl (Or.inl rfl) rfl) ed_anil) rfl (by walk_at "cd")) (ed_callB (id := "len") (ds := [_]) (by rfl) T.n_len bt_len (ed_acons (ed_var 0 rfl (Or.inl rfl) rfl) ed_anil) rfl (by walk_at "cd")) (by walk_at "NotEq")))))) ?_ (eb_nil ?_))
  · simp [hl]
  refine eb_one (es_forE (xs := rows) (g := LI) 0 PassesOwn.never rfl (fun i δ' => ∃ a b, δ' = [some (.fz (LI ms)), some (.fz (LL rows)), a, b]) (ei_enum (by rfl) T.n_enumerate (Ea.use (ed_acons (ed_var 1 rfl (Or.inl rfl) rfl) ed_anil) ⟨_, rfl, rfl, ⟨none, none, rfl⟩⟩)) (fun i hi δ1 ⟨a, b, e⟩ => ?_) fun δ' h => ?_)
  · subst e
    refine (eg_tup rfl (egs_cons (eg_name 2 sc_check_rows.nd rfl (.inl rfl) (Nat.le_of_ble_eq_true rfl) (egs_cons (eg_name 3 sc_check_rows.nd rfl (.inl rfl) (Nat.le_of_ble_eq_true rfl) (egs_nil ?_))))) rfl)
    have him : i < ms.length := by omega
    have h6 := h5 i him
    have e6 : rows.getD i [] = rows[i] := by simp [hi]
    rw [e6] at h6
    have hlen : rows[i].length ≤ 100000 := by
      have := row_le hp.1 hp.2 i
      rw [e6] at this
      omega
    refine eb_cons (es_expr (Ev.use (ed_clF q_check_numbers hgd hr (by rfl) (i := (rows[i], ((i + 0 : Nat) : Int))) (ds := [_, _]) (ed_acons (ed_var 3 rfl (Or.inl rfl) rfl) (ed_acons (ed_var 2 rfl (Or.inl rfl) rfl) ed_anil)) rfl rfl (by walk_at "pre") (by walk_at "out")) ?_))
    refine eb_one (es_ifF (ed_cmpT (ed_bin (ed_ix (ed_var 0 rfl (Or.inl rfl) rfl) (ed_var 2 rfl (Or.inl rfl) rfl) (by walk_at "ix")) (ed_callB (id := "len") (ds := [_]) (by rfl) T.n_len bt_len (ed_acons (ed_var 3 rfl (Or.inl rfl) rfl) ed_anil) rfl (by walk_at "cd")) (by walk_at "Add")) (ed_ifI (ed_cmpT (ed_var 2 rfl (Or.inl rfl) rfl) ed_int (by walk_at "Gt")) (fun h => (ed_bin (ed_ix (ed_var 0 rfl (Or.inl rfl) rfl) (ed_bin (ed_var 2 rfl (Or.inl rfl) rfl) ed_int (by walk_at "Sub")) (by walk_at "ix")) (ed_callB (id := "len") (ds := [_]) (by rfl) T.n_len bt_len (ed_acons (ed_ix (ed_var 1 rfl (Or.inl rfl) rfl) (ed_bin (ed_var 2 rfl (Or.inl rfl) rfl) ed_int (by walk_at "Sub")) (by walk_at "ix")) ed_anil) rfl (by walk_at "cd")) (by walk_at "Add"))) (fun h => (ed_globI (by rfl) T.c_MOST_LONG))) (by walk_at "Gt")) ?_ (eb_nil ⟨_, _, rfl⟩))
    have ei : (((i + 0 : Nat) : Int)).toNat = i := by omega
    have em : (((i + 0 : Nat) : Int) - 1).toNat = i - 1 := by omega
    rw [ei, em, decide_eq_false_iff_not]
    by_cases h0 : 0 < i
    · rw [if_pos h0] at h6
      rw [if_pos (by simp [h0])]
      omega
    · rw [if_neg h0] at h6
      rw [if_neg (by simp [h0])]
      omega
  · obtain ⟨a, b, rfl⟩ := h
    exact ⟨_, keep_fz rfl, rfl⟩

--def number_at
def c_number_at : Con := ⟨List Int × List (List Int) × Int × Int, fun i => [.fz (LI i.1), .fz (LL i.2.1), .fz (.int i.2.2.1), .fz (.int i.2.2.2)], fun i => i.2.1.length = i.1.length, fun i x _ => x = .fz (oI (look i.1 i.2.1 (i.2.2.1 - 1) (i.2.2.2 - 1)))⟩
/-- the same for rows of any data -/
def c_number_atD : Con := ⟨List Int × List (List Vl.D) × Int × Int, fun i => [.fz (LI i.1), .fz (LD i.2.1), .fz (.int i.2.2.1), .fz (.int i.2.2.2)], fun i => i.2.1.length = i.1.length, fun i x _ => x = .fz (lookD i.1 i.2.1 (i.2.2.1 - 1) (i.2.2.2 - 1))⟩
theorem cov_c_number_at {k : Nat} (c : Cl P w K mg base k "number_at" ["missing", "rows", "row", "column"] c_number_atD) : Cl P w K mg base k "number_at" ["missing", "rows", "row", "column"] c_number_at :=
  c.cov (fun i : List Int × List (List Int) × Int × Int => (i.1, toD i.2.1, i.2.2)) (fun i => by show [_, _, _, _] = [_, _, _, _]; rw [show LD (toD i.2.1) = LL i.2.1 from LD_ints]) (fun i h => by show (toD i.2.1).length = i.1.length; rw [toD_len]; exact h) fun i x xs' _ h => by
    show x = _
    rw [show x = OD.fz (lookD i.1 (toD i.2.1) (i.2.2.1 - 1) (i.2.2.2 - 1)) from h, lookD_ints]
theorem t_number_at {k : Nat} (T : Txt mg) (D : Def K mg "number_at" s_number_at ["missing", "rows", "row", "column"]) : Cl P w K mg base (k + 1) "number_at" ["missing", "rows", "row", "column"] c_number_atD := by
  refine D.cl sc_number_at (fun _ => rfl) fun f cdv A outer s H E ⟨ms, R, row, col⟩ hgd hr hp => ?_
  show Eb _ (defBody s_number_at) [some (.fz (LI ms)), some (.fz (LD R)), some (.fz (.int row)), some (.fz (.int col)), none] _
  have hl : R.length = ms.length := hp
  refine eb_cons (es_ifK (ed_notT (ed_chain ed_int (ed_var 2 rfl (Or.inl rfl) rfl) (by walk_at "LtE") (fun h => (ed_callB (id := "len") (ds := [_]) (by rfl) T.n_len bt_len (ed_acons (ed_var 1 rfl (Or.inl rfl) rfl) ed_anil) rfl (by walk_at "cd"))) (fun h => by walk_at "LtE"))) (fun h => eb_one (es_ret (Ev.use ed_non ?_))) fun h => eb_nil ?_)
  · refine ⟨_, keep_fz rfl, ?_⟩
    show _ = OD.fz (lookD ms R (row - 1) (col - 1))
    unfold lookD
    rw [if_neg (by simp at h; omega)]
    try rfl
  simp only [Bool.not_eq_false', Bool.and_eq_true, decide_eq_true_eq] at h
  obtain ⟨ha, hb⟩ := h
  refine eb_cons (es_set 4 sc_number_at.nd rfl (.inl rfl) (Ev.use (ed_bin (ed_bin (ed_var 3 rfl (Or.inl rfl) rfl) (ed_ix (ed_var 0 rfl (Or.inl rfl) rfl) (ed_bin (ed_var 2 rfl (Or.inl rfl) rfl) ed_int (by walk_at "Sub")) (by walk_at "ix")) (by walk_at "Sub")) ed_int (by walk_at "Sub")) ⟨Nat.le_of_ble_eq_true rfl, ?_⟩))
  refine eb_one (es_ret (Ev.use (ed_ifD (ed_chain ed_int (ed_var 4 rfl (Or.inl rfl) rfl) (by walk_at "LtE") (fun h => (ed_callB (id := "len") (ds := [_]) (by rfl) T.n_len bt_len (ed_acons (ed_ix (ed_var 1 rfl (Or.inl rfl) rfl) (ed_bin (ed_var 2 rfl (Or.inl rfl) rfl) ed_int (by walk_at "Sub")) (by walk_at "ix")) ed_anil) rfl (by walk_at "cd"))) (fun h => by walk_at "Lt")) (fun h => (ed_ix (ed_ix (ed_var 1 rfl (Or.inl rfl) rfl) (ed_bin (ed_var 2 rfl (Or.inl rfl) rfl) ed_int (by walk_at "Sub")) (by walk_at "ix")) (ed_var 4 rfl (Or.inl rfl) rfl) (by walk_at "ix"))) (fun h => ed_non)) ?_))
  refine ⟨_, keep_fz rfl, ?_⟩
  show _ = OD.fz (lookD ms R (row - 1) (col - 1))
  congr 1
  unfold lookD
  have e : col - ms.getD (row - 1).toNat 0 - 1 = col - 1 - ms.getD (row - 1).toNat 0 := by omega
  rw [if_pos (show 0 ≤ row - 1 ∧ row - 1 < R.length by omega), e]
  simp only [Bool.and_eq_true, decide_eq_true_eq]
  try (split <;> rfl)

--def wrong_rows
def c_wrong_rows : Con := ⟨List Int × List (List Int), fun i => [.fz (LI i.1), .fz (LL i.2)], fun i => MsOk i.1 ∧ RowsOk i.1 i.2, fun i x _ => x = .fz (LI (wrongR i.1 i.2))⟩
theorem t_wrong_rows {k : Nat} (T : Txt mg) (D : Def K mg "wrong_rows" s_wrong_rows ["missing", "rows"]) (q_number_at : Cl P w K mg base k "number_at" ["missing", "rows", "row", "column"] c_number_at) : Cl P w K mg base (k + 1) "wrong_rows" ["missing", "rows"] c_wrong_rows := by
  refine D.cl sc_wrong_rows (fun _ => rfl) fun f cdv A outer s H E ⟨ms, rows⟩ hgd hr hp => ?_
  show Eb _ (defBody s_wrong_rows) [some (.fz (LI ms)), some (.fz (LL rows)), none, none, none, none, none, none, none, none, none] _
  have hp : MsOk ms ∧ RowsOk ms rows := hp
  have hl : rows.length = ms.length := hp.2.1
  refine eb_cons (es_set 2 sc_wrong_rows.nd rfl (.inl rfl) (ev_lstO (ea_nil ⟨[], rfl, Nat.zero_le _, fun l => ⟨Nat.le_of_ble_eq_true rfl, ?_⟩⟩)))
  refine eb_cons (es_forE (xs := rows) (g := LI) 1 PassesOwn.never rfl (fun i δ' => ∃ a b c d e f, δ' = [some (.fz (LI ms)), some (.fz (LL rows)), some (ol l ((((List.range i).filter (fallsB ms rows)).map fun i => ((i + 1 : Nat) : Int)).map .int)), a, b, c, d, e, f, none, none]) (ei_enumK (by rfl) T.n_enumerate (Ea.use (ed_acons (ed_var 1 rfl (Or.inl rfl) rfl) (ed_acons ed_int ed_anil)) ⟨_, 1, rfl, (by decide), rfl, ⟨none, none, none, none, none, none, rfl⟩⟩)) ?st ?dn)
  case st =>
    intro i hi δ1 h
    obtain ⟨a, b, c, d, e, f, rfl⟩ := h
    have hi8 : i < 8 := by have := hp.1.2.1; omega
    have hr8 : rows[i].length ≤ 8 := by
      have := row_le hp.1 hp.2 i
      rwa [show rows.getD i [] = rows[i] by simp [hi]] at this
    have eg : rows.getD i [] = rows[i] := by simp [hi]
    refine (eg_tup rfl (egs_cons (eg_name 3 sc_wrong_rows.nd rfl (.inl rfl) (Nat.le_of_ble_eq_true rfl) (egs_cons (eg_name 4 sc_wrong_rows.nd rfl (.inl rfl) (Nat.le_of_ble_eq_true rfl) (egs_nil ?_))))) rfl)
    have hcl : (cut rows[i] (some 1) none).length ≤ 8 := by
      rw [show cut rows[i] (some 1) none = rows[i].drop 1 from cut_from 1, List.length_drop]
      omega
    refine eb_cons (es_set 5 sc_wrong_rows.nd rfl (.inl rfl) (Ev.use (ed_callB (id := "any") (ds := [_]) (by rfl) T.n_any bt_any (ed_acons (ed_lcPc (xs := rows[i].zip (cut rows[i] (some 1) none)) (g1 := fun z => .int z.1) (g2 :=  fun z => .int z.2) (h := fun z => .bl (decide (z.2 < z.1))) 9 10 rfl sc_wrong_rows.nd (blkOk_by (own := [("left", 9), ("right", 10)]) (N := ["missing", "rows", "told", "row", "numbers", "falls", "place", "number", "above", "left", "right"]) (sc := defScope s_wrong_rows) (by decide +kernel)) (Nat.le_of_ble_eq_true rfl) (Nat.le_of_ble_eq_true rfl) (by first | exact Or.inl rfl | exact Or.inr rfl) (by first | exact Or.inl rfl | exact Or.inr rfl) (ei_zip (by rfl) T.n_zip (Ea.use (ed_acons (ed_var 4 rfl (Or.inl rfl) rfl) (ed_acons (ed_sl (ed_var 4 rfl (Or.inl rfl) rfl) (ed_some ed_int) (ep_none rfl) (by walk_at "sl")) ed_anil)) ⟨_, _, rfl, zipD_map, rfl⟩)) (by walk_at "len") (by walk_at "hw") (fun z hz Y hY => by obtain ⟨sB, HB, CB, clB, fpB, rfl⟩ := hY; exact (ed_cmp (ed_var 10 rfl (by first | exact Or.inl rfl | exact Or.inr (Or.inl rfl) | exact Or.inr (Or.inr rfl)) rfl) (ed_var 9 rfl (by first | exact Or.inl rfl | exact Or.inr (Or.inl rfl) | exact Or.inr (Or.inr rfl)) rfl) (by walk_at "Lt")))) ed_anil) rfl (by walk_at "cd")) ⟨Nat.le_of_ble_eq_true rfl, ?_⟩))
    rw [show cut rows[i] (some 1) none = rows[i].drop 1 from cut_from 1]
    refine eb_cons (es_forE (xs := rows[i]) (g := .int) 0 PassesOwn.never rfl (fun j δ' => ∃ d e f, δ' = [some (.fz (LI ms)), some (.fz (LL rows)), some (ol l ((((List.range i).filter (fallsB ms rows)).map fun i => ((i + 1 : Nat) : Int)).map .int)), some (.fz (.int ((i + 1 : Nat) : Int))), some (.fz (LI rows[i])), some (.fz (.bl ((rows[i].zip (rows[i].drop 1)).any (fun z => decide (z.2 < z.1)) || (List.range j).any fun p => aboveBad ms rows i p (rows[i].getD p 0)))), d, e, f, none, none]) (ei_enum (by rfl) T.n_enumerate (Ea.use (ed_acons (ed_var 4 rfl (Or.inl rfl) rfl) ed_anil) ⟨_, rfl, rfl, ⟨d, e, f, by simp⟩⟩)) ?st2 ?dn2)
    case st2 =>
      intro j hj δ1 h
      obtain ⟨d, e, f, rfl⟩ := h
      refine (eg_tup rfl (egs_cons (eg_name 6 sc_wrong_rows.nd rfl (.inl rfl) (Nat.le_of_ble_eq_true rfl) (egs_cons (eg_name 7 sc_wrong_rows.nd rfl (.inl rfl) (Nat.le_of_ble_eq_true rfl) (egs_nil ?_))))) rfl)
      refine eb_cons (es_set 8 sc_wrong_rows.nd rfl (.inl rfl) (Ev.use (ed_clF q_number_at hgd hr (by rfl) (i := (ms, rows, ((i + 1 : Nat) : Int) - 1, ms.getD (((i + 1 : Nat) : Int) - 1).toNat 0 + ((j + 0 : Nat) : Int) + 1)) (ds := [_, _, _, _]) (ed_acons (ed_var 0 rfl (Or.inl rfl) rfl) (ed_acons (ed_var 1 rfl (Or.inl rfl) rfl) (ed_acons (ed_bin (ed_var 3 rfl (Or.inl rfl) rfl) ed_int (by walk_at "Sub")) (ed_acons (ed_bin (ed_bin (ed_ix (ed_var 0 rfl (Or.inl rfl) rfl) (ed_bin (ed_var 3 rfl (Or.inl rfl) rfl) ed_int (by walk_at "Sub")) (by walk_at "ix")) (ed_var 6 rfl (Or.inl rfl) rfl) (by walk_at "Add")) ed_int (by walk_at "Add")) ed_anil)))) rfl rfl (by walk_at "pre") (by walk_at "out")) ⟨Nat.le_of_ble_eq_true rfl, ?_⟩))
      have e1 : (((i + 1 : Nat) : Int) - 1).toNat = i := by omega
      have elook : look ms rows (((i + 1 : Nat) : Int) - 1 - 1) (ms.getD (((i + 1 : Nat) : Int) - 1).toNat 0 + ((j + 0 : Nat) : Int) + 1 - 1) = look ms rows ((i : Int) - 1) (ms.getD i 0 + j) := by
        rw [e1]
        congr 1 <;> omega
      dsimp only
      rw [elook]
      have ej : rows[i].getD j 0 = rows[i][j] := by simp [hj]
      have estep : ∀ b : Bool, (b || (List.range (j + 1)).any fun p => aboveBad ms rows i p (rows[i].getD p 0)) = ((b || (List.range j).any fun p => aboveBad ms rows i p (rows[i].getD p 0)) || aboveBad ms rows i j rows[i][j]) := fun b => by
        rw [List.range_succ, List.any_append, ← Bool.or_assoc]
        simp [hj]
      cases el : look ms rows ((i : Int) - 1) (ms.getD i 0 + j) with
      | none =>
        have eb : aboveBad ms rows i j rows[i][j] = false := by unfold aboveBad; rw [el]
        refine eb_one (es_set 5 sc_wrong_rows.nd rfl (.inl rfl) (Ev.use (ed_or (ed_var 5 rfl (Or.inl rfl) rfl) (fun h => (ed_one (ed_andF (ed_cmp (ed_var 8 rfl (Or.inl rfl) rfl) ed_non (by walk_at "IsNot")) (by walk_at "tt"))))) ⟨Nat.le_of_ble_eq_true rfl, ?_⟩))
        rw [estep, eb]
        exact ⟨_, _, _, rfl⟩
      | some v =>
        have eb : aboveBad ms rows i j rows[i][j] = decide (rows[i][j] ≤ v) := by unfold aboveBad; rw [el]
        refine eb_one (es_set 5 sc_wrong_rows.nd rfl (.inl rfl) (Ev.use (ed_or (ed_var 5 rfl (Or.inl rfl) rfl) (fun h => (ed_one (ed_andT (ed_cmp (ed_var 8 rfl (Or.inl rfl) rfl) ed_non (by walk_at "IsNot")) (by walk_at "tt") (ed_one (ed_cmp (ed_var 8 rfl (Or.inl rfl) rfl) (ed_var 7 rfl (Or.inl rfl) rfl) (by walk_at "GtE"))))))) ⟨Nat.le_of_ble_eq_true rfl, ?_⟩))
        rw [estep, eb]
        exact ⟨_, _, _, rfl⟩
    case dn2 =>
      intro δ' h
      obtain ⟨d, e, f, rfl⟩ := h
      have ef : fallsB ms rows i = ((rows[i].zip (rows[i].drop 1)).any (fun z => decide (z.2 < z.1)) || (List.range rows[i].length).any fun p => aboveBad ms rows i p (rows[i].getD p 0)) := by
        unfold fallsB
        rw [eg]
      rw [← ef]
      refine eb_one (es_ifK (ed_valT (ed_var 5 rfl (Or.inl rfl) rfl)) (fun h => eb_one (es_app 2 rfl (Or.inl rfl) rfl (by walk_at "len2") (Ev.use (ed_var 3 rfl (Or.inl rfl) rfl) ⟨_, rfl, rfl, ?_⟩))) fun h => eb_nil ?_)
      · rw [List.range_succ, List.filter_append, List.map_append, List.map_append, List.filter_cons_of_pos h]
        exact ⟨_, _, _, _, _, _, rfl⟩
      · rw [List.range_succ, List.filter_append, List.filter_cons_of_neg (by rw [h]; simp), List.filter_nil, List.append_nil]
        exact ⟨_, _, _, _, _, _, rfl⟩
  case dn =>
    intro δ' h
    obtain ⟨a, b, c, d, e, f, rfl⟩ := h
    refine eb_one (es_ret (ev_frz (ev_mov 2 rfl (Or.inl rfl) rfl ?_)))
    refine ⟨_, keep_fz rfl, ?_⟩
    show OD.fz (dat (ol l _)) = OD.fz (LI (wrongR ms rows))
    unfold dat
    rw [dats_fz]
    rfl

--def check_piece
def c_check_piece : Con := ⟨List Int × List (List Int), fun i => [.fz (LI i.1), .fz (LL i.2)], fun i => MsOk i.1 ∧ RowsOk i.1 i.2 ∧ wrongR i.1 i.2 = [], fun _ x _ => x = .fz .non⟩
theorem t_check_piece {k : Nat} (T : Txt mg) (D : Def K mg "check_piece" s_check_piece ["missing", "rows"]) (q_check_missing : Cl P w K mg base k "check_missing" ["missing"] c_check_missing) (q_check_rows : Cl P w K mg base k "check_rows" ["missing", "rows"] c_check_rows) (q_wrong_rows : Cl P w K mg base k "wrong_rows" ["missing", "rows"] c_wrong_rows) : Cl P w K mg base (k + 1) "check_piece" ["missing", "rows"] c_check_piece := by
  refine D.cl sc_check_piece (fun _ => rfl) fun f cdv A outer s H E ⟨ms, rows⟩ hgd hr hp => ?_
  show Eb _ (defBody s_check_piece) [some (.fz (LI ms)), some (.fz (LL rows)), none] _
  obtain ⟨hm, hrw, hw⟩ : MsOk ms ∧ RowsOk ms rows ∧ wrongR ms rows = [] := hp
  refine eb_cons (es_expr (Ev.use (ed_clF q_check_missing hgd hr (by rfl) (i := ms) (ds := [_]) (ed_acons (ed_var 0 rfl (Or.inl rfl) rfl) ed_anil) rfl rfl (by walk_at "pre") (by walk_at "out")) ?_))
  refine eb_cons (es_expr (Ev.use (ed_clF q_check_rows hgd hr (by rfl) (i := (ms, rows)) (ds := [_, _]) (ed_acons (ed_var 0 rfl (Or.inl rfl) rfl) (ed_acons (ed_var 1 rfl (Or.inl rfl) rfl) ed_anil)) rfl rfl (by walk_at "pre") (by walk_at "out")) ?_))
  refine eb_cons (es_set 2 sc_check_piece.nd rfl (.inl rfl) (Ev.use (ed_clF q_wrong_rows hgd hr (by rfl) (i := (ms, rows)) (ds := [_, _]) (ed_acons (ed_var 0 rfl (Or.inl rfl) rfl) (ed_acons (ed_var 1 rfl (Or.inl rfl) rfl) ed_anil)) rfl rfl (by walk_at "pre") (by walk_at "out")) ⟨Nat.le_of_ble_eq_true rfl, ?_⟩))
  dsimp only
  rw [hw]
  refine eb_one (es_ifF (ed_cmpT (ed_var 2 rfl (Or.inl rfl) rfl) (ed_lst (ds := []) ed_anil rfl (Nat.le_of_ble_eq_true rfl)) (by walk_at "NotEq")) ?_ (eb_nil ?_))
  · rfl
  · exact ⟨_, keep_fz rfl, rfl⟩

--def is_sorted
def c_is_sorted : Con := ⟨List Int × List (List Int), fun i => [.fz (LI i.1), .fz (LL i.2)], fun i => MsOk i.1 ∧ RowsOk i.1 i.2, fun i x _ => x = .fz (.bl (goodB i.1 i.2))⟩
theorem t_is_sorted {k : Nat} (T : Txt mg) (D : Def K mg "is_sorted" s_is_sorted ["missing", "rows"]) (q_check_missing : Cl P w K mg base k "check_missing" ["missing"] c_check_missing) (q_check_rows : Cl P w K mg base k "check_rows" ["missing", "rows"] c_check_rows) (q_wrong_rows : Cl P w K mg base k "wrong_rows" ["missing", "rows"] c_wrong_rows) : ClS P w K mg base (k + 1) "is_sorted" s_is_sorted ["missing", "rows"] c_is_sorted := by
  refine D.clS sc_is_sorted (fun _ => rfl) fun f cdv A outer s H E ⟨ms, rows⟩ hgd hr hp => ?_
  show Eb _ (defBody s_is_sorted) [some (.fz (LI ms)), some (.fz (LL rows))] _
  obtain ⟨hm, hrw⟩ : MsOk ms ∧ RowsOk ms rows := hp
  refine eb_cons (es_expr (Ev.use (ed_clF q_check_missing hgd hr (by rfl) (i := ms) (ds := [_]) (ed_acons (ed_var 0 rfl (Or.inl rfl) rfl) ed_anil) rfl rfl (by walk_at "pre") (by walk_at "out")) ?_))
  refine eb_cons (es_expr (Ev.use (ed_clF q_check_rows hgd hr (by rfl) (i := (ms, rows)) (ds := [_, _]) (ed_acons (ed_var 0 rfl (Or.inl rfl) rfl) (ed_acons (ed_var 1 rfl (Or.inl rfl) rfl) ed_anil)) rfl rfl (by walk_at "pre") (by walk_at "out")) ?_))
  refine eb_one (es_ret (Ev.use (ed_cmp (ed_clF q_wrong_rows hgd hr (by rfl) (i := (ms, rows)) (ds := [_, _]) (ed_acons (ed_var 0 rfl (Or.inl rfl) rfl) (ed_acons (ed_var 1 rfl (Or.inl rfl) rfl) ed_anil)) rfl rfl (by walk_at "pre") (by walk_at "out")) (ed_lst (ds := []) ed_anil rfl (Nat.le_of_ble_eq_true rfl)) (by walk_at "Eq")) ?_))
  exact ⟨_, keep_fz rfl, by show OD.fz _ = OD.fz (.bl (goodB ms rows)); rw [← good_wrong]⟩

end Hs

set_option exponentiation.threshold 2000
namespace Hs
open PySem PySem.Spec PyProof.Rows L2 Vl
variable {P : Program} {w : World} {K : PySem.W.Frag} {mg : Str → Option Value} {base : Heap}
--def _law_draws
def c_draws : Con := ⟨Int, fun c => [.fz (.int c)], fun _ => True, fun _ x _ => ∃ a n b, x = dr a n 0 b ∧ 0 ≤ n⟩
theorem t_law_draws {k : Nat} (T : Txt mg) (D : Def K mg "_law_draws" s_law_draws ["cell"]) : Cl P w K mg base (k + 1) "_law_draws" ["cell"] c_draws := by
  refine D.cl sc_law_draws (fun _ => rfl) fun f cdv A outer s H E (c : Int) hgd hr hp => ?_
  show Eb _ (defBody s_law_draws) [some (.fz (.int c))] _
  have hpos : (0 : Int) < (((10 : Int) ^ (60 : Int).toNat) ^ (60 : Int).toNat) ^ (4 : Int).toNat := Int.pow_pos (Int.pow_pos (Int.pow_pos (by decide)))
  refine eb_one (es_ret (ev_lstO (Ea.use (ed_acons (ed_bin (ed_callT (id := "int") (ds := [_]) (by rfl) T.n_int bt_int (ed_acons (ed_var 0 rfl (Or.inl rfl) rfl) ed_anil) rfl (by walk_at "cd")) (ed_bin (ed_bin (ed_bin ed_int ed_int (by walk_at "Pow")) ed_int (by walk_at "Pow")) ed_int (by walk_at "Pow")) (by walk_at "Mod")) (ed_acons ed_int (ed_acons (ed_cmp (ed_var 0 rfl (Or.inl rfl) rfl) (ed_bin ed_int ed_int (by walk_at "Pow")) (by walk_at "GtE")) ed_anil))) ⟨[_, _, _], rfl, Nat.le_of_ble_eq_true rfl, fun a => ?_⟩)))
  refine ⟨_, keep_fz rfl, a, _, _, rfl, Int.emod_nonneg _ (Int.ne_of_gt hpos)⟩

--def _law_next
theorem t_law_next {k : Nat} (T : Txt mg) (D : Def K mg "_law_next" s_law_next ["draws"]) : Cl P w K mg base (k + 1) "_law_next" ["draws"] c_next := by
  refine D.cl sc_law_next (fun _ => rfl) fun f cdv A outer s H E ⟨ad, n, kk, way⟩ hgd hr hp => ?_
  show Eb _ (defBody s_law_next) [some (dr ad n kk way), none, none] _
  obtain ⟨h0, h1, h2⟩ : 0 ≤ n ∧ 0 ≤ kk ∧ kk < 2 ^ 60 := hp
  have done : ∀ {δ' : En} (z n' : Int), δ'[0]? = some (some (dr ad n' (kk + 1) way)) → 0 ≤ z → z < 2 ^ 31 → 0 ≤ n' → ∃ xs', KeepA [dr ad n kk way] xs' δ' ∧ ∃ z' n'' : Int, OD.fz (.int z) = .fz (.int z') ∧ 0 ≤ z' ∧ z' < 2 ^ 31 ∧ 0 ≤ n'' ∧ xs' = [dr ad n'' (kk + 1) way] := fun z n' g0 z0 z1 hn =>
    ⟨_, keep_one g0 (dr_foot.trans dr_foot.symm) (by rw [dr_foot]; simp) rfl, z, n', rfl, z0, z1, hn, rfl⟩
  refine eb_cons (es_asg (Ev.use (ed_bin (ed_look (ed_ix (ed_var 0 rfl (Or.inl rfl) rfl) ed_int (by walk_at "ix")) rfl) ed_int (by walk_at "Add")) (eg_setA 0 (sub_name 0 rfl (Or.inl rfl) rfl) rfl .top ed_int (by walk_at "sd") (by walk_at "sd") ?_)))
  refine eb_cons (es_set 1 sc_law_next.nd rfl (.inl rfl) (Ev.use (ed_look (ed_ix (ed_var 0 rfl (Or.inl rfl) rfl) ed_int (by walk_at "ix")) rfl) ⟨Nat.le_of_ble_eq_true rfl, ?_⟩))
  refine eb_cons (es_ifK (et_look (Et.use (ed_valT (ed_ix (ed_var 0 rfl (Or.inl rfl) rfl) ed_int (by walk_at "ix"))) ⟨rfl, rfl, rfl⟩)) (fun h => ?_) fun h => eb_nil ?_)
  · refine eb_cons (es_set 2 sc_law_next.nd rfl (.inl rfl) (Ev.use (ed_bin (ed_callT (id := "int") (ds := [_]) (by rfl) T.n_int bt_int (ed_acons (ed_look (ed_ix (ed_var 0 rfl (Or.inl rfl) rfl) ed_int (by walk_at "ix")) rfl) ed_anil) rfl (by walk_at "cd")) (ed_bin ed_int ed_int (by walk_at "Pow")) (by walk_at "Mod")) ⟨Nat.le_of_ble_eq_true rfl, ?_⟩))
    refine eb_cons (es_asg (Ev.use (ed_bin (ed_look (ed_ix (ed_var 0 rfl (Or.inl rfl) rfl) ed_int (by walk_at "ix")) rfl) (ed_bin ed_int ed_int (by walk_at "Pow")) (by walk_at "FloorDiv")) (eg_setA 0 (sub_name 0 rfl (Or.inl rfl) rfl) rfl .top ed_int (by walk_at "sd") (by walk_at "sd") ?_)))
    refine eb_one (es_ret (Ev.use (ed_var 2 rfl (Or.inl rfl) rfl) ?_))
    have hz : (0 : Int) < 10 ^ (6 : Int).toNat := by decide
    refine done (n % 10 ^ (6 : Int).toNat) (n / 10 ^ (6 : Int).toNat) rfl (Int.emod_nonneg _ (by decide)) (Int.lt_trans (Int.emod_lt_of_pos _ hz) (by decide)) (Int.ediv_nonneg h0 (by decide))
  · have hk := mul_lt (x := kk + 1) (y := kk + 1) (a := 2 ^ 60 + 1) (b := 2 ^ 60 + 1) (by omega) (by omega) (by omega) (by omega)
    refine eb_cons (es_set 2 sc_law_next.nd rfl (.inl rfl) (Ev.use (ed_bin (ed_callT (id := "int") (ds := [_]) (by rfl) T.n_int bt_int (ed_acons (ed_bin (ed_bin (ed_bin (ed_bin (ed_callT (id := "int") (ds := [_]) (by rfl) T.n_int bt_int (ed_acons (ed_look (ed_ix (ed_var 0 rfl (Or.inl rfl) rfl) ed_int (by walk_at "ix")) rfl) ed_anil) rfl (by walk_at "cd")) ed_int (by walk_at "Mod")) (ed_bin (ed_bin (ed_var 1 rfl (Or.inl rfl) rfl) (ed_var 1 rfl (Or.inl rfl) rfl) (by walk_at "Mult")) ed_int (by walk_at "Mult")) (by walk_at "Add")) (ed_var 1 rfl (Or.inl rfl) rfl) (by walk_at "Add")) ed_int (by walk_at "Mult")) ed_anil) rfl (by walk_at "cd")) ed_int (by walk_at "Mod")) ⟨Nat.le_of_ble_eq_true rfl, ?_⟩))
    generalize hx : (n % 1000003 + (kk + 1) * (kk + 1) * 7919 + (kk + 1)) * 48271 % 2147483629 = x1
    have hx0 : 0 ≤ x1 := by rw [← hx]; exact Int.emod_nonneg _ (by decide)
    have hx1 : x1 < 2147483629 := by rw [← hx]; exact Int.emod_lt_of_pos _ (by decide)
    have hxx := mul_lt (x := x1) (y := x1) (a := 2147483629) (b := 2147483629) hx0 hx1 hx0 hx1
    refine eb_cons (es_set 2 sc_law_next.nd rfl (.inl rfl) (Ev.use (ed_bin (ed_callT (id := "int") (ds := [_]) (by rfl) T.n_int bt_int (ed_acons (ed_bin (ed_var 2 rfl (Or.inl rfl) rfl) (ed_var 2 rfl (Or.inl rfl) rfl) (by walk_at "Mult")) ed_anil) rfl (by walk_at "cd")) ed_int (by walk_at "Mod")) ⟨Nat.le_of_ble_eq_true rfl, ?_⟩))
    generalize hy : x1 * x1 % 2147483587 = x2
    have hy0 : 0 ≤ x2 := by rw [← hy]; exact Int.emod_nonneg _ (by decide)
    have hy1 : x2 < 2147483587 := by rw [← hy]; exact Int.emod_lt_of_pos _ (by decide)
    have hyy := mul_lt (x := x2) (y := x2 + 2) (a := 2147483587) (b := 2147483589) hy0 hy1 (by omega) (by omega)
    refine eb_one (es_ret (Ev.use (ed_bin (ed_bin (ed_callT (id := "int") (ds := [_]) (by rfl) T.n_int bt_int (ed_acons (ed_bin (ed_var 2 rfl (Or.inl rfl) rfl) (ed_bin (ed_var 2 rfl (Or.inl rfl) rfl) ed_int (by walk_at "Add")) (by walk_at "Mult")) ed_anil) rfl (by walk_at "cd")) ed_int (by walk_at "Mod")) ed_int (by walk_at "FloorDiv")) ?_))
    have hm0 := Int.emod_nonneg (x2 * (x2 + 2)) (show (2147483579 : Int) ≠ 0 by decide)
    have hm1 := Int.emod_lt_of_pos (x2 * (x2 + 2)) (show (0 : Int) < 2147483579 by decide)
    refine done _ n rfl ?_ ?_ h0
    · omega
    · omega

--def _law_shape
def c_shape : Con := ⟨Addr × Int × Int × Bool × Nat × Nat, fun ⟨ad, n, kk, way, high, wide⟩ => [dr ad n kk way, .fz (.int high), .fz (.int wide)], fun ⟨_, n, kk, _, high, wide⟩ => 0 ≤ n ∧ 0 ≤ kk ∧ kk + high + 2 < 2 ^ 60 ∧ 1 ≤ high ∧ high ≤ 1000 ∧ 1 ≤ wide ∧ wide ≤ 1000,
  fun ⟨ad, _, kk, way, high, wide⟩ x xs' => ∃ (ls : List Int) (n' k' : Int), x = .fz (LI ls) ∧ ShOk ls high wide ∧ 0 ≤ n' ∧ kk ≤ k' ∧ k' ≤ kk + high + 2 ∧ xs' = [dr ad n' k' way, .fz (.int high), .fz (.int wide)]⟩
theorem t_law_shape {k : Nat} (T : Txt mg) (D : Def K mg "_law_shape" s_law_shape ["draws", "high", "wide"]) (q_law_next : Cl P w K mg base k "_law_next" ["draws"] c_next) : Cl P w K mg base (k + 1) "_law_shape" ["draws", "high", "wide"] c_shape := by
  refine D.cl sc_law_shape (fun _ => rfl) fun f cdv A outer s H E ⟨ad, n, kk, way, high, wide⟩ hgd hr hp => ?_
  show Eb _ (defBody s_law_shape) [some (dr ad n kk way), some (.fz (.int high)), some (.fz (.int wide)), none, none, none, none] _
  obtain ⟨h0, h1, h2, h3, h4, h5, h6⟩ : 0 ≤ n ∧ 0 ≤ kk ∧ kk + high + 2 < 2 ^ 60 ∧ 1 ≤ high ∧ high ≤ 1000 ∧ 1 ≤ wide ∧ wide ≤ 1000 := hp
  refine eb_cons (es_set 3 sc_law_shape.nd rfl (.inl rfl) (ev_lstO (ea_nil ⟨[], rfl, Nat.zero_le _, fun l => ⟨Nat.le_of_ble_eq_true rfl, ?_⟩⟩)))
  refine eb_cons (es_set 4 sc_law_shape.nd rfl (.inl rfl) (ev_bin (Ev.use ed_int (ev_bin (ev_inx 0 q_law_next hgd hr (by rfl) T.n_int (by rfl) rfl (Or.inl rfl) rfl (by walk_at "sd") (by walk_at "sd") (by walk_at "sd") (fun z1 n1 hz1 hzz1 hn1 => (Ev.use (ed_var 2 rfl (Or.inl rfl) rfl) (mod_I (by walk_at "sd") (add_I ⟨Nat.le_of_ble_eq_true rfl, ?_⟩)))))))))
  refine eb_cons (es_forC PassesOwn.never rfl (ei_range1 (by rfl) T.n_range (ea_cons (ev_bin (Ev.use ed_int (ev_bin (ev_inx 0 q_law_next hgd hr (by rfl) T.n_int (by rfl) rfl (Or.inl rfl) rfl (by walk_at "sd") (by walk_at "sd") (by walk_at "sd") (fun z2 n2 hz2 hzz2 hn2 => (Ev.use (ed_var 1 rfl (Or.inl rfl) rfl) (mod_I (by walk_at "sd") (add_I ⟨_, rfl, (ea_nil ⟨_, rfl, by walk_at "rg", by walk_at "rg", ?lp⟩)⟩)))))))))))
  case lp =>
    have hw0 := Int.emod_nonneg z1 (show (wide : Int) ≠ 0 by omega)
    have hw1 := Int.emod_lt_of_pos z1 (show (0 : Int) < wide by omega)
    have hh0 := Int.emod_nonneg z2 (show (high : Int) ≠ 0 by omega)
    have hh1 := Int.emod_lt_of_pos z2 (show (0 : Int) < high by omega)
    refine lp_R (fun i δ' => ∃ (ls : List Int) (m n' k' : Int) (a b : Option OD), ls.length = i ∧ ShInv ls m wide ∧ 0 ≤ n' ∧ kk ≤ k' ∧ k' ≤ kk + 2 + i ∧ δ' = [some (dr ad n' k' way), some (.fz (.int high)), some (.fz (.int wide)), some (ol l (ls.map .int)), some (.fz (.int m)), a, b]) ⟨[], 1 + z1 % wide, n2, kk + 1 + 1, none, none, rfl, ⟨fun j hj => absurd hj (Nat.not_lt_zero _), by omega, by simp; omega⟩, hn2, by omega, by omega, rfl⟩ (fun i hi δ1 h => ?_) fun δ' h => ?_
    · obtain ⟨ls, m, n', k', a, b, hl, hs, hn', hk1, hk2, rfl⟩ := h
      refine (eg_name 5 sc_law_shape.nd rfl (.inl rfl) (Nat.le_of_ble_eq_true rfl) ?_)
      refine eb_cons (es_app 3 rfl (Or.inl rfl) rfl (by walk_at "len2") (Ev.use (ed_var 4 rfl (Or.inl rfl) rfl) ⟨_, rfl, rfl, ?_⟩))
      refine eb_cons (es_set 6 sc_law_shape.nd rfl (.inl rfl) (ev_inx 0 q_law_next hgd hr (by rfl) T.n_int (by rfl) rfl (Or.inl rfl) rfl (by walk_at "sd") (by walk_at "sd") (by walk_at "sd") (fun z3 n3 hz3 hzz3 hn3 => ⟨Nat.le_of_ble_eq_true rfl, ?_⟩)))
      have hp1 := sel3 (z3 / 64 % 3) (by omega) (by omega)
      refine eb_one (es_set 4 sc_law_shape.nd rfl (.inl rfl) (Ev.use (ed_callB (id := "max") (ds := [_, _]) (by rfl) T.n_max bt_max (ed_acons ed_int (ed_acons (ed_bin (ed_var 4 rfl (Or.inl rfl) rfl) (ed_bin (ed_var 6 rfl (Or.inl rfl) rfl) (ed_ix (ed_lst (ds := [_, _, _]) (ed_acons ed_int (ed_acons ed_int (ed_acons ed_int ed_anil))) rfl (Nat.le_of_ble_eq_true rfl)) (ed_bin (ed_bin (ed_var 6 rfl (Or.inl rfl) rfl) ed_int (by walk_at "FloorDiv")) ed_int (by walk_at "Mod")) (ix_I (ns := [3, 3, 9]) (by walk_at "sd") (by walk_at "sd") rfl)) (by walk_at "Mod")) (by walk_at "Sub")) ed_anil)) rfl (by walk_at "cd")) ⟨Nat.le_of_ble_eq_true rfl, ?_⟩))
      have hm0 := Int.emod_nonneg z3 (show ([3, 3, 9] : List Int).getD (z3 / 64 % 3).toNat 0 ≠ 0 by omega)
      refine ⟨ls ++ [m], _, n3, k' + 1, _, _, by rw [List.length_append, List.length_singleton, hl], hs.step ?_ ?_, hn3, by omega, by omega, by rw [List.map_append]; rfl⟩
      · split <;> omega
      · have := hs.2.1
        split <;> omega
    · obtain ⟨ls, m, n', k', a, b, hl, hs, hn', hk1, hk2, rfl⟩ := h
      refine eb_one (es_ret (ev_frz (ev_mov 3 rfl (Or.inl rfl) rfl ?_)))
      refine ⟨_, keep_one rfl (dr_foot.trans dr_foot.symm) (by rw [dr_foot]; simp) rfl, ls, n', k', ?_, ⟨?_, ?_, hs.1⟩, hn', hk1, ?_, rfl⟩
      · show OD.fz (dat (ol l _)) = OD.fz (LI ls)
        unfold dat
        rw [dats_fz]
        rfl
      · omega
      · omega
      · omega

--def _law_within
def c_within : Con := ⟨Addr × Int × Int × Bool × List Int, fun ⟨ad, n, kk, way, ls⟩ => [dr ad n kk way, .fz (LI ls)], fun ⟨_, n, kk, _, ls⟩ => 0 ≤ n ∧ 0 ≤ kk ∧ kk + ls.length < 2 ^ 60 ∧ 1 ≤ ls.length ∧ ls.length ≤ 1000 ∧ ∀ i, i < ls.length → 0 ≤ ls.getD i 0 ∧ ls.getD i 0 < 1000,
  fun ⟨ad, _, kk, way, ls⟩ x xs' => ∃ (gs : List Int) (n' k' : Int), x = .fz (LI gs) ∧ WiOk gs ls ∧ 0 ≤ n' ∧ kk ≤ k' ∧ k' ≤ kk + ls.length ∧ xs' = [dr ad n' k' way, .fz (LI ls)]⟩
theorem t_law_within {k : Nat} (T : Txt mg) (D : Def K mg "_law_within" s_law_within ["draws", "lengths"]) (q_law_next : Cl P w K mg base k "_law_next" ["draws"] c_next) : Cl P w K mg base (k + 1) "_law_within" ["draws", "lengths"] c_within := by
  refine D.cl sc_law_within (fun _ => rfl) fun f cdv A outer s H E ⟨ad, n, kk, way, ls⟩ hgd hr hp => ?_
  show Eb _ (defBody s_law_within) [some (dr ad n kk way), some (.fz (LI ls)), none, none, none] _
  obtain ⟨h0, h1, h2, h3, h4, h5⟩ : 0 ≤ n ∧ 0 ≤ kk ∧ kk + ls.length < 2 ^ 60 ∧ 1 ≤ ls.length ∧ ls.length ≤ 1000 ∧ ∀ i, i < ls.length → 0 ≤ ls.getD i 0 ∧ ls.getD i 0 < 1000 := hp
  refine eb_cons (es_set 2 sc_law_within.nd rfl (.inl rfl) (ev_lstO (ea_nil ⟨[], rfl, Nat.zero_le _, fun l => ⟨Nat.le_of_ble_eq_true rfl, ?_⟩⟩)))
  refine eb_cons (es_set 3 sc_law_within.nd rfl (.inl rfl) (Ev.use (ed_ix (ed_var 1 rfl (Or.inl rfl) rfl) ed_int (by walk_at "ix")) ⟨Nat.le_of_ble_eq_true rfl, ?_⟩))
  refine eb_cons (es_forC PassesOwn.never rfl (ei_list (Ev.use (ed_var 1 rfl (Or.inl rfl) rfl) ⟨_, rfl, ?lp⟩)))
  case lp =>
    refine lp_M (xs := ls) (g := .int) (fun i δ' => ∃ (gs : List Int) (m n' k' : Int) (b : Option OD), gs.length = i ∧ WiInv gs ls m ∧ 0 ≤ n' ∧ kk ≤ k' ∧ k' ≤ kk + i ∧ δ' = [some (dr ad n' k' way), some (.fz (LI ls)), some (ol l (gs.map .int)), some (.fz (.int m)), b]) ⟨[], ls.getD 0 0, n, kk, none, rfl, ⟨Nat.zero_le _, fun j hj => absurd hj (Nat.not_lt_zero _), (h5 0 (by omega)).1, by simp⟩, h0, by omega, by omega, rfl⟩ (fun i hi δ1 h => ?_) fun δ' h => ?_
    · obtain ⟨gs, m, n', k', b, hl, hs, hn', hk1, hk2, rfl⟩ := h
      refine (eg_name 4 sc_law_within.nd rfl (.inl rfl) (Nat.le_of_ble_eq_true rfl) ?_)
      have h6 := h5 i hi
      have ei : ls.getD i 0 = ls[i] := by simp [hi]
      rw [ei] at h6
      refine eb_cons (es_set 3 sc_law_within.nd rfl (.inl rfl) (ev_callB (id := "min") (by rfl) T.n_min bt_min (ea_cons (Ev.use (ed_var 3 rfl (Or.inl rfl) rfl) ⟨_, rfl, (ea_cons (ev_bin (ev_inx 0 q_law_next hgd hr (by rfl) T.n_int (by rfl) rfl (Or.inl rfl) rfl (by walk_at "sd") (by walk_at "sd") (by walk_at "sd") (fun z1 n1 hz1 hzz1 hn1 => (Ev.use (ed_bin (ed_var 4 rfl (Or.inl rfl) rfl) ed_int (by walk_at "Add")) (mod_I (by walk_at "sd") ⟨_, rfl, (ea_nil ⟨[_, _], rfl, (cd_min2 rfl ⟨Nat.le_of_ble_eq_true rfl, ?_⟩)⟩)⟩))))))⟩))))
      have hm0 := Int.emod_nonneg z1 (show ls[i] + 1 ≠ 0 by omega)
      have hm1 := Int.emod_lt_of_pos z1 (show (0 : Int) < ls[i] + 1 by omega)
      refine eb_one (es_app 2 rfl (Or.inl rfl) rfl (by walk_at "len2") (Ev.use (ed_var 3 rfl (Or.inl rfl) rfl) ⟨_, rfl, rfl, ?_⟩))
      have hb := hs.2.2.1
      refine ⟨gs ++ [_], _, n1, k' + 1, _, by rw [List.length_append, List.length_singleton, hl], hs.step (by omega) (m' := if z1 % (ls[i] + 1) < m then z1 % (ls[i] + 1) else m) ?_ ?_ ?_, hn1, by omega, by omega, by rw [List.map_append]; rfl⟩
      · split <;> omega
      · split <;> omega
      · rw [hl, ei]
        split <;> omega
    · obtain ⟨gs, m, n', k', b, hl, hs, hn', hk1, hk2, rfl⟩ := h
      refine eb_one (es_ret (ev_frz (ev_mov 2 rfl (Or.inl rfl) rfl ?_)))
      refine ⟨_, keep_one rfl (dr_foot.trans dr_foot.symm) (by rw [dr_foot]; simp) rfl, gs, n', k', ?_, ⟨hl, fun i hi => hs.2.1 i (by omega)⟩, hn', hk1, ?_, rfl⟩
      · show OD.fz (dat (ol l _)) = OD.fz (LI gs)
        unfold dat
        rw [dats_fz]
        rfl
      · omega

--def _law_look
def c_look : Con := ⟨List Int × List (List Int) × Int × Int, fun i => [.fz (LI i.1), .fz (LL i.2.1), .fz (.int i.2.2.1), .fz (.int i.2.2.2)], fun i => i.2.1.length = i.1.length, fun i x _ => x = .fz (oI (look i.1 i.2.1 i.2.2.1 i.2.2.2))⟩
/-- the same for rows of any data -/
def c_lookD : Con := ⟨List Int × List (List Vl.D) × Int × Int, fun i => [.fz (LI i.1), .fz (LD i.2.1), .fz (.int i.2.2.1), .fz (.int i.2.2.2)], fun i => i.2.1.length = i.1.length, fun i x _ => x = .fz (lookD i.1 i.2.1 i.2.2.1 i.2.2.2)⟩
theorem cov_c_look {k : Nat} (c : Cl P w K mg base k "_law_look" ["gone", "lines", "high", "wide"] c_lookD) : Cl P w K mg base k "_law_look" ["gone", "lines", "high", "wide"] c_look :=
  c.cov (fun i : List Int × List (List Int) × Int × Int => (i.1, toD i.2.1, i.2.2)) (fun i => by show [_, _, _, _] = [_, _, _, _]; rw [show LD (toD i.2.1) = LL i.2.1 from LD_ints]) (fun i h => by show (toD i.2.1).length = i.1.length; rw [toD_len]; exact h) fun i x xs' _ h => by
    show x = _
    rw [show x = OD.fz (lookD i.1 (toD i.2.1) i.2.2.1 i.2.2.2) from h, lookD_ints]
theorem t_law_look {k : Nat} (T : Txt mg) (D : Def K mg "_law_look" s_law_look ["gone", "lines", "high", "wide"]) : Cl P w K mg base (k + 1) "_law_look" ["gone", "lines", "high", "wide"] c_lookD := by
  refine D.cl sc_law_look (fun _ => rfl) fun f cdv A outer s H E ⟨ms, R, row, col⟩ hgd hr hp => ?_
  show Eb _ (defBody s_law_look) [some (.fz (LI ms)), some (.fz (LD R)), some (.fz (.int row)), some (.fz (.int col)), none] _
  have hl : R.length = ms.length := hp
  refine eb_cons (es_ifK (ed_notT (ed_chain ed_int (ed_var 2 rfl (Or.inl rfl) rfl) (by walk_at "LtE") (fun h => (ed_callB (id := "len") (ds := [_]) (by rfl) T.n_len bt_len (ed_acons (ed_var 1 rfl (Or.inl rfl) rfl) ed_anil) rfl (by walk_at "cd"))) (fun h => by walk_at "Lt"))) (fun h => eb_one (es_ret (Ev.use ed_non ?_))) fun h => eb_nil ?_)
  · refine ⟨_, keep_fz rfl, ?_⟩
    show _ = OD.fz (lookD ms R row col)
    unfold lookD
    rw [if_neg (by simp at h; omega)]
    try rfl
  simp only [Bool.not_eq_false', Bool.and_eq_true, decide_eq_true_eq] at h
  obtain ⟨ha, hb⟩ := h
  refine eb_cons (es_set 4 sc_law_look.nd rfl (.inl rfl) (Ev.use (ed_bin (ed_var 3 rfl (Or.inl rfl) rfl) (ed_ix (ed_var 0 rfl (Or.inl rfl) rfl) (ed_var 2 rfl (Or.inl rfl) rfl) (by walk_at "ix")) (by walk_at "Sub")) ⟨Nat.le_of_ble_eq_true rfl, ?_⟩))
  refine eb_one (es_ret (Ev.use (ed_ifD (ed_chain ed_int (ed_var 4 rfl (Or.inl rfl) rfl) (by walk_at "LtE") (fun h => (ed_callB (id := "len") (ds := [_]) (by rfl) T.n_len bt_len (ed_acons (ed_ix (ed_var 1 rfl (Or.inl rfl) rfl) (ed_var 2 rfl (Or.inl rfl) rfl) (by walk_at "ix")) ed_anil) rfl (by walk_at "cd"))) (fun h => by walk_at "Lt")) (fun h => (ed_ix (ed_ix (ed_var 1 rfl (Or.inl rfl) rfl) (ed_var 2 rfl (Or.inl rfl) rfl) (by walk_at "ix")) (ed_var 4 rfl (Or.inl rfl) rfl) (by walk_at "ix"))) (fun h => ed_non)) ?_))
  refine ⟨_, keep_fz rfl, ?_⟩
  show _ = OD.fz (lookD ms R row col)
  congr 1
  unfold lookD
  rw [if_pos (show 0 ≤ row ∧ row < R.length by omega)]
  simp only [Bool.and_eq_true, decide_eq_true_eq]
  try (split <;> rfl)

--def _law_piece
def c_piece : Con := ⟨Addr × Int × Int × Bool × List Int × Nat, fun ⟨ad, n, kk, way, ls, step⟩ => [dr ad n kk way, .fz (LI ls), .fz (.int step)], fun ⟨_, n, kk, _, ls, step⟩ => 0 ≤ n ∧ 0 ≤ kk ∧ kk + 200 < 2 ^ 60 ∧ ShOk ls 8 8 ∧ 1 ≤ step ∧ step ≤ 500,
  fun ⟨ad, _, kk, way, ls, step⟩ x xs' => ∃ (gs : List Int) (rows : List (List Int)) (n' k' : Int), x = .fz (.tup [LI gs, LL rows]) ∧ PcOk gs ls rows ∧ 0 ≤ n' ∧ kk ≤ k' ∧ k' ≤ kk + 200 ∧ xs' = [dr ad n' k' way, .fz (LI ls), .fz (.int step)]⟩
theorem t_law_piece {k : Nat} (T : Txt mg) (D : Def K mg "_law_piece" s_law_piece ["draws", "lengths", "step"]) (q_law_next : Cl P w K mg base k "_law_next" ["draws"] c_next) (q_law_within : Cl P w K mg base k "_law_within" ["draws", "lengths"] c_within) (q_law_look : Cl P w K mg base k "_law_look" ["gone", "lines", "high", "wide"] c_look) : Cl P w K mg base (k + 1) "_law_piece" ["draws", "lengths", "step"] c_piece := by
  refine D.cl sc_law_piece (fun _ => rfl) fun f cdv A outer s H E ⟨ad, n, kk, way, ls, step⟩ hgd hr hp => ?_
  show Eb _ (defBody s_law_piece) [some (dr ad n kk way), some (.fz (LI ls)), some (.fz (.int step)), none, none, none, none, none, none, none, none] _
  obtain ⟨h0, h1, h2, hsh, h3, h4⟩ : 0 ≤ n ∧ 0 ≤ kk ∧ kk + 200 < 2 ^ 60 ∧ ShOk ls 8 8 ∧ 1 ≤ step ∧ step ≤ 500 := hp
  obtain ⟨hl1, hl8, hsh⟩ := id hsh
  have hle : ∀ i, i < ls.length → 1 ≤ ls.getD i 0 ∧ ls.getD i 0 ≤ 8 := ShOk.le hsh
  refine eb_cons (es_set 3 sc_law_piece.nd rfl (.inl rfl) (ev_cl q_law_within hgd hr (by rfl) (Ea.use (ed_aslot 0 rfl (Or.inl rfl) rfl (ed_acons (ed_var 1 rfl (Or.inl rfl) rfl) ed_anil)) ⟨(ad, n, kk, way, ls), rfl, ?_, ⟨h0, h1, by omega, hl1, by omega, fun i hi => ⟨by have := hle i hi; omega, by have := hle i hi; omega⟩⟩, fun y xs' hf ho => ?_⟩)))
  · show (foots [dr ad n kk way, .fz (LI ls)]).Nodup
    rw [foots_cons, foots_one, dr_foot]
    unfold foot
    simp
  obtain ⟨gs, n1, k1, rfl, hw, hn1, hk1, hk1', rfl⟩ := ho
  refine ⟨Nat.le_of_ble_eq_true rfl, ?_⟩
  have hg0 : ∀ j, 0 ≤ gs.getD j 0 := WiOk.nn hw
  refine eb_cons (es_lcE (xs := ls) (g := .int) (fun _ y => ∃ a, y = ol a []) 6 4 rfl sc_law_piece.nd rfl rfl (by rfl) (blkOk_by (own := [("long", 6)]) (N := ["draws", "lengths", "step", "gone", "lines", "high", "long", "wide", "left", "above", "low"]) (sc := defScope s_law_piece) (by decide +kernel)) (Nat.le_of_ble_eq_true rfl) (Nat.le_of_ble_eq_true rfl) rfl (ei_list (Ev.use (ed_var 1 rfl (Or.inl rfl) rfl) ⟨_, rfl, rfl, rfl⟩)) (by omega) rfl (fun z hz Y hY => ?e1) fun l ys hE => ?e2)
  case e1 =>
    obtain ⟨sB, HB, CB, clB, fpB, rfl⟩ := hY
    exact ev_lstO (ea_nil ⟨[], rfl, Nat.zero_le _, fun a => ⟨rfl, a, rfl⟩⟩)
  case e2 =>
    have hR : RowsOD ys (ls.map fun _ => []) := ⟨by rw [hE.1, List.length_map], fun i hi => by
      rw [List.length_map] at hi
      obtain ⟨a, ha⟩ := hE.2 i ls[i] (ys[i]'(by rw [hE.1]; exact hi)) (by simp [hi]) (by simp [hE.1, hi])
      refine ⟨a, ?_⟩
      rw [show (ls.map fun _ => ([] : List Int)).getD i [] = [] by simp [List.getD_eq_getElem?_getD, hi]]
      rw [List.getElem?_eq_getElem (by rw [hE.1]; exact hi), ha]
      rfl⟩
    refine eb_cons (es_forE (xs := ls) (g := .int) 0 PassesOwn.never rfl (fun i δ' => ∃ (xs : List OD) (rows : List (List Int)) (n' k' : Int) (a b c d e f : Option OD), RowsOD xs rows ∧ PInv gs ls rows i 0 ∧ 0 ≤ n' ∧ kk ≤ k' ∧ k' ≤ kk + 8 + 8 * i ∧ δ' = [some (dr ad n' k' way), some (.fz (LI ls)), some (.fz (.int step)), some (.fz (LI gs)), some (.own l xs), a, b, c, d, e, f]) (ei_enum (by rfl) T.n_enumerate (Ea.use (ed_acons (ed_var 1 rfl (Or.inl rfl) rfl) ed_anil) ⟨_, rfl, rfl, ⟨ys, _, n1, k1, none, none, none, none, none, none, hR, PInv.start gs ls, hn1, by omega, by omega, rfl⟩⟩)) ?st ?dn)
    case st =>
      intro i hi δ1 h
      obtain ⟨xs, rows, n2, k2, a, b, c, d, e, f, hR, hI, hn2, hk2, hk2', rfl⟩ := h
      refine (eg_tup rfl (egs_cons (eg_name 5 sc_law_piece.nd rfl (.inl rfl) (Nat.le_of_ble_eq_true rfl) (egs_cons (eg_name 6 sc_law_piece.nd rfl (.inl rfl) (Nat.le_of_ble_eq_true rfl) (egs_nil ?_))))) rfl)
      have hli := hle i hi
      have hgi := (hw.2 i hi)
      have eli : ls.getD i 0 = ls[i] := by simp [hi]
      rw [eli] at hli hgi
      have gl : gs.length = ls.length := hw.1
      have hgi2 : 0 ≤ gs.getD (((i + 0 : Nat) : Int)).toNat 0 ∧ gs.getD (((i + 0 : Nat) : Int)).toNat 0 ≤ ls[i] := ⟨hgi.1, hgi.2.1⟩
      refine eb_one (es_forC PassesOwn.never rfl (ei_range2 (by rfl) T.n_range (Ea.use (ed_acons (ed_ix (ed_var 3 rfl (Or.inl rfl) rfl) (ed_var 5 rfl (Or.inl rfl) rfl) (by walk_at "ix")) (ed_acons (ed_var 6 rfl (Or.inl rfl) rfl) ed_anil)) ⟨_, _, rfl, ⟨by walk_at "sd", by walk_at "sd", by walk_at "sd", by walk_at "sd"⟩, ?lp⟩)))
      case lp =>
        rw [show (((i + 0 : Nat) : Int)).toNat = i by omega]
        refine lp_R (fun t δ' => ∃ (xs : List OD) (rows : List (List Int)) (n' k' : Int) (c d e f : Option OD), RowsOD xs rows ∧ PInv gs ls rows i t ∧ 0 ≤ n' ∧ kk ≤ k' ∧ k' ≤ kk + 8 + 8 * i + t ∧ δ' = [some (dr ad n' k' way), some (.fz (LI ls)), some (.fz (.int step)), some (.fz (LI gs)), some (.own l xs), some (.fz (.int ((i + 0 : Nat) : Int))), some (.fz (.int ls[i])), c, d, e, f]) ⟨xs, rows, n2, k2, c, d, e, f, hR, hI, hn2, hk2, by omega, rfl⟩ (fun t ht δ1 h => ?_) fun δ' h => ?_
        · obtain ⟨xs, rows, n3, k3, c, d, e, f, hR, hI, hn3, hk3, hk3', rfl⟩ := h
          have hrl : rows.length = gs.length := by rw [hI.len, gl]
          have hir : i < rows.length := by rw [hI.len]; exact hi
          refine (eg_name 7 sc_law_piece.nd rfl (.inl rfl) (Nat.le_of_ble_eq_true rfl) ?_)
          refine eb_cons (es_set 8 sc_law_piece.nd rfl (.inl rfl) (Ev.use (ed_look (ed_clF q_law_look hgd hr (by rfl) (i := (gs, rows, ((i + 0 : Nat) : Int), gs.getD i 0 + (t : Int) - 1)) (ds := [_, _, _, _]) (ed_acons (ed_var 3 rfl (Or.inl rfl) rfl) (ed_acons (Ev.is (ed_var 4 rfl (Or.inl rfl) rfl) (congrArg OD.fz (hR.dat))) (ed_acons (ed_var 5 rfl (Or.inl rfl) rfl) (ed_acons (ed_bin (ed_var 7 rfl (Or.inl rfl) rfl) ed_int (by walk_at "Sub")) ed_anil)))) rfl rfl (by walk_at "pre") (by walk_at "out")) (scal_oI _)) ⟨Nat.le_of_ble_eq_true rfl, ?_⟩))
          refine eb_cons (es_set 9 sc_law_piece.nd rfl (.inl rfl) (Ev.use (ed_look (ed_clF q_law_look hgd hr (by rfl) (i := (gs, rows, ((i + 0 : Nat) : Int) - 1, gs.getD i 0 + (t : Int))) (ds := [_, _, _, _]) (ed_acons (ed_var 3 rfl (Or.inl rfl) rfl) (ed_acons (Ev.is (ed_var 4 rfl (Or.inl rfl) rfl) (congrArg OD.fz (hR.dat))) (ed_acons (ed_bin (ed_var 5 rfl (Or.inl rfl) rfl) ed_int (by walk_at "Sub")) (ed_acons (ed_var 7 rfl (Or.inl rfl) rfl) ed_anil)))) rfl rfl (by walk_at "pre") (by walk_at "out")) (scal_oI _)) ⟨Nat.le_of_ble_eq_true rfl, ?_⟩))
          have hrow : xs[i]? = some _ := (hR.2 i hir).choose_spec
          generalize (hR.2 i hir).choose = ra at hrow
          have hab : ∀ v, look gs rows ((i : Int) - 1) (gs.getD i 0 + t) = some v → -3 ≤ v ∧ v ≤ 1000 * (i + gs.getD i 0 + t) := fun v hv => by
            have := hI.above hg0 hv
            omega
          -- the end of a turn, whatever is least
          have fin : ∀ (low : Int) {δ' : En} (v n4 : Int), (0 < t → (rowOf rows i).getD (t - 1) 0 ≤ low) → (∀ a, look gs rows ((i : Int) - 1) (gs.getD i 0 + t) = some a → a < low) → -3 ≤ low → low ≤ 1000 * (i + gs.getD i 0 + t) + 1 → v = low + n4 → 0 ≤ n4 → n4 < 500 →
              RowsOD (xs.set i (ol ra ((rowOf rows i ++ [v]).map .int))) (rows.set i (rowOf rows i ++ [v])) ∧ PInv gs ls (rows.set i (rowOf rows i ++ [v])) i (t + 1) := fun low δ' v n4 hl ha h3 hlow hv hn4 hn5 => by
            refine ⟨hR.set, hI.add hir (fun h0 => ?_) (fun a ha' => ?_) ?_ ?_⟩
            · have := hl h0; omega
            · have := ha a ha'; omega
            · omega
            · omega
          refine eb_cons (es_set 10 sc_law_piece.nd rfl (.inl rfl) (Ev.use (ed_callB (id := "max") (ds := [_]) (by rfl) T.n_max bt_max (ed_acons (ed_lst (ds := [_, _]) (ed_acons (ed_ifI (ed_cmpT (ed_var 8 rfl (Or.inl rfl) rfl) ed_non (by walk_at "Is")) (fun h => (ed_neg ed_int)) (fun h => (Ev.is (ed_var 8 rfl (Or.inl rfl) rfl) (congrArg OD.fz (oI_get h))))) (ed_acons (ed_ifI (ed_cmpT (ed_var 9 rfl (Or.inl rfl) rfl) ed_non (by walk_at "Is")) (fun h => (ed_neg ed_int)) (fun h => (ed_bin (Ev.is (ed_var 9 rfl (Or.inl rfl) rfl) (congrArg OD.fz (oI_get h))) ed_int (by walk_at "Add")))) ed_anil)) rfl (Nat.le_of_ble_eq_true rfl)) ed_anil) rfl (by walk_at "cd")) ⟨Nat.le_of_ble_eq_true rfl, ?_⟩))
          have hll := hI.left hir
          generalize hlo : max (if (look gs rows ((i + 0 : Nat) : Int) (gs.getD i 0 + (t : Int) - 1)).isNone = true then -3 else (look gs rows ((i + 0 : Nat) : Int) (gs.getD i 0 + (t : Int) - 1)).getD 0) (if (look gs rows (((i + 0 : Nat) : Int) - 1) (gs.getD i 0 + (t : Int))).isNone = true then -3 else (look gs rows (((i + 0 : Nat) : Int) - 1) (gs.getD i 0 + (t : Int))).getD 0 + 1) = low
          rw [Nat.add_zero] at hlo
          have lo3 : (-3 ≤ low) ∧ (0 < t → (rowOf rows i).getD (t - 1) 0 ≤ low) ∧ (∀ a, look gs rows ((i : Int) - 1) (gs.getD i 0 + t) = some a → a < low) ∧ low ≤ 1000 * (i + gs.getD i 0 + t) + 1 := by
            have hgi0 := hg0 i
            rcases hll with ⟨ht0, e1⟩ | ⟨ht0, e1, b1, b2⟩
            · rw [e1] at hlo
              cases e2 : look gs rows ((i : Int) - 1) (gs.getD i 0 + t) with
              | none =>
                rw [e2] at hlo
                simp only [Option.isNone_none, if_true] at hlo
                exact ⟨by omega, fun q => absurd q (by omega), fun a ha => (by cases ha), by omega⟩
              | some v =>
                rw [e2] at hlo
                have := hab v e2
                simp only [Option.isNone_none, if_true, Option.isNone_some, Bool.false_eq_true, if_false, Option.getD_some] at hlo
                exact ⟨by omega, fun q => absurd q (by omega), fun a ha => (by cases ha; omega), by omega⟩
            · rw [e1] at hlo
              cases e2 : look gs rows ((i : Int) - 1) (gs.getD i 0 + t) with
              | none =>
                rw [e2] at hlo
                simp only [Option.isNone_none, if_true, Option.isNone_some, Bool.false_eq_true, if_false, Option.getD_some] at hlo
                exact ⟨by omega, fun q => by omega, fun a ha => (by cases ha), by omega⟩
              | some v =>
                rw [e2] at hlo
                have := hab v e2
                simp only [Option.isNone_some, Bool.false_eq_true, if_false, Option.getD_some] at hlo
                exact ⟨by omega, fun q => by omega, fun a ha => (by cases ha; omega), by omega⟩
          have rlen : (rows.getD i []).length = t := hI.cur
          refine eb_one (es_appA 4 (sub_ix (xs := xs) (ed_var 4 rfl (Or.inl rfl) rfl) (ed_var 5 rfl (Or.inl rfl) rfl) rfl hrow) rfl (.into hrow .top) (by rw [List.length_map, List.length_map, rlen]; omega) (ev_bin (Ev.use (ed_var 10 rfl (Or.inl rfl) rfl) (ev_bin (ev_inx 0 q_law_next hgd hr (by rfl) T.n_int (by rfl) rfl (Or.inl rfl) rfl (by walk_at "sd") (by walk_at "sd") (by walk_at "sd") (fun z1 n1 hz1 hzz1 hn1 => (Ev.use (ed_var 2 rfl (Or.inl rfl) rfl) (mod_I (by walk_at "sd") (add_I ⟨rfl, ?ap⟩)))))))))
          case ap =>
            have hs0 := Int.emod_nonneg z1 (show (step : Int) ≠ 0 by omega)
            have hs1 := Int.emod_lt_of_pos z1 (show (0 : Int) < step by omega)
            obtain ⟨f1, f2⟩ := fin low (δ' := []) (low + z1 % step) (z1 % step) lo3.2.1 lo3.2.2.1 lo3.1 lo3.2.2.2 rfl hs0 (by omega)
            have eown : OD.own ra (((rows.getD i []).map .int).map .fz ++ [.fz (.int (low + z1 % step))]) = ol ra ((rowOf rows i ++ [low + z1 % step]).map .int) := by
              unfold ol rowOf
              rw [List.map_append, List.map_append]
              rfl
            exact ⟨_, _, n1, k3 + 1, _, _, _, _, f1, f2, hn1, by omega, by omega, by rw [← eown]; rfl⟩
        · obtain ⟨xs, rows, n3, k3, c, d, e, f, hR, hI, hn3, hk3, hk3', rfl⟩ := h
          have h8 : (ls[i] - gs.getD i 0).toNat ≤ 8 := by omega
          exact ⟨xs, rows, n3, k3, _, _, _, _, _, _, hR, hI.next (by rw [eli]; omega), hn3, hk3, by omega, rfl⟩
    case dn =>
      intro δ' h
      obtain ⟨xs, rows, n2, k2, a, b, c, d, e, f, hR, hI, hn2, hk2, hk2', rfl⟩ := h
      refine eb_frz 4 rfl ?_
      refine eb_one (es_ret (Ev.use (ed_tup (ds := [_, _]) (ed_acons (ed_var 3 rfl (Or.inl rfl) rfl) (ed_acons (Ev.is (ed_var 4 rfl (Or.inl rfl) rfl) (congrArg OD.fz (hR.dat))) ed_anil)) rfl (Nat.le_of_ble_eq_true rfl)) ?_))
      refine ⟨_, keep_one rfl (dr_foot.trans dr_foot.symm) (by rw [dr_foot]; simp) rfl, gs, rows, n2, k2, rfl, ?_, hn2, hk2, by omega, rfl⟩
      refine ⟨hw, hI.len, fun i hi => hI.done i hi, (good_iff gs rows).mpr fun j _ p hp => (hI.ok j p hp).1, fun i p hp => ?_⟩
      obtain ⟨_, b1, b2⟩ := hI.ok i p hp
      have hij : i < ls.length := by
        rcases Nat.lt_or_ge i ls.length with q | q
        · exact q
        · exfalso
          have : (rowOf rows i).length = 0 := by
            rcases Nat.lt_or_ge ls.length i with q2 | q2
            · rw [hI.rest i q2]; rfl
            · have : i = ls.length := by omega
              rw [this]
              exact hI.cur
          omega
      have h1 := hI.done i hij
      have h2 := hle i hij
      have h3 := hw.2 i hij
      exact ⟨b1, by omega⟩

end Hs

set_option exponentiation.threshold 2000
namespace Hs
open PySem PySem.Spec PyProof.Rows L2 Vl
variable {P : Program} {w : World} {K : PySem.W.Frag} {mg : Str → Option Value} {base : Heap}
--def copied
def c_copied : Con := ⟨List (List Int), fun rows => [.fz (LL rows)], fun rows => rows.length ≤ 1000, fun rows x _ => ∃ a xs, x = .own a xs ∧ RowsOD xs rows⟩
theorem t_copied {k : Nat} (T : Txt mg) (D : Def K mg "copied" s_copied ["rows"]) : Cl P w K mg base (k + 1) "copied" ["rows"] c_copied := by
  refine D.cl sc_copied (fun _ => rfl) fun f cdv A outer s H E (rows : List (List Int)) hgd hr hp => ?_
  show Eb _ (defBody s_copied) [some (.fz (LL rows)), none] _
  have hp : rows.length ≤ 1000 := hp
  refine eb_one (es_ret (ev_lcEG (xs := rows) (g := LI) (own := [("row", 1)]) (fun z y => ∃ a, y = ol a (z.map Vl.D.int)) rfl sc_copied.nd (blkOk_by (own := [("row", 1)]) (N := ["rows", "row"]) (sc := defScope s_copied) (by decide +kernel)) (ei_list (Ev.use (ed_var 0 rfl (Or.inl rfl) rfl) ⟨_, rfl, rfl, rfl⟩)) (by walk_at "len") (by walk_at "hw") (stepN 1 sc_copied.nd (blkOk_by (own := [("row", 1)]) (N := ["rows", "row"]) (sc := defScope s_copied) (by decide +kernel)) (Nat.le_of_ble_eq_true rfl) (by first | exact Or.inl rfl | exact Or.inr rfl) (fun z hz Y hY => by obtain ⟨sB, HB, CB, clB, fpB, rfl⟩ := hY; exact (ev_listO (by rfl) T.n_list (Ea.use (ed_acons (ed_var 1 rfl (by first | exact Or.inl rfl | exact Or.inr (Or.inl rfl) | exact Or.inr (Or.inr rfl)) rfl) ed_anil) ⟨_, rfl, fun a => ⟨bk1_wipe, a, rfl⟩⟩)))) fun l ys hE => ?_))
  refine ⟨_, keep_fz rfl, l, ys, rfl, ?_⟩
  have := Each.rows (rows := fun z => z) hE
  rwa [List.map_id'] at this

--def lengths_in
def c_lengths_in : Con := ⟨List Int × List (List Int), fun i => [.fz (LI i.1), .fz (LL i.2)], fun i => i.1.length ≤ 1000, fun i x _ => ∃ a, x = ol a ((farL i.1 i.2).map .int)⟩
theorem dat_lengths_in {i : c_lengths_in.ι} {y : OD} {xs' : List OD} (h : c_lengths_in.out i y xs') : dat y = LI (farL i.1 i.2) := by
  obtain ⟨a, rfl⟩ : ∃ a, y = ol a ((farL i.1 i.2).map .int) := h
  exact dat_ol
theorem t_lengths_in {k : Nat} (T : Txt mg) (D : Def K mg "lengths_in" s_lengths_in ["missing", "rows"]) : Cl P w K mg base (k + 1) "lengths_in" ["missing", "rows"] c_lengths_in := by
  refine D.cl sc_lengths_in (fun _ => rfl) fun f cdv A outer s H E ⟨ms, rows⟩ hgd hr hp => ?_
  show Eb _ (defBody s_lengths_in) [some (.fz (LI ms)), some (.fz (LL rows)), none, none] _
  have hp : ms.length ≤ 1000 := hp
  have hl : (ms.zip rows).length ≤ 100000 := by rw [List.length_zip]; omega
  refine eb_one (es_ret (ev_lcO rfl sc_lengths_in.nd (lcokP (xs := ms.zip rows) (g1 := fun z => .int z.1) (g2 := fun z => LI z.2) (h := fun z => .int (z.1 + (z.2.length : Int))) 2 3 rfl sc_lengths_in.nd (blkOk_by (own := [("many", 2), ("row", 3)]) (N := ["missing", "rows", "many", "row"]) (sc := defScope s_lengths_in) (by decide +kernel)) (Nat.le_of_ble_eq_true rfl) (Nat.le_of_ble_eq_true rfl) (by first | exact Or.inl rfl | exact Or.inr rfl) (by first | exact Or.inl rfl | exact Or.inr rfl) (ei_zip (by rfl) T.n_zip (Ea.use (ed_acons (ed_var 0 rfl (Or.inl rfl) rfl) (ed_acons (ed_var 1 rfl (Or.inl rfl) rfl) ed_anil)) ⟨_, _, rfl, zipD_map, rfl⟩)) (by walk_at "len") (by walk_at "hw") (fun z hz Y hY => by obtain ⟨sB, HB, CB, clB, fpB, rfl⟩ := hY; exact (ed_bin (ed_var 2 rfl (by first | exact Or.inl rfl | exact Or.inr (Or.inl rfl) | exact Or.inr (Or.inr rfl)) rfl) (ed_callB (id := "len") (ds := [_]) (by rfl) T.n_len bt_len (ed_acons (ed_var 3 rfl (by first | exact Or.inl rfl | exact Or.inr (Or.inl rfl) | exact Or.inr (Or.inr rfl)) rfl) ed_anil) rfl (by walk_at "cd")) (by walk_at "Add"))) fun l => ?_)))
  refine ⟨_, keep_fz rfl, l, ?_⟩
  unfold farL
  rw [List.map_map]
  rfl

--def holes_in
def c_holes_in : Con := ⟨List Int, fun ms => [.fz (LI ms)], fun ms => ms.length ≤ 1000, fun ms x _ => ∃ a, x = ol a ((holesL ms).map .int)⟩
theorem dat_holes_in {i : c_holes_in.ι} {y : OD} {xs' : List OD} (h : c_holes_in.out i y xs') : dat y = LI (holesL i) := by
  obtain ⟨a, rfl⟩ : ∃ a, y = ol a ((holesL i).map .int) := h
  exact dat_ol
theorem t_holes_in {k : Nat} (T : Txt mg) (D : Def K mg "holes_in" s_holes_in ["missing"]) : Cl P w K mg base (k + 1) "holes_in" ["missing"] c_holes_in := by
  refine D.cl sc_holes_in (fun _ => rfl) fun f cdv A outer s H E (ms : List Int) hgd hr hp => ?_
  show Eb _ (defBody s_holes_in) [some (.fz (LI ms)), none, none, none] _
  have hp : ms.length ≤ 1000 := hp
  have hcl : (cut ms (some 1) none).length = ms.length - 1 := by
    rw [show cut ms (some 1) none = ms.drop 1 from cut_from 1, List.length_drop]
  have hbl : (cut ms (some 1) none ++ [0]).length = ms.length - 1 + 1 := by rw [List.length_append, hcl]; rfl
  have hz1 : (cut ms (some 1) none).length + ([0] : List Int).length ≤ 100000 := by rw [hcl]; show _ + 1 ≤ _; omega
  refine eb_cons (es_set 1 sc_holes_in.nd rfl (.inr rfl) (Ev.use (ed_bin (ed_sl (ed_var 0 rfl (Or.inl rfl) rfl) (ed_some ed_int) (ep_none rfl) (by walk_at "sl")) (ed_LI (ns := [_]) (ed_acons ed_int ed_anil) rfl (Nat.le_of_ble_eq_true rfl)) (by walk_at "Add")) ⟨Nat.le_of_ble_eq_true rfl, ?_⟩))
  refine eb_one (es_ret (ev_lcO rfl sc_holes_in.nd (lcokPF (xs := List.range ms.length) (g1 := fun i => .int ((i + 1 : Nat) : Int)) (g2 := fun i => .int (ms.getD i 0)) (h := fun i => .int ((i + 1 : Nat) : Int)) (t := fun i => decide ((cut ms (some 1) none ++ [0]).getD (((i + 1 : Nat) : Int) - 1).toNat 0 < ms.getD i 0)) 2 3 rfl sc_holes_in.nd (blkOk_by (own := [("row", 2), ("many", 3)]) (N := ["missing", "below", "row", "many"]) (sc := defScope s_holes_in) (by decide +kernel)) (Nat.le_of_ble_eq_true rfl) (Nat.le_of_ble_eq_true rfl) (by first | exact Or.inl rfl | exact Or.inr rfl) (by first | exact Or.inl rfl | exact Or.inr rfl) (ei_enumK (by rfl) T.n_enumerate (Ea.use (ed_acons (ed_var 0 rfl (Or.inl rfl) rfl) (ed_acons ed_int ed_anil)) ⟨_, 1, rfl, (by decide), (by walk_at "enr"), rfl⟩)) (by walk_at "len") (by walk_at "hw") (fun z hz Y hY => by obtain ⟨sB, HB, CB, clB, fpB, rfl⟩ := hY; exact (ed_cmpT (ed_var 3 rfl (by first | exact Or.inl rfl | exact Or.inr (Or.inl rfl) | exact Or.inr (Or.inr rfl)) rfl) (ed_ix (ed_var 1 rfl (by first | exact Or.inl rfl | exact Or.inr (Or.inl rfl) | exact Or.inr (Or.inr rfl)) rfl) (ed_bin (ed_var 2 rfl (by first | exact Or.inl rfl | exact Or.inr (Or.inl rfl) | exact Or.inr (Or.inr rfl)) rfl) ed_int (by walk_at "Sub")) (by walk_at "ix")) (by walk_at "Gt"))) (fun z hz ht Y hY => by obtain ⟨sB, HB, CB, clB, fpB, rfl⟩ := hY; exact (ed_var 2 rfl (by first | exact Or.inl rfl | exact Or.inr (Or.inl rfl) | exact Or.inr (Or.inr rfl)) rfl)) fun l => ?_)))
  rw [holes_D]
  exact ⟨_, keep_fz rfl, l, rfl⟩

--def ends_in
def c_ends_in : Con := ⟨List Int × List (List Int), fun i => [.fz (LI i.1), .fz (LL i.2)], fun i => Nn i.1 ∧ i.2.length = i.1.length ∧ 1 ≤ i.1.length ∧ i.1.length ≤ 1000, fun i x _ => ∃ a, x = ol a ((endsL i.1 i.2).map .int)⟩
theorem dat_ends_in {i : c_ends_in.ι} {y : OD} {xs' : List OD} (h : c_ends_in.out i y xs') : dat y = LI (endsL i.1 i.2) := by
  obtain ⟨a, rfl⟩ : ∃ a, y = ol a ((endsL i.1 i.2).map .int) := h
  exact dat_ol
theorem t_ends_in {k : Nat} (T : Txt mg) (D : Def K mg "ends_in" s_ends_in ["missing", "rows"]) (q_lengths_in : Cl P w K mg base k "lengths_in" ["missing", "rows"] c_lengths_in) : Cl P w K mg base (k + 1) "ends_in" ["missing", "rows"] c_ends_in := by
  refine D.cl sc_ends_in (fun _ => rfl) fun f cdv A outer s H E ⟨ms, rows⟩ hgd hr hp => ?_
  show Eb _ (defBody s_ends_in) [some (.fz (LI ms)), some (.fz (LL rows)), none, none, none, none] _
  obtain ⟨hn, hl, h1, hp⟩ : Nn ms ∧ rows.length = ms.length ∧ 1 ≤ ms.length ∧ ms.length ≤ 1000 := hp
  have hfl := farL_len hl
  refine eb_cons (es_set 2 sc_ends_in.nd rfl (.inr rfl) (Ev.use (ed_clG (LI (farL ms rows)) q_lengths_in hgd hr (by rfl) (i := (ms, rows)) (ds := [_, _]) (ed_acons (ed_var 0 rfl (Or.inl rfl) rfl) (ed_acons (ed_var 1 rfl (Or.inl rfl) rfl) ed_anil)) rfl rfl (by walk_at "pre") (fun _ _ => dat_lengths_in)) ⟨Nat.le_of_ble_eq_true rfl, ?_⟩))
  refine eb_cons (es_lcO 3 rfl sc_ends_in.nd rfl rfl (by rfl) (lcokPF (xs := List.range (farL ms rows).length) (g1 := fun i => .int ((i + 1 : Nat) : Int)) (g2 := fun i => .int ((farL ms rows).getD i 0)) (h := fun i => .int ((i + 1 : Nat) : Int)) (t := fun i => decide ((farL ms rows).getD i 0 < (if decide (((i + 1 : Nat) : Int) > 1) = true then (farL ms rows).getD (((i + 1 : Nat) : Int) - 2).toNat 0 else 8))) 4 5 rfl sc_ends_in.nd (blkOk_by (own := [("row", 4), ("long", 5)]) (N := ["missing", "rows", "reach", "told", "row", "long"]) (sc := defScope s_ends_in) (by decide +kernel)) (Nat.le_of_ble_eq_true rfl) (Nat.le_of_ble_eq_true rfl) (by first | exact Or.inl rfl | exact Or.inr rfl) (by first | exact Or.inl rfl | exact Or.inr rfl) (ei_enumK (by rfl) T.n_enumerate (Ea.use (ed_acons (ed_var 2 rfl (Or.inr (Or.inl rfl)) rfl) (ed_acons ed_int ed_anil)) ⟨_, 1, rfl, (by decide), (by walk_at "enr"), rfl⟩)) (by walk_at "len") (by walk_at "hw") (fun z hz Y hY => by obtain ⟨sB, HB, CB, clB, fpB, rfl⟩ := hY; exact (ed_cmpT (ed_var 5 rfl (by first | exact Or.inl rfl | exact Or.inr (Or.inl rfl) | exact Or.inr (Or.inr rfl)) rfl) (ed_ifI (ed_cmpT (ed_var 4 rfl (by first | exact Or.inl rfl | exact Or.inr (Or.inl rfl) | exact Or.inr (Or.inr rfl)) rfl) ed_int (by walk_at "Gt")) (fun h => (ed_ix (ed_var 2 rfl (by first | exact Or.inl rfl | exact Or.inr (Or.inl rfl) | exact Or.inr (Or.inr rfl)) rfl) (ed_bin (ed_var 4 rfl (by first | exact Or.inl rfl | exact Or.inr (Or.inl rfl) | exact Or.inr (Or.inr rfl)) rfl) ed_int (by walk_at "Sub")) (by walk_at "ix"))) (fun h => (ed_globI (by rfl) T.c_MOST_LONG))) (by walk_at "Lt"))) (fun z hz ht Y hY => by obtain ⟨sB, HB, CB, clB, fpB, rfl⟩ := hY; exact (ed_var 4 rfl (by first | exact Or.inl rfl | exact Or.inr (Or.inl rfl) | exact Or.inr (Or.inr rfl)) rfl)) (fun l => ⟨Nat.le_of_ble_eq_true rfl, ?_⟩)))
  rw [endsT_D hn hl (fun i hi => ?q) fun i => rfl]
  case q =>
    have e : (((i + 1 : Nat) : Int) - 2).toNat = i - 1 := by omega
    rw [e]
    refine decide_eq_decide.mpr ?_
    by_cases c0 : 0 < i
    · rw [if_pos c0, if_pos (decide_eq_true (by omega))]
    · rw [if_neg c0, if_neg (by simp; omega)]
  refine eb_frzL 3 rfl ?_
  have eq : ∀ b : Bool, b = decide (rows.length < 8 ∧ 0 < (farL ms rows).getD (ms.length - 1) 0) → (if b = true then LI [(rows.length : Int) + 1] else LI []) = LI (if rows.length < 8 ∧ 0 < (farL ms rows).getD (ms.length - 1) 0 then [((rows.length + 1 : Nat) : Int)] else []) := fun b hb => by
    subst hb
    by_cases c : rows.length < 8 ∧ 0 < (farL ms rows).getD (ms.length - 1) 0
    · rw [if_pos c, if_pos (decide_eq_true c)]
      rfl
    · rw [if_neg c, if_neg (by simpa using c)]
  refine eb_one (es_ret (ev_addO (ed_var 3 rfl (Or.inl rfl) rfl) (Ev.is (ed_ifD (ed_W (ed_andW (ed_cmpT (ed_callB (id := "len") (ds := [_]) (by rfl) T.n_len bt_len (ed_acons (ed_var 1 rfl (Or.inl rfl) rfl) ed_anil) rfl (by walk_at "cd")) (ed_globI (by rfl) T.c_MOST_ROWS) (by walk_at "Lt")) (fun h => (ed_and1 (ed_cmpT (ed_ix (ed_var 2 rfl (Or.inr (Or.inl rfl)) rfl) (ed_neg ed_int) (by walk_at "ix")) ed_int (by walk_at "Gt")))))) (fun h => (ed_LI (ns := [_]) (ed_acons (ed_bin (ed_callB (id := "len") (ds := [_]) (by rfl) T.n_len bt_len (ed_acons (ed_var 1 rfl (Or.inl rfl) rfl) ed_anil) rfl (by walk_at "cd")) ed_int (by walk_at "Add")) ed_anil) rfl (Nat.le_of_ble_eq_true rfl))) (fun h => (ed_LI (ns := []) ed_anil rfl (Nat.le_of_ble_eq_true rfl)))) (congrArg OD.fz (eq _ ?_))) ?_ fun l => ?_))
  · rw [hfl, ← Bool.decide_and]
    exact decide_eq_decide.mpr (by omega)
  · rw [List.length_map, List.length_map]
    unfold up1
    rw [List.length_map]
    have := List.length_filter_le (endB ms rows) (List.range rows.length)
    rw [List.length_range] at this
    split
    · simp only [List.length_singleton]; omega
    · simp only [List.length_nil]; omega
  · refine ⟨_, keep_fz rfl, l, ?_⟩
    rw [ends_app hn hl h1, List.map_append]

end Hs

set_option exponentiation.threshold 2000
namespace Hs
open PySem PySem.Spec PyProof.Rows L2 Vl
variable {P : Program} {w : World} {K : PySem.W.Frag} {mg : Str → Option Value} {base : Heap}
--def check_hole
def c_check_hole : Con := ⟨Int × List Int, fun i => [.fz (.int i.1), .fz (LI i.2)], fun i => i.2.length ≤ 1000 ∧ i.1 ∈ holesL i.2, fun _ x _ => x = .fz .non⟩
theorem t_check_hole {k : Nat} (T : Txt mg) (D : Def K mg "check_hole" s_check_hole ["row", "missing"]) (q_is_whole : Cl P w K mg base k "is_whole" ["thing"] c_is_whole) (q_holes_in : Cl P w K mg base k "holes_in" ["missing"] c_holes_in) : Cl P w K mg base (k + 1) "check_hole" ["row", "missing"] c_check_hole := by
  refine D.cl sc_check_hole (fun _ => rfl) fun f cdv A outer s H E ⟨row, ms⟩ hgd hr hp => ?_
  show Eb _ (defBody s_check_hole) [some (.fz (.int row)), some (.fz (LI ms))] _
  obtain ⟨hl, hm⟩ : ms.length ≤ 1000 ∧ row ∈ holesL ms := hp
  refine eb_one (es_ifF (ed_W (ed_orW (ed_notT (ed_valT (ed_clF q_is_whole hgd hr (by rfl) (i := row) (ds := [_]) (ed_acons (ed_var 0 rfl (Or.inl rfl) rfl) ed_anil) rfl rfl (by walk_at "pre") (by walk_at "out")))) (fun h => (ed_or1 (ed_cmpT (ed_var 0 rfl (Or.inl rfl) rfl) (ed_clG (LI (holesL ms)) q_holes_in hgd hr (by rfl) (i := ms) (ds := [_]) (ed_acons (ed_var 1 rfl (Or.inl rfl) rfl) ed_anil) rfl rfl (by walk_at "pre") (fun _ _ => dat_holes_in)) (by walk_at "NotIn")))))) ?_ (eb_nil ?_))
  · simp [hm]
  · exact ⟨_, keep_fz rfl, rfl⟩

--def check_end
def c_check_end : Con := ⟨Int × List Int × List (List Int), fun i => [.fz (.int i.1), .fz (LI i.2.1), .fz (LL i.2.2)], fun i => (Nn i.2.1 ∧ i.2.2.length = i.2.1.length ∧ 1 ≤ i.2.1.length ∧ i.2.1.length ≤ 1000) ∧ i.1 ∈ endsL i.2.1 i.2.2, fun _ x _ => x = .fz .non⟩
theorem t_check_end {k : Nat} (T : Txt mg) (D : Def K mg "check_end" s_check_end ["row", "missing", "rows"]) (q_is_whole : Cl P w K mg base k "is_whole" ["thing"] c_is_whole) (q_ends_in : Cl P w K mg base k "ends_in" ["missing", "rows"] c_ends_in) : Cl P w K mg base (k + 1) "check_end" ["row", "missing", "rows"] c_check_end := by
  refine D.cl sc_check_end (fun _ => rfl) fun f cdv A outer s H E ⟨row, ms, rows⟩ hgd hr hp => ?_
  show Eb _ (defBody s_check_end) [some (.fz (.int row)), some (.fz (LI ms)), some (.fz (LL rows))] _
  obtain ⟨hl, hm⟩ : (Nn ms ∧ rows.length = ms.length ∧ 1 ≤ ms.length ∧ ms.length ≤ 1000) ∧ row ∈ endsL ms rows := hp
  refine eb_one (es_ifF (ed_W (ed_orW (ed_notT (ed_valT (ed_clF q_is_whole hgd hr (by rfl) (i := row) (ds := [_]) (ed_acons (ed_var 0 rfl (Or.inl rfl) rfl) ed_anil) rfl rfl (by walk_at "pre") (by walk_at "out")))) (fun h => (ed_or1 (ed_cmpT (ed_var 0 rfl (Or.inl rfl) rfl) (ed_clG (LI (endsL ms rows)) q_ends_in hgd hr (by rfl) (i := (ms, rows)) (ds := [_, _]) (ed_acons (ed_var 1 rfl (Or.inl rfl) rfl) (ed_acons (ed_var 2 rfl (Or.inl rfl) rfl) ed_anil)) rfl rfl (by walk_at "pre") (fun _ _ => dat_ends_in)) (by walk_at "NotIn")))))) ?_ (eb_nil ?_))
  · simp [hm]
  · exact ⟨_, keep_fz rfl, rfl⟩

end Hs

set_option exponentiation.threshold 2000
namespace Hs
open PySem PySem.Spec PyProof.Rows L2 Vl
variable {P : Program} {w : World} {K : PySem.W.Frag} {mg : Str → Option Value} {base : Heap}
--def slid
/-- a piece and a row, told as a tuple of one's own -/
def pcC (r : List Int × List (List Int) × Nat) (x : OD) : Prop := ∃ t a b xs, x = .otp t [ol a (r.1.map .int), .own b xs, .fz (.int ((r.2.2 + 1 : Nat) : Int))] ∧ RowsOD xs r.2.1
def slidC (ms : List Int) (rows : List (List Int)) (h : Nat) (x : OD) : Prop := pcC (slidL ms rows h) x
def c_slid : Con := ⟨List Int × List (List Int) × Nat, fun i => [.fz (LI i.1), .fz (LL i.2.1), .fz (.int ((i.2.2 + 1 : Nat) : Int))], fun i => Piece i.1 i.2.1 ∧ holeB i.1 i.2.2 = true, fun i x _ => slidC i.1 i.2.1 i.2.2 x⟩
theorem t_slid {k : Nat} (T : Txt mg) (D : Def K mg "slid" s_slid ["missing", "rows", "row"]) (q_copied : Cl P w K mg base k "copied" ["rows"] c_copied) (q_number_at : Cl P w K mg base k "number_at" ["missing", "rows", "row", "column"] c_number_atD) : Cl P w K mg base (k + 1) "slid" ["missing", "rows", "row"] c_slid := by
  refine D.cl sc_slid (fun _ => rfl) fun f cdv A outer s H E ⟨ms, rows, h⟩ hgd hr hp => ?_
  show Eb _ (defBody s_slid) [some (.fz (LI ms)), some (.fz (LL rows)), some (.fz (.int ((h + 1 : Nat) : Int))), none, none, none, none, none] _
  obtain ⟨hpc, hh⟩ : Piece ms rows ∧ holeB ms h = true := hp
  obtain ⟨hl, hlt⟩ := hole_lt hpc.1 hh
  have hl8 : ms.length ≤ 8 := hpc.1.2.1
  have hrl : rows.length = ms.length := hpc.2.1.1
  have S0 := slid_start hpc hh
  have hS0 := S0.hole
  have ec := cut_set (xs := ms) (h := h) (a := ((h + 1 : Nat) : Int) - 1) (b := ((h + 1 : Nat) : Int)) (ms.getD (((h + 1 : Nat) : Int) - 1).toNat 0 - 1) (by omega) rfl hl
  have e1 : (((h + 1 : Nat) : Int) - 1).toNat = h := by omega
  have hzc : (cut ms none (some (((h + 1 : Nat) : Int) - 1))).length + [ms.getD (((h + 1 : Nat) : Int) - 1).toNat 0 - 1].length ≤ 100000 := by
    have := congrArg List.length ec
    simp only [List.length_append, List.length_set] at this
    omega
  refine eb_cons (es_set 0 sc_slid.nd rfl (.inl rfl) (ev_addO (ed_bin (ed_sl (ed_var 0 rfl (Or.inl rfl) rfl) (ep_none rfl) (ed_some (ed_bin (ed_var 2 rfl (Or.inl rfl) rfl) ed_int (by walk_at "Sub"))) (by walk_at "sl")) (ed_LI (ns := [_]) (ed_acons (ed_bin (ed_ix (ed_var 0 rfl (Or.inl rfl) rfl) (ed_bin (ed_var 2 rfl (Or.inl rfl) rfl) ed_int (by walk_at "Sub")) (by walk_at "ix")) ed_int (by walk_at "Sub")) ed_anil) rfl (Nat.le_of_ble_eq_true rfl)) (by walk_at "Add")) (ed_sl (ed_var 0 rfl (Or.inl rfl) rfl) (ed_some (ed_var 2 rfl (Or.inl rfl) rfl)) (ep_none rfl) (by walk_at "sl")) ?z0 fun l0 => ⟨Nat.le_of_ble_eq_true rfl, ?_⟩))
  case z0 =>
    have := congrArg List.length ec
    simp only [List.length_append, List.length_set, List.length_map] at this ⊢
    omega
  rw [← List.map_append, ec, e1]
  generalize hms : ms.set h (ms.getD h 0 - 1) = ms' at *
  have hml : ms'.length = ms.length := by rw [← hms, List.length_set]
  have hrp : rows.length ≤ 1000 := by omega
  refine eb_cons (es_set 1 sc_slid.nd rfl (.inl rfl) (ev_clD q_copied hgd hr (by rfl) (i := rows) (ds := [_]) (ed_acons (ed_var 1 rfl (Or.inl rfl) rfl) ed_anil) rfl rfl hrp fun y xs' ho => ?w))
  case w =>
    obtain ⟨b, xs, rfl, hR⟩ : ∃ a xs, y = .own a xs ∧ RowsOD xs rows := ho
    refine ⟨Nat.le_of_ble_eq_true rfl, ?_⟩
    have hRr : (rowOf rows h).length + 1 ≤ 100000 := by
      have := RowsOk.r8 hpc.1 hpc.2.1 h
      unfold rN at this
      omega
    refine eb_cons (es_asg (ev_lookO (ev_addO (ed_lst (ds := [_]) (ed_acons ed_non ed_anil) rfl (Nat.le_of_ble_eq_true rfl)) (ed_ix (Ev.is (ed_var 1 rfl (Or.inl rfl) rfl) (congrArg OD.fz (hR.dat))) (ed_bin (ed_var 2 rfl (Or.inl rfl) rfl) ed_int (by walk_at "Sub")) (by walk_at "ix")) ?z1 fun l1 => ⟨rfl, l1, _, rfl, ?z2, ?z3⟩)))
    case z1 =>
      rw [e1, List.length_map, List.length_singleton]
      show 1 + (rowOf rows h).length ≤ _
      omega
    case z2 =>
      rw [List.all_append, all_ints]
      rfl
    case z3 =>
      refine eg_setA 1 (sub_name 1 rfl (Or.inl rfl) rfl) rfl .top (ed_bin (ed_var 2 rfl (Or.inl rfl) rfl) ed_int (by walk_at "Sub")) (by omega) (by rw [hR.1]; omega) ?_
      have hD : RowsDD (xs.set (((h + 1 : Nat) : Int) - 1).toNat (ol l1 ([.non] ++ (rows.getD (((h + 1 : Nat) : Int) - 1).toNat []).map .int))) (HD ms' (rows.set h (0 :: rowOf rows h)) h (mN ms h - 1) .non) := by
        rw [e1, ← hol_first (ms := ms') (by have := hS0; rw [← hms, mN_set hl, if_pos rfl]; have := mN_cast hpc.1.nn h; omega) (by omega)]
        exact (rowsDD_iff.mpr hR).set
      generalize xs.set (((h + 1 : Nat) : Int) - 1).toNat (ol l1 ([.non] ++ (rows.getD (((h + 1 : Nat) : Int) - 1).toNat []).map .int)) = xs1 at *
      refine eb_cons (es_par 3 4 rfl sc_slid.nd rfl rfl (by decide) rfl rfl (Ev.use (ed_var 2 rfl (Or.inl rfl) rfl) (Ev.use (ed_look (ed_bin (ed_ix (Ev.is (ed_var 0 rfl (Or.inl rfl) rfl) (congrArg OD.fz (dat_ol))) (ed_bin (ed_var 2 rfl (Or.inl rfl) rfl) ed_int (by walk_at "Sub")) (by walk_at "ix")) ed_int (by walk_at "Add")) rfl) ⟨Nat.le_of_ble_eq_true rfl, Nat.le_of_ble_eq_true rfl, ?_⟩)))
      have ecc : ms'.getD (((h + 1 : Nat) : Int) - 1).toNat 0 + 1 = ((mN ms h - 1 + 1 : Nat) : Int) := by
        have := mN_cast S0.nn h
        have e2 : mN ms' h = mN ms h - 1 := by
          rw [← hms, mN_set hl, if_pos rfl]
          have := mN_cast hpc.1.nn h
          omega
        rw [e1]
        omega
      rw [ecc]
      generalize hres : (slidL ms rows h).2 = res at S0
      have hms1 : (slidL ms rows h).1 = ms' := hms
      refine eb_one (es_while PassesOwn.never (fun n δ' => ∃ (rw' : List (List Int)) (h' c' : Nat) (xs' : List OD) (R : List (List Vl.D)) (g1 g2 g3 : Option OD), SRun ms' n rw' h' c' res ∧ RowsDD xs' R ∧ HolD ms' rw' h' c' R ∧ rw'.length = ms'.length ∧ δ' = [some (ol l0 (ms'.map .int)), some (.own b xs'), some (.fz (.int ((h + 1 : Nat) : Int))), some (.fz (.int ((h' + 1 : Nat) : Int))), some (.fz (.int ((c' + 1 : Nat) : Int))), g1, g2, g3]) 20 ⟨_, _, _, _, _, none, none, none, S0, hD, ⟨_, rfl, rfl⟩, by rw [List.length_set]; omega, rfl⟩ fun n δ1 hI => ?_)
      obtain ⟨rw', h', c', xs2, R, g1, g2, g3, S, hDD, hHo, hrl', rfl⟩ := hI
      refine Et.use (ed_valT ed_bl) ⟨fun _ => ?_, fun q => by cases q⟩
      have hS := S.hole
      have hRl : R.length = ms'.length := by rw [hHo.len, hrl']
      have ndd := hDD.dat (l := b)
      have er1 : (((h' + 1 : Nat) : Int) - 1).toNat = h' := by omega
      have elr : lookD ms' R (((h' + 1 : Nat) : Int) - 1) (((c' + 1 : Nat) : Int) + 1 - 1) = oI (gL ms' rw' h' (c' + 1)) := by
        rw [hHo.look S.nn hS.1 (by omega)]
        unfold gL
        congr 2 <;> omega
      have eld : lookD ms' R (((h' + 1 : Nat) : Int) + 1 - 1) (((c' + 1 : Nat) : Int) - 1) = oI (gL ms' rw' (h' + 1) c') := by
        rw [hHo.look S.nn hS.1 (by omega)]
        unfold gL
        congr 2 <;> omega
      refine eb_cons (es_set 5 sc_slid.nd rfl (.inl rfl) (Ev.use (ed_look (Ev.is (ed_clF q_number_at hgd hr (by rfl) (i := (ms', R, ((h' + 1 : Nat) : Int), ((c' + 1 : Nat) : Int) + 1)) (ds := [_, _, _, _]) (ed_acons (Ev.is (ed_var 0 rfl (Or.inl rfl) rfl) (congrArg OD.fz (dat_ol))) (ed_acons (Ev.is (ed_var 1 rfl (Or.inl rfl) rfl) (congrArg OD.fz (ndd))) (ed_acons (ed_var 3 rfl (Or.inl rfl) rfl) (ed_acons (ed_bin (ed_var 4 rfl (Or.inl rfl) rfl) ed_int (by walk_at "Add")) ed_anil)))) rfl rfl (by walk_at "pre") (by walk_at "out")) (congrArg OD.fz (elr))) (scal_oI _)) ⟨Nat.le_of_ble_eq_true rfl, ?_⟩))
      refine eb_cons (es_set 6 sc_slid.nd rfl (.inl rfl) (Ev.use (ed_look (Ev.is (ed_clF q_number_at hgd hr (by rfl) (i := (ms', R, ((h' + 1 : Nat) : Int) + 1, ((c' + 1 : Nat) : Int))) (ds := [_, _, _, _]) (ed_acons (Ev.is (ed_var 0 rfl (Or.inl rfl) rfl) (congrArg OD.fz (dat_ol))) (ed_acons (Ev.is (ed_var 1 rfl (Or.inl rfl) rfl) (congrArg OD.fz (ndd))) (ed_acons (ed_bin (ed_var 3 rfl (Or.inl rfl) rfl) ed_int (by walk_at "Add")) (ed_acons (ed_var 4 rfl (Or.inl rfl) rfl) ed_anil)))) rfl rfl (by walk_at "pre") (by walk_at "out")) (congrArg OD.fz (eld))) (scal_oI _)) ⟨Nat.le_of_ble_eq_true rfl, ?_⟩))
      obtain ⟨ra, hra⟩ := hDD.2 h' (by rw [hRl]; omega)
      have hx2 : xs2.length = ms'.length := by rw [hDD.1, hRl]
      have hrow := hHo.rowLen h'
      refine eb_cons (es_ifK (ed_W (ed_andW (ed_cmpT (ed_var 5 rfl (Or.inl rfl) rfl) ed_non (by walk_at "Is")) (fun h => (ed_and1 (ed_cmpT (ed_var 6 rfl (Or.inl rfl) rfl) ed_non (by walk_at "Is")))))) (fun hh => ?stop) fun hh => eb_nil ?go)
      case stop =>
        rw [Bool.and_eq_true, Option.isNone_iff_eq_none, Option.isNone_iff_eq_none] at hh
        have er := S.stop hh.1 hh.2
        have hend : c' + 1 = rN ms' rw' h' := by
          have := hh.1
          rw [gL_eq S.nn] at this
          split at this
          · cases this
          · omega
        refine eb_cons (es_asg (ev_lookO (ev_slO (ed_ix (Ev.is (ed_var 1 rfl (Or.inl rfl) rfl) (congrArg OD.fz (ndd))) (ed_bin (ed_var 3 rfl (Or.inl rfl) rfl) ed_int (by walk_at "Sub")) (by walk_at "ix")) (ep_none rfl) (ed_some (ed_neg ed_int)) fun l1 => ⟨rfl, l1, _, rfl, ?z2, ?z3⟩)))
        case z2 =>
          rw [er1, cutD_last]
          have := hHo.scal h'
          rw [List.all_eq_true] at this ⊢
          exact fun x hx => this x (List.dropLast_subset _ hx)
        case z3 =>
          refine eg_setA 1 (sub_name 1 rfl (Or.inl rfl) rfl) rfl .top (ed_bin (ed_var 3 rfl (Or.inl rfl) rfl) ed_int (by walk_at "Sub")) (by omega) (by omega) ?_
          refine eb_one (es_ret (ev_tupE (eo_cons (ev_mov 0 rfl (Or.inl rfl) rfl (eo_cons (ev_mov 1 rfl (Or.inl rfl) rfl (eo_cons (Ev.use (ed_var 3 rfl (Or.inl rfl) rfl) (eo_nil ⟨Nat.le_of_ble_eq_true rfl, fun t => ?_⟩)))))))))
          refine ⟨_, keep_fz rfl, ?_⟩
          show slidC ms rows h _
          unfold slidC pcC
          rw [hms1, hres, er]
          refine ⟨t, l0, b, _, rfl, ?_⟩
          rw [er1, cutD_last, ← rowsDD_iff]
          have := hHo.last (by omega) hend hS.1
          unfold toD at this
          rw [← this]
          exact hDD.set
      case go =>
        have hpl : ((c' + 1 : Nat) : Int) - ms'.getD h' 0 - 1 = ((c' - mN ms' h' : Nat) : Int) := by
          have := mN_cast S.nn h'
          omega
        have hpr : c' - mN ms' h' < (R.getD h' []).length := by
          rw [hrow]
          have := hS.2.1
          unfold rN at this
          omega
        refine eb_cons (es_set 7 sc_slid.nd rfl (.inl rfl) (Ev.use (ed_look (ed_bin (ed_bin (ed_var 4 rfl (Or.inl rfl) rfl) (ed_ix (Ev.is (ed_var 0 rfl (Or.inl rfl) rfl) (congrArg OD.fz (dat_ol))) (ed_bin (ed_var 3 rfl (Or.inl rfl) rfl) ed_int (by walk_at "Sub")) (by walk_at "ix")) (by walk_at "Sub")) ed_int (by walk_at "Sub")) rfl) ⟨Nat.le_of_ble_eq_true rfl, ?_⟩))
        rw [er1, hpl]
        -- a number moves into the hole
        have mv : ∀ {d : Int} {h2 c2 : Nat}, SRun ms' (n - 1) (setC ms' rw' h' c' d) h2 c2 res → ∃ R2, R2 = R.set h' ((R.getD h' []).set (c' - mN ms' h') (.int d)) ∧ HolD ms' (setC ms' rw' h' c' d) h2 c2 R2 ∧ RowsDD (xs2.set h' (.own ra (((R.getD h' []).map .fz).set (c' - mN ms' h') (.fz (.int d))))) R2 ∧ (setC ms' rw' h' c' d).length = ms'.length := fun {d h2 c2} S2 => by
          refine ⟨_, rfl, ?_, RowsDD.store hDD, by rw [setC_len]; exact hrl'⟩
          rw [hHo.put (by omega) d]
          have := S2.hole
          exact toD_hol ⟨this.1, this.2.1⟩
        have lt : n - 1 < n := by omega
        cases eR : gL ms' rw' h' (c' + 1) with
        | none =>
          cases eD : gL ms' rw' (h' + 1) c' with
          | none => rw [eR, eD] at hh; cases hh
          | some d =>
            obtain ⟨R2, rfl, m1, m2, m3⟩ := mv (S.down eD fun x hx => by rw [eR] at hx; cases hx)
            refine eb_one (es_ifT (ed_W (ed_orWT (ed_cmpT (ed_var 5 rfl (Or.inl rfl) rfl) ed_non (by walk_at "Is")) (by walk_at "tt"))) (by rfl) ?_)
            refine eb_cons (es_asg (Ev.use (Ev.is (ed_var 6 rfl (Or.inl rfl) rfl) (congrArg OD.fz ((rfl : oI (some d) = .int d)))) (eg_setA 1 (sub_at 1 (sub_name 1 rfl (Or.inl rfl) rfl) rfl .top (ed_bin (ed_var 3 rfl (Or.inl rfl) rfl) ed_int (by walk_at "Sub")) (n := h') (by omega) hra) rfl (.into (n := h') hra .top) (ed_var 7 rfl (Or.inl rfl) rfl) (by omega) (by rw [List.length_map]; omega) ?_)))
            refine eb_one (es_set 3 sc_slid.nd rfl (.inl rfl) (Ev.use (ed_bin (ed_var 3 rfl (Or.inl rfl) rfl) ed_int (by walk_at "Add")) ⟨Nat.le_of_ble_eq_true rfl, ?_⟩))
            exact ⟨_, lt, _, _, _, _, _, _, _, _, S.down eD (fun x hx => by rw [eR] at hx; cases hx), m2, m1, m3, rfl⟩
        | some x =>
          cases eD : gL ms' rw' (h' + 1) c' with
          | none =>
            obtain ⟨R2, rfl, m1, m2, m3⟩ := mv (S.right eR fun d hd => by rw [eD] at hd; cases hd)
            refine eb_one (es_ifF (ed_W (ed_orWF (ed_cmpT (ed_var 5 rfl (Or.inl rfl) rfl) ed_non (by walk_at "Is")) (by walk_at "tt") (ed_or1 (ed_W (ed_andWF (ed_cmpT (ed_var 6 rfl (Or.inl rfl) rfl) ed_non (by walk_at "IsNot")) (by walk_at "tt")))))) (by rfl) ?_)
            refine eb_cons (es_asg (Ev.use (Ev.is (ed_var 5 rfl (Or.inl rfl) rfl) (congrArg OD.fz ((rfl : oI (some x) = .int x)))) (eg_setA 1 (sub_at 1 (sub_name 1 rfl (Or.inl rfl) rfl) rfl .top (ed_bin (ed_var 3 rfl (Or.inl rfl) rfl) ed_int (by walk_at "Sub")) (n := h') (by omega) hra) rfl (.into (n := h') hra .top) (ed_var 7 rfl (Or.inl rfl) rfl) (by omega) (by rw [List.length_map]; omega) ?_)))
            refine eb_one (es_set 4 sc_slid.nd rfl (.inl rfl) (Ev.use (ed_bin (ed_var 4 rfl (Or.inl rfl) rfl) ed_int (by walk_at "Add")) ⟨Nat.le_of_ble_eq_true rfl, ?_⟩))
            exact ⟨_, lt, _, _, _, _, _, _, _, _, S.right eR (fun d hd => by rw [eD] at hd; cases hd), m2, m1, m3, rfl⟩
          | some d =>
            refine eb_one (es_ifK (ed_W (ed_orWF (ed_cmpT (ed_var 5 rfl (Or.inl rfl) rfl) ed_non (by walk_at "Is")) (by walk_at "tt") (ed_or1 (ed_W (ed_andWT (ed_cmpT (ed_var 6 rfl (Or.inl rfl) rfl) ed_non (by walk_at "IsNot")) (by walk_at "tt") (ed_and1 (ed_cmpT (ed_var 6 rfl (Or.inl rfl) rfl) (ed_var 5 rfl (Or.inl rfl) rfl) (by walk_at "LtE")))))))) (fun hle => ?dn) fun hle => ?rt)
            case dn =>
              have hle : d ≤ x := by simpa using hle
              have S2 := S.down eD fun y hy => by rw [eR] at hy; cases hy; exact hle
              obtain ⟨R2, rfl, m1, m2, m3⟩ := mv S2
              refine eb_cons (es_asg (Ev.use (Ev.is (ed_var 6 rfl (Or.inl rfl) rfl) (congrArg OD.fz ((rfl : oI (some d) = .int d)))) (eg_setA 1 (sub_at 1 (sub_name 1 rfl (Or.inl rfl) rfl) rfl .top (ed_bin (ed_var 3 rfl (Or.inl rfl) rfl) ed_int (by walk_at "Sub")) (n := h') (by omega) hra) rfl (.into (n := h') hra .top) (ed_var 7 rfl (Or.inl rfl) rfl) (by omega) (by rw [List.length_map]; omega) ?_)))
              refine eb_one (es_set 3 sc_slid.nd rfl (.inl rfl) (Ev.use (ed_bin (ed_var 3 rfl (Or.inl rfl) rfl) ed_int (by walk_at "Add")) ⟨Nat.le_of_ble_eq_true rfl, ?_⟩))
              exact ⟨_, lt, _, _, _, _, _, _, _, _, S2, m2, m1, m3, rfl⟩
            case rt =>
              have hle : x < d := by simpa using hle
              have S2 := S.right eR fun y hy => by rw [eD] at hy; cases hy; exact hle
              obtain ⟨R2, rfl, m1, m2, m3⟩ := mv S2
              refine eb_cons (es_asg (Ev.use (Ev.is (ed_var 5 rfl (Or.inl rfl) rfl) (congrArg OD.fz ((rfl : oI (some x) = .int x)))) (eg_setA 1 (sub_at 1 (sub_name 1 rfl (Or.inl rfl) rfl) rfl .top (ed_bin (ed_var 3 rfl (Or.inl rfl) rfl) ed_int (by walk_at "Sub")) (n := h') (by omega) hra) rfl (.into (n := h') hra .top) (ed_var 7 rfl (Or.inl rfl) rfl) (by omega) (by rw [List.length_map]; omega) ?_)))
              refine eb_one (es_set 4 sc_slid.nd rfl (.inl rfl) (Ev.use (ed_bin (ed_var 4 rfl (Or.inl rfl) rfl) ed_int (by walk_at "Add")) ⟨Nat.le_of_ble_eq_true rfl, ?_⟩))
              exact ⟨_, lt, _, _, _, _, _, _, _, _, S2, m2, m1, m3, rfl⟩

end Hs

set_option exponentiation.threshold 2000
namespace Hs
open PySem PySem.Spec PyProof.Rows L2 Vl
variable {P : Program} {w : World} {K : PySem.W.Frag} {mg : Str → Option Value} {base : Heap}
--def _law_slid
def c_law_slid : Con := ⟨List Int × List (List Int) × Nat, fun i => [.fz (LI i.1), .fz (LL i.2.1), .fz (.int (i.2.2 : Int))], fun i => Piece i.1 i.2.1 ∧ holeB i.1 i.2.2 = true, fun i x _ => slidC i.1 i.2.1 i.2.2 x⟩
theorem t_law_slid {k : Nat} (T : Txt mg) (D : Def K mg "_law_slid" s_law_slid ["gone", "lines", "high"]) (q_law_look : Cl P w K mg base k "_law_look" ["gone", "lines", "high", "wide"] c_lookD) : Cl P w K mg base (k + 1) "_law_slid" ["gone", "lines", "high"] c_law_slid := by
  refine D.cl sc_law_slid (fun _ => rfl) fun f cdv A outer s H E ⟨ms, rows, h⟩ hgd hr hp => ?_
  show Eb _ (defBody s_law_slid) [some (.fz (LI ms)), some (.fz (LL rows)), some (.fz (.int (h : Int))), none, none, none, none, none] _
  obtain ⟨hpc, hh⟩ : Piece ms rows ∧ holeB ms h = true := hp
  obtain ⟨hl, hlt⟩ := hole_lt hpc.1 hh
  have hl8 : ms.length ≤ 8 := hpc.1.2.1
  have hrl : rows.length = ms.length := hpc.2.1.1
  have S0 := slid_start hpc hh
  have hS0 := S0.hole
  have ec := cut_set (xs := ms) (h := h) (a := (h : Int)) (b := (h : Int) + 1) (ms.getD (h : Int).toNat 0 - 1) rfl (by omega) hl
  have e1 : (h : Int).toNat = h := rfl
  have hzc : (cut ms none (some (h : Int))).length + [ms.getD (h : Int).toNat 0 - 1].length ≤ 100000 := by
    have := congrArg List.length ec
    simp only [List.length_append, List.length_set] at this
    omega
  refine eb_cons (es_set 0 sc_law_slid.nd rfl (.inl rfl) (ev_addO (ed_bin (ed_sl (ed_var 0 rfl (Or.inl rfl) rfl) (ep_none rfl) (ed_some (ed_var 2 rfl (Or.inl rfl) rfl)) (by walk_at "sl")) (ed_LI (ns := [_]) (ed_acons (ed_bin (ed_ix (ed_var 0 rfl (Or.inl rfl) rfl) (ed_var 2 rfl (Or.inl rfl) rfl) (by walk_at "ix")) ed_int (by walk_at "Sub")) ed_anil) rfl (Nat.le_of_ble_eq_true rfl)) (by walk_at "Add")) (ed_sl (ed_var 0 rfl (Or.inl rfl) rfl) (ed_some (ed_bin (ed_var 2 rfl (Or.inl rfl) rfl) ed_int (by walk_at "Add"))) (ep_none rfl) (by walk_at "sl")) ?z0 fun l0 => ⟨Nat.le_of_ble_eq_true rfl, ?_⟩))
  case z0 =>
    have := congrArg List.length ec
    simp only [List.length_append, List.length_set, List.length_map] at this ⊢
    omega
  rw [← List.map_append, ec, e1]
  generalize hms : ms.set h (ms.getD h 0 - 1) = ms' at *
  have hml : ms'.length = ms.length := by rw [← hms, List.length_set]
  refine eb_cons (es_lcEG (xs := rows) (g := LI) (own := [("line", 7)]) (fun z y => ∃ a, y = ol a (z.map Vl.D.int)) 1 rfl sc_law_slid.nd rfl rfl (by rfl) (blkOk_by (own := [("line", 7)]) (N := ["gone", "lines", "high", "wide", "turn", "right", "lower", "line"]) (sc := defScope s_law_slid) (by decide +kernel)) (Nat.le_of_ble_eq_true rfl) (ei_list (Ev.use (ed_var 1 rfl (Or.inl rfl) rfl) ⟨_, rfl, rfl, rfl⟩)) (by walk_at "len") (by walk_at "hw") (stepN 7 sc_law_slid.nd (blkOk_by (own := [("line", 7)]) (N := ["gone", "lines", "high", "wide", "turn", "right", "lower", "line"]) (sc := defScope s_law_slid) (by decide +kernel)) (Nat.le_of_ble_eq_true rfl) (by first | exact Or.inl rfl | exact Or.inr rfl) (fun z hz Y hY => by obtain ⟨sB, HB, CB, clB, fpB, rfl⟩ := hY; exact (ev_listO (by rfl) T.n_list (Ea.use (ed_acons (ed_var 7 rfl (by first | exact Or.inl rfl | exact Or.inr (Or.inl rfl) | exact Or.inr (Or.inr rfl)) rfl) ed_anil) ⟨_, rfl, fun a => ⟨bk1_wipe, a, rfl⟩⟩)))) (fun l ys hE => ?_))
  have hR : RowsOD ys rows := by
    have := Each.rows (rows := fun z => z) hE
    rwa [List.map_id'] at this
  have hRr : (rowOf rows h).length + 1 ≤ 100000 := by
    have := RowsOk.r8 hpc.1 hpc.2.1 h
    unfold rN at this
    omega
  refine eb_cons (es_asg (ev_lookO (ev_addO (ed_lst (ds := [_]) (ed_acons ed_non ed_anil) rfl (Nat.le_of_ble_eq_true rfl)) (ed_ix (Ev.is (ed_var 1 rfl (Or.inl rfl) rfl) (congrArg OD.fz (hR.dat))) (ed_var 2 rfl (Or.inl rfl) rfl) (by walk_at "ix")) ?z1 fun l1 => ⟨rfl, l1, _, rfl, ?z2, ?z3⟩)))
  case z1 =>
    rw [e1, List.length_map, List.length_singleton]
    show 1 + (rowOf rows h).length ≤ _
    omega
  case z2 =>
    rw [List.all_append, all_ints]
    rfl
  case z3 =>
    refine eg_setA 1 (sub_name 1 rfl (Or.inl rfl) rfl) rfl .top (ed_var 2 rfl (Or.inl rfl) rfl) (by omega) (by rw [hR.1]; omega) ?_
    have ecc : mN ms' h = mN ms h - 1 := by
      rw [← hms, mN_set hl, if_pos rfl]
      have := mN_cast hpc.1.nn h
      omega
    have hD : RowsDD (ys.set (h : Int).toNat (ol l1 ([.non] ++ (rows.getD (h : Int).toNat []).map .int))) (HD ms' (rows.set h (0 :: rowOf rows h)) h (mN ms h - 1) .non) := by
      rw [e1, ← hol_first (ms := ms') ecc.symm (by omega)]
      exact (rowsDD_iff.mpr hR).set
    generalize ys.set (h : Int).toNat (ol l1 ([.non] ++ (rows.getD (h : Int).toNat []).map .int)) = xs1 at *
    refine eb_cons (es_set 3 sc_law_slid.nd rfl (.inl rfl) (Ev.use (ed_look (ed_ix (Ev.is (ed_var 0 rfl (Or.inl rfl) rfl) (congrArg OD.fz (dat_ol))) (ed_var 2 rfl (Or.inl rfl) rfl) (by walk_at "ix")) rfl) ⟨Nat.le_of_ble_eq_true rfl, ?_⟩))
    have ecd : ms'.getD (h : Int).toNat 0 = ((mN ms h - 1 : Nat) : Int) := by
      rw [← ecc, mN_cast S0.nn, e1]
    rw [ecd]
    generalize hres : (slidL ms rows h).2 = res at S0
    have hms1 : (slidL ms rows h).1 = ms' := hms
    refine eb_cons (es_forC PassesOwn.never rfl (ei_range1 (by rfl) T.n_range (Ea.use (ed_acons ed_int ed_anil) ⟨_, rfl, by walk_at "sd", by walk_at "sd", ?lp⟩)))
    case lp =>
      refine lp_R (fun t δ' => ∃ (rw' : List (List Int)) (h' c' : Nat) (xs' : List OD) (R : List (List Vl.D)) (g0 g1 g2 g3 : Option OD), SRun ms' (20 - t) rw' h' c' res ∧ RowsDD xs' R ∧ HolD ms' rw' h' c' R ∧ rw'.length = ms'.length ∧ δ' = [some (ol l0 (ms'.map .int)), some (.own l xs'), some (.fz (.int (h' : Int))), some (.fz (.int (c' : Int))), g0, g1, g2, g3]) ⟨_, _, _, _, _, none, none, none, none, S0, hD, ⟨_, rfl, rfl⟩, by rw [List.length_set]; omega, rfl⟩ (fun t ht δ1 hI => ?st) fun δ' hI => ?dn
      case dn =>
        obtain ⟨rw', h', c', xs2, R, g0, g1, g2, g3, S, _⟩ := hI
        exact absurd S.hole.2.2.2.2.1 (by decide)
      case st =>
        obtain ⟨rw', h', c', xs2, R, g0, g1, g2, g3, S, hDD, hHo, hrl', rfl⟩ := hI
        refine (eg_name 4 sc_law_slid.nd rfl (.inl rfl) (Nat.le_of_ble_eq_true rfl) ?_)
        have hS := S.hole
        have hRl : R.length = ms'.length := by rw [hHo.len, hrl']
        have ndd := hDD.dat (l := l)
        have elr : lookD ms' R (h' : Int) ((c' : Int) + 1) = oI (gL ms' rw' h' (c' + 1)) := by
          rw [hHo.look S.nn hS.1 (by omega)]
          rfl
        have eld : lookD ms' R ((h' : Int) + 1) (c' : Int) = oI (gL ms' rw' (h' + 1) c') := by
          rw [hHo.look S.nn hS.1 (by omega)]
          rfl
        refine eb_cons (es_set 5 sc_law_slid.nd rfl (.inl rfl) (Ev.use (ed_look (Ev.is (ed_clF q_law_look hgd hr (by rfl) (i := (ms', R, (h' : Int), (c' : Int) + 1)) (ds := [_, _, _, _]) (ed_acons (Ev.is (ed_var 0 rfl (Or.inl rfl) rfl) (congrArg OD.fz (dat_ol))) (ed_acons (Ev.is (ed_var 1 rfl (Or.inl rfl) rfl) (congrArg OD.fz (ndd))) (ed_acons (ed_var 2 rfl (Or.inl rfl) rfl) (ed_acons (ed_bin (ed_var 3 rfl (Or.inl rfl) rfl) ed_int (by walk_at "Add")) ed_anil)))) rfl rfl (by walk_at "pre") (by walk_at "out")) (congrArg OD.fz (elr))) (scal_oI _)) ⟨Nat.le_of_ble_eq_true rfl, ?_⟩))
        refine eb_cons (es_set 6 sc_law_slid.nd rfl (.inl rfl) (Ev.use (ed_look (Ev.is (ed_clF q_law_look hgd hr (by rfl) (i := (ms', R, (h' : Int) + 1, (c' : Int))) (ds := [_, _, _, _]) (ed_acons (Ev.is (ed_var 0 rfl (Or.inl rfl) rfl) (congrArg OD.fz (dat_ol))) (ed_acons (Ev.is (ed_var 1 rfl (Or.inl rfl) rfl) (congrArg OD.fz (ndd))) (ed_acons (ed_bin (ed_var 2 rfl (Or.inl rfl) rfl) ed_int (by walk_at "Add")) (ed_acons (ed_var 3 rfl (Or.inl rfl) rfl) ed_anil)))) rfl rfl (by walk_at "pre") (by walk_at "out")) (congrArg OD.fz (eld))) (scal_oI _)) ⟨Nat.le_of_ble_eq_true rfl, ?_⟩))
        obtain ⟨ra, hra⟩ := hDD.2 h' (by rw [hRl]; omega)
        have hx2 : xs2.length = ms'.length := by rw [hDD.1, hRl]
        have hrow := hHo.rowLen h'
        have hpr : c' - mN ms' h' < (R.getD h' []).length := by
          rw [hrow]
          have := hS.2.1
          unfold rN at this
          omega
        refine eb_cons (es_ifK (ed_W (ed_andW (ed_cmpT (ed_var 5 rfl (Or.inl rfl) rfl) ed_non (by walk_at "Is")) (fun h => (ed_and1 (ed_cmpT (ed_var 6 rfl (Or.inl rfl) rfl) ed_non (by walk_at "Is")))))) (fun hh => ?stop) fun hh => eb_nil ?go)
        case stop =>
          rw [Bool.and_eq_true, Option.isNone_iff_eq_none, Option.isNone_iff_eq_none] at hh
          have er := S.stop hh.1 hh.2
          have hend : c' + 1 = rN ms' rw' h' := by
            have := hh.1
            rw [gL_eq S.nn] at this
            split at this
            · cases this
            · omega
          refine eb_cons (es_popA 1 (sub_at 1 (sub_name 1 rfl (Or.inl rfl) rfl) rfl .top (ed_var 2 rfl (Or.inl rfl) rfl) (n := h') rfl hra) rfl (.into (n := h') hra .top) ?z4 ?_)
          case z4 =>
            intro q
            have := congrArg List.length q
            rw [List.length_map, List.length_nil] at this
            omega
          refine eb_one (es_ret (ev_tupE (eo_cons (ev_mov 0 rfl (Or.inl rfl) rfl (eo_cons (ev_mov 1 rfl (Or.inl rfl) rfl (eo_cons (Ev.use (ed_bin (ed_var 2 rfl (Or.inl rfl) rfl) ed_int (by walk_at "Add")) (eo_nil ⟨Nat.le_of_ble_eq_true rfl, fun t => ?_⟩)))))))))
          refine ⟨_, keep_fz rfl, ?_⟩
          show slidC ms rows h _
          unfold slidC pcC
          rw [hms1, hres, er]
          refine ⟨t, l0, l, _, rfl, ?_⟩
          rw [← rowsDD_iff]
          have := hHo.last (by omega) hend hS.1
          unfold toD at this
          rw [← this]
          exact RowsDD.popd hDD
        case go =>
          have hpl : (c' : Int) - ms'.getD (h' : Int).toNat 0 = ((c' - mN ms' h' : Nat) : Int) := by
            have := mN_cast S.nn h'
            rw [show (h' : Int).toNat = h' from rfl]
            omega
          have hpi : Vl.D.int ((c' : Int) - ms'.getD (h' : Int).toNat 0) = .int ((c' - mN ms' h' : Nat) : Int) := by rw [hpl]
          have mv : ∀ {d : Int} {h2 c2 : Nat}, SRun ms' (20 - t - 1) (setC ms' rw' h' c' d) h2 c2 res → ∃ R2, R2 = R.set h' ((R.getD h' []).set (c' - mN ms' h') (.int d)) ∧ HolD ms' (setC ms' rw' h' c' d) h2 c2 R2 ∧ RowsDD (xs2.set h' (.own ra (((R.getD h' []).map .fz).set (c' - mN ms' h') (.fz (.int d))))) R2 ∧ (setC ms' rw' h' c' d).length = ms'.length ∧ SRun ms' (20 - (t + 1)) (setC ms' rw' h' c' d) h2 c2 res := fun {d h2 c2} S2 => by
            refine ⟨_, rfl, ?_, RowsDD.store hDD, by rw [setC_len]; exact hrl', by rw [show 20 - (t + 1) = 20 - t - 1 by omega]; exact S2⟩
            rw [hHo.put (by omega) d]
            have := S2.hole
            exact toD_hol ⟨this.1, this.2.1⟩
          cases eR : gL ms' rw' h' (c' + 1) with
          | none =>
            cases eD : gL ms' rw' (h' + 1) c' with
            | none => rw [eR, eD] at hh; cases hh
            | some d =>
              obtain ⟨R2, rfl, m1, m2, m3, m4⟩ := mv (S.down eD fun x hx => by rw [eR] at hx; cases hx)
              refine eb_one (es_ifF (ed_W (ed_orWF (ed_cmpT (ed_var 6 rfl (Or.inl rfl) rfl) ed_non (by walk_at "Is")) (by walk_at "tt") (ed_or1 (ed_W (ed_andWF (ed_cmpT (ed_var 5 rfl (Or.inl rfl) rfl) ed_non (by walk_at "IsNot")) (by walk_at "tt")))))) (by rfl) ?_)
              refine eb_cons (es_asg (Ev.use (Ev.is (ed_var 6 rfl (Or.inl rfl) rfl) (congrArg OD.fz ((rfl : oI (some d) = .int d)))) (eg_setA 1 (sub_at 1 (sub_name 1 rfl (Or.inl rfl) rfl) rfl .top (ed_var 2 rfl (Or.inl rfl) rfl) (n := h') rfl hra) rfl (.into (n := h') hra .top) (Ev.is (ed_look (ed_bin (ed_var 3 rfl (Or.inl rfl) rfl) (ed_ix (Ev.is (ed_var 0 rfl (Or.inl rfl) rfl) (congrArg OD.fz (dat_ol))) (ed_var 2 rfl (Or.inl rfl) rfl) (by walk_at "ix")) (by walk_at "Sub")) rfl) (congrArg OD.fz (hpi))) (by omega) (by rw [List.length_map]; omega) ?_)))
              refine eb_one (es_set 2 sc_law_slid.nd rfl (.inl rfl) (Ev.use (ed_bin (ed_var 2 rfl (Or.inl rfl) rfl) ed_int (by walk_at "Add")) ⟨Nat.le_of_ble_eq_true rfl, ?_⟩))
              exact ⟨_, _, _, _, _, _, _, _, _, m4, m2, m1, m3, rfl⟩
          | some x =>
            cases eD : gL ms' rw' (h' + 1) c' with
            | none =>
              obtain ⟨R2, rfl, m1, m2, m3, m4⟩ := mv (S.right eR fun d hd => by rw [eD] at hd; cases hd)
              refine eb_one (es_ifT (ed_W (ed_orWT (ed_cmpT (ed_var 6 rfl (Or.inl rfl) rfl) ed_non (by walk_at "Is")) (by walk_at "tt"))) (by rfl) ?_)
              refine eb_cons (es_asg (Ev.use (Ev.is (ed_var 5 rfl (Or.inl rfl) rfl) (congrArg OD.fz ((rfl : oI (some x) = .int x)))) (eg_setA 1 (sub_at 1 (sub_name 1 rfl (Or.inl rfl) rfl) rfl .top (ed_var 2 rfl (Or.inl rfl) rfl) (n := h') rfl hra) rfl (.into (n := h') hra .top) (Ev.is (ed_look (ed_bin (ed_var 3 rfl (Or.inl rfl) rfl) (ed_ix (Ev.is (ed_var 0 rfl (Or.inl rfl) rfl) (congrArg OD.fz (dat_ol))) (ed_var 2 rfl (Or.inl rfl) rfl) (by walk_at "ix")) (by walk_at "Sub")) rfl) (congrArg OD.fz (hpi))) (by omega) (by rw [List.length_map]; omega) ?_)))
              refine eb_one (es_set 3 sc_law_slid.nd rfl (.inl rfl) (Ev.use (ed_bin (ed_var 3 rfl (Or.inl rfl) rfl) ed_int (by walk_at "Add")) ⟨Nat.le_of_ble_eq_true rfl, ?_⟩))
              exact ⟨_, _, _, _, _, _, _, _, _, m4, m2, m1, m3, rfl⟩
            | some d =>
              refine eb_one (es_ifK (ed_W (ed_orWF (ed_cmpT (ed_var 6 rfl (Or.inl rfl) rfl) ed_non (by walk_at "Is")) (by walk_at "tt") (ed_or1 (ed_W (ed_andWT (ed_cmpT (ed_var 5 rfl (Or.inl rfl) rfl) ed_non (by walk_at "IsNot")) (by walk_at "tt") (ed_and1 (ed_cmpT (ed_var 5 rfl (Or.inl rfl) rfl) (ed_var 6 rfl (Or.inl rfl) rfl) (by walk_at "Lt")))))))) (fun hle => ?rt) fun hle => ?dw)
              case dw =>
                have hle : d ≤ x := by simpa using hle
                obtain ⟨R2, rfl, m1, m2, m3, m4⟩ := mv (S.down eD fun y hy => by rw [eR] at hy; cases hy; exact hle)
                refine eb_cons (es_asg (Ev.use (Ev.is (ed_var 6 rfl (Or.inl rfl) rfl) (congrArg OD.fz ((rfl : oI (some d) = .int d)))) (eg_setA 1 (sub_at 1 (sub_name 1 rfl (Or.inl rfl) rfl) rfl .top (ed_var 2 rfl (Or.inl rfl) rfl) (n := h') rfl hra) rfl (.into (n := h') hra .top) (Ev.is (ed_look (ed_bin (ed_var 3 rfl (Or.inl rfl) rfl) (ed_ix (Ev.is (ed_var 0 rfl (Or.inl rfl) rfl) (congrArg OD.fz (dat_ol))) (ed_var 2 rfl (Or.inl rfl) rfl) (by walk_at "ix")) (by walk_at "Sub")) rfl) (congrArg OD.fz (hpi))) (by omega) (by rw [List.length_map]; omega) ?_)))
                refine eb_one (es_set 2 sc_law_slid.nd rfl (.inl rfl) (Ev.use (ed_bin (ed_var 2 rfl (Or.inl rfl) rfl) ed_int (by walk_at "Add")) ⟨Nat.le_of_ble_eq_true rfl, ?_⟩))
                exact ⟨_, _, _, _, _, _, _, _, _, m4, m2, m1, m3, rfl⟩
              case rt =>
                have hle : x < d := by simpa using hle
                obtain ⟨R2, rfl, m1, m2, m3, m4⟩ := mv (S.right eR fun y hy => by rw [eD] at hy; cases hy; exact hle)
                refine eb_cons (es_asg (Ev.use (Ev.is (ed_var 5 rfl (Or.inl rfl) rfl) (congrArg OD.fz ((rfl : oI (some x) = .int x)))) (eg_setA 1 (sub_at 1 (sub_name 1 rfl (Or.inl rfl) rfl) rfl .top (ed_var 2 rfl (Or.inl rfl) rfl) (n := h') rfl hra) rfl (.into (n := h') hra .top) (Ev.is (ed_look (ed_bin (ed_var 3 rfl (Or.inl rfl) rfl) (ed_ix (Ev.is (ed_var 0 rfl (Or.inl rfl) rfl) (congrArg OD.fz (dat_ol))) (ed_var 2 rfl (Or.inl rfl) rfl) (by walk_at "ix")) (by walk_at "Sub")) rfl) (congrArg OD.fz (hpi))) (by omega) (by rw [List.length_map]; omega) ?_)))
                refine eb_one (es_set 3 sc_law_slid.nd rfl (.inl rfl) (Ev.use (ed_bin (ed_var 3 rfl (Or.inl rfl) rfl) ed_int (by walk_at "Add")) ⟨Nat.le_of_ble_eq_true rfl, ?_⟩))
                exact ⟨_, _, _, _, _, _, _, _, _, m4, m2, m1, m3, rfl⟩

end Hs

set_option exponentiation.threshold 2000
namespace Hs
open PySem PySem.Spec PyProof.Rows L2 Vl
variable {P : Program} {w : World} {K : PySem.W.Frag} {mg : Str → Option Value} {base : Heap}
--def slid_back
def c_slid_back : Con := ⟨List Int × List (List Int) × Nat, fun i => [.fz (LI i.1), .fz (LL i.2.1), .fz (.int ((i.2.2 + 1 : Nat) : Int))], fun i => Piece i.1 i.2.1 ∧ endB i.1 i.2.1 i.2.2 = true, fun i x _ => pcC (slidB i.1 i.2.1 i.2.2) x⟩
theorem t_slid_back {k : Nat} (T : Txt mg) (D : Def K mg "slid_back" s_slid_back ["missing", "rows", "row"]) (q_copied : Cl P w K mg base k "copied" ["rows"] c_copied) (q_number_at : Cl P w K mg base k "number_at" ["missing", "rows", "row", "column"] c_number_atD) : Cl P w K mg base (k + 1) "slid_back" ["missing", "rows", "row"] c_slid_back := by
  refine D.cl sc_slid_back (fun _ => rfl) fun f cdv A outer s H E ⟨ms, rows, h⟩ hgd hr hp => ?_
  show Eb _ (defBody s_slid_back) [some (.fz (LI ms)), some (.fz (LL rows)), some (.fz (.int ((h + 1 : Nat) : Int))), none, none, none, none, none] _
  obtain ⟨hpc, hh⟩ : Piece ms rows ∧ endB ms rows h = true := hp
  have hl8 : ms.length ≤ 8 := hpc.1.2.1
  have hrl : rows.length = ms.length := hpc.2.1.1
  have hrp : rows.length ≤ 1000 := by omega
  have S0 := back_start hpc hh
  have hS0 := S0.hole
  obtain ⟨x1, x2, x3, x4, x5, x6, x7⟩ := ext_same (h := h) hpc
  obtain ⟨y1, y2, y3⟩ := ext_len hpc hh
  have e1 : (((h + 1 : Nat) : Int) - 1).toNat = h := by omega
  refine eb_cons (es_par 0 1 rfl sc_slid_back.nd rfl rfl (by decide) rfl rfl (ev_listO (by rfl) T.n_list (Ea.use (ed_acons (ed_var 0 rfl (Or.inl rfl) rfl) ed_anil) ⟨_, rfl, fun l0 => ev_clD q_copied hgd hr (by rfl) (i := rows) (ds := [_]) (ed_acons (ed_var 1 rfl (Or.inl rfl) rfl) ed_anil) rfl rfl hrp fun y xs' ho => ?w⟩)))
  case w =>
    obtain ⟨b, xs, rfl, hR⟩ : ∃ a xs, y = .own a xs ∧ RowsOD xs rows := ho
    refine ⟨Nat.le_of_ble_eq_true rfl, Nat.le_of_ble_eq_true rfl, ?_⟩
    refine eb_seq (fun δ' => ∃ l0 b xs, RowsOD xs (extL ms rows h).2 ∧ δ' = [some (ol l0 ((extL ms rows h).1.map .int)), some (.own b xs), some (.fz (.int ((h + 1 : Nat) : Int))), none, none, none, none, none]) (es_ifK (et_look (Et.use (ed_cmpT (ed_var 2 rfl (Or.inl rfl) rfl) (ed_callB (id := "len") (ds := [_]) (by rfl) T.n_len bt_len (ed_acons (Ev.is (ed_var 1 rfl (Or.inl rfl) rfl) (congrArg OD.fz (hR.dat))) ed_anil) rfl (by walk_at "cd")) (by walk_at "Gt")) ⟨rfl, rfl, rfl⟩)) (fun hgt => ?new) fun hgt => eb_nil ⟨l0, b, xs, ?old, ?old2⟩) fun δ' hI => ?rest
    case old =>
      have hgt := of_decide_eq_false hgt
      unfold extL
      rw [if_pos (by omega)]
      exact hR
    case old2 =>
      have hgt := of_decide_eq_false hgt
      unfold extL
      rw [if_pos (by omega)]
      rfl
    case new =>
      have hgt := of_decide_eq_true hgt
      have hz1 : ms.length + ([0] : List Int).length ≤ 100000 := by show _ + 1 ≤ _; omega
      refine eb_one (es_par 0 1 rfl sc_slid_back.nd rfl rfl (by decide) rfl rfl (ev_lookO (ev_addO (Ev.is (ed_var 0 rfl (Or.inl rfl) rfl) (congrArg OD.fz (dat_ol))) (ed_LI (ns := [_]) (ed_acons ed_int ed_anil) rfl (Nat.le_of_ble_eq_true rfl)) ?z0 fun l1 => ⟨rfl, l1, _, rfl, ?z2, ev_catO (ev_mov 1 rfl (Or.inl rfl) rfl ⟨b, xs, rfl, ev_lstE (eo_cons (ev_lstO (ea_nil ⟨[], rfl, Nat.zero_le _, fun a => eo_nil ⟨Nat.le_of_ble_eq_true rfl, fun lb => ⟨lb, _, rfl, ?z3, fun lq => ⟨Nat.le_of_ble_eq_true rfl, Nat.le_of_ble_eq_true rfl, ?z4⟩⟩⟩⟩)))⟩)⟩)))
      case z0 => rw [List.length_map, List.length_map]; exact hz1
      case z2 => rw [List.all_append, all_ints, all_ints]; rfl
      case z3 => rw [hR.1, List.length_singleton]; omega
      case z4 =>
        have ex : extL ms rows h = (ms ++ [0], rows ++ [[]]) := by
          unfold extL
          rw [if_neg (by omega)]
        rw [ex]
        refine ⟨l1, lq, xs ++ [ol a []], ?_, by rw [List.map_append]; rfl⟩
        rw [← rowsDD_iff, List.map_append]
        exact (rowsDD_iff.mpr hR).app
    case rest =>
      obtain ⟨l0, b, xs, hR, rfl⟩ := hI
      generalize hmx : (extL ms rows h).1 = mx at *
      generalize hrx : (extL ms rows h).2 = rx at *
      obtain ⟨ra, hra⟩ := hR.2 h y1
      have hrx8 : (rowOf rx h).length ≤ 8 := by
        have := RowsOk.r8 hpc.1 hpc.2.1 h
        rw [x2]
        unfold rN at this
        omega
      refine eb_cons (es_appA 1 (sub_at 1 (sub_name 1 rfl (Or.inl rfl) rfl) rfl .top (ed_bin (ed_var 2 rfl (Or.inl rfl) rfl) ed_int (by walk_at "Sub")) (n := h) (by omega) hra) rfl (.into (n := h) hra .top) (by rw [List.length_map, List.length_map]; show (rowOf rx h).length < _; omega) (Ev.use ed_non ⟨rfl, ?_⟩))
      have hc : rN ms rows h = rN mx rx h := (congrFun x5 h).symm
      have hD : RowsDD (xs.set h (.own ra (((rx.getD h []).map Vl.D.int).map .fz ++ [.fz .non]))) (HD mx (rx.set h (rowOf rx h ++ [0])) h (rN ms rows h) .non) := by
        rw [← hol_last hc y1]
        exact RowsDD.appd (rowsDD_iff.mpr hR)
      generalize xs.set h (.own ra (((rx.getD h []).map Vl.D.int).map .fz ++ [.fz .non])) = xs1 at *
      have hH0 : HolD mx (rx.set h (rowOf rx h ++ [0])) h (rN ms rows h) (HD mx (rx.set h (rowOf rx h ++ [0])) h (rN ms rows h) .non) := ⟨_, rfl, rfl⟩
      have hml : rx.length = mx.length := x6
      have hHl := hH0.len
      rw [List.length_set] at hHl
      have hHr : ((HD mx (rx.set h (rowOf rx h ++ [0])) h (rN ms rows h) .non).getD h []).length = (rowOf rx h).length + 1 := by
        rw [hH0.rowLen, rowOf_set', if_pos ⟨rfl, y1⟩, List.length_append]
        rfl
      have nd0 := hD.dat (l := b)
      refine eb_cons (es_par 3 4 rfl sc_slid_back.nd rfl rfl (by decide) rfl rfl (Ev.use (ed_var 2 rfl (Or.inl rfl) rfl) (Ev.use (ed_look (ed_bin (ed_ix (Ev.is (ed_var 0 rfl (Or.inl rfl) rfl) (congrArg OD.fz (dat_ol))) (ed_bin (ed_var 2 rfl (Or.inl rfl) rfl) ed_int (by walk_at "Sub")) (by walk_at "ix")) (ed_callB (id := "len") (ds := [_]) (by rfl) T.n_len bt_len (ed_acons (ed_ix (Ev.is (ed_var 1 rfl (Or.inl rfl) rfl) (congrArg OD.fz (nd0))) (ed_bin (ed_var 2 rfl (Or.inl rfl) rfl) ed_int (by walk_at "Sub")) (by walk_at "ix")) ed_anil) rfl (by walk_at "cd")) (by walk_at "Add")) rfl) ⟨Nat.le_of_ble_eq_true rfl, Nat.le_of_ble_eq_true rfl, ?_⟩)))
      have ecc : mx.getD (((h + 1 : Nat) : Int) - 1).toNat 0 + (((HD mx (rx.set h (rowOf rx h ++ [0])) h (rN ms rows h) .non).getD (((h + 1 : Nat) : Int) - 1).toNat []).length : Int) = ((rN ms rows h + 1 : Nat) : Int) := by
        have := mN_cast S0.nn h
        rw [e1, hHr, hc]
        unfold rN
        omega
      rw [ecc]
      generalize hres : (slidB ms rows h).2 = res at S0
      have hms1 : (slidB ms rows h).1 = mx.set res.2 (mx.getD res.2 0 + 1) := by
        rw [← hres, ← hmx]
        rfl
      refine eb_one (es_while PassesOwn.never (fun n δ' => ∃ (rw' : List (List Int)) (h' c' : Nat) (xs' : List OD) (R : List (List Vl.D)) (g1 g2 g3 : Option OD), BRun mx n rw' h' c' res ∧ RowsDD xs' R ∧ HolD mx rw' h' c' R ∧ rw'.length = mx.length ∧ δ' = [some (ol l0 (mx.map .int)), some (.own b xs'), some (.fz (.int ((h + 1 : Nat) : Int))), some (.fz (.int ((h' + 1 : Nat) : Int))), some (.fz (.int ((c' + 1 : Nat) : Int))), g1, g2, g3]) 20 ⟨_, _, _, _, _, none, none, none, S0, hD, hH0, by rw [List.length_set]; omega, rfl⟩ fun n δ1 hI => ?_)
      obtain ⟨rw', h', c', xs2, R, g1, g2, g3, S, hDD, hHo, hrl', rfl⟩ := hI
      refine Et.use (ed_valT ed_bl) ⟨fun _ => ?_, fun q => by cases q⟩
      have hS := S.hole
      have hRl : R.length = mx.length := by rw [hHo.len, hrl']
      have ndd := hDD.dat (l := b)
      have er1 : (((h' + 1 : Nat) : Int) - 1).toNat = h' := by omega
      have ell : lookD mx R (((h' + 1 : Nat) : Int) - 1) (((c' + 1 : Nat) : Int) - 1 - 1) = oI (look mx rw' (h' : Int) ((c' : Int) - 1)) := by
        rw [hHo.look S.nn hS.1 (by omega)]
        congr 2 <;> omega
      have elu : lookD mx R (((h' + 1 : Nat) : Int) - 1 - 1) (((c' + 1 : Nat) : Int) - 1) = oI (look mx rw' ((h' : Int) - 1) (c' : Int)) := by
        rw [hHo.look S.nn hS.1 (by omega)]
        congr 2 <;> omega
      refine eb_cons (es_set 5 sc_slid_back.nd rfl (.inl rfl) (Ev.use (ed_look (Ev.is (ed_clF q_number_at hgd hr (by rfl) (i := (mx, R, ((h' + 1 : Nat) : Int), ((c' + 1 : Nat) : Int) - 1)) (ds := [_, _, _, _]) (ed_acons (Ev.is (ed_var 0 rfl (Or.inl rfl) rfl) (congrArg OD.fz (dat_ol))) (ed_acons (Ev.is (ed_var 1 rfl (Or.inl rfl) rfl) (congrArg OD.fz (ndd))) (ed_acons (ed_var 3 rfl (Or.inl rfl) rfl) (ed_acons (ed_bin (ed_var 4 rfl (Or.inl rfl) rfl) ed_int (by walk_at "Sub")) ed_anil)))) rfl rfl (by walk_at "pre") (by walk_at "out")) (congrArg OD.fz (ell))) (scal_oI _)) ⟨Nat.le_of_ble_eq_true rfl, ?_⟩))
      refine eb_cons (es_set 6 sc_slid_back.nd rfl (.inl rfl) (Ev.use (ed_look (Ev.is (ed_clF q_number_at hgd hr (by rfl) (i := (mx, R, ((h' + 1 : Nat) : Int) - 1, ((c' + 1 : Nat) : Int))) (ds := [_, _, _, _]) (ed_acons (Ev.is (ed_var 0 rfl (Or.inl rfl) rfl) (congrArg OD.fz (dat_ol))) (ed_acons (Ev.is (ed_var 1 rfl (Or.inl rfl) rfl) (congrArg OD.fz (ndd))) (ed_acons (ed_bin (ed_var 3 rfl (Or.inl rfl) rfl) ed_int (by walk_at "Sub")) (ed_acons (ed_var 4 rfl (Or.inl rfl) rfl) ed_anil)))) rfl rfl (by walk_at "pre") (by walk_at "out")) (congrArg OD.fz (elu))) (scal_oI _)) ⟨Nat.le_of_ble_eq_true rfl, ?_⟩))
      obtain ⟨rb, hrb⟩ := hDD.2 h' (by rw [hRl]; omega)
      have hx2 : xs2.length = mx.length := by rw [hDD.1, hRl]
      have hrow := hHo.rowLen h'
      refine eb_cons (es_ifK (ed_W (ed_andW (ed_cmpT (ed_var 5 rfl (Or.inl rfl) rfl) ed_non (by walk_at "Is")) (fun h => (ed_and1 (ed_cmpT (ed_var 6 rfl (Or.inl rfl) rfl) ed_non (by walk_at "Is")))))) (fun hh => ?stop) fun hh => eb_nil ?go)
      case stop =>
        rw [Bool.and_eq_true, Option.isNone_iff_eq_none, Option.isNone_iff_eq_none] at hh
        have er := S.stop hh.1 hh.2
        have hend : c' = mN mx h' := by
          have := hh.1
          rw [look_left S.nn] at this
          split at this
          · rw [gL_eq S.nn] at this
            split at this
            · cases this
            · omega
          · omega
        refine eb_cons (es_asg (ev_lookO (ev_slO (ed_ix (Ev.is (ed_var 1 rfl (Or.inl rfl) rfl) (congrArg OD.fz (ndd))) (ed_bin (ed_var 3 rfl (Or.inl rfl) rfl) ed_int (by walk_at "Sub")) (by walk_at "ix")) (ed_some ed_int) (ep_none rfl) fun l1 => ⟨rfl, l1, _, rfl, ?z2, ?z3⟩)))
        case z2 =>
          rw [er1, cutD_one]
          have := hHo.scal h'
          rw [List.all_eq_true] at this ⊢
          exact fun x hx => this x (List.drop_subset _ _ hx)
        case z3 =>
          refine eg_setA 1 (sub_name 1 rfl (Or.inl rfl) rfl) rfl .top (ed_bin (ed_var 3 rfl (Or.inl rfl) rfl) ed_int (by walk_at "Sub")) (by omega) (by omega) ?_
          have hlm : h' < mx.length := by omega
          have ec := cut_set (xs := mx) (h := h') (a := ((h' + 1 : Nat) : Int) - 1) (b := ((h' + 1 : Nat) : Int)) (mx.getD (((h' + 1 : Nat) : Int) - 1).toNat 0 + 1) (by omega) rfl hlm
          have hm8 : mx.length ≤ 8 := by omega
          have hzc : (cut mx none (some (((h' + 1 : Nat) : Int) - 1))).length + [mx.getD (((h' + 1 : Nat) : Int) - 1).toNat 0 + 1].length ≤ 100000 := by
            have := congrArg List.length ec
            simp only [List.length_append, List.length_set] at this
            omega
          refine eb_one (es_ret (ev_tupE (eo_cons (ev_lookO (ev_addO (ed_bin (ed_sl (Ev.is (ed_var 0 rfl (Or.inl rfl) rfl) (congrArg OD.fz (dat_ol))) (ep_none rfl) (ed_some (ed_bin (ed_var 3 rfl (Or.inl rfl) rfl) ed_int (by walk_at "Sub"))) (by walk_at "sl")) (ed_LI (ns := [_]) (ed_acons (ed_bin (ed_ix (Ev.is (ed_var 0 rfl (Or.inl rfl) rfl) (congrArg OD.fz (dat_ol))) (ed_bin (ed_var 3 rfl (Or.inl rfl) rfl) ed_int (by walk_at "Sub")) (by walk_at "ix")) ed_int (by walk_at "Add")) ed_anil) rfl (Nat.le_of_ble_eq_true rfl)) (by walk_at "Add")) (ed_sl (Ev.is (ed_var 0 rfl (Or.inl rfl) rfl) (congrArg OD.fz (dat_ol))) (ed_some (ed_var 3 rfl (Or.inl rfl) rfl)) (ep_none rfl) (by walk_at "sl")) ?z5 fun l2 => ⟨rfl, l2, _, rfl, ?z6, (eo_cons (ev_mov 1 rfl (Or.inl rfl) rfl (eo_cons (Ev.use (ed_var 3 rfl (Or.inl rfl) rfl) (eo_nil ⟨Nat.le_of_ble_eq_true rfl, fun t => ?_⟩)))))⟩)))))
          case z5 =>
            have := congrArg List.length ec
            simp only [List.length_append, List.length_set, List.length_map] at this ⊢
            omega
          case z6 => rw [List.all_append, all_ints, all_ints]; rfl
          refine ⟨_, keep_fz rfl, ?_⟩
          show pcC (slidB ms rows h) _
          unfold pcC
          rw [hms1, hres, er]
          rw [← List.map_append, ec, er1]
          refine ⟨t, l2, b, _, rfl, ?_⟩
          rw [cutD_one, ← rowsDD_iff]
          have := hHo.first (by omega) hend
          unfold toD at this
          rw [← this]
          exact hDD.set
      case go =>
        have hpl : ((c' + 1 : Nat) : Int) - mx.getD h' 0 - 1 = ((c' - mN mx h' : Nat) : Int) := by
          have := mN_cast S.nn h'
          omega
        have hpr : c' - mN mx h' < (R.getD h' []).length := by
          rw [hrow]
          have := hS.2.1
          unfold rN at this
          omega
        refine eb_cons (es_set 7 sc_slid_back.nd rfl (.inl rfl) (Ev.use (ed_look (ed_bin (ed_bin (ed_var 4 rfl (Or.inl rfl) rfl) (ed_ix (Ev.is (ed_var 0 rfl (Or.inl rfl) rfl) (congrArg OD.fz (dat_ol))) (ed_bin (ed_var 3 rfl (Or.inl rfl) rfl) ed_int (by walk_at "Sub")) (by walk_at "ix")) (by walk_at "Sub")) ed_int (by walk_at "Sub")) rfl) ⟨Nat.le_of_ble_eq_true rfl, ?_⟩))
        rw [er1, hpl]
        -- a number moves into the hole
        have mv : ∀ {d : Int} {h2 c2 : Nat}, BRun mx (n - 1) (setC mx rw' h' c' d) h2 c2 res → ∃ R2, R2 = R.set h' ((R.getD h' []).set (c' - mN mx h') (.int d)) ∧ HolD mx (setC mx rw' h' c' d) h2 c2 R2 ∧ RowsDD (xs2.set h' (.own rb (((R.getD h' []).map .fz).set (c' - mN mx h') (.fz (.int d))))) R2 ∧ (setC mx rw' h' c' d).length = mx.length := fun {d h2 c2} S2 => by
          refine ⟨_, rfl, ?_, RowsDD.store hDD, by rw [setC_len]; exact hrl'⟩
          rw [hHo.put (by omega) d]
          have := S2.hole
          exact toD_hol ⟨this.1, this.2.1⟩
        have lt : n - 1 < n := by omega
        have up1 : ∀ {d : Int}, 0 < h' ∧ BRun mx (n - 1) (setC mx rw' h' c' d) (h' - 1) c' res → ((h' + 1 : Nat) : Int) - 1 = ((h' - 1 + 1 : Nat) : Int) := fun q => by have := q.1; omega
        have lf1 : ∀ {d : Int}, 0 < c' ∧ BRun mx (n - 1) (setC mx rw' h' c' d) h' (c' - 1) res → ((c' + 1 : Nat) : Int) - 1 = ((c' - 1 + 1 : Nat) : Int) := fun q => by have := q.1; omega
        cases eL : look mx rw' (h' : Int) ((c' : Int) - 1) with
        | none =>
          cases eU : look mx rw' ((h' : Int) - 1) (c' : Int) with
          | none => rw [eL, eU] at hh; cases hh
          | some u =>
            have S2 := S.up eU fun x hx => by rw [eL] at hx; cases hx
            obtain ⟨R2, rfl, m1, m2, m3⟩ := mv S2.2
            refine eb_one (es_ifT (ed_W (ed_orWT (ed_cmpT (ed_var 5 rfl (Or.inl rfl) rfl) ed_non (by walk_at "Is")) (by walk_at "tt"))) (by rfl) ?_)
            refine eb_cons (es_asg (Ev.use (Ev.is (ed_var 6 rfl (Or.inl rfl) rfl) (congrArg OD.fz ((rfl : oI (some u) = .int u)))) (eg_setA 1 (sub_at 1 (sub_name 1 rfl (Or.inl rfl) rfl) rfl .top (ed_bin (ed_var 3 rfl (Or.inl rfl) rfl) ed_int (by walk_at "Sub")) (n := h') (by omega) hrb) rfl (.into (n := h') hrb .top) (ed_var 7 rfl (Or.inl rfl) rfl) (by omega) (by rw [List.length_map]; omega) ?_)))
            refine eb_one (es_set 3 sc_slid_back.nd rfl (.inl rfl) (Ev.use (ed_bin (ed_var 3 rfl (Or.inl rfl) rfl) ed_int (by walk_at "Sub")) ⟨Nat.le_of_ble_eq_true rfl, ?_⟩))
            rw [up1 S2]
            exact ⟨_, lt, _, _, _, _, _, _, _, _, S2.2, m2, m1, m3, rfl⟩
        | some x =>
          cases eU : look mx rw' ((h' : Int) - 1) (c' : Int) with
          | none =>
            have S2 := S.left eL fun d hd => by rw [eU] at hd; cases hd
            obtain ⟨R2, rfl, m1, m2, m3⟩ := mv S2.2
            refine eb_one (es_ifF (ed_W (ed_orWF (ed_cmpT (ed_var 5 rfl (Or.inl rfl) rfl) ed_non (by walk_at "Is")) (by walk_at "tt") (ed_or1 (ed_W (ed_andWF (ed_cmpT (ed_var 6 rfl (Or.inl rfl) rfl) ed_non (by walk_at "IsNot")) (by walk_at "tt")))))) (by rfl) ?_)
            refine eb_cons (es_asg (Ev.use (Ev.is (ed_var 5 rfl (Or.inl rfl) rfl) (congrArg OD.fz ((rfl : oI (some x) = .int x)))) (eg_setA 1 (sub_at 1 (sub_name 1 rfl (Or.inl rfl) rfl) rfl .top (ed_bin (ed_var 3 rfl (Or.inl rfl) rfl) ed_int (by walk_at "Sub")) (n := h') (by omega) hrb) rfl (.into (n := h') hrb .top) (ed_var 7 rfl (Or.inl rfl) rfl) (by omega) (by rw [List.length_map]; omega) ?_)))
            refine eb_one (es_set 4 sc_slid_back.nd rfl (.inl rfl) (Ev.use (ed_bin (ed_var 4 rfl (Or.inl rfl) rfl) ed_int (by walk_at "Sub")) ⟨Nat.le_of_ble_eq_true rfl, ?_⟩))
            rw [lf1 S2]
            exact ⟨_, lt, _, _, _, _, _, _, _, _, S2.2, m2, m1, m3, rfl⟩
          | some u =>
            refine eb_one (es_ifK (ed_W (ed_orWF (ed_cmpT (ed_var 5 rfl (Or.inl rfl) rfl) ed_non (by walk_at "Is")) (by walk_at "tt") (ed_or1 (ed_W (ed_andWT (ed_cmpT (ed_var 6 rfl (Or.inl rfl) rfl) ed_non (by walk_at "IsNot")) (by walk_at "tt") (ed_and1 (ed_cmpT (ed_var 6 rfl (Or.inl rfl) rfl) (ed_var 5 rfl (Or.inl rfl) rfl) (by walk_at "GtE")))))))) (fun hle => ?up) fun hle => ?lf)
            case up =>
              have hle : x ≤ u := by simpa using hle
              have S2 := S.up eU fun y hy => by rw [eL] at hy; cases hy; exact hle
              obtain ⟨R2, rfl, m1, m2, m3⟩ := mv S2.2
              refine eb_cons (es_asg (Ev.use (Ev.is (ed_var 6 rfl (Or.inl rfl) rfl) (congrArg OD.fz ((rfl : oI (some u) = .int u)))) (eg_setA 1 (sub_at 1 (sub_name 1 rfl (Or.inl rfl) rfl) rfl .top (ed_bin (ed_var 3 rfl (Or.inl rfl) rfl) ed_int (by walk_at "Sub")) (n := h') (by omega) hrb) rfl (.into (n := h') hrb .top) (ed_var 7 rfl (Or.inl rfl) rfl) (by omega) (by rw [List.length_map]; omega) ?_)))
              refine eb_one (es_set 3 sc_slid_back.nd rfl (.inl rfl) (Ev.use (ed_bin (ed_var 3 rfl (Or.inl rfl) rfl) ed_int (by walk_at "Sub")) ⟨Nat.le_of_ble_eq_true rfl, ?_⟩))
              rw [up1 S2]
              exact ⟨_, lt, _, _, _, _, _, _, _, _, S2.2, m2, m1, m3, rfl⟩
            case lf =>
              have hle : u < x := by simpa using hle
              have S2 := S.left eL fun y hy => by rw [eU] at hy; cases hy; exact hle
              obtain ⟨R2, rfl, m1, m2, m3⟩ := mv S2.2
              refine eb_cons (es_asg (Ev.use (Ev.is (ed_var 5 rfl (Or.inl rfl) rfl) (congrArg OD.fz ((rfl : oI (some x) = .int x)))) (eg_setA 1 (sub_at 1 (sub_name 1 rfl (Or.inl rfl) rfl) rfl .top (ed_bin (ed_var 3 rfl (Or.inl rfl) rfl) ed_int (by walk_at "Sub")) (n := h') (by omega) hrb) rfl (.into (n := h') hrb .top) (ed_var 7 rfl (Or.inl rfl) rfl) (by omega) (by rw [List.length_map]; omega) ?_)))
              refine eb_one (es_set 4 sc_slid_back.nd rfl (.inl rfl) (Ev.use (ed_bin (ed_var 4 rfl (Or.inl rfl) rfl) ed_int (by walk_at "Sub")) ⟨Nat.le_of_ble_eq_true rfl, ?_⟩))
              rw [lf1 S2]
              exact ⟨_, lt, _, _, _, _, _, _, _, _, S2.2, m2, m1, m3, rfl⟩

end Hs

set_option exponentiation.threshold 2000
namespace Hs
open PySem PySem.Spec PyProof.Rows L2 Vl
variable {P : Program} {w : World} {K : PySem.W.Frag} {mg : Str → Option Value} {base : Heap}
--def holes
def c_holes : Con := ⟨List Int, fun ms => [.fz (LI ms)], MsOk, fun ms x _ => ∃ a, x = ol a ((holesL ms).map .int)⟩
theorem dat_holes {i : c_holes.ι} {y : OD} {xs' : List OD} (h : c_holes.out i y xs') : dat y = LI (holesL i) := by
  obtain ⟨a, rfl⟩ : ∃ a, y = ol a ((holesL i).map .int) := h
  exact dat_ol
theorem kw_holes {K : PySem.W.Frag} : ∀ f fd, Fun K "holes" "holes" s_holes f fd → ∀ (s : Shared) (ws : List Value), ws.length = (["missing"] : List Str).length → BindsTo s fd ⟨[], (["missing"] : List Str).zip ws⟩ ((["missing"] : List Str).zip (pick [0] ws)) := by
  intro f fd F s ws hl
  obtain ⟨oc, od, kV, doc, pm, an, cdv, ct, osl, rfl, lk, hcd⟩ := F.ex
  match ws, hl with
  | [a], _ => exact .of_eq rfl
theorem t_holes {k : Nat} (T : Txt mg) (D : Def K mg "holes" s_holes ["missing"]) (q_check_missing : Cl P w K mg base k "check_missing" ["missing"] c_check_missing) (q_holes_in : Cl P w K mg base k "holes_in" ["missing"] c_holes_in) : ClS P w K mg base (k + 1) "holes" s_holes ["missing"] c_holes := by
  refine D.clS sc_holes (fun _ => rfl) fun f cdv A outer s H E (ms : List Int) hgd hr hp => ?_
  show Eb _ (defBody s_holes) [some (.fz (LI ms))] _
  have hm : MsOk ms := hp
  have h8 : ms.length ≤ 1000 := by have := hm.2.1; omega
  refine eb_cons (es_expr (Ev.use (ed_clF q_check_missing hgd hr (by rfl) (i := ms) (ds := [_]) (ed_acons (ed_var 0 rfl (Or.inl rfl) rfl) ed_anil) rfl rfl (by walk_at "pre") (by walk_at "out")) ?_))
  refine eb_one (es_ret (ev_cl q_holes_in hgd hr (by rfl) (Ea.use (ed_acons (ed_var 0 rfl (Or.inl rfl) rfl) ed_anil) ⟨ms, rfl, List.nodup_nil, h8, fun y xs' _ ho => ?_⟩)))
  obtain ⟨a, rfl⟩ : ∃ a, y = ol a ((holesL ms).map .int) := ho
  exact ⟨_, keep_fz rfl, a, rfl⟩

--def ends
theorem Piece.wr {ms : List Int} {rows : List (List Int)} (h : Piece ms rows) : MsOk ms ∧ RowsOk ms rows ∧ wrongR ms rows = [] := ⟨h.1, h.2.1, by have := h.2.2; rw [← good_wrong] at this; simpa using this⟩
theorem Piece.en {ms : List Int} {rows : List (List Int)} (h : Piece ms rows) : Nn ms ∧ rows.length = ms.length ∧ 1 ≤ ms.length ∧ ms.length ≤ 1000 := ⟨h.1.nn, h.2.1.1, h.1.1, by have := h.1.2.1; omega⟩
def c_ends : Con := ⟨List Int × List (List Int), fun i => [.fz (LI i.1), .fz (LL i.2)], fun i => Piece i.1 i.2, fun i x _ => ∃ a, x = ol a ((endsL i.1 i.2).map .int)⟩
theorem dat_ends {i : c_ends.ι} {y : OD} {xs' : List OD} (h : c_ends.out i y xs') : dat y = LI (endsL i.1 i.2) := by
  obtain ⟨a, rfl⟩ : ∃ a, y = ol a ((endsL i.1 i.2).map .int) := h
  exact dat_ol
theorem kw_ends {K : PySem.W.Frag} : ∀ f fd, Fun K "ends" "ends" s_ends f fd → ∀ (s : Shared) (ws : List Value), ws.length = (["rows", "missing"] : List Str).length → BindsTo s fd ⟨[], (["rows", "missing"] : List Str).zip ws⟩ ((["missing", "rows"] : List Str).zip (pick [1, 0] ws)) := by
  intro f fd F s ws hl
  obtain ⟨oc, od, kV, doc, pm, an, cdv, ct, osl, rfl, lk, hcd⟩ := F.ex
  match ws, hl with
  | [a, b], _ => exact .of_eq rfl
theorem t_ends {k : Nat} (T : Txt mg) (D : Def K mg "ends" s_ends ["missing", "rows"]) (q_check_piece : Cl P w K mg base k "check_piece" ["missing", "rows"] c_check_piece) (q_ends_in : Cl P w K mg base k "ends_in" ["missing", "rows"] c_ends_in) : ClS P w K mg base (k + 1) "ends" s_ends ["missing", "rows"] c_ends := by
  refine D.clS sc_ends (fun _ => rfl) fun f cdv A outer s H E ⟨ms, rows⟩ hgd hr hp => ?_
  show Eb _ (defBody s_ends) [some (.fz (LI ms)), some (.fz (LL rows))] _
  have hp : Piece ms rows := hp
  have hw := hp.wr
  refine eb_cons (es_expr (Ev.use (ed_clF q_check_piece hgd hr (by rfl) (i := (ms, rows)) (ds := [_, _]) (ed_acons (ed_var 0 rfl (Or.inl rfl) rfl) (ed_acons (ed_var 1 rfl (Or.inl rfl) rfl) ed_anil)) rfl rfl (by walk_at "pre") (by walk_at "out")) ?_))
  refine eb_one (es_ret (ev_cl q_ends_in hgd hr (by rfl) (Ea.use (ed_acons (ed_var 0 rfl (Or.inl rfl) rfl) (ed_acons (ed_var 1 rfl (Or.inl rfl) rfl) ed_anil)) ⟨(ms, rows), rfl, List.nodup_nil, hp.en, fun y xs' _ ho => ?_⟩)))
  obtain ⟨a, rfl⟩ : ∃ a, y = ol a ((endsL ms rows).map .int) := ho
  exact ⟨_, keep_fz rfl, a, rfl⟩

--def slide
def c_slide : Con := ⟨List Int × List (List Int) × Nat, fun i => [.fz (LI i.1), .fz (LL i.2.1), .fz (.int ((i.2.2 + 1 : Nat) : Int))], fun i => Piece i.1 i.2.1 ∧ holeB i.1 i.2.2 = true, fun i x _ => pcC (slidL i.1 i.2.1 i.2.2) x⟩
theorem kw_slide {K : PySem.W.Frag} : ∀ f fd, Fun K "slide" "slide" s_slide f fd → ∀ (s : Shared) (ws : List Value), ws.length = (["row", "rows", "missing"] : List Str).length → BindsTo s fd ⟨[], (["row", "rows", "missing"] : List Str).zip ws⟩ ((["missing", "rows", "row"] : List Str).zip (pick [2, 1, 0] ws)) := by
  intro f fd F s ws hl
  obtain ⟨oc, od, kV, doc, pm, an, cdv, ct, osl, rfl, lk, hcd⟩ := F.ex
  match ws, hl with
  | [a, b, c], _ => exact .of_eq rfl
theorem hole_mem {ms : List Int} {rows : List (List Int)} {h : Nat} (hp : Piece ms rows) (hh : holeB ms h = true) : ((h + 1 : Nat) : Int) ∈ holesL ms := mem_up1.mpr ⟨h, (hole_lt hp.1 hh).1, hh, rfl⟩
theorem t_slide {k : Nat} (T : Txt mg) (D : Def K mg "slide" s_slide ["missing", "rows", "row"]) (q_check_piece : Cl P w K mg base k "check_piece" ["missing", "rows"] c_check_piece) (q_check_hole : Cl P w K mg base k "check_hole" ["row", "missing"] c_check_hole) (q_slid : Cl P w K mg base k "slid" ["missing", "rows", "row"] c_slid) : ClS P w K mg base (k + 1) "slide" s_slide ["missing", "rows", "row"] c_slide := by
  refine D.clS sc_slide (fun _ => rfl) fun f cdv A outer s H E ⟨ms, rows, h⟩ hgd hr hp => ?_
  show Eb _ (defBody s_slide) [some (.fz (LI ms)), some (.fz (LL rows)), some (.fz (.int ((h + 1 : Nat) : Int)))] _
  have hp : Piece ms rows ∧ holeB ms h = true := hp
  have hw := hp.1.wr
  have hc : ms.length ≤ 1000 ∧ ((h + 1 : Nat) : Int) ∈ holesL ms := ⟨hp.1.en.2.2.2, hole_mem hp.1 hp.2⟩
  refine eb_cons (es_expr (Ev.use (ed_clF q_check_piece hgd hr (by rfl) (i := (ms, rows)) (ds := [_, _]) (ed_acons (ed_var 0 rfl (Or.inl rfl) rfl) (ed_acons (ed_var 1 rfl (Or.inl rfl) rfl) ed_anil)) rfl rfl (by walk_at "pre") (by walk_at "out")) ?_))
  refine eb_cons (es_expr (Ev.use (ed_clF q_check_hole hgd hr (by rfl) (i := (((h + 1 : Nat) : Int), ms)) (ds := [_, _]) (ed_acons (ed_var 2 rfl (Or.inl rfl) rfl) (ed_acons (ed_var 0 rfl (Or.inl rfl) rfl) ed_anil)) rfl rfl (by walk_at "pre") (by walk_at "out")) ?_))
  refine eb_one (es_ret (ev_cl q_slid hgd hr (by rfl) (Ea.use (ed_acons (ed_var 0 rfl (Or.inl rfl) rfl) (ed_acons (ed_var 1 rfl (Or.inl rfl) rfl) (ed_acons (ed_var 2 rfl (Or.inl rfl) rfl) ed_anil))) ⟨(ms, rows, h), rfl, List.nodup_nil, hp, fun y xs' _ ho => ?_⟩)))
  exact ⟨_, keep_fz rfl, ho⟩

--def slide_back
def c_slide_back : Con := ⟨List Int × List (List Int) × Nat, fun i => [.fz (LI i.1), .fz (LL i.2.1), .fz (.int ((i.2.2 + 1 : Nat) : Int))], fun i => Piece i.1 i.2.1 ∧ endB i.1 i.2.1 i.2.2 = true, fun i x _ => pcC (slidB i.1 i.2.1 i.2.2) x⟩
theorem kw_slide_back {K : PySem.W.Frag} : ∀ f fd, Fun K "slide_back" "slide_back" s_slide_back f fd → ∀ (s : Shared) (ws : List Value), ws.length = (["row", "rows", "missing"] : List Str).length → BindsTo s fd ⟨[], (["row", "rows", "missing"] : List Str).zip ws⟩ ((["missing", "rows", "row"] : List Str).zip (pick [2, 1, 0] ws)) := by
  intro f fd F s ws hl
  obtain ⟨oc, od, kV, doc, pm, an, cdv, ct, osl, rfl, lk, hcd⟩ := F.ex
  match ws, hl with
  | [a, b, c], _ => exact .of_eq rfl
theorem end_mem {ms : List Int} {rows : List (List Int)} {h : Nat} (hp : Piece ms rows) (hh : endB ms rows h = true) : ((h + 1 : Nat) : Int) ∈ endsL ms rows := mem_up1.mpr ⟨h, by
  unfold endB at hh
  split at hh
  · omega
  · have := of_decide_eq_true hh
    omega, hh, rfl⟩
theorem t_slide_back {k : Nat} (T : Txt mg) (D : Def K mg "slide_back" s_slide_back ["missing", "rows", "row"]) (q_check_piece : Cl P w K mg base k "check_piece" ["missing", "rows"] c_check_piece) (q_check_end : Cl P w K mg base k "check_end" ["row", "missing", "rows"] c_check_end) (q_slid_back : Cl P w K mg base k "slid_back" ["missing", "rows", "row"] c_slid_back) : ClS P w K mg base (k + 1) "slide_back" s_slide_back ["missing", "rows", "row"] c_slide_back := by
  refine D.clS sc_slide_back (fun _ => rfl) fun f cdv A outer s H E ⟨ms, rows, h⟩ hgd hr hp => ?_
  show Eb _ (defBody s_slide_back) [some (.fz (LI ms)), some (.fz (LL rows)), some (.fz (.int ((h + 1 : Nat) : Int)))] _
  have hp : Piece ms rows ∧ endB ms rows h = true := hp
  have hw := hp.1.wr
  have hc : (Nn ms ∧ rows.length = ms.length ∧ 1 ≤ ms.length ∧ ms.length ≤ 1000) ∧ ((h + 1 : Nat) : Int) ∈ endsL ms rows := ⟨hp.1.en, end_mem hp.1 hp.2⟩
  refine eb_cons (es_expr (Ev.use (ed_clF q_check_piece hgd hr (by rfl) (i := (ms, rows)) (ds := [_, _]) (ed_acons (ed_var 0 rfl (Or.inl rfl) rfl) (ed_acons (ed_var 1 rfl (Or.inl rfl) rfl) ed_anil)) rfl rfl (by walk_at "pre") (by walk_at "out")) ?_))
  refine eb_cons (es_expr (Ev.use (ed_clF q_check_end hgd hr (by rfl) (i := (((h + 1 : Nat) : Int), ms, rows)) (ds := [_, _, _]) (ed_acons (ed_var 2 rfl (Or.inl rfl) rfl) (ed_acons (ed_var 0 rfl (Or.inl rfl) rfl) (ed_acons (ed_var 1 rfl (Or.inl rfl) rfl) ed_anil))) rfl rfl (by walk_at "pre") (by walk_at "out")) ?_))
  refine eb_one (es_ret (ev_cl q_slid_back hgd hr (by rfl) (Ea.use (ed_acons (ed_var 0 rfl (Or.inl rfl) rfl) (ed_acons (ed_var 1 rfl (Or.inl rfl) rfl) (ed_acons (ed_var 2 rfl (Or.inl rfl) rfl) ed_anil))) ⟨(ms, rows, h), rfl, List.nodup_nil, hp, fun y xs' _ ho => ?_⟩)))
  exact ⟨_, keep_fz rfl, ho⟩

end Hs

set_option exponentiation.threshold 2000
namespace Hs
open PySem PySem.Spec PyProof.Rows L2 Vl
variable {P : Program} {w : World} {K : PySem.W.Frag} {mg : Str → Option Value} {base : Heap}
--def _law_holes
def c_law_holes : Con := ⟨List Int, fun ms => [.fz (LI ms)], fun ms => ms.length ≤ 1000, fun ms x _ => ∃ a, x = ol a ((holesL ms).map .int)⟩
theorem dat_law_holes {i : c_law_holes.ι} {y : OD} {xs' : List OD} (h : c_law_holes.out i y xs') : dat y = LI (holesL i) := by
  obtain ⟨a, rfl⟩ : ∃ a, y = ol a ((holesL i).map .int) := h
  exact dat_ol
theorem t_law_holes {k : Nat} (T : Txt mg) (D : Def K mg "_law_holes" s_law_holes ["gone"]) : Cl P w K mg base (k + 1) "_law_holes" ["gone"] c_law_holes := by
  refine D.cl sc_law_holes (fun _ => rfl) fun f cdv A outer s H E (ms : List Int) hgd hr hp => ?_
  show Eb _ (defBody s_law_holes) [some (.fz (LI ms)), none, none] _
  have hp : ms.length ≤ 1000 := hp
  have hz1 : ms.length + ([0] : List Int).length ≤ 100000 := by show _ + 1 ≤ _; omega
  have hz2 : (ms ++ [0]).length = ms.length + 1 := by rw [List.length_append]; rfl
  refine eb_one (es_ret (ev_lcO rfl sc_law_holes.nd (lcokPF (xs := List.range ms.length) (g1 := fun i => .int ((i + 0 : Nat) : Int)) (g2 := fun i => .int (ms.getD i 0)) (h := fun i => .int (((i + 0 : Nat) : Int) + 1)) (t := fun i => decide ((ms ++ [0]).getD (((i + 0 : Nat) : Int) + 1).toNat 0 < ms.getD i 0)) 1 2 rfl sc_law_holes.nd (blkOk_by (own := [("high", 1), ("many", 2)]) (N := ["gone", "high", "many"]) (sc := defScope s_law_holes) (by decide +kernel)) (Nat.le_of_ble_eq_true rfl) (Nat.le_of_ble_eq_true rfl) (by first | exact Or.inl rfl | exact Or.inr rfl) (by first | exact Or.inl rfl | exact Or.inr rfl) (ei_enum (by rfl) T.n_enumerate (Ea.use (ed_acons (ed_var 0 rfl (Or.inr (Or.inl rfl)) rfl) ed_anil) ⟨_, rfl, (by walk_at "enr"), rfl⟩)) (by walk_at "len") (by walk_at "hw") (fun z hz Y hY => by obtain ⟨sB, HB, CB, clB, fpB, rfl⟩ := hY; exact (ed_cmpT (ed_var 2 rfl (by first | exact Or.inl rfl | exact Or.inr (Or.inl rfl) | exact Or.inr (Or.inr rfl)) rfl) (ed_ix (ed_bin (ed_var 0 rfl (by first | exact Or.inl rfl | exact Or.inr (Or.inl rfl) | exact Or.inr (Or.inr rfl)) rfl) (ed_LI (ns := [_]) (ed_acons ed_int ed_anil) rfl (Nat.le_of_ble_eq_true rfl)) (by walk_at "Add")) (ed_bin (ed_var 1 rfl (by first | exact Or.inl rfl | exact Or.inr (Or.inl rfl) | exact Or.inr (Or.inr rfl)) rfl) ed_int (by walk_at "Add")) (by walk_at "ix")) (by walk_at "Gt"))) (fun z hz ht Y hY => by obtain ⟨sB, HB, CB, clB, fpB, rfl⟩ := hY; exact (ed_bin (ed_var 1 rfl (by first | exact Or.inl rfl | exact Or.inr (Or.inl rfl) | exact Or.inr (Or.inr rfl)) rfl) ed_int (by walk_at "Add"))) fun l => ?_)))
  rw [holes_law_D]
  exact ⟨_, keep_fz rfl, l, rfl⟩

--def _law_ends
def c_law_ends : Con := ⟨List Int × List (List Int), fun i => [.fz (LI i.1), .fz (LL i.2)], fun i => Nn i.1 ∧ i.2.length = i.1.length ∧ 1 ≤ i.1.length ∧ i.1.length ≤ 1000, fun i x _ => ∃ a, x = ol a ((endsL i.1 i.2).map .int)⟩
theorem dat_law_ends {i : c_law_ends.ι} {y : OD} {xs' : List OD} (h : c_law_ends.out i y xs') : dat y = LI (endsL i.1 i.2) := by
  obtain ⟨a, rfl⟩ : ∃ a, y = ol a ((endsL i.1 i.2).map .int) := h
  exact dat_ol
theorem t_law_ends {k : Nat} (T : Txt mg) (D : Def K mg "_law_ends" s_law_ends ["gone", "lines"]) : Cl P w K mg base (k + 1) "_law_ends" ["gone", "lines"] c_law_ends := by
  refine D.cl sc_law_ends (fun _ => rfl) fun f cdv A outer s H E ⟨ms, rows⟩ hgd hr hp => ?_
  show Eb _ (defBody s_law_ends) [some (.fz (LI ms)), some (.fz (LL rows)), none, none, none, none, none, none] _
  obtain ⟨hn, hl, h1, hp⟩ : Nn ms ∧ rows.length = ms.length ∧ 1 ≤ ms.length ∧ ms.length ≤ 1000 := hp
  have hfl := farL_len hl
  have hzz : (ms.zip rows).length ≤ 100000 := by rw [List.length_zip]; omega
  refine eb_cons (es_set 2 sc_law_ends.nd rfl (.inr rfl) (ev_lcO rfl sc_law_ends.nd (lcokP (xs := ms.zip rows) (g1 := fun z => .int z.1) (g2 := fun z => LI z.2) (h := fun z => .int (z.1 + (z.2.length : Int))) 4 5 rfl sc_law_ends.nd (blkOk_by (own := [("many", 4), ("line", 5)]) (N := ["gone", "lines", "far", "told", "many", "line", "high", "long"]) (sc := defScope s_law_ends) (by decide +kernel)) (Nat.le_of_ble_eq_true rfl) (Nat.le_of_ble_eq_true rfl) (by first | exact Or.inl rfl | exact Or.inr rfl) (by first | exact Or.inl rfl | exact Or.inr rfl) (ei_zip (by rfl) T.n_zip (Ea.use (ed_acons (ed_var 0 rfl (Or.inl rfl) rfl) (ed_acons (ed_var 1 rfl (Or.inl rfl) rfl) ed_anil)) ⟨_, _, rfl, zipD_map, rfl⟩)) (by walk_at "len") (by walk_at "hw") (fun z hz Y hY => by obtain ⟨sB, HB, CB, clB, fpB, rfl⟩ := hY; exact (ed_bin (ed_var 4 rfl (by first | exact Or.inl rfl | exact Or.inr (Or.inl rfl) | exact Or.inr (Or.inr rfl)) rfl) (ed_callB (id := "len") (ds := [_]) (by rfl) T.n_len bt_len (ed_acons (ed_var 5 rfl (by first | exact Or.inl rfl | exact Or.inr (Or.inl rfl) | exact Or.inr (Or.inr rfl)) rfl) ed_anil) rfl (by walk_at "cd")) (by walk_at "Add"))) (fun l => ⟨Nat.le_of_ble_eq_true rfl, ?_⟩))))
  refine eb_frzL 2 rfl ?_
  have ef : Vl.D.lst ((ms.zip rows).map fun z => Vl.D.int (z.1 + (z.2.length : Int))) = LI (farL ms rows) := by
    unfold LI farL
    rw [List.map_map]
    rfl
  rw [ef]
  refine eb_cons (es_lcO 3 rfl sc_law_ends.nd rfl rfl (by rfl) (lcokPF (xs := List.range (farL ms rows).length) (g1 := fun i => .int ((i + 0 : Nat) : Int)) (g2 := fun i => .int ((farL ms rows).getD i 0)) (h := fun i => .int (((i + 0 : Nat) : Int) + 1)) (t := fun i => decide ((farL ms rows).getD i 0 < (if decide (((i + 0 : Nat) : Int) > 0) = true then (farL ms rows).getD (((i + 0 : Nat) : Int) - 1).toNat 0 else 8))) 6 7 rfl sc_law_ends.nd (blkOk_by (own := [("high", 6), ("long", 7)]) (N := ["gone", "lines", "far", "told", "many", "line", "high", "long"]) (sc := defScope s_law_ends) (by decide +kernel)) (Nat.le_of_ble_eq_true rfl) (Nat.le_of_ble_eq_true rfl) (by first | exact Or.inl rfl | exact Or.inr rfl) (by first | exact Or.inl rfl | exact Or.inr rfl) (ei_enum (by rfl) T.n_enumerate (Ea.use (ed_acons (ed_var 2 rfl (Or.inr (Or.inl rfl)) rfl) ed_anil) ⟨_, rfl, (by walk_at "enr"), rfl⟩)) (by walk_at "len") (by walk_at "hw") (fun z hz Y hY => by obtain ⟨sB, HB, CB, clB, fpB, rfl⟩ := hY; exact (ed_cmpT (ed_var 7 rfl (by first | exact Or.inl rfl | exact Or.inr (Or.inl rfl) | exact Or.inr (Or.inr rfl)) rfl) (ed_ifI (ed_cmpT (ed_var 6 rfl (by first | exact Or.inl rfl | exact Or.inr (Or.inl rfl) | exact Or.inr (Or.inr rfl)) rfl) ed_int (by walk_at "Gt")) (fun h => (ed_ix (ed_var 2 rfl (by first | exact Or.inl rfl | exact Or.inr (Or.inl rfl) | exact Or.inr (Or.inr rfl)) rfl) (ed_bin (ed_var 6 rfl (by first | exact Or.inl rfl | exact Or.inr (Or.inl rfl) | exact Or.inr (Or.inr rfl)) rfl) ed_int (by walk_at "Sub")) (by walk_at "ix"))) (fun h => ed_int)) (by walk_at "Lt"))) (fun z hz ht Y hY => by obtain ⟨sB, HB, CB, clB, fpB, rfl⟩ := hY; exact (ed_bin (ed_var 6 rfl (by first | exact Or.inl rfl | exact Or.inr (Or.inl rfl) | exact Or.inr (Or.inr rfl)) rfl) ed_int (by walk_at "Add"))) (fun l => ⟨Nat.le_of_ble_eq_true rfl, ?_⟩)))
  rw [endsT_D hn hl (fun i hi => ?q) fun i => by simp]
  case q =>
    have e : (((i + 0 : Nat) : Int) - 1).toNat = i - 1 := by omega
    rw [e]
    refine decide_eq_decide.mpr ?_
    by_cases c0 : 0 < i
    · rw [if_pos c0, if_pos (decide_eq_true (by omega))]
    · rw [if_neg c0, if_neg (by simp; omega)]
  refine eb_frzL 3 rfl ?_
  have hul : ((up1 rows.length (endB ms rows)).map Vl.D.int).length ≤ 1000 := by
    rw [List.length_map]
    unfold up1
    rw [List.length_map]
    have := List.length_filter_le (endB ms rows) (List.range rows.length)
    rw [List.length_range] at this
    omega
  by_cases c : rows.length < 8 ∧ 0 < (farL ms rows).getD (ms.length - 1) 0
  · have eq : ∀ b : Bool, b = decide (rows.length < 8 ∧ 0 < (farL ms rows).getD (ms.length - 1) 0) → Vl.D.int (if b = true then 1 else 0) = .int 1 := fun b hb => by
      subst hb
      rw [if_pos (decide_eq_true c)]
    refine eb_one (es_ret (ev_addO (ed_var 3 rfl (Or.inl rfl) rfl) (ed_bin (ed_LI (ns := [_]) (ed_acons (ed_bin (ed_callB (id := "len") (ds := [_]) (by rfl) T.n_len bt_len (ed_acons (ed_var 1 rfl (Or.inl rfl) rfl) ed_anil) rfl (by walk_at "cd")) ed_int (by walk_at "Add")) ed_anil) rfl (Nat.le_of_ble_eq_true rfl)) (Ev.is (ed_callT (id := "int") (ds := [_]) (by rfl) T.n_int bt_int (ed_acons (ed_and (ed_cmp (ed_callB (id := "len") (ds := [_]) (by rfl) T.n_len bt_len (ed_acons (ed_var 1 rfl (Or.inl rfl) rfl) ed_anil) rfl (by walk_at "cd")) ed_int (by walk_at "Lt")) (fun h => (ed_one (ed_cmp (ed_ix (ed_var 2 rfl (Or.inr (Or.inl rfl)) rfl) (ed_neg ed_int) (by walk_at "ix")) ed_int (by walk_at "Gt"))))) ed_anil) rfl (by walk_at "cd")) (congrArg OD.fz (eq _ ?_))) (by walk_at "Mult")) ?_ fun l => ?_))
    · rw [hfl, ← Bool.decide_and]
      exact decide_eq_decide.mpr (by omega)
    · show _ + 1 ≤ _
      omega
    · refine ⟨_, keep_fz rfl, l, ?_⟩
      rw [ends_app hn hl h1, if_pos c, List.map_append]
      rfl
  · have eq : ∀ b : Bool, b = decide (rows.length < 8 ∧ 0 < (farL ms rows).getD (ms.length - 1) 0) → Vl.D.int (if b = true then 1 else 0) = .int 0 := fun b hb => by
      subst hb
      rw [if_neg (by simpa using c)]
    refine eb_one (es_ret (ev_addO (ed_var 3 rfl (Or.inl rfl) rfl) (ed_bin (ed_LI (ns := [_]) (ed_acons (ed_bin (ed_callB (id := "len") (ds := [_]) (by rfl) T.n_len bt_len (ed_acons (ed_var 1 rfl (Or.inl rfl) rfl) ed_anil) rfl (by walk_at "cd")) ed_int (by walk_at "Add")) ed_anil) rfl (Nat.le_of_ble_eq_true rfl)) (Ev.is (ed_callT (id := "int") (ds := [_]) (by rfl) T.n_int bt_int (ed_acons (ed_and (ed_cmp (ed_callB (id := "len") (ds := [_]) (by rfl) T.n_len bt_len (ed_acons (ed_var 1 rfl (Or.inl rfl) rfl) ed_anil) rfl (by walk_at "cd")) ed_int (by walk_at "Lt")) (fun h => (ed_one (ed_cmp (ed_ix (ed_var 2 rfl (Or.inr (Or.inl rfl)) rfl) (ed_neg ed_int) (by walk_at "ix")) ed_int (by walk_at "Gt"))))) ed_anil) rfl (by walk_at "cd")) (congrArg OD.fz (eq _ ?_))) (by walk_at "Mult")) ?_ fun l => ?_))
    · rw [hfl, ← Bool.decide_and]
      exact decide_eq_decide.mpr (by omega)
    · show _ + 0 ≤ _
      omega
    · refine ⟨_, keep_fz rfl, l, ?_⟩
      rw [ends_app hn hl h1, if_neg c, List.map_append]
      rfl

end Hs

set_option exponentiation.threshold 2000
namespace Hs
open PySem PySem.Spec PyProof.Rows L2 Vl
variable {P : Program} {w : World} {K : PySem.W.Frag} {mg : Str → Option Value} {base : Heap}
--def _law_slide_right
theorem dat_pc {r : List Int × List (List Int) × Nat} {y : OD} (h : pcC r y) : dat y = tupD r := by
  obtain ⟨t, a, b, xs, rfl, hR⟩ := h
  rw [dat_otp3, dat_ol, hR.dat, dat_fzd]
  rfl
def c_slide_right : Con := ⟨List Int × List (List Int) × Nat, fun i => [.fz (LI i.1), .fz (LL i.2.1), .fz (.int ((i.2.2 + 1 : Nat) : Int))], fun i => (Piece i.1 i.2.1 ∧ holeB i.1 i.2.2 = true) ∧ Sml i.2.1, fun _ x _ => x = .fz (.bl true)⟩
theorem t_law_slide_right {k : Nat} (T : Txt mg) (D : Def K mg "_law_slide_right" s_law_slide_right ["gone", "lines", "high"]) (q_law_slid : Cl P w K mg base k "_law_slid" ["gone", "lines", "high"] c_law_slid) (q_slide : ClS P w K mg base k "slide" s_slide ["missing", "rows", "row"] c_slide) (q_is_sorted : ClS P w K mg base k "is_sorted" s_is_sorted ["missing", "rows"] c_is_sorted) (q_slide_back : ClS P w K mg base k "slide_back" s_slide_back ["missing", "rows", "row"] c_slide_back) : Cl P w K mg base (k + 1) "_law_slide_right" ["gone", "lines", "high"] c_slide_right := by
  refine D.cl sc_law_slide_right (fun _ => rfl) fun f cdv A outer s H E ⟨ms, rows, h⟩ hgd hr hp => ?_
  show Eb _ (defBody s_law_slide_right) [some (.fz (LI ms)), some (.fz (LL rows)), some (.fz (.int ((h + 1 : Nat) : Int))), none, none, none, none, none, none, none] _
  obtain ⟨⟨hpc, hh⟩, hsm⟩ : (Piece ms rows ∧ holeB ms h = true) ∧ Sml rows := hp
  have hph : Piece ms rows ∧ holeB ms h = true := ⟨hpc, hh⟩
  obtain ⟨hl, hlt⟩ := hole_lt hpc.1 hh
  have hl8 : ms.length ≤ 8 := hpc.1.2.1
  have hrl : rows.length = ms.length := hpc.2.1.1
  obtain ⟨ms2, rows2, k2, hS, S⟩ := slidL_ok hpc hh
  have hsm2 : Sml rows2 := hsm.perm S.perm
  have hk2 : k2 < 100 := by have := S.kl; omega
  have hinv := slide_back_inv hpc hh hS
  have hend := piece_row hpc S
  have q1 := q_slide.cl
  have q2 := q_is_sorted.cl
  have q3 := q_slide_back.cl
  have r1 := rpr_pc hpc hsm
  obtain ⟨r2, r3⟩ := rpr_tup S.pc hsm2 hk2
  obtain ⟨r4, r5⟩ := rpr_tup (k := h) hpc hsm (by omega)
  have hh1 : Vl.D.int (((h + 1 : Nat) : Int) - 1) = .int (h : Int) := by rw [show ((h + 1 : Nat) : Int) - 1 = h by omega]
  refine eb_cons (es_set 3 sc_law_slide_right.nd rfl (.inl rfl) (Ev.use (ed_callB (id := "repr") (ds := [_]) (by rfl) T.n_repr bt_repr (ed_acons (ed_lst (ds := [_, _]) (ed_acons (ed_var 0 rfl (Or.inl rfl) rfl) (ed_acons (ed_var 1 rfl (Or.inl rfl) rfl) ed_anil)) rfl (Nat.le_of_ble_eq_true rfl)) ed_anil) rfl (by walk_at "cd")) ⟨Nat.le_of_ble_eq_true rfl, ?_⟩))
  refine eb_cons (es_set 4 sc_law_slide_right.nd rfl (.inl rfl) (Ev.use (ed_clG (tupD (slidL ms rows h)) q_law_slid hgd hr (by rfl) (i := (ms, rows, h)) (ds := [_, _, _]) (ed_acons (ed_var 0 rfl (Or.inl rfl) rfl) (ed_acons (ed_var 1 rfl (Or.inl rfl) rfl) (ed_acons (Ev.is (ed_bin (ed_var 2 rfl (Or.inl rfl) rfl) ed_int (by walk_at "Sub")) (congrArg OD.fz (hh1))) ed_anil))) rfl rfl (by walk_at "pre") (fun _ _ h => dat_pc h)) ⟨Nat.le_of_ble_eq_true rfl, ?_⟩))
  refine eb_cons (es_set 5 sc_law_slide_right.nd rfl (.inl rfl) (ev_lstE (eo_cons (ev_clD q1 hgd hr (by rfl) (i := (ms, rows, h)) (ds := [_, _, _]) (ed_acons (ed_var 0 rfl (Or.inl rfl) rfl) (ed_acons (ed_var 1 rfl (Or.inl rfl) rfl) (ed_acons (ed_var 2 rfl (Or.inl rfl) rfl) ed_anil))) rfl rfl hph fun y1 xs1 ho1 => ?w1))))
  case w1 =>
    refine eo_cons (Ev.use (ed_clKG (tupD (slidL ms rows h)) q_slide hgd hr (by rfl) [2, 1, 0] kw_slide (by decide) (i := (ms, rows, h)) (ds := [_, _, _]) (ed_kcons (ed_var 2 rfl (Or.inl rfl) rfl) (ed_kcons (ed_var 1 rfl (Or.inl rfl) rfl) (ed_kcons (ed_var 0 rfl (Or.inl rfl) rfl) ed_knil))) rfl rfl rfl (by walk_at "pre") (fun _ _ h => dat_pc h)) (eo_nil ⟨Nat.le_of_ble_eq_true rfl, fun t => ⟨Nat.le_of_ble_eq_true rfl, ?_⟩⟩))
    have ho1 : pcC (slidL ms rows h) y1 := ho1
    have hd1 := dat_pc ho1
    rw [hS] at ho1 hd1 ⊢
    obtain ⟨p, a, b, xs, rfl, hR⟩ := ho1
    have hR : RowsOD xs rows2 := hR
    have hdat : dat (.own t [.otp p [ol a (ms2.map .int), .own b xs, .fz (.int ((k2 + 1 : Nat) : Int))], .fz (tupD (ms2, rows2, k2))]) = .lst [tupD (ms2, rows2, k2), tupD (ms2, rows2, k2)] := by
      rw [dat_own2, hd1, dat_fzd]
    refine eb_cons (es_ifF (et_look (Et.use (ed_W (ed_orW (ed_cmpT (ed_callB (id := "repr") (ds := [_]) (by rfl) T.n_repr bt_repr (ed_acons (Ev.is (ed_var 5 rfl (Or.inl rfl) rfl) (congrArg OD.fz (hdat))) ed_anil) rfl (by walk_at "cd")) (ed_callB (id := "repr") (ds := [_]) (by rfl) T.n_repr bt_repr (ed_acons (ed_lst (ds := [_, _]) (ed_acons (ed_var 4 rfl (Or.inl rfl) rfl) (ed_acons (ed_var 4 rfl (Or.inl rfl) rfl) ed_anil)) rfl (Nat.le_of_ble_eq_true rfl)) ed_anil) rfl (by walk_at "cd")) (by walk_at "NotEq")) (fun h => (ed_or1 (ed_cmpT (ed_callB (id := "repr") (ds := [_]) (by rfl) T.n_repr bt_repr (ed_acons (ed_lst (ds := [_, _]) (ed_acons (ed_var 0 rfl (Or.inl rfl) rfl) (ed_acons (ed_var 1 rfl (Or.inl rfl) rfl) ed_anil)) rfl (Nat.le_of_ble_eq_true rfl)) ed_anil) rfl (by walk_at "cd")) (ed_var 3 rfl (Or.inl rfl) rfl) (by walk_at "NotEq")))))) ⟨rfl, rfl, rfl⟩)) (by simp [dat_fzd]) (eb_nil ?_))
    refine eb_cons (es_asg (Ev.use (ed_itemF 5 (n := 1) (sub_name 5 rfl (Or.inl rfl) rfl) rfl .top ed_int rfl rfl) (eg_tup rfl (egs_cons (eg_name 6 sc_law_slide_right.nd rfl (.inl rfl) (Nat.le_of_ble_eq_true rfl) (egs_cons (eg_name 7 sc_law_slide_right.nd rfl (.inl rfl) (Nat.le_of_ble_eq_true rfl) (egs_cons (eg_name 8 sc_law_slide_right.nd rfl (.inl rfl) (Nat.le_of_ble_eq_true rfl) (egs_nil ?_))))))) rfl)))
    have hq2 : MsOk ms2 ∧ RowsOk ms2 rows2 := ⟨S.pc.1, S.pc.2.1⟩
    have hq3 : Piece ms2 rows2 ∧ endB ms2 rows2 k2 = true := ⟨S.pc, hend⟩
    have hf2 : rows2.flatten.length ≤ 100000 := by have := flat_le S.pc.1 S.pc.2.1; omega
    have hf1 : rows.flatten.length ≤ 100000 := by have := flat_le hpc.1 hpc.2.1; omega
    have hgood : goodB ms2 rows2 = true := S.pc.2.2
    have hsrt := sortI_eq S.perm
    refine eb_cons (es_ifF (ed_W (ed_orW (ed_notT (ed_valT (ed_clF q2 hgd hr (by rfl) (i := (ms2, rows2)) (ds := [_, _]) (ed_acons (ed_var 6 rfl (Or.inl rfl) rfl) (ed_acons (ed_var 7 rfl (Or.inl rfl) rfl) ed_anil)) rfl rfl (by walk_at "pre") (by walk_at "out")))) (fun h => (ed_or1 (ed_cmpT (ed_callB (id := "sorted") (ds := [_]) (by rfl) T.n_sorted bt_sorted (ed_acons (ed_callB (id := "sum") (ds := [_, _]) (by rfl) T.n_sum bt_sum (ed_acons (ed_var 7 rfl (Or.inl rfl) rfl) (ed_acons (ed_lst (ds := []) ed_anil rfl (Nat.le_of_ble_eq_true rfl)) ed_anil)) rfl (by walk_at "cd")) ed_anil) rfl (by walk_at "cd")) (ed_callB (id := "sorted") (ds := [_]) (by rfl) T.n_sorted bt_sorted (ed_acons (ed_callB (id := "sum") (ds := [_, _]) (by rfl) T.n_sum bt_sum (ed_acons (ed_var 1 rfl (Or.inl rfl) rfl) (ed_acons (ed_lst (ds := []) ed_anil rfl (Nat.le_of_ble_eq_true rfl)) ed_anil)) rfl (by walk_at "cd")) ed_anil) rfl (by walk_at "cd")) (by walk_at "NotEq")))))) (by simp [hgood, hsrt]) (eb_nil ?_))
    have hinvD : tupD (slidB ms2 rows2 k2) = tupD (ms, rows, h) := by rw [hinv]
    have r4' : Rpr (.tup [LI ms, LL rows, .int ((h + 1 : Nat) : Int)]) := r4
    refine eb_cons (es_ifF (ed_cmpT (ed_callB (id := "repr") (ds := [_]) (by rfl) T.n_repr bt_repr (ed_acons (Ev.is (ed_clG (tupD (slidB ms2 rows2 k2)) q3 hgd hr (by rfl) (i := (ms2, rows2, k2)) (ds := [_, _, _]) (ed_acons (ed_var 6 rfl (Or.inl rfl) rfl) (ed_acons (ed_var 7 rfl (Or.inl rfl) rfl) (ed_acons (ed_var 8 rfl (Or.inl rfl) rfl) ed_anil))) rfl rfl (by walk_at "pre") (fun _ _ h => dat_pc h)) (congrArg OD.fz (hinvD))) ed_anil) rfl (by walk_at "cd")) (ed_callB (id := "repr") (ds := [_]) (by rfl) T.n_repr bt_repr (ed_acons (ed_tup (ds := [_, _, _]) (ed_acons (ed_var 0 rfl (Or.inl rfl) rfl) (ed_acons (ed_var 1 rfl (Or.inl rfl) rfl) (ed_acons (ed_var 2 rfl (Or.inl rfl) rfl) ed_anil))) rfl (Nat.le_of_ble_eq_true rfl)) ed_anil) rfl (by walk_at "cd")) (by walk_at "NotEq")) (by simp [tupD]) (eb_nil ?_))
    obtain ⟨as, hA⟩ := (rowsDD_iff.mpr hR).addrs
    have hal : as.length = (toD rows2).length := hA.la
    refine eb_cons (es_forS (as := as) PassesOwn.never rfl 5 (sub_evN 2 (ed_ix (ed_ix (ed_var 5 rfl (Or.inl rfl) rfl) ed_int (by walk_at "ix")) ed_int (by walk_at "ix"))) (fun j δ' => ∃ (xs' : List OD) (g : Option Vl.D), RowsA as xs' (apR .non (toD rows2) j) ∧ δ' = [some (.fz (LI ms)), some (.fz (LL rows)), some (.fz (.int ((h + 1 : Nat) : Int))), some (.fz (.str (rp (.lst [LI ms, LL rows])))), some (.fz (tupD (ms2, rows2, k2))), some (.own t [.otp p [ol a (ms2.map .int), .own b xs', .fz (.int ((k2 + 1 : Nat) : Int))], .fz (tupD (ms2, rows2, k2))]), some (.fz (LI ms2)), some (.fz (LL rows2)), some (.fz (.int ((k2 + 1 : Nat) : Int))), g.map .fz]) ⟨xs, none, hA, rfl⟩ ?hI ?st ?dn)
    case hI =>
      intro j δ' ⟨xs', g, hA', e⟩
      subst e
      exact ⟨_, _, _, rfl, .into (n := 0) rfl (.intoT (n := 1) rfl .top), hA'.hd⟩
    case st =>
      intro j hj δ1 ⟨xs', g, hA', e⟩
      subst e
      refine (eg_name 9 sc_law_slide_right.nd rfl (.inl rfl) (Nat.le_of_ble_eq_true rfl) ?_)
      have hj2 : j < (toD rows2).length := by omega
      have hrow : ((apR .non (toD rows2) j).getD j []).length ≤ 1000 := by
        rw [apR_at hj2, toD_row, List.length_map]
        have := RowsOk.r8 S.pc.1 S.pc.2.1 j
        unfold rN at this
        omega
      refine eb_one (es_appA 5 (sub_ev (ed_var 9 rfl (Or.inl rfl) rfl)) rfl (.into (n := 0) rfl (.intoT (n := 1) rfl (.into (n := j) (hA'.at' j hj) .top))) (by rw [List.length_map]; omega) (Ev.use ed_non ⟨rfl, ?_⟩))
      exact ⟨_, some (.op (.ref as[j])), by rw [← apR_succ hj2]; exact hA'.app hj .non, rfl⟩
    case dn =>
      intro δ' ⟨xs', g, hA', e⟩
      subst e
      rw [hal] at hA'
      have hd2 : dat (.own t [.otp p [ol a (ms2.map .int), .own b xs', .fz (.int ((k2 + 1 : Nat) : Int))], .fz (tupD (ms2, rows2, k2))]) = .lst [.tup [LI ms2, .lst ((apR .non (toD rows2) (toD rows2).length).map .lst), .int ((k2 + 1 : Nat) : Int)], tupD (ms2, rows2, k2)] := by
        rw [dat_own2, dat_otp3, dat_ol, hA'.dd.dat, dat_fzd, dat_fzd]
        rfl
      have hnil : Vl.D.lst _ = LI [] := congrArg Vl.D.lst (none_left (rows := rows2))
      have hsc := all_none (rows := rows2)
      have hRl : (apR .non (toD rows2) (toD rows2).length).length ≤ 100000 := by rw [apR_len, toD_len, S.len]; omega
      refine eb_cons (es_ifF (et_look (Et.use (ed_cmpT (Ev.is (ed_lcNFc (xs := apR .non (toD rows2) (toD rows2).length) (g := Vl.D.lst) (h := Vl.D.lst) (t := fun ds => !decide (((ds.countP fun x => eqV (scV x) (scV .non) : Nat) : Int) = 1)) 9 rfl sc_law_slide_right.nd (blkOk_by (own := [("line", 9)]) (N := ["gone", "lines", "high", "before", "due", "told", "less", "now", "short", "line"]) (sc := defScope s_law_slide_right) (by decide +kernel)) (Nat.le_of_ble_eq_true rfl) (by first | exact Or.inl rfl | exact Or.inr rfl) (ei_list (Ev.use (ed_ix (ed_ix (Ev.is (ed_var 5 rfl (Or.inl rfl) rfl) (congrArg OD.fz (hd2))) ed_int (by walk_at "ix")) ed_int (by walk_at "ix")) ⟨_, rfl, rfl, rfl⟩)) (by walk_at "len") (by walk_at "hw") (fun z hz Y hY => by obtain ⟨sB, HB, CB, clB, fpB, rfl⟩ := hY; exact (ed_cmpT (ed_count (ed_var 9 rfl (by first | exact Or.inl rfl | exact Or.inr (Or.inl rfl) | exact Or.inr (Or.inr rfl)) rfl) ed_non (by walk_at "scl") rfl) ed_int (by walk_at "NotEq"))) (fun z hz ht Y hY => by obtain ⟨sB, HB, CB, clB, fpB, rfl⟩ := hY; exact (ed_var 9 rfl (by first | exact Or.inl rfl | exact Or.inr (Or.inl rfl) | exact Or.inr (Or.inr rfl)) rfl))) (congrArg OD.fz (hnil))) (ed_LI (ns := []) ed_anil rfl (Nat.le_of_ble_eq_true rfl)) (by walk_at "NotEq")) ⟨rfl, rfl, rfl⟩)) (by simp) (eb_nil ?_))
      have hm8 : ms2.length ≤ 8 := S.pc.1.2.1
      refine eb_cons (es_appA 5 (sub_evN 2 (ed_ix (ed_ix (ed_var 5 rfl (Or.inl rfl) rfl) ed_int (by walk_at "ix")) ed_int (by walk_at "ix"))) rfl (.into (n := 0) rfl (.intoT (n := 0) rfl .top)) (by rw [List.length_map, List.length_map]; omega) (Ev.use ed_non ⟨rfl, ?_⟩))
      refine eb_cons (es_appA 5 (sub_evN 2 (ed_ix (ed_ix (ed_var 5 rfl (Or.inl rfl) rfl) ed_int (by walk_at "ix")) ed_int (by walk_at "ix"))) rfl (.into (n := 0) rfl (.intoT (n := 1) rfl .top)) (by rw [hA'.lx, apR_len, toD_len, S.len]; omega) (Ev.use ed_non ⟨rfl, ?_⟩))
      have hSD : tupD (slidL ms rows h) = tupD (ms2, rows2, k2) := by rw [hS]
      refine eb_one (es_ret (Ev.use (ed_and (ed_cmp (ed_callB (id := "repr") (ds := [_]) (by rfl) T.n_repr bt_repr (ed_acons (Ev.is (ed_clG (tupD (slidL ms rows h)) q1 hgd hr (by rfl) (i := (ms, rows, h)) (ds := [_, _, _]) (ed_acons (ed_var 0 rfl (Or.inl rfl) rfl) (ed_acons (ed_var 1 rfl (Or.inl rfl) rfl) (ed_acons (ed_var 2 rfl (Or.inl rfl) rfl) ed_anil))) rfl rfl (by walk_at "pre") (fun _ _ h => dat_pc h)) (congrArg OD.fz (hSD))) ed_anil) rfl (by walk_at "cd")) (ed_callB (id := "repr") (ds := [_]) (by rfl) T.n_repr bt_repr (ed_acons (ed_var 4 rfl (Or.inl rfl) rfl) ed_anil) rfl (by walk_at "cd")) (by walk_at "Eq")) (fun h => (ed_one (ed_cmp (ed_callB (id := "repr") (ds := [_]) (by rfl) T.n_repr bt_repr (ed_acons (ed_lst (ds := [_, _]) (ed_acons (ed_var 0 rfl (Or.inl rfl) rfl) (ed_acons (ed_var 1 rfl (Or.inl rfl) rfl) ed_anil)) rfl (Nat.le_of_ble_eq_true rfl)) ed_anil) rfl (by walk_at "cd")) (ed_var 3 rfl (Or.inl rfl) rfl) (by walk_at "Eq"))))) ?_))
      exact ⟨_, keep_fz rfl, by show OD.fz (.bl _) = OD.fz (.bl true); simp⟩

end Hs

set_option exponentiation.threshold 2000
namespace Hs
open PySem PySem.Spec PyProof.Rows L2 Vl
variable {P : Program} {w : World} {K : PySem.W.Frag} {mg : Str → Option Value} {base : Heap}
--def _law_back_right
theorem dat_own2f {t : Addr} {x : OD} {d : Vl.D} : dat (.own t [x, .fz d]) = .lst [dat x, d] := by rw [dat_own2, dat_fzd]
theorem sum_set1 : ∀ {ms : List Int} {k : Nat}, k < ms.length → (ms.set k (ms.getD k 0 + 1)).sum = ms.sum + 1
  | [], _, h => by simp at h
  | x :: ms, 0, _ => by
    rw [List.set_cons_zero, List.sum_cons, List.sum_cons]
    show x + 1 + _ = _
    omega
  | x :: ms, k + 1, h => by
    rw [List.set_cons_succ, List.sum_cons, List.sum_cons]
    have := sum_set1 (ms := ms) (k := k) (by simpa using h)
    show x + (ms.set k (ms.getD k 0 + 1)).sum = _
    omega
def c_back_right : Con := ⟨List Int × List (List Int) × Nat, fun i => [.fz (LI i.1), .fz (LL i.2.1), .fz (.int ((i.2.2 + 1 : Nat) : Int))], fun i => (Piece i.1 i.2.1 ∧ endB i.1 i.2.1 i.2.2 = true) ∧ Sml i.2.1, fun _ x _ => x = .fz (.bl true)⟩
theorem t_law_back_right {k : Nat} (T : Txt mg) (D : Def K mg "_law_back_right" s_law_back_right ["gone", "lines", "high"]) (q_slide_back : ClS P w K mg base k "slide_back" s_slide_back ["missing", "rows", "row"] c_slide_back) (q_is_sorted : ClS P w K mg base k "is_sorted" s_is_sorted ["missing", "rows"] c_is_sorted) (q_holes : ClS P w K mg base k "holes" s_holes ["missing"] c_holes) (q_slide : ClS P w K mg base k "slide" s_slide ["missing", "rows", "row"] c_slide) : Cl P w K mg base (k + 1) "_law_back_right" ["gone", "lines", "high"] c_back_right := by
  refine D.cl sc_law_back_right (fun _ => rfl) fun f cdv A outer s H E ⟨ms, rows, h⟩ hgd hr hp => ?_
  show Eb _ (defBody s_law_back_right) [some (.fz (LI ms)), some (.fz (LL rows)), some (.fz (.int ((h + 1 : Nat) : Int))), none, none, none, none, none, none, none] _
  obtain ⟨⟨hpc, hh⟩, hsm⟩ : (Piece ms rows ∧ endB ms rows h = true) ∧ Sml rows := hp
  have hph : Piece ms rows ∧ endB ms rows h = true := ⟨hpc, hh⟩
  have hl8 : ms.length ≤ 8 := hpc.1.2.1
  have hrl : rows.length = ms.length := hpc.2.1.1
  obtain ⟨ms2, rows2, k2, hS, S⟩ := slidB_ok hpc hh
  have hsm2 : Sml rows2 := hsm.perm S.perm
  have hk2 : k2 < 100 := by have := S.kl; have := S.pc.2.1.1; have := S.pc.1.2.1; omega
  have hinv := back_slide_inv hpc hh hS
  obtain ⟨x1, x2, x3, x4, x5, x6, x7⟩ := ext_same (h := h) hpc
  obtain ⟨y1, y2, y3⟩ := ext_len hpc hh
  have hl2 : ms2.length = (extL ms rows h).1.length := by rw [S.ems, List.length_set]
  have hkl : k2 < (extL ms rows h).1.length := by have := S.kl; have := S.pc.2.1.1; omega
  have hpx : Piece (extL ms rows h).1 (extL ms rows h).2 ∧ h < 100 ∧ Sml (extL ms rows h).2 := by
    obtain ⟨m3, r3, k3, e3, S3⟩ := slidL_ok S.pc S.hole
    rw [hinv] at e3
    injection e3 with e4 e5
    injection e5 with e5 e6
    have := S3.kl
    subst e4 e5 e6
    exact ⟨S3.pc, by omega, hsm2.perm S3.perm⟩
  have hsum : ms2.sum = ms.sum + 1 := by
    rw [S.ems, sum_set1 hkl]
    unfold extL
    split
    · rfl
    · show (ms ++ [0]).sum + 1 = _
      rw [List.sum_append]
      simp
  have hmem : ((k2 + 1 : Nat) : Int) ∈ holesL ms2 := mem_up1.mpr ⟨k2, by omega, S.hole, rfl⟩
  have hmem' : (k2 : Int) + 1 ∈ holesL ms2 := hmem
  have q1 := q_slide_back.cl
  have q2 := q_is_sorted.cl
  have q3 := q_slide.cl
  have q4 := q_holes.cl
  have r1 := rpr_pc hpc hsm
  obtain ⟨r2, r3⟩ := rpr_tup S.pc hsm2 hk2
  obtain ⟨r4, r5⟩ := rpr_tup (k := h) hpx.1 hpx.2.2 hpx.2.1
  refine eb_cons (es_set 3 sc_law_back_right.nd rfl (.inl rfl) (Ev.use (ed_callB (id := "repr") (ds := [_]) (by rfl) T.n_repr bt_repr (ed_acons (ed_lst (ds := [_, _]) (ed_acons (ed_var 0 rfl (Or.inl rfl) rfl) (ed_acons (ed_var 1 rfl (Or.inl rfl) rfl) ed_anil)) rfl (Nat.le_of_ble_eq_true rfl)) ed_anil) rfl (by walk_at "cd")) ⟨Nat.le_of_ble_eq_true rfl, ?_⟩))
  refine eb_cons (es_set 4 sc_law_back_right.nd rfl (.inl rfl) (ev_lstE (eo_cons (ev_clD q1 hgd hr (by rfl) (i := (ms, rows, h)) (ds := [_, _, _]) (ed_acons (ed_var 0 rfl (Or.inl rfl) rfl) (ed_acons (ed_var 1 rfl (Or.inl rfl) rfl) (ed_acons (ed_var 2 rfl (Or.inl rfl) rfl) ed_anil))) rfl rfl hph fun y1 xs1 ho1 => ?w1))))
  case w1 =>
    refine eo_cons (Ev.use (ed_clKG (tupD (slidB ms rows h)) q_slide_back hgd hr (by rfl) [2, 1, 0] kw_slide_back (by decide) (i := (ms, rows, h)) (ds := [_, _, _]) (ed_kcons (ed_var 2 rfl (Or.inl rfl) rfl) (ed_kcons (ed_var 1 rfl (Or.inl rfl) rfl) (ed_kcons (ed_var 0 rfl (Or.inl rfl) rfl) ed_knil))) rfl rfl rfl (by walk_at "pre") (fun _ _ h => dat_pc h)) (eo_nil ⟨Nat.le_of_ble_eq_true rfl, fun t => ⟨Nat.le_of_ble_eq_true rfl, ?_⟩⟩))
    have ho1 : pcC (slidB ms rows h) y1 := ho1
    have hd1 := dat_pc ho1
    rw [hS] at ho1 hd1 ⊢
    obtain ⟨p, a, b, xs, rfl, hR⟩ := ho1
    have hR : RowsOD xs rows2 := hR
    have hdat : dat (.own t [.otp p [ol a (ms2.map .int), .own b xs, .fz (.int ((k2 + 1 : Nat) : Int))], .fz (tupD (ms2, rows2, k2))]) = .lst [tupD (ms2, rows2, k2), tupD (ms2, rows2, k2)] := by
      rw [dat_own2, hd1, dat_fzd]
    refine eb_cons (es_ifF (et_look (Et.use (ed_W (ed_orW (ed_cmpT (ed_callB (id := "repr") (ds := [_]) (by rfl) T.n_repr bt_repr (ed_acons (ed_ix (Ev.is (ed_var 4 rfl (Or.inl rfl) rfl) (congrArg OD.fz (hdat))) ed_int (by walk_at "ix")) ed_anil) rfl (by walk_at "cd")) (ed_callB (id := "repr") (ds := [_]) (by rfl) T.n_repr bt_repr (ed_acons (ed_ix (Ev.is (ed_var 4 rfl (Or.inl rfl) rfl) (congrArg OD.fz (hdat))) ed_int (by walk_at "ix")) ed_anil) rfl (by walk_at "cd")) (by walk_at "NotEq")) (fun h => (ed_or1 (ed_cmpT (ed_callB (id := "repr") (ds := [_]) (by rfl) T.n_repr bt_repr (ed_acons (ed_lst (ds := [_, _]) (ed_acons (ed_var 0 rfl (Or.inl rfl) rfl) (ed_acons (ed_var 1 rfl (Or.inl rfl) rfl) ed_anil)) rfl (Nat.le_of_ble_eq_true rfl)) ed_anil) rfl (by walk_at "cd")) (ed_var 3 rfl (Or.inl rfl) rfl) (by walk_at "NotEq")))))) ⟨rfl, rfl, rfl⟩)) (by simp [dat_fzd]) (eb_nil ?_))
    refine eb_cons (es_asg (Ev.use (ed_itemF 4 (n := 1) (sub_name 4 rfl (Or.inl rfl) rfl) rfl .top ed_int rfl rfl) (eg_tup rfl (egs_cons (eg_name 5 sc_law_back_right.nd rfl (.inl rfl) (Nat.le_of_ble_eq_true rfl) (egs_cons (eg_name 6 sc_law_back_right.nd rfl (.inl rfl) (Nat.le_of_ble_eq_true rfl) (egs_cons (eg_name 7 sc_law_back_right.nd rfl (.inl rfl) (Nat.le_of_ble_eq_true rfl) (egs_nil ?_))))))) rfl)))
    have hq2 : MsOk ms2 ∧ RowsOk ms2 rows2 := ⟨S.pc.1, S.pc.2.1⟩
    have hq3 : Piece ms2 rows2 ∧ holeB ms2 k2 = true := ⟨S.pc, S.hole⟩
    have hq4 : MsOk ms2 := S.pc.1
    have hgood : goodB ms2 rows2 = true := S.pc.2.2
    refine eb_cons (es_ifF (ed_W (ed_orW (ed_notT (ed_valT (ed_clF q2 hgd hr (by rfl) (i := (ms2, rows2)) (ds := [_, _]) (ed_acons (ed_var 5 rfl (Or.inl rfl) rfl) (ed_acons (ed_var 6 rfl (Or.inl rfl) rfl) ed_anil)) rfl rfl (by walk_at "pre") (by walk_at "out")))) (fun h => (ed_orW (ed_cmpT (ed_callB (id := "sum") (ds := [_]) (by rfl) T.n_sum bt_sum (ed_acons (ed_var 5 rfl (Or.inl rfl) rfl) ed_anil) rfl (by walk_at "cd")) (ed_bin (ed_callB (id := "sum") (ds := [_]) (by rfl) T.n_sum bt_sum (ed_acons (ed_var 0 rfl (Or.inl rfl) rfl) ed_anil) rfl (by walk_at "cd")) ed_int (by walk_at "Add")) (by walk_at "NotEq")) (fun h => (ed_or1 (ed_cmpT (ed_var 7 rfl (Or.inl rfl) rfl) (ed_clG (LI (holesL ms2)) q4 hgd hr (by rfl) (i := ms2) (ds := [_]) (ed_acons (ed_var 5 rfl (Or.inl rfl) rfl) ed_anil) rfl rfl (by walk_at "pre") (fun _ _ => dat_holes)) (by walk_at "NotIn")))))))) (by simp [hgood, hsum, hmem']) (eb_nil ?_))
    have hz1 : ms.length + ([0] : List Int).length ≤ 100000 := by show _ + 1 ≤ _; omega
    have hz2 : rows.length + ([[]] : List (List Int)).length ≤ 100000 := by show _ + 1 ≤ _; omega
    have hfull : ∀ c : Bool, c = decide (h < rows.length) → (if c = true then Vl.D.tup [LI ms, LL rows] else .tup [LI (ms ++ [0]), LL (rows ++ [[]])]) = .tup [LI (extL ms rows h).1, LL (extL ms rows h).2] := fun c hc => by
      subst hc
      unfold extL
      by_cases q : h < rows.length
      · rw [if_pos q, if_pos (decide_eq_true q)]
      · rw [if_neg q, if_neg (by simpa using q)]
    refine eb_cons (es_set 8 sc_law_back_right.nd rfl (.inl rfl) (Ev.use (Ev.is (ed_ifD (ed_cmpT (ed_var 2 rfl (Or.inl rfl) rfl) (ed_callB (id := "len") (ds := [_]) (by rfl) T.n_len bt_len (ed_acons (ed_var 1 rfl (Or.inl rfl) rfl) ed_anil) rfl (by walk_at "cd")) (by walk_at "LtE")) (fun h => (ed_tup (ds := [_, _]) (ed_acons (ed_var 0 rfl (Or.inl rfl) rfl) (ed_acons (ed_var 1 rfl (Or.inl rfl) rfl) ed_anil)) rfl (Nat.le_of_ble_eq_true rfl))) (fun h => (ed_tup (ds := [_, _]) (ed_acons (ed_bin (ed_var 0 rfl (Or.inl rfl) rfl) (ed_LI (ns := [_]) (ed_acons ed_int ed_anil) rfl (Nat.le_of_ble_eq_true rfl)) (by walk_at "Add")) (ed_acons (ed_bin (ed_var 1 rfl (Or.inl rfl) rfl) (Ev.is (ed_lst (ds := [_]) (ed_acons (ed_lst (ds := []) ed_anil rfl (Nat.le_of_ble_eq_true rfl)) ed_anil) rfl (Nat.le_of_ble_eq_true rfl)) (congrArg OD.fz (rfl : Vl.D.lst [Vl.D.lst []] = LL [[]]))) (add_LL hz2 rfl)) ed_anil)) rfl (Nat.le_of_ble_eq_true rfl)))) (congrArg OD.fz (hfull _ (decide_eq_decide.mpr (by omega))))) ⟨Nat.le_of_ble_eq_true rfl, ?_⟩))
    have hinvD : tupD (slidL ms2 rows2 k2) = tupD ((extL ms rows h).1, (extL ms rows h).2, h) := by rw [hinv]
    have r4' : Rpr (.tup [LI (extL ms rows h).1, LL (extL ms rows h).2, .int ((h + 1 : Nat) : Int)]) := r4
    refine eb_cons (es_ifF (ed_cmpT (ed_callB (id := "repr") (ds := [_]) (by rfl) T.n_repr bt_repr (ed_acons (Ev.is (ed_clG (tupD (slidL ms2 rows2 k2)) q3 hgd hr (by rfl) (i := (ms2, rows2, k2)) (ds := [_, _, _]) (ed_acons (ed_var 5 rfl (Or.inl rfl) rfl) (ed_acons (ed_var 6 rfl (Or.inl rfl) rfl) (ed_acons (ed_var 7 rfl (Or.inl rfl) rfl) ed_anil))) rfl rfl (by walk_at "pre") (fun _ _ h => dat_pc h)) (congrArg OD.fz (hinvD))) ed_anil) rfl (by walk_at "cd")) (ed_callB (id := "repr") (ds := [_]) (by rfl) T.n_repr bt_repr (ed_acons (ed_tup (ds := [_, _, _]) (ed_acons (ed_ix (ed_var 8 rfl (Or.inl rfl) rfl) ed_int (by walk_at "ix")) (ed_acons (ed_ix (ed_var 8 rfl (Or.inl rfl) rfl) ed_int (by walk_at "ix")) (ed_acons (ed_var 2 rfl (Or.inl rfl) rfl) ed_anil))) rfl (Nat.le_of_ble_eq_true rfl)) ed_anil) rfl (by walk_at "cd")) (by walk_at "NotEq")) (by simp [tupD]) (eb_nil ?_))
    generalize hfu : OD.fz (Vl.D.tup [LI (extL ms rows h).1, LL (extL ms rows h).2]) = fu
    obtain ⟨as, hA⟩ := (rowsDD_iff.mpr hR).addrs
    have hal : as.length = (toD rows2).length := hA.la
    refine eb_cons (es_forS (as := as) PassesOwn.never rfl 4 (sub_evN 2 (ed_ix (ed_ix (ed_var 4 rfl (Or.inl rfl) rfl) ed_int (by walk_at "ix")) ed_int (by walk_at "ix"))) (fun j δ' => ∃ (xs' : List OD) (g : Option Vl.D), RowsA as xs' (apR .non (toD rows2) j) ∧ δ' = [some (.fz (LI ms)), some (.fz (LL rows)), some (.fz (.int ((h + 1 : Nat) : Int))), some (.fz (.str (rp (.lst [LI ms, LL rows])))), some (.own t [.otp p [ol a (ms2.map .int), .own b xs', .fz (.int ((k2 + 1 : Nat) : Int))], .fz (tupD (ms2, rows2, k2))]), some (.fz (LI ms2)), some (.fz (LL rows2)), some (.fz (.int ((k2 + 1 : Nat) : Int))), some fu, g.map .fz]) ⟨xs, none, hA, rfl⟩ ?hI ?st ?dn)
    case hI =>
      intro j δ' ⟨xs', g, hA', e⟩
      subst e
      exact ⟨_, _, _, rfl, .into (n := 0) rfl (.intoT (n := 1) rfl .top), hA'.hd⟩
    case st =>
      intro j hj δ1 ⟨xs', g, hA', e⟩
      subst e
      refine (eg_name 9 sc_law_back_right.nd rfl (.inl rfl) (Nat.le_of_ble_eq_true rfl) ?_)
      have hj2 : j < (toD rows2).length := by omega
      have hrow : ((apR .non (toD rows2) j).getD j []).length ≤ 1000 := by
        rw [apR_at hj2, toD_row, List.length_map]
        have := RowsOk.r8 S.pc.1 S.pc.2.1 j
        unfold rN at this
        omega
      refine eb_one (es_appA 4 (sub_ev (ed_var 9 rfl (Or.inl rfl) rfl)) rfl (.into (n := 0) rfl (.intoT (n := 1) rfl (.into (n := j) (hA'.at' j hj) .top))) (by rw [List.length_map]; omega) (Ev.use ed_non ⟨rfl, ?_⟩))
      exact ⟨_, some (.op (.ref as[j])), by rw [← apR_succ hj2]; exact hA'.app hj .non, rfl⟩
    case dn =>
      intro δ' ⟨xs', g, hA', e⟩
      subst e
      rw [hal] at hA'
      have hd2 : dat (.own t [.otp p [ol a (ms2.map .int), .own b xs', .fz (.int ((k2 + 1 : Nat) : Int))], .fz (tupD (ms2, rows2, k2))]) = .lst [.tup [LI ms2, .lst ((apR .non (toD rows2) (toD rows2).length).map .lst), .int ((k2 + 1 : Nat) : Int)], tupD (ms2, rows2, k2)] := by
        rw [dat_own2, dat_otp3, dat_ol, hA'.dd.dat, dat_fzd, dat_fzd]
        rfl
      have hnil : Vl.D.lst _ = LI [] := congrArg Vl.D.lst (none_left (rows := rows2))
      have hsc := all_none (rows := rows2)
      have hm8 : ms2.length ≤ 8 := S.pc.1.2.1
      have hr8 : rows2.length = ms2.length := S.pc.2.1.1
      have hRl : (apR .non (toD rows2) (toD rows2).length).length ≤ 100000 := by rw [apR_len, toD_len]; omega
      refine eb_cons (es_ifF (et_look (Et.use (ed_cmpT (Ev.is (ed_lcNFc (xs := apR .non (toD rows2) (toD rows2).length) (g := Vl.D.lst) (h := Vl.D.lst) (t := fun ds => !decide (((ds.countP fun x => eqV (scV x) (scV .non) : Nat) : Int) = 1)) 9 rfl sc_law_back_right.nd (blkOk_by (own := [("line", 9)]) (N := ["gone", "lines", "high", "before", "told", "less", "now", "more", "full", "line"]) (sc := defScope s_law_back_right) (by decide +kernel)) (Nat.le_of_ble_eq_true rfl) (by first | exact Or.inl rfl | exact Or.inr rfl) (ei_list (Ev.use (ed_ix (ed_ix (Ev.is (ed_var 4 rfl (Or.inl rfl) rfl) (congrArg OD.fz (hd2))) ed_int (by walk_at "ix")) ed_int (by walk_at "ix")) ⟨_, rfl, rfl, rfl⟩)) (by walk_at "len") (by walk_at "hw") (fun z hz Y hY => by obtain ⟨sB, HB, CB, clB, fpB, rfl⟩ := hY; exact (ed_cmpT (ed_count (ed_var 9 rfl (by first | exact Or.inl rfl | exact Or.inr (Or.inl rfl) | exact Or.inr (Or.inr rfl)) rfl) ed_non (by walk_at "scl") rfl) ed_int (by walk_at "NotEq"))) (fun z hz ht Y hY => by obtain ⟨sB, HB, CB, clB, fpB, rfl⟩ := hY; exact (ed_var 9 rfl (by first | exact Or.inl rfl | exact Or.inr (Or.inl rfl) | exact Or.inr (Or.inr rfl)) rfl))) (congrArg OD.fz (hnil))) (ed_LI (ns := []) ed_anil rfl (Nat.le_of_ble_eq_true rfl)) (by walk_at "NotEq")) ⟨rfl, rfl, rfl⟩)) (by simp) (eb_nil ?_))
      refine eb_cons (es_appA 4 (sub_evN 2 (ed_ix (ed_ix (ed_var 4 rfl (Or.inl rfl) rfl) ed_int (by walk_at "ix")) ed_int (by walk_at "ix"))) rfl (.into (n := 0) rfl (.intoT (n := 0) rfl .top)) (by rw [List.length_map, List.length_map]; omega) (Ev.use ed_non ⟨rfl, ?_⟩))
      refine eb_cons (es_appA 4 (sub_evN 2 (ed_ix (ed_ix (ed_var 4 rfl (Or.inl rfl) rfl) ed_int (by walk_at "ix")) ed_int (by walk_at "ix"))) rfl (.into (n := 0) rfl (.intoT (n := 1) rfl .top)) (by rw [hA'.lx, apR_len, toD_len]; omega) (Ev.use ed_non ⟨rfl, ?_⟩))
      have hSD : tupD (slidB ms rows h) = tupD (ms2, rows2, k2) := by rw [hS]
      refine eb_cons (es_ifF (ed_cmpT (ed_callB (id := "repr") (ds := [_]) (by rfl) T.n_repr bt_repr (ed_acons (ed_lst (ds := [_, _]) (ed_acons (ed_var 0 rfl (Or.inl rfl) rfl) (ed_acons (ed_var 1 rfl (Or.inl rfl) rfl) ed_anil)) rfl (Nat.le_of_ble_eq_true rfl)) ed_anil) rfl (by walk_at "cd")) (ed_var 3 rfl (Or.inl rfl) rfl) (by walk_at "NotEq")) (by simp) (eb_nil ?_))
      refine eb_one (es_ret (Ev.use (ed_cmp (ed_callB (id := "repr") (ds := [_]) (by rfl) T.n_repr bt_repr (ed_acons (Ev.is (ed_clG (tupD (slidB ms rows h)) q1 hgd hr (by rfl) (i := (ms, rows, h)) (ds := [_, _, _]) (ed_acons (ed_var 0 rfl (Or.inl rfl) rfl) (ed_acons (ed_var 1 rfl (Or.inl rfl) rfl) (ed_acons (ed_var 2 rfl (Or.inl rfl) rfl) ed_anil))) rfl rfl (by walk_at "pre") (fun _ _ h => dat_pc h)) (congrArg OD.fz (hSD))) ed_anil) rfl (by walk_at "cd")) (ed_look (ed_callB (id := "repr") (ds := [_]) (by rfl) T.n_repr bt_repr (ed_acons (ed_ix (Ev.is (ed_var 4 rfl (Or.inl rfl) rfl) (congrArg OD.fz (dat_own2f))) ed_int (by walk_at "ix")) ed_anil) rfl (by walk_at "cd")) rfl) (by walk_at "Eq")) ?_))
      exact ⟨_, keep_fz rfl, by show OD.fz (.bl _) = OD.fz (.bl true); simp⟩

end Hs

set_option exponentiation.threshold 2000
namespace Hs
open PySem PySem.Spec PyProof.Rows L2 Vl
variable {P : Program} {w : World} {K : PySem.W.Frag} {mg : Str → Option Value} {base : Heap}
--def _law_right
structure PcS (ms : List Int) (rows : List (List Int)) : Prop where
  pc : Piece ms rows
  sm : Sml rows
def c_right : Con := ⟨List Int × List (List Int), fun i => [.fz (LI i.1), .fz (LL i.2)], fun i => PcS i.1 i.2, fun _ x _ => x = .fz (.bl true)⟩
theorem up1_le {n : Nat} {p : Nat → Bool} (hn : n ≤ 9) : (up1 n p).length ≤ 9 ∧ ∀ x ∈ up1 n p, x.natAbs < 2 ^ 1900 := by
  refine ⟨?_, fun x hx => ?_⟩
  · unfold up1
    rw [List.length_map]
    have := List.length_filter_le p (List.range n)
    rw [List.length_range] at this
    omega
  · obtain ⟨i, h1, _, rfl⟩ := mem_up1.mp hx
    rw [Int.natAbs_natCast]
    exact Nat.lt_of_le_of_lt (show i + 1 ≤ 9 by omega) (by decide +kernel)
theorem rpr_he {a b : List Int} (ha : a.length ≤ 9 ∧ ∀ x ∈ a, x.natAbs < 2 ^ 1900) (hb : b.length ≤ 9 ∧ ∀ x ∈ b, x.natAbs < 2 ^ 1900) : Rpr (.lst [LI a, LI b]) ∧ Rpr (.lst [.lst [LI a, LI a], .lst [LI b, LI b]]) := by
  have m1 := meas_LI a
  have m2 := meas_LI b
  have s1 := shw_LI ha.2
  have s2 := shw_LI hb.2
  have l1 := ha.1
  have l2 := hb.1
  have two : ∀ c : List Int, c.length ≤ 9 → Shw (LI c) → Shw (.lst [LI c, LI c]) ∧ dep (.lst [LI c, LI c]) ≤ 5 ∧ blk (.lst [LI c, LI c]) ≤ 50 := fun c hc hs => by
    have m := meas_LI c
    refine ⟨?_, ?_, ?_⟩
    · rw [shw_lst, shws_cons, shws_cons, shws_nil]
      exact ⟨hs, hs, trivial⟩
    · rw [dep_lst, deps_cons, deps_cons, deps_nil, m.2]
      omega
    · rw [blk_lst, blks_cons, blks_cons, blks_nil, m.1]
      omega
  obtain ⟨t1, t2, t3⟩ := two a l1 s1
  obtain ⟨u1, u2, u3⟩ := two b l2 s2
  exact ⟨rpr_two s1 s2 (by omega) (by omega) (by omega), rpr_two t1 u1 (by omega) (by omega) (by omega)⟩
theorem up1_LI {n : Nat} {p : Nat → Bool} : LI (up1 n p) = .lst (((List.range n).filter p).map fun i => Vl.D.int ((i + 1 : Nat) : Int)) := by
  unfold LI up1
  rw [List.map_map]
  rfl
theorem no_left {xs : List Nat} : Vl.D.lst ((xs.filter fun _ => !true).map fun i => Vl.D.int ((i + 1 : Nat) : Int)) = LI [] := by
  rw [show xs.filter (fun _ => !true) = [] from List.filter_eq_nil_iff.mpr fun _ _ => by simp]
  rfl
theorem t_law_right {k : Nat} (T : Txt mg) (D : Def K mg "_law_right" s_law_right ["gone", "lines"]) (q_holes : ClS P w K mg base k "holes" s_holes ["missing"] c_holes) (q_ends : ClS P w K mg base k "ends" s_ends ["missing", "rows"] c_ends) (q_law_holes : Cl P w K mg base k "_law_holes" ["gone"] c_law_holes) (q_law_ends : Cl P w K mg base k "_law_ends" ["gone", "lines"] c_law_ends) (q_law_slide_right : Cl P w K mg base k "_law_slide_right" ["gone", "lines", "high"] c_slide_right) (q_law_back_right : Cl P w K mg base k "_law_back_right" ["gone", "lines", "high"] c_back_right) : Cl P w K mg base (k + 1) "_law_right" ["gone", "lines"] c_right := by
  refine D.cl sc_law_right (fun _ => rfl) fun f cdv A outer s H E ⟨ms, rows⟩ hgd hr hp => ?_
  show Eb _ (defBody s_law_right) [some (.fz (LI ms)), some (.fz (LL rows)), none, none, none, none] _
  obtain ⟨hpc, hsm⟩ : PcS ms rows := hp
  have hm : MsOk ms := hpc.1
  have hen := hpc.en
  have hl8 : ms.length ≤ 8 := hm.2.1
  have hl1000 : ms.length ≤ 1000 := by omega
  have hrl : rows.length = ms.length := hpc.2.1.1
  have uH := up1_le (n := ms.length) (p := holeB ms) (by omega)
  have uE := up1_le (n := rows.length + 1) (p := endB ms rows) (by omega)
  obtain ⟨r1, r2⟩ := rpr_he uH uE
  have r1 : Rpr (.lst [LI (holesL ms), LI (endsL ms rows)]) := r1
  have r2 : Rpr (.lst [.lst [LI (holesL ms), LI (holesL ms)], .lst [LI (endsL ms rows), LI (endsL ms rows)]]) := r2
  have r0 := rpr_pc hpc hsm
  have lH : (holesL ms).length ≤ 9 := uH.1
  have lE : (endsL ms rows).length ≤ 9 := uE.1
  have q1 := q_holes.cl
  have q2 := q_ends.cl
  refine eb_cons (es_set 2 sc_law_right.nd rfl (.inl rfl) (Ev.use (ed_callB (id := "repr") (ds := [_]) (by rfl) T.n_repr bt_repr (ed_acons (ed_lst (ds := [_, _]) (ed_acons (ed_var 0 rfl (Or.inr (Or.inl rfl)) rfl) (ed_acons (ed_var 1 rfl (Or.inr (Or.inl rfl)) rfl) ed_anil)) rfl (Nat.le_of_ble_eq_true rfl)) ed_anil) rfl (by walk_at "cd")) ⟨Nat.le_of_ble_eq_true rfl, ?_⟩))
  refine eb_cons (es_set 3 sc_law_right.nd rfl (.inl rfl) (ev_lstE (eo_cons (ev_clD q1 hgd hr (by rfl) (i := ms) (ds := [_]) (ed_acons (ed_var 0 rfl (Or.inr (Or.inl rfl)) rfl) ed_anil) rfl rfl hm fun y1 xs1 ho1 => ?w1))))
  case w1 =>
    obtain ⟨a1, rfl⟩ : ∃ a, y1 = ol a ((holesL ms).map .int) := ho1
    refine eo_cons (Ev.use (ed_clKG (LI (holesL ms)) q_holes hgd hr (by rfl) [0] kw_holes (by decide) (i := ms) (ds := [_]) (ed_kcons (ed_var 0 rfl (Or.inr (Or.inl rfl)) rfl) ed_knil) rfl rfl rfl (by walk_at "pre") (fun _ _ => dat_holes)) (eo_nil ⟨Nat.le_of_ble_eq_true rfl, fun t1 => ⟨Nat.le_of_ble_eq_true rfl, ?_⟩⟩))
    refine eb_cons (es_set 4 sc_law_right.nd rfl (.inl rfl) (ev_lstE (eo_cons (ev_clD q2 hgd hr (by rfl) (i := (ms, rows)) (ds := [_, _]) (ed_acons (ed_var 0 rfl (Or.inr (Or.inl rfl)) rfl) (ed_acons (ed_var 1 rfl (Or.inr (Or.inl rfl)) rfl) ed_anil)) rfl rfl hpc fun y2 xs2 ho2 => ?w2))))
    case w2 =>
      obtain ⟨a2, rfl⟩ : ∃ a, y2 = ol a ((endsL ms rows).map .int) := ho2
      refine eo_cons (Ev.use (ed_clKG (LI (endsL ms rows)) q_ends hgd hr (by rfl) [1, 0] kw_ends (by decide) (i := (ms, rows)) (ds := [_, _]) (ed_kcons (ed_var 1 rfl (Or.inr (Or.inl rfl)) rfl) (ed_kcons (ed_var 0 rfl (Or.inr (Or.inl rfl)) rfl) ed_knil)) rfl rfl rfl (by walk_at "pre") (fun _ _ => dat_ends)) (eo_nil ⟨Nat.le_of_ble_eq_true rfl, fun t2 => ⟨Nat.le_of_ble_eq_true rfl, ?_⟩⟩))
      have d1 : dat (.own t1 [ol a1 ((holesL ms).map .int), .fz (LI (holesL ms))]) = .lst [LI (holesL ms), LI (holesL ms)] := by rw [dat_own2, dat_ol, dat_fzd]
      have d2 : dat (.own t2 [ol a2 ((endsL ms rows).map .int), .fz (LI (endsL ms rows))]) = .lst [LI (endsL ms rows), LI (endsL ms rows)] := by rw [dat_own2, dat_ol, dat_fzd]
      have m1 : Vl.D.lst (List.replicate (2 : Int).toNat [LI (holesL ms)]).flatten = .lst [LI (holesL ms), LI (holesL ms)] := rfl
      have m2 : Vl.D.lst (List.replicate (2 : Int).toNat [LI (endsL ms rows)]).flatten = .lst [LI (endsL ms rows), LI (endsL ms rows)] := rfl
      refine eb_cons (es_ifF (et_look (Et.use (ed_cmpT (ed_callB (id := "repr") (ds := [_]) (by rfl) T.n_repr bt_repr (ed_acons (ed_lst (ds := [_, _]) (ed_acons (Ev.is (ed_var 3 rfl (Or.inl rfl) rfl) (congrArg OD.fz (d1))) (ed_acons (Ev.is (ed_var 4 rfl (Or.inl rfl) rfl) (congrArg OD.fz (d2))) ed_anil)) rfl (Nat.le_of_ble_eq_true rfl)) ed_anil) rfl (by walk_at "cd")) (ed_callB (id := "repr") (ds := [_]) (by rfl) T.n_repr bt_repr (ed_acons (ed_lst (ds := [_, _]) (ed_acons (Ev.is (ed_bin (ed_lst (ds := [_]) (ed_acons (ed_clG (LI (holesL ms)) q_law_holes hgd hr (by rfl) (i := ms) (ds := [_]) (ed_acons (ed_var 0 rfl (Or.inr (Or.inl rfl)) rfl) ed_anil) rfl rfl (by walk_at "pre") (fun _ _ => dat_law_holes)) ed_anil) rfl (Nat.le_of_ble_eq_true rfl)) ed_int (by walk_at "Mult")) (congrArg OD.fz (m1))) (ed_acons (Ev.is (ed_bin (ed_lst (ds := [_]) (ed_acons (ed_clG (LI (endsL ms rows)) q_law_ends hgd hr (by rfl) (i := (ms, rows)) (ds := [_, _]) (ed_acons (ed_var 0 rfl (Or.inr (Or.inl rfl)) rfl) (ed_acons (ed_var 1 rfl (Or.inr (Or.inl rfl)) rfl) ed_anil)) rfl rfl (by walk_at "pre") (fun _ _ => dat_law_ends)) ed_anil) rfl (Nat.le_of_ble_eq_true rfl)) ed_int (by walk_at "Mult")) (congrArg OD.fz (m2))) ed_anil)) rfl (Nat.le_of_ble_eq_true rfl)) ed_anil) rfl (by walk_at "cd")) (by walk_at "NotEq")) ⟨rfl, rfl, rfl⟩)) (by simp) (eb_nil ?_))
      refine eb_cons (es_appA 3 (sub_at 3 (sub_name 3 rfl (Or.inl rfl) rfl) rfl .top ed_int (n := 0) rfl rfl) rfl (.into (n := 0) rfl .top) (by rw [List.length_map, List.length_map]; omega) (Ev.use ed_non ⟨rfl, ?_⟩))
      refine eb_cons (es_appA 4 (sub_at 4 (sub_name 4 rfl (Or.inl rfl) rfl) rfl .top ed_int (n := 0) rfl rfl) rfl (.into (n := 0) rfl .top) (by rw [List.length_map, List.length_map]; omega) (Ev.use ed_non ⟨rfl, ?_⟩))
      refine eb_cons (es_ifF (ed_cmpT (ed_callB (id := "repr") (ds := [_]) (by rfl) T.n_repr bt_repr (ed_acons (ed_lst (ds := [_, _]) (ed_acons (ed_clG (LI (holesL ms)) q1 hgd hr (by rfl) (i := ms) (ds := [_]) (ed_acons (ed_var 0 rfl (Or.inr (Or.inl rfl)) rfl) ed_anil) rfl rfl (by walk_at "pre") (fun _ _ => dat_holes)) (ed_acons (ed_clG (LI (endsL ms rows)) q2 hgd hr (by rfl) (i := (ms, rows)) (ds := [_, _]) (ed_acons (ed_var 0 rfl (Or.inr (Or.inl rfl)) rfl) (ed_acons (ed_var 1 rfl (Or.inr (Or.inl rfl)) rfl) ed_anil)) rfl rfl (by walk_at "pre") (fun _ _ => dat_ends)) ed_anil)) rfl (Nat.le_of_ble_eq_true rfl)) ed_anil) rfl (by walk_at "cd")) (ed_look (ed_callB (id := "repr") (ds := [_]) (by rfl) T.n_repr bt_repr (ed_acons (ed_lst (ds := [_, _]) (ed_acons (ed_ix (Ev.is (ed_var 3 rfl (Or.inl rfl) rfl) (congrArg OD.fz (dat_own2f))) ed_int (by walk_at "ix")) (ed_acons (ed_ix (Ev.is (ed_var 4 rfl (Or.inl rfl) rfl) (congrArg OD.fz (dat_own2f))) ed_int (by walk_at "ix")) ed_anil)) rfl (Nat.le_of_ble_eq_true rfl)) ed_anil) rfl (by walk_at "cd")) rfl) (by walk_at "NotEq")) (by simp) (eb_nil ?_))
      refine eb_cons (es_ifF (ed_cmpT (ed_callB (id := "repr") (ds := [_]) (by rfl) T.n_repr bt_repr (ed_acons (ed_lst (ds := [_, _]) (ed_acons (ed_var 0 rfl (Or.inr (Or.inl rfl)) rfl) (ed_acons (ed_var 1 rfl (Or.inr (Or.inl rfl)) rfl) ed_anil)) rfl (Nat.le_of_ble_eq_true rfl)) ed_anil) rfl (by walk_at "cd")) (ed_var 2 rfl (Or.inl rfl) rfl) (by walk_at "NotEq")) (by simp) (eb_nil ?_))
      have hzH : ((List.range ms.length).filter (holeB ms)).length ≤ 100000 := by
        have := List.length_filter_le (holeB ms) (List.range ms.length)
        rw [List.length_range] at this
        omega
      have hzE : ((List.range (rows.length + 1)).filter (endB ms rows)).length ≤ 100000 := by
        have := List.length_filter_le (endB ms rows) (List.range (rows.length + 1))
        rw [List.length_range] at this
        omega
      have hpz : ∀ z ∈ (List.range ms.length).filter (holeB ms), (Piece ms rows ∧ holeB ms z = true) ∧ Sml rows := fun z hz => ⟨⟨hpc, (List.mem_filter.mp hz).2⟩, hsm⟩
      refine eb_cons (es_ifF (ed_cmpT (Ev.is (ed_lcNFc (xs := (List.range ms.length).filter (holeB ms)) (g := fun i => Vl.D.int ((i + 1 : Nat) : Int)) (h := fun i => Vl.D.int ((i + 1 : Nat) : Int)) (t := fun _ => !true) 5 rfl sc_law_right.nd (blkOk_by (own := [("high", 5)]) (N := ["gone", "lines", "before", "told", "both", "high"]) (sc := defScope s_law_right) (by decide +kernel)) (Nat.le_of_ble_eq_true rfl) (by first | exact Or.inl rfl | exact Or.inr rfl) (ei_list (Ev.use (Ev.is (ed_itemF 3 (n := 1) (sub_name 3 rfl (Or.inl rfl) rfl) rfl .top ed_int rfl rfl) (congrArg OD.fz (up1_LI))) ⟨_, rfl, rfl, rfl⟩)) (by walk_at "len") (by walk_at "hw") (fun z hz Y hY => by obtain ⟨sB, HB, CB, clB, fpB, rfl⟩ := hY; exact (ed_notT (ed_valT (ed_clF q_law_slide_right hgd hr (by rfl) (i := (ms, rows, z)) (ds := [_, _, _]) (ed_acons (ed_var 0 rfl (by first | exact Or.inl rfl | exact Or.inr (Or.inl rfl) | exact Or.inr (Or.inr rfl)) rfl) (ed_acons (ed_var 1 rfl (by first | exact Or.inl rfl | exact Or.inr (Or.inl rfl) | exact Or.inr (Or.inr rfl)) rfl) (ed_acons (ed_var 5 rfl (by first | exact Or.inl rfl | exact Or.inr (Or.inl rfl) | exact Or.inr (Or.inr rfl)) rfl) ed_anil))) rfl rfl (by walk_at "pre") (by walk_at "out"))))) (fun z hz ht Y hY => by obtain ⟨sB, HB, CB, clB, fpB, rfl⟩ := hY; exact (ed_var 5 rfl (by first | exact Or.inl rfl | exact Or.inr (Or.inl rfl) | exact Or.inr (Or.inr rfl)) rfl))) (congrArg OD.fz (no_left))) (ed_LI (ns := []) ed_anil rfl (Nat.le_of_ble_eq_true rfl)) (by walk_at "NotEq")) (by simp) (eb_nil ?_))
      have hpz : ∀ z ∈ (List.range (rows.length + 1)).filter (endB ms rows), (Piece ms rows ∧ endB ms rows z = true) ∧ Sml rows := fun z hz => ⟨⟨hpc, (List.mem_filter.mp hz).2⟩, hsm⟩
      refine eb_one (es_ret (Ev.use (ed_cmp (Ev.is (ed_lcNFc (xs := (List.range (rows.length + 1)).filter (endB ms rows)) (g := fun i => Vl.D.int ((i + 1 : Nat) : Int)) (h := fun i => Vl.D.int ((i + 1 : Nat) : Int)) (t := fun _ => !true) 5 rfl sc_law_right.nd (blkOk_by (own := [("high", 5)]) (N := ["gone", "lines", "before", "told", "both", "high"]) (sc := defScope s_law_right) (by decide +kernel)) (Nat.le_of_ble_eq_true rfl) (by first | exact Or.inl rfl | exact Or.inr rfl) (ei_list (Ev.use (Ev.is (ed_itemF 4 (n := 1) (sub_name 4 rfl (Or.inl rfl) rfl) rfl .top ed_int rfl rfl) (congrArg OD.fz (up1_LI))) ⟨_, rfl, rfl, rfl⟩)) (by walk_at "len") (by walk_at "hw") (fun z hz Y hY => by obtain ⟨sB, HB, CB, clB, fpB, rfl⟩ := hY; exact (ed_notT (ed_valT (ed_clF q_law_back_right hgd hr (by rfl) (i := (ms, rows, z)) (ds := [_, _, _]) (ed_acons (ed_var 0 rfl (by first | exact Or.inl rfl | exact Or.inr (Or.inl rfl) | exact Or.inr (Or.inr rfl)) rfl) (ed_acons (ed_var 1 rfl (by first | exact Or.inl rfl | exact Or.inr (Or.inl rfl) | exact Or.inr (Or.inr rfl)) rfl) (ed_acons (ed_var 5 rfl (by first | exact Or.inl rfl | exact Or.inr (Or.inl rfl) | exact Or.inr (Or.inr rfl)) rfl) ed_anil))) rfl rfl (by walk_at "pre") (by walk_at "out"))))) (fun z hz ht Y hY => by obtain ⟨sB, HB, CB, clB, fpB, rfl⟩ := hY; exact (ed_var 5 rfl (by first | exact Or.inl rfl | exact Or.inr (Or.inl rfl) | exact Or.inr (Or.inr rfl)) rfl))) (congrArg OD.fz (no_left))) (ed_LI (ns := []) ed_anil rfl (Nat.le_of_ble_eq_true rfl)) (by walk_at "Eq")) ?_))
      exact ⟨_, keep_fz rfl, by show OD.fz (.bl _) = OD.fz (.bl true); simp⟩

end Hs

set_option exponentiation.threshold 2000
namespace Hs
open PySem PySem.Spec PyProof.Rows L2 Vl
variable {P : Program} {w : World} {K : PySem.W.Frag} {mg : Str → Option Value} {base : Heap}
--def law
def c_law : Con := ⟨List Int, fun sc => [.fz (.rol sc)], fun sc => sc.length ≤ 63, fun _ x _ => x = .fz (.bl true)⟩
theorem sml_of {rows : List (List Int)} (h : ∀ r ∈ rows, ∀ x ∈ r, -(2 * 10 ^ 62) ≤ x ∧ x ≤ 2 * 10 ^ 62) : Sml rows := small_of h
theorem sml_dec {rows : List (List Int)} (h : ∀ r ∈ rows, ∀ x ∈ r, -9 ≤ x ∧ x ≤ 9) : Sml rows := small_of fun r hr x hx => by have := h r hr x hx; omega
theorem p_1 : PcS [2, 1, 0] [[2], [1, 4], [1, 3, 5]] := ⟨by unfold Piece MsOk RowsOk; decide, sml_dec (by decide)⟩
theorem p_2 : PcS [2, 0, 0] [[1], [], []] := ⟨by unfold Piece MsOk RowsOk; decide, sml_dec (by decide)⟩
theorem p_3 : PcS [1, 0] [[5], []] := ⟨by unfold Piece MsOk RowsOk; decide, sml_dec (by decide)⟩
theorem p_4 : PcS [8] [[]] := ⟨by unfold Piece MsOk RowsOk; decide, sml_dec (by decide)⟩
theorem p_5 : PcS [0] [[]] := ⟨by unfold Piece MsOk RowsOk; decide, sml_dec (by decide)⟩
theorem p_6 : Piece [2, 1, 0] [[1], [1, 2], [1, 2]] ∧ holeB [2, 1, 0] 0 = true := ⟨by unfold Piece MsOk RowsOk; decide, by decide⟩
theorem p_7 : Piece [1, 0, 0] [[5], [], []] ∧ endB [1, 0, 0] [[5], [], []] 1 = true := ⟨by unfold Piece MsOk RowsOk; decide, by decide⟩
theorem p_8 : Piece [2, 1, 0] [[2], [1, 4], [1, 3, 5]] ∧ holeB [2, 1, 0] 0 = true := ⟨p_1.pc, by decide⟩
theorem s_6 : tupD (slidL [2, 1, 0] [[1], [1, 2], [1, 2]] 0) = Vl.TP ([1, 1, 0], [[1, 1], [2, 2], [1]], 2) := by rw [show slidL [2, 1, 0] [[1], [1, 2], [1, 2]] 0 = ([1, 1, 0], [[1, 1], [2, 2], [1]], 2) from by decide +kernel]; rfl
theorem s_7 : tupD (slidB [1, 0, 0] [[5], [], []] 1) = Vl.TP ([1, 1, 0], [[5], [], []], 1) := by rw [show slidB [1, 0, 0] [[5], [], []] 1 = ([1, 1, 0], [[5], [], []], 1) from by decide +kernel]; rfl
theorem s_8 : tupD (slidL [2, 1, 0] [[2], [1, 4], [1, 3, 5]] 0) = Vl.TP ([1, 1, 0], [[1, 2], [3, 4], [1, 5]], 2) := by rw [show slidL [2, 1, 0] [[2], [1, 4], [1, 3, 5]] 0 = ([1, 1, 0], [[1, 2], [3, 4], [1, 5]], 2) from by decide +kernel]; rfl
theorem piece_mk {ms : List Int} {rows : List (List Int)} (a : MsOk ms) (b : RowsOk ms rows) (c : goodB ms rows = true) : Piece ms rows := ⟨a, b, c⟩
theorem star_list {env : Env} {xs es : List Expr} {pos : Pos} : starEach (.List xs pos :: es) env = (false, eval (.List xs pos) env) :: starEach es env := by rfl
theorem t_law {k : Nat} (T : Txt mg) (D : Def K mg "law" s_law ["script"]) (q_law_draws : Cl P w K mg base k "_law_draws" ["cell"] c_draws) (q_law_shape : Cl P w K mg base k "_law_shape" ["draws", "high", "wide"] c_shape) (q_law_piece : Cl P w K mg base k "_law_piece" ["draws", "lengths", "step"] c_piece)
    (q_law_right : Cl P w K mg base k "_law_right" ["gone", "lines"] c_right) (q_slide : Cl P w K mg base k "slide" ["missing", "rows", "row"] c_slide) (q_slide_back : Cl P w K mg base k "slide_back" ["missing", "rows", "row"] c_slide_back) : Cl P w K mg base (k + 1) "law" ["script"] c_law := by
  refine D.cl sc_law (fun _ => rfl) fun f cdv A outer s H E (script : List Int) hgd hr hp => ?_
  show Eb _ (defBody s_law) [some (.fz (.rol script)), none, none, none, none, none, none, none] _
  have hp : script.length ≤ 63 := hp
  have eit : Vl.D.lst (cutD (script.map .int) none (some 5) ++ [.int 0]) = .lst ((cut script none (some 5) ++ [0]).map .int) := by
    rw [cutD_map, List.map_append]
    rfl
  have ecl : (cut script none (some 5)).length ≤ 5 := by
    rw [show cut script none (some 5) = script.take 5 from cut_to 5, List.length_take]
    omega
  refine eb_cons (es_forOC PassesOwn.never rfl (ev_lcE (xs := cut script none (some 5) ++ [0]) (g := .int) (fun _ y => ∃ a n b, y = dr a n 0 b ∧ 0 ≤ n) 6 (x := "cell") rfl sc_law.nd (blkOk_by (own := [("cell", 6)]) (N := ["script", "draws", "step", "gone", "lines", "line", "cell", "one"]) (sc := defScope s_law) (by decide +kernel)) (Nat.le_of_ble_eq_true rfl) rfl (ei_list (Ev.use (Ev.is (ed_bin (ed_sl (ed_var 0 rfl (Or.inl rfl) rfl) (ep_none rfl) (ed_some ed_int) (sl_R rfl)) (ed_lst (ds := [_]) (ed_acons ed_int ed_anil) rfl (Nat.le_of_ble_eq_true rfl)) (add_L ?sz rfl)) (congrArg OD.fz eit)) ⟨_, rfl, rfl, rfl⟩)) ?sz2 rfl (fun z hz Y hY => ?e1) fun l ys hE => ⟨l, ys, rfl, ?lp⟩))
  case sz =>
    rw [cutD_map, List.length_map]
    exact Nat.le_trans (Nat.add_le_add_right ecl 1) (by decide)
  case sz2 =>
    rw [List.length_append]
    exact Nat.le_trans (Nat.add_le_add_right ecl 1) (by decide)
  case e1 =>
    obtain ⟨sB, HB, CB, clB, fpB, rfl⟩ := hY
    exact ev_clD q_law_draws hgd hr (by rfl) (i := z) (ds := [_]) (ed_acons (ed_var 6 rfl (by first | exact Or.inl rfl | exact Or.inr (Or.inl rfl) | exact Or.inr (Or.inr rfl)) rfl) ed_anil) rfl rfl trivial fun y xs' ho => ⟨rfl, ho⟩
  case lp =>
    refine ⟨fun i δ' => ∃ (a b c d : Option OD), δ' = [some (.fz (.rol script)), a, b, c, d, none, none, none], ⟨none, none, none, none, rfl⟩, fun i hi δ1 h => ?st, fun δ' h => ?dn⟩
    case st =>
      obtain ⟨a, b, c, d, rfl⟩ := h
      have hlen : ys.length = (cut script none (some 5) ++ [0]).length := hE.1
      obtain ⟨ad, n, way, hy, hn0⟩ := hE.2 i ((cut script none (some 5) ++ [0])[i]'(by rw [← hlen]; exact hi)) ys[i] (by simp [← hlen, hi]) (by simp [hi])
      rw [hy]
      refine (eg_name 1 sc_law.nd rfl (.inl rfl) (Nat.le_of_ble_eq_true rfl) ?_)
      refine eb_one (es_forM (xs := ([1, 2, 3, 500] : List Nat)) (g := fun n => Vl.D.int (n : Int)) PassesOwn.never rfl (fun j δ' => ∃ (n' k' : Int) (b c d : Option OD), 0 ≤ n' ∧ 0 ≤ k' ∧ k' ≤ 220 * j ∧ δ' = [some (.fz (.rol script)), some (dr ad n' k' way), b, c, d, none, none, none]) (ei_list (Ev.use (ed_lst (ds := [_, _, _, _]) (ed_acons ed_int (ed_acons ed_int (ed_acons ed_int (ed_acons ed_int ed_anil)))) rfl (Nat.le_of_ble_eq_true rfl)) ⟨_, rfl, rfl, ⟨n, 0, b, c, d, hn0, by omega, by omega, rfl⟩⟩)) ?st2 ?dn2)
      case dn2 =>
        intro δ' ⟨n', k', b, c, d, _, _, _, e⟩
        subst e
        exact ⟨_, _, _, _, rfl⟩
      case st2 =>
        intro j hj δ1 ⟨n1, k1, b, c, d, hn1, hk0, hk1, e⟩
        subst e
        have hj4 : j < 4 := hj
        refine (eg_name 2 sc_law.nd rfl (.inl rfl) (Nat.le_of_ble_eq_true rfl) ?_)
        have hst : ∀ n ∈ ([1, 2, 3, 500] : List Nat), 1 ≤ n ∧ n ≤ 500 := by decide
        obtain ⟨hs1, hs2⟩ := hst _ (List.getElem_mem hj)
        generalize ([1, 2, 3, 500] : List Nat)[j] = st at hs1 hs2
        refine eb_cons (es_asg (ev_cl q_law_piece hgd hr (by rfl) (ea_slot 1 rfl (.inl rfl) rfl (ea_cons (ev_cl q_law_shape hgd hr (by rfl) (Ea.use (ed_aslot 1 rfl (Or.inl rfl) rfl (ed_acons ed_int (ed_acons ed_int ed_anil))) ⟨(ad, n1, k1, way, 8, 8), rfl, ?nd1, ⟨hn1, by omega, by omega, by omega, by omega, by omega, by omega⟩, fun y xs' hf ho => ?s1⟩))))))
        case nd1 =>
          show (foots [dr ad n1 k1 way, .fz (.int 8), .fz (.int 8)]).Nodup
          rw [foots_cons, dr_foot, foots_nil rfl]
          simp
        case s1 =>
          obtain ⟨ls, n2, k2, rfl, hsh, hn2, hk2, hk2', rfl⟩ := ho
          have hk2'' : k2 ≤ 220 * j + 10 := by omega
          refine ⟨_, rfl, ea_cons (Ev.use (ed_var 2 rfl (Or.inl rfl) rfl) ⟨_, rfl, ea_nil ⟨(ad, n2, k2, way, ls, st), rfl, ?nd2, ⟨hn2, by omega, by omega, hsh, hs1, hs2⟩, fun y xs' hf ho => ?s2⟩⟩)⟩
          case nd2 =>
            show (foots [dr ad n2 k2 way, .fz (LI ls), .fz (.int st)]).Nodup
            rw [foots_cons, dr_foot, foots_nil rfl]
            simp
          case s2 =>
            obtain ⟨gs, rows0, n3, k3, rfl, hpc, hn3, hk3, hk3', rfl⟩ := ho
            refine (eg_tup rfl (egs_cons (eg_name 3 sc_law.nd rfl (.inl rfl) (Nat.le_of_ble_eq_true rfl) (egs_cons (eg_name 4 sc_law.nd rfl (.inl rfl) (Nat.le_of_ble_eq_true rfl) (egs_nil ?_))))) rfl)
            obtain ⟨hms, hrw0⟩ := hpc.ms hsh
            refine eb_seq (fun δ' => ∃ rows : List (List Int), RowsOk gs rows ∧ goodB gs rows = true ∧ (∀ r ∈ rows, ∀ x ∈ r, -(10 ^ 62) ≤ x ∧ x ≤ 10 ^ 62) ∧ δ' = [some (.fz (.rol script)), some (dr ad n3 k3 way), some (.fz (.int st)), some (.fz (LI gs)), some (.fz (LL rows)), none, none, none]) (es_ifK (ed_cmpT (ed_var 2 rfl (Or.inl rfl) rfl) ed_int (by walk_at "Eq")) (fun h5 => ?big) fun h5 => eb_nil ⟨rows0, hrw0, hpc.good, fun r hr x hx => (by have := hpc.mem r hr x hx; omega), rfl⟩) fun δ' h => ?rest
            case big =>
              refine eb_one (es_lcN (xs := rows0) (g := LI) (h := fun r => .lst (r.map fun n => .int ((n - 900) * 10 ^ (55 : Int).toNat))) 5 4 (x := "line") rfl sc_law.nd rfl rfl (by rfl) (blkOk_by (own := [("line", 5)]) (N := ["script", "draws", "step", "gone", "lines", "line", "cell", "one"]) (sc := defScope s_law) (by decide +kernel)) (Nat.le_of_ble_eq_true rfl) (Nat.le_of_ble_eq_true rfl) rfl (ei_list (Ev.use (ed_var 4 rfl (Or.inl rfl) rfl) ⟨_, rfl, rfl, rfl⟩)) ?c0 rfl (fun z hz Y hY => ?c3) ?c4)
              case c0 =>
                have := hrw0.1
                have := hms.2.1
                omega
              case c3 =>
                obtain ⟨sB, HB, CB, clB, fpB, rfl⟩ := hY
                have hzl : z.length ≤ 100000 := by
                  obtain ⟨j, hj⟩ := List.getElem?_of_mem hz
                  have := row_le hms hrw0 j
                  rw [List.getD_eq_getElem?_getD, hj] at this
                  exact Nat.le_trans this (by decide)
                refine ed_lcN (xs := z) (g := .int) (h := fun n => .int ((n - 900) * 10 ^ (55 : Int).toNat)) 7 (x := "one") rfl sc_law.nd (blkOk_nf (sc0 := defScope s_law) (own := [("one", 7)]) (N := ["script", "draws", "step", "gone", "lines", "line", "cell", "one"]) (by decide +kernel) (by decide +kernel) _) (Nat.le_of_ble_eq_true rfl) rfl (ei_list (Ev.use (ed_var 5 rfl (Or.inl rfl) rfl) ⟨_, rfl, rfl, rfl⟩)) hzl rfl (fun y hy Y2 hY2 => ?c5)
                case c5 =>
                  obtain ⟨sB2, HB2, CB2, clB2, fpB2, rfl⟩ := hY2
                  have hb := hpc.mem z hz y hy
                  exact (ed_bin (ed_bin (ed_var 7 rfl (by first | exact Or.inl rfl | exact Or.inr (Or.inl rfl) | exact Or.inr (Or.inr rfl)) rfl) ed_int (by walk_at "Sub")) (ed_bin ed_int ed_int (by walk_at "Pow")) (by walk_at "Mult"))
              case c4 =>
                have hc : (10 : Int) ^ (55 : Int).toNat = 10000000000000000000000000000000000000000000000000000000 := by decide +kernel
                have hpos : (0 : Int) < 10 ^ (55 : Int).toNat := by rw [hc]; decide
                have hLL : Vl.D.lst (rows0.map fun r => .lst (r.map fun n => .int ((n - 900) * 10 ^ (55 : Int).toNat))) = LL (rows0.map (·.map fun n => (n - 900) * 10 ^ (55 : Int).toNat)) := by
                  unfold LL LI
                  rw [List.map_map]
                  congr 1
                  refine List.map_congr_left fun r _ => ?_
                  show Vl.D.lst _ = Vl.D.lst ((r.map _).map _)
                  rw [List.map_map]
                  rfl
                rw [hLL]
                refine ⟨_, rowsOk_map hrw0, good_map (fun a b hab => Int.mul_lt_mul_of_pos_right (by omega) hpos) hpc.good, fun r hr x hx => ?_, rfl⟩
                obtain ⟨r0, hr0, rfl⟩ := List.mem_map.mp hr
                obtain ⟨n0, hn0', rfl⟩ := List.mem_map.mp hx
                have := hpc.mem r0 hr0 n0 hn0'
                rw [hc]
                omega
            case rest =>
              obtain ⟨rows, hrw, hgood, hbd, rfl⟩ := h
              have hsm : Sml rows := sml_of fun r hr x hx => by have := hbd r hr x hx; omega
              have hp1 : PcS gs rows := ⟨piece_mk hms hrw hgood, hsm⟩
              refine eb_one (es_ifF (ed_notT (ed_valT (ed_clF q_law_right hgd hr (by rfl) (i := (gs, rows)) (ds := [_, _]) (ed_acons (ed_var 3 rfl (Or.inl rfl) rfl) (ed_acons (ed_var 4 rfl (Or.inl rfl) rfl) ed_anil)) rfl rfl (by walk_at "pre") (by walk_at "out")))) rfl (eb_nil ?_))
              exact ⟨n3, k3, _, _, _, hn3, by omega, by omega, rfl⟩
    case dn =>
      obtain ⟨a, b, c, d, rfl⟩ := h
      have p1 := p_1
      have p2 := p_2
      have p3 := p_3
      have p4 := p_4
      have p5 := p_5
      refine eb_cons (es_ifF (ed_notT (ed_valT (ed_clF q_law_right hgd hr (by rfl) (i := ([2, 1, 0], [[2], [1, 4], [1, 3, 5]])) (ds := [_, _]) (ed_acons (ed_LI (ns := [_, _, _]) (ed_acons ed_int (ed_acons ed_int (ed_acons ed_int ed_anil))) rfl (Nat.le_of_ble_eq_true rfl)) (ed_acons (Ev.is (ed_lst (ds := [_, _, _]) (ed_acons (ed_lst (ds := [_]) (ed_acons ed_int ed_anil) rfl (Nat.le_of_ble_eq_true rfl)) (ed_acons (ed_lst (ds := [_, _]) (ed_acons ed_int (ed_acons ed_int ed_anil)) rfl (Nat.le_of_ble_eq_true rfl)) (ed_acons (ed_lst (ds := [_, _, _]) (ed_acons ed_int (ed_acons ed_int (ed_acons ed_int ed_anil))) rfl (Nat.le_of_ble_eq_true rfl)) ed_anil star_list) star_list) star_list) rfl (Nat.le_of_ble_eq_true rfl)) (congrArg OD.fz ((rfl : _ = LL [[2], [1, 4], [1, 3, 5]])))) ed_anil star_list) star_list) rfl rfl (by walk_at "pre") (by walk_at "out") (he := star_list)))) rfl (eb_nil ?_))
      refine eb_cons (es_ifF (ed_W (ed_orW (ed_notT (ed_valT (ed_clF q_law_right hgd hr (by rfl) (i := ([2, 0, 0], [[1], [], []])) (ds := [_, _]) (ed_acons (ed_LI (ns := [_, _, _]) (ed_acons ed_int (ed_acons ed_int (ed_acons ed_int ed_anil))) rfl (Nat.le_of_ble_eq_true rfl)) (ed_acons (Ev.is (ed_lst (ds := [_, _, _]) (ed_acons (ed_lst (ds := [_]) (ed_acons ed_int ed_anil) rfl (Nat.le_of_ble_eq_true rfl)) (ed_acons (ed_lst (ds := []) ed_anil rfl (Nat.le_of_ble_eq_true rfl)) (ed_acons (ed_lst (ds := []) ed_anil rfl (Nat.le_of_ble_eq_true rfl)) ed_anil star_list) star_list) star_list) rfl (Nat.le_of_ble_eq_true rfl)) (congrArg OD.fz ((rfl : _ = LL [[1], [], []])))) ed_anil star_list) star_list) rfl rfl (by walk_at "pre") (by walk_at "out") (he := star_list)))) (fun h => (ed_or1 (ed_notT (ed_valT (ed_clF q_law_right hgd hr (by rfl) (i := ([1, 0], [[5], []])) (ds := [_, _]) (ed_acons (ed_LI (ns := [_, _]) (ed_acons ed_int (ed_acons ed_int ed_anil)) rfl (Nat.le_of_ble_eq_true rfl)) (ed_acons (Ev.is (ed_lst (ds := [_, _]) (ed_acons (ed_lst (ds := [_]) (ed_acons ed_int ed_anil) rfl (Nat.le_of_ble_eq_true rfl)) (ed_acons (ed_lst (ds := []) ed_anil rfl (Nat.le_of_ble_eq_true rfl)) ed_anil star_list) star_list) rfl (Nat.le_of_ble_eq_true rfl)) (congrArg OD.fz ((rfl : _ = LL [[5], []])))) ed_anil star_list) star_list) rfl rfl (by walk_at "pre") (by walk_at "out") (he := star_list)))))))) rfl (eb_nil ?_))
      refine eb_cons (es_ifF (ed_W (ed_orW (ed_notT (ed_valT (ed_clF q_law_right hgd hr (by rfl) (i := ([8], [[]])) (ds := [_, _]) (ed_acons (ed_LI (ns := [_]) (ed_acons ed_int ed_anil) rfl (Nat.le_of_ble_eq_true rfl)) (ed_acons (Ev.is (ed_lst (ds := [_]) (ed_acons (ed_lst (ds := []) ed_anil rfl (Nat.le_of_ble_eq_true rfl)) ed_anil star_list) rfl (Nat.le_of_ble_eq_true rfl)) (congrArg OD.fz ((rfl : _ = LL [[]])))) ed_anil star_list) star_list) rfl rfl (by walk_at "pre") (by walk_at "out") (he := star_list)))) (fun h => (ed_or1 (ed_notT (ed_valT (ed_clF q_law_right hgd hr (by rfl) (i := ([0], [[]])) (ds := [_, _]) (ed_acons (ed_LI (ns := [_]) (ed_acons ed_int ed_anil) rfl (Nat.le_of_ble_eq_true rfl)) (ed_acons (Ev.is (ed_lst (ds := [_]) (ed_acons (ed_lst (ds := []) ed_anil rfl (Nat.le_of_ble_eq_true rfl)) ed_anil star_list) rfl (Nat.le_of_ble_eq_true rfl)) (congrArg OD.fz ((rfl : _ = LL [[]])))) ed_anil star_list) star_list) rfl rfl (by walk_at "pre") (by walk_at "out") (he := star_list)))))))) rfl (eb_nil ?_))
      refine eb_cons (es_set 5 sc_law.nd rfl (.inl rfl) (Ev.use (ed_LI (ns := [_, _]) (ed_acons ed_int (ed_acons ed_int ed_anil)) rfl (Nat.le_of_ble_eq_true rfl)) ⟨Nat.le_of_ble_eq_true rfl, ?_⟩))
      have p6 := p_6
      refine eb_cons (es_ifF (ed_W (ed_orW (ed_cmpT (Ev.is (ed_clG (tupD (slidL [2, 1, 0] [[1], [1, 2], [1, 2]] 0)) q_slide hgd hr (by rfl) (i := ([2, 1, 0], [[1], [1, 2], [1, 2]], 0)) (ds := [_, _, _]) (ed_acons (ed_LI (ns := [_, _, _]) (ed_acons ed_int (ed_acons ed_int (ed_acons ed_int ed_anil))) rfl (Nat.le_of_ble_eq_true rfl)) (ed_acons (Ev.is (ed_lst (ds := [_, _, _]) (ed_acons (ed_lst (ds := [_]) (ed_acons ed_int ed_anil) rfl (Nat.le_of_ble_eq_true rfl)) (ed_acons (ed_var 5 rfl (Or.inl rfl) rfl) (ed_acons (ed_var 5 rfl (Or.inl rfl) rfl) ed_anil)) star_list) rfl (Nat.le_of_ble_eq_true rfl)) (congrArg OD.fz ((rfl : _ = LL [[1], [1, 2], [1, 2]])))) (ed_acons ed_int ed_anil) star_list) star_list) rfl rfl (by walk_at "pre") (fun _ _ h => dat_pc h) (he := star_list)) (congrArg OD.fz (s_6))) (Ev.is (ed_tup (ds := [_, _, _]) (ed_acons (ed_lst (ds := [_, _, _]) (ed_acons ed_int (ed_acons ed_int (ed_acons ed_int ed_anil))) rfl (Nat.le_of_ble_eq_true rfl)) (ed_acons (ed_lst (ds := [_, _, _]) (ed_acons (ed_lst (ds := [_, _]) (ed_acons ed_int (ed_acons ed_int ed_anil)) rfl (Nat.le_of_ble_eq_true rfl)) (ed_acons (ed_lst (ds := [_, _]) (ed_acons ed_int (ed_acons ed_int ed_anil)) rfl (Nat.le_of_ble_eq_true rfl)) (ed_acons (ed_lst (ds := [_]) (ed_acons ed_int ed_anil) rfl (Nat.le_of_ble_eq_true rfl)) ed_anil star_list) star_list) star_list) rfl (Nat.le_of_ble_eq_true rfl)) (ed_acons ed_int ed_anil) star_list) star_list) rfl (Nat.le_of_ble_eq_true rfl)) (congrArg OD.fz ((rfl : _ = Vl.TP ([1, 1, 0], [[1, 1], [2, 2], [1]], 2))))) (by walk_at "NotEq")) (fun h => (ed_or1 (ed_cmpT (ed_var 5 rfl (Or.inl rfl) rfl) (ed_LI (ns := [_, _]) (ed_acons ed_int (ed_acons ed_int ed_anil)) rfl (Nat.le_of_ble_eq_true rfl)) (by walk_at "NotEq")))))) rfl (eb_nil ?_))
      clear p6
      have p7 := p_7
      refine eb_cons (es_ifF (ed_cmpT (Ev.is (ed_clG (tupD (slidB [1, 0, 0] [[5], [], []] 1)) q_slide_back hgd hr (by rfl) (i := ([1, 0, 0], [[5], [], []], 1)) (ds := [_, _, _]) (ed_acons (ed_LI (ns := [_, _, _]) (ed_acons ed_int (ed_acons ed_int (ed_acons ed_int ed_anil))) rfl (Nat.le_of_ble_eq_true rfl)) (ed_acons (ed_bin (Ev.is (ed_lst (ds := [_]) (ed_acons (ed_lst (ds := [_]) (ed_acons ed_int ed_anil) rfl (Nat.le_of_ble_eq_true rfl)) ed_anil) rfl (Nat.le_of_ble_eq_true rfl)) (congrArg OD.fz (rfl : _ = LL [[5]]))) (Ev.is (ed_bin (ed_lst (ds := [_]) (ed_acons (ed_lst (ds := []) ed_anil rfl (Nat.le_of_ble_eq_true rfl)) ed_anil) rfl (Nat.le_of_ble_eq_true rfl)) ed_int (mul_L (by decide) (by decide) (Nat.le_of_ble_eq_true rfl) rfl)) (congrArg OD.fz (rfl : _ = LL [[], []]))) (add_LL (Nat.le_of_ble_eq_true rfl) rfl)) (ed_acons ed_int ed_anil)) star_list) rfl rfl (by walk_at "pre") (fun _ _ h => dat_pc h) (he := star_list)) (congrArg OD.fz (s_7))) (Ev.is (ed_tup (ds := [_, _, _]) (ed_acons (ed_lst (ds := [_, _, _]) (ed_acons ed_int (ed_acons ed_int (ed_acons ed_int ed_anil))) rfl (Nat.le_of_ble_eq_true rfl)) (ed_acons (ed_lst (ds := [_, _, _]) (ed_acons (ed_lst (ds := [_]) (ed_acons ed_int ed_anil) rfl (Nat.le_of_ble_eq_true rfl)) (ed_acons (ed_lst (ds := []) ed_anil rfl (Nat.le_of_ble_eq_true rfl)) (ed_acons (ed_lst (ds := []) ed_anil rfl (Nat.le_of_ble_eq_true rfl)) ed_anil star_list) star_list) star_list) rfl (Nat.le_of_ble_eq_true rfl)) (ed_acons ed_int ed_anil) star_list) star_list) rfl (Nat.le_of_ble_eq_true rfl)) (congrArg OD.fz ((rfl : _ = Vl.TP ([1, 1, 0], [[5], [], []], 1))))) (by walk_at "NotEq")) rfl (eb_nil ?_))
      clear p7
      have p8 := p_8
      refine eb_one (es_ret (Ev.use (ed_cmp (Ev.is (ed_clG (tupD (slidL [2, 1, 0] [[2], [1, 4], [1, 3, 5]] 0)) q_slide hgd hr (by rfl) (i := ([2, 1, 0], [[2], [1, 4], [1, 3, 5]], 0)) (ds := [_, _, _]) (ed_acons (ed_LI (ns := [_, _, _]) (ed_acons ed_int (ed_acons ed_int (ed_acons ed_int ed_anil))) rfl (Nat.le_of_ble_eq_true rfl)) (ed_acons (Ev.is (ed_lst (ds := [_, _, _]) (ed_acons (ed_lst (ds := [_]) (ed_acons ed_int ed_anil) rfl (Nat.le_of_ble_eq_true rfl)) (ed_acons (ed_lst (ds := [_, _]) (ed_acons ed_int (ed_acons ed_int ed_anil)) rfl (Nat.le_of_ble_eq_true rfl)) (ed_acons (ed_lst (ds := [_, _, _]) (ed_acons ed_int (ed_acons ed_int (ed_acons ed_int ed_anil))) rfl (Nat.le_of_ble_eq_true rfl)) ed_anil star_list) star_list) star_list) rfl (Nat.le_of_ble_eq_true rfl)) (congrArg OD.fz ((rfl : _ = LL [[2], [1, 4], [1, 3, 5]])))) (ed_acons ed_int ed_anil) star_list) star_list) rfl rfl (by walk_at "pre") (fun _ _ h => dat_pc h) (he := star_list)) (congrArg OD.fz (s_8))) (Ev.is (ed_tup (ds := [_, _, _]) (ed_acons (ed_lst (ds := [_, _, _]) (ed_acons ed_int (ed_acons ed_int (ed_acons ed_int ed_anil))) rfl (Nat.le_of_ble_eq_true rfl)) (ed_acons (ed_lst (ds := [_, _, _]) (ed_acons (ed_lst (ds := [_, _]) (ed_acons ed_int (ed_acons ed_int ed_anil)) rfl (Nat.le_of_ble_eq_true rfl)) (ed_acons (ed_lst (ds := [_, _]) (ed_acons ed_int (ed_acons ed_int ed_anil)) rfl (Nat.le_of_ble_eq_true rfl)) (ed_acons (ed_lst (ds := [_, _]) (ed_acons ed_int (ed_acons ed_int ed_anil)) rfl (Nat.le_of_ble_eq_true rfl)) ed_anil star_list) star_list) star_list) rfl (Nat.le_of_ble_eq_true rfl)) (ed_acons ed_int ed_anil) star_list) star_list) rfl (Nat.le_of_ble_eq_true rfl)) (congrArg OD.fz ((rfl : _ = Vl.TP ([1, 1, 0], [[1, 2], [3, 4], [1, 5]], 2))))) (by walk_at "Eq")) ?_))
      exact ⟨_, keep_fz rfl, rfl⟩

end Hs

namespace Hs
open PySem PySem.Spec PyProof.Rows L2 Vl
theorem mkDef {K : PySem.W.Frag} {h : Heap} {mg : Str → Option Value} {nm : Str} {st : Stmt} {ps : List Str} (X : K.In h) (G : h.Ns mainGlobals mg) {f : Addr} {od an : Option Addr} {sl : Array (Option Value)} {oc kV dc pm cd ct : Value}
    (a : PySem.W.nsIn K mainGlobals nm = some (some (.ref f))) (l : K.lookup f = some ⟨oc, od, .func (PySem.W.fnOf nm nm (defArgs st) (defBody st) (defScope st) .none kV dc pm an cd ct), sl⟩) (c : PySem.W.codeIn K cd nm = true) (k : PySem.W.keepIn K (.ref f) = true)
    (hb : ∀ (fd : FuncData), Fun K nm nm st f fd → Binds K fd ps []) : Def K mg nm st ps := ⟨f, _, fun_mk (st := st) l c k, PySem.W.mg_of X G a, hb _ (fun_mk (st := st) l c k)⟩
theorem all_mk {P : Program} {w : World} {K : PySem.W.Frag} {h base : Heap} {mg : Str → Option Value} (X : K.In h) (G : h.Ns mainGlobals mg)
    {f0 : Addr} {od0 an0 : Option Addr} {sl0 : Array (Option Value)} {oc0 kV0 dc0 pm0 cd0 ct0 : Value} (a0 : PySem.W.nsIn K mainGlobals "is_whole" = some (some (.ref f0))) (l0 : K.lookup f0 = some ⟨oc0, od0, .func (PySem.W.fnOf "is_whole" "is_whole" (defArgs s_is_whole) (defBody s_is_whole) (defScope s_is_whole) .none kV0 dc0 pm0 an0 cd0 ct0), sl0⟩) (c0 : PySem.W.codeIn K cd0 "is_whole" = true) (k0 : PySem.W.keepIn K (.ref f0) = true)
    {f1 : Addr} {od1 an1 : Option Addr} {sl1 : Array (Option Value)} {oc1 kV1 dc1 pm1 cd1 ct1 : Value} (a1 : PySem.W.nsIn K mainGlobals "check_missing" = some (some (.ref f1))) (l1 : K.lookup f1 = some ⟨oc1, od1, .func (PySem.W.fnOf "check_missing" "check_missing" (defArgs s_check_missing) (defBody s_check_missing) (defScope s_check_missing) .none kV1 dc1 pm1 an1 cd1 ct1), sl1⟩) (c1 : PySem.W.codeIn K cd1 "check_missing" = true) (k1 : PySem.W.keepIn K (.ref f1) = true)
    {f2 : Addr} {od2 an2 : Option Addr} {sl2 : Array (Option Value)} {oc2 kV2 dc2 pm2 cd2 ct2 : Value} (a2 : PySem.W.nsIn K mainGlobals "check_numbers" = some (some (.ref f2))) (l2 : K.lookup f2 = some ⟨oc2, od2, .func (PySem.W.fnOf "check_numbers" "check_numbers" (defArgs s_check_numbers) (defBody s_check_numbers) (defScope s_check_numbers) .none kV2 dc2 pm2 an2 cd2 ct2), sl2⟩) (c2 : PySem.W.codeIn K cd2 "check_numbers" = true) (k2 : PySem.W.keepIn K (.ref f2) = true)
    {f3 : Addr} {od3 an3 : Option Addr} {sl3 : Array (Option Value)} {oc3 kV3 dc3 pm3 cd3 ct3 : Value} (a3 : PySem.W.nsIn K mainGlobals "check_rows" = some (some (.ref f3))) (l3 : K.lookup f3 = some ⟨oc3, od3, .func (PySem.W.fnOf "check_rows" "check_rows" (defArgs s_check_rows) (defBody s_check_rows) (defScope s_check_rows) .none kV3 dc3 pm3 an3 cd3 ct3), sl3⟩) (c3 : PySem.W.codeIn K cd3 "check_rows" = true) (k3 : PySem.W.keepIn K (.ref f3) = true)
    {f4 : Addr} {od4 an4 : Option Addr} {sl4 : Array (Option Value)} {oc4 kV4 dc4 pm4 cd4 ct4 : Value} (a4 : PySem.W.nsIn K mainGlobals "number_at" = some (some (.ref f4))) (l4 : K.lookup f4 = some ⟨oc4, od4, .func (PySem.W.fnOf "number_at" "number_at" (defArgs s_number_at) (defBody s_number_at) (defScope s_number_at) .none kV4 dc4 pm4 an4 cd4 ct4), sl4⟩) (c4 : PySem.W.codeIn K cd4 "number_at" = true) (k4 : PySem.W.keepIn K (.ref f4) = true)
    {f5 : Addr} {od5 an5 : Option Addr} {sl5 : Array (Option Value)} {oc5 kV5 dc5 pm5 cd5 ct5 : Value} (a5 : PySem.W.nsIn K mainGlobals "wrong_rows" = some (some (.ref f5))) (l5 : K.lookup f5 = some ⟨oc5, od5, .func (PySem.W.fnOf "wrong_rows" "wrong_rows" (defArgs s_wrong_rows) (defBody s_wrong_rows) (defScope s_wrong_rows) .none kV5 dc5 pm5 an5 cd5 ct5), sl5⟩) (c5 : PySem.W.codeIn K cd5 "wrong_rows" = true) (k5 : PySem.W.keepIn K (.ref f5) = true)
    {f6 : Addr} {od6 an6 : Option Addr} {sl6 : Array (Option Value)} {oc6 kV6 dc6 pm6 cd6 ct6 : Value} (a6 : PySem.W.nsIn K mainGlobals "check_piece" = some (some (.ref f6))) (l6 : K.lookup f6 = some ⟨oc6, od6, .func (PySem.W.fnOf "check_piece" "check_piece" (defArgs s_check_piece) (defBody s_check_piece) (defScope s_check_piece) .none kV6 dc6 pm6 an6 cd6 ct6), sl6⟩) (c6 : PySem.W.codeIn K cd6 "check_piece" = true) (k6 : PySem.W.keepIn K (.ref f6) = true)
    {f7 : Addr} {od7 an7 : Option Addr} {sl7 : Array (Option Value)} {oc7 kV7 dc7 pm7 cd7 ct7 : Value} (a7 : PySem.W.nsIn K mainGlobals "is_sorted" = some (some (.ref f7))) (l7 : K.lookup f7 = some ⟨oc7, od7, .func (PySem.W.fnOf "is_sorted" "is_sorted" (defArgs s_is_sorted) (defBody s_is_sorted) (defScope s_is_sorted) .none kV7 dc7 pm7 an7 cd7 ct7), sl7⟩) (c7 : PySem.W.codeIn K cd7 "is_sorted" = true) (k7 : PySem.W.keepIn K (.ref f7) = true)
    {f8 : Addr} {od8 an8 : Option Addr} {sl8 : Array (Option Value)} {oc8 kV8 dc8 pm8 cd8 ct8 : Value} (a8 : PySem.W.nsIn K mainGlobals "_law_draws" = some (some (.ref f8))) (l8 : K.lookup f8 = some ⟨oc8, od8, .func (PySem.W.fnOf "_law_draws" "_law_draws" (defArgs s_law_draws) (defBody s_law_draws) (defScope s_law_draws) .none kV8 dc8 pm8 an8 cd8 ct8), sl8⟩) (c8 : PySem.W.codeIn K cd8 "_law_draws" = true) (k8 : PySem.W.keepIn K (.ref f8) = true)
    {f9 : Addr} {od9 an9 : Option Addr} {sl9 : Array (Option Value)} {oc9 kV9 dc9 pm9 cd9 ct9 : Value} (a9 : PySem.W.nsIn K mainGlobals "_law_next" = some (some (.ref f9))) (l9 : K.lookup f9 = some ⟨oc9, od9, .func (PySem.W.fnOf "_law_next" "_law_next" (defArgs s_law_next) (defBody s_law_next) (defScope s_law_next) .none kV9 dc9 pm9 an9 cd9 ct9), sl9⟩) (c9 : PySem.W.codeIn K cd9 "_law_next" = true) (k9 : PySem.W.keepIn K (.ref f9) = true)
    {f10 : Addr} {od10 an10 : Option Addr} {sl10 : Array (Option Value)} {oc10 kV10 dc10 pm10 cd10 ct10 : Value} (a10 : PySem.W.nsIn K mainGlobals "_law_shape" = some (some (.ref f10))) (l10 : K.lookup f10 = some ⟨oc10, od10, .func (PySem.W.fnOf "_law_shape" "_law_shape" (defArgs s_law_shape) (defBody s_law_shape) (defScope s_law_shape) .none kV10 dc10 pm10 an10 cd10 ct10), sl10⟩) (c10 : PySem.W.codeIn K cd10 "_law_shape" = true) (k10 : PySem.W.keepIn K (.ref f10) = true)
    {f11 : Addr} {od11 an11 : Option Addr} {sl11 : Array (Option Value)} {oc11 kV11 dc11 pm11 cd11 ct11 : Value} (a11 : PySem.W.nsIn K mainGlobals "_law_within" = some (some (.ref f11))) (l11 : K.lookup f11 = some ⟨oc11, od11, .func (PySem.W.fnOf "_law_within" "_law_within" (defArgs s_law_within) (defBody s_law_within) (defScope s_law_within) .none kV11 dc11 pm11 an11 cd11 ct11), sl11⟩) (c11 : PySem.W.codeIn K cd11 "_law_within" = true) (k11 : PySem.W.keepIn K (.ref f11) = true)
    {f12 : Addr} {od12 an12 : Option Addr} {sl12 : Array (Option Value)} {oc12 kV12 dc12 pm12 cd12 ct12 : Value} (a12 : PySem.W.nsIn K mainGlobals "_law_look" = some (some (.ref f12))) (l12 : K.lookup f12 = some ⟨oc12, od12, .func (PySem.W.fnOf "_law_look" "_law_look" (defArgs s_law_look) (defBody s_law_look) (defScope s_law_look) .none kV12 dc12 pm12 an12 cd12 ct12), sl12⟩) (c12 : PySem.W.codeIn K cd12 "_law_look" = true) (k12 : PySem.W.keepIn K (.ref f12) = true)
    {f13 : Addr} {od13 an13 : Option Addr} {sl13 : Array (Option Value)} {oc13 kV13 dc13 pm13 cd13 ct13 : Value} (a13 : PySem.W.nsIn K mainGlobals "_law_piece" = some (some (.ref f13))) (l13 : K.lookup f13 = some ⟨oc13, od13, .func (PySem.W.fnOf "_law_piece" "_law_piece" (defArgs s_law_piece) (defBody s_law_piece) (defScope s_law_piece) .none kV13 dc13 pm13 an13 cd13 ct13), sl13⟩) (c13 : PySem.W.codeIn K cd13 "_law_piece" = true) (k13 : PySem.W.keepIn K (.ref f13) = true)
    {f14 : Addr} {od14 an14 : Option Addr} {sl14 : Array (Option Value)} {oc14 kV14 dc14 pm14 cd14 ct14 : Value} (a14 : PySem.W.nsIn K mainGlobals "copied" = some (some (.ref f14))) (l14 : K.lookup f14 = some ⟨oc14, od14, .func (PySem.W.fnOf "copied" "copied" (defArgs s_copied) (defBody s_copied) (defScope s_copied) .none kV14 dc14 pm14 an14 cd14 ct14), sl14⟩) (c14 : PySem.W.codeIn K cd14 "copied" = true) (k14 : PySem.W.keepIn K (.ref f14) = true)
    {f15 : Addr} {od15 an15 : Option Addr} {sl15 : Array (Option Value)} {oc15 kV15 dc15 pm15 cd15 ct15 : Value} (a15 : PySem.W.nsIn K mainGlobals "lengths_in" = some (some (.ref f15))) (l15 : K.lookup f15 = some ⟨oc15, od15, .func (PySem.W.fnOf "lengths_in" "lengths_in" (defArgs s_lengths_in) (defBody s_lengths_in) (defScope s_lengths_in) .none kV15 dc15 pm15 an15 cd15 ct15), sl15⟩) (c15 : PySem.W.codeIn K cd15 "lengths_in" = true) (k15 : PySem.W.keepIn K (.ref f15) = true)
    {f16 : Addr} {od16 an16 : Option Addr} {sl16 : Array (Option Value)} {oc16 kV16 dc16 pm16 cd16 ct16 : Value} (a16 : PySem.W.nsIn K mainGlobals "holes_in" = some (some (.ref f16))) (l16 : K.lookup f16 = some ⟨oc16, od16, .func (PySem.W.fnOf "holes_in" "holes_in" (defArgs s_holes_in) (defBody s_holes_in) (defScope s_holes_in) .none kV16 dc16 pm16 an16 cd16 ct16), sl16⟩) (c16 : PySem.W.codeIn K cd16 "holes_in" = true) (k16 : PySem.W.keepIn K (.ref f16) = true)
    {f17 : Addr} {od17 an17 : Option Addr} {sl17 : Array (Option Value)} {oc17 kV17 dc17 pm17 cd17 ct17 : Value} (a17 : PySem.W.nsIn K mainGlobals "ends_in" = some (some (.ref f17))) (l17 : K.lookup f17 = some ⟨oc17, od17, .func (PySem.W.fnOf "ends_in" "ends_in" (defArgs s_ends_in) (defBody s_ends_in) (defScope s_ends_in) .none kV17 dc17 pm17 an17 cd17 ct17), sl17⟩) (c17 : PySem.W.codeIn K cd17 "ends_in" = true) (k17 : PySem.W.keepIn K (.ref f17) = true)
    {f18 : Addr} {od18 an18 : Option Addr} {sl18 : Array (Option Value)} {oc18 kV18 dc18 pm18 cd18 ct18 : Value} (a18 : PySem.W.nsIn K mainGlobals "check_hole" = some (some (.ref f18))) (l18 : K.lookup f18 = some ⟨oc18, od18, .func (PySem.W.fnOf "check_hole" "check_hole" (defArgs s_check_hole) (defBody s_check_hole) (defScope s_check_hole) .none kV18 dc18 pm18 an18 cd18 ct18), sl18⟩) (c18 : PySem.W.codeIn K cd18 "check_hole" = true) (k18 : PySem.W.keepIn K (.ref f18) = true)
    {f19 : Addr} {od19 an19 : Option Addr} {sl19 : Array (Option Value)} {oc19 kV19 dc19 pm19 cd19 ct19 : Value} (a19 : PySem.W.nsIn K mainGlobals "check_end" = some (some (.ref f19))) (l19 : K.lookup f19 = some ⟨oc19, od19, .func (PySem.W.fnOf "check_end" "check_end" (defArgs s_check_end) (defBody s_check_end) (defScope s_check_end) .none kV19 dc19 pm19 an19 cd19 ct19), sl19⟩) (c19 : PySem.W.codeIn K cd19 "check_end" = true) (k19 : PySem.W.keepIn K (.ref f19) = true)
    {f20 : Addr} {od20 an20 : Option Addr} {sl20 : Array (Option Value)} {oc20 kV20 dc20 pm20 cd20 ct20 : Value} (a20 : PySem.W.nsIn K mainGlobals "slid" = some (some (.ref f20))) (l20 : K.lookup f20 = some ⟨oc20, od20, .func (PySem.W.fnOf "slid" "slid" (defArgs s_slid) (defBody s_slid) (defScope s_slid) .none kV20 dc20 pm20 an20 cd20 ct20), sl20⟩) (c20 : PySem.W.codeIn K cd20 "slid" = true) (k20 : PySem.W.keepIn K (.ref f20) = true)
    {f21 : Addr} {od21 an21 : Option Addr} {sl21 : Array (Option Value)} {oc21 kV21 dc21 pm21 cd21 ct21 : Value} (a21 : PySem.W.nsIn K mainGlobals "_law_slid" = some (some (.ref f21))) (l21 : K.lookup f21 = some ⟨oc21, od21, .func (PySem.W.fnOf "_law_slid" "_law_slid" (defArgs s_law_slid) (defBody s_law_slid) (defScope s_law_slid) .none kV21 dc21 pm21 an21 cd21 ct21), sl21⟩) (c21 : PySem.W.codeIn K cd21 "_law_slid" = true) (k21 : PySem.W.keepIn K (.ref f21) = true)
    {f22 : Addr} {od22 an22 : Option Addr} {sl22 : Array (Option Value)} {oc22 kV22 dc22 pm22 cd22 ct22 : Value} (a22 : PySem.W.nsIn K mainGlobals "slid_back" = some (some (.ref f22))) (l22 : K.lookup f22 = some ⟨oc22, od22, .func (PySem.W.fnOf "slid_back" "slid_back" (defArgs s_slid_back) (defBody s_slid_back) (defScope s_slid_back) .none kV22 dc22 pm22 an22 cd22 ct22), sl22⟩) (c22 : PySem.W.codeIn K cd22 "slid_back" = true) (k22 : PySem.W.keepIn K (.ref f22) = true)
    {f23 : Addr} {od23 an23 : Option Addr} {sl23 : Array (Option Value)} {oc23 kV23 dc23 pm23 cd23 ct23 : Value} (a23 : PySem.W.nsIn K mainGlobals "holes" = some (some (.ref f23))) (l23 : K.lookup f23 = some ⟨oc23, od23, .func (PySem.W.fnOf "holes" "holes" (defArgs s_holes) (defBody s_holes) (defScope s_holes) .none kV23 dc23 pm23 an23 cd23 ct23), sl23⟩) (c23 : PySem.W.codeIn K cd23 "holes" = true) (k23 : PySem.W.keepIn K (.ref f23) = true)
    {f24 : Addr} {od24 an24 : Option Addr} {sl24 : Array (Option Value)} {oc24 kV24 dc24 pm24 cd24 ct24 : Value} (a24 : PySem.W.nsIn K mainGlobals "ends" = some (some (.ref f24))) (l24 : K.lookup f24 = some ⟨oc24, od24, .func (PySem.W.fnOf "ends" "ends" (defArgs s_ends) (defBody s_ends) (defScope s_ends) .none kV24 dc24 pm24 an24 cd24 ct24), sl24⟩) (c24 : PySem.W.codeIn K cd24 "ends" = true) (k24 : PySem.W.keepIn K (.ref f24) = true)
    {f25 : Addr} {od25 an25 : Option Addr} {sl25 : Array (Option Value)} {oc25 kV25 dc25 pm25 cd25 ct25 : Value} (a25 : PySem.W.nsIn K mainGlobals "slide" = some (some (.ref f25))) (l25 : K.lookup f25 = some ⟨oc25, od25, .func (PySem.W.fnOf "slide" "slide" (defArgs s_slide) (defBody s_slide) (defScope s_slide) .none kV25 dc25 pm25 an25 cd25 ct25), sl25⟩) (c25 : PySem.W.codeIn K cd25 "slide" = true) (k25 : PySem.W.keepIn K (.ref f25) = true)
    {f26 : Addr} {od26 an26 : Option Addr} {sl26 : Array (Option Value)} {oc26 kV26 dc26 pm26 cd26 ct26 : Value} (a26 : PySem.W.nsIn K mainGlobals "slide_back" = some (some (.ref f26))) (l26 : K.lookup f26 = some ⟨oc26, od26, .func (PySem.W.fnOf "slide_back" "slide_back" (defArgs s_slide_back) (defBody s_slide_back) (defScope s_slide_back) .none kV26 dc26 pm26 an26 cd26 ct26), sl26⟩) (c26 : PySem.W.codeIn K cd26 "slide_back" = true) (k26 : PySem.W.keepIn K (.ref f26) = true)
    {f27 : Addr} {od27 an27 : Option Addr} {sl27 : Array (Option Value)} {oc27 kV27 dc27 pm27 cd27 ct27 : Value} (a27 : PySem.W.nsIn K mainGlobals "_law_holes" = some (some (.ref f27))) (l27 : K.lookup f27 = some ⟨oc27, od27, .func (PySem.W.fnOf "_law_holes" "_law_holes" (defArgs s_law_holes) (defBody s_law_holes) (defScope s_law_holes) .none kV27 dc27 pm27 an27 cd27 ct27), sl27⟩) (c27 : PySem.W.codeIn K cd27 "_law_holes" = true) (k27 : PySem.W.keepIn K (.ref f27) = true)
    {f28 : Addr} {od28 an28 : Option Addr} {sl28 : Array (Option Value)} {oc28 kV28 dc28 pm28 cd28 ct28 : Value} (a28 : PySem.W.nsIn K mainGlobals "_law_ends" = some (some (.ref f28))) (l28 : K.lookup f28 = some ⟨oc28, od28, .func (PySem.W.fnOf "_law_ends" "_law_ends" (defArgs s_law_ends) (defBody s_law_ends) (defScope s_law_ends) .none kV28 dc28 pm28 an28 cd28 ct28), sl28⟩) (c28 : PySem.W.codeIn K cd28 "_law_ends" = true) (k28 : PySem.W.keepIn K (.ref f28) = true)
    {f29 : Addr} {od29 an29 : Option Addr} {sl29 : Array (Option Value)} {oc29 kV29 dc29 pm29 cd29 ct29 : Value} (a29 : PySem.W.nsIn K mainGlobals "_law_slide_right" = some (some (.ref f29))) (l29 : K.lookup f29 = some ⟨oc29, od29, .func (PySem.W.fnOf "_law_slide_right" "_law_slide_right" (defArgs s_law_slide_right) (defBody s_law_slide_right) (defScope s_law_slide_right) .none kV29 dc29 pm29 an29 cd29 ct29), sl29⟩) (c29 : PySem.W.codeIn K cd29 "_law_slide_right" = true) (k29 : PySem.W.keepIn K (.ref f29) = true)
    {f30 : Addr} {od30 an30 : Option Addr} {sl30 : Array (Option Value)} {oc30 kV30 dc30 pm30 cd30 ct30 : Value} (a30 : PySem.W.nsIn K mainGlobals "_law_back_right" = some (some (.ref f30))) (l30 : K.lookup f30 = some ⟨oc30, od30, .func (PySem.W.fnOf "_law_back_right" "_law_back_right" (defArgs s_law_back_right) (defBody s_law_back_right) (defScope s_law_back_right) .none kV30 dc30 pm30 an30 cd30 ct30), sl30⟩) (c30 : PySem.W.codeIn K cd30 "_law_back_right" = true) (k30 : PySem.W.keepIn K (.ref f30) = true)
    {f31 : Addr} {od31 an31 : Option Addr} {sl31 : Array (Option Value)} {oc31 kV31 dc31 pm31 cd31 ct31 : Value} (a31 : PySem.W.nsIn K mainGlobals "_law_right" = some (some (.ref f31))) (l31 : K.lookup f31 = some ⟨oc31, od31, .func (PySem.W.fnOf "_law_right" "_law_right" (defArgs s_law_right) (defBody s_law_right) (defScope s_law_right) .none kV31 dc31 pm31 an31 cd31 ct31), sl31⟩) (c31 : PySem.W.codeIn K cd31 "_law_right" = true) (k31 : PySem.W.keepIn K (.ref f31) = true)
    {f32 : Addr} {od32 an32 : Option Addr} {sl32 : Array (Option Value)} {oc32 kV32 dc32 pm32 cd32 ct32 : Value} (a32 : PySem.W.nsIn K mainGlobals "law" = some (some (.ref f32))) (l32 : K.lookup f32 = some ⟨oc32, od32, .func (PySem.W.fnOf "law" "law" (defArgs s_law) (defBody s_law) (defScope s_law) .none kV32 dc32 pm32 an32 cd32 ct32), sl32⟩) (c32 : PySem.W.codeIn K cd32 "law" = true) (k32 : PySem.W.keepIn K (.ref f32) = true)
    (z0 : PySem.W.nsIn K mainGlobals "LookupError" = some none)
    (z1 : PySem.W.nsIn K mainGlobals "ValueError" = some none)
    (z2 : PySem.W.nsIn K mainGlobals "all" = some none)
    (z3 : PySem.W.nsIn K mainGlobals "any" = some none)
    (z4 : PySem.W.nsIn K mainGlobals "bool" = some none)
    (z5 : PySem.W.nsIn K mainGlobals "enumerate" = some none)
    (z6 : PySem.W.nsIn K mainGlobals "int" = some none)
    (z7 : PySem.W.nsIn K mainGlobals "isinstance" = some none)
    (z8 : PySem.W.nsIn K mainGlobals "len" = some none)
    (z9 : PySem.W.nsIn K mainGlobals "list" = some none)
    (z10 : PySem.W.nsIn K mainGlobals "max" = some none)
    (z11 : PySem.W.nsIn K mainGlobals "min" = some none)
    (z12 : PySem.W.nsIn K mainGlobals "range" = some none)
    (z13 : PySem.W.nsIn K mainGlobals "repr" = some none)
    (z14 : PySem.W.nsIn K mainGlobals "sorted" = some none)
    (z15 : PySem.W.nsIn K mainGlobals "sum" = some none)
    (z16 : PySem.W.nsIn K mainGlobals "zip" = some none)
    {t0 : Tok} (u0 : PySem.W.nsIn K mainGlobals "MOST_ROWS" = some (some (.int 8 t0)))
    {t1 : Tok} (u1 : PySem.W.nsIn K mainGlobals "MOST_LONG" = some (some (.int 8 t1)))
    : Cl P w K mg base 8 "law" ["script"] c_law := by
  have T : Txt mg := ⟨PySem.W.mg_none_of X G z0, PySem.W.mg_none_of X G z1, PySem.W.mg_none_of X G z2, PySem.W.mg_none_of X G z3, PySem.W.mg_none_of X G z4, PySem.W.mg_none_of X G z5, PySem.W.mg_none_of X G z6, PySem.W.mg_none_of X G z7, PySem.W.mg_none_of X G z8, PySem.W.mg_none_of X G z9, PySem.W.mg_none_of X G z10, PySem.W.mg_none_of X G z11, PySem.W.mg_none_of X G z12, PySem.W.mg_none_of X G z13, PySem.W.mg_none_of X G z14, PySem.W.mg_none_of X G z15, PySem.W.mg_none_of X G z16, ⟨_, PySem.W.mg_of X G u0⟩, ⟨_, PySem.W.mg_of X G u1⟩⟩
  have d_is_whole : Def K mg "is_whole" s_is_whole ["thing"] := mkDef X G a0 l0 c0 k0 fun fd F => F.binds (ps := ["thing"]) fun _ _ _ _ _ _ us hl => match us, hl with | [_], _ => rfl
  have r_is_whole := t_is_whole (P := P) (w := w) (base := base) T d_is_whole 
  have d_check_missing : Def K mg "check_missing" s_check_missing ["missing"] := mkDef X G a1 l1 c1 k1 fun fd F => F.binds (ps := ["missing"]) fun _ _ _ _ _ _ us hl => match us, hl with | [_], _ => rfl
  have r_check_missing := t_check_missing (P := P) (w := w) (base := base) (k := 1) T d_check_missing (r_is_whole.mono (by decide))
  have d_check_numbers : Def K mg "check_numbers" s_check_numbers ["row", "index"] := mkDef X G a2 l2 c2 k2 fun fd F => F.binds (ps := ["row", "index"]) fun _ _ _ _ _ _ us hl => match us, hl with | [_, _], _ => rfl
  have r_check_numbers := t_check_numbers (P := P) (w := w) (base := base) (k := 1) T d_check_numbers (r_is_whole.mono (by decide))
  have d_check_rows : Def K mg "check_rows" s_check_rows ["missing", "rows"] := mkDef X G a3 l3 c3 k3 fun fd F => F.binds (ps := ["missing", "rows"]) fun _ _ _ _ _ _ us hl => match us, hl with | [_, _], _ => rfl
  have r_check_rows := t_check_rows (P := P) (w := w) (base := base) (k := 2) T d_check_rows (r_check_numbers.mono (by decide))
  have d_number_at : Def K mg "number_at" s_number_at ["missing", "rows", "row", "column"] := mkDef X G a4 l4 c4 k4 fun fd F => F.binds (ps := ["missing", "rows", "row", "column"]) fun _ _ _ _ _ _ us hl => match us, hl with | [_, _, _, _], _ => rfl
  have r_number_at := t_number_at (P := P) (w := w) (base := base) (k := 0) T d_number_at 
  have d_wrong_rows : Def K mg "wrong_rows" s_wrong_rows ["missing", "rows"] := mkDef X G a5 l5 c5 k5 fun fd F => F.binds (ps := ["missing", "rows"]) fun _ _ _ _ _ _ us hl => match us, hl with | [_, _], _ => rfl
  have r_wrong_rows := t_wrong_rows (P := P) (w := w) (base := base) (k := 1) T d_wrong_rows (cov_c_number_at (r_number_at.mono (by decide)))
  have d_check_piece : Def K mg "check_piece" s_check_piece ["missing", "rows"] := mkDef X G a6 l6 c6 k6 fun fd F => F.binds (ps := ["missing", "rows"]) fun _ _ _ _ _ _ us hl => match us, hl with | [_, _], _ => rfl
  have r_check_piece := t_check_piece (P := P) (w := w) (base := base) (k := 3) T d_check_piece (r_check_missing.mono (by decide)) (r_check_rows.mono (by decide)) (r_wrong_rows.mono (by decide))
  have d_is_sorted : Def K mg "is_sorted" s_is_sorted ["missing", "rows"] := mkDef X G a7 l7 c7 k7 fun fd F => F.binds (ps := ["missing", "rows"]) fun _ _ _ _ _ _ us hl => match us, hl with | [_, _], _ => rfl
  have r_is_sorted := t_is_sorted (P := P) (w := w) (base := base) (k := 3) T d_is_sorted (r_check_missing.mono (by decide)) (r_check_rows.mono (by decide)) (r_wrong_rows.mono (by decide))
  have d_law_draws : Def K mg "_law_draws" s_law_draws ["cell"] := mkDef X G a8 l8 c8 k8 fun fd F => F.binds (ps := ["cell"]) fun _ _ _ _ _ _ us hl => match us, hl with | [_], _ => rfl
  have r_law_draws := t_law_draws (P := P) (w := w) (base := base) (k := 0) T d_law_draws 
  have d_law_next : Def K mg "_law_next" s_law_next ["draws"] := mkDef X G a9 l9 c9 k9 fun fd F => F.binds (ps := ["draws"]) fun _ _ _ _ _ _ us hl => match us, hl with | [_], _ => rfl
  have r_law_next := t_law_next (P := P) (w := w) (base := base) (k := 0) T d_law_next 
  have d_law_shape : Def K mg "_law_shape" s_law_shape ["draws", "high", "wide"] := mkDef X G a10 l10 c10 k10 fun fd F => F.binds (ps := ["draws", "high", "wide"]) fun _ _ _ _ _ _ us hl => match us, hl with | [_, _, _], _ => rfl
  have r_law_shape := t_law_shape (P := P) (w := w) (base := base) (k := 1) T d_law_shape (r_law_next.mono (by decide))
  have d_law_within : Def K mg "_law_within" s_law_within ["draws", "lengths"] := mkDef X G a11 l11 c11 k11 fun fd F => F.binds (ps := ["draws", "lengths"]) fun _ _ _ _ _ _ us hl => match us, hl with | [_, _], _ => rfl
  have r_law_within := t_law_within (P := P) (w := w) (base := base) (k := 1) T d_law_within (r_law_next.mono (by decide))
  have d_law_look : Def K mg "_law_look" s_law_look ["gone", "lines", "high", "wide"] := mkDef X G a12 l12 c12 k12 fun fd F => F.binds (ps := ["gone", "lines", "high", "wide"]) fun _ _ _ _ _ _ us hl => match us, hl with | [_, _, _, _], _ => rfl
  have r_law_look := t_law_look (P := P) (w := w) (base := base) (k := 0) T d_law_look 
  have d_law_piece : Def K mg "_law_piece" s_law_piece ["draws", "lengths", "step"] := mkDef X G a13 l13 c13 k13 fun fd F => F.binds (ps := ["draws", "lengths", "step"]) fun _ _ _ _ _ _ us hl => match us, hl with | [_, _, _], _ => rfl
  have r_law_piece := t_law_piece (P := P) (w := w) (base := base) (k := 2) T d_law_piece (r_law_next.mono (by decide)) (r_law_within.mono (by decide)) (cov_c_look (r_law_look.mono (by decide)))
  have d_copied : Def K mg "copied" s_copied ["rows"] := mkDef X G a14 l14 c14 k14 fun fd F => F.binds (ps := ["rows"]) fun _ _ _ _ _ _ us hl => match us, hl with | [_], _ => rfl
  have r_copied := t_copied (P := P) (w := w) (base := base) (k := 0) T d_copied 
  have d_lengths_in : Def K mg "lengths_in" s_lengths_in ["missing", "rows"] := mkDef X G a15 l15 c15 k15 fun fd F => F.binds (ps := ["missing", "rows"]) fun _ _ _ _ _ _ us hl => match us, hl with | [_, _], _ => rfl
  have r_lengths_in := t_lengths_in (P := P) (w := w) (base := base) (k := 0) T d_lengths_in 
  have d_holes_in : Def K mg "holes_in" s_holes_in ["missing"] := mkDef X G a16 l16 c16 k16 fun fd F => F.binds (ps := ["missing"]) fun _ _ _ _ _ _ us hl => match us, hl with | [_], _ => rfl
  have r_holes_in := t_holes_in (P := P) (w := w) (base := base) (k := 0) T d_holes_in 
  have d_ends_in : Def K mg "ends_in" s_ends_in ["missing", "rows"] := mkDef X G a17 l17 c17 k17 fun fd F => F.binds (ps := ["missing", "rows"]) fun _ _ _ _ _ _ us hl => match us, hl with | [_, _], _ => rfl
  have r_ends_in := t_ends_in (P := P) (w := w) (base := base) (k := 1) T d_ends_in (r_lengths_in.mono (by decide))
  have d_check_hole : Def K mg "check_hole" s_check_hole ["row", "missing"] := mkDef X G a18 l18 c18 k18 fun fd F => F.binds (ps := ["row", "missing"]) fun _ _ _ _ _ _ us hl => match us, hl with | [_, _], _ => rfl
  have r_check_hole := t_check_hole (P := P) (w := w) (base := base) (k := 1) T d_check_hole (r_is_whole.mono (by decide)) (r_holes_in.mono (by decide))
  have d_check_end : Def K mg "check_end" s_check_end ["row", "missing", "rows"] := mkDef X G a19 l19 c19 k19 fun fd F => F.binds (ps := ["row", "missing", "rows"]) fun _ _ _ _ _ _ us hl => match us, hl with | [_, _, _], _ => rfl
  have r_check_end := t_check_end (P := P) (w := w) (base := base) (k := 2) T d_check_end (r_is_whole.mono (by decide)) (r_ends_in.mono (by decide))
  have d_slid : Def K mg "slid" s_slid ["missing", "rows", "row"] := mkDef X G a20 l20 c20 k20 fun fd F => F.binds (ps := ["missing", "rows", "row"]) fun _ _ _ _ _ _ us hl => match us, hl with | [_, _, _], _ => rfl
  have r_slid := t_slid (P := P) (w := w) (base := base) (k := 1) T d_slid (r_copied.mono (by decide)) (r_number_at.mono (by decide))
  have d_law_slid : Def K mg "_law_slid" s_law_slid ["gone", "lines", "high"] := mkDef X G a21 l21 c21 k21 fun fd F => F.binds (ps := ["gone", "lines", "high"]) fun _ _ _ _ _ _ us hl => match us, hl with | [_, _, _], _ => rfl
  have r_law_slid := t_law_slid (P := P) (w := w) (base := base) (k := 1) T d_law_slid (r_law_look.mono (by decide))
  have d_slid_back : Def K mg "slid_back" s_slid_back ["missing", "rows", "row"] := mkDef X G a22 l22 c22 k22 fun fd F => F.binds (ps := ["missing", "rows", "row"]) fun _ _ _ _ _ _ us hl => match us, hl with | [_, _, _], _ => rfl
  have r_slid_back := t_slid_back (P := P) (w := w) (base := base) (k := 1) T d_slid_back (r_copied.mono (by decide)) (r_number_at.mono (by decide))
  have d_holes : Def K mg "holes" s_holes ["missing"] := mkDef X G a23 l23 c23 k23 fun fd F => F.binds (ps := ["missing"]) fun _ _ _ _ _ _ us hl => match us, hl with | [_], _ => rfl
  have r_holes := t_holes (P := P) (w := w) (base := base) (k := 2) T d_holes (r_check_missing.mono (by decide)) (r_holes_in.mono (by decide))
  have d_ends : Def K mg "ends" s_ends ["missing", "rows"] := mkDef X G a24 l24 c24 k24 fun fd F => F.binds (ps := ["missing", "rows"]) fun _ _ _ _ _ _ us hl => match us, hl with | [_, _], _ => rfl
  have r_ends := t_ends (P := P) (w := w) (base := base) (k := 4) T d_ends (r_check_piece.mono (by decide)) (r_ends_in.mono (by decide))
  have d_slide : Def K mg "slide" s_slide ["missing", "rows", "row"] := mkDef X G a25 l25 c25 k25 fun fd F => F.binds (ps := ["missing", "rows", "row"]) fun _ _ _ _ _ _ us hl => match us, hl with | [_, _, _], _ => rfl
  have r_slide := t_slide (P := P) (w := w) (base := base) (k := 4) T d_slide (r_check_piece.mono (by decide)) (r_check_hole.mono (by decide)) (r_slid.mono (by decide))
  have d_slide_back : Def K mg "slide_back" s_slide_back ["missing", "rows", "row"] := mkDef X G a26 l26 c26 k26 fun fd F => F.binds (ps := ["missing", "rows", "row"]) fun _ _ _ _ _ _ us hl => match us, hl with | [_, _, _], _ => rfl
  have r_slide_back := t_slide_back (P := P) (w := w) (base := base) (k := 4) T d_slide_back (r_check_piece.mono (by decide)) (r_check_end.mono (by decide)) (r_slid_back.mono (by decide))
  have d_law_holes : Def K mg "_law_holes" s_law_holes ["gone"] := mkDef X G a27 l27 c27 k27 fun fd F => F.binds (ps := ["gone"]) fun _ _ _ _ _ _ us hl => match us, hl with | [_], _ => rfl
  have r_law_holes := t_law_holes (P := P) (w := w) (base := base) (k := 0) T d_law_holes 
  have d_law_ends : Def K mg "_law_ends" s_law_ends ["gone", "lines"] := mkDef X G a28 l28 c28 k28 fun fd F => F.binds (ps := ["gone", "lines"]) fun _ _ _ _ _ _ us hl => match us, hl with | [_, _], _ => rfl
  have r_law_ends := t_law_ends (P := P) (w := w) (base := base) (k := 0) T d_law_ends 
  have d_law_slide_right : Def K mg "_law_slide_right" s_law_slide_right ["gone", "lines", "high"] := mkDef X G a29 l29 c29 k29 fun fd F => F.binds (ps := ["gone", "lines", "high"]) fun _ _ _ _ _ _ us hl => match us, hl with | [_, _, _], _ => rfl
  have r_law_slide_right := t_law_slide_right (P := P) (w := w) (base := base) (k := 5) T d_law_slide_right (r_law_slid.mono (by decide)) (r_slide.mono (by decide)) (r_is_sorted.mono (by decide)) (r_slide_back.mono (by decide))
  have d_law_back_right : Def K mg "_law_back_right" s_law_back_right ["gone", "lines", "high"] := mkDef X G a30 l30 c30 k30 fun fd F => F.binds (ps := ["gone", "lines", "high"]) fun _ _ _ _ _ _ us hl => match us, hl with | [_, _, _], _ => rfl
  have r_law_back_right := t_law_back_right (P := P) (w := w) (base := base) (k := 5) T d_law_back_right (r_slide_back.mono (by decide)) (r_is_sorted.mono (by decide)) (r_holes.mono (by decide)) (r_slide.mono (by decide))
  have d_law_right : Def K mg "_law_right" s_law_right ["gone", "lines"] := mkDef X G a31 l31 c31 k31 fun fd F => F.binds (ps := ["gone", "lines"]) fun _ _ _ _ _ _ us hl => match us, hl with | [_, _], _ => rfl
  have r_law_right := t_law_right (P := P) (w := w) (base := base) (k := 6) T d_law_right (r_holes.mono (by decide)) (r_ends.mono (by decide)) (r_law_holes.mono (by decide)) (r_law_ends.mono (by decide)) (r_law_slide_right.mono (by decide)) (r_law_back_right.mono (by decide))
  have d_law : Def K mg "law" s_law ["script"] := mkDef X G a32 l32 c32 k32 fun fd F => F.binds (ps := ["script"]) fun _ _ _ _ _ _ us hl => match us, hl with | [_], _ => rfl
  have r_law := t_law (P := P) (w := w) (base := base) (k := 7) T d_law (r_law_draws.mono (by decide)) (r_law_shape.mono (by decide)) (r_law_piece.mono (by decide)) (r_law_right.mono (by decide)) (r_slide.cl.mono (by decide)) (r_slide_back.cl.mono (by decide))
  exact r_law
end Hs
open PySem PySem.W PyProof.Rows
set_option maxHeartbeats 0 in
theorem PySem.Challenge.cw_holeslides_k10_whole_slides_holds : PySem.Challenge.rw_holeslides_k10_whole_slides.Holds := by
  w_on; o_law; k_head; (case hw => w_witness2)
  k_fill
  refine Vl.walk_G (l := PySem.Challenge.rw_holeslides_k10_whole_slides) (n := 63) (k := 8) (nm := "law") (C := Hs.c_law) rfl (by decide) rfl ⟨rfl, by decide, by decide⟩ (fun w h Y => PySem.W.kIn_of Y) rfl ?F (fun sc hl => ⟨sc, rfl, hl, fun y xs z => z⟩)
  case F =>
    intro w mg h KX G base kb nb
    refine' Hs.all_mk KX G ?a0 ?l0 ?c0 ?k0 ?a1 ?l1 ?c1 ?k1 ?a2 ?l2 ?c2 ?k2 ?a3 ?l3 ?c3 ?k3 ?a4 ?l4 ?c4 ?k4 ?a5 ?l5 ?c5 ?k5 ?a6 ?l6 ?c6 ?k6 ?a7 ?l7 ?c7 ?k7 ?a8 ?l8 ?c8 ?k8 ?a9 ?l9 ?c9 ?k9 ?a10 ?l10 ?c10 ?k10 ?a11 ?l11 ?c11 ?k11 ?a12 ?l12 ?c12 ?k12 ?a13 ?l13 ?c13 ?k13 ?a14 ?l14 ?c14 ?k14 ?a15 ?l15 ?c15 ?k15 ?a16 ?l16 ?c16 ?k16 ?a17 ?l17 ?c17 ?k17 ?a18 ?l18 ?c18 ?k18 ?a19 ?l19 ?c19 ?k19 ?a20 ?l20 ?c20 ?k20 ?a21 ?l21 ?c21 ?k21 ?a22 ?l22 ?c22 ?k22 ?a23 ?l23 ?c23 ?k23 ?a24 ?l24 ?c24 ?k24 ?a25 ?l25 ?c25 ?k25 ?a26 ?l26 ?c26 ?k26 ?a27 ?l27 ?c27 ?k27 ?a28 ?l28 ?c28 ?k28 ?a29 ?l29 ?c29 ?k29 ?a30 ?l30 ?c30 ?k30 ?a31 ?l31 ?c31 ?k31 ?a32 ?l32 ?c32 ?k32 ?z0 ?z1 ?z2 ?z3 ?z4 ?z5 ?z6 ?z7 ?z8 ?z9 ?z10 ?z11 ?z12 ?z13 ?z14 ?z15 ?z16 ?u0 ?u1
    (case a0 => k_is); (case l0 => k_is); (case c0 => k_is); (case k0 => k_is); (case a1 => k_is); (case l1 => k_is); (case c1 => k_is); (case k1 => k_is); (case a2 => k_is); (case l2 => k_is); (case c2 => k_is); (case k2 => k_is); (case a3 => k_is); (case l3 => k_is); (case c3 => k_is); (case k3 => k_is); (case a4 => k_is); (case l4 => k_is); (case c4 => k_is); (case k4 => k_is); (case a5 => k_is); (case l5 => k_is); (case c5 => k_is); (case k5 => k_is); (case a6 => k_is); (case l6 => k_is); (case c6 => k_is); (case k6 => k_is); (case a7 => k_is); (case l7 => k_is); (case c7 => k_is); (case k7 => k_is); (case a8 => k_is); (case l8 => k_is); (case c8 => k_is); (case k8 => k_is); (case a9 => k_is); (case l9 => k_is); (case c9 => k_is); (case k9 => k_is); (case a10 => k_is); (case l10 => k_is); (case c10 => k_is); (case k10 => k_is); (case a11 => k_is); (case l11 => k_is); (case c11 => k_is); (case k11 => k_is); (case a12 => k_is); (case l12 => k_is); (case c12 => k_is); (case k12 => k_is); (case a13 => k_is); (case l13 => k_is); (case c13 => k_is); (case k13 => k_is); (case a14 => k_is); (case l14 => k_is); (case c14 => k_is); (case k14 => k_is); (case a15 => k_is); (case l15 => k_is); (case c15 => k_is); (case k15 => k_is); (case a16 => k_is); (case l16 => k_is); (case c16 => k_is); (case k16 => k_is); (case a17 => k_is); (case l17 => k_is); (case c17 => k_is); (case k17 => k_is); (case a18 => k_is); (case l18 => k_is); (case c18 => k_is); (case k18 => k_is); (case a19 => k_is); (case l19 => k_is); (case c19 => k_is); (case k19 => k_is); (case a20 => k_is); (case l20 => k_is); (case c20 => k_is); (case k20 => k_is); (case a21 => k_is); (case l21 => k_is); (case c21 => k_is); (case k21 => k_is); (case a22 => k_is); (case l22 => k_is); (case c22 => k_is); (case k22 => k_is); (case a23 => k_is); (case l23 => k_is); (case c23 => k_is); (case k23 => k_is); (case a24 => k_is); (case l24 => k_is); (case c24 => k_is); (case k24 => k_is); (case a25 => k_is); (case l25 => k_is); (case c25 => k_is); (case k25 => k_is); (case a26 => k_is); (case l26 => k_is); (case c26 => k_is); (case k26 => k_is); (case a27 => k_is); (case l27 => k_is); (case c27 => k_is); (case k27 => k_is); (case a28 => k_is); (case l28 => k_is); (case c28 => k_is); (case k28 => k_is); (case a29 => k_is); (case l29 => k_is); (case c29 => k_is); (case k29 => k_is); (case a30 => k_is); (case l30 => k_is); (case c30 => k_is); (case k30 => k_is); (case a31 => k_is); (case l31 => k_is); (case c31 => k_is); (case k31 => k_is); (case a32 => k_is); (case l32 => k_is); (case c32 => k_is); (case k32 => k_is); (case z0 => k_is); (case z1 => k_is); (case z2 => k_is); (case z3 => k_is); (case z4 => k_is); (case z5 => k_is); (case z6 => k_is); (case z7 => k_is); (case z8 => k_is); (case z9 => k_is); (case z10 => k_is); (case z11 => k_is); (case z12 => k_is); (case z13 => k_is); (case z14 => k_is); (case z15 => k_is); (case z16 => k_is); (case u0 => k_is); (case u1 => k_is)

