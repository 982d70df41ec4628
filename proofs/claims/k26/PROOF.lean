import PyProof.Rows.All
import Wide.All
import OpenK.AllK
import Wide.FinOn
import HandS.ForMost
import HandS.ForExc
import HandS.Wide
import HandS.HeadHook2
import HandS.CallSlots
import KE.GoesZip
import KE.GoesMore
import KE.GoesEnum
import HandS.Iter
import HandS.Zip
import HandS.Style
import HandS.TupAny
import HandS.Deep
import HandS.TupLe
import PyProof.MaxThree
import HandS.StrMore
import KE.KExcSuper
import KE.KExcPX
import HandS.ExcSuper
import HandS.TryMany
import HandS.ExcIs
import HandS.ExcOwn
import HandS.IsInst
import HandS.Defaults
import HandS.Head0
import HandS.Head1
import HandS.Head2
import HandS.HeadEnd
import HandS.HeadHook1
import PySem.Challenge.RW_pushtells_k26_whole_judges_of_fillings_a
set_option Elab.async false
set_option linter.all false
set_option maxRecDepth 100000
set_option maxHeartbeats 2000000
/-! PT: a def's body as a plain function on data. Data (D), what stands for it in the heap (Is), what a frame owns (Own), the state (StOk), a step. -/
namespace PT
open PySem PySem.Spec PyProof.Rows L2

/-- data -/
inductive D where
  | non | bl (b : Bool) | int (i : Int) | str (s : Str)
  | tup (ds : List D) | lst (ds : List D)
  | obj (c : Str) (fs : List (Str × D))
  | ty (n : String) | glo (x : Str)
  | scr (ds : List D)
  deriving Inhabited

mutual
def Is (K : PySem.W.Frag) (F : Hp) : D → V → Prop
  | .non, v => v = .non
  | .bl b, v => v = .bl b
  | .int i, v => v = .int i
  | .str s, v => v = .str s
  | .ty n, v => v = .ty n
  | .glo x, v => v = .ref (He.ga K x)
  | .tup ds, v => ∃ p xs, v = .ref p ∧ SqT K F p xs ∧ IsL K F ds xs
  | .lst ds, v => ∃ p xs, v = .ref p ∧ F p = some (.lst xs) ∧ IsL K F ds xs
  | .obj c fs, v => ∃ p dx gs, v = .ref p ∧ F p = some (.ins (He.ga K c) dx gs) ∧ IsF K F fs gs
  | .scr ds, v => ∃ p xs, v = .ref p ∧ SqL K F p xs ∧ IsL K F ds xs
def IsL (K : PySem.W.Frag) (F : Hp) : List D → List V → Prop
  | [], xs => xs = []
  | d :: ds, xs => ∃ y ys, xs = y :: ys ∧ Is K F d y ∧ IsL K F ds ys
def IsF (K : PySem.W.Frag) (F : Hp) : List (Str × D) → List (Str × V) → Prop
  | [], gs => gs = []
  | (f, d) :: fs, gs => ∃ y r, gs = (f, y) :: r ∧ Is K F d y ∧ IsF K F fs r
end

theorem sqT_mono {K : PySem.W.Frag} {F F' : Hp} {a : Addr} {xs : List V} (e : Same F F') (h : SqT K F a xs) : SqT K F' a xs := by
  rcases h with (h | ⟨o, h⟩) | h
  · exact .inl (.inl (e _ _ h))
  · exact .inl (.inr ⟨o, e _ _ h⟩)
  · exact .inr h
theorem rd_mono {F F' : Hp} {a : Addr} {u : HO} (e : Same F F') (h : Rd F a u) : Rd F' a u := by
  rcases h with h | ⟨o, h⟩
  · exact .inl (e _ _ h)
  · exact .inr ⟨o, e _ _ h⟩
theorem sqL_mono {K : PySem.W.Frag} {F F' : Hp} {a : Addr} {xs : List V} (e : Same F F') (h : SqL K F a xs) : SqL K F' a xs := e.seq h

mutual
theorem Is.mono {K : PySem.W.Frag} {F F' : Hp} (e : Same F F') : ∀ (d : D) (v : V), Is K F d v → Is K F' d v
  | .non, v, h => by simpa only [Is] using h
  | .bl _, v, h => by simpa only [Is] using h
  | .int _, v, h => by simpa only [Is] using h
  | .str _, v, h => by simpa only [Is] using h
  | .ty _, v, h => by simpa only [Is] using h
  | .glo _, v, h => by simpa only [Is] using h
  | .tup ds, v, h => by
    simp only [Is] at h ⊢
    obtain ⟨p, xs, e1, h1, h2⟩ := h
    exact ⟨p, xs, e1, sqT_mono e h1, IsL.mono e ds xs h2⟩
  | .lst ds, v, h => by
    simp only [Is] at h ⊢
    obtain ⟨p, xs, e1, h1, h2⟩ := h
    exact ⟨p, xs, e1, e _ _ h1, IsL.mono e ds xs h2⟩
  | .obj c fs, v, h => by
    simp only [Is] at h ⊢
    obtain ⟨p, dx, gs, e1, h1, h2⟩ := h
    exact ⟨p, dx, gs, e1, e _ _ h1, IsF.mono e fs gs h2⟩
  | .scr ds, v, h => by
    simp only [Is] at h ⊢
    obtain ⟨p, xs, e1, h1, h2⟩ := h
    exact ⟨p, xs, e1, sqL_mono e h1, IsL.mono e ds xs h2⟩
theorem IsL.mono {K : PySem.W.Frag} {F F' : Hp} (e : Same F F') : ∀ (ds : List D) (xs : List V), IsL K F ds xs → IsL K F' ds xs
  | [], xs, h => by simpa only [IsL] using h
  | d :: ds, xs, h => by
    simp only [IsL] at h ⊢
    obtain ⟨y, ys, e1, h1, h2⟩ := h
    exact ⟨y, ys, e1, Is.mono e d y h1, IsL.mono e ds ys h2⟩
theorem IsF.mono {K : PySem.W.Frag} {F F' : Hp} (e : Same F F') : ∀ (fs : List (Str × D)) (gs : List (Str × V)), IsF K F fs gs → IsF K F' fs gs
  | [], gs, h => by simpa only [IsF] using h
  | (f, d) :: fs, gs, h => by
    simp only [IsF] at h ⊢
    obtain ⟨y, ys, e1, h1, h2⟩ := h
    exact ⟨y, ys, e1, Is.mono e d y h1, IsF.mono e fs ys h2⟩
end

/-- what a frame owns: the shape -/
inductive O where
  | fz | any | lst (o : O) | hl (os : List O) | obj (c : Str) (os : List (Str × O)) | ob (c : Str)
  deriving Inhabited
abbrev AS := Addr → Prop
def OwnL (R : D → V → AS → Prop) : List D → List V → AS → Prop
  | [], xs, A => xs = [] ∧ ∀ a, ¬ A a
  | d :: ds, xs, A => ∃ y ys A1 A2, xs = y :: ys ∧ R d y A1 ∧ OwnL R ds ys A2 ∧ (∀ a, A1 a → ¬ A2 a) ∧ ∀ a, A a ↔ A1 a ∨ A2 a
mutual
def Own (K : PySem.W.Frag) (F H : Hp) : O → D → V → AS → Prop
  | .any, _, _, A => ∀ a, ¬ A a
  | .fz, d, v, A => Is K F d v ∧ ∀ a, ¬ A a
  | .lst o, d, v, A => ∃ ds p xs A1, d = .lst ds ∧ v = .ref p ∧ H p = some (.lst xs) ∧ OwnL (Own K F H o) ds xs A1 ∧ ¬ A1 p ∧ ∀ a, A a ↔ a = p ∨ A1 a
  | .hl os, d, v, A => ∃ ds p xs A1, d = .lst ds ∧ v = .ref p ∧ H p = some (.lst xs) ∧ OwnH K F H os ds xs A1 ∧ ¬ A1 p ∧ ∀ a, A a ↔ a = p ∨ A1 a
  | .obj c os, d, v, A => ∃ fs p dx gs A1, d = .obj c fs ∧ v = .ref p ∧ H p = some (.ins (He.ga K c) dx gs) ∧ OwnF K F H os fs gs A1 ∧ ¬ A1 p ∧ ∀ a, A a ↔ a = p ∨ A1 a
  | .ob c, d, v, A => ∃ fs p dx gs, d = .obj c fs ∧ v = .ref p ∧ H p = some (.ins (He.ga K c) dx gs) ∧ IsF K F fs gs ∧ ∀ a, A a ↔ a = p
def OwnH (K : PySem.W.Frag) (F H : Hp) : List O → List D → List V → AS → Prop
  | [], ds, xs, A => ds = [] ∧ xs = [] ∧ ∀ a, ¬ A a
  | o :: os, ds, xs, A => ∃ d ds' y ys A1 A2, ds = d :: ds' ∧ xs = y :: ys ∧ Own K F H o d y A1 ∧ OwnH K F H os ds' ys A2 ∧ (∀ a, A1 a → ¬ A2 a) ∧ ∀ a, A a ↔ A1 a ∨ A2 a
def OwnF (K : PySem.W.Frag) (F H : Hp) : List (Str × O) → List (Str × D) → List (Str × V) → AS → Prop
  | [], fs, gs, A => fs = [] ∧ gs = [] ∧ ∀ a, ¬ A a
  | (f, o) :: os, fs, gs, A => ∃ d fs' y gs' A1 A2, fs = (f, d) :: fs' ∧ gs = (f, y) :: gs' ∧ Own K F H o d y A1 ∧ OwnF K F H os fs' gs' A2 ∧ (∀ a, A1 a → ¬ A2 a) ∧ ∀ a, A a ↔ A1 a ∨ A2 a
end

/-- F with what H has at A -/
noncomputable def addH (F H : Hp) (A : AS) : Hp := fun a => open Classical in if A a then H a else F a
theorem addH_in {F H : Hp} {A : AS} {a : Addr} (h : A a) : addH F H A a = H a := by unfold addH; exact if_pos h
theorem addH_out {F H : Hp} {A : AS} {a : Addr} (h : ¬ A a) : addH F H A a = F a := by unfold addH; exact if_neg h
theorem addH_same {F H : Hp} {A : AS} (h : ∀ a, A a → F a = none) : Same F (addH F H A) := fun a o e => by
  by_cases q : A a
  · rw [h a q] at e; cases e
  · rw [addH_out q]; exact e
theorem addH_le {F H : Hp} {A : AS} (h : Same F H) : Same (addH F H A) H := fun a o e => by
  by_cases q : A a
  · rw [addH_in q] at e; exact e
  · rw [addH_out q] at e; exact h a o e

theorem OwnL.imp {R R' : D → V → AS → Prop} (h : ∀ d v A, R d v A → R' d v A) : ∀ ds xs A, OwnL R ds xs A → OwnL R' ds xs A
  | [], xs, A, q => q
  | d :: ds, xs, A, q => by
    obtain ⟨y, ys, A1, A2, e, q1, q2, q3, q4⟩ := q
    exact ⟨y, ys, A1, A2, e, h _ _ _ q1, OwnL.imp h ds ys A2 q2, q3, q4⟩
theorem OwnL.impA {R R' : D → V → AS → Prop} : ∀ ds xs A, (∀ d v B, (∀ a, B a → A a) → R d v B → R' d v B) → OwnL R ds xs A → OwnL R' ds xs A
  | [], xs, A, h, q => q
  | d :: ds, xs, A, h, q => by
    obtain ⟨y, ys, A1, A2, e, q1, q2, q3, q4⟩ := q
    exact ⟨y, ys, A1, A2, e, h _ _ _ (fun a z => (q4 a).mpr (.inl z)) q1, OwnL.impA ds ys A2 (fun d v B hB => h d v B fun a z => (q4 a).mpr (.inr (hB a z))) q2, q3, q4⟩

-- what is owned leans on its own addresses
mutual
theorem Own.loc {K : PySem.W.Frag} {F F' H H' : Hp} (e : Same F F') : ∀ (o : O) (d : D) (v : V) (A : AS), (∀ a u, A a → H a = some u → H' a = some u) → Own K F H o d v A → Own K F' H' o d v A
  | .any, d, v, A, k, h => by simpa only [Own] using h
  | .fz, d, v, A, k, h => by
    simp only [Own] at h ⊢
    exact ⟨Is.mono e d v h.1, h.2⟩
  | .lst o, d, v, A, k, h => by
    simp only [Own] at h ⊢
    obtain ⟨ds, p, xs, A1, e1, e2, h1, h2, h3, h4⟩ := h
    exact ⟨ds, p, xs, A1, e1, e2, k _ _ ((h4 p).mpr (.inl rfl)) h1, OwnL.impA (R := Own K F H o) (R' := Own K F' H' o) ds xs A1 (fun d v B hB => Own.loc e o d v B fun a u z => k a u ((h4 a).mpr (.inr (hB a z)))) h2, h3, h4⟩
  | .hl os, d, v, A, k, h => by
    simp only [Own] at h ⊢
    obtain ⟨ds, p, xs, A1, e1, e2, h1, h2, h3, h4⟩ := h
    exact ⟨ds, p, xs, A1, e1, e2, k _ _ ((h4 p).mpr (.inl rfl)) h1, OwnH.loc e os ds xs A1 (fun a u z => k a u ((h4 a).mpr (.inr z))) h2, h3, h4⟩
  | .obj c os, d, v, A, k, h => by
    simp only [Own] at h ⊢
    obtain ⟨fs, p, dx, gs, A1, e1, e2, h1, h2, h3, h4⟩ := h
    exact ⟨fs, p, dx, gs, A1, e1, e2, k _ _ ((h4 p).mpr (.inl rfl)) h1, OwnF.loc e os fs gs A1 (fun a u z => k a u ((h4 a).mpr (.inr z))) h2, h3, h4⟩
  | .ob c, d, v, A, k, h => by
    simp only [Own] at h ⊢
    obtain ⟨fs, p, dx, gs, e1, e2, h1, h2, h4⟩ := h
    exact ⟨fs, p, dx, gs, e1, e2, k _ _ ((h4 p).mpr rfl) h1, IsF.mono e fs gs h2, h4⟩
theorem OwnH.loc {K : PySem.W.Frag} {F F' H H' : Hp} (e : Same F F') : ∀ (os : List O) (ds : List D) (xs : List V) (A : AS), (∀ a u, A a → H a = some u → H' a = some u) → OwnH K F H os ds xs A → OwnH K F' H' os ds xs A
  | [], ds, xs, A, k, h => by simpa only [OwnH] using h
  | o :: os, ds, xs, A, k, h => by
    simp only [OwnH] at h ⊢
    obtain ⟨d, ds', y, ys, A1, A2, e1, e2, h1, h2, h3, h4⟩ := h
    exact ⟨d, ds', y, ys, A1, A2, e1, e2, Own.loc e o d y A1 (fun a u z => k a u ((h4 a).mpr (.inl z))) h1, OwnH.loc e os ds' ys A2 (fun a u z => k a u ((h4 a).mpr (.inr z))) h2, h3, h4⟩
theorem OwnF.loc {K : PySem.W.Frag} {F F' H H' : Hp} (e : Same F F') : ∀ (os : List (Str × O)) (fs : List (Str × D)) (gs : List (Str × V)) (A : AS), (∀ a u, A a → H a = some u → H' a = some u) → OwnF K F H os fs gs A → OwnF K F' H' os fs gs A
  | [], fs, gs, A, k, h => by simpa only [OwnF] using h
  | (f, o) :: os, fs, gs, A, k, h => by
    simp only [OwnF] at h ⊢
    obtain ⟨d, fs', y, gs', A1, A2, e1, e2, h1, h2, h3, h4⟩ := h
    exact ⟨d, fs', y, gs', A1, A2, e1, e2, Own.loc e o d y A1 (fun a u z => k a u ((h4 a).mpr (.inl z))) h1, OwnF.loc e os fs' gs' A2 (fun a u z => k a u ((h4 a).mpr (.inr z))) h2, h3, h4⟩
end
theorem OwnL.thereL {H : Hp} {R : D → V → AS → Prop} (h : ∀ d v A, R d v A → ∀ a, A a → H a ≠ none) : ∀ ds xs A, OwnL R ds xs A → ∀ a, A a → H a ≠ none
  | [], xs, A, q, a, z => absurd z (q.2 a)
  | d :: ds, xs, A, q, a, z => by
    obtain ⟨y, ys, A1, A2, e, q1, q2, q3, q4⟩ := q
    rcases (q4 a).mp z with z | z
    · exact h _ _ _ q1 a z
    · exact OwnL.thereL h ds ys A2 q2 a z
-- what is owned stands in the heap
mutual
theorem Own.there {K : PySem.W.Frag} {F H : Hp} : ∀ (o : O) (d : D) (v : V) (A : AS), Own K F H o d v A → ∀ a, A a → H a ≠ none
  | .any, d, v, A, h, a, z => by simp only [Own] at h; exact absurd z (h a)
  | .fz, d, v, A, h, a, z => by simp only [Own] at h; exact absurd z (h.2 a)
  | .lst o, d, v, A, h, a, z => by
    simp only [Own] at h
    obtain ⟨ds, p, xs, A1, e1, e2, h1, h2, h3, h4⟩ := h
    rcases (h4 a).mp z with rfl | z
    · rw [h1]; exact fun q => nomatch q
    · exact OwnL.thereL (R := Own K F H o) (fun d v A => Own.there o d v A) ds xs A1 h2 a z
  | .hl os, d, v, A, h, a, z => by
    simp only [Own] at h
    obtain ⟨ds, p, xs, A1, e1, e2, h1, h2, h3, h4⟩ := h
    rcases (h4 a).mp z with rfl | z
    · rw [h1]; exact fun q => nomatch q
    · exact OwnH.there os ds xs A1 h2 a z
  | .obj c os, d, v, A, h, a, z => by
    simp only [Own] at h
    obtain ⟨fs, p, dx, gs, A1, e1, e2, h1, h2, h3, h4⟩ := h
    rcases (h4 a).mp z with rfl | z
    · rw [h1]; exact fun q => nomatch q
    · exact OwnF.there os fs gs A1 h2 a z
  | .ob c, d, v, A, h, a, z => by
    simp only [Own] at h
    obtain ⟨fs, p, dx, gs, e1, e2, h1, h2, h4⟩ := h
    obtain rfl := (h4 a).mp z
    rw [h1]; exact fun q => nomatch q
theorem OwnH.there {K : PySem.W.Frag} {F H : Hp} : ∀ (os : List O) (ds : List D) (xs : List V) (A : AS), OwnH K F H os ds xs A → ∀ a, A a → H a ≠ none
  | [], ds, xs, A, h, a, z => by simp only [OwnH] at h; exact absurd z (h.2.2 a)
  | o :: os, ds, xs, A, h, a, z => by
    simp only [OwnH] at h
    obtain ⟨d, ds', y, ys, A1, A2, e1, e2, h1, h2, h3, h4⟩ := h
    rcases (h4 a).mp z with z | z
    · exact Own.there o d y A1 h1 a z
    · exact OwnH.there os ds' ys A2 h2 a z
theorem OwnF.there {K : PySem.W.Frag} {F H : Hp} : ∀ (os : List (Str × O)) (fs : List (Str × D)) (gs : List (Str × V)) (A : AS), OwnF K F H os fs gs A → ∀ a, A a → H a ≠ none
  | [], fs, gs, A, h, a, z => by simp only [OwnF] at h; exact absurd z (h.2.2 a)
  | (f, o) :: os, fs, gs, A, h, a, z => by
    simp only [OwnF] at h
    obtain ⟨d, fs', y, gs', A1, A2, e1, e2, h1, h2, h3, h4⟩ := h
    rcases (h4 a).mp z with z | z
    · exact Own.there o d y A1 h1 a z
    · exact OwnF.there os fs' gs' A2 h2 a z
end
/-- what is owned may be frozen -/
def O.frz : O → Bool
  | .any => false
  | .fz => true
  | .lst o => o.frz
  | .hl os => frzL os
  | .obj _ os => frzF os
  | .ob _ => true
where
  frzL : List O → Bool
    | [] => true
    | o :: os => o.frz && frzL os
  frzF : List (Str × O) → Bool
    | [] => true
    | (_, o) :: os => o.frz && frzF os
theorem OwnL.freeze {K : PySem.W.Frag} {Z : Hp} {R : D → V → AS → Prop} : ∀ ds xs A, (∀ d v B, (∀ a, B a → A a) → R d v B → Is K Z d v) → OwnL R ds xs A → IsL K Z ds xs
  | [], xs, A, h, q => by simp only [IsL]; exact q.1
  | d :: ds, xs, A, h, q => by
    obtain ⟨y, ys, A1, A2, e, q1, q2, q3, q4⟩ := q
    simp only [IsL]
    exact ⟨y, ys, e, h _ _ _ (fun a z => (q4 a).mpr (.inl z)) q1, OwnL.freeze ds ys A2 (fun d v B hB => h d v B fun a z => (q4 a).mpr (.inr (hB a z))) q2⟩
mutual
theorem Own.freeze {K : PySem.W.Frag} {F H Z : Hp} (e : Same F Z) : ∀ (o : O) (d : D) (v : V) (A : AS), o.frz = true → (∀ a u, A a → H a = some u → Z a = some u) → Own K F H o d v A → Is K Z d v
  | .any, d, v, A, f, k, h => by simp [O.frz] at f
  | .fz, d, v, A, f, k, h => by
    simp only [Own] at h
    exact Is.mono e d v h.1
  | .lst o, d, v, A, f, k, h => by
    simp only [Own] at h
    obtain ⟨ds, p, xs, A1, e1, e2, h1, h2, h3, h4⟩ := h
    subst e1
    simp only [Is]
    exact ⟨p, xs, e2, k _ _ ((h4 p).mpr (.inl rfl)) h1, OwnL.freeze (R := Own K F H o) ds xs A1 (fun d v B hB => Own.freeze e o d v B (by simpa [O.frz] using f) fun a u z => k a u ((h4 a).mpr (.inr (hB a z)))) h2⟩
  | .hl os, d, v, A, f, k, h => by
    simp only [Own] at h
    obtain ⟨ds, p, xs, A1, e1, e2, h1, h2, h3, h4⟩ := h
    subst e1
    simp only [Is]
    exact ⟨p, xs, e2, k _ _ ((h4 p).mpr (.inl rfl)) h1, OwnH.freeze e os ds xs A1 (by simpa [O.frz] using f) (fun a u z => k a u ((h4 a).mpr (.inr z))) h2⟩
  | .obj c os, d, v, A, f, k, h => by
    simp only [Own] at h
    obtain ⟨fs, p, dx, gs, A1, e1, e2, h1, h2, h3, h4⟩ := h
    subst e1
    simp only [Is]
    exact ⟨p, dx, gs, e2, k _ _ ((h4 p).mpr (.inl rfl)) h1, OwnF.freeze e os fs gs A1 (by simpa [O.frz] using f) (fun a u z => k a u ((h4 a).mpr (.inr z))) h2⟩
  | .ob c, d, v, A, f, k, h => by
    simp only [Own] at h
    obtain ⟨fs, p, dx, gs, e1, e2, h1, h2, h4⟩ := h
    subst e1
    simp only [Is]
    exact ⟨p, dx, gs, e2, k _ _ ((h4 p).mpr rfl) h1, IsF.mono e fs gs h2⟩
theorem OwnH.freeze {K : PySem.W.Frag} {F H Z : Hp} (e : Same F Z) : ∀ (os : List O) (ds : List D) (xs : List V) (A : AS), O.frz.frzL os = true → (∀ a u, A a → H a = some u → Z a = some u) → OwnH K F H os ds xs A → IsL K Z ds xs
  | [], ds, xs, A, f, k, h => by
    simp only [OwnH] at h
    obtain ⟨e1, e2, _⟩ := h
    subst e1
    simp only [IsL]
    exact e2
  | o :: os, ds, xs, A, f, k, h => by
    simp only [OwnH] at h
    obtain ⟨d, ds', y, ys, A1, A2, e1, e2, h1, h2, h3, h4⟩ := h
    subst e1
    simp only [O.frz.frzL, Bool.and_eq_true] at f
    simp only [IsL]
    exact ⟨y, ys, e2, Own.freeze e o d y A1 f.1 (fun a u z => k a u ((h4 a).mpr (.inl z))) h1, OwnH.freeze e os ds' ys A2 f.2 (fun a u z => k a u ((h4 a).mpr (.inr z))) h2⟩
theorem OwnF.freeze {K : PySem.W.Frag} {F H Z : Hp} (e : Same F Z) : ∀ (os : List (Str × O)) (fs : List (Str × D)) (gs : List (Str × V)) (A : AS), O.frz.frzF os = true → (∀ a u, A a → H a = some u → Z a = some u) → OwnF K F H os fs gs A → IsF K Z fs gs
  | [], fs, gs, A, f, k, h => by
    simp only [OwnF] at h
    obtain ⟨e1, e2, _⟩ := h
    subst e1
    simp only [IsF]
    exact e2
  | (g, o) :: os, fs, gs, A, f, k, h => by
    simp only [OwnF] at h
    obtain ⟨d, fs', y, gs', A1, A2, e1, e2, h1, h2, h3, h4⟩ := h
    subst e1
    simp only [O.frz.frzF, Bool.and_eq_true] at f
    simp only [IsF]
    exact ⟨y, gs', e2, Own.freeze e o d y A1 f.1 (fun a u z => k a u ((h4 a).mpr (.inl z))) h1, OwnF.freeze e os fs' gs' A2 f.2 (fun a u z => k a u ((h4 a).mpr (.inr z))) h2⟩
end
end PT

set_option Elab.async false
set_option linter.all false
set_option maxRecDepth 100000
set_option maxHeartbeats 2000000
/-! PT: the state of a frame, a step -/
namespace PT
open PySem PySem.Spec PyProof.Rows L2

/-- a slot: owned (.ow), lent to be changed (.pr), lent to be read (.sh), an exception that a suite holds (.ex) -/
inductive SO where
  | ow (o : O) | pr (o : O) (v : V) | sh (o : O) | ex (a : Addr) (cls : Value) (dd : Option Addr)
abbrev Ev := List (Option D)
abbrev Ty := List SO
def SlotOk (K : PySem.W.Frag) (G F H : Hp) (s : SO) (x : Option D) (v : Option V) (A : AS) : Prop :=
  match x with
  | none => ∀ a, ¬ A a
  | some d => match s with
    | .ow o => ∃ y, v = some y ∧ Own K F H o d y A
    | .pr o w => v = some w ∧ Own K F H o d w A
    | .sh o => (∀ a, ¬ A a) ∧ ∃ y B, v = some y ∧ Own K F G o d y B
    | .ex a cls dd => (∀ a, ¬ A a) ∧ v = some (.ref a) ∧ ∃ c fs, d = .obj c fs ∧ cls = .ref (He.ga K c) ∧ ((fs = [] ∧ dd = none) ∨ ∃ q gs, dd = some q ∧ F q = some (.xd gs) ∧ IsF K F fs gs)
def Slots (K : PySem.W.Frag) (G F H : Hp) : Ty → Ev → L2.St → AS → Prop
  | [], env, σ, A => env = [] ∧ σ = [] ∧ ∀ a, ¬ A a
  | s :: Δ, env, σ, A => ∃ x e v r A1 A2, env = x :: e ∧ σ = v :: r ∧ SlotOk K G F H s x v A1 ∧ Slots K G F H Δ e r A2 ∧ (∀ a, A1 a → ¬ A2 a) ∧ ∀ a, A a ↔ A1 a ∨ A2 a
structure StOk (K : PySem.W.Frag) (G : Hp) (Δ : Ty) (F H : Hp) (env : Ev) (σ : L2.St) (A : AS) : Prop where
  sl : Slots K G F H Δ env σ A
  dj : ∀ a, A a → F a = none
  le : Same F H
  gl : Same G H
  gd : ∀ a, A a → G a = none
structure Step (F H : Hp) (A : AS) (F' H' : Hp) (A' : AS) : Prop where
  le : Same F F'
  pres : ∀ a o, ¬ A a → H a = some o → H' a = some o
  sub : ∀ a, A' a → A a ∨ H a = none
  fnew : ∀ a o, F' a = some o → F a = some o ∨ A a ∨ H a = none
  there : ∀ a, H' a = none → H a = none
structure Grow (F H F' H' : Hp) : Prop where
  le : Same F F'
  pres : Same H H'
  fh : Same F' H'
  fnew : ∀ a o, F' a = some o → F a = some o ∨ H a = none

section
variable {K : PySem.W.Frag} {G F F' F'' H H' H'' : Hp} {A A' A'' B : AS} {Δ : Ty} {env : Ev} {σ : L2.St}
theorem none_of_same {H H' : Hp} (h : Same H H') (a : Addr) (e : H' a = none) : H a = none := by
  cases q : H a with
  | none => rfl
  | some o => rw [h a o q] at e; cases e
theorem Step.refl : Step F H A F H A := ⟨fun _ _ h => h, fun _ _ _ h => h, fun _ h => .inl h, fun _ _ h => .inl h, fun _ h => h⟩
theorem Step.trans (x : Step F H A F' H' A') (y : Step F' H' A' F'' H'' A'') : Step F H A F'' H'' A'' where
  le := x.le.trans y.le
  pres := fun a o h e => y.pres a o (fun z => (x.sub a z).elim h fun n => by rw [n] at e; cases e) (x.pres a o h e)
  sub := fun a h => (y.sub a h).elim (fun z => x.sub a z) fun n => .inr (x.there a n)
  fnew := fun a o e => (y.fnew a o e).elim (fun z => x.fnew a o z) fun z => z.elim (fun z => (x.sub a z).elim (fun z => .inr (.inl z)) fun n => .inr (.inr n)) fun n => .inr (.inr (x.there a n))
  there := fun a e => x.there a (y.there a e)
theorem Step.less (x : Step F H A F' H' A') (h : ∀ a, A'' a → A' a) : Step F H A F' H' A'' := ⟨x.le, x.pres, fun a z => x.sub a (h a z), x.fnew, x.there⟩
theorem Grow.refl (h : Same F H) : Grow F H F H := ⟨fun _ _ h => h, fun _ _ h => h, h, fun _ _ h => .inl h⟩
theorem Grow.trans (x : Grow F H F' H') (y : Grow F' H' F'' H'') : Grow F H F'' H'' :=
  ⟨x.le.trans y.le, x.pres.trans y.pres, y.fh, fun a o e => (y.fnew a o e).elim (fun z => x.fnew a o z) fun n => .inr (none_of_same x.pres a n)⟩
theorem Grow.step (x : Grow F H F' H') : Step F H A F' H' A :=
  ⟨x.le, fun a o _ e => x.pres a o e, fun _ h => .inl h, fun a o e => (x.fnew a o e).elim .inl fun n => .inr (.inr n), fun a e => none_of_same x.pres a e⟩
/-- a new object that is frozen at once -/
theorem Grow.new {p : Addr} {o : HO} (h : Same F H) (n : H p = none) : Grow F H (upd F p o) (upd H p o) := by
  have nf : F p = none := none_of_same h p n
  refine ⟨fun a u e => ?_, fun a u e => ?_, fun a u e => ?_, fun a u e => ?_⟩
  · rw [upd_ne (ne_of_none e nf)]; exact e
  · rw [upd_ne (ne_of_none e n)]; exact e
  · by_cases q : a = p
    · subst q; rw [upd_same] at e ⊢; exact e
    · rw [upd_ne q] at e ⊢; exact h a u e
  · by_cases q : a = p
    · subst q; exact .inr n
    · rw [upd_ne q] at e; exact .inl e

theorem SlotOk.loc (e : Same F F') {s : SO} {x : Option D} {v : Option V} (k : ∀ a u, A a → H a = some u → H' a = some u) (h : SlotOk K G F H s x v A) : SlotOk K G F' H' s x v A := by
  cases x with
  | none => exact h
  | some d =>
    cases s with
    | ow o => obtain ⟨y, e1, h⟩ := h; exact ⟨y, e1, Own.loc e o d y A k h⟩
    | pr o w => exact ⟨h.1, Own.loc e o d w A k h.2⟩
    | sh o => obtain ⟨n, y, B, e1, h⟩ := h; exact ⟨n, y, B, e1, Own.loc e o d y B (fun _ _ _ h => h) h⟩
    | ex a cls dd =>
      obtain ⟨n, e1, c, fs, e2, ec, h⟩ := h
      refine ⟨n, e1, c, fs, e2, ec, ?_⟩
      rcases h with h | ⟨q, gs, e3, h1, h2⟩
      · exact .inl h
      · exact .inr ⟨q, gs, e3, e _ _ h1, IsF.mono e fs gs h2⟩
theorem SlotOk.there {s : SO} {x : Option D} {v : Option V} (h : SlotOk K G F H s x v A) : ∀ a, A a → H a ≠ none := fun a z => by
  cases x with
  | none => exact absurd z (h a)
  | some d =>
    cases s with
    | ow o => obtain ⟨y, e1, h⟩ := h; exact Own.there o d y A h a z
    | pr o w => exact Own.there o d w A h.2 a z
    | sh o => exact absurd z (h.1 a)
    | ex b cls dd => exact absurd z (h.1 a)
theorem Slots.loc (e : Same F F') : ∀ {Δ : Ty} {env : Ev} {σ : L2.St} {A : AS}, (∀ a u, A a → H a = some u → H' a = some u) → Slots K G F H Δ env σ A → Slots K G F' H' Δ env σ A
  | [], env, σ, A, k, h => h
  | s :: Δ, env, σ, A, k, h => by
    obtain ⟨x, e', v, r, A1, A2, e1, e2, h1, h2, h3, h4⟩ := h
    exact ⟨x, e', v, r, A1, A2, e1, e2, h1.loc e fun a u z => k a u ((h4 a).mpr (.inl z)), Slots.loc e (fun a u z => k a u ((h4 a).mpr (.inr z))) h2, h3, h4⟩
theorem Slots.there : ∀ {Δ : Ty} {env : Ev} {σ : L2.St} {A : AS}, Slots K G F H Δ env σ A → ∀ a, A a → H a ≠ none
  | [], env, σ, A, h, a, z => absurd z (h.2.2 a)
  | s :: Δ, env, σ, A, h, a, z => by
    obtain ⟨x, e', v, r, A1, A2, e1, e2, h1, h2, h3, h4⟩ := h
    rcases (h4 a).mp z with z | z
    · exact h1.there a z
    · exact Slots.there h2 a z
theorem Slots.len : ∀ {Δ : Ty} {env : Ev} {σ : L2.St} {A : AS}, Slots K G F H Δ env σ A → env.length = Δ.length ∧ σ.length = Δ.length
  | [], env, σ, A, h => by obtain ⟨rfl, rfl, _⟩ := h; exact ⟨rfl, rfl⟩
  | s :: Δ, env, σ, A, h => by
    obtain ⟨x, e', v, r, A1, A2, rfl, rfl, h1, h2, h3, h4⟩ := h
    obtain ⟨l1, l2⟩ := Slots.len h2
    exact ⟨by simp [l1], by simp [l2]⟩
theorem StOk.there (x : StOk K G Δ F H env σ A) {a : Addr} (z : A a) : H a ≠ none := x.sl.there a z
theorem StOk.grow (x : StOk K G Δ F H env σ A) (g : Grow F H F' H') : StOk K G Δ F' H' env σ A where
  sl := x.sl.loc g.le fun a u _ e => g.pres a u e
  dj := fun a z => by
    cases q : F' a with
    | none => rfl
    | some o =>
      rcases g.fnew a o q with e | e
      · rw [x.dj a z] at e; cases e
      · exact absurd e (x.there z)
  le := g.fh
  gl := fun a o e => g.pres a o (x.gl a o e)
  gd := x.gd
/-- a slot that holds data -/
theorem Slots.get : ∀ {Δ : Ty} {env : Ev} {σ : L2.St} {A : AS} {i : Nat} {d : D} {s : SO}, Slots K G F H Δ env σ A → env[i]? = some (some d) → Δ[i]? = some s → ∃ v A1, σ[i]? = some v ∧ SlotOk K G F H s (some d) v A1 ∧ ∀ a, A1 a → A a
  | [], env, σ, A, i, d, s, h, e, e' => by simp at e'
  | s' :: Δ, env, σ, A, 0, d, s, h, e, e' => by
    obtain ⟨x, e0, v, r, A1, A2, rfl, rfl, h1, h2, h3, h4⟩ := h
    simp at e e'
    subst e; subst e'
    exact ⟨v, A1, rfl, h1, fun a z => (h4 a).mpr (.inl z)⟩
  | s' :: Δ, env, σ, A, i + 1, d, s, h, e, e' => by
    obtain ⟨x, e0, v, r, A1, A2, rfl, rfl, h1, h2, h3, h4⟩ := h
    obtain ⟨v', A3, q1, q2, q3⟩ := Slots.get (i := i) h2 (by simpa using e) (by simpa using e')
    exact ⟨v', A3, by simpa using q1, q2, fun a z => (h4 a).mpr (.inr (q3 a z))⟩
/-- a slot is taken out -/
theorem Slots.take : ∀ {Δ : Ty} {env : Ev} {σ : L2.St} {A : AS} {i : Nat} {d : D} {s : SO}, Slots K G F H Δ env σ A → env[i]? = some (some d) → Δ[i]? = some s →
    ∃ v A1 A2, σ[i]? = some v ∧ SlotOk K G F H s (some d) v A1 ∧ Slots K G F H Δ (env.set i none) σ A2 ∧ (∀ a, A1 a → ¬ A2 a) ∧ ∀ a, A a ↔ A1 a ∨ A2 a
  | [], env, σ, A, i, d, s, h, e, e' => by simp at e'
  | s' :: Δ, env, σ, A, 0, d, s, h, e, e' => by
    obtain ⟨x, e0, v, r, A1, A2, rfl, rfl, h1, h2, h3, h4⟩ := h
    simp at e e'
    subst e; subst e'
    exact ⟨v, A1, A2, rfl, h1, ⟨none, e0, v, r, fun _ => False, A2, rfl, rfl, fun a z => z, h2, fun a z => z.elim, fun a => ⟨.inr, fun z => z.elim (fun z => z.elim) id⟩⟩, h3, h4⟩
  | s' :: Δ, env, σ, A, i + 1, d, s, h, e, e' => by
    obtain ⟨x, e0, v, r, A1, A2, rfl, rfl, h1, h2, h3, h4⟩ := h
    obtain ⟨v', A3, A4, q1, q2, q3, q4, q5⟩ := Slots.take (i := i) h2 (by simpa using e) (by simpa using e')
    refine ⟨v', A3, fun a => A1 a ∨ A4 a, by simpa using q1, q2, ⟨x, _, v, r, A1, A4, rfl, rfl, h1, q3, fun a z w => h3 a z ((q5 a).mpr (.inr w)), fun a => Iff.rfl⟩, fun a z w => ?_, fun a => ?_⟩
    · rcases w with w | w
      · exact h3 a w ((q5 a).mpr (.inl z))
      · exact q4 a z w
    · rw [h4 a, q5 a]
      constructor
      · rintro (z | z | z)
        · exact .inr (.inl z)
        · exact .inl z
        · exact .inr (.inr z)
      · rintro (z | z | z)
        · exact .inr (.inl z)
        · exact .inl z
        · exact .inr (.inr z)
/-- a slot is emptied; it may hold anything then -/
theorem Slots.drop : ∀ {Δ : Ty} {env : Ev} {σ : L2.St} {A : AS} (i : Nat) (w : Option V), Slots K G F H Δ env σ A → ∃ A2, Slots K G F H Δ (env.set i none) (σ.set i w) A2 ∧ ∀ a, A2 a → A a
  | [], env, σ, A, i, w, h => by obtain ⟨rfl, rfl, n⟩ := h; exact ⟨A, ⟨rfl, rfl, n⟩, fun _ z => z⟩
  | s' :: Δ, env, σ, A, 0, w, h => by
    obtain ⟨x, e0, v, r, A1, A2, rfl, rfl, h1, h2, h3, h4⟩ := h
    exact ⟨A2, ⟨none, e0, w, r, fun _ => False, A2, rfl, rfl, fun a z => z, h2, fun a z => z.elim, fun a => ⟨.inr, fun z => z.elim (fun z => z.elim) id⟩⟩, fun a z => (h4 a).mpr (.inr z)⟩
  | s' :: Δ, env, σ, A, i + 1, w, h => by
    obtain ⟨x, e0, v, r, A1, A2, rfl, rfl, h1, h2, h3, h4⟩ := h
    obtain ⟨A3, q1, q2⟩ := Slots.drop i w h2
    exact ⟨fun a => A1 a ∨ A3 a, ⟨x, _, v, _, A1, A3, rfl, rfl, h1, q1, fun a z y => h3 a z (q2 a y), fun a => Iff.rfl⟩, fun a z => (h4 a).mpr (z.elim .inl fun z => .inr (q2 a z))⟩
/-- an empty slot is filled -/
theorem Slots.put : ∀ {Δ : Ty} {env : Ev} {σ : L2.St} {A A1 : AS} {i : Nat} {d : D} {s : SO} {v : Option V}, Slots K G F H Δ env σ A → env[i]? = some none → Δ[i]? = some s → σ[i]? = some v → SlotOk K G F H s (some d) v A1 → (∀ a, A1 a → ¬ A a) →
    Slots K G F H Δ (env.set i (some d)) σ (fun a => A1 a ∨ A a)
  | [], env, σ, A, A1, i, d, s, v, h, e, e', ev, q, dj => by simp at e'
  | s' :: Δ, env, σ, A, A1, 0, d, s, v, h, e, e', ev, q, dj => by
    obtain ⟨x, e0, v', r, A2, A3, rfl, rfl, h1, h2, h3, h4⟩ := h
    simp at e e' ev
    subst e; subst e'; subst ev
    have n : ∀ a, ¬ A2 a := h1
    exact ⟨some d, e0, v', r, A1, A3, rfl, rfl, q, h2, fun a z w => dj a z ((h4 a).mpr (.inr w)), fun a => by
      show (A1 a ∨ A a) ↔ A1 a ∨ A3 a
      rw [h4 a]; exact ⟨fun z => z.elim .inl fun z => z.elim (fun z => absurd z (n a)) .inr, fun z => z.elim .inl fun z => .inr (.inr z)⟩⟩
  | s' :: Δ, env, σ, A, A1, i + 1, d, s, v, h, e, e', ev, q, dj => by
    obtain ⟨x, e0, v', r, A2, A3, rfl, rfl, h1, h2, h3, h4⟩ := h
    have z := Slots.put (i := i) (v := v) h2 (by simpa using e) (by simpa using e') (by simpa using ev) q fun a z w => dj a z ((h4 a).mpr (.inr w))
    refine ⟨x, _, v', r, A2, fun a => A1 a ∨ A3 a, rfl, rfl, h1, z, fun a z w => ?_, fun a => ?_⟩
    · rcases w with w | w
      · exact dj a w ((h4 a).mpr (.inl z))
      · exact h3 a z w
    · show (A1 a ∨ A a) ↔ A2 a ∨ A1 a ∨ A3 a
      rw [h4 a]
      constructor
      · rintro (z | z | z)
        · exact .inr (.inl z)
        · exact .inl z
        · exact .inr (.inr z)
      · rintro (z | z | z)
        · exact .inr (.inl z)
        · exact .inl z
        · exact .inr (.inr z)
end
section
variable {K : PySem.W.Frag} {G F F' F'' H H' H'' : Hp} {A A' A'' B : AS} {Δ : Ty} {env : Ev} {σ : L2.St} {i : Nat} {d : D} {y : V}
theorem StOk.data (x : StOk K G Δ F H env σ A) (e : env[i]? = some (some d)) (t : Δ[i]? = some (.ow .fz)) : ∃ y, σ[i]? = some (some y) ∧ Is K F d y := by
  obtain ⟨v, A1, h1, ⟨y, rfl, h2⟩, _⟩ := x.sl.get e t
  simp only [Own] at h2
  exact ⟨y, h1, h2.1⟩
theorem StOk.len (x : StOk K G Δ F H env σ A) : env.length = Δ.length ∧ σ.length = Δ.length := x.sl.len
/-- a slot is stored -/
theorem StOk.store {o : O} (x : StOk K G Δ F H env σ A) (t : Δ[i]? = some (.ow o)) (w : Own K F H o d y B) (hd : ∀ b, B b → ¬ A b ∧ F b = none) (hg : ∀ b, B b → G b = none) :
    ∃ A', StOk K G Δ F H (env.set i (some d)) (σ.set i (some y)) A' ∧ ∀ a, A' a → A a ∨ B a := by
  obtain ⟨A2, h1, h2⟩ := x.sl.drop i (some y)
  have hi : i < Δ.length := (List.getElem?_eq_some_iff.mp t).1
  have l1 := x.len.1
  have l2 := x.len.2
  have z := Slots.put (i := i) (d := d) (s := .ow o) (v := some y) h1 (by simp [l1, hi]) t (by simp [l2, hi]) ⟨y, rfl, w⟩ fun a z q => (hd a z).1 (h2 a q)
  rw [List.set_set] at z
  refine ⟨_, ⟨z, fun a q => ?_, x.le, x.gl, fun a q => ?_⟩, fun a q => q.elim .inr fun q => .inl (h2 a q)⟩
  · rcases q with q | q
    · exact (hd a q).2
    · exact x.dj a (h2 a q)
  · rcases q with q | q
    · exact hg a q
    · exact x.gd a (h2 a q)
theorem StOk.storeD (x : StOk K G Δ F H env σ A) (t : Δ[i]? = some (.ow .fz)) (w : Is K F d y) : ∃ A', StOk K G Δ F H (env.set i (some d)) (σ.set i (some y)) A' ∧ ∀ a, A' a → A a := by
  obtain ⟨A', h1, h2⟩ := x.store (o := .fz) (B := fun _ => False) t (by simp only [Own]; exact ⟨w, fun _ z => z⟩) (fun _ z => z.elim) (fun _ z => z.elim)
  exact ⟨A', h1, fun a z => (h2 a z).elim id fun z => z.elim⟩
end
end PT

set_option Elab.async false
set_option linter.all false
set_option maxRecDepth 100000
set_option maxHeartbeats 2000000
/-! PT: what an expression computes, on data; the readings; expressions -/
namespace PT
open PySem PySem.Spec PyProof.Rows L2

inductive RE where
  | ok (d : D) (e : Ev) | exc (c : Str) (fs : List (Str × D)) (e : Ev) | bad
abbrev ME := Ev → RE
def RE.bind (r : RE) (k : D → Ev → RE) : RE := match r with
  | .ok d e => k d e
  | .exc c fs e => .exc c fs e
  | .bad => .bad
@[simp] theorem RE.bind_ok (d : D) (e : Ev) (k : D → Ev → RE) : (RE.ok d e).bind k = k d e := rfl
@[simp] theorem RE.bind_exc (c : Str) (fs : List (Str × D)) (e : Ev) (k : D → Ev → RE) : (RE.exc c fs e).bind k = .exc c fs e := rfl
@[simp] theorem RE.bind_bad (k : D → Ev → RE) : RE.bad.bind k = .bad := rfl
inductive RA where
  | ok (ds : List D) (e : Ev) | exc (c : Str) (fs : List (Str × D)) (e : Ev) | bad
abbrev MA := Ev → RA
def RA.bind (r : RA) (k : List D → Ev → RE) : RE := match r with
  | .ok d e => k d e
  | .exc c fs e => .exc c fs e
  | .bad => .bad
@[simp] theorem RA.bind_ok (d : List D) (e : Ev) (k : List D → Ev → RE) : (RA.ok d e).bind k = k d e := rfl
@[simp] theorem RA.bind_exc (c : Str) (fs : List (Str × D)) (e : Ev) (k : List D → Ev → RE) : (RA.exc c fs e).bind k = .exc c fs e := rfl
@[simp] theorem RA.bind_bad (k : List D → Ev → RE) : RA.bad.bind k = .bad := rfl
def RE.bindA (r : RE) (k : D → Ev → RA) : RA := match r with
  | .ok d e => k d e
  | .exc c fs e => .exc c fs e
  | .bad => .bad
@[simp] theorem RE.bindA_ok (d : D) (e : Ev) (k : D → Ev → RA) : (RE.ok d e).bindA k = k d e := rfl
@[simp] theorem RE.bindA_exc (c : Str) (fs : List (Str × D)) (e : Ev) (k : D → Ev → RA) : (RE.exc c fs e).bindA k = .exc c fs e := rfl
@[simp] theorem RE.bindA_bad (k : D → Ev → RA) : RE.bad.bindA k = .bad := rfl
def RA.bindA (r : RA) (k : List D → Ev → RA) : RA := match r with
  | .ok d e => k d e
  | .exc c fs e => .exc c fs e
  | .bad => .bad
@[simp] theorem RA.bindA_ok (d : List D) (e : Ev) (k : List D → Ev → RA) : (RA.ok d e).bindA k = k d e := rfl
@[simp] theorem RA.bindA_exc (c : Str) (fs : List (Str × D)) (e : Ev) (k : List D → Ev → RA) : (RA.exc c fs e).bindA k = .exc c fs e := rfl
@[simp] theorem RA.bindA_bad (k : List D → Ev → RA) : RA.bad.bindA k = .bad := rfl
def lift (o : Option D) (e : Ev) : RE := match o with
  | some d => .ok d e
  | none => .bad
@[simp] theorem lift_some (d : D) (e : Ev) : lift (some d) e = .ok d e := rfl
@[simp] theorem lift_none (e : Ev) : lift none e = .bad := rfl

/-- the context of a body: what is wished of an exception, the slots' types there; at break, continue, return; the result's shape -/
structure SC where
  W : WX
  tx : Ty
  tb : Ty
  tc : Ty
  ro : O
  tr : Ty

/-- how an exception's own dict lies -/
def XdOk (K : PySem.W.Frag) (F : Hp) (fs : List (Str × D)) (dd : Option Addr) : Prop := (fs = [] ∧ dd = none) ∨ ∃ q gs, dd = some q ∧ F q = some (.xd gs) ∧ IsF K F fs gs
def PostX (K : PySem.W.Frag) (C : SC) (G F H : Hp) (A : AS) (c : Str) (fs : List (Str × D)) (e : Ev) : Prop :=
  ∀ F' H' A' σ' dd, Step F H A F' H' A' → StOk K G C.tx F' H' e σ' A' → XdOk K F' fs dd → C.W (.ref (He.ga K c)) dd σ' H'
def PostE (K : PySem.W.Frag) (C : SC) (Δ : Ty) (G F H : Hp) (A : AS) (σ : L2.St) (o : O) (Q : VK) (r : RE) : Prop := match r with
  | .ok d e => ∀ F' H' A' B v, Step F H A F' H' (fun a => A' a ∨ B a) → StOk K G Δ F' H' e σ A' → Own K F' H' o d v B → (∀ b, B b → ¬ A' b ∧ F' b = none) → Q v H'
  | .exc c fs e => PostX K C G F H A c fs e
  | .bad => False
def PostA (K : PySem.W.Frag) (C : SC) (Δ : Ty) (G F H : Hp) (A : AS) (σ : L2.St) (Q : List V → Hp → Prop) (r : RA) : Prop := match r with
  | .ok ds e => ∀ F' H' A' vs, Step F H A F' H' A' → StOk K G Δ F' H' e σ A' → IsL K F' ds vs → Q vs H'
  | .exc c fs e => PostX K C G F H A c fs e
  | .bad => False
def PostT (K : PySem.W.Frag) (C : SC) (Δ : Ty) (G F H : Hp) (A : AS) (σ : L2.St) (Q : Bool → Hp → Prop) (r : RE) : Prop := match r with
  | .ok (.bl b) e => ∀ F' H' A', Step F H A F' H' A' → StOk K G Δ F' H' e σ A' → Q b H'
  | .exc c fs e => PostX K C G F H A c fs e
  | _ => False
def tE (K : PySem.W.Frag) (C : SC) (Δ : Ty) (m : ME) (o : O) : TE := fun σ H Q => ∃ G F env A, StOk K G Δ F H env σ A ∧ PostE K C Δ G F H A σ o Q (m env)
def tA (K : PySem.W.Frag) (C : SC) (Δ : Ty) (m : MA) : TA := fun σ H Q => ∃ G F env A, StOk K G Δ F H env σ A ∧ PostA K C Δ G F H A σ Q (m env)
def tT (K : PySem.W.Frag) (C : SC) (Δ : Ty) (m : ME) : TT := fun σ H Q => ∃ G F env A, StOk K G Δ F H env σ A ∧ PostT K C Δ G F H A σ Q (m env)

section
variable {K : PySem.W.Frag} {C : SC} {Δ : Ty} {G F H F1 H1 : Hp} {A A1 : AS} {σ : L2.St} {o : O} {Q : VK}
theorem PostX.base {c : Str} {fs : List (Str × D)} {e : Ev} (s : Step F H A F1 H1 A1) (h : PostX K C G F H A c fs e) : PostX K C G F1 H1 A1 c fs e := fun F' H' A' σ' dd s' st x => h F' H' A' σ' dd (s.trans s') st x
theorem PostE.base {r : RE} (s : Step F H A F1 H1 A1) (h : PostE K C Δ G F H A σ o Q r) : PostE K C Δ G F1 H1 A1 σ o Q r := by
  cases r with
  | ok d e => exact fun F' H' A' B v s' => h F' H' A' B v (s.trans s')
  | exc c fs e => exact PostX.base s h
  | bad => exact h
theorem PostA.base {r : RA} {Q : List V → Hp → Prop} (s : Step F H A F1 H1 A1) (h : PostA K C Δ G F H A σ Q r) : PostA K C Δ G F1 H1 A1 σ Q r := by
  cases r with
  | ok d e => exact fun F' H' A' vs s' => h F' H' A' vs (s.trans s')
  | exc c fs e => exact PostX.base s h
  | bad => exact h
theorem PostT.base {r : RE} {Q : Bool → Hp → Prop} (s : Step F H A F1 H1 A1) (h : PostT K C Δ G F H A σ Q r) : PostT K C Δ G F1 H1 A1 σ Q r := by
  cases r with
  | ok d e => cases d <;> first | exact h | exact fun F' H' A' s' => h F' H' A' (s.trans s')
  | exc c fs e => exact PostX.base s h
  | bad => exact h
/-- the first of two -/
theorem PostE.bind {r : RE} {k : D → Ev → RE} {Q1 : VK} (h : PostE K C Δ G F H A σ o Q (r.bind k))
    (hq : ∀ d e F1 H1 A1 v, StOk K G Δ F1 H1 e σ A1 → Is K F1 d v → Step F H A F1 H1 A1 → PostE K C Δ G F1 H1 A1 σ o Q (k d e) → Q1 v H1) : PostE K C Δ G F H A σ .fz Q1 r := by
  cases r with
  | ok d e =>
    intro F' H' A' B v s st own dj
    simp only [Own] at own
    have s' := s.less (A'' := A') fun a z => .inl z
    exact hq d e F' H' A' v st own.1 s' (PostE.base s' h)
  | exc c fs e => exact h
  | bad => exact h
theorem PostE.bindA {r : RA} {k : List D → Ev → RE} {Q1 : List V → Hp → Prop} (h : PostE K C Δ G F H A σ o Q (r.bind k))
    (hq : ∀ ds e F1 H1 A1 vs, StOk K G Δ F1 H1 e σ A1 → IsL K F1 ds vs → Step F H A F1 H1 A1 → PostE K C Δ G F1 H1 A1 σ o Q (k ds e) → Q1 vs H1) : PostA K C Δ G F H A σ Q1 r := by
  cases r with
  | ok d e => exact fun F' H' A' vs s st own => hq d e F' H' A' vs st own s (PostE.base s h)
  | exc c fs e => exact h
  | bad => exact h
theorem PostA.bind {r : RE} {k : D → Ev → RA} {Q : List V → Hp → Prop} {Q1 : VK} (h : PostA K C Δ G F H A σ Q (r.bindA k))
    (hq : ∀ d e F1 H1 A1 v, StOk K G Δ F1 H1 e σ A1 → Is K F1 d v → Step F H A F1 H1 A1 → PostA K C Δ G F1 H1 A1 σ Q (k d e) → Q1 v H1) : PostE K C Δ G F H A σ .fz Q1 r := by
  cases r with
  | ok d e =>
    intro F' H' A' B v s st own dj
    simp only [Own] at own
    have s' := s.less (A'' := A') fun a z => .inl z
    exact hq d e F' H' A' v st own.1 s' (PostA.base s' h)
  | exc c fs e => exact h
  | bad => exact h
theorem PostA.bindA {r : RA} {k : List D → Ev → RA} {Q Q1 : List V → Hp → Prop} (h : PostA K C Δ G F H A σ Q (r.bindA k))
    (hq : ∀ d e F1 H1 A1 v, StOk K G Δ F1 H1 e σ A1 → IsL K F1 d v → Step F H A F1 H1 A1 → PostA K C Δ G F1 H1 A1 σ Q (k d e) → Q1 v H1) : PostA K C Δ G F H A σ Q1 r := by
  cases r with
  | ok d e => exact fun F' H' A' vs s st own => hq d e F' H' A' vs st own s (PostA.base s h)
  | exc c fs e => exact h
  | bad => exact h
theorem PostT.bind {r : RE} {k : D → Ev → RE} {Q : Bool → Hp → Prop} {Q1 : VK} (h : PostT K C Δ G F H A σ Q (r.bind k))
    (hq : ∀ d e F1 H1 A1 v, StOk K G Δ F1 H1 e σ A1 → Is K F1 d v → Step F H A F1 H1 A1 → PostT K C Δ G F1 H1 A1 σ Q (k d e) → Q1 v H1) : PostE K C Δ G F H A σ .fz Q1 r := by
  cases r with
  | ok d e =>
    intro F' H' A' B v s st own dj
    simp only [Own] at own
    have s' := s.less (A'' := A') fun a z => .inl z
    exact hq d e F' H' A' v st own.1 s' (PostT.base s' h)
  | exc c fs e => exact h
  | bad => exact h
/-- a test, then the rest -/
def RE.bindT (r : RE) (k : Bool → Ev → RE) : RE := match r with
  | .ok (.bl b) e => k b e
  | .ok _ _ => .bad
  | .exc c fs e => .exc c fs e
  | .bad => .bad
@[simp] theorem RE.bindT_bl (b : Bool) (e : Ev) (k : Bool → Ev → RE) : (RE.ok (.bl b) e).bindT k = k b e := rfl
@[simp] theorem RE.bindT_exc (c : Str) (fs : List (Str × D)) (e : Ev) (k : Bool → Ev → RE) : (RE.exc c fs e).bindT k = .exc c fs e := rfl
@[simp] theorem RE.bindT_bad (k : Bool → Ev → RE) : RE.bad.bindT k = .bad := rfl
theorem PostT.bindT {r : RE} {k : Bool → Ev → RE} {Q Q1 : Bool → Hp → Prop} (h : PostT K C Δ G F H A σ Q (r.bindT k))
    (hq : ∀ b e F1 H1 A1, StOk K G Δ F1 H1 e σ A1 → Step F H A F1 H1 A1 → PostT K C Δ G F1 H1 A1 σ Q (k b e) → Q1 b H1) : PostT K C Δ G F H A σ Q1 r := by
  cases r with
  | ok d e => cases d <;> first | exact h | exact fun F' H' A' s st => hq _ e F' H' A' st s (PostT.base s h)
  | exc c fs e => exact h
  | bad => exact h
theorem PostE.bindT {r : RE} {k : Bool → Ev → RE} {Q1 : Bool → Hp → Prop} (h : PostE K C Δ G F H A σ o Q (r.bindT k))
    (hq : ∀ b e F1 H1 A1, StOk K G Δ F1 H1 e σ A1 → Step F H A F1 H1 A1 → PostE K C Δ G F1 H1 A1 σ o Q (k b e) → Q1 b H1) : PostT K C Δ G F H A σ Q1 r := by
  cases r with
  | ok d e => cases d <;> first | exact h | exact fun F' H' A' s st => hq _ e F' H' A' st s (PostE.base s h)
  | exc c fs e => exact h
  | bad => exact h
/-- a value that stands -/
theorem PostE.val {d : D} {e : Ev} (h : PostE K C Δ G F H A σ .fz Q (.ok d e)) (st : StOk K G Δ F H e σ A) {F' H' : Hp} {v : V} (g : Grow F H F' H') (i : Is K F' d v) : Q v H' :=
  h F' H' A (fun _ => False) v (g.step.less fun a z => z.elim id fun z => z.elim) (st.grow g) (by simp only [Own]; exact ⟨i, fun _ z => z⟩) fun _ z => z.elim
theorem PostE.lift {x : Option D} {e : Ev} (h : PostE K C Δ G F H A σ .fz Q (PT.lift x e)) (st : StOk K G Δ F H e σ A) : ∃ d, x = some d ∧ ∀ {F' H' : Hp} {v : V}, Grow F H F' H' → Is K F' d v → Q v H' := by
  cases x with
  | none => exact h.elim
  | some d => exact ⟨d, rfl, fun g i => PostE.val h st g i⟩
theorem PostT.val {b : Bool} {e : Ev} {Q : Bool → Hp → Prop} (h : PostT K C Δ G F H A σ Q (.ok (.bl b) e)) (st : StOk K G Δ F H e σ A) {F' H' : Hp} (g : Grow F H F' H') : Q b H' :=
  h F' H' A g.step (st.grow g)
end

theorem PE.weak {X : Cx} {e : Expr} {t t' : TE} (h : PE X e t) (w : ∀ σ H Q, t' σ H Q → t σ H Q) : PE X e t' := ⟨fun pins s σ H Q I q => h.run pins s σ H Q I (w σ H Q q)⟩
theorem PT.weak {X : Cx} {e : Expr} {t t' : TT} (h : L2.PT X e t) (w : ∀ σ H Q, t' σ H Q → t σ H Q) : L2.PT X e t' := ⟨fun pins s σ H Q I q => h.run pins s σ H Q I (w σ H Q q)⟩
theorem PW.weak {X : Cx} {e : Expr} {t t' : TT} (h : PW X e t) (w : ∀ σ H Q, t' σ H Q → t σ H Q) : PW X e t' := ⟨fun wh pins s σ H Q I q => h.run wh pins s σ H Q I (w σ H Q q)⟩
theorem PA.weak {X : Cx} {es : List Expr} {t t' : TA} (h : PA X es t) (w : ∀ σ H Q, t' σ H Q → t σ H Q) : PA X es t' := ⟨fun pos pins s σ H Q I q => h.run pos pins s σ H Q I (w σ H Q q)⟩

/-! ### what is computed -/
def mVar (i : Nat) : ME := fun e => match e[i]? with
  | some (some d) => .ok d e
  | _ => .bad
def mC (d : D) : ME := fun e => .ok d e
def mBin (f : D → D → Option D) (a b : ME) : ME := fun e => (a e).bind fun x e => (b e).bind fun y e => lift (f x y) e
def mUn (f : D → Option D) (a : ME) : ME := fun e => (a e).bind fun x e => lift (f x) e
def mAnd (a b : ME) : ME := fun e => (a e).bindT fun c e => if c then b e else .ok (.bl false) e
def mOr (a b : ME) : ME := fun e => (a e).bindT fun c e => if c then .ok (.bl true) e else b e
def mNot (a : ME) : ME := fun e => (a e).bindT fun c e => .ok (.bl (!c)) e
def mIf (c a b : ME) : ME := fun e => (c e).bindT fun c e => if c then a e else b e
def aNil : MA := fun e => .ok [] e
def aCons (a : ME) (r : MA) : MA := fun e => (a e).bindA fun x e => (r e).bindA fun xs e => .ok (x :: xs) e
def mTup (a : MA) : ME := fun e => (a e).bind fun ds e => .ok (.tup ds) e
def mLst (a : MA) : ME := fun e => (a e).bind fun ds e => .ok (.lst ds) e
def mFn (f : List D → Option D) (a : MA) : ME := fun e => (a e).bind fun ds e => lift (f ds) e

/-- an operation by values that may make frozen objects -/
def Rel1 (K : PySem.W.Frag) (r : V → Hp → VK → Prop) (f : D → Option D) : Prop := ∀ F H x dx dz Q, Same F H → Is K F dx x → f dx = some dz → (∀ F' H' v, Grow F H F' H' → Is K F' dz v → Q v H') → r x H Q
def Rel2 (K : PySem.W.Frag) (r : R2) (f : D → D → Option D) : Prop := ∀ F H x y dx dy dz Q, Same F H → Is K F dx x → Is K F dy y → f dx dy = some dz → (∀ F' H' v, Grow F H F' H' → Is K F' dz v → Q v H') → r x y H Q
def RelC (K : PySem.W.Frag) (r : List V → Hp → VK → Prop) (f : List D → Option D) : Prop := ∀ F H vs ds dz Q, Same F H → IsL K F ds vs → f ds = some dz → (∀ F' H' v, Grow F H F' H' → Is K F' dz v → Q v H') → r vs H Q

section
variable {X : Cx} {C : SC} {Δ : Ty} {a b : Expr} {ma mb : ME} {pos : Pos}
theorem e_var {i : Nat} {x : Str} (t : Δ[i]? = some (.ow .fz)) (hN : X.N[i]? = some x) (hv : Vis X.env.scope x) (hd : (x == ("__debug__" : Str)) = false := by decide) (hcd : (x == ("__classdict__" : Str)) = false := by decide) : PE X (.Name x pos) (tE X.K C Δ (mVar i) .fz) := by
  refine PE.weak (pe_var hN hv hd hcd) fun σ H Q ⟨G, F, env, A, st, h⟩ => ?_
  unfold mVar at h
  split at h
  · rename_i d e
    obtain ⟨y, h1, h2⟩ := st.data e t
    exact ⟨y, h1, PostE.val h st (Grow.refl st.le) h2⟩
  · exact h.elim
theorem e_const {d : D} {v : V} (h : PE X a (tC v)) (i : ∀ F, Is X.K F d v) : PE X a (tE X.K C Δ (mC d) .fz) := PE.weak h fun σ H Q ⟨G, F, env, A, st, q⟩ => PostE.val q st (Grow.refl st.le) (i F)
theorem e_int {i : Int} {j : Nat} : PE X (.Constant (.int i) j pos) (tE X.K C Δ (mC (.int i)) .fz) := e_const pe_int fun _ => by simp only [Is]
theorem e_bl {i : Bool} {j : Nat} : PE X (.Constant (.bool i) j pos) (tE X.K C Δ (mC (.bl i)) .fz) := e_const pe_bl fun _ => by simp only [Is]
theorem e_non {j : Nat} : PE X (.Constant .none j pos) (tE X.K C Δ (mC .non) .fz) := e_const pe_non fun _ => by simp only [Is]
theorem e_str {x : Str} {j : Nat} : PE X (.Constant (.str x) j pos) (tE X.K C Δ (mC (.str x)) .fz) := e_const pe_str fun _ => by simp only [Is]
theorem e_bin {op : Operator} {r : R2} {f : D → D → Option D} (ho : OpR X (binaryOp op) r) (hr : Rel2 X.K r f) (ha : PE X a (tE X.K C Δ ma .fz)) (hb : PE X b (tE X.K C Δ mb .fz)) : PE X (.BinOp a op b pos) (tE X.K C Δ (mBin f ma mb) .fz) := by
  refine PE.weak (pe_op ho ha hb) fun σ H Q ⟨G, F, env, A, st, h⟩ => ?_
  refine ⟨G, F, env, A, st, h.bind fun dx e1 F1 H1 A1 x st1 i1 s1 h1 => ⟨G, F1, e1, A1, st1, h1.bind fun dy e2 F2 H2 A2 y st2 i2 s2 h2 => ?_⟩⟩
  obtain ⟨dz, e, q⟩ := h2.lift st2
  exact hr F2 H2 x y dx dy dz Q st2.le (Is.mono s2.le _ _ i1) i2 e fun F' H' v g i => q g i
theorem e_cmp {op : CmpOp} {r : R2} {f : D → D → Option D} (ho : OpR X (compareOp op) r) (hr : Rel2 X.K r f) (ha : PE X a (tE X.K C Δ ma .fz)) (hb : PE X b (tE X.K C Δ mb .fz)) (hm : behindInMarks op b = false) : PE X (.Compare a [op] [b] pos) (tE X.K C Δ (mBin f ma mb) .fz) := by
  refine PE.weak (pe_cmpR ho ha hb hm) fun σ H Q ⟨G, F, env, A, st, h⟩ => ?_
  refine ⟨G, F, env, A, st, h.bind fun dx e1 F1 H1 A1 x st1 i1 s1 h1 => ⟨G, F1, e1, A1, st1, h1.bind fun dy e2 F2 H2 A2 y st2 i2 s2 h2 => ?_⟩⟩
  obtain ⟨dz, e, q⟩ := h2.lift st2
  exact hr F2 H2 x y dx dy dz Q st2.le (Is.mono s2.le _ _ i1) i2 e fun F' H' v g i => q g i
theorem e_un {op : UnaryOp} {r : V → Hp → VK → Prop} {f : D → Option D} (ho : UnR X (unaryOp op) r) (hr : Rel1 X.K r f) (ha : PE X a (tE X.K C Δ ma .fz)) : PE X (.UnaryOp op a pos) (tE X.K C Δ (mUn f ma) .fz) := by
  refine PE.weak (pe_un ho ha) fun σ H Q ⟨G, F, env, A, st, h⟩ => ?_
  refine ⟨G, F, env, A, st, h.bind fun dx e1 F1 H1 A1 x st1 i1 s1 h1 => ?_⟩
  obtain ⟨dz, e, q⟩ := h1.lift st1
  exact hr F1 H1 x dx dz Q st1.le i1 e fun F' H' v g i => q g i
/-- a value as a test -/
theorem t_val {e : Expr} {m : ME} (h : PE X e (tE X.K C Δ m .fz)) (he : ∀ whole, isTrue e X.env whole = (do let v ← whole; standAt e.pos; holding [v] (truthy v)) := by intro _; rfl) : L2.PT X e (tT X.K C Δ m) := by
  refine PT.weak (pt_val h he) fun σ H Q ⟨G, F, env, A, st, h⟩ => ⟨G, F, env, A, st, ?_⟩
  show PostE _ _ _ _ _ _ _ _ _ _ (m env)
  generalize m env = r at h
  cases r with
  | ok d e =>
    cases d with
    | bl b =>
      intro F' H' A' B v s st' own dj
      simp only [Own, Is] at own
      exact ⟨b, own.1, h F' H' A' (s.less fun a z => .inl z) st'⟩
    | _ => exact h.elim
  | exc c fs e => exact h
  | bad => exact h
theorem t_cmp {op : CmpOp} {r : R2} {f : D → D → Option D} (ho : OpR X (compareOp op) r) (hr : Rel2 X.K r f) (ha : PE X a (tE X.K C Δ ma .fz)) (hb : PE X b (tE X.K C Δ mb .fz)) (hm : behindInMarks op b = false) : L2.PT X (.Compare a [op] [b] pos) (tT X.K C Δ (mBin f ma mb)) := by
  refine PT.weak (pt_cmpR ho ha hb hm) fun σ H Q ⟨G, F, env, A, st, h⟩ => ?_
  refine ⟨G, F, env, A, st, h.bind fun dx e1 F1 H1 A1 x st1 i1 s1 h1 => ⟨G, F1, e1, A1, st1, h1.bind fun dy e2 F2 H2 A2 y st2 i2 s2 h2 => ?_⟩⟩
  show r x y H2 _
  cases e : f dx dy with
  | none => rw [e] at h2; exact h2.elim
  | some dz =>
    rw [e] at h2
    cases dz with
    | bl c =>
      refine hr F2 H2 x y dx dy _ _ st2.le (Is.mono s2.le _ _ i1) i2 e fun F' H' v g i => ?_
      simp only [Is] at i
      exact ⟨c, i, h2.val st2 g⟩
    | _ => exact h2.elim
theorem w_and1 (ha : L2.PT X a (tT X.K C Δ ma)) : PW X (.BoolOp .And [a] pos) (tT X.K C Δ ma) := pw_and1 ha
theorem w_or1 (ha : L2.PT X a (tT X.K C Δ ma)) : PW X (.BoolOp .Or [a] pos) (tT X.K C Δ ma) := pw_or1 ha
theorem w_and {rest : List Expr} (ha : L2.PT X a (tT X.K C Δ ma)) (hb : PW X (.BoolOp .And (b :: rest) pos) (tT X.K C Δ mb)) : PW X (.BoolOp .And (a :: b :: rest) pos) (tT X.K C Δ (mAnd ma mb)) := by
  refine PW.weak (pw_and ha hb) fun σ H Q ⟨G, F, env, A, st, h⟩ => ⟨G, F, env, A, st, h.bindT fun c e1 F1 H1 A1 st1 s1 h1 => ?_⟩
  cases c with
  | true => exact ⟨G, F1, e1, A1, st1, h1⟩
  | false => exact h1.val st1 (Grow.refl st1.le)
theorem w_or {rest : List Expr} (ha : L2.PT X a (tT X.K C Δ ma)) (hb : PW X (.BoolOp .Or (b :: rest) pos) (tT X.K C Δ mb)) : PW X (.BoolOp .Or (a :: b :: rest) pos) (tT X.K C Δ (mOr ma mb)) := by
  refine PW.weak (pw_or ha hb) fun σ H Q ⟨G, F, env, A, st, h⟩ => ⟨G, F, env, A, st, h.bindT fun c e1 F1 H1 A1 st1 s1 h1 => ?_⟩
  cases c with
  | false => exact ⟨G, F1, e1, A1, st1, h1⟩
  | true => exact h1.val st1 (Grow.refl st1.le)
theorem t_w {m : ME} (h : PW X a (tT X.K C Δ m)) : L2.PT X a (tT X.K C Δ m) := h.pt
theorem t_not (ha : L2.PT X a (tT X.K C Δ ma)) : L2.PT X (.UnaryOp .Not a pos) (tT X.K C Δ (mNot ma)) := by
  refine PT.weak (pt_not ha) fun σ H Q ⟨G, F, env, A, st, h⟩ => ⟨G, F, env, A, st, h.bindT fun c e1 F1 H1 A1 st1 s1 h1 => h1.val st1 (Grow.refl st1.le)⟩
/-- and, or, not as values -/
theorem PostE.toB {K : PySem.W.Frag} {G F H : Hp} {A : AS} {σ : L2.St} {Q : VK} {r : RE} {k : Bool → Ev → RE} {Q1 : VK} (h : PostE K C Δ G F H A σ .fz Q (r.bindT k))
    (hq : ∀ c e F1 H1 A1, StOk K G Δ F1 H1 e σ A1 → Step F H A F1 H1 A1 → PostE K C Δ G F1 H1 A1 σ .fz Q (k c e) → Q1 (.bl c) H1) : PostE K C Δ G F H A σ .fz Q1 r := by
  cases r with
  | ok d e =>
    cases d with
    | bl c =>
      intro F' H' A' B v s st own dj
      simp only [Own, Is] at own
      have s' := s.less (A'' := A') fun a z => .inl z
      obtain ⟨rfl, _⟩ := own
      exact hq c e F' H' A' st s' (PostE.base s' h)
    | _ => exact h.elim
  | exc c fs e => exact h
  | bad => exact h
theorem e_one {op : PySem.BoolOp} {m : ME} (h : PE X a (tE X.K C Δ m .fz)) : PE X (.BoolOp op [a] pos) (tE X.K C Δ m .fz) := pe_one h
theorem e_and {rest : List Expr} (ha : PE X a (tE X.K C Δ ma .fz)) (hb : PE X (.BoolOp .And (b :: rest) pos) (tE X.K C Δ mb .fz)) : PE X (.BoolOp .And (a :: b :: rest) pos) (tE X.K C Δ (mAnd ma mb) .fz) := by
  refine PE.weak (pe_and ha hb) fun σ H Q ⟨G, F, env, A, st, h⟩ => ⟨G, F, env, A, st, h.toB fun c e1 F1 H1 A1 st1 s1 h1 => ⟨c, rfl, ?_⟩⟩
  cases c with
  | true => exact ⟨G, F1, e1, A1, st1, h1⟩
  | false => exact h1.val st1 (Grow.refl st1.le) (by simp only [Is])
theorem e_or {rest : List Expr} (ha : PE X a (tE X.K C Δ ma .fz)) (hb : PE X (.BoolOp .Or (b :: rest) pos) (tE X.K C Δ mb .fz)) : PE X (.BoolOp .Or (a :: b :: rest) pos) (tE X.K C Δ (mOr ma mb) .fz) := by
  refine PE.weak (pe_or ha hb) fun σ H Q ⟨G, F, env, A, st, h⟩ => ⟨G, F, env, A, st, h.toB fun c e1 F1 H1 A1 st1 s1 h1 => ⟨c, rfl, ?_⟩⟩
  cases c with
  | false => exact ⟨G, F1, e1, A1, st1, h1⟩
  | true => exact h1.val st1 (Grow.refl st1.le) (by simp only [Is])
theorem e_not (ha : PE X a (tE X.K C Δ ma .fz)) : PE X (.UnaryOp .Not a pos) (tE X.K C Δ (mNot ma) .fz) := by
  refine PE.weak (pe_not ha) fun σ H Q ⟨G, F, env, A, st, h⟩ => ⟨G, F, env, A, st, h.toB fun c e1 F1 H1 A1 st1 s1 h1 => ⟨c, rfl, h1.val st1 (Grow.refl st1.le) (by simp only [Is])⟩⟩
theorem e_if {c : Expr} {mc : ME} {o : O} (hc : L2.PT X c (tT X.K C Δ mc)) (ha : PE X a (tE X.K C Δ ma o)) (hb : PE X b (tE X.K C Δ mb o)) : PE X (.IfExp c a b pos) (tE X.K C Δ (mIf mc ma mb) o) := by
  refine PE.weak (pe_ifExp hc ha hb) fun σ H Q ⟨G, F, env, A, st, h⟩ => ⟨G, F, env, A, st, h.bindT fun c e1 F1 H1 A1 st1 s1 h1 => ?_⟩
  cases c with
  | true => exact ⟨G, F1, e1, A1, st1, h1⟩
  | false => exact ⟨G, F1, e1, A1, st1, h1⟩
/-! ### arguments, displays -/
theorem a_nil : PA X [] (tA X.K C Δ aNil) := PA.weak pa_nil fun σ H Q ⟨G, F, env, A, st, h⟩ => h F H A [] Step.refl st (by simp only [IsL])
theorem a_cons {e : Expr} {es : List Expr} {m : ME} {r : MA} (ha : PE X e (tE X.K C Δ m .fz)) (hr : PA X es (tA X.K C Δ r)) (hs : starEach (e :: es) X.env = (false, eval e X.env) :: starEach es X.env := by rfl) : PA X (e :: es) (tA X.K C Δ (aCons m r)) := by
  refine PA.weak (pa_cons ha hr hs) fun σ H Q ⟨G, F, env, A, st, h⟩ => ?_
  refine ⟨G, F, env, A, st, h.bind fun dx e1 F1 H1 A1 x st1 i1 s1 h1 => ⟨G, F1, e1, A1, st1, h1.bindA fun ds e2 F2 H2 A2 xs st2 i2 s2 h2 => ?_⟩⟩
  exact h2 F2 H2 A2 _ Step.refl st2 (by simp only [IsL]; exact ⟨_, _, rfl, Is.mono s2.le _ _ i1, i2⟩)
theorem IsL.len {K : PySem.W.Frag} {F : Hp} : ∀ {ds : List D} {xs : List V}, IsL K F ds xs → xs.length = ds.length
  | [], xs, h => by simp only [IsL] at h; rw [h]; rfl
  | d :: ds, xs, h => by
    simp only [IsL] at h
    obtain ⟨y, ys, rfl, _, h⟩ := h
    simp [IsL.len h]
theorem e_tup {es : List Expr} {r : MA} {x1 : Nat} (n : es.length ≤ 1000) (hl : ∀ env ds e, r env = .ok ds e → ds.length = es.length) (h : PA X es (tA X.K C Δ r)) : PE X (.Tuple es x1 pos) (tE X.K C Δ (mTup r) .fz) := by
  refine PE.weak (pe_tup h) fun σ H Q ⟨G, F, env, A, st, h⟩ => ⟨G, F, env, A, st, ?_⟩
  unfold mTup at h
  cases e : r env with
  | ok ds e1 =>
    rw [e] at h
    intro F1 H1 A1 xs s1 st1 i1
    have hn := hl env ds e1 e
    refine ⟨?_, fun p np => ?_⟩
    · rw [IsL.len i1, hn]; exact Nat.le_trans n (by rw [sizeLine_eq]; decide)
    · refine PostE.val (PostE.base s1 h) st1 (Grow.new st1.le np) ?_
      simp only [Is]
      exact ⟨p, xs, rfl, SqT.of upd_same, IsL.mono (Grow.new st1.le np).le _ _ i1⟩
  | exc c fs e1 => rw [e] at h; exact h
  | bad => rw [e] at h; exact h
theorem al_nil : ∀ env ds e, aNil env = .ok ds e → ds.length = 0 := fun env ds e h => by
  unfold aNil at h; cases h; rfl
theorem al_cons {m : ME} {r : MA} {n : Nat} (h : ∀ env ds e, r env = .ok ds e → ds.length = n) : ∀ env ds e, aCons m r env = .ok ds e → ds.length = n + 1 := fun env ds e q => by
  unfold aCons at q
  cases e1 : m env with
  | ok d e' =>
    rw [e1] at q
    simp only [RE.bindA_ok] at q
    cases e2 : r e' with
    | ok ds' e'' =>
      rw [e2] at q
      simp only [RA.bindA_ok] at q
      cases q
      simp [h _ _ _ e2]
    | exc c fs e'' => rw [e2] at q; cases q
    | bad => rw [e2] at q; cases q
  | exc c fs e' => rw [e1] at q; cases q
  | bad => rw [e1] at q; cases q
/-- [..]: new, owned -/
theorem e_lst {es : List Expr} {r : MA} (n : es.length ≤ 1000) (hl : ∀ env ds e, r env = .ok ds e → ds.length = es.length) (h : PA X es (tA X.K C Δ r)) : PE X (.List es pos) (tE X.K C Δ (mLst r) (.lst .fz)) := by
  refine PE.weak (pe_lst h) fun σ H Q ⟨G, F, env, A, st, h⟩ => ⟨G, F, env, A, st, ?_⟩
  unfold mLst at h
  cases e : r env with
  | ok ds e1 =>
    rw [e] at h
    intro F1 H1 A1 xs s1 st1 i1
    have hn := hl env ds e1 e
    refine ⟨?_, fun p np => ?_⟩
    · rw [IsL.len i1, hn]; exact Nat.le_trans n (by rw [sizeLine_eq]; decide)
    · have nf : F1 p = none := none_of_same st1.le p np
      have g : Grow F1 H1 F1 (upd H1 p (.lst xs)) := ⟨fun _ _ h => h, fun a o e => by rw [upd_ne (ne_of_none e np)]; exact e, fun a o e => by rw [upd_ne (ne_of_none e nf)]; exact st1.le a o e, fun _ _ h => .inl h⟩
      refine h F1 _ A1 (fun a => a = p) _ ⟨s1.le, fun a o nA e => g.pres a o (s1.pres a o nA e), fun a z => z.elim (fun z => s1.sub a z) fun z => .inr (s1.there a (by rw [z]; exact np)), s1.fnew, fun a e => s1.there a (none_of_same g.pres a e)⟩ (st1.grow g) ?_ fun b z => ?_
      · simp only [Own]
        refine ⟨ds, p, xs, fun _ => False, rfl, rfl, upd_same, ?_, id, fun a => ⟨.inl, fun z => z.elim id fun z => z.elim⟩⟩
        have all : ∀ (ds : List D) (xs : List V), IsL X.K F1 ds xs → OwnL (Own X.K F1 (upd H1 p (.lst xs)) .fz) ds xs (fun _ => False) := by
          intro ds
          induction ds with
          | nil => intro xs h; simp only [IsL] at h; exact ⟨h, fun _ z => z⟩
          | cons d ds ih =>
            intro xs h
            simp only [IsL] at h
            obtain ⟨y, ys, e1, h1, h2⟩ := h
            refine ⟨y, ys, fun _ => False, fun _ => False, e1, by simp only [Own]; exact ⟨h1, fun _ z => z⟩, ?_, fun _ z => z.elim, fun a => ⟨.inl, fun z => z.elim id id⟩⟩
            have q := ih ys h2
            refine OwnL.imp (fun d v A w => ?_) ds ys _ q
            simp only [Own] at w ⊢
            exact w
        exact all ds xs i1
      · have z' : b = p := z
        subst z'
        exact ⟨fun q => absurd np (st1.there q), nf⟩
  | exc c fs e1 => rw [e] at h; exact h
  | bad => rw [e] at h; exact h
/-- what is new may be frozen -/
theorem e_fz {e : Expr} {m : ME} {o : O} (f : o.frz = true) (h : PE X e (tE X.K C Δ m o)) : PE X e (tE X.K C Δ m .fz) := by
  refine PE.weak h fun σ H Q ⟨G, F, env, A, st, h⟩ => ⟨G, F, env, A, st, ?_⟩
  generalize m env = r at h ⊢
  cases r with
  | ok d e1 =>
    intro F1 H1 A1 B v s st1 own dj
    have sm : Same F1 (addH F1 H1 B) := addH_same fun a z => (dj a z).2
    have le : Same (addH F1 H1 B) H1 := addH_le st1.le
    refine h (addH F1 H1 B) H1 A1 (fun _ => False) v ⟨s.le.trans sm, s.pres, fun a z => s.sub a (z.elim .inl fun z => z.elim), fun a o e => ?_, s.there⟩ ⟨st1.sl.loc sm fun _ _ _ e => e, fun a z => ?_, le, st1.gl, st1.gd⟩ ?_ fun _ z => z.elim
    · by_cases q : B a
      · exact .inr (s.sub a (.inr q))
      · rw [addH_out q] at e; exact s.fnew a o e
    · rw [addH_out fun q => (dj a q).1 z]; exact st1.dj a z
    · simp only [Own]
      exact ⟨Own.freeze sm o d v B f (fun a u z e => by rw [addH_in z]; exact e) own, fun _ z => z⟩
  | exc c fs e1 => exact h
  | bad => exact h
/-! ### built-in calls -/
theorem e_callB {id : String} {x : Str} {p : Pos} {e : Expr} {es : List Expr} {r : List V → Hp → VK → Prop} {f : List D → Option D} {m : MA} (hc : CallR X (.builtin id) r) (hr : RelC X.K r f) (hg : Gl X x) (hm : X.mg x = none) (hv : bootBuiltins x = some (.builtin id)) (ha : PA X (e :: es) (tA X.K C Δ m))
    (hn : x ≠ "__name__" := by decide) (hdb : (x == ("__debug__" : Str)) = false := by decide) (he : starEach (e :: es) X.env = (false, eval e X.env) :: starEach es X.env := by rfl) (hpl : (backTo pos (starEach es X.env)).any (·.1) = false := by rfl) :
    PE X (.Call (.Name x p) (e :: es) [] pos) (tE X.K C Δ (mFn f m) .fz) := by
  refine PE.weak (pe_callB hc hg hm hv ha hn hdb he hpl) fun σ H Q ⟨G, F, env, A, st, h⟩ => ⟨G, F, env, A, st, h.bindA fun ds e1 F1 H1 A1 vs st1 i1 s1 h1 => ?_⟩
  obtain ⟨dz, e, q⟩ := h1.lift st1
  exact hr F1 H1 vs ds dz Q st1.le i1 e fun F' H' v g i => q g i
theorem e_callT {T : String} {x : Str} {p : Pos} {e : Expr} {es : List Expr} {r : List V → Hp → VK → Prop} {f : List D → Option D} {m : MA} (hc : CallR X (.type T) r) (hr : RelC X.K r f) (hg : Gl X x) (hm : X.mg x = none) (hv : bootBuiltins x = some (.type T)) (ha : PA X (e :: es) (tA X.K C Δ m))
    (hn : x ≠ "__name__" := by decide) (hdb : (x == ("__debug__" : Str)) = false := by decide) (he : starEach (e :: es) X.env = (false, eval e X.env) :: starEach es X.env := by rfl) (hpl : (backTo pos (starEach es X.env)).any (·.1) = false := by rfl) :
    PE X (.Call (.Name x p) (e :: es) [] pos) (tE X.K C Δ (mFn f m) .fz) := by
  refine PE.weak (pe_callTy hc hg hm hv ha hn hdb he hpl) fun σ H Q ⟨G, F, env, A, st, h⟩ => ⟨G, F, env, A, st, h.bindA fun ds e1 F1 H1 A1 vs st1 i1 s1 h1 => ?_⟩
  obtain ⟨dz, e, q⟩ := h1.lift st1
  exact hr F1 H1 vs ds dz Q st1.le i1 e fun F' H' v g i => q g i
end
end PT

set_option Elab.async false
set_option linter.all false
set_option maxRecDepth 100000
set_option maxHeartbeats 2000000
/-! PT: statements -/
namespace PT
open PySem PySem.Spec PyProof.Rows L2

inductive RS where
  | nx (e : Ev) | rt (d : D) (e : Ev) | bk (e : Ev) | ct (e : Ev) | exc (c : Str) (fs : List (Str × D)) (e : Ev) | bad
abbrev MS := Ev → RS
def RS.bind (r : RS) (k : Ev → RS) : RS := match r with
  | .nx e => k e
  | .rt d e => .rt d e
  | .bk e => .bk e
  | .ct e => .ct e
  | .exc c fs e => .exc c fs e
  | .bad => .bad
@[simp] theorem RS.bind_nx (e : Ev) (k : Ev → RS) : (RS.nx e).bind k = k e := rfl
@[simp] theorem RS.bind_rt (d : D) (e : Ev) (k : Ev → RS) : (RS.rt d e).bind k = .rt d e := rfl
@[simp] theorem RS.bind_bk (e : Ev) (k : Ev → RS) : (RS.bk e).bind k = .bk e := rfl
@[simp] theorem RS.bind_ct (e : Ev) (k : Ev → RS) : (RS.ct e).bind k = .ct e := rfl
@[simp] theorem RS.bind_exc (c : Str) (fs : List (Str × D)) (e : Ev) (k : Ev → RS) : (RS.exc c fs e).bind k = .exc c fs e := rfl
@[simp] theorem RS.bind_bad (k : Ev → RS) : RS.bad.bind k = .bad := rfl
def RE.bindS (r : RE) (k : D → Ev → RS) : RS := match r with
  | .ok d e => k d e
  | .exc c fs e => .exc c fs e
  | .bad => .bad
@[simp] theorem RE.bindS_ok (d : D) (e : Ev) (k : D → Ev → RS) : (RE.ok d e).bindS k = k d e := rfl
@[simp] theorem RE.bindS_exc (c : Str) (fs : List (Str × D)) (e : Ev) (k : D → Ev → RS) : (RE.exc c fs e).bindS k = .exc c fs e := rfl
@[simp] theorem RE.bindS_bad (k : D → Ev → RS) : RE.bad.bindS k = .bad := rfl
def RA.bindS (r : RA) (k : List D → Ev → RS) : RS := match r with
  | .ok d e => k d e
  | .exc c fs e => .exc c fs e
  | .bad => .bad
@[simp] theorem RA.bindS_ok (d : List D) (e : Ev) (k : List D → Ev → RS) : (RA.ok d e).bindS k = k d e := rfl
@[simp] theorem RA.bindS_exc (c : Str) (fs : List (Str × D)) (e : Ev) (k : List D → Ev → RS) : (RA.exc c fs e).bindS k = .exc c fs e := rfl
@[simp] theorem RA.bindS_bad (k : List D → Ev → RS) : RA.bad.bindS k = .bad := rfl
def RE.bindTS (r : RE) (k : Bool → Ev → RS) : RS := match r with
  | .ok (.bl b) e => k b e
  | .ok _ _ => .bad
  | .exc c fs e => .exc c fs e
  | .bad => .bad
@[simp] theorem RE.bindTS_bl (b : Bool) (e : Ev) (k : Bool → Ev → RS) : (RE.ok (.bl b) e).bindTS k = k b e := rfl
@[simp] theorem RE.bindTS_exc (c : Str) (fs : List (Str × D)) (e : Ev) (k : Bool → Ev → RS) : (RE.exc c fs e).bindTS k = .exc c fs e := rfl
@[simp] theorem RE.bindTS_bad (k : Bool → Ev → RS) : RE.bad.bindTS k = .bad := rfl

def PostS (K : PySem.W.Frag) (C : SC) (Δ : Ty) (G F H : Hp) (A : AS) (D : Ends) (r : RS) : Prop := match r with
  | .nx e => ∀ F' H' A' σ', Step F H A F' H' A' → StOk K G Δ F' H' e σ' A' → D.nx σ' H'
  | .bk e => ∀ F' H' A' σ', Step F H A F' H' A' → StOk K G C.tb F' H' e σ' A' → D.bk σ' H'
  | .ct e => ∀ F' H' A' σ', Step F H A F' H' A' → StOk K G C.tc F' H' e σ' A' → D.ct σ' H'
  | .rt d e => ∀ F' H' A' B σ' v, Step F H A F' H' (fun a => A' a ∨ B a) → StOk K G C.tr F' H' e σ' A' → Own K F' H' C.ro d v B → (∀ b, B b → ¬ A' b ∧ F' b = none) → D.rt v H'
  | .exc c fs e => PostX K C G F H A c fs e
  | .bad => False
def tS (K : PySem.W.Frag) (C : SC) (Δ : Ty) (m : MS) (Δ' : Ty) : TS := fun D σ H => ∃ G F env A, StOk K G Δ F H env σ A ∧ PostS K C Δ' G F H A D (m env)

/-- slots whose type is forgotten -/
def LeT : Ty → Ty → Prop
  | [], [] => True
  | s :: Δ, s' :: Δ' => (s' = s ∨ s' = .ow .any) ∧ LeT Δ Δ'
  | _, _ => False
theorem LeT.refl : ∀ Δ, LeT Δ Δ
  | [] => trivial
  | _ :: Δ => ⟨.inl rfl, LeT.refl Δ⟩
section
variable {K : PySem.W.Frag} {C : SC} {Δ Δ' : Ty} {G F H F1 H1 : Hp} {A A1 : AS} {σ : L2.St} {env : Ev}
theorem Slots.weak : ∀ {Δ Δ' : Ty} {env : Ev} {σ : L2.St} {A : AS}, LeT Δ Δ' → Slots K G F H Δ env σ A → ∃ A', Slots K G F H Δ' env σ A' ∧ ∀ a, A' a → A a
  | [], [], env, σ, A, _, h => ⟨A, h, fun _ z => z⟩
  | s :: Δ, s' :: Δ', env, σ, A, l, h => by
    obtain ⟨x, e, v, r, A1, A2, rfl, rfl, h1, h2, h3, h4⟩ := h
    obtain ⟨l1, l2⟩ := l
    obtain ⟨A3, q1, q2⟩ := Slots.weak l2 h2
    have key : ∃ A4, SlotOk K G F H s' x v A4 ∧ ∀ a, A4 a → A1 a := by
      rcases l1 with rfl | rfl
      · exact ⟨A1, h1, fun _ z => z⟩
      · refine ⟨fun _ => False, ?_, fun _ z => z.elim⟩
        cases x with
        | none => exact fun _ z => z
        | some d =>
          have hv : ∃ y, v = some y := by
            cases s with
            | ow o => obtain ⟨y, e1, _⟩ := h1; exact ⟨y, e1⟩
            | pr o w => exact ⟨w, h1.1⟩
            | sh o => obtain ⟨_, y, _, e1, _⟩ := h1; exact ⟨y, e1⟩
            | ex b cls dd => exact ⟨_, h1.2.1⟩
          obtain ⟨y, e1⟩ := hv
          exact ⟨y, e1, by simp only [Own]; exact fun _ z => z⟩
    obtain ⟨A4, q3, q4⟩ := key
    exact ⟨fun a => A4 a ∨ A3 a, ⟨x, e, v, r, A4, A3, rfl, rfl, q3, q1, fun a z w => h3 a (q4 a z) (q2 a w), fun a => Iff.rfl⟩, fun a z => (h4 a).mpr (z.elim (fun z => .inl (q4 a z)) fun z => .inr (q2 a z))⟩
theorem StOk.weak (l : LeT Δ Δ') (x : StOk K G Δ F H env σ A) : ∃ A', StOk K G Δ' F H env σ A' ∧ ∀ a, A' a → A a := by
  obtain ⟨A', h1, h2⟩ := x.sl.weak l
  exact ⟨A', ⟨h1, fun a z => x.dj a (h2 a z), x.le, x.gl, fun a z => x.gd a (h2 a z)⟩, h2⟩
theorem PostS.base {D : Ends} {r : RS} (s : Step F H A F1 H1 A1) (h : PostS K C Δ G F H A D r) : PostS K C Δ G F1 H1 A1 D r := by
  cases r with
  | nx e => exact fun F' H' A' σ' s' => h F' H' A' σ' (s.trans s')
  | bk e => exact fun F' H' A' σ' s' => h F' H' A' σ' (s.trans s')
  | ct e => exact fun F' H' A' σ' s' => h F' H' A' σ' (s.trans s')
  | rt d e => exact fun F' H' A' B σ' v s' => h F' H' A' B σ' v (s.trans s')
  | exc c fs e => exact PostX.base s h
  | bad => exact h
theorem PostS.bindE {D : Ends} {r : RE} {k : PT.D → Ev → RS} {Q : VK} {o : O} (h : PostS K C Δ' G F H A D (r.bindS k))
    (hq : ∀ d e F1 H1 A1 B v, StOk K G Δ F1 H1 e σ A1 → Own K F1 H1 o d v B → (∀ b, B b → ¬ A1 b ∧ F1 b = none) → Step F H A F1 H1 (fun a => A1 a ∨ B a) → PostS K C Δ' G F H A D (k d e) → Q v H1) : PostE K C Δ G F H A σ o Q r := by
  cases r with
  | ok d e => exact fun F' H' A' B v s st own dj => hq d e F' H' A' B v st own dj s h
  | exc c fs e => exact h
  | bad => exact h
theorem PostS.bindD {D : Ends} {r : RE} {k : PT.D → Ev → RS} {Q : VK} (h : PostS K C Δ' G F H A D (r.bindS k))
    (hq : ∀ d e F1 H1 A1 v, StOk K G Δ F1 H1 e σ A1 → Is K F1 d v → Step F H A F1 H1 A1 → PostS K C Δ' G F1 H1 A1 D (k d e) → Q v H1) : PostE K C Δ G F H A σ .fz Q r := by
  refine h.bindE fun d e F1 H1 A1 B v st own dj s h' => ?_
  simp only [Own] at own
  have s' := s.less (A'' := A1) fun a z => .inl z
  exact hq d e F1 H1 A1 v st own.1 s' (PostS.base s' h')
theorem PostS.bindT {D : Ends} {r : RE} {k : Bool → Ev → RS} {Q : Bool → Hp → Prop} (h : PostS K C Δ' G F H A D (r.bindTS k))
    (hq : ∀ b e F1 H1 A1, StOk K G Δ F1 H1 e σ A1 → Step F H A F1 H1 A1 → PostS K C Δ' G F1 H1 A1 D (k b e) → Q b H1) : PostT K C Δ G F H A σ Q r := by
  cases r with
  | ok d e => cases d <;> first | exact h | exact fun F' H' A' s st => hq _ e F' H' A' st s (PostS.base s h)
  | exc c fs e => exact h
  | bad => exact h
end
theorem PS.weak {X : Cx} {e : Stmt} {t t' : TS} (h : L2.PS X e t) (w : ∀ D σ H, t' D σ H → t D σ H) : L2.PS X e t' := ⟨fun pins s σ H D I q => h.run pins s σ H D I (w D σ H q)⟩
theorem PSs.weak {X : Cx} {e : List Stmt} {t t' : TS} (h : L2.PSs X e t) (w : ∀ D σ H, t' D σ H → t D σ H) : L2.PSs X e t' := ⟨fun pins s σ H D I q => h.run pins s σ H D I (w D σ H q)⟩

/-! ### what is done -/
def sNil : MS := fun e => .nx e
def sSeq (a b : MS) : MS := fun e => (a e).bind b
def sExpr (m : ME) : MS := fun e => (m e).bindS fun _ e => .nx e
def sSet (i : Nat) (m : ME) : MS := fun e => (m e).bindS fun d e => .nx (e.set i (some d))
def sRet (m : ME) : MS := fun e => (m e).bindS fun d e => .rt d e
def sRetN : MS := fun e => .rt .non e
def sBrk : MS := fun e => .bk e
def sCont : MS := fun e => .ct e
def sIf (c : ME) (a b : MS) : MS := fun e => (c e).bindTS fun c e => if c then a e else b e

section
variable {X : Cx} {C : SC} {Δ Δ1 Δ' : Ty} {st : Stmt} {rest : List Stmt} {m1 m2 : MS} {pos : Pos} {e : Expr} {m : ME}
theorem s_nil : PSs X [] (tS X.K C Δ sNil Δ) := PSs.weak pss_nil fun D σ H ⟨G, F, env, A, st, h⟩ => h F H A σ Step.refl st
theorem s_cons (h1 : PS X st (tS X.K C Δ m1 Δ1)) (h2 : PSs X rest (tS X.K C Δ1 m2 Δ')) : PSs X (st :: rest) (tS X.K C Δ (sSeq m1 m2) Δ') := by
  refine PSs.weak (pss_cons h1 h2) fun D σ H ⟨G, F, env, A, st, h⟩ => ⟨G, F, env, A, st, ?_⟩
  unfold sSeq at h
  generalize m1 env = r at h
  cases r with
  | nx e1 => exact fun F' H' A' σ' s st' => ⟨G, F', e1, A', st', PostS.base s h⟩
  | _ => exact h
/-- the last one -/
theorem s_one (h1 : PS X st (tS X.K C Δ m1 Δ')) : PSs X [st] (tS X.K C Δ m1 Δ') := PSs.weak (pss_one h1) fun D σ H h => h
theorem s_pass : PS X (.Pass pos) (tS X.K C Δ sNil Δ) := PS.weak ps_pass fun D σ H ⟨G, F, env, A, st, h⟩ => h F H A σ Step.refl st
theorem s_brk (l : LeT Δ C.tb) : PS X (.Break pos) (tS X.K C Δ sBrk Δ') := PS.weak ps_break fun D σ H ⟨G, F, env, A, st, h⟩ => by
  obtain ⟨A', h1, h2⟩ := st.weak l
  exact h F H A' σ (Step.refl.less h2) h1
theorem s_cont (l : LeT Δ C.tc) : PS X (.Continue pos) (tS X.K C Δ sCont Δ') := PS.weak ps_continue fun D σ H ⟨G, F, env, A, st, h⟩ => by
  obtain ⟨A', h1, h2⟩ := st.weak l
  exact h F H A' σ (Step.refl.less h2) h1
theorem s_doc {x : Str} {j : Nat} {p : Pos} : PS X (.Expr (.Constant (.str x) j p) pos) (tS X.K C Δ sNil Δ) := PS.weak ps_doc fun D σ H ⟨G, F, env, A, st, h⟩ => h F H A σ Step.refl st
theorem s_expr {o : O} (h : PE X e (tE X.K C Δ m o)) (hs : swapsWith e none pos.line X.env = pure false := by rfl) : PS X (.Expr e pos) (tS X.K C Δ (sExpr m) Δ) := by
  refine PS.weak (ps_expr h hs) fun D σ H ⟨G, F, env, A, st, h⟩ => ⟨G, F, env, A, st, h.bindE fun d e F1 H1 A1 B v st1 own dj s h1 => h1 F1 H1 A1 σ (s.less fun a z => .inl z) st1⟩
theorem s_if {c : Expr} {a b : List Stmt} {mc : ME} (hc : L2.PT X c (tT X.K C Δ mc)) (ha : PSs X a (tS X.K C Δ m1 Δ')) (hb : PSs X b (tS X.K C Δ m2 Δ')) : PS X (.If c a b pos) (tS X.K C Δ (sIf mc m1 m2) Δ') := by
  refine PS.weak (ps_if hc ha hb) fun D σ H ⟨G, F, env, A, st, h⟩ => ⟨G, F, env, A, st, h.bindT fun c e1 F1 H1 A1 st1 s1 h1 => ?_⟩
  cases c with
  | true => exact ⟨G, F1, e1, A1, st1, h1⟩
  | false => exact ⟨G, F1, e1, A1, st1, h1⟩
/-- name = value -/
theorem s_set {i : Nat} {x : Str} {o : O} {pos' : Pos} (t : Δ[i]? = some (.ow o)) (hN : X.N.Nodup) (hi : X.N[i]? = some x) (hx : Loc X.env.scope x) (he : PE X e (tE X.K C Δ m o)) (hs : swapsWith e (some (.Name x pos')) pos.line X.env = pure false := by rfl)
    (hf : X.fn x = true ∨ X.env.scope.names.lookup x = some .local := by first | exact .inl rfl | exact .inr rfl | assumption) : PS X (.Assign [.Name x pos'] e pos) (tS X.K C Δ (sSet i m) Δ) := by
  refine PS.weak (ps_set hN hi hx he hs hf) fun D σ H ⟨G, F, env, A, st, h⟩ => ⟨G, F, env, A, st, h.bindE fun d e F1 H1 A1 B v st1 own dj s h1 => ?_⟩
  obtain ⟨A2, q1, q2⟩ := st1.store t own dj fun b z => by
    cases q : G b with
    | none => rfl
    | some u =>
      rcases s.sub b (.inr z) with w | w
      · rw [st.gd b w] at q; cases q
      · rw [st.gl b u q] at w; cases w
  exact h1 F1 H1 A2 _ (s.less q2) q1
/-- return value -/
theorem s_ret (l : LeT Δ C.tr) (he : PE X e (tE X.K C Δ m C.ro)) : PS X (.Return (some e) pos) (tS X.K C Δ (sRet m) Δ') := by
  refine PS.weak (ps_ret he) fun D σ H ⟨G, F, env, A, st, h⟩ => ⟨G, F, env, A, st, h.bindE fun d e F1 H1 A1 B v st1 own dj s h1 => ?_⟩
  obtain ⟨A2, q1, q2⟩ := st1.weak l
  exact h1 F1 H1 A2 B σ v (s.less fun a z => z.elim (fun z => .inl (q2 a z)) .inr) q1 own fun b z => ⟨fun w => (dj b z).1 (q2 b w), (dj b z).2⟩
theorem s_retN (l : LeT Δ C.tr) (ro : C.ro = .fz) : PS X (.Return none pos) (tS X.K C Δ sRetN Δ') := by
  refine PS.weak ps_retN fun D σ H ⟨G, F, env, A, st, h⟩ => ?_
  obtain ⟨A2, q1, q2⟩ := st.weak l
  exact h F H A2 (fun _ => False) σ .non (Step.refl.less fun a z => z.elim (q2 a) fun z => z.elim) q1 (by rw [ro]; simp [Own, Is]) fun _ z => z.elim
/-- return of an owned slot: it is moved out -/
theorem s_retO {i : Nat} {x : Str} {p : Pos} {o : O} (t : Δ[i]? = some (.ow o)) (ro : C.ro = o) (l : LeT Δ C.tr) (ta : C.tr[i]? = some (.ow .any)) (hN : X.N[i]? = some x) (hv : Vis X.env.scope x) (hd : (x == ("__debug__" : Str)) = false := by decide) (hcd : (x == ("__classdict__" : Str)) = false := by decide) :
    PS X (.Return (some (.Name x p)) pos) (tS X.K C Δ (sRet (mVar i)) Δ') := by
  refine PS.weak (ps_ret (pe_var hN hv hd hcd)) fun D σ H ⟨G, F, env, A, st, h⟩ => ?_
  unfold sRet mVar at h
  cases e : env[i]? with
  | none => rw [e] at h; exact h.elim
  | some w =>
    cases w with
    | none => rw [e] at h; exact h.elim
    | some d =>
      rw [e] at h
      simp only [RE.bindS_ok] at h
      obtain ⟨v, A1, A2, h1, ⟨y, rfl, h2⟩, h3, h4, h5⟩ := st.sl.take e t
      refine ⟨y, h1, ?_⟩
      obtain ⟨A3, q1, q2⟩ := h3.weak l
      have hi : i < Δ.length := (List.getElem?_eq_some_iff.mp t).1
      have q3 := Slots.put (i := i) (d := d) (s := .ow .any) (v := some y) (A1 := fun _ => False) q1 (by simp [st.len.1, hi]) ta h1 ⟨y, rfl, by simp only [Own]; exact fun _ z => z⟩ fun _ z => z.elim
      have e3 : (env.set i none).set i (some d) = env := by
        rw [List.set_set]
        exact List.ext_getElem? fun j => by
          by_cases hj : i = j
          · subst hj; rw [List.getElem?_set_self (by rw [st.len.1]; exact hi), e]
          · rw [List.getElem?_set_ne hj]
      rw [e3] at q3
      refine h F H (fun a => False ∨ A3 a) A1 σ y (Step.refl.less fun a z => (h5 a).mpr (z.elim (fun z => z.elim (fun z => z.elim) fun z => .inr (q2 a z)) .inl)) ⟨q3, fun a z => z.elim (fun z => z.elim) fun z => st.dj a ((h5 a).mpr (.inr (q2 a z))), st.le, st.gl, fun a z => z.elim (fun z => z.elim) fun z => st.gd a ((h5 a).mpr (.inr (q2 a z)))⟩ (by rw [ro]; exact h2) fun b z => ⟨fun w => w.elim (fun z => z.elim) fun w => h4 b z (q2 b w), st.dj b ((h5 b).mpr (.inl z))⟩
end
end PT

set_option Elab.async false
set_option linter.all false
set_option maxRecDepth 100000
set_option maxHeartbeats 2000000
/-! PT: a def's promise, its body, a call -/
namespace PT
open PySem PySem.Spec PyProof.Rows L2

/-- a parameter: data, lent to be changed, lent to be read -/
inductive PK where
  | d | o (o : O) | s (o : O)
def PK.so : PK → SO
  | .d => .ow .fz
  | .o u => .ow u
  | .s u => .sh u
structure FT where
  ps : List PK
  ret : O
abbrev FT.ty (t : FT) : Ty := t.ps.map PK.so
inductive RF where
  | ok (d : D) (xs : List D) | exc (c : Str) (fs : List (Str × D)) (xs : List D) | bad
def PostF (K : PySem.W.Frag) (t : FT) (G F H : Hp) (A : AS) (vs : List V) (Q : VK) (E : XK) (r : RF) : Prop := match r with
  | .ok d xs => ∀ F' H' A' B v, Step F H A F' H' (fun a => A' a ∨ B a) → StOk K G t.ty F' H' (xs.map some) (vs.map some) A' → Own K F' H' t.ret d v B → (∀ b, B b → ¬ A' b ∧ F' b = none) → Q v H'
  | .exc c fs xs => ∀ F' H' A' dd, Step F H A F' H' A' → StOk K G t.ty F' H' (xs.map some) (vs.map some) A' → XdOk K F' fs dd → E (.ref (He.ga K c)) dd H'
  | .bad => False
def pM (K : PySem.W.Frag) (t : FT) (f : List D → RF) : Sp := fun vs H Q E => ∃ G F xs A, StOk K G t.ty F H (xs.map some) (vs.map some) A ∧ PostF K t G F H A vs Q E (f xs)

/-- what is left of the lent ones -/
def back : List PK → List D → Ev → Option (List D)
  | .o _ :: ps, _ :: xs, some d :: e => (back ps xs e).map (d :: ·)
  | .o _ :: _, _ :: _, none :: _ => none
  | .d :: ps, x :: xs, _ :: e => (back ps xs e).map (x :: ·)
  | .s _ :: ps, x :: xs, _ :: e => (back ps xs e).map (x :: ·)
  | [], [], _ => some []
  | _, _, _ => none
@[irreducible] def runF (t : FT) (n : Nat) (b : MS) (xs : List D) : RF := match b (xs.map some ++ List.replicate (n - xs.length) none) with
  | .nx e => (match back t.ps xs e with
    | some ys => .ok .non ys
    | none => .bad)
  | .rt d e => (match back t.ps xs e with
    | some ys => .ok d ys
    | none => .bad)
  | .exc c fs e => (match back t.ps xs e with
    | some ys => .exc c fs ys
    | none => .bad)
  | _ => .bad
/-- the slots' types at the entry, at the end -/
def inT (vs : List V) : Nat → List PK → Ty → Ty
  | _, [], r => r
  | i, .d :: ps, r => .ow .fz :: inT vs (i + 1) ps r
  | i, .o o :: ps, r => .pr o (vs.getD i .non) :: inT vs (i + 1) ps r
  | i, .s o :: ps, r => .sh o :: inT vs (i + 1) ps r
def outT (vs : List V) : Nat → List PK → Ty → Ty
  | _, [], r => r
  | i, .d :: ps, r => .ow .any :: outT vs (i + 1) ps r
  | i, .o o :: ps, r => .pr o (vs.getD i .non) :: outT vs (i + 1) ps r
  | i, .s o :: ps, r => .ow .any :: outT vs (i + 1) ps r
section
variable {K : PySem.W.Frag} {G F H F' H' : Hp}
theorem slots_none : ∀ (Δ : Ty), Slots K G F H Δ (List.replicate Δ.length none) (List.replicate Δ.length none) (fun _ => False)
  | [] => ⟨rfl, rfl, fun _ z => z⟩
  | s :: Δ => ⟨none, _, none, _, fun _ => False, fun _ => False, rfl, rfl, fun _ z => z, slots_none Δ, fun _ z => z.elim, fun _ => ⟨.inl, fun z => z.elim id id⟩⟩
theorem slots_in (vs : List V) (lt : Ty) : ∀ (ps : List PK) (i : Nat) (xs : List D) (ws : List V) (A : AS), (∀ j w, ws[j]? = some w → vs[i + j]? = some w) → Slots K G F H (ps.map PK.so) (xs.map some) (ws.map some) A →
    Slots K G F H (inT vs i ps lt) (xs.map some ++ List.replicate lt.length none) (ws.map some ++ List.replicate lt.length none) A
  | [], i, xs, ws, A, hv, h => by
    obtain ⟨e1, e2, n⟩ := h
    obtain rfl : xs = [] := List.map_eq_nil_iff.mp e1
    obtain rfl : ws = [] := List.map_eq_nil_iff.mp e2
    have z := slots_none (K := K) (G := G) (F := F) (H := H) lt
    have e : A = fun _ => False := funext fun a => propext ⟨fun z => (n a z).elim, fun z => z.elim⟩
    rw [e]
    exact z
  | p :: ps, i, xs, ws, A, hv, h => by
    obtain ⟨x, e, v, r, A1, A2, e1, e2, h1, h2, h3, h4⟩ := h
    cases xs with
    | nil => simp at e1
    | cons x0 xs =>
      cases ws with
      | nil => simp at e2
      | cons w ws =>
        simp only [List.map_cons, List.cons.injEq] at e1 e2
        obtain ⟨rfl, rfl⟩ := e1
        obtain ⟨rfl, rfl⟩ := e2
        have ih := slots_in vs lt ps (i + 1) xs ws A2 (fun j w' q => by have := hv (j + 1) w' (by simpa using q); rw [← this]; congr 1; omega) h2
        have hw : vs.getD i .non = w := by
          have := hv 0 w rfl
          rw [List.getD_eq_getElem?_getD]
          simp at this
          rw [this]; rfl
        cases p with
        | d => exact ⟨some x0, _, some w, _, A1, A2, rfl, rfl, h1, ih, h3, h4⟩
        | o o =>
          obtain ⟨y, e3, q⟩ := h1
          cases e3
          exact ⟨some x0, _, some w, _, A1, A2, rfl, rfl, ⟨by rw [hw], by rw [hw]; exact q⟩, ih, h3, h4⟩
        | s o => exact ⟨some x0, _, some w, _, A1, A2, rfl, rfl, h1, ih, h3, h4⟩
theorem slots_out (vs : List V) (lt : Ty) (le : Same F F') : ∀ (ps : List PK) (i : Nat) (xs ys : List D) (ws : List V) (e : Ev) (σ : L2.St) (A A' : AS), (∀ j w, ws[j]? = some w → vs[i + j]? = some w) → back ps xs e = some ys →
    Slots K G F H (ps.map PK.so) (xs.map some) (ws.map some) A → Slots K G F' H' (outT vs i ps lt) e σ A' → ∃ B, Slots K G F' H' (ps.map PK.so) (ys.map some) (ws.map some) B ∧ ∀ a, B a → A' a
  | [], i, xs, ys, ws, e, σ, A, A', hv, hb, h, h' => by
    obtain ⟨e1, e2, n⟩ := h
    obtain rfl : xs = [] := List.map_eq_nil_iff.mp e1
    obtain rfl : ws = [] := List.map_eq_nil_iff.mp e2
    simp only [back, Option.some.injEq] at hb
    subst hb
    exact ⟨fun _ => False, ⟨rfl, rfl, fun _ z => z⟩, fun _ z => z.elim⟩
  | p :: ps, i, xs, ys, ws, e, σ, A, A', hv, hb, h, h' => by
    obtain ⟨x, e0, v, r, A1, A2, e1, e2, h1, h2, h3, h4⟩ := h
    cases xs with
    | nil => simp at e1
    | cons x0 xs =>
      cases ws with
      | nil => simp at e2
      | cons w ws =>
        simp only [List.map_cons, List.cons.injEq] at e1 e2
        obtain ⟨rfl, rfl⟩ := e1
        obtain ⟨rfl, rfl⟩ := e2
        have hv' : ∀ j w', ws[j]? = some w' → vs[(i + 1) + j]? = some w' := fun j w' q => by have := hv (j + 1) w' (by simpa using q); rw [← this]; congr 1; omega
        have hw : vs.getD i .non = w := by
          have := hv 0 w rfl
          rw [List.getD_eq_getElem?_getD]
          simp at this
          rw [this]; rfl
        cases p with
        | d =>
          obtain ⟨x', e', v', r', B1, B2, rfl, rfl, q1, q2, q3, q4⟩ := h'
          cases hc : back ps xs e' with
          | none => simp [back, hc] at hb
          | some zs =>
            simp only [back, hc, Option.map_some, Option.some.injEq] at hb
            subst hb
            obtain ⟨B, z1, z2⟩ := slots_out vs lt le ps (i + 1) xs zs ws e' r' A2 B2 hv' hc h2 q2
            obtain ⟨y, ey, own⟩ := h1
            simp only [Own] at own
            exact ⟨B, ⟨some x0, _, some w, _, fun _ => False, B, rfl, rfl, ⟨y, ey, by simp only [Own]; exact ⟨Is.mono le _ _ own.1, fun _ z => z⟩⟩, z1, fun _ z => z.elim, fun a => ⟨.inr, fun z => z.elim (fun z => z.elim) id⟩⟩, fun a z => (q4 a).mpr (.inr (z2 a z))⟩
        | s o =>
          obtain ⟨x', e', v', r', B1, B2, rfl, rfl, q1, q2, q3, q4⟩ := h'
          cases hc : back ps xs e' with
          | none => simp [back, hc] at hb
          | some zs =>
            simp only [back, hc, Option.map_some, Option.some.injEq] at hb
            subst hb
            obtain ⟨B, z1, z2⟩ := slots_out vs lt le ps (i + 1) xs zs ws e' r' A2 B2 hv' hc h2 q2
            obtain ⟨_, y, By, ey, own⟩ := h1
            exact ⟨B, ⟨some x0, _, some w, _, fun _ => False, B, rfl, rfl, ⟨fun _ z => z, y, By, ey, Own.loc le o x0 y By (fun _ _ _ h => h) own⟩, z1, fun _ z => z.elim, fun a => ⟨.inr, fun z => z.elim (fun z => z.elim) id⟩⟩, fun a z => (q4 a).mpr (.inr (z2 a z))⟩
        | o o =>
          obtain ⟨x', e', v', r', B1, B2, rfl, rfl, q1, q2, q3, q4⟩ := h'
          cases x' with
          | none => simp [back] at hb
          | some d =>
            cases hc : back ps xs e' with
            | none => simp [back, hc] at hb
            | some zs =>
              simp only [back, hc, Option.map_some, Option.some.injEq] at hb
              subst hb
              obtain ⟨B, z1, z2⟩ := slots_out vs lt le ps (i + 1) xs zs ws e' r' A2 B2 hv' hc h2 q2
              obtain ⟨ey, own⟩ := q1
              rw [hw] at ey own
              exact ⟨fun a => B1 a ∨ B a, ⟨some d, _, some w, _, B1, B, rfl, rfl, ⟨w, rfl, own⟩, z1, fun a z y => q3 a z (z2 a y), fun a => Iff.rfl⟩, fun a z => (q4 a).mpr (z.elim .inl fun z => .inr (z2 a z))⟩
end

/-- the context of a def's body -/
abbrev scF (t : FT) (vs : List V) (lt : Ty) (E : XK) : SC := { W := fun cls d _ H => E cls d H, tx := outT vs 0 t.ps (lt.map fun _ => .ow .any), tb := [], tc := [], ro := t.ret, tr := outT vs 0 t.ps (lt.map fun _ => .ow .any) }
section
variable {P : Program} {w : World} {K : PySem.W.Frag} {mg : Str → Option Value} {base : Heap}
/-- a def by its body -/
theorem ok_body {x qual : Str} {st : Stmt} {f : Addr} {fd : FuncData} {N ps : List Str} {k : Nat} (Fu : Fun K x qual st f fd) (S : FnScope N ps (defScope st)) (t : FT) (lt : Ty) (b : MS) (hp : t.ps.length = ps.length) (hn : N.length = ps.length + lt.length)
    (hb : ∀ (vs : List V) (E : XK) (X : Cx), X.prog = P → X.w = w → X.K = K → X.mg = mg → X.base = base → X.N = N → X.env.scope = defScope st → X.calm = true → X.stack = X.env :: X.outer → X.env.frame = some X.env.locals → X.ex = [] → (X.fn = fun _ => true) → Room k X.A → Takes X (fun cls d _ H => E cls d H) → PassesOwn (model X.prog X.w) X.A X.env X.xe →
      ∃ Δ', LeT Δ' (scF t vs lt E).tr ∧ PSs X (defBody st) (tS K (scF t vs lt E) (inT vs 0 t.ps lt) b Δ')) (hret : t.ret = .fz ∨ ∀ e e', b e ≠ .nx e') :
    FnOk P w K mg base (L2.CX P w) (k + 1) f fd ps (pM K t (runF t N.length b)) := by
  refine Fu.okX S (fun vs H Q E h => ?_) (fun cdv A outer s H vs Q E hr h => ?_)
  · obtain ⟨G, F, xs, A, st, _⟩ := h
    have := st.len.2
    simp at this
    omega
  · obtain ⟨G, F, xs, A1, st1, post⟩ := h
    have l1 := st1.len.1
    have l2 := st1.len.2
    simp at l1 l2
    obtain ⟨Δ', hle, hd⟩ := hb vs E (cxOf (L2.CX P w) P w K mg base N qual (defScope st) f cdv A outer s H E) rfl rfl rfl rfl rfl rfl rfl rfl rfl rfl rfl rfl (by assumption) (takes_of rfl rfl rfl rfl) PassesOwn.leaving
    refine ⟨_, hd, G, F, xs.map some ++ List.replicate lt.length none, A1, ⟨?_, st1.dj, st1.le, st1.gl, st1.gd⟩, ?_⟩
    · have e : L2.start N vs = vs.map some ++ List.replicate lt.length none := by
        unfold L2.start
        congr 2
        omega
      rw [e]
      exact slots_in vs lt t.ps 0 xs vs A1 (fun j w q => by simpa using q) st1.sl
    · unfold runF at post
      have e : N.length - xs.length = lt.length := by omega
      rw [e] at post
      have fin : ∀ {F' H' : Hp} {e1 : Ev} {σ' : L2.St} {A' : AS} {ys : List D} (_ : Same F F'), back t.ps xs e1 = some ys → StOk K G (scF t vs lt E).tr F' H' e1 σ' A' → ∃ B, StOk K G t.ty F' H' (ys.map some) (vs.map some) B ∧ ∀ a, B a → A' a := fun {F' H' e1 σ' A' ys} le hbk st' => by
        obtain ⟨B, q1, q2⟩ := slots_out vs _ le t.ps 0 xs ys vs e1 σ' A1 A' (fun j w q => by simpa using q) hbk st1.sl st'.sl
        exact ⟨B, ⟨q1, fun a z => st'.dj a (q2 a z), st'.le, st'.gl, fun a z => st'.gd a (q2 a z)⟩, q2⟩
      cases r : b (xs.map some ++ List.replicate lt.length none) with
      | nx e1 =>
        simp only [r] at post
        cases hbk : back t.ps xs e1 with
        | none => simp only [hbk] at post; exact post.elim
        | some ys =>
          simp only [hbk] at post
          intro F' H' A' σ' s1 st'
          obtain ⟨A2, w1, w2⟩ := st'.weak hle
          obtain ⟨B, q1, q2⟩ := fin s1.le hbk w1
          refine post F' H' B (fun _ => False) .non (s1.less fun a z => z.elim (fun z => w2 a (q2 a z)) fun z => z.elim) q1 ?_ fun _ z => z.elim
          rcases hret with hr | hr
          · rw [hr]; simp [Own, Is]
          · exact absurd r (hr _ _)
      | rt d e1 =>
        simp only [r] at post
        cases hbk : back t.ps xs e1 with
        | none => simp only [hbk] at post; exact post.elim
        | some ys =>
          simp only [hbk] at post
          intro F' H' A' B0 σ' v s1 st' own dj
          obtain ⟨B, q1, q2⟩ := fin s1.le hbk st'
          exact post F' H' B B0 v (s1.less fun a z => z.elim (fun z => .inl (q2 a z)) .inr) q1 own fun a z => ⟨fun y => (dj a z).1 (q2 a y), (dj a z).2⟩
      | exc c fs e1 =>
        simp only [r] at post
        cases hbk : back t.ps xs e1 with
        | none => simp only [hbk] at post; exact post.elim
        | some ys =>
          simp only [hbk] at post
          intro F' H' A' σ' dd s1 st' x
          obtain ⟨B, q1, q2⟩ := fin s1.le hbk st'
          exact post F' H' B dd (s1.less q2) q1 x
      | bk e1 => simp only [r] at post; exact post.elim
      | ct e1 => simp only [r] at post; exact post.elim
      | bad => simp only [r] at post; exact post.elim
end
end PT

set_option Elab.async false
set_option linter.all false
set_option maxRecDepth 100000
set_option maxHeartbeats 2000000
/-! PT: calls -/
namespace PT
open PySem PySem.Spec PyProof.Rows L2

/-- an argument: data, a slot lent to be changed, a slot lent to be read -/
inductive AK where
  | d (m : ME) | o (i : Nat) | s (i : Nat)
def mArgs : List AK → Ev → RA
  | [], e => .ok [] e
  | .d m :: ks, e => (m e).bindA fun x e => (mArgs ks e).bindA fun xs e => .ok (x :: xs) e
  | .o i :: ks, e => (mVar i e).bindA fun _ e => (mArgs ks e).bindA fun xs e => (mVar i e).bindA fun x e => .ok (x :: xs) e
  | .s i :: ks, e => (mVar i e).bindA fun _ e => (mArgs ks e).bindA fun xs e => (mVar i e).bindA fun x e => .ok (x :: xs) e
def ArgsOk (K : PySem.W.Frag) (F : Hp) (σ : L2.St) (e : Ev) : List AK → List D → List V → Prop
  | [], xs, vs => xs = [] ∧ vs = []
  | .d _ :: ks, xs, vs => ∃ x r v w, xs = x :: r ∧ vs = v :: w ∧ Is K F x v ∧ ArgsOk K F σ e ks r w
  | .o i :: ks, xs, vs => ∃ x r v w, xs = x :: r ∧ vs = v :: w ∧ (σ[i]? = some (some v) ∧ e[i]? = some (some x)) ∧ ArgsOk K F σ e ks r w
  | .s i :: ks, xs, vs => ∃ x r v w, xs = x :: r ∧ vs = v :: w ∧ (σ[i]? = some (some v) ∧ e[i]? = some (some x)) ∧ ArgsOk K F σ e ks r w
theorem ArgsOk.mono {K : PySem.W.Frag} {F F' : Hp} {σ : L2.St} {e : Ev} (le : Same F F') : ∀ ks xs vs, ArgsOk K F σ e ks xs vs → ArgsOk K F' σ e ks xs vs
  | [], xs, vs, h => h
  | .d _ :: ks, xs, vs, h => by obtain ⟨x, r, v, w, e1, e2, h1, h2⟩ := h; exact ⟨x, r, v, w, e1, e2, Is.mono le _ _ h1, ArgsOk.mono le ks r w h2⟩
  | .o _ :: ks, xs, vs, h => by obtain ⟨x, r, v, w, e1, e2, h1, h2⟩ := h; exact ⟨x, r, v, w, e1, e2, h1, ArgsOk.mono le ks r w h2⟩
  | .s _ :: ks, xs, vs, h => by obtain ⟨x, r, v, w, e1, e2, h1, h2⟩ := h; exact ⟨x, r, v, w, e1, e2, h1, ArgsOk.mono le ks r w h2⟩
def PostK (K : PySem.W.Frag) (C : SC) (Δ : Ty) (G F H : Hp) (A : AS) (σ : L2.St) (ks : List AK) (Q : List V → Hp → Prop) (r : RA) : Prop := match r with
  | .ok xs e => ∀ F' H' A' vs, Step F H A F' H' A' → StOk K G Δ F' H' e σ A' → ArgsOk K F' σ e ks xs vs → Q vs H'
  | .exc c fs e => PostX K C G F H A c fs e
  | .bad => False
def tK (K : PySem.W.Frag) (C : SC) (Δ : Ty) (ks : List AK) : TA := fun σ H Q => ∃ G F env A, StOk K G Δ F H env σ A ∧ PostK K C Δ G F H A σ ks Q (mArgs ks env)
section
variable {K : PySem.W.Frag} {C : SC} {Δ : Ty} {G F H F1 H1 : Hp} {A A1 : AS} {σ : L2.St}
theorem PostK.base {ks : List AK} {Q : List V → Hp → Prop} {r : RA} (s : Step F H A F1 H1 A1) (h : PostK K C Δ G F H A σ ks Q r) : PostK K C Δ G F1 H1 A1 σ ks Q r := by
  cases r with
  | ok d e => exact fun F' H' A' vs s' => h F' H' A' vs (s.trans s')
  | exc c fs e => exact PostX.base s h
  | bad => exact h
theorem PostK.bind {ks : List AK} {Q : List V → Hp → Prop} {r : RE} {k : D → Ev → RA} {Q1 : VK} (h : PostK K C Δ G F H A σ ks Q (r.bindA k))
    (hq : ∀ d e F1 H1 A1 v, StOk K G Δ F1 H1 e σ A1 → Is K F1 d v → Step F H A F1 H1 A1 → PostK K C Δ G F1 H1 A1 σ ks Q (k d e) → Q1 v H1) : PostE K C Δ G F H A σ .fz Q1 r := by
  cases r with
  | ok d e =>
    intro F' H' A' B v s st own dj
    simp only [Own] at own
    have s' := s.less (A'' := A') fun a z => .inl z
    exact hq d e F' H' A' v st own.1 s' (PostK.base s' h)
  | exc c fs e => exact h
  | bad => exact h
theorem PostK.bindA {ks ks1 : List AK} {Q Q1 : List V → Hp → Prop} {r : RA} {k : List D → Ev → RA} (h : PostK K C Δ G F H A σ ks Q (r.bindA k))
    (hq : ∀ xs e F1 H1 A1 vs, StOk K G Δ F1 H1 e σ A1 → ArgsOk K F1 σ e ks1 xs vs → Step F H A F1 H1 A1 → PostK K C Δ G F1 H1 A1 σ ks Q (k xs e) → Q1 vs H1) : PostK K C Δ G F H A σ ks1 Q1 r := by
  cases r with
  | ok d e => exact fun F' H' A' vs s st own => hq d e F' H' A' vs st own s (PostK.base s h)
  | exc c fs e => exact h
  | bad => exact h
theorem mVar_ok {i : Nat} {e : Ev} {d : D} (h : e[i]? = some (some d)) : mVar i e = .ok d e := by unfold mVar; rw [h]
theorem mVar_cases (i : Nat) (e : Ev) : mVar i e = .bad ∨ ∃ d, e[i]? = some (some d) ∧ mVar i e = .ok d e := by
  unfold mVar
  cases h : e[i]? with
  | none => exact .inl rfl
  | some x =>
    cases x with
    | none => exact .inl rfl
    | some d => exact .inr ⟨d, rfl, rfl⟩
theorem StOk.slotV {env : Ev} {i : Nat} {d : D} {s : SO} (x : StOk K G Δ F H env σ A) (e : env[i]? = some (some d)) (t : Δ[i]? = some s) : ∃ v, σ[i]? = some (some v) := by
  obtain ⟨v, A1, h1, h2, _⟩ := x.sl.get e t
  cases s with
  | ow o => obtain ⟨y, rfl, _⟩ := h2; exact ⟨y, h1⟩
  | pr o w => obtain ⟨rfl, _⟩ := h2; exact ⟨w, h1⟩
  | sh o => obtain ⟨_, y, _, rfl, _⟩ := h2; exact ⟨y, h1⟩
  | ex a cls dd => obtain ⟨_, rfl, _⟩ := h2; exact ⟨_, h1⟩
end
section
variable {X : Cx} {C : SC} {Δ : Ty} {e : Expr} {es : List Expr} {ks : List AK} {m : ME}
theorem k_nil : PA X [] (tK X.K C Δ []) := PA.weak pa_nil fun σ H Q ⟨G, F, env, A, st, h⟩ => h F H A [] Step.refl st ⟨rfl, rfl⟩
theorem k_d (ha : PE X e (tE X.K C Δ m .fz)) (hr : PA X es (tK X.K C Δ ks)) (hs : starEach (e :: es) X.env = (false, eval e X.env) :: starEach es X.env := by rfl) : PA X (e :: es) (tK X.K C Δ (.d m :: ks)) := by
  refine PA.weak (pa_cons ha hr hs) fun σ H Q ⟨G, F, env, A, st, h⟩ => ?_
  refine ⟨G, F, env, A, st, h.bind fun dx e1 F1 H1 A1 x st1 i1 s1 h1 => ⟨G, F1, e1, A1, st1, h1.bindA fun ds e2 F2 H2 A2 xs st2 i2 s2 h2 => ?_⟩⟩
  exact h2 F2 H2 A2 _ Step.refl st2 ⟨_, _, _, _, rfl, rfl, Is.mono s2.le _ _ i1, i2⟩
theorem k_slot {i : Nat} {x : Str} {p : Pos} {s : SO} (k : AK) (hk : k = .o i ∨ k = .s i) (t : Δ[i]? = some s) (hr : PA X es (tK X.K C Δ ks)) (hN : X.N[i]? = some x) (hv : Vis X.env.scope x) (hd : (x == ("__debug__" : Str)) = false) (hcd : (x == ("__classdict__" : Str)) = false)
    (hs : starEach (.Name x p :: es) X.env = (false, eval (.Name x p) X.env) :: starEach es X.env) : PA X (.Name x p :: es) (tK X.K C Δ (k :: ks)) := by
  refine PA.weak (pa_cons (pe_var hN hv hd hcd) hr hs) fun σ H Q ⟨G, F, env, A, st, h⟩ => ?_
  have hm : mArgs (k :: ks) env = (mVar i env).bindA fun _ e => (mArgs ks e).bindA fun xs e => (mVar i e).bindA fun x e => .ok (x :: xs) e := by rcases hk with rfl | rfl <;> rfl
  rw [hm] at h
  rcases mVar_cases i env with h0 | ⟨d, hd0, h0⟩
  · rw [h0] at h; exact h.elim
  · rw [h0] at h
    simp only [RE.bindA_ok] at h
    obtain ⟨v, hv1⟩ := st.slotV hd0 t
    refine ⟨v, hv1, G, F, env, A, st, h.bindA fun xs e1 F1 H1 A1 vs st1 i1 s1 h1 => ?_⟩
    rcases mVar_cases i e1 with h2 | ⟨d1, hd1, h2⟩
    · rw [h2] at h1; exact h1.elim
    · rw [h2] at h1
      refine h1 F1 H1 A1 _ Step.refl st1 ?_
      rcases hk with rfl | rfl <;> exact ⟨_, _, _, _, rfl, rfl, ⟨hv1, hd1⟩, i1⟩
theorem k_o {i : Nat} {x : Str} {p : Pos} {s : SO} (t : Δ[i]? = some s) (hN : X.N[i]? = some x) (hv : Vis X.env.scope x) (hr : PA X es (tK X.K C Δ ks)) (hd : (x == ("__debug__" : Str)) = false := by decide) (hcd : (x == ("__classdict__" : Str)) = false := by decide)
    (hs : starEach (.Name x p :: es) X.env = (false, eval (.Name x p) X.env) :: starEach es X.env := by rfl) : PA X (.Name x p :: es) (tK X.K C Δ (.o i :: ks)) := k_slot _ (.inl rfl) t hr hN hv hd hcd hs
theorem k_s {i : Nat} {x : Str} {p : Pos} {s : SO} (t : Δ[i]? = some s) (hN : X.N[i]? = some x) (hv : Vis X.env.scope x) (hr : PA X es (tK X.K C Δ ks)) (hd : (x == ("__debug__" : Str)) = false := by decide) (hcd : (x == ("__classdict__" : Str)) = false := by decide)
    (hs : starEach (.Name x p :: es) X.env = (false, eval (.Name x p) X.env) :: starEach es X.env := by rfl) : PA X (.Name x p :: es) (tK X.K C Δ (.s i :: ks)) := k_slot _ (.inr rfl) t hr hN hv hd hcd hs
end

/-! ### the arguments as a callee's slots -/
def noO : List AK → Prop
  | [] => True
  | .o _ :: _ => False
  | _ :: ks => noO ks
def CmpT (Δ : Ty) (io : Option Nat) : List AK → List PK → Prop
  | [], [] => True
  | .d _ :: ks, .d :: ps => CmpT Δ io ks ps
  | .s i :: ks, .s u :: ps => io ≠ some i ∧ (Δ[i]? = some (.ow u) ∨ Δ[i]? = some (.sh u) ∨ ∃ v, Δ[i]? = some (.pr u v)) ∧ CmpT Δ io ks ps
  | .o i :: ks, .o u :: ps => io = some i ∧ (Δ[i]? = some (.ow u) ∨ ∃ v, Δ[i]? = some (.pr u v)) ∧ noO ks ∧ CmpT Δ io ks ps
  | _, _ => False
/-- the own argument's content behind the call -/
def ownB : List AK → List D → Option D
  | .o _ :: _, y :: _ => some y
  | .d _ :: ks, _ :: ys => ownB ks ys
  | .s _ :: ks, _ :: ys => ownB ks ys
  | _, _ => none
def putB (io : Option Nat) (y : Option D) (e : Ev) : Ev := match io, y with
  | some i, some d => e.set i (some d)
  | _, _ => e
section
variable {K : PySem.W.Frag} {Δ : Ty} {G F H : Hp} {A : AS} {σ : L2.St} {e : Ev}
/-- no own argument among these -/
theorem args_in0 {G' : Hp} {io : Option Nat} (hg : ∀ i x y u, io ≠ some i → e[i]? = some (some x) → σ[i]? = some (some y) → (Δ[i]? = some (.ow u) ∨ Δ[i]? = some (.sh u) ∨ ∃ v, Δ[i]? = some (.pr u v)) → ∃ B, Own K F G' u x y B) : ∀ ks ps xs vs, noO ks → CmpT Δ io ks ps → ArgsOk K F σ e ks xs vs →
    Slots K G' F H (ps.map PK.so) (xs.map some) (vs.map some) (fun _ => False)
  | [], [], xs, vs, n, c, h => by obtain ⟨rfl, rfl⟩ := h; exact ⟨rfl, rfl, fun _ z => z⟩
  | .d _ :: ks, .d :: ps, xs, vs, n, c, h => by
    obtain ⟨x, r, v, w, rfl, rfl, h1, h2⟩ := h
    exact ⟨some x, _, some v, _, fun _ => False, fun _ => False, rfl, rfl, ⟨v, rfl, by simp only [Own]; exact ⟨h1, fun _ z => z⟩⟩, args_in0 hg ks ps r w n c h2, fun _ z => z.elim, fun _ => ⟨.inl, fun z => z.elim id id⟩⟩
  | .s i :: ks, .s u :: ps, xs, vs, n, c, h => by
    obtain ⟨x, r, v, w, rfl, rfl, h1, h2⟩ := h
    obtain ⟨B, own⟩ := hg i x v u c.1 h1.2 h1.1 c.2.1
    exact ⟨some x, _, some v, _, fun _ => False, fun _ => False, rfl, rfl, ⟨fun _ z => z, v, B, rfl, own⟩, args_in0 hg ks ps r w n c.2.2 h2, fun _ z => z.elim, fun _ => ⟨.inl, fun z => z.elim id id⟩⟩
theorem args_in1 {G' : Hp} {i0 : Nat} {A1 : AS} {d0 : D} {y0 : V} {u0 : O} (hd : e[i0]? = some (some d0)) (hy : σ[i0]? = some (some y0)) (ht : ∀ u, (Δ[i0]? = some (.ow u) ∨ ∃ v, Δ[i0]? = some (.pr u v)) → u = u0) (ho : Own K F H u0 d0 y0 A1)
    (hg : ∀ i x y u, some i0 ≠ some i → e[i]? = some (some x) → σ[i]? = some (some y) → (Δ[i]? = some (.ow u) ∨ Δ[i]? = some (.sh u) ∨ ∃ v, Δ[i]? = some (.pr u v)) → ∃ B, Own K F G' u x y B) : ∀ ks ps xs vs, ¬ noO ks → CmpT Δ (some i0) ks ps → ArgsOk K F σ e ks xs vs →
    Slots K G' F H (ps.map PK.so) (xs.map some) (vs.map some) A1
  | [], [], xs, vs, n, c, h => absurd trivial n
  | .d _ :: ks, .d :: ps, xs, vs, n, c, h => by
    obtain ⟨x, r, v, w, rfl, rfl, h1, h2⟩ := h
    exact ⟨some x, _, some v, _, fun _ => False, A1, rfl, rfl, ⟨v, rfl, by simp only [Own]; exact ⟨h1, fun _ z => z⟩⟩, args_in1 hd hy ht ho hg ks ps r w n c h2, fun _ z => z.elim, fun _ => ⟨.inr, fun z => z.elim (fun z => z.elim) id⟩⟩
  | .s i :: ks, .s u :: ps, xs, vs, n, c, h => by
    obtain ⟨x, r, v, w, rfl, rfl, h1, h2⟩ := h
    obtain ⟨B, own⟩ := hg i x v u c.1 h1.2 h1.1 c.2.1
    exact ⟨some x, _, some v, _, fun _ => False, A1, rfl, rfl, ⟨fun _ z => z, v, B, rfl, own⟩, args_in1 hd hy ht ho hg ks ps r w n c.2.2 h2, fun _ z => z.elim, fun _ => ⟨.inr, fun z => z.elim (fun z => z.elim) id⟩⟩
  | .o i :: ks, .o u :: ps, xs, vs, n, c, h => by
    obtain ⟨x, r, v, w, rfl, rfl, h1, h2⟩ := h
    obtain ⟨c1, c2, c3, c4⟩ := c
    cases c1
    obtain rfl := ht u c2
    have e1 := h1.1.symm.trans hy
    have e2 := h1.2.symm.trans hd
    cases e1
    cases e2
    exact ⟨some d0, _, some y0, _, A1, fun _ => False, rfl, rfl, ⟨y0, rfl, ho⟩, args_in0 hg ks ps r w c3 c4 h2, fun _ _ z => z, fun _ => ⟨.inl, fun z => z.elim id fun z => z.elim⟩⟩
/-- the own one behind the call -/
theorem args_out {G' F' H' : Hp} {i0 : Nat} : ∀ ks ps xs vs ys (A' : AS), ¬ noO ks → CmpT Δ (some i0) ks ps → ArgsOk K F σ e ks xs vs → Slots K G' F' H' (ps.map PK.so) (ys.map some) (vs.map some) A' →
    ∃ y v u A1, ownB ks ys = some y ∧ σ[i0]? = some (some v) ∧ (Δ[i0]? = some (.ow u) ∨ ∃ v, Δ[i0]? = some (.pr u v)) ∧ Own K F' H' u y v A1 ∧ ∀ a, A1 a → A' a
  | [], [], xs, vs, ys, A', n, c, h, s => absurd trivial n
  | .d _ :: ks, .d :: ps, xs, vs, ys, A', n, c, h, s => by
    obtain ⟨x, r, v, w, rfl, rfl, h1, h2⟩ := h
    obtain ⟨x', e', v', r', B1, B2, e1, e2, q1, q2, q3, q4⟩ := s
    cases ys with
    | nil => simp at e1
    | cons y ys =>
      simp only [List.map_cons, List.cons.injEq] at e1 e2
      obtain ⟨rfl, rfl⟩ := e1
      obtain ⟨rfl, rfl⟩ := e2
      obtain ⟨y', v', u, A1, z1, z2, z3, z4, z5⟩ := args_out ks ps r w ys B2 n c h2 q2
      exact ⟨y', v', u, A1, z1, z2, z3, z4, fun a z => (q4 a).mpr (.inr (z5 a z))⟩
  | .s i :: ks, .s u :: ps, xs, vs, ys, A', n, c, h, s => by
    obtain ⟨x, r, v, w, rfl, rfl, h1, h2⟩ := h
    obtain ⟨x', e', v', r', B1, B2, e1, e2, q1, q2, q3, q4⟩ := s
    cases ys with
    | nil => simp at e1
    | cons y ys =>
      simp only [List.map_cons, List.cons.injEq] at e1 e2
      obtain ⟨rfl, rfl⟩ := e1
      obtain ⟨rfl, rfl⟩ := e2
      obtain ⟨y', v', u, A1, z1, z2, z3, z4, z5⟩ := args_out ks ps r w ys B2 n c.2.2 h2 q2
      exact ⟨y', v', u, A1, z1, z2, z3, z4, fun a z => (q4 a).mpr (.inr (z5 a z))⟩
  | .o i :: ks, .o u :: ps, xs, vs, ys, A', n, c, h, s => by
    obtain ⟨x, r, v, w, rfl, rfl, h1, h2⟩ := h
    obtain ⟨x', e', v', r', B1, B2, e1, e2, q1, q2, q3, q4⟩ := s
    cases ys with
    | nil => simp at e1
    | cons y ys =>
      simp only [List.map_cons, List.cons.injEq] at e1 e2
      obtain ⟨rfl, rfl⟩ := e1
      obtain ⟨rfl, rfl⟩ := e2
      obtain ⟨c1, c2, c3, c4⟩ := c
      cases c1
      obtain ⟨y', ey, own⟩ := q1
      cases ey
      exact ⟨y, v, u, B1, rfl, h1.1, c2, own, fun a z => (q4 a).mpr (.inl z)⟩
end
end PT

set_option Elab.async false
set_option linter.all false
set_option maxRecDepth 100000
set_option maxHeartbeats 2000000
/-! PT: the rule of a call -/
namespace PT
open PySem PySem.Spec PyProof.Rows L2

def ownI : List AK → Option Nat
  | [] => none
  | .o i :: _ => some i
  | .d _ :: ks => ownI ks
  | .s _ :: ks => ownI ks
def mCall (f : List D → RF) (ks : List AK) (dds : List D) : ME := fun e => (mArgs ks e).bind fun xs e' => match f (xs ++ dds) with
  | .ok r ys => .ok r (putB (ownI ks) (ownB ks ys) e')
  | .exc c fs ys => .exc c fs (putB (ownI ks) (ownB ks ys) e')
  | .bad => .bad
theorem noO_none : ∀ {ks : List AK}, noO ks → ownI ks = none
  | [], _ => rfl
  | .d _ :: ks, h => noO_none (ks := ks) h
  | .s _ :: ks, h => noO_none (ks := ks) h
theorem noO_some : ∀ {ks : List AK}, ¬ noO ks → ∃ i, ownI ks = some i
  | [], h => absurd trivial h
  | .d _ :: ks, h => noO_some (ks := ks) h
  | .s _ :: ks, h => noO_some (ks := ks) h
  | .o i :: ks, _ => ⟨i, rfl⟩
theorem putB_none (y : Option D) (e : Ev) : putB none y e = e := by unfold putB; rfl

section
variable {K : PySem.W.Frag} {Δ : Ty} {G F H : Hp} {A : AS} {σ : L2.St} {e : Ev}
theorem owned_slot {i : Nat} {x : D} {y : V} {u : O} (st : Slots K G F H Δ e σ A) (hx : e[i]? = some (some x)) (hy : σ[i]? = some (some y)) (ht : Δ[i]? = some (.ow u) ∨ Δ[i]? = some (.sh u) ∨ ∃ v, Δ[i]? = some (.pr u v)) :
    (∃ B, Own K F H u x y B ∧ ∀ a, B a → A a) ∨ ∃ B, Own K F G u x y B := by
  rcases ht with t | t | ⟨v, t⟩
  · obtain ⟨v, A1, h1, ⟨y', e1, own⟩, h3⟩ := st.get hx t
    rw [hy] at h1; cases h1; cases e1
    exact .inl ⟨A1, own, h3⟩
  · obtain ⟨v, A1, h1, ⟨_, y', B, e1, own⟩, h3⟩ := st.get hx t
    rw [hy] at h1; cases h1; cases e1
    exact .inr ⟨B, own⟩
  · obtain ⟨v', A1, h1, ⟨e1, own⟩, h3⟩ := st.get hx t
    rw [hy] at h1; cases h1; cases e1
    exact .inl ⟨A1, own, h3⟩
/-- the slots that are lent, taken out and put back -/
theorem lend {i : Nat} {d : D} {u : O} (st : StOk K G Δ F H e σ A) (hd : e[i]? = some (some d)) (ht : Δ[i]? = some (.ow u) ∨ ∃ v, Δ[i]? = some (.pr u v)) :
    ∃ y A1 A2, σ[i]? = some (some y) ∧ Own K F H u d y A1 ∧ Slots K G F H Δ (e.set i none) σ A2 ∧ (∀ a, A1 a → ¬ A2 a) ∧ (∀ a, A a ↔ A1 a ∨ A2 a) ∧ ∀ {F' H' : Hp} {d' : D} {A3 A4 : AS}, Slots K G F' H' Δ (e.set i none) σ A4 → Own K F' H' u d' y A3 → (∀ a, A3 a → ¬ A4 a) → Slots K G F' H' Δ (e.set i (some d')) σ (fun a => A3 a ∨ A4 a) := by
  have len : i < e.length := (List.getElem?_eq_some_iff.mp hd).1
  rcases ht with t | ⟨v, t⟩
  · obtain ⟨v, A1, A2, h1, ⟨y, rfl, own⟩, h3, h4, h5⟩ := st.sl.take hd t
    refine ⟨y, A1, A2, h1, own, h3, h4, h5, fun {F' H' d' A3 A4} s o dj => ?_⟩
    have z := Slots.put (i := i) (d := d') (s := .ow u) (v := some y) (A1 := A3) s (by simp [len]) t h1 ⟨y, rfl, o⟩ dj
    rw [List.set_set] at z
    exact z
  · obtain ⟨v', A1, A2, h1, ⟨rfl, own⟩, h3, h4, h5⟩ := st.sl.take hd t
    refine ⟨v, A1, A2, h1, own, h3, h4, h5, fun {F' H' d' A3 A4} s o dj => ?_⟩
    have z := Slots.put (i := i) (d := d') (s := .pr u v) (v := some v) (A1 := A3) s (by simp [len]) t h1 ⟨rfl, o⟩ dj
    rw [List.set_set] at z
    exact z
end

theorem slots_app {K : PySem.W.Frag} {G F H : Hp} : ∀ {Δ1 Δ2 : Ty} {e1 e2 : Ev} {s1 s2 : L2.St} {A1 A2 : AS}, Slots K G F H Δ1 e1 s1 A1 → Slots K G F H Δ2 e2 s2 A2 → (∀ a, A1 a → ¬ A2 a) → Slots K G F H (Δ1 ++ Δ2) (e1 ++ e2) (s1 ++ s2) (fun a => A1 a ∨ A2 a)
  | [], Δ2, e1, e2, s1, s2, A1, A2, h1, h2, dj => by
    obtain ⟨rfl, rfl, n⟩ := h1
    have e : (fun a => A1 a ∨ A2 a) = A2 := funext fun a => propext ⟨fun z => z.elim (fun z => (n a z).elim) id, .inr⟩
    rw [e]
    exact h2
  | s :: Δ1, Δ2, e1, e2, s1, s2, A1, A2, h1, h2, dj => by
    obtain ⟨x, e, v, r, B1, B2, rfl, rfl, q1, q2, q3, q4⟩ := h1
    refine ⟨x, e ++ e2, v, r ++ s2, B1, fun a => B2 a ∨ A2 a, rfl, rfl, q1, slots_app q2 h2 fun a z => dj a ((q4 a).mpr (.inr z)), fun a z w => w.elim (q3 a z) (dj a ((q4 a).mpr (.inl z))), fun a => ?_⟩
    show (A1 a ∨ A2 a) ↔ B1 a ∨ B2 a ∨ A2 a
    rw [q4 a, or_assoc]
theorem slots_data {K : PySem.W.Frag} {G F H : Hp} : ∀ {ds : List D} {vs : List V}, IsL K F ds vs → Slots K G F H (ds.map fun _ => .ow .fz) (ds.map some) (vs.map some) (fun _ => False)
  | [], vs, h => by simp only [IsL] at h; subst h; exact ⟨rfl, rfl, fun _ z => z⟩
  | d :: ds, vs, h => by
    simp only [IsL] at h
    obtain ⟨y, ys, rfl, h1, h2⟩ := h
    exact ⟨some d, _, some y, _, fun _ => False, fun _ => False, rfl, rfl, ⟨y, rfl, by simp only [Own]; exact ⟨h1, fun _ z => z⟩⟩, slots_data h2, fun _ z => z.elim, fun _ => ⟨.inl, fun z => z.elim id id⟩⟩
theorem slots_split {K : PySem.W.Frag} {G F H : Hp} : ∀ {Δ1 Δ2 : Ty} {e : Ev} {s1 s2 : L2.St} {A : AS}, s1.length = Δ1.length → Slots K G F H (Δ1 ++ Δ2) e (s1 ++ s2) A → ∃ A1, Slots K G F H Δ1 (e.take Δ1.length) s1 A1 ∧ ∀ a, A1 a → A a
  | [], Δ2, e, s1, s2, A, l, h => by
    obtain rfl : s1 = [] := List.length_eq_zero_iff.mp l
    exact ⟨fun _ => False, ⟨by simp, rfl, fun _ z => z⟩, fun _ z => z.elim⟩
  | s :: Δ1, Δ2, e, s1, s2, A, l, h => by
    cases s1 with
    | nil => simp at l
    | cons v s1 =>
      obtain ⟨x, e', v', r, B1, B2, rfl, e2, q1, q2, q3, q4⟩ := h
      simp only [List.cons_append, List.cons.injEq] at e2
      obtain ⟨rfl, rfl⟩ := e2
      obtain ⟨A1, z1, z2⟩ := slots_split (by simpa using l) q2
      exact ⟨fun a => B1 a ∨ A1 a, ⟨x, _, v, s1, B1, A1, rfl, rfl, q1, z1, fun a z w => q3 a z (z2 a w), fun a => Iff.rfl⟩, fun a z => (q4 a).mpr (z.elim .inl fun z => .inr (z2 a z))⟩

/-- behind the callee: from its promise to the caller's wish -/
theorem call_step {K : PySem.W.Frag} {C : SC} {Δ : Ty} {G F H : Hp} {A : AS} {σ : L2.St} {e : Ev} {ks : List AK} {ps : List PK} {dds : List D} {dvs : List V} {xs : List D} {vs : List V} {ret : O} {f : List D → RF} {Q : VK} (lx : LeT Δ C.tx)
    (st : StOk K G Δ F H e σ A) (ao : ArgsOk K F σ e ks xs vs) (cmp : CmpT Δ (ownI ks) ks ps) (hI : ∀ F, IsL K F dds dvs)
    (h : PostE K C Δ G F H A σ ret Q (match f (xs ++ dds) with
      | .ok r ys => .ok r (putB (ownI ks) (ownB ks ys) e)
      | .exc c fs ys => .exc c fs (putB (ownI ks) (ownB ks ys) e)
      | .bad => .bad)) :
    pM K ⟨ps ++ dds.map (fun _ => .d), ret⟩ f (vs ++ dvs) H Q (fun cls dd H' => C.W cls dd σ H') := by
  have ty : ∀ r, (FT.mk (ps ++ dds.map (fun _ => PK.d)) r).ty = ps.map PK.so ++ dds.map fun _ => .ow .fz := fun r => by
    simp [FT.ty, PK.so]
  have lps : ∀ ks ps xs vs io, CmpT Δ io ks ps → ArgsOk K F σ e ks xs vs → vs.length = ps.length := by
    intro ks
    induction ks with
    | nil => intro ps xs vs io c h; cases ps with
      | nil => obtain ⟨_, rfl⟩ := h; rfl
      | cons p ps => exact c.elim
    | cons k ks ih =>
      intro ps xs vs io c h
      cases ps with
      | nil => cases k <;> exact c.elim
      | cons p ps =>
        cases k <;> cases p <;> first
          | exact c.elim
          | (obtain ⟨x, r, v, w, rfl, rfl, h1, h2⟩ := h
             simp only [List.length_cons]
             first
               | rw [ih ps r w io c h2]
               | rw [ih ps r w io c.2.2 h2]
               | rw [ih ps r w io c.2.2.2 h2])
  have lv := lps ks ps xs vs _ cmp ao
  by_cases n : noO ks
  · -- nothing is lent to be changed
    have hio := noO_none n
    rw [hio] at cmp h
    have s0 : Slots K H F H (ps.map PK.so) (xs.map some) (vs.map some) (fun _ => False) := args_in0 (io := none) (fun i x y u _ hx hy ht => by
      rcases owned_slot st.sl hx hy ht with ⟨B, own, _⟩ | ⟨B, own⟩
      · exact ⟨B, own⟩
      · exact ⟨B, Own.loc (fun _ _ h => h) u x y B (fun a o _ e => st.gl a o e) own⟩) ks ps xs vs n cmp ao
    have s1 := slots_app s0 (slots_data (G := H) (H := H) (hI F)) fun _ z => z.elim
    refine ⟨H, F, xs ++ dds, fun _ => False, ⟨?_, fun _ z => z.elim, st.le, fun _ _ h => h, fun _ z => z.elim⟩, ?_⟩
    · rw [ty, List.map_append, List.map_append]
      have e : (fun a => (fun _ : Addr => False) a ∨ (fun _ : Addr => False) a) = fun _ : Addr => False := funext fun a => propext ⟨fun z => z.elim id id, .inl⟩
      rw [← e]
      exact s1
    · have stp : ∀ {F' H' : Hp} {A' : AS}, Same F' H' → Step F H (fun _ => False) F' H' A' → StOk K G Δ F' H' e σ A ∧ Step F H A F' H' (fun a => A a ∨ A' a) := fun {F' H' A'} le s => by
        refine ⟨⟨st.sl.loc s.le fun a u _ e => s.pres a u id e, fun a z => ?_, le, fun a o e => s.pres a o id (st.gl a o e), st.gd⟩, ⟨s.le, fun a o _ e => s.pres a o id e, fun a z => z.elim .inl fun z => (s.sub a z).elim (fun z => z.elim) .inr, fun a o e => (s.fnew a o e).elim .inl fun z => z.elim (fun z => z.elim) fun z => .inr (.inr z), s.there⟩⟩
        · cases q : F' a with
          | none => rfl
          | some o =>
            rcases s.fnew a o q with z' | z' | z'
            · rw [st.dj a z] at z'; cases z'
            · exact z'.elim
            · exact absurd z' (st.there z)
      cases r : f (xs ++ dds) with
      | ok d ys =>
        simp only [r, putB_none] at h
        intro F' H' A' B v s st' own dj
        obtain ⟨q1, q2⟩ := stp st'.le s
        refine h F' H' A B v (q2.less fun a z => z.elim .inl fun z => .inr (.inr z)) q1 own fun b z => ⟨fun w => ?_, (dj b z).2⟩
        rcases s.sub b (.inr z) with q | q
        · exact q
        · exact st.there w q
      | exc c fs ys =>
        simp only [r, putB_none] at h
        intro F' H' A' dd s st' x
        obtain ⟨q1, q2⟩ := stp st'.le s
        obtain ⟨A3, w1, w2⟩ := q1.weak lx
        exact h F' H' A3 σ dd (q2.less fun a z => .inl (w2 a z)) w1 x
      | bad => simp only [r] at h; exact h.elim
  · -- one slot is lent to be changed
    obtain ⟨i0, hio⟩ := noO_some n
    rw [hio] at cmp h
    -- where it stands
    have slot : ∃ d u, e[i0]? = some (some d) ∧ (Δ[i0]? = some (.ow u) ∨ ∃ v, Δ[i0]? = some (.pr u v)) := by
      clear h lv ty
      revert ps xs vs
      induction ks with
      | nil => exact absurd trivial n
      | cons k ks ih =>
        intro ps xs vs ao cmp
        cases ps with
        | nil => cases k <;> exact cmp.elim
        | cons p ps =>
          cases k with
          | d m =>
            cases p with
            | d =>
              obtain ⟨x, r, v, w, rfl, rfl, h1, h2⟩ := ao
              exact ih n hio h2 cmp
            | _ => exact cmp.elim
          | s j =>
            cases p with
            | s u =>
              obtain ⟨x, r, v, w, rfl, rfl, h1, h2⟩ := ao
              exact ih n hio h2 cmp.2.2
            | _ => exact cmp.elim
          | o j =>
            cases p with
            | o u =>
              obtain ⟨x, r, v, w, rfl, rfl, h1, h2⟩ := ao
              obtain ⟨c1, c2, _, _⟩ := cmp
              cases c1
              exact ⟨x, u, h1.2, c2⟩
            | _ => exact cmp.elim
    obtain ⟨d0, u0, hd0, ht0⟩ := slot
    obtain ⟨y0, A1, A2, hy0, own0, rest, dj12, hA, putL⟩ := lend st hd0 ht0
    have inA : ∀ a, A1 a → A a := fun a z => (hA a).mpr (.inl z)
    have inA2 : ∀ a, A2 a → A a := fun a z => (hA a).mpr (.inr z)
    obtain ⟨G', hG'⟩ : ∃ G' : Hp, G' = fun a => open Classical in if A1 a then none else H a := ⟨_, rfl⟩
    have g1 : ∀ a, A1 a → G' a = none := fun a z => by rw [hG']; exact if_pos z
    have g2 : ∀ a, ¬ A1 a → G' a = H a := fun a z => by rw [hG']; exact if_neg z
    have uniq : ∀ u, (Δ[i0]? = some (.ow u) ∨ ∃ v, Δ[i0]? = some (.pr u v)) → u = u0 := fun u hu => by
      rcases hu with hu | ⟨v, hu⟩ <;> rcases ht0 with ht | ⟨w, ht⟩ <;> rw [hu] at ht <;> cases ht <;> rfl
    have s0 : Slots K G' F H (ps.map PK.so) (xs.map some) (vs.map some) A1 := args_in1 hd0 hy0 uniq own0 (fun i x y u hne hx hy ht => by
      have hne' : i0 ≠ i := fun z => hne (by rw [z])
      have hx' : (e.set i0 none)[i]? = some (some x) := by rw [List.getElem?_set_ne hne']; exact hx
      rcases owned_slot rest hx' hy ht with ⟨B, own, hB⟩ | ⟨B, own⟩
      · exact ⟨B, Own.loc (fun _ _ h => h) u x y B (fun a o z e => by rw [g2 a fun w => dj12 a w (hB a z)]; exact e) own⟩
      · refine ⟨B, Own.loc (fun _ _ h => h) u x y B (fun a o _ e => ?_) own⟩
        rw [g2 a fun w => by rw [st.gd a (inA a w)] at e; cases e]
        exact st.gl a o e) ks ps xs vs n cmp ao
    have s1 := slots_app s0 (slots_data (G := G') (H := H) (hI F)) fun a _ z => z
    have gle : Same G' H := fun a o e => by
      by_cases z : A1 a
      · rw [g1 a z] at e; cases e
      · rw [g2 a z] at e; exact e
    refine ⟨G', F, xs ++ dds, A1, ⟨?_, fun a z => st.dj a (inA a z), st.le, gle, g1⟩, ?_⟩
    · rw [ty, List.map_append, List.map_append]
      have e : (fun a => A1 a ∨ (fun _ : Addr => False) a) = A1 := funext fun a => propext ⟨fun z => z.elim id fun z => z.elim, .inl⟩
      rw [e] at s1
      exact s1
    · have stp : ∀ {F' H' : Hp} {A' : AS} {ys : List D}, Step F H A1 F' H' A' → StOk K G' (ps.map PK.so ++ dds.map fun _ => .ow .fz) F' H' (ys.map some) ((vs ++ dvs).map some) A' →
          ∃ A3 : AS, StOk K G Δ F' H' (putB (some i0) (ownB ks ys) e) σ (fun a => A3 a ∨ A2 a) ∧ Step F H A F' H' (fun a => A2 a ∨ A' a) ∧ ∀ a, A3 a → A' a := fun {F' H' A' ys} s st' => by
        have sl := st'.sl
        rw [List.map_append] at sl
        obtain ⟨A4, z1, z2⟩ := slots_split (by simp [lv]) sl
        rw [← List.map_take] at z1
        obtain ⟨y, v, u, A3, w1, w2, w3, w4, w5⟩ := args_out ks ps xs vs _ A4 n cmp ao z1
        obtain rfl := uniq u w3
        rw [hy0] at w2
        cases w2
        have ob : ∀ ks ys n, ownB ks (List.take n ys) = some y → ownB ks ys = some y := by
          intro ks
          induction ks with
          | nil => intro ys n h; cases ys <;> cases n <;> simp [ownB] at h
          | cons k ks ih =>
            intro ys n h
            cases ys with
            | nil => simpa using h
            | cons y' ys =>
              cases n with
              | zero => cases k <;> simp [ownB] at h
              | succ n =>
                cases k with
                | o j => simpa [ownB] using h
                | d m => exact ih ys n (by simpa [ownB] using h)
                | s j => exact ih ys n (by simpa [ownB] using h)
        have hob := ob _ _ _ w1
        have nA3 : ∀ a, A3 a → ¬ A2 a := fun a z z' => by
          rcases s.sub a (z2 a (w5 a z)) with q | q
          · exact dj12 a q z'
          · exact st.there (inA2 a z') q
        have rest' : Slots K G F' H' Δ (e.set i0 none) σ A2 := rest.loc s.le fun a u z e => s.pres a u (fun w => dj12 a w z) e
        refine ⟨A3, ⟨?_, fun a z => ?_, st'.le, fun a o q => s.pres a o (fun w => by rw [st.gd a (inA a w)] at q; cases q) (st.gl a o q), fun a z => ?_⟩, ⟨s.le, fun a o nA q => s.pres a o (fun w => nA (inA a w)) q, fun a z => ?_, fun a o q => (s.fnew a o q).elim .inl fun z => z.elim (fun z => .inr (.inl (inA a z))) fun z => .inr (.inr z), s.there⟩, fun a z => z2 a (w5 a z)⟩
        · rw [hob]
          exact putL rest' w4 nA3
        · rcases z with z | z
          · exact st'.dj a (z2 a (w5 a z))
          · cases q : F' a with
            | none => rfl
            | some o =>
              rcases s.fnew a o q with z' | z' | z'
              · rw [st.dj a (inA2 a z)] at z'; cases z'
              · exact absurd z (dj12 a z')
              · exact absurd z' (st.there (inA2 a z))
        · rcases z with z | z
          · rcases s.sub a (z2 a (w5 a z)) with q | q
            · exact st.gd a (inA a q)
            · cases q' : G a with
              | none => rfl
              | some o => rw [st.gl a o q'] at q; cases q
          · exact st.gd a (inA2 a z)
        · rcases z with z | z
          · exact .inl (inA2 a z)
          · exact (s.sub a z).elim (fun z => .inl (inA a z)) .inr
      cases r : f (xs ++ dds) with
      | ok d ys =>
        simp only [r] at h
        intro F' H' A' B v s st' own dj
        rw [ty] at st'
        obtain ⟨A3, q1, q2, q3⟩ := stp (s.less fun a z => .inl z) st'
        refine h F' H' _ B v ⟨q2.le, q2.pres, fun a z => ?_, q2.fnew, q2.there⟩ q1 own fun b z => ⟨fun w => ?_, (dj b z).2⟩
        · rcases z with (z | z) | z
          · exact q2.sub a (.inr (q3 a z))
          · exact .inl (inA2 a z)
          · exact (s.sub a (.inr z)).elim (fun z => .inl (inA a z)) .inr
        · rcases w with w | w
          · exact (dj b z).1 (q3 b w)
          · rcases s.sub b (.inr z) with q | q
            · exact dj12 b q w
            · exact st.there (inA2 b w) q
      | exc c fs ys =>
        simp only [r] at h
        intro F' H' A' dd s st' x
        rw [ty] at st'
        obtain ⟨A3, q1, q2, q3⟩ := stp s st'
        obtain ⟨A5, w1, w2⟩ := q1.weak lx
        refine h F' H' A5 σ dd ⟨q2.le, q2.pres, fun a z => ?_, q2.fnew, q2.there⟩ w1 x
        rcases w2 a z with z | z
        · exact q2.sub a (.inr (q3 a z))
        · exact .inl (inA2 a z)
      | bad => simp only [r] at h; exact h.elim

section
variable {X : Cx} {C : SC} {Δ : Ty} {x : Str} {p pos : Pos} {e : Expr} {es : List Expr} {ks : List AK} {ps : List PK} {dds : List D} {dvs : List V} {ds : List Value} {ret : O} {fM : List D → RF} {k : Nat} {f : Addr} {fd : FuncData} {pn : List Str}
/-- f(..) -/
theorem e_call (tk : Takes X C.W) (Fn : FnOk X.prog X.w X.K X.mg X.base (L2.CX X.prog X.w) k f fd pn (pM X.K ⟨ps ++ dds.map (fun _ => .d), ret⟩ fM)) (hr : Room k X.A) (hg : Gl X x) (hm : X.mg x = some (.ref f)) (hk : PySem.W.keepIn X.K (.ref f) = true) (hb : Binds X.K fd pn ds) (hd : Vals dvs ds)
    (hI : ∀ F, IsL X.K F dds dvs) (lx : LeT Δ C.tx) (cmp : CmpT Δ (ownI ks) ks ps) (ha : PA X (e :: es) (tK X.K C Δ ks)) (hdb : (x == ("__debug__" : Str)) = false := by decide) (he : starEach (e :: es) X.env = (false, eval e X.env) :: starEach es X.env := by rfl)
    (hpl : (backTo pos (starEach es X.env)).any (·.1) = false := by rfl) : PE X (.Call (.Name x p) (e :: es) [] pos) (tE X.K C Δ (mCall fM ks dds) ret) := by
  refine PE.weak (pe_callSD (E := WE C.W) Fn hr hg hm hk hb hd (fun σ => passAt tk σ) ha hdb he hpl) fun σ H Q ⟨G, F, env, A, st, h⟩ => ⟨G, F, env, A, st, ?_⟩
  unfold mCall at h
  generalize mArgs ks env = r at h ⊢
  cases r with
  | ok xs e1 => exact fun F' H' A' vs s st' ao => call_step lx st' ao cmp hI (PostE.base s h)
  | exc c fs e1 => exact h
  | bad => exact h
end
end PT

set_option Elab.async false
set_option linter.all false
set_option maxRecDepth 100000
set_option maxHeartbeats 4000000
/-! PT: enumerate of a list or a tuple, zip of two, of three lists or tuples -/
namespace PySem
namespace PTX
open Builtin
theorem meets_enumerate_newT (l : Addr) (items : Array Value) (n : Nat) (dct : Option Addr) (sl : Array (Option Value)) :
    Meets (Builtin.«enumerate.__new__» ⟨[.type "enumerate", .ref l], []⟩) (fun _ R s => s.heap.get? l = some { cls := .type "tuple", dict := dct, data := .seq items n, slots := sl } ∧
      R (.ok (.ret (.ref (s.heap.push { cls := .type "tuple_iterator", data := .fields #[.ref l, .int 0 0] }).objs.size)))
        { s with heap := (s.heap.push { cls := .type "tuple_iterator", data := .fields #[.ref l, .int 0 0] }).push { cls := .type "enumerate", data := .fields #[.none, .bool false, .ref s.heap.objs.size, rawInt 0, .none, .none] } }) :=
  .of_wp fun prog w A R s h => by
    obtain ⟨hp, g, d, tk, os⟩ := s
    obtain ⟨hl, h⟩ := h
    have hsub := sub_enumerate
    have q1 : ∀ {A' : Around} {E : Value → Shared → Prop} {Q : Value → Shared → Prop}, Q (.ref hp.objs.size) ⟨hp.push { cls := .type "tuple_iterator", data := .fields #[.ref l, .int 0 0] }, g, d, tk, os⟩ → wpAny (model prog w) A' (pyIter (.ref l)) Q E ⟨hp, g, d, tk, os⟩ :=
      fun q => wpAny_pyIter_tuple (s := ⟨hp, g, d, tk, os⟩) (items := items) ⟨_, hl, rfl, n, rfl⟩ q
    wp_walk using q1
    refine wpAny_stack_any fun st => wpAny_pure ?_
    split
    · rename_i c _ _ _ _ _
      cases (c == Value.type "enumerate")
      · wp_walk using q1
        exact ⟨_, rfl, h⟩
      · wp_walk using q1
        exact ⟨_, rfl, h⟩
    · wp_walk using q1
      exact ⟨_, rfl, h⟩
theorem call_enumerate_tuple {prog : Program} {w : World} {A : Around} {E : Value → Shared → Prop} {s : Shared} {l : Addr} {items : Array Value} {Q : Value → Shared → Prop} (hL : s.heap.IsTuple l items)
    (h : ∀ h', IsEnum h' (s.heap.objs.size + 1) s.heap.objs.size 0 .none → h'.IsTupleIter s.heap.objs.size l 0 → h'.objs.size = s.heap.objs.size + 2 →
      (∀ b o, s.heap.get? b = some o → h'.get? b = some o) → Q (.ref (s.heap.objs.size + 1)) { s with heap := h' }) :
    wpAny (model prog w) A (call (.type "enumerate") [.ref l]) Q E s := by
  obtain ⟨⟨c, dct, dt, sl⟩, hl, hc, n, hd⟩ := hL
  replace hc : c = .type "tuple" := hc
  replace hd : dt = .seq items n := hd
  subst hc hd
  refine callType_new F.called_enumerate (by decide) (F.typeCall_enumerate_1 _) (F.newCall_enumerate_1 _) (fun obj => F.args_object_init_2 obj _) F.entry_enumerate_new
    (meets_enumerate_newT l items n dct sl) ⟨hl, ?_⟩
  have hz : (s.heap.push { cls := .type "tuple_iterator", data := .fields #[.ref l, .int 0 0] }).objs.size = s.heap.objs.size + 1 := Heap.size_push ..
  show _ ∧ _
  rw [hz]
  have he : IsEnum ((s.heap.push { cls := .type "tuple_iterator", data := .fields #[.ref l, .int 0 0] }).push
      { cls := .type "enumerate", data := .fields #[.none, .bool false, .ref s.heap.objs.size, rawInt 0, .none, .none] }) (s.heap.objs.size + 1) s.heap.objs.size 0 .none := by
    have := Heap.get?_push_size (s.heap.push { cls := .type "tuple_iterator", data := .fields #[.ref l, .int 0 0] })
      (o := { cls := .type "enumerate", data := .fields #[.none, .bool false, .ref s.heap.objs.size, rawInt 0, .none, .none] }) rfl
    rw [hz] at this; exact this
  refine ⟨⟨_, he, rfl⟩, h _ he ⟨_, Heap.get?_push_of_some _ (Heap.get?_push_size _ rfl), rfl, rfl⟩ (by rw [Heap.size_push, hz]) fun b o x => Heap.get?_push_of_some _ (Heap.get?_push_of_some _ x)⟩
end PTX
end PySem

namespace PT
open PySem PySem.Spec PyProof.Rows L2

/-- a sequence: a tuple (true), a list (false) -/
def Sq (K : PySem.W.Frag) (H : Hp) : Bool → Addr → List V → Prop
  | true, a, xs => SqT K H a xs
  | false, a, xs => SqL K H a xs
def IsSq (h : Heap) : Bool → Addr → Array Value → Prop
  | true, a, its => h.IsTuple a its
  | false, a, its => h.IsList a its
def IsIt (h : Heap) : Bool → Addr → Addr → Nat → Prop
  | true, it, a, i => h.IsTupleIter it a i
  | false, it, a, i => h.IsListIter it a i
def itOb : Bool → Addr → Obj
  | true, a => { cls := .type "tuple_iterator", data := .fields #[.ref a, .int 0 0] }
  | false, a => { cls := .type "list_iterator", data := .fields #[.ref a, .int 0 0] }
section
variable {X : Cx} {pins : List (Addr × Obj)} {σ : L2.St} {H : Hp} {s : Shared} {b : Bool} {a : Addr} {xs ys : List V}
theorem sq_at (I : Inv X pins σ H s) (h : Sq X.K H b a xs) : ∃ its : List Value, Vals xs its ∧ IsSq s.heap b a its.toArray ∧ xs.length ≤ sizeLine ∧ a < s.heap.objs.size := by
  cases b with
  | true =>
    obtain ⟨its, r, p, z⟩ := I.tuple h
    obtain ⟨o, ho, _⟩ := id p
    exact ⟨its, r, p, z, Heap.lt_size ho⟩
  | false =>
    obtain ⟨its, r, p, z⟩ := I.list h
    exact ⟨its, r, p.isList, z, p.lt⟩
theorem sq_inj (I : Inv X pins σ H s) (h : Sq X.K H b a xs) (h' : Sq X.K H b a ys) : xs = ys := by
  cases b with
  | true => exact I.tuple_inj h h'
  | false => exact I.list_inj h h'
end
theorem isIt_at {h h' : Heap} {b : Bool} {it a : Addr} {i : Nat} (x : IsIt h b it a i) (k : ∀ o, h.get? it = some o → h'.get? it = some o) : IsIt h' b it a i := by
  cases b with
  | true => exact Heap.IsTupleIter.at x fun o e => k o e
  | false => exact Heap.IsListIter.at x fun o e => k o e
theorem isIt_ob {h : Heap} {b : Bool} {it a : Addr} {i : Nat} (x : IsIt h b it a i) : ∃ o, h.get? it = some o ∧ ∀ v, o.data ≠ .cell v := by
  cases b with
  | true => obtain ⟨o, e, _, d⟩ := x; exact ⟨o, e, fun v q => by rw [d] at q; cases q⟩
  | false => obtain ⟨o, e, _, d⟩ := x; exact ⟨o, e, fun v q => by rw [d] at q; cases q⟩
theorem draws {prog : Program} {w : World} {A : Around} (hh : A.handled = none) (b : Bool) (it a : Addr) (hne : a ≠ it) (items : Array Value) : Draws prog w A it [it, a] items.size (fun i v => items[i]? = some v) (fun i h => IsIt h b it a i ∧ IsSq h b a items) := by
  cases b with
  | true => exact Draws.tuple hh it a hne items
  | false => exact Draws.list hh it a hne items
theorem begins (b : Bool) (a : Addr) (items : Array Value) : Begins (.ref a) (itOb b a) fun h => IsSq h b a items := by
  cases b with
  | true => exact begins_tuple a items
  | false => exact begins_list a items
theorem itOb_is {h : Heap} {b : Bool} {it a : Addr} (e : h.get? it = some (itOb b a)) : IsIt h b it a 0 := by
  cases b with
  | true => exact ⟨_, e, rfl, rfl⟩
  | false => exact ⟨_, e, rfl, rfl⟩

/-! ### enumerate -/
def ItE (K : PySem.W.Frag) (b : Bool) (a : Addr) : It :=
  ⟨fun i H => ∃ (xs : List V) (x : V), Sq K H b a xs ∧ xs[i]? = some x, fun i H v H' => ∃ T x, v = .ref T ∧ H T = none ∧ H' = upd H T (.tup [.int (i : Nat), x]) ∧ ∀ xs, Sq K H b a xs → xs[i]? = some x, fun i H => ∃ xs : List V, Sq K H b a xs ∧ xs.length = i⟩
theorem turn_enumB {P : Program} {w : World} {K : PySem.W.Frag} {elts : List Expr} {kk : Nat} {tpos : Pos} (b : Bool) (a e it : Addr) (hea : e ≠ a) (hia : a ≠ it) :
    Turn P w K (.Tuple elts kk tpos) (ItE K b a) [e, it] e (fun i h => (∃ old, IsEnum h e it ((i : Nat) : Int) old) ∧ IsIt h b it a i ∧ e ≠ it) where
  mem := by simp
  obj := fun i h st c hc => by
    obtain ⟨⟨old, he⟩, hi, _⟩ := st
    have e' : c = e ∨ c = it := by simpa using hc
    rcases e' with z | z
    · rw [z]; exact ⟨_, he, fun v q => nomatch q⟩
    · rw [z]; exact isIt_ob hi
  keep := fun i h h' st k => let ⟨⟨old, he⟩, hi, hne⟩ := st; ⟨⟨old, k e (by simp) _ he⟩, isIt_at hi fun o q => k it (by simp) o q, hne⟩
  item := by
    intro X hP hw hK hc i pins s σ H E I hf st hg
    subst hP hw hK
    obtain ⟨⟨old, he⟩, hit, hne⟩ := st
    obtain ⟨xs, x, hq, hx⟩ := hg
    obtain ⟨its, rv, p, hz, hal⟩ := sq_at I hq
    obtain ⟨u, hu, ru⟩ := rv.get hx
    have hel : e < s.heap.objs.size := Heap.lt_size he
    have hil : it < s.heap.objs.size := by obtain ⟨_, q, _⟩ := isIt_ob hit; exact Heap.lt_size q
    have hlt : i < its.toArray.size := by rw [List.size_toArray]; exact (List.getElem?_eq_some_iff.mp hu).1
    refine wpAny_pyNext_enum_itemD (draws (A := X.A.in1) (I.ok.hd hc) b it a hia its.toArray) he ⟨hit, p⟩ hlt hne (by simp [hne, hea]) fun u' h' tk hu' ho hit' hT hsz hk => ?_
    have eu : u' = u := by
      have z : its.toArray[i]? = some u := by simpa using hu
      rw [z] at hu'; exact (Option.some.inj hu').symm
    subst eu
    refine ⟨_, rfl, wpAny_letOwnedTupleGo_enum (s := { s with heap := h', toks := tk + 1 }) ho fun h'' he' sb => ?_⟩
    have hT2 : h''.get? s.heap.objs.size = some { cls := .type "tuple", data := .seq #[.int i tk, u'] } := (sb.2 _ (Nat.ne_of_gt hel)).trans hT
    have new : ObjOk X.prog X.w (upd H s.heap.objs.size (.tup [.int (i : Nat), x])) h'' s.heap.objs.size (.tup [.int (i : Nat), x]) :=
      ⟨by show 2 ≤ sizeLine; decide, [.int i tk, u'], .cons ⟨_, rfl⟩ (.cons ru .nil), ⟨_, hT2, rfl, _, rfl⟩⟩
    have I1 : Inv X pins σ (upd H s.heap.objs.size (.tup [.int (i : Nat), x])) { s with heap := h'', toks := tk + 1 } :=
      I.turnedNew (t' := tk + 1) (ch := [e, it]) (fun b ob hb q => (sb.2 b (fun z => hb (by simp [z]))).trans (hk b ob (fun z => hb (by simp [z])) (fun z => hb (by simp [z])) q)) hf (Nat.le_refl _) new
    refine ⟨.ref s.heap.objs.size, _, I1, rfl, ⟨_, x, rfl, I.hok.fresh (Nat.le_refl _), rfl, fun ys hy => by rw [sq_inj I hy hq]; exact hx⟩, ⟨⟨u', ?_⟩, isIt_at hit'.1 fun o q => (sb.2 it (Ne.symm hne)).trans q, hne⟩, fun b hb => ?_⟩
    · have e1 : ((i + 1 : Nat) : Int) = (i : Int) + 1 := by omega
      rw [e1]; exact he'
    · have hb' : b < s.heap.objs.size := by
        have e' : b = e ∨ b = it := by simpa using hb
        rcases e' with z | z
        · rw [z]; exact hel
        · rw [z]; exact hil
      rw [upd_ne (Nat.ne_of_lt hb')]
      exact (hf b hb).1
  done := by
    intro X hP hw hK hc i pins s σ H E I hf st hg
    subst hP hw hK
    obtain ⟨⟨old, he⟩, hit, hne⟩ := st
    obtain ⟨xs, hq, hx⟩ := hg
    obtain ⟨its, rv, p, hz, hal⟩ := sq_at I hq
    obtain ⟨f0, f1, f2, f3, f4, f5⟩ := hf it (by simp)
    have hl := rv.length
    have ei : i = its.toArray.size := by rw [List.size_toArray]; omega
    subst ei
    exact wpAny_pyNext_enum_endD (draws (A := X.A.in1) (I.ok.hd hc) b it a hia its.toArray) he ⟨hit, p⟩ fun h' eb => ⟨rfl, I.turned (t' := s.toks) (fun b o hb q => eb b o hb q) f0 f1 f3 f4 f5⟩
  self := fun A i s Q E st h => let ⟨⟨_, he⟩, _⟩ := st; wpAny_pyIter_enum he h
def iEnumB (K : PySem.W.Frag) (ta : TA) : TI := fun σ H R => ta σ H fun vs H1 => ∃ b a xs, vs = [.ref a] ∧ Sq K H1 b a xs ∧ R (ItE K b a) H1
theorem pi_enumB {X : Cx} {e : Expr} {ta : TA} {p pos tpos : Pos} {elts : List Expr} {kk : Nat} (hg : Gl X "enumerate") (hm : X.mg "enumerate" = none) (ha : PA X [e] ta) (hs : starEach [e] X.env = [(false, eval e X.env)] := by rfl) :
    PI X (.Tuple elts kk tpos) (.Call (.Name "enumerate" p) [e] [] pos) (iEnumB X.K ta) := by
  refine ⟨fun pins s σ H R I h => ?_⟩
  refine Call_ (ld_blt I hg hm boot_enumerate (PyProof.Rows.callWith_type1 (thn (ha.run pos pins s σ H _ I h) fun us s1 ⟨vs, H1, I1, r1, q1⟩ => ?_) hs rfl))
  obtain ⟨b, a, xs, ex, hq, q⟩ := q1
  subst ex
  cases r1 with
  | cons r rr =>
    cases rr
    cases r
    obtain ⟨its, rv, p', hz, hal⟩ := sq_at I1 hq
    have fin : ∀ h', IsEnum h' (s1.heap.objs.size + 1) s1.heap.objs.size 0 .none → IsIt h' b s1.heap.objs.size a 0 → (∀ b o, s1.heap.get? b = some o → h'.get? b = some o) →
        wpAny (model X.prog X.w) X.A (pyIter (.ref (s1.heap.objs.size + 1))) (PIE X pins σ (.Tuple elts kk tpos) R) X.xe { s1 with heap := h' } := fun h' he hit hk => by
      refine wpAny_pyIter_enum he ?_
      have I2 : Inv X pins σ H1 { s1 with heap := h' } := I1.kept (t' := s1.toks) hk
      refine ⟨s1.heap.objs.size + 1, [s1.heap.objs.size + 1, s1.heap.objs.size], _, _, H1, rfl, I2, turn_enumB b a (s1.heap.objs.size + 1) s1.heap.objs.size (Nat.ne_of_gt (Nat.lt_succ_of_lt hal)) (Nat.ne_of_lt hal), ⟨⟨.none, he⟩, hit, Nat.succ_ne_self _⟩, fun b hb => ?_, q⟩
      have e' : b = s1.heap.objs.size + 1 ∨ b = s1.heap.objs.size := by simpa using hb
      have hle : s1.heap.objs.size ≤ b := by
        rcases e' with z | z
        · rw [z]; exact Nat.le_add_right _ _
        · rw [z]; exact Nat.le_refl _
      exact I1.fpOk hle (I1.hok.fresh hle)
    cases b with
    | true => exact PySem.PTX.call_enumerate_tuple p' fun h' he hit hsz hk => fin h' he hit hk
    | false => exact call_enumerate_list p' fun h' he hit hsz hk => fin h' he hit hk

/-! ### zip of two -/
def ItZ2 (K : PySem.W.Frag) (b1 b2 : Bool) (a1 a2 : Addr) : It :=
  ⟨fun i H => ∃ (xs ys : List V) (x y : V), Sq K H b1 a1 xs ∧ Sq K H b2 a2 ys ∧ xs[i]? = some x ∧ ys[i]? = some y,
    fun i H v H' => ∃ T x y, v = .ref T ∧ H T = none ∧ H' = upd H T (.tup [x, y]) ∧ (∀ xs, Sq K H b1 a1 xs → xs[i]? = some x) ∧ ∀ ys, Sq K H b2 a2 ys → ys[i]? = some y,
    fun i H => ∃ xs ys : List V, Sq K H b1 a1 xs ∧ Sq K H b2 a2 ys ∧ i ≤ xs.length ∧ i ≤ ys.length ∧ (i = xs.length ∨ i = ys.length)⟩
structure ZA2 (z TI TO i1 i2 a1 a2 : Addr) : Prop where
  nd : [z, TI, TO, i1, i2].Nodup
  m1 : a1 ∉ [z, TI, TO, i1, i2]
  m2 : a2 ∉ [z, TI, TO, i1, i2]
theorem ZA2.sep {z TI TO i1 i2 a1 a2 : Addr} (D : ZA2 z TI TO i1 i2 a1 a2) : ZipSep2 z TI TO i1 i2 [i1, a1] [i2, a2] := by
  have h := D.nd
  have m1 := D.m1
  have m2 := D.m2
  simp only [List.nodup_cons, List.mem_cons, List.not_mem_nil, not_or, or_false, not_false_eq_true] at h m1 m2
  obtain ⟨⟨h1, h2, h3, h4⟩, ⟨h5, h6, h7⟩, ⟨h8, h9⟩, h10, _⟩ := h
  obtain ⟨p1, p2, p3, p4, p5⟩ := m1
  obtain ⟨q1, q2, q3, q4, q5⟩ := m2
  constructor <;> simp <;> (try constructor) <;> first | assumption | (apply Ne.symm; assumption) | (intro z; exact absurd z.symm (by assumption)) | (intro z; exact absurd z (by assumption))
theorem turn_z2 {P : Program} {w : World} {K : PySem.W.Frag} {elts : List Expr} {kk : Nat} {tpos : Pos} {b1 b2 : Bool} {a1 a2 z TI TO i1 i2 : Addr} (D : ZA2 z TI TO i1 i2 a1 a2) :
    Turn P w K (.Tuple elts kk tpos) (ItZ2 K b1 b2 a1 a2) [z, TI, TO, i1, i2] z (fun i h => IsZip h z TI TO .none ∧ IsTupOf2 h TI (.ref i1) (.ref i2) ∧ (∃ x y, IsTupOf2 h TO x y) ∧ IsIt h b1 i1 a1 i ∧ IsIt h b2 i2 a2 i) where
  mem := by simp
  obj := fun i h st c hc => by
    obtain ⟨hz, hTI, ⟨x, y, hTO⟩, h1, h2⟩ := st
    have e' : c = z ∨ c = TI ∨ c = TO ∨ c = i1 ∨ c = i2 := by simpa using hc
    rcases e' with q | q | q | q | q
    · rw [q]; exact ⟨_, hz, fun v q => nomatch q⟩
    · rw [q]; exact ⟨_, hTI, fun v q => nomatch q⟩
    · rw [q]; exact ⟨_, hTO, fun v q => nomatch q⟩
    · rw [q]; exact isIt_ob h1
    · rw [q]; exact isIt_ob h2
  keep := fun i h h' st k => by
    obtain ⟨hz, hTI, ⟨x, y, hTO⟩, h1, h2⟩ := st
    exact ⟨k z (by simp) _ hz, k TI (by simp) _ hTI, ⟨x, y, k TO (by simp) _ hTO⟩, isIt_at h1 fun o q => k i1 (by simp) o q, isIt_at h2 fun o q => k i2 (by simp) o q⟩
  item := by
    intro X hP hw hK hc i pins s σ H E I hf st hg
    subst hP hw hK
    obtain ⟨hz, hTI, ⟨x0, y0, hTO⟩, h1, h2⟩ := st
    obtain ⟨xs, ys, x, y, hqx, hqy, hx, hy⟩ := hg
    obtain ⟨its, rv, p, _, _⟩ := sq_at I hqx
    obtain ⟨its2, rv2, p2, _, _⟩ := sq_at I hqy
    obtain ⟨u, hu, ru⟩ := rv.get hx
    obtain ⟨u2, hu2, ru2⟩ := rv2.get hy
    have hzl : z < s.heap.objs.size := Heap.lt_size hz
    have S := D.sep
    have n1 : a1 ≠ i1 := fun q => D.m1 (by rw [q]; simp)
    have n2 : a2 ≠ i2 := fun q => D.m2 (by rw [q]; simp)
    have l1 : i < its.toArray.size := by rw [List.size_toArray]; exact (List.getElem?_eq_some_iff.mp hu).1
    have l2 : i < its2.toArray.size := by rw [List.size_toArray]; exact (List.getElem?_eq_some_iff.mp hu2).1
    refine wpAny_pyNext_zipD2_item S (draws (A := X.A.in1) (I.ok.hd hc) b1 i1 a1 n1 its.toArray) (draws (A := X.A.in1) (I.ok.hd hc) b2 i2 a2 n2 its2.toArray) hz hTI hTO ⟨h1, p⟩ ⟨h2, p2⟩ l1 l2 fun v1 v2 h' tk hv1 hv2 z' TO' h1' h2' hT hsz hk => ?_
    have e1 : v1 = u := by
      have z : its.toArray[i]? = some u := by simpa using hu
      rw [z] at hv1; exact (Option.some.inj hv1).symm
    have e2 : v2 = u2 := by
      have z : its2.toArray[i]? = some u2 := by simpa using hu2
      rw [z] at hv2; exact (Option.some.inj hv2).symm
    subst e1 e2
    refine ⟨_, rfl, wpAny_letOwnedTupleGo_zip (s := { s with heap := h', toks := tk }) z' fun h'' z'' sb => ?_⟩
    have hT2 : h''.get? s.heap.objs.size = some { cls := .type "tuple", data := .seq #[v1, v2] } := (sb.2 _ (Nat.ne_of_gt hzl)).trans hT
    have new : ObjOk X.prog X.w (upd H s.heap.objs.size (.tup [x, y])) h'' s.heap.objs.size (.tup [x, y]) :=
      ⟨by show 2 ≤ sizeLine; decide, [v1, v2], .cons ru (.cons ru2 .nil), ⟨_, hT2, rfl, _, rfl⟩⟩
    have I1 : Inv X pins σ (upd H s.heap.objs.size (.tup [x, y])) { s with heap := h'', toks := tk } :=
      I.turnedNew (t' := tk) (ch := [z, TI, TO, i1, i2]) (fun c o hb q => (sb.2 c (fun q' => hb (by simp [q']))).trans (hk c o (fun q' => hb (by simp [q'])) (fun q' => hb (by simp [q'])) (fun q' => hb (by simp [q'])) (fun q' => hb (by simp [q'])) q)) hf (Nat.le_refl _) new
    refine ⟨.ref s.heap.objs.size, _, I1, rfl, ⟨_, x, y, rfl, I.hok.fresh (Nat.le_refl _), rfl, fun l hl => by rw [sq_inj I hl hqx]; exact hx, fun l hl => by rw [sq_inj I hl hqy]; exact hy⟩, ⟨z'', ?_, ⟨v1, v2, ?_⟩, ?_, ?_⟩, fun c hcm => ?_⟩
    · exact (sb.2 _ S.TIz).trans (hk _ _ S.TIz S.TITO S.TIi1 S.TIi2 hTI)
    · exact (sb.2 _ S.TOz).trans TO'
    · exact isIt_at h1'.1 fun o q => (sb.2 _ (Ne.symm S.zi1)).trans q
    · exact isIt_at h2'.1 fun o q => (sb.2 _ (Ne.symm S.zi2)).trans q
    · have hlt : c < s.heap.objs.size := by
        have e' : c = z ∨ c = TI ∨ c = TO ∨ c = i1 ∨ c = i2 := by simpa using hcm
        rcases e' with q | q | q | q | q
        · rw [q]; exact hzl
        · rw [q]; exact Heap.lt_size hTI
        · rw [q]; exact Heap.lt_size hTO
        · rw [q]; obtain ⟨_, e1, _⟩ := isIt_ob h1; exact Heap.lt_size e1
        · rw [q]; obtain ⟨_, e2, _⟩ := isIt_ob h2; exact Heap.lt_size e2
      rw [upd_ne (Nat.ne_of_lt hlt)]
      exact (hf c hcm).1
  done := by
    intro X hP hw hK hc i pins s σ H E I hf st hg
    subst hP hw hK
    obtain ⟨hz, hTI, ⟨x0, y0, hTO⟩, h1, h2⟩ := st
    obtain ⟨xs, ys, hqx, hqy, le1, le2, hend⟩ := hg
    obtain ⟨its, rv, p, _, _⟩ := sq_at I hqx
    obtain ⟨its2, rv2, p2, _, _⟩ := sq_at I hqy
    have l1 := rv.length
    have l2 := rv2.length
    have S := D.sep
    have n1 : a1 ≠ i1 := fun q => D.m1 (by rw [q]; simp)
    have n2 : a2 ≠ i2 := fun q => D.m2 (by rw [q]; simp)
    exact wpAny_pyNext_zipD2_end S (draws (A := X.A.in1) (I.ok.hd hc) b1 i1 a1 n1 its.toArray) (draws (A := X.A.in1) (I.ok.hd hc) b2 i2 a2 n2 its2.toArray) hz hTI hTO ⟨h1, p⟩ ⟨h2, p2⟩ (by rw [List.size_toArray]; omega) (by rw [List.size_toArray]; omega) (by rw [List.size_toArray, List.size_toArray]; omega)
      fun h' tk hk => ⟨rfl, I.turnedL (t' := tk) (ch := [z, TI, TO, i1, i2]) (fun c o hb q => hk c o (fun q' => hb (by simp [q'])) (fun q' => hb (by simp [q'])) (fun q' => hb (by simp [q'])) (fun q' => hb (by simp [q'])) q) hf⟩
  self := fun A i s Q E st h => wpAny_pyIter_zip st.1 h
theorem z2_nd (n : Nat) : [n + 4, n + 2, n + 3, n, n + 1].Nodup := by simp
theorem z2_out {a n : Nat} (h : a < n) : a ∉ [n + 4, n + 2, n + 3, n, n + 1] := by simp; omega
theorem z2_ge {c n : Nat} (h : c ∈ [n + 4, n + 2, n + 3, n, n + 1]) : n ≤ c := by simp at h; omega
def iZ2 (K : PySem.W.Frag) (ta : TA) : TI := fun σ H R => ta σ H fun vs H1 => ∃ b1 b2 a1 a2 xs ys, vs = [.ref a1, .ref a2] ∧ Sq K H1 b1 a1 xs ∧ Sq K H1 b2 a2 ys ∧ R (ItZ2 K b1 b2 a1 a2) H1
theorem pi_z2 {X : Cx} {e e2 : Expr} {ta : TA} {p pos tpos : Pos} {elts : List Expr} {kk : Nat} (hg : Gl X "zip") (hm : X.mg "zip" = none) (ha : PA X [e, e2] ta)
    (hs : starEach [e, e2] X.env = (false, eval e X.env) :: starEach [e2] X.env := by rfl) (hpl : (backTo pos (starEach [e2] X.env)).any (·.1) = false := by rfl) :
    PI X (.Tuple elts kk tpos) (.Call (.Name "zip" p) [e, e2] [] pos) (iZ2 X.K ta) := by
  refine ⟨fun pins s σ H R I h => ?_⟩
  refine Call_ (ld_blt I hg hm PyProof.Rows.boot_zip (PyProof.Rows.callWith_type1 (thn (ha.run pos pins s σ H _ I h) fun us s1 ⟨vs, H1, I1, r1, q1⟩ => ?_) hs hpl))
  obtain ⟨b1, b2, a1, a2, xs, ys, ex, hqx, hqy, q⟩ := q1
  subst ex
  cases r1 with
  | cons r rr =>
    cases rr with
    | cons r' rr =>
      cases rr
      cases r
      cases r'
      obtain ⟨its, rv, p1, _, L1⟩ := sq_at I1 hqx
      obtain ⟨its2, rv2, p2, _, L2'⟩ := sq_at I1 hqy
      refine zip_begins2 (begins b1 a1 its.toArray) (begins b2 a2 its2.toArray) p1 p2 fun h' hz hTI hTO h1 h2 hsz hk => wpAny_pyIter_zip hz ?_
      have I2 : Inv X pins σ H1 { s1 with heap := h' } := I1.kept (t' := s1.toks) hk
      refine ⟨s1.heap.objs.size + 4, [s1.heap.objs.size + 4, s1.heap.objs.size + 2, s1.heap.objs.size + 3, s1.heap.objs.size, s1.heap.objs.size + 1], _, _, H1, rfl, I2, turn_z2 ⟨?_, ?_, ?_⟩, ⟨hz, hTI, ⟨_, _, hTO⟩, itOb_is h1, itOb_is h2⟩, fun c hcm => ?_, q⟩
      · exact z2_nd _
      · exact z2_out L1
      · exact z2_out L2'
      · have hle : s1.heap.objs.size ≤ c := z2_ge hcm
        exact I1.fpOk hle (I1.hok.fresh hle)
end PT

set_option Elab.async false
set_option linter.all false
set_option maxRecDepth 100000
set_option maxHeartbeats 4000000
/-! PT: targets, what is walked, for, while, list comprehensions -/
namespace PT
open PySem PySem.Spec PyProof.Rows L2

/-! ### targets -/
inductive Pat where
  | nm (i : Nat) | tp (ps : List Pat)
mutual
def Pat.put : Pat → D → Ev → Option Ev
  | .nm i, d, e => some (e.set i (some d))
  | .tp ps, d, e => match d with
    | .tup ds => Pat.puts ps ds e
    | _ => none
def Pat.puts : List Pat → List D → Ev → Option Ev
  | [], [], e => some e
  | p :: ps, d :: ds, e => (Pat.put p d e).bind (Pat.puts ps ds)
  | _, _, _ => none
end
mutual
def Pat.ixs : Pat → List Nat
  | .nm i => [i]
  | .tp ps => Pat.ixss ps
def Pat.ixss : List Pat → List Nat
  | [] => []
  | p :: ps => Pat.ixs p ++ Pat.ixss ps
end
theorem wipe_set {σ : L2.St} {i : Nat} {x : Option V} : ∀ {vs : List Nat}, i ∈ vs → wipe (σ.set i x) vs = wipe σ vs
  | [], h => by simp at h
  | v :: vs, h => by
    unfold wipe
    by_cases q : i ∈ vs
    · rw [wipe_set q]
    · have e : v = i := by
        rcases List.mem_cons.mp h with h | h
        · exact h.symm
        · exact absurd h q
      subst e
      have key : ∀ (ws : List Nat), v ∉ ws → wipe (σ.set v x) ws = (wipe σ ws).set v x := by
        intro ws
        induction ws with
        | nil => intro _; rfl
        | cons w ws ih =>
          intro hw
          simp only [List.mem_cons, not_or] at hw
          unfold wipe
          rw [ih hw.2, List.set_comm _ _ hw.1]
      rw [key vs q, List.set_set]
def tG (K : PySem.W.Frag) (Δ : Ty) (p : Pat) : TG := fun v σ H Q => ∃ G F env A d env', StOk K G Δ F H env σ A ∧ Is K F d v ∧ p.put d env = some env' ∧ ∀ σ' A', StOk K G Δ F H env' σ' A' → (∀ a, A' a → A a) → (∀ vs, (∀ i ∈ p.ixs, i ∈ vs) → wipe σ' vs = wipe σ vs) → Q σ' H
def tGs (K : PySem.W.Frag) (Δ : Ty) (p : List Pat) : TGs := fun vs σ H Q => ∃ G F env A ds env', StOk K G Δ F H env σ A ∧ IsL K F ds vs ∧ Pat.puts p ds env = some env' ∧ ∀ σ' A', StOk K G Δ F H env' σ' A' → (∀ a, A' a → A a) → (∀ vs, (∀ i ∈ Pat.ixss p, i ∈ vs) → wipe σ' vs = wipe σ vs) → Q σ' H
theorem PG.weak {X : Cx} {e : Expr} {t t' : TG} (h : PG X e t) (w : ∀ v σ H Q, t' v σ H Q → t v σ H Q) : PG X e t' := ⟨fun pins s σ H v u Q I r q => h.run pins s σ H v u Q I r (w v σ H Q q)⟩
theorem PGs.weak {X : Cx} {e : List Expr} {t t' : TGs} (h : PGs X e t) (w : ∀ v σ H Q, t' v σ H Q → t v σ H Q) : PGs X e t' := ⟨fun pins s σ H v u Q I r q => h.run pins s σ H v u Q I r (w v σ H Q q)⟩
section
variable {X : Cx} {Δ : Ty} {pos : Pos}
theorem g_name {i : Nat} {x : Str} (t : Δ[i]? = some (.ow .fz)) (hN : X.N.Nodup) (hi : X.N[i]? = some x) (hx : Loc X.env.scope x) (hf : X.fn x = true ∨ X.env.scope.names.lookup x = some .local := by first | exact .inl rfl | exact .inr rfl | assumption) : PG X (.Name x pos) (tG X.K Δ (.nm i)) := by
  refine PG.weak (pg_name hN hi hx hf) fun v σ H Q ⟨G, F, env, A, d, env', st, i1, e, q⟩ => ?_
  simp only [Pat.put, Option.some.injEq] at e
  subst e
  obtain ⟨A', h1, h2⟩ := st.storeD t i1
  exact q _ A' h1 h2 fun vs hv => wipe_set (hv i (by simp [Pat.ixs]))
theorem gs_nil : PGs X [] (tGs X.K Δ []) := PGs.weak pgs_nil fun vs σ H Q ⟨G, F, env, A, ds, env', st, i, e, q⟩ => by
  cases ds with
  | nil =>
    simp only [IsL] at i
    simp only [Pat.puts, Option.some.injEq] at e
    subst e
    exact ⟨i, q σ A st (fun _ z => z) fun _ _ => rfl⟩
  | cons d ds => simp [Pat.puts] at e
theorem gs_cons {e : Expr} {es : List Expr} {p : Pat} {ps : List Pat} (h1 : PG X e (tG X.K Δ p)) (h2 : PGs X es (tGs X.K Δ ps)) (hs : (assignEach (e :: es) X.env).map (·.2) = assign e X.env :: (assignEach es X.env).map (·.2) := by rfl) : PGs X (e :: es) (tGs X.K Δ (p :: ps)) := by
  refine PGs.weak (pgs_cons h1 h2 hs) fun vs σ H Q ⟨G, F, env, A, ds, env', st, i, e, q⟩ => ?_
  cases ds with
  | nil => simp [Pat.puts] at e
  | cons d ds =>
    simp only [IsL] at i
    obtain ⟨y, ys, rfl, i1, i2⟩ := i
    simp only [Pat.puts] at e
    cases e1 : Pat.put p d env with
    | none => rw [e1] at e; cases e
    | some env1 =>
      rw [e1] at e
      exact ⟨y, ys, rfl, G, F, env, A, d, env1, st, i1, e1, fun σ1 A1 st1 l1 w1 => ⟨G, F, env1, A1, ds, env', st1, i2, e, fun σ' A' st' l' w' => q σ' A' st' (fun a z => l1 a (l' a z)) fun vs hv => (w' vs fun i hi => hv i (by simp [Pat.ixss, hi])).trans (w1 vs fun i hi => hv i (by simp [Pat.ixss, hi]))⟩⟩
theorem g_tup {es : List Expr} {k : Nat} {ps : List Pat} {n : Nat} (hc : X.calm = true) (hn' : ps.length = n) (h : PGs X es (tGs X.K Δ ps)) (hn : (assignEach es X.env).length = n := by rfl) (hst : (assignEach es X.env).findIdx? (·.1) = none := by rfl) : PG X (.Tuple es k pos) (tG X.K Δ (.tp ps)) := by
  refine PG.weak (pg_tup hc h hn hst) fun v σ H Q ⟨G, F, env, A, d, env', st, i, e, q⟩ => ?_
  cases d with
  | tup ds =>
    simp only [Is] at i
    obtain ⟨p, xs, rfl, i1, i2⟩ := i
    simp only [Pat.put] at e
    have len : ∀ (ps : List Pat) (ds : List D) (e e' : Ev), Pat.puts ps ds e = some e' → ds.length = ps.length := by
      intro ps
      induction ps with
      | nil => intro ds e e' h; cases ds with
        | nil => rfl
        | cons d ds => simp [Pat.puts] at h
      | cons p ps ih =>
        intro ds e e' h
        cases ds with
        | nil => simp [Pat.puts] at h
        | cons d ds =>
          simp only [Pat.puts] at h
          cases h1 : Pat.put p d e with
          | none => rw [h1] at h; cases h
          | some e1 => rw [h1] at h; simp [ih ds e1 e' h]
    exact ⟨p, xs, rfl, sqT_mono st.le i1, by rw [IsL.len i2, len ps ds _ _ e, hn'], G, F, env, A, ds, env', st, i2, e, q⟩
  | _ => simp [Pat.put] at e
end

/-! ### what is walked -/
inductive RI where
  | ok (xs : List D) (e : Ev) | exc (c : Str) (fs : List (Str × D)) (e : Ev) | bad
abbrev MI := Ev → RI
/-- an iterator gives these, as long as what is frozen stands -/
structure Feeds (K : PySem.W.Frag) (F : Hp) (J : It) (xs : List D) : Prop where
  go : ∀ i H, Same F H → i < xs.length → J.go i H
  stop : ∀ i H, Same F H → i = xs.length → J.stop i H
  yld : ∀ i H x H' F1, Same F F1 → Same F1 H → i < xs.length → J.yld i H x H' → ∃ F' d, xs[i]? = some d ∧ Grow F1 H F' H' ∧ Is K F' d x
  sz : xs.length ≤ sizeLine
def PostI (K : PySem.W.Frag) (C : SC) (Δ : Ty) (G F H : Hp) (A : AS) (σ : L2.St) (R : It → Hp → Prop) (r : RI) : Prop := match r with
  | .ok xs e => ∀ F' H' A' J, Step F H A F' H' A' → StOk K G Δ F' H' e σ A' → Feeds K F' J xs → R J H'
  | .exc c fs e => PostX K C G F H A c fs e
  | .bad => False
def tI (K : PySem.W.Frag) (C : SC) (Δ : Ty) (m : MI) : TI := fun σ H R => ∃ G F env A, StOk K G Δ F H env σ A ∧ PostI K C Δ G F H A σ R (m env)
def RI.bindS (r : RI) (k : List D → Ev → RS) : RS := match r with
  | .ok xs e => k xs e
  | .exc c fs e => .exc c fs e
  | .bad => .bad
@[simp] theorem RI.bindS_ok (d : List D) (e : Ev) (k : List D → Ev → RS) : (RI.ok d e).bindS k = k d e := rfl
@[simp] theorem RI.bindS_exc (c : Str) (fs : List (Str × D)) (e : Ev) (k : List D → Ev → RS) : (RI.exc c fs e).bindS k = .exc c fs e := rfl
@[simp] theorem RI.bindS_bad (k : List D → Ev → RS) : RI.bad.bindS k = .bad := rfl
def RI.bindE (r : RI) (k : List D → Ev → RE) : RE := match r with
  | .ok xs e => k xs e
  | .exc c fs e => .exc c fs e
  | .bad => .bad
@[simp] theorem RI.bindE_ok (d : List D) (e : Ev) (k : List D → Ev → RE) : (RI.ok d e).bindE k = k d e := rfl
@[simp] theorem RI.bindE_exc (c : Str) (fs : List (Str × D)) (e : Ev) (k : List D → Ev → RE) : (RI.exc c fs e).bindE k = .exc c fs e := rfl
@[simp] theorem RI.bindE_bad (k : List D → Ev → RE) : RI.bad.bindE k = .bad := rfl
def RE.bindI (r : RE) (k : D → Ev → RI) : RI := match r with
  | .ok d e => k d e
  | .exc c fs e => .exc c fs e
  | .bad => .bad
@[simp] theorem RE.bindI_ok (d : D) (e : Ev) (k : D → Ev → RI) : (RE.ok d e).bindI k = k d e := rfl
@[simp] theorem RE.bindI_exc (c : Str) (fs : List (Str × D)) (e : Ev) (k : D → Ev → RI) : (RE.exc c fs e).bindI k = .exc c fs e := rfl
@[simp] theorem RE.bindI_bad (k : D → Ev → RI) : RE.bad.bindI k = .bad := rfl
def RA.bindI (r : RA) (k : List D → Ev → RI) : RI := match r with
  | .ok d e => k d e
  | .exc c fs e => .exc c fs e
  | .bad => .bad
@[simp] theorem RA.bindI_ok (d : List D) (e : Ev) (k : List D → Ev → RI) : (RA.ok d e).bindI k = k d e := rfl
@[simp] theorem RA.bindI_exc (c : Str) (fs : List (Str × D)) (e : Ev) (k : List D → Ev → RI) : (RA.exc c fs e).bindI k = .exc c fs e := rfl
@[simp] theorem RA.bindI_bad (k : List D → Ev → RI) : RA.bad.bindI k = .bad := rfl
def itemsOf : D → Option (List D)
  | .tup ds => some ds
  | .lst ds => some ds
  | .scr ds => some ds
  | _ => none
def liftI (o : Option (List D)) (e : Ev) : RI := match o with
  | some xs => .ok xs e
  | none => .bad
@[simp] theorem liftI_some (d : List D) (e : Ev) : liftI (some d) e = .ok d e := rfl
@[simp] theorem liftI_none (e : Ev) : liftI none e = .bad := rfl
def iSeq (m : ME) : MI := fun e => (m e).bindI fun d e => liftI (itemsOf d) e
def rangeD (lo hi : Int) : Option (List D) := if -(2 ^ 62) ≤ lo ∧ lo < 2 ^ 62 ∧ -(2 ^ 62) ≤ hi ∧ hi < 2 ^ 62 ∧ (hi - lo).toNat ≤ 16777216 then some ((List.range (hi - lo).toNat).map fun i => .int (lo + (i : Nat))) else none
def rangeL1 : List D → Option (List D)
  | [.int n] => rangeD 0 n
  | _ => none
def rangeL2 : List D → Option (List D)
  | [.int a, .int b] => rangeD a b
  | _ => none
theorem rangeL1_some {ds xs : List D} (h : rangeL1 ds = some xs) : ∃ n, ds = [.int n] ∧ rangeD 0 n = some xs := by
  unfold rangeL1 at h
  split at h
  · exact ⟨_, rfl, h⟩
  · cases h
theorem rangeL2_some {ds xs : List D} (h : rangeL2 ds = some xs) : ∃ a b, ds = [.int a, .int b] ∧ rangeD a b = some xs := by
  unfold rangeL2 at h
  split at h
  · exact ⟨_, _, rfl, h⟩
  · cases h
def iRange1 (m : MA) : MI := fun e => (m e).bindI fun ds e => liftI (rangeL1 ds) e
def iRange2 (m : MA) : MI := fun e => (m e).bindI fun ds e => liftI (rangeL2 ds) e
def enumD (ds : List D) : List D := (List.range ds.length).zipWith (fun (i : Nat) d => .tup [.int i, d]) ds
def enumL : List D → Option (List D)
  | [d] => (itemsOf d).map enumD
  | _ => none
theorem enumL_some {ds xs : List D} (h : enumL ds = some xs) : ∃ d ys, ds = [d] ∧ itemsOf d = some ys ∧ xs = enumD ys := by
  unfold enumL at h
  split at h
  · rename_i d
    cases q : itemsOf d with
    | none => rw [q] at h; cases h
    | some ys => rw [q] at h; exact ⟨d, ys, rfl, q, (Option.some.inj h).symm⟩
  · cases h
def iEnu (m : MA) : MI := fun e => (m e).bindI fun ds e => liftI (enumL ds) e
def zip2D (xs ys : List D) : List D := xs.zipWith (fun x y => .tup [x, y]) ys
def zip2L : List D → Option (List D)
  | [x, y] => (itemsOf x).bind fun xs => (itemsOf y).map fun ys => zip2D xs ys
  | _ => none
theorem zip2L_some {ds xs : List D} (h : zip2L ds = some xs) : ∃ d d' ys zs, ds = [d, d'] ∧ itemsOf d = some ys ∧ itemsOf d' = some zs ∧ xs = zip2D ys zs := by
  unfold zip2L at h
  split at h
  · rename_i d d'
    cases q : itemsOf d with
    | none => rw [q] at h; cases h
    | some ys =>
      cases q' : itemsOf d' with
      | none => rw [q, q'] at h; cases h
      | some zs => rw [q, q'] at h; exact ⟨d, d', ys, zs, rfl, q, q', (Option.some.inj h).symm⟩
  · cases h
def iZp2 (m : MA) : MI := fun e => (m e).bindI fun ds e => liftI (zip2L ds) e

section
variable {K : PySem.W.Frag} {C : SC} {Δ Δ' : Ty} {G F H F1 H1 : Hp} {A A1 : AS} {σ : L2.St}
theorem PostI.base {R : It → Hp → Prop} {r : RI} (s : Step F H A F1 H1 A1) (h : PostI K C Δ G F H A σ R r) : PostI K C Δ G F1 H1 A1 σ R r := by
  cases r with
  | ok d e => exact fun F' H' A' J s' => h F' H' A' J (s.trans s')
  | exc c fs e => exact PostX.base s h
  | bad => exact h
theorem PostI.bindE {R : It → Hp → Prop} {r : RE} {k : D → Ev → RI} {Q1 : VK} (h : PostI K C Δ G F H A σ R (r.bindI k))
    (hq : ∀ d e F1 H1 A1 v, StOk K G Δ F1 H1 e σ A1 → Is K F1 d v → Step F H A F1 H1 A1 → PostI K C Δ G F1 H1 A1 σ R (k d e) → Q1 v H1) : PostE K C Δ G F H A σ .fz Q1 r := by
  cases r with
  | ok d e =>
    intro F' H' A' B v s st own dj
    simp only [Own] at own
    have s' := s.less (A'' := A') fun a z => .inl z
    exact hq d e F' H' A' v st own.1 s' (PostI.base s' h)
  | exc c fs e => exact h
  | bad => exact h
theorem PostI.bindA {R : It → Hp → Prop} {r : RA} {k : List D → Ev → RI} {Q1 : List V → Hp → Prop} (h : PostI K C Δ G F H A σ R (r.bindI k))
    (hq : ∀ d e F1 H1 A1 v, StOk K G Δ F1 H1 e σ A1 → IsL K F1 d v → Step F H A F1 H1 A1 → PostI K C Δ G F1 H1 A1 σ R (k d e) → Q1 v H1) : PostA K C Δ G F H A σ Q1 r := by
  cases r with
  | ok d e => exact fun F' H' A' vs s st own => hq d e F' H' A' vs st own s (PostI.base s h)
  | exc c fs e => exact h
  | bad => exact h
theorem PostS.bindI {D : Ends} {R : It → Hp → Prop} {r : RI} {k : List PT.D → Ev → RS} (h : PostS K C Δ' G F H A D (r.bindS k))
    (hq : ∀ xs e F1 H1 A1 J, StOk K G Δ F1 H1 e σ A1 → Feeds K F1 J xs → Step F H A F1 H1 A1 → PostS K C Δ' G F1 H1 A1 D (k xs e) → R J H1) : PostI K C Δ G F H A σ R r := by
  cases r with
  | ok d e => exact fun F' H' A' J s st own => hq d e F' H' A' J st own s (PostS.base s h)
  | exc c fs e => exact h
  | bad => exact h
theorem PostE.bindI {o : O} {Q : VK} {R : It → Hp → Prop} {r : RI} {k : List PT.D → Ev → RE} (h : PostE K C Δ' G F H A σ o Q (r.bindE k))
    (hq : ∀ xs e F1 H1 A1 J, StOk K G Δ F1 H1 e σ A1 → Feeds K F1 J xs → Step F H A F1 H1 A1 → PostE K C Δ' G F1 H1 A1 σ o Q (k xs e) → R J H1) : PostI K C Δ G F H A σ R r := by
  cases r with
  | ok d e => exact fun F' H' A' J s st own => hq d e F' H' A' J st own s (PostE.base s h)
  | exc c fs e => exact h
  | bad => exact h
theorem IsL.get : ∀ {ds : List D} {xs : List V} {i : Nat} {d : D}, IsL K F ds xs → ds[i]? = some d → ∃ x, xs[i]? = some x ∧ Is K F d x
  | [], xs, i, d, h, e => by simp at e
  | d' :: ds, xs, 0, d, h, e => by
    simp only [IsL] at h
    obtain ⟨y, ys, rfl, h1, h2⟩ := h
    simp at e; subst e
    exact ⟨y, rfl, h1⟩
  | d' :: ds, xs, i + 1, d, h, e => by
    simp only [IsL] at h
    obtain ⟨y, ys, rfl, h1, h2⟩ := h
    obtain ⟨x, q1, q2⟩ := IsL.get (i := i) h2 (by simpa using e)
    exact ⟨x, by simpa using q1, q2⟩
/-- what may be walked: a list or a tuple -/
theorem sq_of {d : D} {ds : List D} {v : V} (e : itemsOf d = some ds) (h : Is K F d v) : ∃ b a xs, v = .ref a ∧ Sq K F b a xs ∧ IsL K F ds xs := by
  cases d with
  | tup _ =>
    simp only [itemsOf, Option.some.injEq] at e
    subst e
    simp only [Is] at h
    obtain ⟨p, xs, rfl, h1, h2⟩ := h
    exact ⟨true, p, xs, rfl, h1, h2⟩
  | lst _ =>
    simp only [itemsOf, Option.some.injEq] at e
    subst e
    simp only [Is] at h
    obtain ⟨p, xs, rfl, h1, h2⟩ := h
    exact ⟨false, p, xs, rfl, .inl (.inl h1), h2⟩
  | scr _ =>
    simp only [itemsOf, Option.some.injEq] at e
    subst e
    simp only [Is] at h
    obtain ⟨p, xs, rfl, h1, h2⟩ := h
    exact ⟨false, p, xs, rfl, h1, h2⟩
  | _ => cases e
theorem sq_mono {b : Bool} {a : Addr} {xs : List V} (le : Same F F1) (h : Sq K F b a xs) : Sq K F1 b a xs := by
  cases b with
  | true => exact sqT_mono le h
  | false => exact sqL_mono le h
end
/-- with the state at hand -/
theorem PI.weakI {X : Cx} {tg e : Expr} {t t' : TI} (h : PI X tg e t) (w : ∀ pins s σ H R, Inv X pins σ H s → t' σ H R → t σ H R) : PI X tg e t' := ⟨fun pins s σ H R I q => h.run pins s σ H R I (w pins s σ H R I q)⟩
end PT

set_option Elab.async false
set_option linter.all false
set_option maxRecDepth 100000
set_option maxHeartbeats 4000000
/-! PT: for, while, list comprehensions -/
namespace PT
open PySem PySem.Spec PyProof.Rows L2

/-- sizes are known where an iterator has come -/
theorem PI.sized {X : Cx} {tg e : Expr} {wi : TI} (h : PI X tg e wi) : PI X tg e (fun σ H R => wi σ H fun J H' => (∀ b a xs, Sq X.K H' b a xs → xs.length ≤ sizeLine) → R J H') := by
  refine ⟨fun pins s σ H R I q => ?_⟩
  refine thn (h.run pins s σ H _ I q) fun v s1 h1 => thn h1 fun itv s2 h2 => ?_
  obtain ⟨it, fp, tn, J, H', e, I2, T, st, f, r⟩ := h2
  exact ⟨it, fp, tn, J, H', e, I2, T, st, f, r fun b a xs hq => by obtain ⟨_, _, _, z, _⟩ := sq_at I2 hq; exact z⟩
def ItS (K : PySem.W.Frag) : Bool → Addr → It
  | true, a => Itt K a
  | false, a => Itl K a
def iSqR (K : PySem.W.Frag) (te : TE) : TI := fun σ H R => te σ H fun x H1 => ∃ b a xs, x = .ref a ∧ Sq K H1 b a xs ∧ R (ItS K b a) H1
theorem pi_sq {X : Cx} {tg l : Expr} {tl : TE} (hl : PE X l tl) : PI X tg l (iSqR X.K tl) := by
  refine ⟨fun pins s σ H R I h => ?_⟩
  refine thn (hl.run pins s σ H _ I h) fun v s1 ⟨x, H1, I1, r1, q1⟩ => ?_
  obtain ⟨b, a, xs, e, hq, q⟩ := q1
  subst e
  cases r1
  have fin : ∀ b' : Addr, b' ∈ [s1.heap.objs.size] → FpOk X pins H1 b' := fun b' hb => by
    have e : b' = s1.heap.objs.size := by simpa using hb
    subst e
    exact I1.fpOk (Nat.le_refl _) (I1.hok.fresh (Nat.le_refl _))
  cases b with
  | true =>
    obtain ⟨its, rv, p, hz⟩ := I1.tuple hq
    refine wpAny_pyIter_tuple (show s1.heap.IsTuple a its.toArray from p) ?_
    exact ⟨s1.heap.objs.size, [s1.heap.objs.size], _, _, H1, rfl, I1.kept (t' := s1.toks) fun b o e => Heap.get?_push_of_some _ e, turn_tuple a _, ⟨_, Heap.get?_push_size _ rfl, rfl, rfl⟩, fin, q⟩
  | false =>
    obtain ⟨its, rv, p, hz⟩ := I1.list hq
    refine wpAny_pyIter_list p.isList ?_
    exact ⟨s1.heap.objs.size, [s1.heap.objs.size], _, _, H1, rfl, I1.kept (t' := s1.toks) fun b o e => Heap.get?_push_of_some _ e, turn_list a _, ⟨_, Heap.get?_push_size _ rfl, rfl, rfl⟩, fin, q⟩

section
variable {K : PySem.W.Frag} {F : Hp}
theorem IsL.get' : ∀ {ds : List D} {xs : List V} {i : Nat} {x : V}, IsL K F ds xs → xs[i]? = some x → ∃ d, ds[i]? = some d ∧ Is K F d x
  | [], xs, i, x, h, e => by simp only [IsL] at h; subst h; simp at e
  | d' :: ds, xs, 0, x, h, e => by
    simp only [IsL] at h
    obtain ⟨y, ys, rfl, h1, h2⟩ := h
    simp at e; subst e
    exact ⟨d', rfl, h1⟩
  | d' :: ds, xs, i + 1, x, h, e => by
    simp only [IsL] at h
    obtain ⟨y, ys, rfl, h1, h2⟩ := h
    obtain ⟨d, q1, q2⟩ := IsL.get' (i := i) h2 (by simpa using e)
    exact ⟨d, by simpa using q1, q2⟩
theorem feeds_sq {b : Bool} {a : Addr} {xs : List V} {ds : List D} (h : Sq K F b a xs) (i : IsL K F ds xs) (z : xs.length ≤ sizeLine) : Feeds K F (ItS K b a) ds where
  go := fun j H le hj => by
    have l := IsL.len i
    obtain ⟨x, hx⟩ : ∃ x, xs[j]? = some x := ⟨xs[j]'(by omega), List.getElem?_eq_getElem _⟩
    cases b with
    | true => exact ⟨xs, x, sqT_mono le h, hx⟩
    | false => exact ⟨xs, x, sqL_mono le h, hx⟩
  stop := fun j H le hj => by
    have l := IsL.len i
    cases b with
    | true => exact ⟨xs, sqT_mono le h, by omega⟩
    | false => exact ⟨xs, sqL_mono le h, by omega⟩
  yld := fun j H x H' F1 le le1 hj y => by
    have hx : H' = H ∧ xs[j]? = some x := by
      cases b with
      | true => exact ⟨y.1, y.2 xs (sqT_mono (le.trans le1) h)⟩
      | false => exact ⟨y.1, y.2 xs (sqL_mono (le.trans le1) h)⟩
    obtain ⟨rfl, hx⟩ := hx
    obtain ⟨d, hd, hi⟩ := IsL.get' i hx
    exact ⟨F1, d, hd, Grow.refl le1, Is.mono le _ _ hi⟩
  sz := by rw [← IsL.len i]; exact z
theorem feeds_range {lo hi : Int} {ds : List D} (e : rangeD lo hi = some ds) : Feeds K F (Itr lo (hi - lo).toNat) ds := by
  unfold rangeD at e
  split at e
  · rename_i h
    have e' := Option.some.inj e
    subst e'
    have len : ((List.range (hi - lo).toNat).map fun i => D.int (lo + (i : Nat))).length = (hi - lo).toNat := by simp only [List.length_map, List.length_range]
    refine ⟨fun j H le hj => (len ▸ hj : j < (hi - lo).toNat), fun j H le hj => Nat.le_of_eq (len ▸ hj : j = (hi - lo).toNat).symm, fun j H x H' F1 le le1 hj y => ?_, by rw [len, sizeLine_eq]; exact h.2.2.2.2⟩
    obtain ⟨rfl, rfl⟩ := y
    refine ⟨F1, .int (lo + j), ?_, Grow.refl le1, by simp only [Is]⟩
    have q : j < (hi - lo).toNat := by simpa only [List.length_map, List.length_range] using hj
    rw [List.getElem?_map, List.getElem?_range q]
    rfl
  · cases e
theorem feeds_enum {b : Bool} {a : Addr} {xs : List V} {ds : List D} (h : Sq K F b a xs) (i : IsL K F ds xs) (z : xs.length ≤ sizeLine) : Feeds K F (ItE K b a) (enumD ds) where
  go := fun j H le hj => by
    have l := IsL.len i
    unfold enumD at hj
    simp at hj
    obtain ⟨x, hx⟩ : ∃ x, xs[j]? = some x := ⟨xs[j]'(by omega), List.getElem?_eq_getElem _⟩
    exact ⟨xs, x, sq_mono le h, hx⟩
  stop := fun j H le hj => by
    have l := IsL.len i
    unfold enumD at hj
    simp at hj
    exact ⟨xs, sq_mono le h, by omega⟩
  yld := fun j H x H' F1 le le1 hj y => by
    obtain ⟨T, x0, rfl, hT, rfl, hf⟩ := y
    obtain ⟨d, hd, hi⟩ := IsL.get' i (hf xs (sq_mono (le.trans le1) h))
    refine ⟨_, .tup [.int j, d], ?_, Grow.new le1 hT, ?_⟩
    · have hlt : j < ds.length := (List.getElem?_eq_some_iff.mp hd).1
      unfold enumD
      rw [List.getElem?_zipWith, hd]
      simp [hlt]
    · simp only [Is, IsL]
      exact ⟨T, _, rfl, SqT.of upd_same, _, _, rfl, rfl, _, _, rfl, Is.mono (le.trans (Grow.new le1 hT).le) _ _ hi, rfl⟩
  sz := by unfold enumD; simp; rw [← IsL.len i]; exact z
theorem feeds_z2 {b1 b2 : Bool} {a1 a2 : Addr} {xs ys : List V} {ds es : List D} (h1 : Sq K F b1 a1 xs) (h2 : Sq K F b2 a2 ys) (i1 : IsL K F ds xs) (i2 : IsL K F es ys) (z : xs.length ≤ sizeLine) : Feeds K F (ItZ2 K b1 b2 a1 a2) (zip2D ds es) where
  go := fun j H le hj => by
    have l1 := IsL.len i1
    have l2 := IsL.len i2
    unfold zip2D at hj
    simp at hj
    obtain ⟨x, hx⟩ : ∃ x, xs[j]? = some x := ⟨xs[j]'(by omega), List.getElem?_eq_getElem _⟩
    obtain ⟨y, hy⟩ : ∃ y, ys[j]? = some y := ⟨ys[j]'(by omega), List.getElem?_eq_getElem _⟩
    exact ⟨xs, ys, x, y, sq_mono le h1, sq_mono le h2, hx, hy⟩
  stop := fun j H le hj => by
    have l1 := IsL.len i1
    have l2 := IsL.len i2
    unfold zip2D at hj
    simp at hj
    exact ⟨xs, ys, sq_mono le h1, sq_mono le h2, by omega, by omega, by omega⟩
  yld := fun j H x H' F1 le le1 hj y => by
    obtain ⟨T, x0, y0, rfl, hT, rfl, hf1, hf2⟩ := y
    obtain ⟨d, hd, hi⟩ := IsL.get' i1 (hf1 xs (sq_mono (le.trans le1) h1))
    obtain ⟨d', hd', hi'⟩ := IsL.get' i2 (hf2 ys (sq_mono (le.trans le1) h2))
    refine ⟨_, .tup [d, d'], ?_, Grow.new le1 hT, ?_⟩
    · unfold zip2D
      rw [List.getElem?_zipWith, hd, hd']
    · simp only [Is, IsL]
      exact ⟨T, _, rfl, SqT.of upd_same, _, _, rfl, Is.mono (le.trans (Grow.new le1 hT).le) _ _ hi, _, _, rfl, Is.mono (le.trans (Grow.new le1 hT).le) _ _ hi', rfl⟩
  sz := by unfold zip2D; simp; have := IsL.len i1; omega
end

section
variable {X : Cx} {C : SC} {Δ : Ty} {tg e : Expr} {m : ME}
theorem PI.weak {tg e : Expr} {t t' : TI} (h : PI X tg e t) (w : ∀ σ H R, t' σ H R → t σ H R) : PI X tg e t' := ⟨fun pins s σ H R I q => h.run pins s σ H R I (w σ H R q)⟩
theorem i_seq (h : PE X e (tE X.K C Δ m .fz)) : PI X tg e (tI X.K C Δ (iSeq m)) := by
  refine PI.weak (PI.sized (pi_sq h)) fun σ H R ⟨G, F, env, A, st, h⟩ => ⟨G, F, env, A, st, h.bindE fun d e1 F1 H1 A1 v st1 i1 s1 h1 => ?_⟩
  cases q : itemsOf d with
  | none => rw [q] at h1; exact h1.elim
  | some ds =>
    rw [q] at h1
    obtain ⟨b, a, xs, rfl, hs, hi⟩ := sq_of q i1
    exact ⟨b, a, xs, rfl, sq_mono st1.le hs, fun sz => h1 F1 H1 A1 _ Step.refl st1 (feeds_sq hs hi (sz b a xs (sq_mono st1.le hs)))⟩
theorem PostI.lift {K : PySem.W.Frag} {G F H : Hp} {A : AS} {σ : L2.St} {R : It → Hp → Prop} {o : Option (List D)} {e : Ev} (h : PostI K C Δ G F H A σ R (liftI o e)) : ∃ xs, o = some xs ∧ PostI K C Δ G F H A σ R (.ok xs e) := by
  cases o with
  | none => exact h.elim
  | some xs => exact ⟨xs, rfl, h⟩
theorem i_range1 {p pos : Pos} {a : Expr} {r : MA} (hg : Gl X "range") (hm : X.mg "range" = none) (ha : PA X [a] (tA X.K C Δ r)) (hs : starEach [a] X.env = [(false, eval a X.env)] := by rfl) : PI X tg (.Call (.Name "range" p) [a] [] pos) (tI X.K C Δ (iRange1 r)) := by
  refine PI.weak (pi_range1 hg hm ha hs) fun σ H R ⟨G, F, env, A, st, h⟩ => ⟨G, F, env, A, st, h.bindA fun ds e1 F1 H1 A1 vs st1 i1 s1 h1 => ?_⟩
  obtain ⟨xs, q, h2⟩ := h1.lift
  obtain ⟨n, rfl, q2⟩ := rangeL1_some q
  simp only [IsL, Is] at i1
  obtain ⟨y, ys, rfl, rfl, rfl⟩ := i1
  have b := q2
  unfold rangeD at b
  split at b
  · rename_i hb
    have fd := feeds_range (K := X.K) (F := F1) q2
    rw [Int.sub_zero] at fd
    exact ⟨n, rfl, hb.2.2.1, hb.2.2.2.1, h2 F1 H1 A1 _ Step.refl st1 fd⟩
  · cases b
theorem i_range2 {p pos : Pos} {a b : Expr} {r : MA} (hg : Gl X "range") (hm : X.mg "range" = none) (ha : PA X [a, b] (tA X.K C Δ r)) (hs : starEach [a, b] X.env = [(false, eval a X.env), (false, eval b X.env)] := by rfl) (hs2 : starEach [b] X.env = [(false, eval b X.env)] := by rfl) :
    PI X tg (.Call (.Name "range" p) [a, b] [] pos) (tI X.K C Δ (iRange2 r)) := by
  refine PI.weak (pi_range2 hg hm ha hs hs2) fun σ H R ⟨G, F, env, A, st, h⟩ => ⟨G, F, env, A, st, h.bindA fun ds e1 F1 H1 A1 vs st1 i1 s1 h1 => ?_⟩
  obtain ⟨xs, q, h2⟩ := h1.lift
  obtain ⟨n, k, rfl, q2⟩ := rangeL2_some q
  simp only [IsL, Is] at i1
  obtain ⟨y, ys, rfl, rfl, y', ys', rfl, rfl, rfl⟩ := i1
  have b := q2
  unfold rangeD at b
  split at b
  · rename_i hb
    exact ⟨n, k, rfl, ⟨hb.1, hb.2.1, hb.2.2.1, hb.2.2.2.1⟩, h2 F1 H1 A1 _ Step.refl st1 (feeds_range (K := X.K) (F := F1) q2)⟩
  · cases b
theorem i_enum {p pos tpos : Pos} {elts : List Expr} {kk : Nat} {r : MA} (hg : Gl X "enumerate") (hm : X.mg "enumerate" = none) (ha : PA X [e] (tA X.K C Δ r)) (hs : starEach [e] X.env = [(false, eval e X.env)] := by rfl) :
    PI X (.Tuple elts kk tpos) (.Call (.Name "enumerate" p) [e] [] pos) (tI X.K C Δ (iEnu r)) := by
  refine PI.weak (PI.sized (pi_enumB hg hm ha hs)) fun σ H R ⟨G, F, env, A, st, h⟩ => ⟨G, F, env, A, st, h.bindA fun ds e1 F1 H1 A1 vs st1 i1 s1 h1 => ?_⟩
  obtain ⟨xs, q, h2⟩ := h1.lift
  obtain ⟨d, ys, rfl, q2, rfl⟩ := enumL_some q
  simp only [IsL] at i1
  obtain ⟨y, zs, rfl, i2, rfl⟩ := i1
  obtain ⟨b, a, xs, rfl, hs, hi⟩ := sq_of q2 i2
  exact ⟨b, a, xs, rfl, sq_mono st1.le hs, fun sz => h2 F1 H1 A1 _ Step.refl st1 (feeds_enum hs hi (sz b a xs (sq_mono st1.le hs)))⟩
theorem i_zip2 {e2 : Expr} {p pos tpos : Pos} {elts : List Expr} {kk : Nat} {r : MA} (hg : Gl X "zip") (hm : X.mg "zip" = none) (ha : PA X [e, e2] (tA X.K C Δ r)) (hs : starEach [e, e2] X.env = (false, eval e X.env) :: starEach [e2] X.env := by rfl) (hpl : (backTo pos (starEach [e2] X.env)).any (·.1) = false := by rfl) :
    PI X (.Tuple elts kk tpos) (.Call (.Name "zip" p) [e, e2] [] pos) (tI X.K C Δ (iZp2 r)) := by
  refine PI.weak (PI.sized (pi_z2 hg hm ha hs hpl)) fun σ H R ⟨G, F, env, A, st, h⟩ => ⟨G, F, env, A, st, h.bindA fun ds e1 F1 H1 A1 vs st1 i1 s1 h1 => ?_⟩
  obtain ⟨xs, q, h2⟩ := h1.lift
  obtain ⟨d, d', ys, zs, rfl, q2, q', rfl⟩ := zip2L_some q
  simp only [IsL] at i1
  obtain ⟨y, ys', rfl, i2, y', ys'', rfl, i3, rfl⟩ := i1
  obtain ⟨b, a, xs, rfl, hs, hi⟩ := sq_of q2 i2
  obtain ⟨b', a', xs', rfl, hs', hi'⟩ := sq_of q' i3
  exact ⟨b, b', a, a', xs, xs', rfl, sq_mono st1.le hs, sq_mono st1.le hs', fun sz => h2 F1 H1 A1 _ Step.refl st1 (feeds_z2 hs hs' hi hi' (sz b a xs (sq_mono st1.le hs)))⟩
end
end PT

set_option Elab.async false
set_option linter.all false
set_option maxRecDepth 100000
set_option maxHeartbeats 4000000
/-! PT: for, while -/
namespace PT
open PySem PySem.Spec PyProof.Rows L2

def forL (g : D → Ev → Option Ev) (b : MS) : List D → Ev → RS
  | [], e => .nx e
  | d :: ds, e => match g d e with
    | none => .bad
    | some e1 => match b e1 with
      | .nx e2 => forL g b ds e2
      | .ct e2 => forL g b ds e2
      | .bk e2 => .nx e2
      | .rt d e => .rt d e
      | .exc c fs e => .exc c fs e
      | .bad => .bad
def sFor (mi : MI) (p : Pat) (b : MS) : MS := fun e => (mi e).bindS fun xs e => forL p.put b xs e
def whL (c : ME) (b : MS) : Nat → Ev → RS
  | 0, _ => .bad
  | n + 1, e => (c e).bindTS fun t e1 => if t then (match b e1 with
      | .nx e2 => whL c b n e2
      | .ct e2 => whL c b n e2
      | .bk e2 => .nx e2
      | .rt d e => .rt d e
      | .exc c fs e => .exc c fs e
      | .bad => .bad) else .nx e1
open Classical in
noncomputable def sWhile (c : ME) (b : MS) : MS := fun e => if h : ∃ n r, whL c b n e = r ∧ r ≠ .bad then whL c b h.choose e else .bad
section
variable {X : Cx} {C : SC} {Δ Δ1 Δ' : Ty} {pos : Pos}
theorem s_for {iter tg : Expr} {body : List Stmt} {mi : MI} {p : Pat} {mb : MS} (hp : PassesOwn (model X.prog X.w) X.A X.env X.xe) (hc : X.calm = true) (hi : PI X tg iter (tI X.K C Δ mi)) (hg : PG X tg (tG X.K Δ p)) (hb : PSs X body (tS X.K { C with tb := Δ, tc := Δ } Δ mb Δ))
    (hs : ∀ x, foldedSetIterable iter X.env x = pure x := by intro _; rfl) : PS X (.For tg iter body [] pos) (tS X.K C Δ (sFor mi p mb) Δ) := by
  refine PS.weak (ps_for hp hc hi hg hb hs) fun D σ H ⟨G, F, env, A, st, h⟩ => ?_
  refine ⟨G, F, env, A, st, PostS.bindI h fun xs e1 F1 H1 A1 J st1 fd s1 h1 => ?_⟩
  refine ⟨fun i m σ H => m = xs.length - i ∧ i ≤ xs.length ∧ ∃ F' A' env', Same F1 F' ∧ StOk X.K G Δ F' H env' σ A' ∧ PostS X.K C Δ G F' H A' D (forL p.put mb (xs.drop i) env'), ⟨_, rfl, Nat.zero_le _, F1, A1, e1, fun _ _ h => h, st1, h1⟩, ?_⟩
  rintro i m σ H ⟨rfl, hi, F2, A2, e2, le2, st2, h2⟩
  by_cases hlt : i < xs.length
  · refine .inr ⟨fd.go i H (le2.trans st2.le) hlt, fun σ' H' => ∃ F' A' env', Same F1 F' ∧ StOk X.K G Δ F' H' env' σ' A' ∧ PostS X.K C Δ G F' H' A' D (forL p.put mb (xs.drop (i + 1)) env'), fun σ' H' q => ⟨_, by omega, rfl, hlt, q⟩, fun x H' y => ?_⟩
    obtain ⟨F3, d, hd, gr, hx⟩ := fd.yld i H x H' F2 le2 st2.le hlt y
    have hdr : xs.drop i = d :: xs.drop (i + 1) := by
      rw [List.drop_eq_getElem_cons hlt]
      congr 1
      exact (Option.some.inj ((List.getElem?_eq_getElem hlt).symm.trans hd))
    rw [hdr] at h2
    simp only [forL] at h2
    cases e3 : p.put d e2 with
    | none => rw [e3] at h2; exact h2.elim
    | some e3' =>
      rw [e3] at h2
      have st3 := st2.grow gr
      refine ⟨G, F3, e2, A2, d, e3', st3, hx, e3, fun σ' A' st' sub _ => ⟨G, F3, e3', A', st', ?_⟩⟩
      have s3 : Step F2 H A2 F3 H' A' := gr.step.less sub
      simp only at h2
      generalize mb e3' = r at h2 ⊢
      have le3 : Same F1 F3 := le2.trans gr.le
      cases r with
      | nx e4 => exact fun F' H'' A'' σ'' s st'' => ⟨F', A'', e4, le3.trans s.le, st'', PostS.base (s3.trans s) h2⟩
      | ct e4 => exact fun F' H'' A'' σ'' s st'' => ⟨F', A'', e4, le3.trans s.le, st'', PostS.base (s3.trans s) h2⟩
      | bk e4 => exact fun F' H'' A'' σ'' s st'' => h2 F' H'' A'' σ'' (s3.trans s) st''
      | rt d e4 => exact fun F' H'' A'' B σ'' v s => h2 F' H'' A'' B σ'' v (s3.trans s)
      | exc c fs e4 => exact PostX.base s3 h2
      | bad => exact h2
  · have e : i = xs.length := by omega
    subst e
    rw [List.drop_length] at h2
    exact .inl ⟨fd.stop _ H (le2.trans st2.le) rfl, h2 F2 H A2 σ Step.refl st2⟩
theorem s_while {c : Expr} {body : List Stmt} {mc : ME} {mb : MS} (hp : PassesOwn (model X.prog X.w) X.A X.env X.xe) (hc : L2.PT X c (tT X.K C Δ mc)) (hb : PSs X body (tS X.K { C with tb := Δ, tc := Δ } Δ mb Δ)) : PS X (.While c body [] pos) (tS X.K C Δ (sWhile mc mb) Δ) := by
  refine PS.weak (ps_while hp hc hb) fun D σ H ⟨G, F, env, A, st, h⟩ => ?_
  have h' : ∃ n, PostS X.K C Δ G F H A D (whL mc mb n env) := by
    unfold sWhile at h
    split at h
    · exact ⟨_, h⟩
    · exact h.elim
  obtain ⟨n, h⟩ := h'
  refine ⟨fun m σ H => ∃ F A env, StOk X.K G Δ F H env σ A ∧ PostS X.K C Δ G F H A D (whL mc mb m env), ⟨n, F, A, env, st, h⟩, ?_⟩
  rintro m σ H ⟨F, A, env, st, h⟩
  cases m with
  | zero => exact h.elim
  | succ m =>
    refine ⟨G, F, env, A, st, PostS.bindT h fun b e1 F1 H1 A1 st1 s1 h1 => ?_⟩
    cases b with
    | false =>
      simp only [Bool.false_eq_true, if_false] at h1 ⊢
      exact h1 F1 H1 A1 σ Step.refl st1
    | true =>
      simp only [if_true] at h1 ⊢
      refine ⟨fun σ' H' => ∃ F A env, StOk X.K G Δ F H' env σ' A ∧ PostS X.K C Δ G F H' A D (whL mc mb m env), fun σ' H' q => ⟨m, Nat.lt_succ_self m, q⟩, G, F1, e1, A1, st1, ?_⟩
      generalize mb e1 = r at h1 ⊢
      cases r with
      | nx e4 => exact fun F' H'' A'' σ'' s st'' => ⟨F', A'', e4, st'', PostS.base s h1⟩
      | ct e4 => exact fun F' H'' A'' σ'' s st'' => ⟨F', A'', e4, st'', PostS.base s h1⟩
      | bk e4 => exact fun F' H'' A'' σ'' s st'' => h1 F' H'' A'' σ'' s st''
      | rt d e4 => exact fun F' H'' A'' B σ'' v s => h1 F' H'' A'' B σ'' v s
      | exc c fs e4 => exact h1
      | bad => exact h1
end
theorem whL_mono {c : ME} {b : MS} : ∀ {n m : Nat} {e : Ev} {r : RS}, n ≤ m → whL c b n e = r → r ≠ .bad → whL c b m e = r
  | 0, m, e, r, _, h, q => absurd h.symm q
  | n + 1, 0, e, r, l, h, q => absurd l (by omega)
  | n + 1, m + 1, e, r, l, h, q => by
    unfold whL at h ⊢
    generalize c e = rc at h ⊢
    cases rc with
    | ok d e1 =>
      cases d with
      | bl t =>
        simp only [RE.bindTS_bl] at h ⊢
        cases t with
        | false => exact h
        | true =>
          simp only [if_true] at h ⊢
          generalize b e1 = rb at h ⊢
          cases rb with
          | nx e2 => exact whL_mono (Nat.le_of_succ_le_succ l) h q
          | ct e2 => exact whL_mono (Nat.le_of_succ_le_succ l) h q
          | _ => exact h
      | _ => exact h
    | _ => exact h
theorem sWhile_of {c : ME} {b : MS} {n : Nat} {e : Ev} {r : RS} (h : whL c b n e = r) (q : r ≠ .bad) : sWhile c b e = r := by
  have ex : ∃ n r, whL c b n e = r ∧ r ≠ .bad := ⟨n, r, h, q⟩
  unfold sWhile
  rw [dif_pos ex]
  obtain ⟨r', h1, h2⟩ := ex.choose_spec
  rcases Nat.le_total n ex.choose with l | l
  · exact whL_mono l h q
  · rw [h1, ← whL_mono l h1 h2, h]
end PT

set_option Elab.async false
set_option linter.all false
set_option maxRecDepth 100000
set_option maxHeartbeats 4000000
/-! PT: list comprehensions -/
namespace PT
open PySem PySem.Spec PyProof.Rows L2

def wipeE (e : Ev) : List Nat → Ev
  | [] => e
  | v :: vs => (wipeE e vs).set v none
/-- the block's own slots as they were ahead of it -/
def unwipe (e0 : Ev) (e : Ev) : List Nat → Ev
  | [] => e
  | v :: vs => (unwipe e0 e vs).set v (e0.getD v none)
def lcL (g : D → Ev → Option Ev) (c m : ME) (vs : List Nat) : List D → Ev → List D → RE
  | [], e, acc => .ok (.lst acc) e
  | d :: ds, e, acc => match g d (wipeE e vs) with
    | none => .bad
    | some e1 => match c e1 with
      | .ok (.bl false) e2 => lcL g c m vs ds e2 acc
      | .ok (.bl true) e2 => (match m e2 with
        | .ok y e3 => if acc.length < 16777216 then lcL g c m vs ds e3 (acc ++ [y]) else .bad
        | _ => .bad)
      | _ => .bad
def mLc (mi : MI) (p : Pat) (c m : ME) (vs : List Nat) : ME := fun e => (mi e).bindE fun xs e1 => (lcL p.put c m vs xs e1 []).bind fun d e2 => .ok d (unwipe e1 e2 vs)
section
variable {K : PySem.W.Frag} {G F H F' H' : Hp} {A A' : AS} {σ : L2.St} {Δ : Ty} {env : Ev}
theorem Slots.wipe : ∀ (vs : List Nat) {A : AS}, Slots K G F H Δ env σ A → ∃ A', Slots K G F H Δ (wipeE env vs) (L2.wipe σ vs) A' ∧ ∀ a, A' a → A a
  | [], A, h => ⟨A, h, fun _ z => z⟩
  | v :: vs, A, h => by
    obtain ⟨A1, h1, h2⟩ := Slots.wipe vs h
    obtain ⟨A2, h3, h4⟩ := h1.drop v none
    exact ⟨A2, h3, fun a z => h2 a (h4 a z)⟩
theorem StOk.wipe (vs : List Nat) (x : StOk K G Δ F H env σ A) : ∃ A', StOk K G Δ F H (wipeE env vs) (L2.wipe σ vs) A' ∧ ∀ a, A' a → A a := by
  obtain ⟨A', h1, h2⟩ := x.sl.wipe vs
  exact ⟨A', ⟨h1, fun a z => x.dj a (h2 a z), x.le, x.gl, fun a z => x.gd a (h2 a z)⟩, h2⟩
theorem wipe_get {σ : L2.St} {i : Nat} : ∀ {vs : List Nat}, i ∉ vs → (L2.wipe σ vs)[i]? = σ[i]?
  | [], _ => rfl
  | v :: vs, h => by
    simp only [List.mem_cons, not_or] at h
    unfold L2.wipe
    rw [List.getElem?_set_ne (fun e => h.1 e.symm), wipe_get h.2]
theorem wipe_none {σ : L2.St} {i : Nat} : ∀ {vs : List Nat}, i ∈ vs → (L2.wipe σ vs)[i]? = σ[i]?.map fun _ => none
  | v :: vs, h => by
    unfold L2.wipe
    by_cases q : v = i
    · subst q
      rw [List.getElem?_set_self']
      have l : (L2.wipe σ vs).length = σ.length := wipe_length σ vs
      by_cases hv : v < σ.length
      · rw [List.getElem?_eq_getElem (by omega), List.getElem?_eq_getElem hv]; rfl
      · rw [List.getElem?_eq_none (by omega), List.getElem?_eq_none (by omega)]; rfl
    · rw [List.getElem?_set_ne q]
      refine wipe_none ?_
      rcases List.mem_cons.mp h with h | h
      · exact absurd h.symm q
      · exact h
/-- the outer slots behind a block -/
theorem Slots.unwipe {F0 H0 : Hp} {e0 : Ev} {A0 : AS} (le : Same F0 F) (s0 : Slots K G F0 H0 Δ e0 σ A0) : ∀ (vs ws : List Nat) {τ : L2.St} {e : Ev} {A : AS}, (∀ v ∈ vs, Δ[v]? = some (.ow .fz)) → Slots K G F H Δ e τ A → (∀ i, i ∉ vs → i ∉ ws → τ[i]? = σ[i]?) →
    ∃ A' τ', Slots K G F H Δ (unwipe e0 e vs) τ' A' ∧ (∀ a, A' a → A a) ∧ (∀ i, i ∉ ws → τ'[i]? = σ[i]?)
  | [], ws, τ, e, A, hv, h, hτ => ⟨A, τ, h, fun _ z => z, fun i hi => hτ i (by simp) hi⟩
  | v :: vs, ws, τ, e, A, hv, h, hτ => by
    obtain ⟨A1, τ1, h1, h2, h3⟩ := Slots.unwipe le s0 vs (v :: ws) (fun w hw => hv w (List.mem_cons_of_mem _ hw)) h fun i hi hw => hτ i (by simp only [List.mem_cons, not_or] at hw ⊢; exact ⟨hw.1, hi⟩) (by simp only [List.mem_cons, not_or] at hw; exact hw.2)
    have t := hv v List.mem_cons_self
    have hi : v < Δ.length := (List.getElem?_eq_some_iff.mp t).1
    have l0 := s0.len
    have hσ : σ[v]? = some (σ[v]'(by omega)) := List.getElem?_eq_getElem _
    obtain ⟨A2, q1, q2⟩ := h1.drop v (σ[v]'(by omega))
    have l1 := h1.len
    have fin : ∀ i, i ∉ ws → (τ1.set v (σ[v]'(by omega)))[i]? = σ[i]? := fun i hw => by
      by_cases e : v = i
      · subst e
        rw [List.getElem?_set_self (by omega), hσ]
      · rw [List.getElem?_set_ne e]
        exact h3 i (by simp only [List.mem_cons, not_or]; exact ⟨fun z => e z.symm, hw⟩)
    cases he : e0[v]? with
    | none => rw [List.getElem?_eq_none_iff] at he; omega
    | some x =>
      have hg : e0.getD v none = x := by rw [List.getD_eq_getElem?_getD, he]; rfl
      unfold PT.unwipe
      rw [hg]
      cases x with
      | none => exact ⟨A2, _, q1, fun a z => h2 a (q2 a z), fin⟩
      | some d =>
        obtain ⟨w, B, z1, ⟨y, z2, z3⟩, z4⟩ := s0.get he t
        simp only [Own] at z3
        have z := Slots.put (i := v) (d := d) (s := .ow .fz) (v := w) (A1 := fun _ => False) q1 (by simp [l1.1, hi]) t (by simp [l1.2, hi]; rw [hσ] at z1; exact Option.some.inj z1) ⟨y, z2, by simp only [Own]; exact ⟨Is.mono le _ _ z3.1, fun _ z => z⟩⟩ fun _ z => z.elim
        rw [List.set_set] at z
        exact ⟨_, _, z, fun a z => z.elim (fun z => z.elim) fun z => h2 a (q2 a z), fin⟩
end
theorem OwnL.snoc {R : D → V → AS → Prop} {d : D} {y : V} {B : AS} : ∀ {ds : List D} {xs : List V} {A : AS}, OwnL R ds xs A → R d y B → (∀ a, A a → ¬ B a) → OwnL R (ds ++ [d]) (xs ++ [y]) (fun a => A a ∨ B a)
  | [], xs, A, h, r, dj => by
    obtain ⟨rfl, n⟩ := h
    exact ⟨y, [], B, fun _ => False, rfl, r, ⟨rfl, fun _ z => z⟩, fun _ _ z => z, fun a => ⟨fun z => z.elim (fun z => absurd z (n a)) .inl, fun z => z.elim .inr fun z => z.elim⟩⟩
  | d' :: ds, xs, A, h, r, dj => by
    obtain ⟨y', ys, A1, A2, rfl, h1, h2, h3, h4⟩ := h
    have ih := OwnL.snoc h2 r fun a z => dj a ((h4 a).mpr (.inr z))
    refine ⟨y', _, A1, _, rfl, h1, ih, fun a z w => w.elim (h3 a z) fun w => dj a ((h4 a).mpr (.inl z)) w, fun a => ?_⟩
    constructor
    · rintro (z | z)
      · exact ((h4 a).mp z).elim .inl fun z => .inr (.inl z)
      · exact .inr (.inr z)
    · rintro (z | z | z)
      · exact .inl ((h4 a).mpr (.inl z))
      · exact .inl ((h4 a).mpr (.inr z))
      · exact .inr z
theorem OwnL.lenL {R : D → V → AS → Prop} : ∀ {ds : List D} {xs : List V} {A : AS}, OwnL R ds xs A → xs.length = ds.length
  | [], xs, A, h => by obtain ⟨rfl, _⟩ := h; rfl
  | d' :: ds, xs, A, h => by
    obtain ⟨y', ys, A1, A2, rfl, h1, h2, h3, h4⟩ := h
    simp [OwnL.lenL h2]

/-- what a block's parts stand in -/
abbrev SC.blk (C : SC) (Δ : Ty) : SC := { C with W := fun _ _ _ _ => False, tx := Δ }
theorem XdOk.false {K : PySem.W.Frag} {C : SC} {Δ : Ty} {G F H : Hp} {A : AS} {c : Str} {fs : List (Str × D)} {e : Ev} (h : PostX K (C.blk Δ) G F H A c fs e) (h' : ∃ F' H' A' σ' dd, Step F H A F' H' A' ∧ StOk K G Δ F' H' e σ' A' ∧ XdOk K F' fs dd) : False := by
  obtain ⟨F', H', A', σ', dd, h1, h2, h3⟩ := h'
  exact h F' H' A' σ' dd h1 h2 h3
section
variable {X : Cx} {C : SC} {Δ : Ty} {pos : Pos} {o : O}
theorem lc_sound {K : PySem.W.Frag} {G : Hp} {σ : L2.St} {H : Hp} {Q : VK} {p : Pat} {mc m : ME} {vs : List Nat} {env : Ev} {F : Hp} {A : AS} {J : It} {xs : List D}
    (hvs : ∀ v ∈ vs, Δ[v]? = some (.ow .fz)) (hp : ∀ i ∈ p.ixs, i ∈ vs) (st : StOk K G Δ F H env σ A) (fd : Feeds K F J xs) (h : PostE K C Δ G F H A σ (.lst o) Q ((lcL p.put mc m vs xs env []).bind fun d e2 => .ok d (unwipe env e2 vs))) :
    ∀ D, H D = none → ∃ W : Nat → Nat → Hp → Prop, (∃ m, W 0 m (upd H D (.lst []))) ∧ ∀ i n H, W i n H →
  (J.stop i H ∧ Q (.ref D) H) ∨ (J.go i H ∧ ∃ Nx : Hp → Prop, (∀ H', Nx H' → ∃ m', m' < n ∧ W (i + 1) m' H') ∧ ∀ x H', J.yld i H x H' → tG K Δ p x (L2.wipe σ vs) H' fun σ2 H2 => L2.wipe σ2 vs = L2.wipe σ vs ∧ tT K (C.blk Δ) Δ mc σ2 H2 fun b H3 =>
    if b = true then tE K (C.blk Δ) Δ m o σ2 H3 fun y H4 => ∃ acc, H4 D = some (.lst acc) ∧ acc.length < sizeLine ∧ Nx (upd H4 D (.lst (acc ++ [y]))) else Nx H3) := by
  intro P nP
  have nF : F P = none := none_of_same st.le P nP
  -- the state ahead of turn i, ds as told so far
  let Z : Nat → Hp → Prop := fun i H' => ∃ F' A' B env' ds acc, Step F H A F' H' (fun a => A' a ∨ a = P ∨ B a) ∧ StOk K G Δ F' H' env' (L2.wipe σ vs) A' ∧ H' P = some (.lst acc) ∧ OwnL (Own K F' H' o) ds acc B ∧ (∀ b, B b → ¬ A' b ∧ F' b = none ∧ b ≠ P) ∧ ¬ A' P ∧ F' P = none ∧
    PostE K C Δ G F H A σ (.lst o) Q ((lcL p.put mc m vs (xs.drop i) env' ds).bind fun d e2 => .ok d (unwipe env e2 vs))
  obtain ⟨A0, w1, w2⟩ := st.wipe vs
  have cong : ∀ (ds : List D) (e : Ev) (e' : Ev) (acc : List D), wipeE e vs = wipeE e' vs → ds ≠ [] → lcL p.put mc m vs ds e acc = lcL p.put mc m vs ds e' acc := by
    intro ds e e' acc h hd
    cases ds with
    | nil => exact absurd rfl hd
    | cons d ds => simp only [lcL, h]
  have hg : Grow F H F (upd H P (.lst [])) := ⟨fun _ _ h => h, fun a o e => by rw [upd_ne (ne_of_none e nP)]; exact e, fun a o e => by rw [upd_ne (ne_of_none e nF)]; exact st.le a o e, fun _ _ h => .inl h⟩
  have wipeE_idem : ∀ e : Ev, wipeE (wipeE e vs) vs = wipeE e vs := by
    have key : ∀ (ws : List Nat) (e : Ev) (i : Nat), (wipeE e ws)[i]? = if i ∈ ws then e[i]?.map (fun _ => none) else e[i]? := by
      intro ws
      induction ws with
      | nil => intro e i; simp [wipeE]
      | cons w ws ih =>
        intro e i
        unfold wipeE
        by_cases q : w = i
        · subst q
          rw [List.getElem?_set_self', ih]
          simp only [List.mem_cons_self, if_true]
          split <;> cases e[w]? <;> rfl
        · rw [List.getElem?_set_ne q, ih]
          have : i ∈ w :: ws ↔ i ∈ ws := by simp only [List.mem_cons]; exact ⟨fun h => h.elim (fun z => absurd z.symm q) id, .inr⟩
          simp only [this]
    intro e
    refine List.ext_getElem? fun i => ?_
    rw [key, key]
    split <;> cases e[i]? <;> rfl
  have unw : ∀ (e : Ev), e.length = env.length → unwipe env (wipeE e vs) vs = unwipe env e vs := by
    intro e hl
    have key : ∀ (ws : List Nat) (e : Ev) (i : Nat), e.length = env.length → (unwipe env e ws)[i]? = if i ∈ ws then env[i]? else e[i]? := by
      intro ws
      induction ws with
      | nil => intro e i _; simp [unwipe]
      | cons w ws ih =>
        intro e i hl
        unfold unwipe
        by_cases q : w = i
        · subst q
          rw [List.getElem?_set_self', ih _ _ hl]
          simp only [List.mem_cons_self, if_true]
          have hx : ∀ {x : Option (Option D)}, (x = none ↔ env.length ≤ w) → (x.map fun _ => env.getD w none) = env[w]? := by
            intro x hx
            rw [List.getD_eq_getElem?_getD]
            cases x with
            | none => rw [List.getElem?_eq_none (hx.mp rfl)]; rfl
            | some x =>
              by_cases hw : w < env.length
              · rw [List.getElem?_eq_getElem hw]; rfl
              · exact absurd (hx.mpr (by omega)) (by simp)
          split
          · exact hx List.getElem?_eq_none_iff
          · exact hx (by rw [List.getElem?_eq_none_iff, hl])
        · rw [List.getElem?_set_ne q, ih _ _ hl]
          have : i ∈ w :: ws ↔ i ∈ ws := by simp only [List.mem_cons]; exact ⟨fun h => h.elim (fun z => absurd z.symm q) id, .inr⟩
          simp only [this]
    have lw : ∀ ws, (wipeE e ws).length = e.length := by
      intro ws
      induction ws with
      | nil => rfl
      | cons w ws ih => unfold wipeE; rw [List.length_set, ih]
    have keyw : ∀ (ws : List Nat) (i : Nat), i ∉ ws → (wipeE e ws)[i]? = e[i]? := by
      intro ws
      induction ws with
      | nil => intro i _; rfl
      | cons w ws ih =>
        intro i hi
        simp only [List.mem_cons, not_or] at hi
        unfold wipeE
        rw [List.getElem?_set_ne (fun z => hi.1 z.symm), ih i hi.2]
    refine List.ext_getElem? fun i => ?_
    rw [key vs _ i (by rw [lw, hl]), key vs _ i hl]
    split
    · rfl
    · rename_i hi
      exact keyw vs i hi
  refine ⟨fun i n H' => n = xs.length - i ∧ i ≤ xs.length ∧ Z i H', ⟨_, rfl, Nat.zero_le _, F, A0, fun _ => False, wipeE env vs, [], [], ?_, w1.grow hg, upd_same, ⟨rfl, fun _ z => z⟩, fun _ z => z.elim, fun z => absurd nP (w1.there z), nF, ?_⟩, ?_⟩
  · exact ⟨hg.le, fun a o _ e => hg.pres a o e, fun a z => z.elim (fun z => .inl (w2 a z)) fun z => z.elim (fun z => .inr (z ▸ nP)) fun z => z.elim, fun a o e => .inl e, fun a e => none_of_same hg.pres a e⟩
  · rw [List.drop_zero]
    cases xs with
    | nil =>
      simp only [lcL, RE.bind_ok] at h ⊢
      rw [unw env rfl]
      exact h
    | cons x xs =>
      rw [cong _ (wipeE env vs) env [] (wipeE_idem env) (by simp)]
      exact h
  rintro i n H2 ⟨rfl, hi, F2, A2, B2, e2, ds, acc, s2, st2, hP, ow2, dj2, nA2, nF2, h2⟩
  by_cases hlt : i < xs.length
  · refine .inr ⟨fd.go i H2 (s2.le.trans st2.le) hlt, Z (i + 1), fun H' q => ⟨_, by omega, rfl, hlt, q⟩, fun x H' y => ?_⟩
    obtain ⟨F3, d, hd, gr, hx⟩ := fd.yld i H2 x H' F2 s2.le st2.le hlt y
    have hdr : xs.drop i = d :: xs.drop (i + 1) := by
      rw [List.drop_eq_getElem_cons hlt]
      congr 1
      exact (Option.some.inj ((List.getElem?_eq_getElem hlt).symm.trans hd))
    rw [hdr] at h2
    simp only [lcL] at h2
    have st3 := st2.grow gr
    obtain ⟨A3, st3', sub3⟩ := st3.wipe vs
    have wi : L2.wipe (L2.wipe σ vs) vs = L2.wipe σ vs := by
      refine List.ext_getElem? fun i => ?_
      by_cases q : i ∈ vs
      · rw [wipe_none q, wipe_none q, Option.map_map]; rfl
      · rw [wipe_get q]
    rw [wi] at st3'
    have hP3 : H' P = some (.lst acc) := gr.pres _ _ hP
    have nF3 : F3 P = none := by
      cases q : F3 P with
      | none => rfl
      | some o =>
        rcases gr.fnew P o q with e | e
        · rw [nF2] at e; cases e
        · rw [hP] at e; cases e
    -- what lies beside the state stays
    have side : ∀ {F4 H4 : Hp} {A4 A3' : AS}, (∀ a, A3' a → A2 a) → Step F3 H' A3' F4 H4 A4 → H4 P = some (.lst acc) ∧ F4 P = none ∧ ¬ A4 P ∧ OwnL (Own K F4 H4 o) ds acc B2 ∧ (∀ b, B2 b → ¬ A4 b ∧ F4 b = none) := fun {F4 H4 A4 A3'} sb s => by
      have b3 : ∀ b, B2 b → F3 b = none ∧ H' b ≠ none := fun b hb => by
        have hth := OwnL.thereL (H := H2) (R := Own K F2 H2 o) (fun d v A => Own.there o d v A) ds acc B2 ow2 b hb
        refine ⟨?_, fun e => ?_⟩
        · cases q : F3 b with
          | none => rfl
          | some u =>
            rcases gr.fnew b u q with e | e
            · rw [(dj2 b hb).2.1] at e; cases e
            · exact absurd e hth
        · exact hth (none_of_same gr.pres b e)
      refine ⟨s.pres P _ (fun z => nA2 (sb P z)) hP3, ?_, ?_, ?_, fun b hb => ⟨?_, ?_⟩⟩
      · cases q : F4 P with
        | none => rfl
        | some u =>
          rcases s.fnew P u q with e | e | e
          · rw [nF3] at e; cases e
          · exact absurd (sb P e) nA2
          · rw [hP3] at e; cases e
      · intro z
        rcases s.sub P z with e | e
        · exact nA2 (sb P e)
        · rw [hP3] at e; cases e
      · refine OwnL.impA ds acc B2 (fun d v B hB w => Own.loc (s.le) o d v B (fun a u z e => s.pres a u (fun y => (dj2 a (hB a z)).1 (sb a y)) e) w) (OwnL.impA ds acc B2 (fun d v B hB w => Own.loc gr.le o d v B (fun a u _ e => gr.pres a u e) w) ow2)
      · intro z
        rcases s.sub b z with e | e
        · exact (dj2 b hb).1 (sb b e)
        · exact (b3 b hb).2 e
      · cases q : F4 b with
        | none => rfl
        | some u =>
          rcases s.fnew b u q with e | e | e
          · rw [(b3 b hb).1] at e; cases e
          · exact absurd (sb b e) (dj2 b hb).1
          · exact absurd e (b3 b hb).2
    have up : ∀ {F4 H4 : Hp} {A4 A3' B4 : AS}, (∀ a, A3' a → A2 a) → Step F3 H' A3' F4 H4 (fun a => A4 a ∨ B4 a) → Step F H A F4 H4 (fun a => A4 a ∨ a = P ∨ (B2 a ∨ B4 a)) := fun {F4 H4 A4 A3' B4} sb s => by
      have s3 := s2.trans (gr.step (A := fun a => A2 a ∨ a = P ∨ B2 a))
      refine ⟨s3.le.trans s.le, fun a u nA e => ?_, fun a z => ?_, fun a u e => ?_, fun a e => s3.there a (s.there a e)⟩
      · have e3 := s3.pres a u nA e
        refine s.pres a u (fun z => ?_) e3
        rcases s2.sub a (.inl (sb a z)) with q | q
        · exact nA q
        · rw [q] at e; cases e
      · rcases z with z | z | z | z
        · rcases s.sub a (.inl z) with q | q
          · exact s2.sub a (.inl (sb a q))
          · exact .inr (s3.there a q)
        · exact s2.sub a (.inr (.inl z))
        · exact s2.sub a (.inr (.inr z))
        · rcases s.sub a (.inr z) with q | q
          · exact s2.sub a (.inl (sb a q))
          · exact .inr (s3.there a q)
      · rcases s.fnew a u e with q | q | q
        · exact s3.fnew a u q
        · rcases s2.sub a (.inl (sb a q)) with q | q
          · exact .inr (.inl q)
          · exact .inr (.inr q)
        · exact .inr (.inr (s3.there a q))
    cases e3 : p.put d (wipeE e2 vs) with
    | none => rw [e3] at h2; exact h2.elim
    | some e3' =>
      rw [e3] at h2
      refine ⟨G, F3, _, A3, d, e3', st3', hx, e3, fun σ' A' st' sub wp => ?_⟩
      have wq : L2.wipe σ' vs = L2.wipe σ vs := by rw [wp vs hp, wi]
      refine ⟨wq, ?_⟩
      have subA : ∀ a, A' a → A2 a := fun a z => sub3 a (sub a z)
      refine ⟨G, F3, e3', A', st', ?_⟩
      simp only at h2
      generalize mc e3' = rc at h2 ⊢
      cases rc with
      | ok dc e4 =>
        cases dc with
        | bl b =>
          intro F4 H4 A4 s4 st4
          cases b with
          | false =>
            simp only [Bool.false_eq_true, if_false]
            obtain ⟨k1, k2, k3, k4, k5⟩ := side subA s4
            obtain ⟨A5, st5, sub5⟩ := st4.wipe vs
            rw [wq] at st5
            have hb : ∀ b, B2 b → b ≠ P := fun b hb => (dj2 b hb).2.2
            refine ⟨F4, A5, B2, wipeE e4 vs, ds, acc, (up (B4 := fun _ => False) subA (s4.less fun a z => z.elim id fun z => z.elim)).less fun a z => z.elim (fun z => .inl (sub5 a z)) fun z => .inr (z.elim .inl fun z => .inr (.inl z)), st5, k1, k4, fun b hb' => ⟨fun z => (k5 b hb').1 (sub5 b z), (k5 b hb').2, hb b hb'⟩, fun z => k3 (sub5 P z), k2, ?_⟩
            simp only at h2
            have le4 : e4.length = env.length := by rw [st4.len.1, st.len.1]
            cases hdr' : xs.drop (i + 1) with
            | nil =>
              rw [hdr'] at h2
              simp only [lcL, RE.bind_ok] at h2 ⊢
              rw [unw e4 le4]; exact h2
            | cons x' xs' =>
              rw [hdr'] at h2
              rw [cong _ (wipeE e4 vs) e4 ds (wipeE_idem e4) (by simp)]
              exact h2
          | true =>
            simp only [if_true]
            simp only at h2
            refine ⟨G, F4, e4, A4, st4, ?_⟩
            generalize m e4 = rm at h2 ⊢
            cases rm with
            | ok y e5 =>
              simp only at h2
              split at h2
              · rename_i hz
                intro F5 H5 A5 B5 v s5 st5 own5 dj5
                have s45 : Step F3 H' A' F5 H5 (fun a => A5 a ∨ B5 a) := s4.trans s5
                obtain ⟨k1, k2, k3, k4, k5⟩ := side subA s45
                have nP5 : ¬ A5 P ∧ ¬ B5 P := ⟨fun z => k3 (.inl z), fun z => k3 (.inr z)⟩
                refine ⟨acc, k1, by rw [OwnL.lenL ow2, sizeLine_eq]; exact hz, ?_⟩
                obtain ⟨A6, st6, sub6⟩ := st5.wipe vs
                rw [wq] at st6
                have B25 : ∀ a, B2 a → ¬ B5 a := fun a z w => (k5 a z).1 (.inr w)
                have kp : ∀ a u, a ≠ P → H5 a = some u → upd H5 P (.lst (acc ++ [v])) a = some u := fun a u n e => by rw [upd_ne n]; exact e
                have own6 : OwnL (Own K F5 (upd H5 P (.lst (acc ++ [v]))) o) (ds ++ [y]) (acc ++ [v]) (fun a => B2 a ∨ B5 a) := by
                  refine OwnL.snoc (OwnL.impA ds acc B2 (fun d v B hB w => Own.loc (fun _ _ h => h) o d v B (fun a u z e => kp a u (dj2 a (hB a z)).2.2 e) w) k4) (Own.loc (fun _ _ h => h) o y v B5 (fun a u z e => kp a u (fun q => nP5.2 (q ▸ z)) e) own5) B25
                have lq : Same F5 (upd H5 P (.lst (acc ++ [v]))) := fun a u e => by
                  rw [upd_ne (ne_of_none e k2)]; exact st5.le a u e
                have gq : Same G (upd H5 P (.lst (acc ++ [v]))) := fun a u e => by
                  have : a ≠ P := fun z => by
                    subst z
                    have := st.gl a u e
                    rw [nP] at this; cases this
                  rw [upd_ne this]; exact st5.gl a u e
                refine ⟨F5, A6, fun a => B2 a ∨ B5 a, wipeE e5 vs, ds ++ [y], acc ++ [v], ?_, ⟨st6.sl.loc (fun _ _ h => h) fun a u z e => kp a u (fun q => nP5.1 (sub6 P (q ▸ z))) e, st6.dj, lq, gq, st6.gd⟩, upd_same, own6, fun b hb => ?_, fun z => nP5.1 (sub6 P z), k2, ?_⟩
                · have su := up (A4 := A5) (B4 := B5) subA s45
                  refine ⟨su.le, fun a u nA e => ?_, fun a z => ?_, su.fnew, fun a e => ?_⟩
                  · have q : a ≠ P := fun z => by subst z; rw [nP] at e; cases e
                    rw [upd_ne q]; exact su.pres a u nA e
                  · exact su.sub a (z.elim (fun z => .inl (sub6 a z)) .inr)
                  · by_cases q : a = P
                    · subst q; rw [upd_same] at e; cases e
                    · rw [upd_ne q] at e; exact su.there a e
                · rcases hb with hb | hb
                  · exact ⟨fun z => (k5 b hb).1 (.inl (sub6 b z)), (k5 b hb).2, (dj2 b hb).2.2⟩
                  · exact ⟨fun z => (dj5 b hb).1 (sub6 b z), (dj5 b hb).2, fun q => nP5.2 (q ▸ hb)⟩
                · have le5 : e5.length = env.length := by rw [st5.len.1, st.len.1]
                  cases hdr' : xs.drop (i + 1) with
                  | nil =>
                    rw [hdr'] at h2
                    simp only [lcL, RE.bind_ok] at h2 ⊢
                    rw [unw e5 le5]; exact h2
                  | cons x' xs' =>
                    rw [hdr'] at h2
                    rw [cong _ (wipeE e5 vs) e5 _ (wipeE_idem e5) (by simp)]
                    exact h2
              · exact h2.elim
            | exc c fs e5 => exact h2.elim
            | bad => exact h2.elim
        | _ => exact h2.elim
      | exc c fs e4 => exact h2.elim
      | bad => exact h2.elim
  · have e : i = xs.length := by omega
    subst e
    rw [List.drop_length] at h2
    simp only [lcL, RE.bind_ok] at h2
    refine .inl ⟨fd.stop _ H2 (s2.le.trans st2.le) rfl, ?_⟩
    obtain ⟨A3, τ', q1, q2, q3⟩ := Slots.unwipe (σ := σ) s2.le st.sl vs [] hvs st2.sl fun i hi _ => wipe_get hi
    have e : τ' = σ := List.ext_getElem? fun i => q3 i (by simp)
    subst e
    refine h2 F2 H2 A3 (fun a => a = P ∨ B2 a) (.ref P) (s2.less fun a z => z.elim (fun z => .inl (q2 a z)) .inr) ⟨q1, fun a z => st2.dj a (q2 a z), st2.le, st2.gl, fun a z => st2.gd a (q2 a z)⟩ ?_ fun b hb => ?_
    · simp only [Own]
      exact ⟨ds, P, acc, B2, rfl, rfl, hP, ow2, fun z => (dj2 P z).2.2 rfl, fun a => Iff.rfl⟩
    · rcases hb with rfl | hb
      · exact ⟨fun z => nA2 (q2 _ z), nF2⟩
      · exact ⟨fun z => (dj2 b hb).1 (q2 b z), (dj2 b hb).2.1⟩
theorem e_lc {elt tg iter : Expr} {ifs : List Expr} {scope : Scope} {own : List (Str × Nat)} {mi : MI} {p : Pat} {mc m : ME} (hc : X.calm = true) (hN : X.N.Nodup) (hi : PI X tg iter (tI X.K C Δ mi)) (ok : BlkOk X.N X.env.scope scope own)
    (hvs : ∀ v ∈ own.map (·.2), Δ[v]? = some (.ow .fz)) (hp : ∀ i ∈ p.ixs, i ∈ own.map (·.2))
    (hg : ∀ (s : Shared) (H : Hp) (C' : Addr) (cl : List (Str × Addr)) (fp : List Addr), PG (X.blk s H scope (compEnvC scope cl C' X.env) fp) tg (tG X.K Δ p)) (ht : ∀ (s : Shared) (H : Hp) (C' : Addr) (cl : List (Str × Addr)) (fp : List Addr), PTs (X.blk s H scope (compEnvC scope cl C' X.env) fp) ifs (tT X.K (C.blk Δ) Δ mc))
    (he : ∀ (s : Shared) (H : Hp) (C' : Addr) (cl : List (Str × Addr)) (fp : List Addr), PE (X.blk s H scope (compEnvC scope cl C' X.env) fp) elt (tE X.K (C.blk Δ) Δ m o)) (hs : ∀ x, foldedSetIterable iter X.env x = pure x := by intro _; rfl) :
    PE X (.ListComp elt [⟨tg, iter, ifs, 0⟩] scope pos) (tE X.K C Δ (mLc mi p mc m (own.map (·.2))) (.lst o)) := by
  refine PE.weak (pe_lc hc hN hi ok hg ht he hs) fun σ H Q ⟨G, F, env, A, st, h⟩ => ?_
  refine ⟨G, F, env, A, st, PostE.bindI h fun xs e1 F1 H1 A1 J st1 fd s1 h1 => ?_⟩
  exact lc_sound hvs hp st1 fd h1
end
section
variable {X : Cx} {C : SC} {Δ : Ty}
theorem t_yes : PTs X [] (tT X.K C Δ (mC (.bl true))) := by
  refine ⟨fun pins s σ H Q I ⟨G, F, env, A, st, h⟩ => pts_nil.run pins s σ H Q I (h F H A Step.refl st)⟩
theorem t_one {c : Expr} {mc : ME} (h : L2.PT X c (tT X.K C Δ mc)) : PTs X [c] (tT X.K C Δ mc) := pts_one h
end
end PT

set_option Elab.async false
set_option linter.all false
set_option maxRecDepth 100000
set_option maxHeartbeats 4000000
/-! PT: owned arguments, parallel assignment, assignment to a pattern -/
namespace PT
open PySem PySem.Spec PyProof.Rows L2

section
variable {K : PySem.W.Frag} {C : SC} {Δ Δ' : Ty} {G F H F' H' F1 H1 : Hp} {A A' A1 B : AS} {σ : L2.St}
/-- what stands beside the state stays -/
theorem Step.beside (s : Step F H A F' H' A') (h : ∀ b, B b → H b ≠ none ∧ ¬ A b ∧ F b = none) : (∀ a u, B a → H a = some u → H' a = some u) ∧ ∀ b, B b → ¬ A' b ∧ F' b = none :=
  ⟨fun a u z e => s.pres a u (h a z).2.1 e, fun b z => ⟨fun w => (s.sub b w).elim (h b z).2.1 (h b z).1, by
    cases q : F' b with
    | none => rfl
    | some u =>
      rcases s.fnew b u q with e | e | e
      · rw [(h b z).2.2] at e; cases e
      · exact absurd e (h b z).2.1
      · exact absurd e (h b z).1⟩⟩
theorem Step.frame (s : Step F H A F' H' A') (B : AS) : Step F H (fun a => A a ∨ B a) F' H' (fun a => A' a ∨ B a) where
  le := s.le
  pres := fun a o h e => s.pres a o (fun z => h (.inl z)) e
  sub := fun a z => z.elim (fun z => (s.sub a z).elim (fun z => .inl (.inl z)) .inr) fun z => .inl (.inr z)
  fnew := fun a o e => (s.fnew a o e).elim .inl fun z => .inr (z.elim (fun z => .inl (.inl z)) .inr)
  there := s.there
def PostO (K : PySem.W.Frag) (C : SC) (Δ : Ty) (G F H : Hp) (A : AS) (σ : L2.St) (os : List O) (Q : List V → Hp → Prop) (r : RA) : Prop := match r with
  | .ok ds e => ∀ F' H' A' B vs, Step F H A F' H' (fun a => A' a ∨ B a) → StOk K G Δ F' H' e σ A' → OwnH K F' H' os ds vs B → (∀ b, B b → ¬ A' b ∧ F' b = none) → Q vs H'
  | .exc c fs e => PostX K C G F H A c fs e
  | .bad => False
def tO (K : PySem.W.Frag) (C : SC) (Δ : Ty) (os : List O) (m : MA) : TA := fun σ H Q => ∃ G F env A, StOk K G Δ F H env σ A ∧ PostO K C Δ G F H A σ os Q (m env)
end
section
variable {X : Cx} {C : SC} {Δ : Ty} {pos : Pos}
theorem o_nil : PA X [] (tO X.K C Δ [] aNil) := PA.weak pa_nil fun σ H Q ⟨G, F, env, A, st, h⟩ => h F H A (fun _ => False) [] (Step.refl.less fun a z => z.elim id fun z => z.elim) st (by simp [OwnH]) fun _ z => z.elim
theorem o_cons {e : Expr} {es : List Expr} {m : ME} {r : MA} {o : O} {os : List O} (ha : PE X e (tE X.K C Δ m o)) (hr : PA X es (tO X.K C Δ os r)) (hs : starEach (e :: es) X.env = (false, eval e X.env) :: starEach es X.env := by rfl) : PA X (e :: es) (tO X.K C Δ (o :: os) (aCons m r)) := by
  refine PA.weak (pa_cons ha hr hs) fun σ H Q ⟨G, F, env, A, st, h⟩ => ⟨G, F, env, A, st, ?_⟩
  unfold aCons at h
  generalize m env = r1 at h
  cases r1 with
  | ok d e1 =>
    simp only [RE.bindA_ok] at h
    intro F1 H1 A1 B1 v s1 st1 own1 dj1
    refine ⟨G, F1, e1, A1, st1, ?_⟩
    generalize r e1 = r2 at h
    cases r2 with
    | ok ds e2 =>
      simp only [RA.bindA_ok] at h
      intro F2 H2 A2 B2 vs s2 st2 own2 dj2
      obtain ⟨k1, k2⟩ := s2.beside (B := B1) fun b z => ⟨Own.there o d v B1 own1 b z, (dj1 b z).1, (dj1 b z).2⟩
      refine h F2 H2 A2 (fun a => B1 a ∨ B2 a) (v :: vs) ((s1.trans (s2.frame B1)).less fun a z => z.elim (fun z => .inl (.inl z)) fun z => z.elim .inr fun z => .inl (.inr z)) st2 ?_ fun b z => z.elim (fun z => ⟨fun w => (k2 b z).1 (.inl w), (k2 b z).2⟩) (dj2 b)
      simp only [OwnH]
      exact ⟨d, ds, v, vs, B1, B2, rfl, rfl, Own.loc s2.le o d v B1 k1 own1, own2, fun a z w => (k2 a z).1 (.inr w), fun a => Iff.rfl⟩
    | exc c fs e2 =>
      simp only [RA.bindA_exc] at h
      exact PostX.base (s1.less fun a z => .inl z) h
    | bad => exact h
  | exc c fs e1 => exact h
  | bad => exact h
end
/-! ### many slots at once -/
def setE (e : Ev) : List Nat → List D → Ev
  | i :: is, d :: ds => setE (e.set i (some d)) is ds
  | _, _ => e
def setV (σ : L2.St) : List Nat → List V → L2.St
  | i :: is, d :: ds => setV (σ.set i (some d)) is ds
  | _, _ => σ
def Tys (Δ : Ty) : List Nat → List O → Prop
  | i :: is, o :: os => Δ[i]? = some (.ow o) ∧ Tys Δ is os
  | [], [] => True
  | _, _ => False
section
variable {K : PySem.W.Frag} {C : SC} {Δ Δ' : Ty} {G F H F' H' F1 H1 : Hp} {σ : L2.St}
theorem StOk.storeH : ∀ {is : List Nat} {os : List O} {ds : List D} {vs : List V} {env : Ev} {σ : L2.St} {A B : AS}, Tys Δ is os → StOk K G Δ F H env σ A → OwnH K F H os ds vs B → (∀ b, B b → ¬ A b ∧ F b = none) → (∀ b, B b → G b = none) →
    ∃ A', StOk K G Δ F H (setE env is ds) (setV σ is vs) A' ∧ ∀ a, A' a → A a ∨ B a
  | [], [], ds, vs, env, σ, A, B, t, st, own, dj, hg => by
    simp only [OwnH] at own
    obtain ⟨rfl, rfl, _⟩ := own
    exact ⟨A, st, fun a z => .inl z⟩
  | i :: is, o :: os, ds, vs, env, σ, A, B, t, st, own, dj, hg => by
    simp only [OwnH] at own
    obtain ⟨d, ds', y, ys, B1, B2, rfl, rfl, h1, h2, h3, h4⟩ := own
    obtain ⟨A1, q1, q2⟩ := st.store t.1 h1 (fun b z => dj b ((h4 b).mpr (.inl z))) fun b z => hg b ((h4 b).mpr (.inl z))
    obtain ⟨A2, q3, q4⟩ := StOk.storeH t.2 q1 h2 (fun b z => ⟨fun w => (q2 b w).elim (dj b ((h4 b).mpr (.inr z))).1 fun w => h3 b w z, (dj b ((h4 b).mpr (.inr z))).2⟩) fun b z => hg b ((h4 b).mpr (.inr z))
    exact ⟨A2, q3, fun a z => (q4 a z).elim (fun z => (q2 a z).elim .inl fun z => .inr ((h4 a).mpr (.inl z))) fun z => .inr ((h4 a).mpr (.inr z))⟩
  | [], o :: os, _, _, _, _, _, _, t, _, _, _, _ => t.elim
  | i :: is, [], _, _, _, _, _, _, t, _, _, _, _ => t.elim
end
def sPar (is : List Nat) (m : MA) : MS := fun e => (m e).bindS fun ds e1 => .nx (setE e1 is ds)
theorem OwnH.lenH {K : PySem.W.Frag} {F H : Hp} : ∀ {os : List O} {ds : List D} {vs : List V} {B : AS}, OwnH K F H os ds vs B → vs.length = os.length ∧ ds.length = os.length
  | [], ds, vs, B, h => by simp only [OwnH] at h; obtain ⟨rfl, rfl, _⟩ := h; exact ⟨rfl, rfl⟩
  | o :: os, ds, vs, B, h => by
    simp only [OwnH] at h
    obtain ⟨d, ds', y, ys, B1, B2, rfl, rfl, h1, h2, h3, h4⟩ := h
    obtain ⟨a, b⟩ := OwnH.lenH h2
    exact ⟨by simp [a], by simp [b]⟩
/-- what is new is not lent -/
theorem Step.gnone {K : PySem.W.Frag} {G F H F' H' : Hp} {Δ : Ty} {env : Ev} {σ : L2.St} {A A' B : AS} (st : StOk K G Δ F H env σ A) (s : Step F H A F' H' (fun a => A' a ∨ B a)) : ∀ b, B b → G b = none := fun b z => by
  cases q : G b with
  | none => rfl
  | some u =>
    rcases s.sub b (.inr z) with w | w
    · rw [st.gd b w] at q; cases q
    · rw [st.gl b u q] at w; cases w
section
variable {X : Cx} {C : SC} {Δ : Ty} {pos : Pos}
theorem s_par2 {i j : Nat} {x y : Str} {a b : Expr} {o1 o2 : O} {m : MA} {px py pt : Pos} {kt k2 pt2} (hc : X.calm = true) (hN : X.N.Nodup) (hi : X.N[i]? = some x) (hj : X.N[j]? = some y) (hij : i ≠ j)
    (hx : X.env.scope.names.lookup x = some .local) (hy : X.env.scope.names.lookup y = some .local) (t1 : Δ[i]? = some (.ow o1)) (t2 : Δ[j]? = some (.ow o2)) (ha : PA X [a, b] (tO X.K C Δ [o1, o2] m))
    (hw : swappedStores [.Tuple [.Name x px, .Name y py] kt pt] (.Tuple [a, b] k2 pt2) X.env = pure (some [x, y]))
    (hs : swapsWithSole [.Tuple [.Name x px, .Name y py] kt pt] (.Tuple [a, b] k2 pt2) pos.line X.env = pure false := by rfl) :
    PS X (.Assign [.Tuple [.Name x px, .Name y py] kt pt] (.Tuple [a, b] k2 pt2) pos) (tS X.K C Δ (sPar [i, j] m) Δ) := by
  refine PS.weak (ps_par hc hN hi hj hij hx hy ha hw hs) fun D σ H ⟨G, F, env, A, st, h⟩ => ⟨G, F, env, A, st, ?_⟩
  unfold sPar at h
  generalize m env = r at h
  cases r with
  | ok ds e1 =>
    simp only [RA.bindS_ok] at h
    intro F' H' A' B vs s st1 own dj
    obtain ⟨A2, q1, q2⟩ := StOk.storeH (Δ := Δ) (is := [i, j]) (os := [o1, o2]) ⟨t1, t2, trivial⟩ st1 own dj (s.gnone st)
    have l := (OwnH.lenH own).1
    match vs, l with
    | [v, w], _ => exact ⟨v, w, rfl, h F' H' A2 _ (s.less q2) q1⟩
  | exc c fs e1 => exact h
  | bad => exact h
theorem s_par3 {i j l : Nat} {x y z : Str} {a b c : Expr} {o1 o2 o3 : O} {m : MA} {px py pz pt : Pos} {kt k2 pt2} (hc : X.calm = true) (hN : X.N.Nodup) (hi : X.N[i]? = some x) (hj : X.N[j]? = some y) (hl : X.N[l]? = some z) (hij : i ≠ j) (hil : i ≠ l) (hjl : j ≠ l)
    (hx : X.env.scope.names.lookup x = some .local) (hy : X.env.scope.names.lookup y = some .local) (hz : X.env.scope.names.lookup z = some .local) (t1 : Δ[i]? = some (.ow o1)) (t2 : Δ[j]? = some (.ow o2)) (t3 : Δ[l]? = some (.ow o3)) (ha : PA X [a, b, c] (tO X.K C Δ [o1, o2, o3] m))
    (hw : swappedStores [.Tuple [.Name x px, .Name y py, .Name z pz] kt pt] (.Tuple [a, b, c] k2 pt2) X.env = pure (some [x, y, z]))
    (hs : swapsWithSole [.Tuple [.Name x px, .Name y py, .Name z pz] kt pt] (.Tuple [a, b, c] k2 pt2) pos.line X.env = pure false := by rfl) :
    PS X (.Assign [.Tuple [.Name x px, .Name y py, .Name z pz] kt pt] (.Tuple [a, b, c] k2 pt2) pos) (tS X.K C Δ (sPar [i, j, l] m) Δ) := by
  refine PS.weak (ps_par3 hc hN hi hj hl hij hil hjl hx hy hz ha hw hs) fun D σ H ⟨G, F, env, A, st, h⟩ => ⟨G, F, env, A, st, ?_⟩
  unfold sPar at h
  generalize m env = r at h
  cases r with
  | ok ds e1 =>
    simp only [RA.bindS_ok] at h
    intro F' H' A' B vs s st1 own dj
    obtain ⟨A2, q1, q2⟩ := StOk.storeH (Δ := Δ) (is := [i, j, l]) (os := [o1, o2, o3]) ⟨t1, t2, t3, trivial⟩ st1 own dj (s.gnone st)
    have l := (OwnH.lenH own).1
    match vs, l with
    | [v, w, u], _ => exact ⟨v, w, u, rfl, h F' H' A2 _ (s.less q2) q1⟩
  | exc c fs e1 => exact h
  | bad => exact h
/-- the targets are names -/
def gAll : List Nat → TGs
  | [] => gNil
  | i :: is => gCons (gName i) (gAll is)
theorem gAll_run : ∀ {is : List Nat} {vs : List V} {σ : L2.St} {H : Hp} {Q : L2.St → Hp → Prop}, vs.length = is.length → Q (setV σ is vs) H → gAll is vs σ H Q
  | [], [], σ, H, Q, _, h => ⟨rfl, h⟩
  | i :: is, v :: vs, σ, H, Q, l, h => ⟨v, vs, rfl, gAll_run (is := is) (vs := vs) (by simpa using l) h⟩
  | [], v :: vs, σ, H, Q, l, h => by simp at l
  | i :: is, [], σ, H, Q, l, h => by simp at l
theorem ga_nil : PGs X [] (gAll []) := pgs_nil
theorem ga_cons {i : Nat} {x : Str} {es : List Expr} {is : List Nat} {p : Pos} (hN : X.N.Nodup) (hi : X.N[i]? = some x) (hx : Loc X.env.scope x) (h2 : PGs X es (gAll is)) (hs : (assignEach (.Name x p :: es) X.env).map (·.2) = assign (.Name x p) X.env :: (assignEach es X.env).map (·.2) := by rfl)
    (hf : X.fn x = true ∨ X.env.scope.names.lookup x = some .local := by first | exact .inl rfl | exact .inr rfl | assumption) : PGs X (.Name x p :: es) (gAll (i :: is)) := pgs_cons (pg_name hN hi hx hf) h2 hs
/-- a, b, .. = x, y, .. by a tuple -/
theorem s_parT {ts es : List Expr} {is : List Nat} {os : List O} {m : MA} {kt k2 : Nat} {pt pt2 : Pos} (hc : X.calm = true) (t : Tys Δ is os) (n : os.length ≤ 1000) (hg : PGs X ts (gAll is)) (ha : PA X es (tO X.K C Δ os m))
    (hn : (assignEach ts X.env).length = os.length := by rfl) (hst : (assignEach ts X.env).findIdx? (·.1) = none := by rfl)
    (hs : swapsWithSole [.Tuple ts kt pt] (.Tuple es k2 pt2) pos.line X.env = pure false := by rfl) (hw : swappedStores [.Tuple ts kt pt] (.Tuple es k2 pt2) X.env = pure none := by rfl)
    (h1 : (assignEach [.Tuple ts kt pt] X.env).map (·.2) = [assign (.Tuple ts kt pt) X.env] := by rfl) :
    PS X (.Assign [.Tuple ts kt pt] (.Tuple es k2 pt2) pos) (tS X.K C Δ (sPar is m) Δ) := by
  refine PS.weak (ps_asg (pe_tup ha) (pg_tup hc hg hn hst) hs hw h1) fun D σ H ⟨G, F, env, A, st, h⟩ => ⟨G, F, env, A, st, ?_⟩
  unfold sPar at h
  generalize m env = r at h
  have lt : ∀ {is : List Nat} {os : List O}, Tys Δ is os → is.length = os.length := by
    intro is
    induction is with
    | nil => intro os t; cases os with
      | nil => rfl
      | cons o os => exact t.elim
    | cons i is ih => intro os t; cases os with
      | nil => exact t.elim
      | cons o os => simp [ih t.2]
  cases r with
  | ok ds e1 =>
    simp only [RA.bindS_ok] at h
    intro F' H' A' B vs s st1 own dj
    have l := (OwnH.lenH own).1
    refine ⟨by rw [l, sizeLine_eq]; exact Nat.le_trans n (by decide), fun p np => ⟨p, vs, rfl, SqT.of upd_same, l, ?_⟩⟩
    have g : Grow F' H' F' (upd H' p (.tup vs)) := ⟨fun _ _ h => h, fun a o e => by rw [upd_ne (ne_of_none e np)]; exact e, fun a o e => by
      rw [upd_ne (ne_of_none e (none_of_same st1.le p np))]; exact st1.le a o e, fun _ _ h => .inl h⟩
    have own' : OwnH X.K F' (upd H' p (.tup vs)) os ds vs B := OwnH.loc (fun _ _ h => h) os ds vs B (fun a u z e => g.pres a u e) own
    obtain ⟨A2, q1, q2⟩ := StOk.storeH t (st1.grow g) own' dj (s.gnone st)
    exact gAll_run (by rw [l, lt t]) (h F' _ A2 _ ((s.trans (g.step (A := fun a => A' a ∨ B a))).less q2) q1)
  | exc c fs e1 => exact h
  | bad => exact h
/-- pattern = value -/
def sAsg (p : Pat) (m : ME) : MS := fun e => (m e).bindS fun d e1 => match p.put d e1 with
  | some e2 => .nx e2
  | none => .bad
theorem s_asg {tg e : Expr} {p : Pat} {m : ME} (he : PE X e (tE X.K C Δ m .fz)) (hg : PG X tg (tG X.K Δ p)) (hs : swapsWithSole [tg] e pos.line X.env = pure false := by rfl) (hw : swappedStores [tg] e X.env = pure none := by rfl)
    (h1 : (assignEach [tg] X.env).map (·.2) = [assign tg X.env] := by rfl) : PS X (.Assign [tg] e pos) (tS X.K C Δ (sAsg p m) Δ) := by
  refine PS.weak (ps_asg he hg hs hw h1) fun D σ H ⟨G, F, env, A, st, h⟩ => ⟨G, F, env, A, st, PostS.bindD h fun d e1 F1 H1 A1 v st1 i1 s1 h1 => ?_⟩
  cases q : p.put d e1 with
  | none => rw [q] at h1; exact h1.elim
  | some e2 =>
    rw [q] at h1
    exact ⟨G, F1, e1, A1, d, e2, st1, i1, q, fun σ' A' st' sub _ => h1 F1 H1 A' σ' (Step.refl.less sub) st'⟩
/-- name op= value -/
def sAug (i : Nat) (f : D → D → Option D) (m : ME) : MS := fun e => match e[i]? with
  | some (some x) => (m e).bindS fun y e1 => (match f x y with
    | some z => .nx (e1.set i (some z))
    | none => .bad)
  | _ => .bad
theorem s_aug {i : Nat} {x : Str} {e : Expr} {m : ME} {op : Operator} {ti : TIp} {f : D → D → Option D} {pos' : Pos} (t : Δ[i]? = some (.ow .fz)) (hN : X.N.Nodup) (hi : X.N[i]? = some x) (hx : Loc X.env.scope x) (he : PE X e (tE X.K C Δ m .fz)) (ho : PIp X op ti) (hr : Rel2 X.K ti f)
    (hf : X.fn x = true ∨ X.env.scope.names.lookup x = some .local := by first | exact .inl rfl | exact .inr rfl | assumption) : PS X (.AugAssign (.Name x pos') op e pos) (tS X.K C Δ (sAug i f m) Δ) := by
  refine PS.weak (ps_aug hN hi hx he ho hf) fun D σ H ⟨G, F, env, A, st, h⟩ => ?_
  unfold sAug at h
  split at h
  · rename_i x0 e0
    obtain ⟨w, k1, k2⟩ := st.data e0 t
    refine ⟨w, k1, G, F, env, A, st, PostS.bindD h fun d e1 F1 H1 A1 v st1 i1 s1 h1 => ?_⟩
    cases q : f x0 d with
    | none => rw [q] at h1; exact h1.elim
    | some z =>
      rw [q] at h1
      refine hr F1 H1 w v x0 d z _ st1.le (Is.mono s1.le _ _ k2) i1 q fun F' H' v' g i' => ?_
      obtain ⟨A2, q1, q2⟩ := (st1.grow g).storeD t i'
      exact h1 F' H' A2 _ (g.step.less q2) q1
  · exact h.elim
end
end PT

set_option Elab.async false
set_option linter.all false
set_option maxRecDepth 100000
set_option maxHeartbeats 4000000
/-! PT: operators -/
namespace PT
open PySem PySem.Spec PyProof.Rows L2

theorem Rel2.or {K : PySem.W.Frag} {r r' : R2} {f f' : D → D → Option D} (h : Rel2 K r f) (h' : Rel2 K r' f') : Rel2 K (fun x y H Q => r x y H Q ∨ r' x y H Q) (fun a b => match f a b with | some z => some z | none => f' a b) := by
  intro F H x y dx dy dz Q le i1 i2 e q
  cases e1 : f dx dy with
  | some z =>
    simp only [e1, Option.some.injEq] at e
    subst e
    exact .inl (h F H x y dx dy z Q le i1 i2 e1 q)
  | none =>
    simp only [e1] at e
    exact .inr (h' F H x y dx dy dz Q le i1 i2 e q)
theorem Rel2.sub {K : PySem.W.Frag} {r : R2} {f f' : D → D → Option D} (h : Rel2 K r f) (s : ∀ a b z, f' a b = some z → f a b = some z) : Rel2 K r f' := fun F H x y dx dy dz Q le i1 i2 e q => h F H x y dx dy dz Q le i1 i2 (s _ _ _ e) q

/-! ### two ints -/
def i2 (C : Int → Int → Prop) [∀ i j, Decidable (C i j)] (g : Int → Int → D) : D → D → Option D
  | .int i, .int j => if C i j then some (g i j) else none
  | _, _ => none
def i2' (g : Int → Int → D) : D → D → Option D
  | .int i, .int j => some (g i j)
  | _, _ => none
@[simp] theorem i2'_int (g : Int → Int → D) (i j : Int) : i2' g (.int i) (.int j) = some (g i j) := rfl
section
variable {K : PySem.W.Frag}
theorem i2_some {C : Int → Int → Prop} [∀ i j, Decidable (C i j)] {g : Int → Int → D} {a b z : D} (h : i2 C g a b = some z) : ∃ i j, a = .int i ∧ b = .int j ∧ C i j ∧ z = g i j := by
  unfold i2 at h
  split at h
  · rename_i i j
    split at h
    · rename_i c; exact ⟨i, j, rfl, rfl, c, (Option.some.inj h).symm⟩
    · cases h
  · cases h
theorem i2'_some {g : Int → Int → D} {a b z : D} (h : i2' g a b = some z) : ∃ i j, a = .int i ∧ b = .int j ∧ z = g i j := by
  unfold i2' at h
  split at h
  · rename_i i j; exact ⟨i, j, rfl, rfl, (Option.some.inj h).symm⟩
  · cases h
theorem rel_i2 {C C' : Int → Int → Prop} [∀ i j, Decidable (C i j)] {g : Int → Int → D} {gv : Int → Int → V} (hc : ∀ i j, C i j → C' i j) (hg : ∀ F i j, Is K F (g i j) (gv i j)) : Rel2 K (rI C' gv) (i2 C g) := by
  intro F H x y dx dy dz Q le h1 h2 e q
  obtain ⟨i, j, rfl, rfl, c, rfl⟩ := i2_some e
  simp only [Is] at h1 h2
  exact ⟨i, j, h1, h2, hc i j c, q F H _ (Grow.refl le) (hg F i j)⟩
theorem rel_i2' {g : Int → Int → D} {gv : Int → Int → V} (hg : ∀ F i j, Is K F (g i j) (gv i j)) : Rel2 K (rI0 gv) (i2' g) := by
  intro F H x y dx dy dz Q le h1 h2 e q
  obtain ⟨i, j, rfl, rfl, rfl⟩ := i2'_some e
  simp only [Is] at h1 h2
  exact ⟨i, j, h1, h2, q F H _ (Grow.refl le) (hg F i j)⟩
def subD : D → D → Option D := i2' fun i j => .int (i - j)
def ltD : D → D → Option D := i2' fun i j => .bl (decide (i < j))
def leD : D → D → Option D := i2' fun i j => .bl (decide (i ≤ j))
def gtD : D → D → Option D := i2' fun i j => .bl (decide (j < i))
def geD : D → D → Option D := i2' fun i j => .bl (decide (j ≤ i))
@[simp] theorem subD_int (i j : Int) : subD (.int i) (.int j) = some (.int (i - j)) := rfl
@[simp] theorem ltD_int (i j : Int) : ltD (.int i) (.int j) = some (.bl (decide (i < j))) := rfl
@[simp] theorem leD_int (i j : Int) : leD (.int i) (.int j) = some (.bl (decide (i ≤ j))) := rfl
@[simp] theorem gtD_int (i j : Int) : gtD (.int i) (.int j) = some (.bl (decide (j < i))) := rfl
@[simp] theorem geD_int (i j : Int) : geD (.int i) (.int j) = some (.bl (decide (j ≤ i))) := rfl
theorem rel_sub : Rel2 K (rI0 fun i j => .int (i - j)) subD := rel_i2' fun F i j => by simp only [Is]
theorem rel_lt : Rel2 K (rI0 fun i j => .bl (decide (i < j))) ltD := rel_i2' fun F i j => by simp only [Is]
theorem rel_le : Rel2 K (rI0 fun i j => .bl (decide (i ≤ j))) leD := rel_i2' fun F i j => by simp only [Is]
theorem rel_gt : Rel2 K (rI0 fun i j => .bl (decide (j < i))) gtD := rel_i2' fun F i j => by simp only [Is]
theorem rel_ge : Rel2 K (rI0 fun i j => .bl (decide (j ≤ i))) geD := rel_i2' fun F i j => by simp only [Is]
/-- a divisor that CPython divides by without help -/
def DivOk (_ j : Int) : Prop := 0 < j ∧ j.natAbs.log2 < 9000
instance : ∀ i j, Decidable (DivOk i j) := fun i j => inferInstanceAs (Decidable (0 < j ∧ j.natAbs.log2 < 9000))
def divD : D → D → Option D := i2 DivOk fun i j => .int (i / j)
theorem rel_div : Rel2 K (rI CDivW fun i j => .int (i / j)) divD := rel_i2 (fun i j h => h) fun F i j => by simp only [Is]
def modD : D → D → Option D := i2 (fun _ j => 0 < j) fun i j => .int (i % j)
theorem rel_mod : Rel2 K (rI (fun _ j => 0 < j) fun i j => .int (i % j)) modD := rel_i2 (fun i j h => h) fun F i j => by simp only [Is]
def PowOk (i j : Int) : Prop := 0 ≤ j ∧ j ≤ 1000000 ∧ i.natAbs < 2 ^ 64
instance : ∀ i j, Decidable (PowOk i j) := fun i j => inferInstanceAs (Decidable (0 ≤ j ∧ j ≤ 1000000 ∧ i.natAbs < 2 ^ 64))
def powD : D → D → Option D := i2 PowOk fun i j => .int (i ^ j.toNat)
theorem rel_pow : Rel2 K (rI CPow fun i j => .int (i ^ j.toNat)) powD := rel_i2 (fun i j h => h) fun F i j => by simp only [Is]
theorem divD_int {i j : Int} (h : 0 < j) (h2 : j.natAbs.log2 < 9000) : divD (.int i) (.int j) = some (.int (i / j)) := if_pos (show DivOk i j from ⟨h, h2⟩)
theorem divD_small {i j : Int} (h : 0 < j) (h2 : j < 2 ^ 64) : divD (.int i) (.int j) = some (.int (i / j)) := divD_int h (by
  have : j.natAbs < 2 ^ 64 := by omega
  have z := PySem.Flt.log2_lt_of (show 0 < 64 by decide) this
  omega)
theorem modD_int {i j : Int} (h : 0 < j) : modD (.int i) (.int j) = some (.int (i % j)) := if_pos h
theorem powD_int {i j : Int} (h : 0 ≤ j) (h1 : j ≤ 1000000) (h2 : i.natAbs < 2 ^ 64) : powD (.int i) (.int j) = some (.int (i ^ j.toNat)) := if_pos (show PowOk i j from ⟨h, h1, h2⟩)
/-! ### + -/
def addD : D → D → Option D
  | .int i, .int j => some (.int (i + j))
  | .str a, .str b => if a.length + b.length ≤ 16777216 then some (.str (a ++ b)) else none
  | .tup a, .tup b => if a.length + b.length ≤ 16777216 then some (.tup (a ++ b)) else none
  | .lst a, .lst b => if a.length + b.length ≤ 16777216 then some (.lst (a ++ b)) else none
  | _, _ => none
@[simp] theorem addD_int (i j : Int) : addD (.int i) (.int j) = some (.int (i + j)) := rfl
def rAddD (K : PySem.W.Frag) : R2 := fun x y H Q => rI0 (fun i j => .int (i + j)) x y H Q ∨ (fun x y H Q => ∃ i j, x = .str i ∧ y = .str j ∧ i.length + j.length ≤ sizeLine ∧ Q (.str (i ++ j)) H) x y H Q ∨ rCatA K x y H Q ∨ rCat x y H Q
theorem op_addD {X : Cx} : OpR X (binaryOp .Add) (rAddD X.K) := op_add.or (op_add_str.or (op_catA.or op_cat))
theorem IsL.app {F : Hp} : ∀ {ds es : List D} {xs ys : List V}, IsL K F ds xs → IsL K F es ys → IsL K F (ds ++ es) (xs ++ ys)
  | [], es, xs, ys, h, h' => by simp only [IsL] at h; subst h; exact h'
  | d :: ds, es, xs, ys, h, h' => by
    simp only [IsL] at h
    obtain ⟨y, zs, rfl, h1, h2⟩ := h
    simp only [List.cons_append, IsL]
    exact ⟨y, _, rfl, h1, IsL.app h2 h'⟩
theorem rel_add : Rel2 K (rAddD K) addD := by
  intro F H x y dx dy dz Q le h1 h2 e q
  unfold addD at e
  split at e
  · cases e
    simp only [Is] at h1 h2
    exact .inl ⟨_, _, h1, h2, q F H _ (Grow.refl le) (by simp only [Is])⟩
  · split at e
    · rename_i hz
      cases e
      simp only [Is] at h1 h2
      exact .inr (.inl ⟨_, _, h1, h2, by rw [sizeLine_eq]; exact hz, q F H _ (Grow.refl le) (by simp only [Is])⟩)
    · cases e
  · split at e
    · rename_i hz
      cases e
      simp only [Is] at h1 h2
      obtain ⟨p, xs, rfl, p1, p2⟩ := h1
      obtain ⟨p', ys, rfl, p3, p4⟩ := h2
      refine .inr (.inr (.inl ⟨p, p', xs, ys, rfl, rfl, sqT_mono le p1, sqT_mono le p3, by rw [sizeLine_eq, IsL.len p2, IsL.len p4]; exact hz, fun e0 => ?_, fun e0 e1 => ?_, fun e0 e1 u nu => ?_⟩))
      · refine q F H _ (Grow.refl le) ?_
        subst e0
        have l := IsL.len p2
        have l0 := List.length_eq_zero_iff.mp l.symm
        rw [l0, List.nil_append]
        simp only [Is]
        exact ⟨p', ys, rfl, p3, p4⟩
      · refine q F H _ (Grow.refl le) ?_
        subst e1
        have l := IsL.len p4
        have l0 := List.length_eq_zero_iff.mp l.symm
        rw [l0, List.append_nil]
        simp only [Is]
        exact ⟨p, xs, rfl, p1, p2⟩
      · refine q _ _ _ (Grow.new le nu) ?_
        simp only [Is]
        exact ⟨u, _, rfl, SqT.of upd_same, IsL.mono (Grow.new le nu).le _ _ (IsL.app p2 p4)⟩
    · cases e
  · split at e
    · rename_i hz
      cases e
      simp only [Is] at h1 h2
      obtain ⟨p, xs, rfl, p1, p2⟩ := h1
      obtain ⟨p', ys, rfl, p3, p4⟩ := h2
      refine .inr (.inr (.inr ⟨p, p', xs, ys, rfl, rfl, le _ _ p1, le _ _ p3, by rw [sizeLine_eq, IsL.len p2, IsL.len p4]; exact hz, fun u nu => ?_⟩))
      refine q _ _ _ (Grow.new le nu) ?_
      simp only [Is]
      exact ⟨u, _, rfl, upd_same, IsL.mono (Grow.new le nu).le _ _ (IsL.app p2 p4)⟩
    · cases e
  · cases e
/-! ### * -/
open Classical in
noncomputable def mulD : D → D → Option D
  | .int i, .int j => if IntMulOk i j then some (.int (i * j)) else none
  | .lst a, .int k => if -(2 ^ 63) ≤ k ∧ k < 2 ^ 63 ∧ a.length * k.toNat ≤ 16777216 then some (.lst (List.replicate k.toNat a).flatten) else none
  | _, _ => none
def rMulD : R2 := fun x y H Q => rI (fun i j => IntMulOk i j) (fun i j => .int (i * j)) x y H Q ∨ rRep x y H Q
theorem op_mulD {X : Cx} : OpR X (binaryOp .Mult) rMulD := (opI fun _ _ _ _ _ _ _ hc q => mul_int q hc).or op_rep
theorem IsL.rep {F : Hp} {ds : List D} {xs : List V} (h : IsL K F ds xs) : ∀ n : Nat, IsL K F (List.replicate n ds).flatten (List.replicate n xs).flatten
  | 0 => by simp [IsL]
  | n + 1 => by
    rw [List.replicate_succ, List.replicate_succ, List.flatten_cons, List.flatten_cons]
    exact IsL.app h (IsL.rep h n)
theorem rel_mul : Rel2 K rMulD mulD := by
  intro F H x y dx dy dz Q le h1 h2 e q
  unfold mulD at e
  split at e
  · split at e
    · rename_i hz
      cases e
      simp only [Is] at h1 h2
      exact .inl ⟨_, _, h1, h2, hz, q F H _ (Grow.refl le) (by simp only [Is])⟩
    · cases e
  · split at e
    · rename_i hz
      cases e
      simp only [Is] at h1 h2
      obtain ⟨p, xs, rfl, p1, p2⟩ := h1
      subst h2
      refine .inr ⟨p, _, xs, rfl, rfl, le _ _ p1, hz.1, hz.2.1, by rw [sizeLine_eq, IsL.len p2]; exact hz.2.2, fun u nu => ?_⟩
      refine q _ _ _ (Grow.new le nu) ?_
      simp only [Is]
      exact ⟨u, _, rfl, upd_same, IsL.mono (Grow.new le nu).le _ _ (p2.rep _)⟩
    · cases e
  · cases e
theorem mulD_ok {i j : Int} (h : IntMulOk i j) : mulD (.int i) (.int j) = some (.int (i * j)) := if_pos h
theorem mulD_l {i j : Int} (h1 : -(2 ^ 64) < i) (h2 : i < 2 ^ 64) : mulD (.int i) (.int j) = some (.int (i * j)) := mulD_ok (CMul.ok (.inl ⟨h1, h2⟩))
theorem mulD_r {i j : Int} (h1 : -(2 ^ 64) < j) (h2 : j < 2 ^ 64) : mulD (.int i) (.int j) = some (.int (i * j)) := mulD_ok (CMul.ok (.inr ⟨h1, h2⟩))
theorem mulD_W {i j : Int} {a b : Nat} (ha : i.natAbs < 2 ^ a) (hb : j.natAbs < 2 ^ b) (h0 : 0 < a) (h1 : 0 < b) (h : a + b ≤ 1000000) : mulD (.int i) (.int j) = some (.int (i * j)) := mulD_ok (CMulW.ok (wide_mul ha hb h0 h1 h))
theorem mulD_rep {a : List D} {k : Int} (h0 : 0 ≤ k) (h : a.length * k.toNat ≤ 16777216) (h1 : k < 2 ^ 63) : mulD (.lst a) (.int k) = some (.lst (List.replicate k.toNat a).flatten) := if_pos ⟨by omega, h1, h⟩
/-! ### unary - -/
def negD : D → Option D
  | .int i => some (.int (-i))
  | _ => none
@[simp] theorem negD_int (i : Int) : negD (.int i) = some (.int (-i)) := rfl
theorem rel_neg : Rel1 K (rU fun i => .int (-i)) negD := by
  intro F H x dx dz Q le h1 e q
  unfold negD at e
  split at e
  · cases e
    simp only [Is] at h1
    exact ⟨_, h1, q F H _ (Grow.refl le) (by simp only [Is])⟩
  · cases e
/-! ### == and != of data -/
mutual
def D.pd : D → Option PyData
  | .non => some .none
  | .bl b => some (.bool b)
  | .int i => some (.int i)
  | .str s => some (.str s)
  | .tup ds => (D.pdL ds).map .tuple
  | .lst ds => (D.pdL ds).map .list
  | _ => none
def D.pdL : List D → Option (List PyData)
  | [] => some []
  | d :: ds => d.pd.bind fun p => (D.pdL ds).map (p :: ·)
end
mutual
theorem Is.dp {F H : Hp} (le : Same F H) : ∀ (d : D) (v : V) (p : PyData), d.pd = some p → Is K F d v → Dp K H v p
  | .non, v, p, e, h => by simp only [Is] at h; simp only [D.pd, Option.some.injEq] at e; subst h; subst e; exact .non
  | .bl b, v, p, e, h => by simp only [Is] at h; simp only [D.pd, Option.some.injEq] at e; subst h; subst e; exact .bl b
  | .int b, v, p, e, h => by simp only [Is] at h; simp only [D.pd, Option.some.injEq] at e; subst h; subst e; exact .int b
  | .str b, v, p, e, h => by simp only [Is] at h; simp only [D.pd, Option.some.injEq] at e; subst h; subst e; exact .str b
  | .tup ds, v, p, e, h => by
    simp only [Is] at h
    obtain ⟨a, xs, rfl, h1, h2⟩ := h
    simp only [D.pd] at e
    cases q : D.pdL ds with
    | none => rw [q] at e; cases e
    | some ps =>
      rw [q] at e
      cases e
      exact .tup (sqT_mono le h1) (IsL.dp le ds xs ps q h2)
  | .lst ds, v, p, e, h => by
    simp only [Is] at h
    obtain ⟨a, xs, rfl, h1, h2⟩ := h
    simp only [D.pd] at e
    cases q : D.pdL ds with
    | none => rw [q] at e; cases e
    | some ps =>
      rw [q] at e
      cases e
      exact .lst (.inl (.inl (le _ _ h1))) (IsL.dp le ds xs ps q h2)
  | .obj _ _, v, p, e, h => by simp [D.pd] at e
  | .ty _, v, p, e, h => by simp [D.pd] at e
  | .glo _, v, p, e, h => by simp [D.pd] at e
  | .scr _, v, p, e, h => by simp [D.pd] at e
theorem IsL.dp {F H : Hp} (le : Same F H) : ∀ (ds : List D) (xs : List V) (ps : List PyData), D.pdL ds = some ps → IsL K F ds xs → DpAll K H xs ps
  | [], xs, ps, e, h => by simp only [IsL] at h; simp only [D.pdL, Option.some.injEq] at e; subst h; subst e; exact .nil
  | d :: ds, xs, ps, e, h => by
    simp only [IsL] at h
    obtain ⟨y, ys, rfl, h1, h2⟩ := h
    simp only [D.pdL] at e
    cases q : d.pd with
    | none => rw [q] at e; cases e
    | some p =>
      rw [q] at e
      cases q' : D.pdL ds with
      | none => rw [q'] at e; cases e
      | some ps' =>
        rw [q'] at e
        cases e
        exact .cons (Is.dp le d y p q h1) (IsL.dp le ds ys ps' q' h2)
end
def eqD (a b : D) : Option D := a.pd.bind fun p => b.pd.bind fun q => if SeqAt.shaped p && SeqAt.shaped q then some (.bl (PyData.eqv p q)) else none
def neD (a b : D) : Option D := a.pd.bind fun p => b.pd.bind fun q => if SeqAt.shaped p && SeqAt.shaped q then some (.bl (!PyData.eqv p q)) else none
theorem rel_eq : Rel2 K (rEqD K) eqD := by
  intro F H x y dx dy dz Q le h1 h2 e q
  unfold eqD at e
  cases e1 : dx.pd with
  | none => rw [e1] at e; cases e
  | some p =>
    rw [e1] at e
    cases e2 : dy.pd with
    | none => rw [e2] at e; cases e
    | some p' =>
      rw [e2] at e
      simp only [Option.bind_some] at e
      split at e
      · rename_i hs
        rw [Bool.and_eq_true] at hs
        cases e
        exact ⟨p, p', Is.dp le dx x p e1 h1, Is.dp le dy y p' e2 h2, hs.1, hs.2, q F H _ (Grow.refl le) (by simp only [Is])⟩
      · cases e
theorem rel_ne : Rel2 K (rNeD K) neD := by
  intro F H x y dx dy dz Q le h1 h2 e q
  unfold neD at e
  cases e1 : dx.pd with
  | none => rw [e1] at e; cases e
  | some p =>
    rw [e1] at e
    cases e2 : dy.pd with
    | none => rw [e2] at e; cases e
    | some p' =>
      rw [e2] at e
      simp only [Option.bind_some] at e
      split at e
      · rename_i hs
        rw [Bool.and_eq_true] at hs
        cases e
        exact ⟨p, p', Is.dp le dx x p e1 h1, Is.dp le dy y p' e2 h2, hs.1, hs.2, q F H _ (Grow.refl le) (by simp only [Is])⟩
      · cases e
theorem eqD_of {a b : D} {p q : PyData} (h1 : a.pd = some p) (h2 : b.pd = some q) (s1 : SeqAt.shaped p = true) (s2 : SeqAt.shaped q = true) : eqD a b = some (.bl (PyData.eqv p q)) := by
  unfold eqD; rw [h1, h2]; simp only [Option.bind_some]; rw [s1, s2]; rfl
theorem neD_of {a b : D} {p q : PyData} (h1 : a.pd = some p) (h2 : b.pd = some q) (s1 : SeqAt.shaped p = true) (s2 : SeqAt.shaped q = true) : neD a b = some (.bl (!PyData.eqv p q)) := by
  unfold neD; rw [h1, h2]; simp only [Option.bind_some]; rw [s1, s2]; rfl
@[simp] theorem eqD_int (i j : Int) : eqD (.int i) (.int j) = some (.bl (decide (i = j))) := by
  rw [eqD_of (p := .int i) (q := .int j) (by simp only [D.pd]) (by simp only [D.pd]) (by with_unfolding_all rfl) (by with_unfolding_all rfl)]
  simp only [PyData.eqv]
  congr 2
@[simp] theorem neD_int (i j : Int) : neD (.int i) (.int j) = some (.bl (!decide (i = j))) := by
  rw [neD_of (p := .int i) (q := .int j) (by simp only [D.pd]) (by simp only [D.pd]) (by with_unfolding_all rfl) (by with_unfolding_all rfl)]
  simp only [PyData.eqv]
  congr 2
@[simp] theorem eqD_bl (i j : Bool) : eqD (.bl i) (.bl j) = some (.bl (i == j)) := by
  rw [eqD_of (p := .bool i) (q := .bool j) (by simp only [D.pd]) (by simp only [D.pd]) (by with_unfolding_all rfl) (by with_unfolding_all rfl)]
  simp only [PyData.eqv]
@[simp] theorem neD_bl (i j : Bool) : neD (.bl i) (.bl j) = some (.bl (!(i == j))) := by
  rw [neD_of (p := .bool i) (q := .bool j) (by simp only [D.pd]) (by simp only [D.pd]) (by with_unfolding_all rfl) (by with_unfolding_all rfl)]
  simp only [PyData.eqv]
/-! ### is None -/
def D.isNon : D → Bool
  | .non => true
  | _ => false
def isND (a b : D) : Option D := if b.isNon then some (.bl a.isNon) else none
def notND (a b : D) : Option D := if b.isNon then some (.bl (!a.isNon)) else none
theorem Is.isNon {F : Hp} {d : D} {v : V} (h : Is K F d v) : decide (v = .non) = d.isNon := by
  cases d with
  | non => simp only [Is] at h; subst h; rfl
  | tup ds => simp only [Is] at h; obtain ⟨p, xs, rfl, _⟩ := h; rfl
  | lst ds => simp only [Is] at h; obtain ⟨p, xs, rfl, _⟩ := h; rfl
  | scr ds => simp only [Is] at h; obtain ⟨p, xs, rfl, _⟩ := h; rfl
  | obj c fs => simp only [Is] at h; obtain ⟨p, dx, gs, rfl, _⟩ := h; rfl
  | _ => simp only [Is] at h; subst h; rfl
theorem Is.non {F : Hp} {d : D} {v : V} (h : Is K F d v) (e : d.isNon = true) : v = .non := by
  have := h.isNon
  rw [e] at this
  exact of_decide_eq_true this
theorem rel_isN : Rel2 K (fun x y H Q => y = .non ∧ Q (.bl (decide (x = .non))) H) isND := by
  intro F H x y dx dy dz Q le h1 h2 e q
  unfold isND at e
  split at e
  · rename_i hb
    cases e
    exact ⟨h2.non hb, by rw [h1.isNon]; exact q F H _ (Grow.refl le) (by simp only [Is])⟩
  · cases e
theorem rel_notN : Rel2 K (fun x y H Q => y = .non ∧ Q (.bl (!decide (x = .non))) H) notND := by
  intro F H x y dx dy dz Q le h1 h2 e q
  unfold notND at e
  split at e
  · rename_i hb
    cases e
    exact ⟨h2.non hb, by rw [h1.isNon]; exact q F H _ (Grow.refl le) (by simp only [Is])⟩
  · cases e
/-! ### x in a sequence of flat values -/
def D.flat : D → Bool
  | .non => true | .bl _ => true | .int _ => true | .str _ => true
  | _ => false
def D.eqF : D → D → Bool
  | .non, .non => true
  | .bl a, .bl b => a == b
  | .bl a, .int b => (if a then 1 else 0) == b
  | .int a, .bl b => a == (if b then 1 else 0)
  | .int a, .int b => a == b
  | .str a, .str b => a == b
  | _, _ => false
def inD (a b : D) : Option D := (itemsOf b).bind fun ds => if a.flat && ds.all D.flat then some (.bl (ds.any fun y => y.eqF a)) else none
def notInD (a b : D) : Option D := (itemsOf b).bind fun ds => if a.flat && ds.all D.flat then some (.bl (!ds.any fun y => y.eqF a)) else none
theorem Is.flat {F : Hp} {d : D} {v : V} (h : Is K F d v) (f : d.flat = true) : flatV v = true := by
  cases d <;> first | (simp [D.flat] at f; done) | (simp only [Is] at h; subst h; rfl)
theorem Is.eqF {F : Hp} {d e : D} {v w : V} (h : Is K F d v) (h' : Is K F e w) (f : d.flat = true) (f' : e.flat = true) : eqV v w = d.eqF e := by
  cases d <;> first | (simp [D.flat] at f; done) | (simp only [Is] at h; subst h; cases e <;> first | (simp [D.flat] at f'; done) | (simp only [Is] at h'; subst h'; rfl))
theorem IsL.flat {F : Hp} : ∀ {ds : List D} {xs : List V}, IsL K F ds xs → ds.all D.flat = true → xs.all flatV = true
  | [], xs, h, f => by simp only [IsL] at h; subst h; rfl
  | d :: ds, xs, h, f => by
    simp only [IsL] at h
    obtain ⟨y, ys, rfl, h1, h2⟩ := h
    simp only [List.all_cons, Bool.and_eq_true] at f ⊢
    exact ⟨h1.flat f.1, IsL.flat h2 f.2⟩
theorem IsL.inV {F : Hp} {d : D} {v : V} (hd : Is K F d v) (fd : d.flat = true) : ∀ {ds : List D} {xs : List V}, IsL K F ds xs → ds.all D.flat = true → L2.inV v xs = ds.any fun y => y.eqF d
  | [], xs, h, f => by simp only [IsL] at h; subst h; rfl
  | e :: ds, xs, h, f => by
    simp only [IsL] at h
    obtain ⟨y, ys, rfl, h1, h2⟩ := h
    simp only [List.all_cons, Bool.and_eq_true] at f
    have ih := IsL.inV hd fd h2 f.2
    unfold L2.inV at ih ⊢
    simp only [List.any_cons]
    rw [ih, h1.eqF hd f.1 fd]
theorem rel_in0 (neg : Bool) : Rel2 K (rIn K neg) (fun a b => (itemsOf b).bind fun ds => if a.flat && ds.all D.flat then some (.bl (if neg then !ds.any fun y => y.eqF a else ds.any fun y => y.eqF a)) else none) := by
  intro F H x y dx dy dz Q le h1 h2 e q
  cases e1 : itemsOf dy with
  | none => simp [e1] at e
  | some ds =>
    simp only [e1, Option.bind_some] at e
    split at e
    · rename_i hf
      rw [Bool.and_eq_true] at hf
      cases e
      obtain ⟨b, a, xs, rfl, hs, hi⟩ := sq_of e1 h2
      refine ⟨a, xs, rfl, ?_, h1.flat hf.1, hi.flat hf.2, ?_⟩
      · cases b with
        | true => exact .inr (sqT_mono le hs)
        | false => exact .inl (sqL_mono le hs)
      · rw [IsL.inV h1 hf.1 hi hf.2]
        exact q F H _ (Grow.refl le) (by simp only [Is])
    · cases e
theorem rel_in : Rel2 K (rIn K false) inD := rel_in0 false
theorem rel_notIn : Rel2 K (rIn K true) notInD := rel_in0 true
end
end PT

set_option Elab.async false
set_option linter.all false
set_option maxRecDepth 100000
set_option maxHeartbeats 4000000
/-! PT: chains, subscripts, built-in functions -/
namespace PT
open PySem PySem.Spec PyProof.Rows L2

def mChain (f f' : D → D → Option D) (a b c : ME) : ME := fun e => (a e).bind fun x e => (b e).bind fun y e => match f x y with
  | some (.bl true) => (c e).bind fun z e => lift (f' y z) e
  | some (.bl false) => .ok (.bl false) e
  | _ => .bad
def ixD (a b : D) : Option D := match b with
  | .int i => (match a with
    | .lst ds => atI ds i
    | .scr ds => atI ds i
    | .tup ds => atI ds i
    | .str z => if z.length ≤ 16777216 then (atI z.cps.toList i).map fun c => .str ⟨#[c]⟩ else none
    | _ => none)
  | _ => none
section
variable {K : PySem.W.Frag}
theorem IsL.atI {F : Hp} {ds : List D} {xs : List V} {i : Int} {d : D} (h : IsL K F ds xs) (e : L2.atI ds i = some d) : ∃ x, L2.atI xs i = some x ∧ Is K F d x := by
  unfold L2.atI at e ⊢
  rw [IsL.len h]
  cases q : ixN ds.length i with
  | none => rw [q] at e; cases e
  | some j =>
    rw [q] at e
    exact IsL.get h e
theorem rel_ix : Rel2 K (rIx K) ixD := by
  intro F H x y dx dy dz Q le h1 h2 e q
  unfold ixD at e
  split at e
  · rename_i i
    simp only [Is] at h2
    split at e
    · simp only [Is] at h1
      obtain ⟨p, xs, rfl, p1, p2⟩ := h1
      obtain ⟨v, v1, v2⟩ := IsL.atI p2 e
      exact .inl ⟨p, xs, i, v, rfl, h2, .inl (.inl (le _ _ p1)), v1, q F H _ (Grow.refl le) v2⟩
    · simp only [Is] at h1
      obtain ⟨p, xs, rfl, p1, p2⟩ := h1
      obtain ⟨v, v1, v2⟩ := IsL.atI p2 e
      exact .inl ⟨p, xs, i, v, rfl, h2, sqL_mono le p1, v1, q F H _ (Grow.refl le) v2⟩
    · simp only [Is] at h1
      obtain ⟨p, xs, rfl, p1, p2⟩ := h1
      obtain ⟨v, v1, v2⟩ := IsL.atI p2 e
      exact .inr (.inl ⟨p, xs, i, v, rfl, h2, sqT_mono le p1, v1, q F H _ (Grow.refl le) v2⟩)
    · split at e
      · rename_i z hz
        simp only [Is] at h1
        cases qq : L2.atI z.cps.toList i with
        | none => rw [qq] at e; cases e
        | some c =>
          rw [qq] at e
          cases e
          exact .inr (.inr ⟨z, i, c, h1, h2, by rw [sizeLine_eq]; exact hz, qq, q F H _ (Grow.refl le) (by simp only [Is])⟩)
      · cases e
    · cases e
  · cases e
theorem ixD_nat {ds : List D} {j : Nat} {d : D} (h : ds[j]? = some d) : ixD (.lst ds) (.int j) = some d := atI_nat h
theorem ixD_natT {ds : List D} {j : Nat} {d : D} (h : ds[j]? = some d) : ixD (.tup ds) (.int j) = some d := atI_nat h

/-! ### one argument, two -/
def lenD : List D → Option D
  | [.str z] => if z.length ≤ 16777216 then some (.int z.length) else none
  | [.lst ds] => some (.int ds.length)
  | [.scr ds] => some (.int ds.length)
  | [.tup ds] => some (.int ds.length)
  | _ => none
@[simp] theorem lenD_lst (ds : List D) : lenD [.lst ds] = some (.int ds.length) := rfl
@[simp] theorem lenD_tup (ds : List D) : lenD [.tup ds] = some (.int ds.length) := rfl
theorem IsL.one {F : Hp} {d : D} {vs : List V} (h : IsL K F [d] vs) : ∃ v, vs = [v] ∧ Is K F d v := by
  simp only [IsL] at h
  obtain ⟨y, ys, rfl, h1, rfl⟩ := h
  exact ⟨y, rfl, h1⟩
theorem IsL.two {F : Hp} {d e : D} {vs : List V} (h : IsL K F [d, e] vs) : ∃ v w, vs = [v, w] ∧ Is K F d v ∧ Is K F e w := by
  simp only [IsL] at h
  obtain ⟨y, ys, rfl, h1, y', ys', rfl, h2, rfl⟩ := h
  exact ⟨y, y', rfl, h1, h2⟩
theorem IsL.three {F : Hp} {d e f : D} {vs : List V} (h : IsL K F [d, e, f] vs) : ∃ v w u, vs = [v, w, u] ∧ Is K F d v ∧ Is K F e w ∧ Is K F f u := by
  simp only [IsL] at h
  obtain ⟨y, ys, rfl, h1, y', ys', rfl, h2, y'', ys'', rfl, h3, rfl⟩ := h
  exact ⟨y, y', y'', rfl, h1, h2, h3⟩
theorem rel_len : RelC K (fun xs H Q => ∃ x n, xs = [x] ∧ LenV K x H n ∧ Q (.int n) H) lenD := by
  intro F H vs ds dz Q le h e q
  unfold lenD at e
  split at e
  · obtain ⟨v, rfl, h1⟩ := h.one
    split at e
    · rename_i hz
      cases e
      simp only [Is] at h1
      subst h1
      exact ⟨_, _, rfl, ⟨by rw [sizeLine_eq]; exact hz, rfl⟩, q F H _ (Grow.refl le) (by simp only [Is])⟩
    · cases e
  · obtain ⟨v, rfl, h1⟩ := h.one
    cases e
    simp only [Is] at h1
    obtain ⟨p, xs, rfl, p1, p2⟩ := h1
    exact ⟨_, _, rfl, .inl ⟨xs, .inl (.inl (le _ _ p1)), (IsL.len p2).symm⟩, q F H _ (Grow.refl le) (by simp only [Is])⟩
  · obtain ⟨v, rfl, h1⟩ := h.one
    cases e
    simp only [Is] at h1
    obtain ⟨p, xs, rfl, p1, p2⟩ := h1
    exact ⟨_, _, rfl, .inl ⟨xs, sqL_mono le p1, (IsL.len p2).symm⟩, q F H _ (Grow.refl le) (by simp only [Is])⟩
  · obtain ⟨v, rfl, h1⟩ := h.one
    cases e
    simp only [Is] at h1
    obtain ⟨p, xs, rfl, p1, p2⟩ := h1
    exact ⟨_, _, rfl, .inr ⟨xs, sqT_mono le p1, (IsL.len p2).symm⟩, q F H _ (Grow.refl le) (by simp only [Is])⟩
  · cases e
def absD : List D → Option D
  | [.int i] => some (.int (if i < 0 then -i else i))
  | _ => none
@[simp] theorem absD_int (i : Int) : absD [.int i] = some (.int (if i < 0 then -i else i)) := rfl
theorem rel_abs : RelC K (fun xs H Q => ∃ i, xs = [.int i] ∧ Q (.int (if i < 0 then -i else i)) H) absD := by
  intro F H vs ds dz Q le h e q
  unfold absD at e
  split at e
  · obtain ⟨v, rfl, h1⟩ := h.one
    cases e
    simp only [Is] at h1
    subst h1
    exact ⟨_, rfl, q F H _ (Grow.refl le) (by simp only [Is])⟩
  · cases e
def intD : List D → Option D
  | [.int i] => some (.int i)
  | [.bl b] => some (.int (if b then 1 else 0))
  | _ => none
@[simp] theorem intD_int (i : Int) : intD [.int i] = some (.int i) := rfl
@[simp] theorem intD_bl (b : Bool) : intD [.bl b] = some (.int (if b then 1 else 0)) := rfl
theorem rel_int : RelC K (fun xs H Q => (∃ i, xs = [.int i] ∧ Q (.int i) H) ∨ ∃ k, xs = [.bl k] ∧ Q (.int (if k then 1 else 0)) H) intD := by
  intro F H vs ds dz Q le h e q
  unfold intD at e
  split at e
  · obtain ⟨v, rfl, h1⟩ := h.one
    cases e
    simp only [Is] at h1
    subst h1
    exact .inl ⟨_, rfl, q F H _ (Grow.refl le) (by simp only [Is])⟩
  · obtain ⟨v, rfl, h1⟩ := h.one
    cases e
    simp only [Is] at h1
    subst h1
    exact .inr ⟨_, rfl, q F H _ (Grow.refl le) (by simp only [Is])⟩
  · cases e
def max2D : List D → Option D
  | [.int i, .int j] => some (.int (if j > i then j else i))
  | _ => none
def min2D : List D → Option D
  | [.int i, .int j] => some (.int (if j < i then j else i))
  | _ => none
def max3D : List D → Option D
  | [.int i, .int j, .int k] => some (.int (if j > i then (if k > j then k else j) else (if k > i then k else i)))
  | _ => none
@[simp] theorem max2D_int (i j : Int) : max2D [.int i, .int j] = some (.int (max i j)) := by
  show some (D.int (if j > i then j else i)) = _
  congr 2; omega
@[simp] theorem min2D_int (i j : Int) : min2D [.int i, .int j] = some (.int (min i j)) := by
  show some (D.int (if j < i then j else i)) = _
  congr 2; omega
@[simp] theorem max3D_int (i j k : Int) : max3D [.int i, .int j, .int k] = some (.int (max (max i j) k)) := by
  show some (D.int (if j > i then (if k > j then k else j) else (if k > i then k else i))) = _
  congr 2; omega
theorem rel_max2 : RelC K (fun xs H Q => ∃ i j, xs = [.int i, .int j] ∧ Q (.int (if j > i then j else i)) H) max2D := by
  intro F H vs ds dz Q le h e q
  unfold max2D at e
  split at e
  · obtain ⟨v, w, rfl, h1, h2⟩ := h.two
    cases e
    simp only [Is] at h1 h2
    subst h1; subst h2
    exact ⟨_, _, rfl, q F H _ (Grow.refl le) (by simp only [Is])⟩
  · cases e
theorem rel_min2 : RelC K (fun xs H Q => ∃ i j, xs = [.int i, .int j] ∧ Q (.int (if j < i then j else i)) H) min2D := by
  intro F H vs ds dz Q le h e q
  unfold min2D at e
  split at e
  · obtain ⟨v, w, rfl, h1, h2⟩ := h.two
    cases e
    simp only [Is] at h1 h2
    subst h1; subst h2
    exact ⟨_, _, rfl, q F H _ (Grow.refl le) (by simp only [Is])⟩
  · cases e
def rMax3 : List V → Hp → VK → Prop := fun xs H Q => ∃ i j k, xs = [.int i, .int j, .int k] ∧ Q (.int (if j > i then (if k > j then k else j) else (if k > i then k else i))) H
theorem call_max3 {X : Cx} (hc : X.calm = true) : CallR X (.builtin "max") rMax3 := by
  intro pins s σ H xs us Q I r h
  obtain ⟨i, j, k, rfl, q⟩ := h
  obtain ⟨u1, u2, u3, rfl, ⟨t1, rfl⟩, ⟨t2, rfl⟩, ⟨t3, rfl⟩⟩ : ∃ u1 u2 u3, us = [u1, u2, u3] ∧ RelV (.int i) u1 ∧ RelV (.int j) u2 ∧ RelV (.int k) u3 := by
    cases r with
    | cons a r => cases r with
      | cons b r => cases r with
        | cons c r => cases r; exact ⟨_, _, _, rfl, a, b, c⟩
  refine max_three_ints (I.ok.hd hc) fun h' tk kk => ⟨_, H, I.kept kk, ?_, q⟩
  by_cases h1 : j > i
  · rw [if_pos h1, if_pos h1]
    by_cases h2 : k > j
    · rw [if_pos h2, if_pos h2]; exact ⟨_, rfl⟩
    · rw [if_neg h2, if_neg h2]; exact ⟨_, rfl⟩
  · rw [if_neg h1, if_neg h1]
    by_cases h2 : k > i
    · rw [if_pos h2, if_pos h2]; exact ⟨_, rfl⟩
    · rw [if_neg h2, if_neg h2]; exact ⟨_, rfl⟩
theorem rel_max3 : RelC K rMax3 max3D := by
  intro F H vs ds dz Q le h e q
  unfold max3D at e
  split at e
  · obtain ⟨v, w, u, rfl, h1, h2, h3⟩ := h.three
    cases e
    simp only [Is] at h1 h2 h3
    subst h1; subst h2; subst h3
    exact ⟨_, _, _, rfl, q F H _ (Grow.refl le) (by simp only [Is])⟩
  · cases e
/-! ### of a list of ints, of bools -/
def intsD : List D → Option (List Int)
  | [] => some []
  | .int i :: ds => (intsD ds).map (i :: ·)
  | _ => none
def blsD : List D → Option (List Bool)
  | [] => some []
  | .bl i :: ds => (blsD ds).map (i :: ·)
  | _ => none
@[simp] theorem intsD_map (ns : List Int) : intsD (ns.map .int) = some ns := by
  induction ns with
  | nil => rfl
  | cons n ns ih => simp [intsD, ih]
@[simp] theorem blsD_map (ns : List Bool) : blsD (ns.map .bl) = some ns := by
  induction ns with
  | nil => rfl
  | cons n ns ih => simp [blsD, ih]
theorem IsL.ints {F : Hp} : ∀ {ds : List D} {xs : List V} {ns : List Int}, IsL K F ds xs → intsD ds = some ns → xs = ns.map V.int
  | [], xs, ns, h, e => by simp only [IsL] at h; subst h; cases e; rfl
  | d :: ds, xs, ns, h, e => by
    cases d with
    | int i =>
      simp only [intsD] at e
      cases q : intsD ds with
      | none => rw [q] at e; cases e
      | some ms =>
        rw [q] at e; cases e
        simp only [IsL, Is] at h
        obtain ⟨y, ys, rfl, rfl, h2⟩ := h
        rw [IsL.ints h2 q]; rfl
    | _ => cases e
theorem IsL.bls {F : Hp} : ∀ {ds : List D} {xs : List V} {ns : List Bool}, IsL K F ds xs → blsD ds = some ns → xs = ns.map V.bl
  | [], xs, ns, h, e => by simp only [IsL] at h; subst h; cases e; rfl
  | d :: ds, xs, ns, h, e => by
    cases d with
    | bl i =>
      simp only [blsD] at e
      cases q : blsD ds with
      | none => rw [q] at e; cases e
      | some ms =>
        rw [q] at e; cases e
        simp only [IsL, Is] at h
        obtain ⟨y, ys, rfl, rfl, h2⟩ := h
        rw [IsL.bls h2 q]; rfl
    | _ => cases e
def sumD : List D → Option D
  | [.lst ds] => (intsD ds).map fun ns => .int ns.sum
  | _ => none
def anyD : List D → Option D
  | [.lst ds] => (blsD ds).map fun ns => .bl (ns.any id)
  | _ => none
def allD : List D → Option D
  | [.lst ds] => (blsD ds).map fun ns => .bl (ns.all id)
  | _ => none
@[simp] theorem sumD_map (ns : List Int) : sumD [.lst (ns.map .int)] = some (.int ns.sum) := by simp [sumD]
@[simp] theorem anyD_map (ns : List Bool) : anyD [.lst (ns.map .bl)] = some (.bl (ns.any id)) := by simp [anyD]
@[simp] theorem allD_map (ns : List Bool) : allD [.lst (ns.map .bl)] = some (.bl (ns.all id)) := by simp [allD]
theorem rel_sum : RelC K (rSum K) sumD := by
  intro F H vs ds dz Q le h e q
  unfold sumD at e
  split at e
  · rename_i ds
    obtain ⟨v, rfl, h1⟩ := h.one
    cases q1 : intsD ds with
    | none => rw [q1] at e; cases e
    | some ns =>
      rw [q1] at e; cases e
      simp only [Is] at h1
      obtain ⟨p, xs, rfl, p1, p2⟩ := h1
      have := p2.ints q1
      subst this
      exact ⟨p, ns, rfl, .inl (.inl (le _ _ p1)), q F H _ (Grow.refl le) (by simp only [Is])⟩
  · cases e
theorem rel_any : RelC K (rAny K) anyD := by
  intro F H vs ds dz Q le h e q
  unfold anyD at e
  split at e
  · rename_i ds
    obtain ⟨v, rfl, h1⟩ := h.one
    cases q1 : blsD ds with
    | none => rw [q1] at e; cases e
    | some ns =>
      rw [q1] at e; cases e
      simp only [Is] at h1
      obtain ⟨p, xs, rfl, p1, p2⟩ := h1
      have := p2.bls q1
      subst this
      exact ⟨p, ns, rfl, .inl (.inl (le _ _ p1)), q F H _ (Grow.refl le) (by simp only [Is])⟩
  · cases e
theorem rel_all : RelC K (rAll K) allD := by
  intro F H vs ds dz Q le h e q
  unfold allD at e
  split at e
  · rename_i ds
    obtain ⟨v, rfl, h1⟩ := h.one
    cases q1 : blsD ds with
    | none => rw [q1] at e; cases e
    | some ns =>
      rw [q1] at e; cases e
      simp only [Is] at h1
      obtain ⟨p, xs, rfl, p1, p2⟩ := h1
      have := p2.bls q1
      subst this
      exact ⟨p, ns, rfl, .inl (.inl (le _ _ p1)), q F H _ (Grow.refl le) (by simp only [Is])⟩
  · cases e
/-! ### list(..), tuple(..), sorted(..) -/
def listD : List D → Option D
  | [d] => (itemsOf d).map .lst
  | _ => none
def tupleD : List D → Option D
  | [d] => (itemsOf d).map .tup
  | _ => none
@[simp] theorem listD_lst (ds : List D) : listD [.lst ds] = some (.lst ds) := rfl
@[simp] theorem listD_tup (ds : List D) : listD [.tup ds] = some (.lst ds) := rfl
@[simp] theorem tupleD_lst (ds : List D) : tupleD [.lst ds] = some (.tup ds) := rfl
@[simp] theorem tupleD_tup (ds : List D) : tupleD [.tup ds] = some (.tup ds) := rfl
theorem rel_list : RelC K (fun xs H Q => ∃ p ys, xs = [.ref p] ∧ (SqL K H p ys ∨ SqT K H p ys) ∧ ∀ l, H l = none → Q (.ref l) (upd H l (.lst ys))) listD := by
  intro F H vs ds dz Q le h e q
  unfold listD at e
  split at e
  · rename_i d
    obtain ⟨v, rfl, h1⟩ := h.one
    cases q1 : itemsOf d with
    | none => rw [q1] at e; cases e
    | some ns =>
      rw [q1] at e; cases e
      obtain ⟨b, a, xs, rfl, hs, hi⟩ := sq_of q1 h1
      refine ⟨a, xs, rfl, ?_, fun l nl => q _ _ _ (Grow.new le nl) ?_⟩
      · cases b with
        | true => exact .inr (sqT_mono le hs)
        | false => exact .inl (sqL_mono le hs)
      · simp only [Is]
        exact ⟨l, xs, rfl, upd_same, IsL.mono (Grow.new le nl).le _ _ hi⟩
  · cases e
theorem rel_tuple : RelC K (fun xs H Q => ∃ p ys, xs = [.ref p] ∧ ((SqL K H p ys ∧ ∀ l, H l = none → Q (.ref l) (upd H l (.tup ys))) ∨ (SqT K H p ys ∧ Q (.ref p) H))) tupleD := by
  intro F H vs ds dz Q le h e q
  unfold tupleD at e
  split at e
  · rename_i d
    obtain ⟨v, rfl, h1⟩ := h.one
    cases q1 : itemsOf d with
    | none => rw [q1] at e; cases e
    | some ns =>
      rw [q1] at e; cases e
      obtain ⟨b, a, xs, rfl, hs, hi⟩ := sq_of q1 h1
      refine ⟨a, xs, rfl, ?_⟩
      cases b with
      | true =>
        refine .inr ⟨sqT_mono le hs, q _ _ _ (Grow.refl le) ?_⟩
        simp only [Is]
        exact ⟨a, xs, rfl, hs, hi⟩
      | false =>
        refine .inl ⟨sqL_mono le hs, fun l nl => q _ _ _ (Grow.new le nl) ?_⟩
        simp only [Is]
        exact ⟨l, xs, rfl, SqT.of upd_same, IsL.mono (Grow.new le nl).le _ _ hi⟩
  · cases e
def srt (ns : List Int) : List Int := ns.mergeSort (fun a b => decide (a ≤ b))
theorem srt_perm (ns : List Int) : (srt ns).Perm ns := List.mergeSort_perm _ _
theorem srt_sorted (ns : List Int) : (srt ns).Pairwise (· ≤ ·) := by
  have h := List.pairwise_mergeSort (le := fun (a b : Int) => decide (a ≤ b)) (fun a b c h1 h2 => by simp at *; omega) (fun a b => by simp; omega) ns
  exact h.imp fun {a b} z => by simpa using z
theorem srt_unique {ns ms : List Int} (h1 : ms.Perm ns) (h2 : ms.Pairwise (· ≤ ·)) : ms = srt ns :=
  List.Perm.eq_of_pairwise (le := (· ≤ ·)) (fun a b _ _ x y => by omega) h2 (srt_sorted ns) (h1.trans (srt_perm ns).symm)
def sortD : List D → Option D
  | [.lst ds] => (intsD ds).bind fun ns => if ns.length < 64 then some (.lst ((srt ns).map .int)) else none
  | _ => none
theorem sortD_map {ns : List Int} (h : ns.length < 64) : sortD [.lst (ns.map .int)] = some (.lst ((srt ns).map .int)) := by simp [sortD, h]
theorem IsL.ofInts {F : Hp} : ∀ (ns : List Int), IsL K F (ns.map .int) (ns.map V.int)
  | [] => by simp [IsL]
  | n :: ns => by simp only [List.map_cons, IsL, Is]; exact ⟨_, _, rfl, rfl, IsL.ofInts ns⟩
theorem rel_sorted : RelC K (rSorted K) sortD := by
  intro F H vs ds dz Q le h e q
  unfold sortD at e
  split at e
  · rename_i ds
    obtain ⟨v, rfl, h1⟩ := h.one
    cases q1 : intsD ds with
    | none => rw [q1] at e; cases e
    | some ns =>
      rw [q1] at e
      simp only [Option.bind_some] at e
      split at e
      · rename_i hz
        cases e
        simp only [Is] at h1
        obtain ⟨p, xs, rfl, p1, p2⟩ := h1
        have := p2.ints q1
        subst this
        refine ⟨p, ns, rfl, .inl (.inl (le _ _ p1)), hz, fun ns' l g1 g2 nl => q _ _ _ (Grow.new le nl) ?_⟩
        rw [srt_unique g1 g2]
        simp only [Is]
        exact ⟨l, _, rfl, upd_same, IsL.ofInts _⟩
      · cases e
  · cases e
end
section
variable {X : Cx} {C : SC} {Δ : Ty} {a b c : Expr} {ma mb mc : ME} {pos : Pos}
theorem e_chain {op op' : CmpOp} {r r' : R2} {f f' : D → D → Option D} (ho : OpR X (compareOp op) r) (ho' : OpR X (compareOp op') r') (hr : Rel2 X.K r f) (hr' : Rel2 X.K r' f') (ha : PE X a (tE X.K C Δ ma .fz)) (hb : PE X b (tE X.K C Δ mb .fz)) (hc : PE X c (tE X.K C Δ mc .fz))
    (hm : lastMarks [op, op'] [b, c] = false := by with_unfolding_all rfl) : PE X (.Compare a [op, op'] [b, c] pos) (tE X.K C Δ (mChain f f' ma mb mc) .fz) := by
  refine PE.weak (pe_chain ho ho' ha hb hc hm) fun σ H Q ⟨G, F, env, A, st, h⟩ => ?_
  refine ⟨G, F, env, A, st, h.bind fun dx e1 F1 H1 A1 x st1 i1 s1 h1 => ⟨G, F1, e1, A1, st1, h1.bind fun dy e2 F2 H2 A2 y st2 i2 s2 h2 => ?_⟩⟩
  cases e : f dx dy with
  | none => rw [e] at h2; exact h2.elim
  | some dz =>
    rw [e] at h2
    cases dz with
    | bl k =>
      refine hr F2 H2 x y dx dy _ _ st2.le (Is.mono s2.le _ _ i1) i2 e fun F3 H3 z g i3 => ?_
      simp only [Is] at i3
      subst i3
      refine ⟨k, rfl, ?_⟩
      cases k with
      | false =>
        simp only [Bool.false_eq_true, if_false]
        exact h2.val st2 g (by simp only [Is])
      | true =>
        simp only [if_true]
        have st3 := st2.grow g
        refine ⟨G, F3, e2, A2, st3, PostE.bind (PostE.base g.step h2) fun dw e4 F4 H4 A4 w st4 i4 s4 h4 => ?_⟩
        obtain ⟨dz, e', q⟩ := h4.lift st4
        exact hr' F4 H4 y w dy dw dz Q st4.le (Is.mono (g.le.trans s4.le) _ _ i2) i4 e' fun F' H' v g i => q g i
    | _ => exact h2.elim
theorem t_ofE {e : Expr} {m : ME} (h : PE X e (tE X.K C Δ m .fz)) (he : ∀ whole, isTrue e X.env whole = (do let v ← whole; standAt e.pos; holding [v] (truthy v)) := by intro _; rfl) : L2.PT X e (tT X.K C Δ m) := t_val h he
theorem t_chain {op op' : CmpOp} {r r' : R2} {f f' : D → D → Option D} (ho : OpR X (compareOp op) r) (ho' : OpR X (compareOp op') r') (hr : Rel2 X.K r f) (hr' : Rel2 X.K r' f') (ha : PE X a (tE X.K C Δ ma .fz)) (hb : PE X b (tE X.K C Δ mb .fz)) (hc : PE X c (tE X.K C Δ mc .fz))
    (hm : lastMarks [op, op'] [b, c] = false := by with_unfolding_all rfl) : L2.PT X (.Compare a [op, op'] [b, c] pos) (tT X.K C Δ (mChain f f' ma mb mc)) := by
  refine PT.weak (pt_chain ho ho' ha hb hc hm) fun σ H Q ⟨G, F, env, A, st, h⟩ => ?_
  refine ⟨G, F, env, A, st, PostT.bind h fun dx e1 F1 H1 A1 x st1 i1 s1 h1 => ⟨G, F1, e1, A1, st1, PostT.bind h1 fun dy e2 F2 H2 A2 y st2 i2 s2 h2 => ?_⟩⟩
  cases e : f dx dy with
  | none => rw [e] at h2; exact h2.elim
  | some dz =>
    rw [e] at h2
    cases dz with
    | bl k =>
      refine hr F2 H2 x y dx dy _ _ st2.le (Is.mono s2.le _ _ i1) i2 e fun F3 H3 z g i3 => ?_
      simp only [Is] at i3
      subst i3
      refine ⟨k, rfl, ?_⟩
      cases k with
      | false =>
        simp only [Bool.false_eq_true, if_false]
        exact ⟨_, rfl, h2.val st2 g⟩
      | true =>
        simp only [if_true]
        have st3 := st2.grow g
        refine ⟨G, F3, e2, A2, st3, PostT.bind (PostT.base g.step h2) fun dw e4 F4 H4 A4 w st4 i4 s4 h4 => ?_⟩
        cases e' : f' dy dw with
        | none => rw [e'] at h4; exact h4.elim
        | some dz =>
          rw [e'] at h4
          cases dz with
          | bl k' =>
            refine hr' F4 H4 y w dy dw _ _ st4.le (Is.mono (g.le.trans s4.le) _ _ i2) i4 e' fun F' H' v g' i => ?_
            simp only [Is] at i
            exact ⟨k', i, h4.val st4 g'⟩
          | _ => exact h4.elim
    | _ => exact h2.elim
theorem e_ix {r : R2} {f : D → D → Option D} (hi : IxR X r) (hr : Rel2 X.K r f) (ha : PE X a (tE X.K C Δ ma .fz)) (hb : PE X b (tE X.K C Δ mb .fz)) (hs : PlainIx b) : PE X (.Subscript a b pos) (tE X.K C Δ (mBin f ma mb) .fz) := by
  refine PE.weak (pe_ix hi ha hb hs) fun σ H Q ⟨G, F, env, A, st, h⟩ => ?_
  refine ⟨G, F, env, A, st, h.bind fun dx e1 F1 H1 A1 x st1 i1 s1 h1 => ⟨G, F1, e1, A1, st1, h1.bind fun dy e2 F2 H2 A2 y st2 i2 s2 h2 => ?_⟩⟩
  obtain ⟨dz, e, q⟩ := h2.lift st2
  exact hr F2 H2 x y dx dy dz Q st2.le (Is.mono s2.le _ _ i1) i2 e fun F' H' v g i => q g i
end
end PT

set_option Elab.async false
set_option linter.all false
set_option maxRecDepth 100000
set_option maxHeartbeats 4000000
/-! PT: slices -/
namespace HT
open PySem PySem.Spec PyProof.Rows
/-- the items of xs[lo:hi:j] -/
def pickG {α : Type} (xs : List α) (lo hi : Option Int) (j : Int) : List α := (List.range (Builtin.Slice.slicePlaces (Builtin.Slice.sliceAdjust lo hi j xs.length).1 (Builtin.Slice.sliceAdjust lo hi j xs.length).2 j)).filterMap fun (m : Nat) => xs[((Builtin.Slice.sliceAdjust lo hi j xs.length).1 + (m : Int) * j).toNat]?
section
variable {prog : Program} {w : World} {A : Around} {E : Value → Shared → Prop} {s : Shared}
theorem sliceApplied_step {sl : Addr} {vl vu vs : Value} {lo hi : Option Int} {j : Int} {n : Nat} {Q : Int × Int × Nat → Shared → Prop} (hs : s.heap.IsSliceOf sl vl vu vs) (pl : IsPart vl lo) (pu : IsPart vu hi) (ps : IsPart vs (some j)) (hj : j ≠ 0)
    (h : Q ((Builtin.Slice.sliceAdjust lo hi j n).1, j, Builtin.Slice.slicePlaces (Builtin.Slice.sliceAdjust lo hi j n).1 (Builtin.Slice.sliceAdjust lo hi j n).2 j) s) : wpAny (model prog w) A (Builtin.Slice.sliceApplied (.ref sl) (pure (n : Int))) Q E s := by
  obtain ⟨os, hos, hcs, hds⟩ := id hs
  unfold Builtin.Slice.sliceApplied Builtin.Slice.sliceFields
  refine wpAny_bind (wpAny_bind (wpAny_field hos hds (x := vl) rfl (wpAny_bind (wpAny_field hos hds (x := vu) rfl (wpAny_bind (wpAny_field hos hds (x := vs) rfl (wpAny_pure ?_)))))))
  refine wpAny_bind (slicePart_ ps ?_)
  show wpAny _ _ (if (j == 0) = true then _ else _) _ _ s
  rw [if_neg (by simpa using hj)]
  refine wpAny_bind (slicePart_ pl (wpAny_bind (slicePart_ pu (wpAny_bind (wpAny_pure ?_)))))
  exact wpAny_pure h
theorem getItem_tuple_step {t sl : Addr} {items : Array Value} {vl vu vs : Value} {lo hi : Option Int} {j : Int} {Q : Value → Shared → Prop} (ht : IsTup s.heap t items) (hs : s.heap.IsSliceOf sl vl vu vs) (pl : IsPart vl lo) (pu : IsPart vu hi) (ps : IsPart vs (some j)) (hj : j ≠ 0) (hj1 : j ≠ 1)
    (h : Q (.ref s.heap.objs.size) { s with heap := s.heap.push { cls := .type "tuple", data := .seq (pickG items.toList lo hi j).toArray } })
    (hsz : (pickG items.toList lo hi j).length ≤ sizeLine) : wpAny (model prog w) A (getItem (.ref t) (.ref sl)) Q E s := by
  have htake : sizeOk (.seq (pickG items.toList lo hi j).toArray) := by
    show (pickG items.toList lo hi j).toArray.size ≤ sizeLine
    rw [List.size_toArray]; exact hsz
  obtain ⟨os, hos, hcs, hds⟩ := id hs
  have hTs : s.TypeIs (.ref sl) "slice" := ⟨os, hos, hcs⟩
  unfold getItem
  try with_reducible refine wpAny_holding ?_
  first | refine wpAny_bind (wpAny_pure ?_) | skip
  refine wpAny_bind (wpAny_sequenceKey ht.typeIs (by decide) ?_)
  refine wpAny_bind (wpAny_callSpecial?_slot (name := Str.ofString "__getitem__") ht.typeIs PyProof.Rows.slot_tuple_getitem
    (wpAny_call_entry PyProof.Rows.slot_tuple_getitem ht.typeIs entry_tuple_getitem ?_ (args_tuple_getitem _ _)))
  show wpAny _ _ (Builtin.Tuple.tupleItemsOf (.ref t) >>= _) _ _ s
  refine wpAny_bind (tupleItemsOf_ ht ?_)
  refine wpAny_bind (wpAny_typeOf hTs ?_)
  rw [if_pos (by decide)]
  refine wpAny_bind (sliceApplied_step hs pl pu ps hj ?_)
  have hno : ¬ (((Builtin.Slice.sliceAdjust lo hi j items.size).1 == 0 && j == 1 && Builtin.Slice.slicePlaces (Builtin.Slice.sliceAdjust lo hi j items.size).1 (Builtin.Slice.sliceAdjust lo hi j items.size).2 j == items.size) = true) := by
    intro q
    rw [Bool.and_eq_true, Bool.and_eq_true] at q
    exact hj1 (eq_of_beq q.1.2)
  show wpAny _ _ (if ((Builtin.Slice.sliceAdjust lo hi j items.size).1 == 0 && j == 1 && Builtin.Slice.slicePlaces (Builtin.Slice.sliceAdjust lo hi j items.size).1 (Builtin.Slice.sliceAdjust lo hi j items.size).2 j == items.size) = true then _ else _) _ _ s
  rw [if_neg hno]
  have e : ((List.range (Builtin.Slice.slicePlaces (Builtin.Slice.sliceAdjust lo hi j items.size).1 (Builtin.Slice.sliceAdjust lo hi j items.size).2 j)).filterMap fun (m : Nat) => items[((Builtin.Slice.sliceAdjust lo hi j items.size).1 + (m : Int) * j).toNat]?) = pickG items.toList lo hi j := by
    unfold pickG
    rw [Array.length_toList]
    congr 1
    funext m
    rw [Array.getElem?_toList]
  first
    | rw [e]
    | (show wpAny _ _ (Builtin.Tuple.tupleExact ((List.range (Builtin.Slice.slicePlaces (Builtin.Slice.sliceAdjust lo hi j items.size).1 (Builtin.Slice.sliceAdjust lo hi j items.size).2 j)).filterMap fun (m : Nat) => items[((Builtin.Slice.sliceAdjust lo hi j items.size).1 + (m : Int) * j).toNat]?).toArray >>= _) _ _ s
       rw [e])
  first
    | exact wpAny_bind (m := Builtin.Tuple.tupleExact _) (wpAny_newObj_type (wpAny_pure ⟨_, rfl, wpAny_pure h⟩) htake)
    | exact wpAny_bind (m := Builtin.Tuple.tupleExact _) (wpAny_newObj_type (wpAny_bind (wpAny_pure (wpAny_pure ⟨_, rfl, wpAny_pure h⟩))) htake)
    | exact wpAny_bind (wpAny_bind (m := Builtin.Tuple.tupleExact _) (wpAny_newObj_type (wpAny_pure (wpAny_pure ⟨_, rfl, wpAny_pure h⟩)) htake))
    | exact wpAny_bind (wpAny_bind (m := Builtin.Tuple.tupleExact _) (wpAny_newObj_type (wpAny_pure ⟨_, rfl, wpAny_pure h⟩) htake))
end
end HT
namespace PT
open PySem PySem.Spec PyProof.Rows L2
section
variable {X : Cx} {e : Expr} {te : TE} {lo hi st : Option Expr} {tl th ts : TO} {pos p2 : Pos}
def tSl3 (K : PySem.W.Frag) (te : TE) (tl th ts : TO) : TE := fun σ H Q => te σ H fun x H1 => tl σ H1 fun l H2 => th σ H2 fun u H3 => ts σ H3 fun w H4 => ∃ j a xs, w = some j ∧ j ≠ 0 ∧ j ≠ 1 ∧ x = .ref a ∧ SqT K H4 a xs ∧ (HT.pickG xs l u j).length ≤ sizeLine ∧ ∀ p, H4 p = none → Q (.ref p) (upd H4 p (.tup (HT.pickG xs l u j)))
theorem pick_vals {xs : List V} {us : List Value} (r : Vals xs us) (lo hi : Option Int) (j : Int) : Vals (HT.pickG xs lo hi j) (HT.pickG us lo hi j) := by
  unfold HT.pickG
  rw [r.length]
  generalize List.range _ = ms
  generalize (Builtin.Slice.sliceAdjust lo hi j _).1 = b
  induction ms with
  | nil => exact .nil
  | cons m ms ih =>
    rw [List.filterMap_cons, List.filterMap_cons]
    cases q : xs[(b + (m : Int) * j).toNat]? with
    | none =>
      have : us[(b + (m : Int) * j).toNat]? = none := by
        rw [List.getElem?_eq_none_iff] at q ⊢
        rw [← r.length]; exact q
      rw [this]; exact ih
    | some x =>
      obtain ⟨u, hu, ru⟩ := r.get q
      rw [hu]; exact .cons ru ih
/-- t[lo:hi:step] of a tuple -/
theorem pe_slice3 {se : Expr} (he : PE X e te) (hl : PO X lo tl) (hu : PO X hi th) (hs : PO X (some se) ts) : PE X (.Subscript e (.Slice lo hi (some se) p2) pos) (tSl3 X.K te tl th ts) := by
  refine ⟨fun pins s σ H Q I h => ?_⟩
  refine Subscript_ (thn (he.run pins s σ H _ I h) fun v s1 ⟨x, H1, I1, r1, q1⟩ => ?_)
  refine wpAny_Slice (thn (hl.run pins s1 σ H1 _ I1 q1) fun vl s2 ⟨l, H2, I2, pl, q2⟩ => thn (hu.run pins s2 σ H2 _ I2 q2) fun vu s3 ⟨u, H3, I3, pu, q3⟩ => thn (hs.run pins s3 σ H3 _ I3 q3) fun vs s4 ⟨w, H4, I4, ps, q4⟩ => ?_)
  obtain ⟨j, a, xs, rfl, j0, j1, rfl, hx, hz, q⟩ := q4
  cases r1
  have I5 : Inv X pins σ H4 { s4 with heap := s4.heap.push { cls := .type "slice", data := .fields #[vl, vu, vs] } } := I4.kept (t' := s4.toks) fun b ob q => Heap.get?_push_of_some _ q
  obtain ⟨its, r, ht, hz'⟩ := I5.tuple hx
  show wpAny (model X.prog X.w) X.A (subscriptTail e (.Slice lo hi (some se) p2) (.ref a) (.ref s4.heap.objs.size)) (EP X pins σ Q) X.xe { s4 with heap := s4.heap.push { cls := .type "slice", data := .fields #[vl, vu, vs] } }
  have rp := pick_vals r l u j
  refine tail_any (ops := [.ref a, .ref s4.heap.objs.size]) ht.typeIs PyProof.Rows.slot_tuple_getitem.lookup ?_ (by with_unfolding_all rfl)
  refine HT.getItem_tuple_step ht (Heap.IsSliceOf.new _ vl vu vs) pl pu ps j0 j1 ?_ (by rw [← rp.length]; exact hz)
  refine ⟨.ref _, _, I5.laid (t' := s4.toks) (o := .tup (HT.pickG xs l u j)) (fun b ob q => Heap.get?_push_of_some _ q) (Nat.le_refl _) ?_, rfl, q _ (I5.hok.fresh (Nat.le_refl _))⟩
  exact ⟨hz, _, rp, IsTup.new _ _⟩
end
/-! ### by data -/
def mPart (m : Option ME) (e : Ev) (k : Option Int → Ev → RE) : RE := match m with
  | none => k none e
  | some m => (m e).bind fun d e1 => match d with
    | .int i => k (some i) e1
    | _ => .bad
def mSl (f : D → Option Int → Option Int → Option D) (a : ME) (lo hi : Option ME) : ME := fun e => (a e).bind fun x e1 => mPart lo e1 fun l e2 => mPart hi e2 fun h e3 => lift (f x l h) e3
def tPt (K : PySem.W.Frag) (C : SC) (Δ : Ty) (m : Option ME) : TO := match m with
  | none => tNoPart
  | some m => tPart (tE K C Δ m .fz)
/-- the cut, of any items -/
def cutG {α : Type} (xs : List α) (lo hi : Option Int) : List α := (xs.drop (HT.sIx xs.length 0 lo)).take (HT.sIx xs.length xs.length hi - HT.sIx xs.length 0 lo)
def slD (a : D) (lo hi : Option Int) : Option D := match a with
  | .lst ds => some (.lst (cutG ds lo hi))
  | .scr ds => some (.lst (cutG ds lo hi))
  | .tup ds => some (.tup (cutG ds lo hi))
  | _ => none
def rSlD (K : PySem.W.Frag) : V → Option Int → Option Int → Hp → VK → Prop := fun x lo hi H Q => rSlL K x lo hi H Q ∨ rSlA K x lo hi H Q
theorem sl_D {X : Cx} : SlR X (rSlD X.K) := sl_list.or sl_tupA
section
variable {K : PySem.W.Frag}
theorem IsL.drop {F : Hp} : ∀ {ds : List D} {xs : List V} (n : Nat), IsL K F ds xs → IsL K F (ds.drop n) (xs.drop n)
  | ds, xs, 0, h => h
  | [], xs, n + 1, h => by simp only [IsL] at h; subst h; simp [IsL]
  | d :: ds, xs, n + 1, h => by
    simp only [IsL] at h
    obtain ⟨y, ys, rfl, h1, h2⟩ := h
    exact IsL.drop n h2
theorem IsL.take {F : Hp} : ∀ {ds : List D} {xs : List V} (n : Nat), IsL K F ds xs → IsL K F (ds.take n) (xs.take n)
  | ds, xs, 0, h => by simp [IsL]
  | [], xs, n + 1, h => by simp only [IsL] at h; subst h; simp [IsL]
  | d :: ds, xs, n + 1, h => by
    simp only [IsL] at h
    obtain ⟨y, ys, rfl, h1, h2⟩ := h
    simp only [List.take_succ_cons, IsL]
    exact ⟨y, _, rfl, h1, IsL.take n h2⟩
theorem IsL.cut {F : Hp} {ds : List D} {xs : List V} (h : IsL K F ds xs) (lo hi : Option Int) : IsL K F (cutG ds lo hi) (cutV xs lo hi) := by
  unfold cutG cutV
  rw [IsL.len h]
  exact IsL.take _ (IsL.drop _ h)
theorem IsL.pick {F : Hp} {ds : List D} {xs : List V} (h : IsL K F ds xs) (lo hi : Option Int) (j : Int) : IsL K F (HT.pickG ds lo hi j) (HT.pickG xs lo hi j) := by
  unfold HT.pickG
  rw [IsL.len h]
  generalize List.range _ = ms
  generalize (Builtin.Slice.sliceAdjust lo hi j _).1 = b
  induction ms with
  | nil => simp [IsL]
  | cons m ms ih =>
    rw [List.filterMap_cons, List.filterMap_cons]
    cases q : ds[(b + (m : Int) * j).toNat]? with
    | none =>
      have : xs[(b + (m : Int) * j).toNat]? = none := by
        rw [List.getElem?_eq_none_iff] at q ⊢
        rw [IsL.len h]; exact q
      rw [this]; exact ih
    | some x =>
      obtain ⟨u, hu, ru⟩ := IsL.get h q
      rw [hu]
      simp only [IsL]
      exact ⟨u, _, rfl, ru, ih⟩
def RelS (K : PySem.W.Frag) (r : V → Option Int → Option Int → Hp → VK → Prop) (f : D → Option Int → Option Int → Option D) : Prop := ∀ F H x dx lo hi dz Q, Same F H → Is K F dx x → f dx lo hi = some dz → (∀ F' H' v, Grow F H F' H' → Is K F' dz v → Q v H') → r x lo hi H Q
theorem rel_sl : RelS K (rSlD K) slD := by
  intro F H x dx lo hi dz Q le h1 e q
  unfold slD at e
  split at e
  · cases e
    simp only [Is] at h1
    obtain ⟨p, xs, rfl, p1, p2⟩ := h1
    refine .inl ⟨p, xs, rfl, .inl (.inl (le _ _ p1)), fun u nu => q _ _ _ (Grow.new le nu) ?_⟩
    simp only [Is]
    exact ⟨u, _, rfl, upd_same, IsL.mono (Grow.new le nu).le _ _ (p2.cut lo hi)⟩
  · cases e
    simp only [Is] at h1
    obtain ⟨p, xs, rfl, p1, p2⟩ := h1
    refine .inl ⟨p, xs, rfl, sqL_mono le p1, fun u nu => q _ _ _ (Grow.new le nu) ?_⟩
    simp only [Is]
    exact ⟨u, _, rfl, upd_same, IsL.mono (Grow.new le nu).le _ _ (p2.cut lo hi)⟩
  · cases e
    simp only [Is] at h1
    obtain ⟨p, xs, rfl, p1, p2⟩ := h1
    refine .inr ⟨p, xs, rfl, sqT_mono le p1, fun hw => q _ _ _ (Grow.refl le) ?_, fun _ u nu => q _ _ _ (Grow.new le nu) ?_⟩
    · rename_i ds
      have : cutG ds lo hi = ds := by
        unfold cutG
        rw [← IsL.len p2, hw.1, hw.2, List.drop_zero, Nat.sub_zero, IsL.len p2, List.take_length]
      rw [this]
      simp only [Is]
      exact ⟨p, xs, rfl, p1, p2⟩
    · simp only [Is]
      exact ⟨u, _, rfl, SqT.of upd_same, IsL.mono (Grow.new le nu).le _ _ (p2.cut lo hi)⟩
  · cases e
end
section
variable {X : Cx} {C : SC} {Δ : Ty} {e : Expr} {lo hi : Option Expr} {pos p2 : Pos} {m : ME} {ml mh : Option ME}
theorem part_none : PO X none (tPt X.K C Δ none) := po_none
theorem part_some {e : Expr} {m : ME} (h : PE X e (tE X.K C Δ m .fz)) : PO X (some e) (tPt X.K C Δ (some m)) := po_some h
theorem PostE.part {G F H : Hp} {A : AS} {σ : L2.St} {o : O} {Q : VK} {env : Ev} {m : Option ME} {k : Option Int → Ev → RE} {Q1 : Option Int → Hp → Prop} (st : StOk X.K G Δ F H env σ A) (h : PostE X.K C Δ G F H A σ o Q (mPart m env k))
    (hq : ∀ i e1 F1 H1 A1, StOk X.K G Δ F1 H1 e1 σ A1 → Step F H A F1 H1 A1 → PostE X.K C Δ G F1 H1 A1 σ o Q (k i e1) → Q1 i H1) : tPt X.K C Δ m σ H Q1 := by
  cases m with
  | none => exact hq none env F H A st Step.refl h
  | some m =>
    refine ⟨G, F, env, A, st, PostE.bind h fun d e1 F1 H1 A1 v st1 i1 s1 h1 => ?_⟩
    cases d with
    | int i =>
      simp only [Is] at i1
      exact ⟨i, i1, hq (some i) e1 F1 H1 A1 st1 s1 h1⟩
    | _ => exact h1.elim
theorem e_slice {r : V → Option Int → Option Int → Hp → VK → Prop} {f : D → Option Int → Option Int → Option D} (hr : SlR X r) (hf : RelS X.K r f) (he : PE X e (tE X.K C Δ m .fz)) (hl : PO X lo (tPt X.K C Δ ml)) (hu : PO X hi (tPt X.K C Δ mh)) : PE X (.Subscript e (.Slice lo hi none p2) pos) (tE X.K C Δ (mSl f m ml mh) .fz) := by
  refine PE.weak (pe_slice hr he hl hu) fun σ H Q ⟨G, F, env, A, st, h⟩ => ⟨G, F, env, A, st, h.bind fun dx e1 F1 H1 A1 x st1 i1 s1 h1 => PostE.part st1 h1 fun l e2 F2 H2 A2 st2 s2 h2 => PostE.part st2 h2 fun u e3 F3 H3 A3 st3 s3 h3 => ?_⟩
  obtain ⟨dz, e, q⟩ := h3.lift st3
  exact hf F3 H3 x dx l u dz Q st3.le (Is.mono (s2.le.trans s3.le) _ _ i1) e fun F' H' v g i => q g i
/-- t[lo:hi:j], j not 0, not 1 -/
def slD3 (a : D) (lo hi : Option Int) (j : Int) : Option D := match a with
  | .tup ds => if j ≠ 0 ∧ j ≠ 1 ∧ (HT.pickG ds lo hi j).length ≤ 16777216 then some (.tup (HT.pickG ds lo hi j)) else none
  | _ => none
def mSl3 (a : ME) (lo hi : Option ME) (st : ME) : ME := fun e => (a e).bind fun x e1 => mPart lo e1 fun l e2 => mPart hi e2 fun h e3 => mPart (some st) e3 fun j e4 => match j with
  | some j => lift (slD3 x l h j) e4
  | none => .bad
theorem e_slice3 {se : Expr} {ms : ME} (he : PE X e (tE X.K C Δ m .fz)) (hl : PO X lo (tPt X.K C Δ ml)) (hu : PO X hi (tPt X.K C Δ mh)) (hs : PE X se (tE X.K C Δ ms .fz)) : PE X (.Subscript e (.Slice lo hi (some se) p2) pos) (tE X.K C Δ (mSl3 m ml mh ms) .fz) := by
  refine PE.weak (pe_slice3 he hl hu (part_some hs)) fun σ H Q ⟨G, F, env, A, st, h⟩ => ⟨G, F, env, A, st, h.bind fun dx e1 F1 H1 A1 x st1 i1 s1 h1 => PostE.part st1 h1 fun l e2 F2 H2 A2 st2 s2 h2 => PostE.part st2 h2 fun u e3 F3 H3 A3 st3 s3 h3 => PostE.part st3 h3 fun j e4 F4 H4 A4 st4 s4 h4 => ?_⟩
  cases j with
  | none => exact h4.elim
  | some j =>
    obtain ⟨dz, e, q⟩ := PostE.lift (x := slD3 dx l u j) h4 st4
    unfold slD3 at e
    split at e
    · split at e
      · rename_i ds hj
        cases e
        have i4 := Is.mono (s2.le.trans (s3.le.trans s4.le)) _ _ i1
        simp only [Is] at i4
        obtain ⟨p, xs, rfl, p1, p2⟩ := i4
        refine ⟨j, p, xs, rfl, hj.1, hj.2.1, rfl, sqT_mono st4.le p1, by rw [IsL.len (p2.pick l u j), sizeLine_eq]; exact hj.2.2, fun w nw => q (Grow.new st4.le nw) ?_⟩
        simp only [Is]
        exact ⟨w, _, rfl, SqT.of upd_same, IsL.mono (Grow.new st4.le nw).le _ _ (p2.pick l u j)⟩
      · cases e
    · cases e
end
end PT

set_option Elab.async false
set_option linter.all false
set_option maxRecDepth 100000
set_option maxHeartbeats 4000000
/-! PT: lists that are owned -/
namespace PT
open PySem PySem.Spec PyProof.Rows L2

/-- the slot's list may be changed -/
def OwnedL (Δ : Ty) (i : Nat) : Prop := Δ[i]? = some (.ow (.lst .fz)) ∨ ∃ v, Δ[i]? = some (.pr (.lst .fz) v)
section
variable {K : PySem.W.Frag} {C : SC} {Δ : Ty} {G F H : Hp} {A : AS} {σ : L2.St} {env : Ev}
theorem ownL_fz {ds : List D} {xs : List V} {A : AS} : OwnL (Own K F H .fz) ds xs A ↔ IsL K F ds xs ∧ ∀ a, ¬ A a := by
  induction ds generalizing xs A with
  | nil => simp only [OwnL, IsL]
  | cons d ds ih =>
    simp only [OwnL, IsL, Own]
    constructor
    · rintro ⟨y, ys, A1, A2, rfl, ⟨h1, n1⟩, h2, h3, h4⟩
      have := ih.mp h2
      exact ⟨⟨y, ys, rfl, h1, this.1⟩, fun a z => ((h4 a).mp z).elim (n1 a) (this.2 a)⟩
    · rintro ⟨⟨y, ys, rfl, h1, h2⟩, n⟩
      exact ⟨y, ys, A, A, rfl, ⟨h1, n⟩, ih.mpr ⟨h2, n⟩, fun a z => absurd z (n a), fun a => ⟨.inl, fun z => z.elim id id⟩⟩
theorem own_lst {o : O} {d : D} {v : V} {A : AS} : Own K F H (.lst o) d v A ↔ ∃ ds p xs A1, d = .lst ds ∧ v = .ref p ∧ H p = some (.lst xs) ∧ OwnL (Own K F H o) ds xs A1 ∧ ¬ A1 p ∧ ∀ a, A a ↔ a = p ∨ A1 a := by
  rw [Own]
/-- the list of a slot -/
theorem StOk.lst {i : Nat} {d : D} (st : StOk K G Δ F H env σ A) (hd : env[i]? = some (some d)) (ht : OwnedL Δ i) :
    ∃ ds p xs, d = .lst ds ∧ σ[i]? = some (some (.ref p)) ∧ H p = some (.lst xs) ∧ IsL K F ds xs ∧ A p ∧
      ∀ es ys, IsL K F es ys → StOk K G Δ F (upd H p (.lst ys)) (env.set i (some (.lst es))) σ A ∧ Step F H A F (upd H p (.lst ys)) A := by
  obtain ⟨y, A1, A2, h1, h2, h3, h4, h5, h6⟩ := lend st hd ht
  obtain ⟨ds, p, xs, B, rfl, rfl, hp, hl, nB, hA⟩ := own_lst.mp h2
  obtain ⟨il, n⟩ := ownL_fz.mp hl
  have Ap : A p := (h5 p).mpr (.inl ((hA p).mpr (.inl rfl)))
  refine ⟨ds, p, xs, rfl, h1, hp, il, Ap, fun es ys ie => ⟨⟨?_, st.dj, ?_, ?_, st.gd⟩, ⟨fun _ _ h => h, fun a o nA e => ?_, fun a z => .inl z, fun a o e => .inl e, fun a e => ?_⟩⟩⟩
  · have s2 : Slots K G F (upd H p (.lst ys)) Δ (env.set i none) σ A2 := h3.loc (fun _ _ h => h) fun a u z e => by
      rw [upd_ne (fun q => h4 p ((hA p).mpr (.inl rfl)) (by rw [← q]; exact z))]; exact e
    have z := h6 (F' := F) (H' := upd H p (.lst ys)) (d' := .lst es) (A3 := A1) s2 (own_lst.mpr ⟨es, p, ys, B, rfl, rfl, upd_same, ownL_fz.mpr ⟨ie, n⟩, nB, hA⟩) h4
    have e : (fun a => A1 a ∨ A2 a) = A := funext fun a => propext (h5 a).symm
    rw [e] at z
    exact z
  · intro a u e
    have : a ≠ p := fun q => by subst q; rw [st.dj _ Ap] at e; cases e
    rw [upd_ne this]; exact st.le a u e
  · intro a u e
    have : a ≠ p := fun q => by subst q; rw [st.gd _ Ap] at e; cases e
    rw [upd_ne this]; exact st.gl a u e
  · have : a ≠ p := fun q => by subst q; exact nA Ap
    rw [upd_ne this]; exact e
  · by_cases q : a = p
    · subst q; rw [upd_same] at e; cases e
    · rw [upd_ne q] at e; exact e
theorem IsL.set {ds : List D} {xs : List V} {d : D} {v : V} : ∀ {ds : List D} {xs : List V} (j : Nat), IsL K F ds xs → Is K F d v → IsL K F (ds.set j d) (xs.set j v)
  | [], xs, j, h, i => by simp only [IsL] at h; subst h; simp [IsL]
  | e :: ds, xs, 0, h, i => by
    simp only [IsL] at h
    obtain ⟨y, ys, rfl, h1, h2⟩ := h
    simp only [List.set_cons_zero, IsL]
    exact ⟨v, ys, rfl, i, h2⟩
  | e :: ds, xs, j + 1, h, i => by
    simp only [IsL] at h
    obtain ⟨y, ys, rfl, h1, h2⟩ := h
    simp only [List.set_cons_succ, IsL]
    exact ⟨y, _, rfl, h1, IsL.set (ds := ds) (xs := ys) j h2 i⟩
end

/-- the list in a slot -/
def atL (e : Ev) (i : Nat) : Option (List D) := match e[i]? with
  | some (some (.lst ds)) => some ds
  | _ => none
def has (e : Ev) (i : Nat) : Bool := match e[i]? with
  | some (some _) => true
  | _ => false
theorem atL_some {e : Ev} {i : Nat} {ds : List D} (h : atL e i = some ds) : e[i]? = some (some (.lst ds)) := by
  unfold atL at h
  split at h
  · rename_i q; cases h; exact q
  · cases h
theorem has_some {e : Ev} {i : Nat} (h : has e i = true) : ∃ d, e[i]? = some (some d) := by
  unfold has at h
  split at h
  · rename_i d q; exact ⟨d, q⟩
  · cases h
/-- x[i] = value -/
def sOset (i : Nat) (mi mv : ME) : MS := fun e => (mv e).bindS fun v e1 => if has e1 i then (mi e1).bindS fun k e2 => match k, atL e2 i with
  | .int k, some ds => (match ixN ds.length k with
    | some j => .nx (e2.set i (some (.lst (ds.set j v))))
    | none => .bad)
  | _, _ => .bad else .bad
/-- x[i] op= value, ints -/
def sOaug (i : Nat) (mi : ME) (f : D → D → Option D) (mv : ME) : MS := fun e => if has e i then (mi e).bindS fun k e1 => match k, atL e1 i with
  | .int k, some ds => (match atI ds k with
    | some x => (mv e1).bindS fun y e2 => match f x y, atL e2 i with
      | some z, some es => (match ixN es.length k with
        | some j => .nx (e2.set i (some (.lst (es.set j z))))
        | none => .bad)
      | _, _ => .bad
    | none => .bad)
  | _, _ => .bad else .bad
/-- x.append(value) -/
def sApp (i : Nat) (m : ME) : MS := fun e => if has e i then (m e).bindS fun v e1 => match atL e1 i with
  | some ds => if ds.length < 16777216 then .nx (e1.set i (some (.lst (ds ++ [v])))) else .bad
  | none => .bad else .bad
/-- x.pop() -/
def mPop (i : Nat) : ME := fun e => match atL e i with
  | some ds => (match ds[ds.length - 1]? with
    | some d => .ok d (e.set i (some (.lst ds.dropLast)))
    | none => .bad)
  | none => .bad
/-- x[i], x a list that is owned -/
def mOix (i : Nat) (mi : ME) : ME := fun e => if has e i then (mi e).bind fun k e1 => match k, atL e1 i with
  | .int k, some ds => lift (atI ds k) e1
  | _, _ => .bad else .bad
section
variable {X : Cx} {C : SC} {Δ : Ty} {i : Nat} {x : Str} {mi mv m : ME} {a b e : Expr} {pos p1 p2 p3 : Pos}
theorem e_own {d : D} {σ : L2.St} {G F H : Hp} {env : Ev} {A : AS} (st : StOk X.K G Δ F H env σ A) (h : env[i]? = some (some d)) (t : OwnedL Δ i) : ∃ p, σ[i]? = some (some (.ref p)) := by
  obtain ⟨ds, p, xs, _, h, _⟩ := st.lst h t
  exact ⟨p, h⟩
theorem s_oset (t : OwnedL Δ i) (hN : X.N[i]? = some x) (hv : Vis X.env.scope x) (hi : PE X a (tE X.K C Δ mi .fz)) (he : PE X e (tE X.K C Δ mv .fz)) (hd : (x == ("__debug__" : Str)) = false := by decide) (hcd : (x == ("__classdict__" : Str)) = false := by decide)
    (ha : ∀ v, assign (.Subscript (.Name x p1) a p2) X.env v = (do
      let ov ← holding [v] (eval (.Name x p1) X.env)
      let iv ← holding [v, ov] (eval a X.env)
      standAt p2
      holding [v, ov, iv] (setItem ov iv v)
      release [v, ov, iv] []) := by intro _; rfl)
    (hs : swapsWithSole [.Subscript (.Name x p1) a p2] e pos.line X.env = pure false := by rfl) (hw : swappedStores [.Subscript (.Name x p1) a p2] e X.env = pure none := by rfl)
    (h1 : (assignEach [.Subscript (.Name x p1) a p2] X.env).map (·.2) = [assign (.Subscript (.Name x p1) a p2) X.env] := by rfl) :
    PS X (.Assign [.Subscript (.Name x p1) a p2] e pos) (tS X.K C Δ (sOset i mi mv) Δ) := by
  refine PS.weak (ps_asg he (pg_sub (pe_var hN hv hd hcd) hi set_list ha) hs hw h1) fun D σ H ⟨G, F, env, A, st, h⟩ => ⟨G, F, env, A, st, PostS.bindD h fun v e1 F1 H1 A1 y st1 i1 s1 h1 => ?_⟩
  cases q : has e1 i with
  | false => rw [q] at h1; exact h1.elim
  | true =>
    rw [q] at h1
    simp only [if_true] at h1
    obtain ⟨d, hd⟩ := has_some q
    obtain ⟨p, hp⟩ := e_own st1 hd t
    refine ⟨.ref p, hp, G, F1, e1, A1, st1, PostS.bindD h1 fun k e2 F2 H2 A2 z st2 i2 s2 h2 => ?_⟩
    split at h2
    · rename_i k ds hl
      obtain ⟨ds', p', xs, e3, hp', hx, hil, Ap, up⟩ := st2.lst (atL_some hl) t
      cases e3
      rw [hp] at hp'; cases hp'
      simp only [Is] at i2
      subst i2
      split at h2
      · rename_i j hj
        obtain ⟨st3, s3⟩ := up _ _ (IsL.set (ds := ds) (xs := xs) j hil (Is.mono s2.le _ _ i1))
        exact ⟨p, xs, k, j, rfl, rfl, hx, by rw [IsL.len hil]; exact hj, h2 F2 _ A2 σ s3 st3⟩
      · exact h2.elim
    · exact h2.elim
theorem get_listP : PGet X (rIxL X.K) := by
  intro pins s σ H o i ov iv Q I ro ri h
  obtain ⟨p, xs, k, v, rfl, rfl, hq, he, q⟩ := h
  cases ro
  obtain ⟨t, rfl⟩ := ri
  obtain ⟨its, r, pl, hz⟩ := I.list hq
  obtain ⟨j, h1, h2, h3, h4, h5⟩ := atI_get he
  obtain ⟨u, hu, ru⟩ := r.get h2
  have hn := line63
  have hl := r.length
  have fin : EP X pins σ Q u s := ⟨v, H, I, ru, q⟩
  by_cases h0 : 0 ≤ k
  · have hj : k.toNat = j := by
      rw [seqIndex_of h0 h5] at h1
      exact Option.some.inj h1
    exact wpAny_getItem_list pl.isList h0 (by omega) (by rw [hj]; simpa using hu) fin
  · have hj : (k + (its.toArray.size : Int)).toNat = j := by
      rw [seqIndex_neg (by omega) h4] at h1
      rw [List.size_toArray, ← hl]
      exact Option.some.inj h1
    exact wpAny_getItem_list_neg pl.isList (by omega) (by rw [List.size_toArray] <;> omega) (by omega) (by rw [hj]; simpa using hu) fin
theorem s_app (t : OwnedL Δ i) (hN : X.N[i]? = some x) (hv : Vis X.env.scope x) (he : PE X e (tE X.K C Δ m .fz)) (hd : (x == ("__debug__" : Str)) = false := by decide) (hcd : (x == ("__classdict__" : Str)) = false := by decide)
    (hbase : attributeBase (.Name x p1) "append" X.env (eval (.Name x p1) X.env) = eval (.Name x p1) X.env := by rfl)
    (hfew : ((backTo p3 (starEach [e] X.env)).all (fun x => !x.1) && (backToKw p3 (keywordEach [] X.env)).all (fun x => x.1.isSome)
      && decide (([e] : List Expr).length + ([] : List Keyword).length + (if ([] : List Keyword).isEmpty then 0 else 1) < 30)) = true := by rfl)
    (hline : (p2.endLine == p3.line) = true := by rfl) (hs : starEach [e] X.env = (false, eval e X.env) :: starEach [] X.env := by rfl) (hplain : (backTo p3 (starEach [] X.env)).any (·.1) = false := by rfl)
    (hsw : swapsWith (.Call (.Attribute (.Name x p1) "append" p2) [e] [] p3) none pos.line X.env = pure false := by rfl) :
    PS X (.Expr (.Call (.Attribute (.Name x p1) "append" p2) [e] [] p3) pos) (tS X.K C Δ (sApp i m) Δ) := by
  refine PS.weak (ps_expr (pe_bm PySem.F.plainAttrs_list PySem.F.slot_list_append PySem.F.type_list_append mt_append (pe_var hN hv hd hcd) (pa_cons he pa_nil hs) hbase hfew hline hs hplain) hsw) fun D σ H ⟨G, F, env, A, st, h⟩ => ?_
  unfold sApp at h
  cases q : has env i with
  | false => rw [q] at h; exact h.elim
  | true =>
    rw [q] at h
    simp only [if_true] at h
    obtain ⟨d, hd⟩ := has_some q
    obtain ⟨ds, p, xs, rfl, hp, hx, hil, Ap, up⟩ := st.lst hd t
    refine ⟨.ref p, hp, .inl ⟨rfl, xs, .inl (.inl hx)⟩, G, F, env, A, st, PostS.bindD h fun v e1 F1 H1 A1 y st1 i1 s1 h1 => ?_⟩
    split at h1
    · rename_i ds' hl
      obtain ⟨ds'', p', xs', e3, hp', hx', hil', Ap', up'⟩ := st1.lst (atL_some hl) t
      cases e3
      rw [hp] at hp'; cases hp'
      split at h1
      · rename_i hz
        obtain ⟨st3, s3⟩ := up' _ _ (IsL.app hil' (show IsL X.K F1 [v] [y] by simp only [IsL]; exact ⟨y, [], rfl, i1, rfl⟩))
        exact ⟨p, xs', y, rfl, rfl, hx', by rw [IsL.len hil', sizeLine_eq]; exact hz, h1 F1 _ A1 σ s3 st3⟩
      · exact h1.elim
    · exact h1.elim
theorem e_oix (t : OwnedL Δ i) (hN : X.N[i]? = some x) (hv : Vis X.env.scope x) (hi : PE X a (tE X.K C Δ mi .fz)) (hs : PlainIx a) (hd : (x == ("__debug__" : Str)) = false := by decide) (hcd : (x == ("__classdict__" : Str)) = false := by decide) :
    PE X (.Subscript (.Name x p1) a pos) (tE X.K C Δ (mOix i mi) .fz) := by
  refine PE.weak (pe_ix ix_list (pe_var hN hv hd hcd) hi hs) fun σ H Q ⟨G, F, env, A, st, h⟩ => ?_
  unfold mOix at h
  cases q : has env i with
  | false => rw [q] at h; exact h.elim
  | true =>
    rw [q] at h
    simp only [if_true] at h
    obtain ⟨d, hd⟩ := has_some q
    obtain ⟨p, hp⟩ := e_own st hd t
    refine ⟨.ref p, hp, G, F, env, A, st, PostE.bind h fun k e1 F1 H1 A1 y st1 i1 s1 h1 => ?_⟩
    split at h1
    · rename_i k ds hl
      obtain ⟨ds', p', xs, e3, hp', hx, hil, Ap, up⟩ := st1.lst (atL_some hl) t
      cases e3
      rw [hp] at hp'; cases hp'
      obtain ⟨dz, e4, q⟩ := PostE.lift (x := atI ds k) h1 st1
      simp only [Is] at i1
      obtain ⟨v, hv, iv⟩ := IsL.atI hil e4
      exact ⟨p, xs, k, v, rfl, i1, .inl (.inl hx), hv, q (Grow.refl st1.le) iv⟩
    · exact h1.elim
/-- x[i] op= value -/
theorem s_oaug {op : Operator} {tip : TIp} {f : D → D → Option D} (t : OwnedL Δ i) (hN : X.N[i]? = some x) (hv : Vis X.env.scope x) (hi : PE X a (tE X.K C Δ mi .fz)) (he : PE X e (tE X.K C Δ mv .fz)) (hp : PIp X op tip) (hr : Rel2 X.K tip f) (hd : (x == ("__debug__" : Str)) = false := by decide) (hcd : (x == ("__classdict__" : Str)) = false := by decide)
    (ha : ∀ ov iv new, augStore a ov iv new = (do holding [new, ov, iv] (setItem ov iv new); release [new, ov, iv] []; pure .next) := by intros; rfl) :
    PS X (.AugAssign (.Subscript (.Name x p1) a p2) op e pos) (tS X.K C Δ (sOaug i mi f mv) Δ) := by
  refine PS.weak (ps_augS (pe_var hN hv hd hcd) hi get_listP he hp set_list ha) fun D σ H ⟨G, F, env, A, st, h⟩ => ?_
  unfold sOaug at h
  cases q : has env i with
  | false => rw [q] at h; exact h.elim
  | true =>
    rw [q] at h
    simp only [if_true] at h
    obtain ⟨d, hd⟩ := has_some q
    obtain ⟨p, hp⟩ := e_own st hd t
    refine ⟨.ref p, hp, G, F, env, A, st, PostS.bindD h fun k e1 F1 H1 A1 y st1 i1 s1 h1 => ?_⟩
    split at h1
    · rename_i k ds hl
      obtain ⟨ds', p', xs, e3, hp', hx, hil, Ap, up⟩ := st1.lst (atL_some hl) t
      cases e3
      rw [hp] at hp'; cases hp'
      simp only [Is] at i1
      split at h1
      · rename_i x0 hx0
        obtain ⟨v, hv, iv⟩ := IsL.atI hil hx0
        refine ⟨p, xs, k, v, rfl, i1, .inl (.inl hx), hv, G, F1, e1, A1, st1, PostS.bindD h1 fun w e2 F2 H2 A2 z st2 i2 s2 h2 => ?_⟩
        split at h2
        · rename_i z0 es hz hl2
          obtain ⟨ds', p', xs', e3, hp', hx', hil', Ap', up'⟩ := st2.lst (atL_some hl2) t
          cases e3
          rw [hp] at hp'; cases hp'
          refine hr F2 H2 v z x0 w z0 _ st2.le (Is.mono s2.le _ _ iv) i2 hz fun F3 H3 u g i3 => ?_
          split at h2
          · rename_i j hj
            have st3 := st2.grow g
            obtain ⟨ds', p', xs'', e3, hp', hx'', hil'', Ap'', up''⟩ := st3.lst (atL_some hl2) t
            cases e3
            rw [hp] at hp'; cases hp'
            obtain ⟨st4, s4⟩ := up'' _ _ (IsL.set (ds := es) (xs := xs'') j hil'' i3)
            exact ⟨p, xs'', k, j, rfl, i1, hx'', by rw [IsL.len hil'']; exact hj, h2 F3 _ A2 σ (g.step.trans s4) st4⟩
          · exact h2.elim
        · exact h2.elim
      · exact h1.elim
    · exact h1.elim
theorem e_pop (t : OwnedL Δ i) (hN : X.N[i]? = some x) (hv : Vis X.env.scope x) (hd : (x == ("__debug__" : Str)) = false := by decide) (hcd : (x == ("__classdict__" : Str)) = false := by decide)
    (hbase : attributeBase (.Name x p1) "pop" X.env (eval (.Name x p1) X.env) = eval (.Name x p1) X.env := by rfl) (hline : (p2.endLine == pos.line) = true := by rfl) :
    PE X (.Call (.Attribute (.Name x p1) "pop" p2) [] [] pos) (tE X.K C Δ (mPop i) .fz) := by
  refine PE.weak (pe_bm0 PySem.F.plainAttrs_list PySem.F.slot_list_pop PySem.F.type_list_pop mt_pop (pe_var hN hv hd hcd) hbase hline) fun σ H Q ⟨G, F, env, A, st, h⟩ => ?_
  unfold mPop at h
  split at h
  · rename_i ds hl
    obtain ⟨ds', p, xs, e3, hp, hx, hil, Ap, up⟩ := st.lst (atL_some hl) t
    cases e3
    split at h
    · rename_i d hd
      obtain ⟨v, hv, iv⟩ := IsL.get hil hd
      refine ⟨.ref p, hp, .inl ⟨rfl, xs, .inl (.inl hx)⟩, p, xs, v, rfl, rfl, hx, by rw [IsL.len hil]; exact hv, ?_⟩
      obtain ⟨st3, s3⟩ := up ds.dropLast xs.dropLast (by
        rw [List.dropLast_eq_take, List.dropLast_eq_take, IsL.len hil]
        exact IsL.take _ hil)
      exact h F _ A (fun _ => False) v (s3.less fun a z => z.elim id fun z => z.elim) st3 (by simp only [Own]; exact ⟨iv, fun _ z => z⟩) fun _ z => z.elim
    · exact h.elim
  · exact h.elim
end
end PT

set_option Elab.async false
set_option linter.all false
set_option maxRecDepth 100000
set_option maxHeartbeats 4000000
/-! PT: what is owned or lent, read -/
namespace PT
open PySem PySem.Spec PyProof.Rows L2

def ReadO (Δ : Ty) (i : Nat) (o : O) : Prop := Δ[i]? = some (.ow o) ∨ Δ[i]? = some (.sh o) ∨ ∃ v, Δ[i]? = some (.pr o v)
def D.scal : D → Bool
  | .non => true | .bl _ => true | .int _ => true | .str _ => true
  | _ => false
section
variable {K : PySem.W.Frag} {C : SC} {Δ : Ty} {G F H : Hp} {A : AS} {σ : L2.St} {env : Ev} {i : Nat} {o : O}
theorem StOk.rd {d : D} (st : StOk K G Δ F H env σ A) (hd : env[i]? = some (some d)) (ht : ReadO Δ i o) : ∃ y H' B, σ[i]? = some (some y) ∧ Same H' H ∧ Own K F H' o d y B := by
  rcases ht with t | t | ⟨v, t⟩
  · obtain ⟨v, A1, h1, ⟨y, rfl, h2⟩, _⟩ := st.sl.get hd t
    exact ⟨y, H, A1, h1, fun _ _ h => h, h2⟩
  · obtain ⟨v, A1, h1, ⟨_, y, B, rfl, h2⟩, _⟩ := st.sl.get hd t
    exact ⟨y, G, B, h1, st.gl, h2⟩
  · obtain ⟨v', A1, h1, ⟨rfl, h2⟩, _⟩ := st.sl.get hd t
    exact ⟨v, H, A1, h1, fun _ _ h => h, h2⟩
/-- as data, for now -/
theorem StOk.view {d : D} (st : StOk K G Δ F H env σ A) (hd : env[i]? = some (some d)) (ht : ReadO Δ i o) (f : o.frz = true) : ∃ y, σ[i]? = some (some y) ∧ Is K H d y := by
  obtain ⟨y, H', B, h1, h2, h3⟩ := st.rd hd ht
  exact ⟨y, h1, Own.freeze st.le o d y B f (fun a u _ e => h2 _ _ e) h3⟩
theorem StOk.lstR {d : D} (st : StOk K G Δ F H env σ A) (hd : env[i]? = some (some d)) (ht : ReadO Δ i (.lst .fz)) : ∃ ds p xs, d = .lst ds ∧ σ[i]? = some (some (.ref p)) ∧ H p = some (.lst xs) ∧ IsL K F ds xs := by
  obtain ⟨y, H', B, h1, h2, h3⟩ := st.rd hd ht
  obtain ⟨ds, p, xs, A1, rfl, rfl, e, l, _⟩ := own_lst.mp h3
  exact ⟨ds, p, xs, rfl, h1, h2 _ _ e, (ownL_fz.mp l).1⟩
theorem Is.scal {F F' : Hp} {d : D} {v : V} (h : Is K F d v) (s : d.scal = true) : Is K F' d v := by
  cases d <;> first | (simp [D.scal] at s; done) | (simp only [Is] at h ⊢; exact h)
theorem Grow.up {F F1 H1 : Hp} (le : Same F H) (g : Grow H H F1 H1) : Grow F H F H1 := ⟨fun _ _ h => h, g.pres, le.trans g.pres, fun _ _ h => .inl h⟩
end
/-- f(x), x owned or lent, the answer plain -/
def mCallO (i : Nat) (f : List D → Option D) : ME := fun e => match e[i]? with
  | some (some d) => (match f [d] with
    | some z => if z.scal then .ok z e else .bad
    | none => .bad)
  | _ => .bad
/-- x op b, x owned or lent -/
def mBinO (i : Nat) (f : D → D → Option D) (b : ME) : ME := fun e => if has e i then (b e).bind fun y e1 => match e1[i]? with
  | some (some x) => (match f x y with
    | some z => if z.scal then .ok z e1 else .bad
    | none => .bad)
  | _ => .bad else .bad
section
variable {X : Cx} {C : SC} {Δ : Ty} {i : Nat} {o : O} {x : Str} {mi mb m : ME} {a b e : Expr} {pos p1 p2 p3 : Pos}
theorem e_callO {id : String} {y : Str} {p : Pos} {r : List V → Hp → VK → Prop} {f : List D → Option D} (hc : CallR X (.builtin id) r) (hr : RelC X.K r f) (hg : Gl X y) (hm : X.mg y = none) (hb : bootBuiltins y = some (.builtin id)) (t : ReadO Δ i o) (fo : o.frz = true) (hN : X.N[i]? = some x) (hv : Vis X.env.scope x)
    (hd : (x == ("__debug__" : Str)) = false := by decide) (hcd : (x == ("__classdict__" : Str)) = false := by decide)
    (hn : y ≠ "__name__" := by decide) (hdb : (y == ("__debug__" : Str)) = false := by decide) (he : starEach [.Name x p1] X.env = (false, eval (.Name x p1) X.env) :: starEach [] X.env := by rfl) (hpl : (backTo pos (starEach [] X.env)).any (·.1) = false := by rfl) :
    PE X (.Call (.Name y p) [.Name x p1] [] pos) (tE X.K C Δ (mCallO i f) .fz) := by
  refine PE.weak (pe_callB hc hg hm hb (pa_cons (pe_var hN hv hd hcd) pa_nil he) hn hdb he hpl) fun σ H Q ⟨G, F, env, A, st, h⟩ => ?_
  unfold mCallO at h
  split at h
  · rename_i d hd
    obtain ⟨y, hy, iy⟩ := st.view hd t fo
    refine ⟨y, hy, ?_⟩
    split at h
    · rename_i z hz
      split at h
      · rename_i sz
        exact hr H H [y] [d] z Q (fun _ _ h => h) (by simp only [IsL]; exact ⟨y, [], rfl, iy, rfl⟩) hz fun F' H' v g iv => h.val st (Grow.up st.le g) (iv.scal sz)
      · exact h.elim
    · exact h.elim
  · exact h.elim
theorem e_cmpO {op : CmpOp} {r : R2} {f : D → D → Option D} (ho : OpR X (compareOp op) r) (hr : Rel2 X.K r f) (t : ReadO Δ i o) (fo : o.frz = true) (hN : X.N[i]? = some x) (hv : Vis X.env.scope x) (hb : PE X b (tE X.K C Δ mb .fz)) (hm : behindInMarks op b = false)
    (hd : (x == ("__debug__" : Str)) = false := by decide) (hcd : (x == ("__classdict__" : Str)) = false := by decide) : PE X (.Compare (.Name x p1) [op] [b] pos) (tE X.K C Δ (mBinO i f mb) .fz) := by
  refine PE.weak (pe_cmpR ho (pe_var hN hv hd hcd) hb hm) fun σ H Q ⟨G, F, env, A, st, h⟩ => ?_
  unfold mBinO at h
  cases q : has env i with
  | false => rw [q] at h; exact h.elim
  | true =>
    rw [q] at h
    simp only [if_true] at h
    obtain ⟨d, hd⟩ := has_some q
    obtain ⟨y, hy, _⟩ := st.view hd t fo
    refine ⟨y, hy, G, F, env, A, st, h.bind fun dy e1 F1 H1 A1 w st1 i1 s1 h1 => ?_⟩
    split at h1
    · rename_i d1 hd1
      obtain ⟨y', hy', iy'⟩ := st1.view hd1 t fo
      rw [hy] at hy'; cases hy'
      split at h1
      · rename_i z hz
        split at h1
        · rename_i sz
          exact hr H1 H1 y w d1 dy z Q (fun _ _ h => h) iy' (Is.mono st1.le _ _ i1) hz fun F' H' v g iv => h1.val st1 (Grow.up st1.le g) (iv.scal sz)
        · exact h1.elim
      · exact h1.elim
    · exact h1.elim
theorem e_rix (t : ReadO Δ i (.lst .fz)) (hN : X.N[i]? = some x) (hv : Vis X.env.scope x) (hi : PE X a (tE X.K C Δ mi .fz)) (hs : PlainIx a) (hd : (x == ("__debug__" : Str)) = false := by decide) (hcd : (x == ("__classdict__" : Str)) = false := by decide) :
    PE X (.Subscript (.Name x p1) a pos) (tE X.K C Δ (mOix i mi) .fz) := by
  refine PE.weak (pe_ix ix_list (pe_var hN hv hd hcd) hi hs) fun σ H Q ⟨G, F, env, A, st, h⟩ => ?_
  unfold mOix at h
  cases q : has env i with
  | false => rw [q] at h; exact h.elim
  | true =>
    rw [q] at h
    simp only [if_true] at h
    obtain ⟨d, hd⟩ := has_some q
    obtain ⟨ds0, p, xs0, _, hp, _⟩ := st.lstR hd t
    refine ⟨.ref p, hp, G, F, env, A, st, PostE.bind h fun k e1 F1 H1 A1 y st1 i1 s1 h1 => ?_⟩
    split at h1
    · rename_i k ds hl
      obtain ⟨ds', p', xs, e3, hp', hx, hil⟩ := st1.lstR (atL_some hl) t
      cases e3
      rw [hp] at hp'; cases hp'
      obtain ⟨dz, e4, q⟩ := PostE.lift (x := atI ds k) h1 st1
      simp only [Is] at i1
      obtain ⟨v, hv, iv⟩ := IsL.atI hil e4
      exact ⟨p, xs, k, v, rfl, i1, .inl (.inl hx), hv, q (Grow.refl st1.le) iv⟩
    · exact h1.elim
end
/-! ### freezing a slot -/
section
variable {K : PySem.W.Frag} {C : SC} {Δ Δ' : Ty} {G F H : Hp} {A : AS} {σ : L2.St} {env : Ev} {i : Nat} {o : O}
theorem Slots.retype {s' : SO} : ∀ {Δ : Ty} {env : Ev} {σ : L2.St} {A : AS} {i : Nat}, Slots K G F H Δ env σ A → env[i]? = some none → Slots K G F H (Δ.set i s') env σ A
  | [], env, σ, A, i, h, e => by obtain ⟨rfl, _⟩ := h; simp at e
  | s :: Δ, env, σ, A, 0, h, e => by
    obtain ⟨x, e0, v, r, A1, A2, rfl, rfl, h1, h2, h3, h4⟩ := h
    simp at e
    subst e
    exact ⟨none, e0, v, r, A1, A2, rfl, rfl, h1, h2, h3, h4⟩
  | s :: Δ, env, σ, A, i + 1, h, e => by
    obtain ⟨x, e0, v, r, A1, A2, rfl, rfl, h1, h2, h3, h4⟩ := h
    exact ⟨x, e0, v, r, A1, A2, rfl, rfl, h1, Slots.retype h2 (by simpa using e), h3, h4⟩
/-- an owned slot becomes data (or stays empty) -/
theorem StOk.freeze (t : Δ[i]? = some (.ow o)) (f : o.frz = true) (st : StOk K G Δ F H env σ A) : ∃ F' A', Same F F' ∧ Step F H A F' H A' ∧ StOk K G (Δ.set i (.ow .fz)) F' H env σ A' := by
  have hi : i < Δ.length := (List.getElem?_eq_some_iff.mp t).1
  have l1 := st.len.1
  cases he : env[i]? with
  | none => rw [List.getElem?_eq_none_iff] at he; omega
  | some x =>
    cases x with
    | none => exact ⟨F, A, fun _ _ h => h, Step.refl, st.sl.retype he, st.dj, st.le, st.gl, st.gd⟩
    | some d =>
      obtain ⟨v, A1, A2, h1, ⟨y, rfl, own⟩, h3, h4, h5⟩ := st.sl.take he t
      have sm : Same F (addH F H A1) := addH_same fun a z => st.dj a ((h5 a).mpr (.inl z))
      have le : Same (addH F H A1) H := addH_le st.le
      have z := (h3.loc sm fun _ _ _ e => e).retype (s' := .ow .fz) (i := i) (by simp [l1, hi])
      have z2 := Slots.put (i := i) (d := d) (s := .ow .fz) (v := some y) (A1 := fun _ => False) z (by simp [l1, hi]) (by simp [hi]) h1 ⟨y, rfl, by simp only [Own]; exact ⟨Own.freeze sm o d y A1 f (fun a u z e => by rw [addH_in z]; exact e) own, fun _ z => z⟩⟩ fun _ z => z.elim
      have e3 : (env.set i none).set i (some d) = env := by
        rw [List.set_set]
        exact List.ext_getElem? fun j => by
          by_cases hj : i = j
          · subst hj; rw [List.getElem?_set_self (by omega), he]
          · rw [List.getElem?_set_ne hj]
      rw [e3] at z2
      refine ⟨addH F H A1, fun a => False ∨ A2 a, sm, ⟨sm, fun _ _ _ e => e, fun a z => .inl ((h5 a).mpr (.inr (z.elim (fun z => z.elim) id))), fun a u e => ?_, fun _ e => e⟩, z2, fun a z => ?_, le, st.gl, fun a z => st.gd a ((h5 a).mpr (.inr (z.elim (fun z => z.elim) id)))⟩
      · by_cases q : A1 a
        · exact .inr (.inl ((h5 a).mpr (.inl q)))
        · rw [addH_out q] at e; exact .inl e
      · have z : A2 a := z.elim (fun z => z.elim) id
        rw [addH_out fun q => h4 a q z]
        exact st.dj a ((h5 a).mpr (.inr z))
end
section
variable {X : Cx} {C : SC} {Δ Δ' : Ty} {i : Nat} {o : O} {m : MS} {ss : List Stmt} {s0 : Stmt}
/-- ahead of these statements a slot is frozen -/
theorem s_frz (t : Δ[i]? = some (.ow o)) (f : o.frz = true) (h : PSs X ss (tS X.K C (Δ.set i (.ow .fz)) m Δ')) : PSs X ss (tS X.K C Δ m Δ') := by
  refine PSs.weak h fun D σ H ⟨G, F, env, A, st, h⟩ => ?_
  obtain ⟨F', A', le, s, st'⟩ := st.freeze t f
  exact ⟨G, F', env, A', st', PostS.base s h⟩
theorem s_frz1 (t : Δ[i]? = some (.ow o)) (f : o.frz = true) (h : PS X s0 (tS X.K C (Δ.set i (.ow .fz)) m Δ')) : PS X s0 (tS X.K C Δ m Δ') := by
  refine PS.weak h fun D σ H ⟨G, F, env, A, st, h⟩ => ?_
  obtain ⟨F', A', le, s, st'⟩ := st.freeze t f
  exact ⟨G, F', env, A', st', PostS.base s h⟩
end
end PT

set_option Elab.async false
set_option linter.all false
set_option maxRecDepth 100000
set_option maxHeartbeats 4000000
/-! PT: an own error below Exception whose __init__ calls super().__init__(text) and keeps one thing -/
namespace PTX
open PySem PySem.W PySem.Calls PyProof.Rows
abbrev bmE : List Value := [.type "Exception", .type "BaseException", .type "object"]
/-- super().__init__(text) -/
abbrev iCall (msg : Str) (j : Nat) (p0 p1 p2 p3 p4 : Pos) : Expr := .Call (.Attribute (.Call (.Name "super" p0) [] [] p1) "__init__" p2) [.Constant (.str msg) j p3] [] p4
/-- the body of __init__ -/
abbrev iBody (f a msg : Str) (j : Nat) (p0 p1 p2 p3 p4 p5 p6 p7 p8 p9 : Pos) : List Stmt := [.Expr (iCall msg j p0 p1 p2 p3 p4) p5, .Assign [.Attribute (.Name "self" p6) f p7] (.Name a p8) p9]
/-- the text of __init__: its parameters, its scope; closed by computation where they are told -/
structure IT (f a msg : Str) (params : Arguments) (scope : Scope) (j : Nat) (p0 p1 p2 p3 p4 p5 p6 p7 p8 p9 : Pos) : Prop where
  head : ∃ ar, (params.posonlyargs ++ params.args).head? = some ar ∧ ar.arg = "self"
  kind : scope.kind = .function
  co : scope.isCoroutine = false
  gen : scope.isGenerator = false
  nsup : scope.names.lookup ("super" : Str) = some .globalImplicit
  ncls : scope.names.lookup ("__class__" : Str) = some .free
  nself : scope.names.lookup ("self" : Str) = some .local
  na : scope.names.lookup a = some .local
  ncell : ∀ x ∈ scope.names, x.2 ≠ .cell
  ane : (("self" : Str) == a) = false
  adb : (a == ("__debug__" : Str)) = false
  bind : ∀ qual cl doc pm an cdv ct u1 u2, bindArgs (fnX "__init__" qual params (iBody f a msg j p0 p1 p2 p3 p4 p5 p6 p7 p8 p9) scope cl .none .none doc pm an cdv ct) ⟨[u1, u2], []⟩ = pure [(("self" : Str), u1), (a, u2)]
  ev : ∀ qual cl cdv L fI, ∃ pl : Sem Bool, eval (iCall msg j p0 p1 p2 p3 p4) (envX qual scope L fI cdv cl) = (do
      let ov ← attributeBase (.Call (.Name "super" p0) [] [] p1) "__init__" (envX qual scope L fI cdv cl) (eval (.Call (.Name "super" p0) [] [] p1) (envX qual scope L fI cdv cl))
      standAt p2.atName
      let (f, first) ← holding [ov] (getMethod ov "__init__" pl)
      callWith p4 f first (backTo p4 (starEach [.Constant (.str msg) j p3] (envX qual scope L fI cdv cl))) [])
  act : ∀ qual cl cdv L fI, interactive (envX qual scope L fI cdv cl) = false
  sw1 : ∀ qual cl cdv L fI, swapsWith (iCall msg j p0 p1 p2 p3 p4) none p5.line (envX qual scope L fI cdv cl) = pure false
  sw2 : ∀ qual cl cdv L fI, swapsWith (.Name a p8) (some (.Attribute (.Name "self" p6) f p7)) p9.line (envX qual scope L fI cdv cl) = pure false
/-- what the written part says of the class at C, its field f, its __init__'s parameter a -/
structure ExT (P : Program) (K : Frag) (C fI : Addr) (f a msg : Str) : Prop where
  init : excInitIn K C bmE "Exception.__new__" = true
  over : excOver K C bmE = true
  ini : findIn K (.ref C) "__init__" = some (some (.ref fI))
  isf : isFn K (.ref fI) = true
  keep : keepIn K (.ref C) = true
  sa : findIn K (.ref C) "__setattr__" = some (some (.builtin "object.__setattr__"))
  ga : findIn K (.ref C) "__getattribute__" = some (some (.builtin "BaseException.__getattribute__"))
  gg : findIn K (.ref C) "__getattr__" = some none
  noF : findIn K (.ref C) f = some none
  hd : hasDictIn K C = true
  exB : subIn K (.ref C) (.type "BaseException") = some true
  exE : subIn K (.ref C) (.type "Exception") = some true
  tyC : typeIn K (.ref C) = some (.type "type")
  sup : ks_superIn K C C "__init__" = some (some (.builtin "Exception.__init__"))
  mro : mroIn K C (.ref C) = some true
  ns : nsIn K mainGlobals "super" = some none
  opq : nsIn K cStatics "thirdparty.any" = some none
  top : (P.main.scope.names.lookup ("super" : Str)).isSome = false
  fn : ∃ oc od osl qual params scope doc pm an cda ct cc j p0 p1 p2 p3 p4 p5 p6 p7 p8 p9, K.lookup fI = some ⟨oc, od, .func (fnX "__init__" qual params (iBody f a msg j p0 p1 p2 p3 p4 p5 p6 p7 p8 p9) scope [("__class__", cc)] .none .none doc pm an (.ref cda) ct), osl⟩ ∧ codeIn K (.ref cda) qual = true ∧
    (∃ cl cld csl, K.lookup cc = some ⟨cl, cld, .cell (some (.ref C)), csl⟩) ∧ (∃ ccl cdd vs ccs file tf, K.lookup cda = some ⟨ccl, cdd, .fields vs, ccs⟩ ∧ vs[2]? = some (.str file tf) ∧ ((P.main.file : Str) == file) = true) ∧ IT f a msg params scope j p0 p1 p2 p3 p4 p5 p6 p7 p8 p9
/-- a made one -/
structure Made (h h' : Heap) (e C d : Addr) (f : Str) (v : Value) : Prop where
  keep : ∀ b o, h.get? b = some o → h'.get? b = some o
  new : h.objs.size ≤ e
  obj : ∃ oe vs, h'.get? e = some oe ∧ oe.cls = .ref C ∧ oe.dict = some d ∧ oe.data = .fields vs ∧ vs[1]? = some .none
  dbig : h.objs.size ≤ d
  dne : d ≠ e
  ns : h'.Ns1 d (fun y => if y = f then some v else none)
section
variable {prog : Program} {w : World} {A : Around} {E : Value → Shared → Prop} {R : Result → Shared → Prop} {s : Shared} {K : Frag} {mg : Str → Option Value} {C fI : Addr} {f a msg : Str} {base : Heap}
/-- the store of the thing that is kept -/
theorem store_new {name : Str} {tk : Tok} {v : Value} {x t0 : Addr} (X : K.In s.heap) (hx : s.heap.get? x = some (excObj C t0 none .none)) (hp : excOver K C bmE = true) (ht : takerIn K C name = some none) (hh : hasDictIn K C = true)
    (hq : ∀ h' tk' dx, (∀ b o, b ≠ x → s.heap.get? b = some o → h'.get? b = some o) → s.heap.objs.size ≤ dx → dx ≠ x → h'.get? x = some (excObj C t0 (some dx) .none) → h'.Ns1 dx (fun y => if y = name then some v else none) → R (.ok (.ret .none)) { s with heap := h', toks := tk' }) :
    codeAny (model prog w) A (.call (.builtin "object.__setattr__") ⟨[.ref x, .str name tk, v], []⟩) R s := by
  have hxs : x ≠ s.heap.objs.size := Nat.ne_of_lt (Heap.lt_size hx)
  refine osa_openX (od := none) PySem.F.store_Exception X ⟨hx, rfl, rfl, trivial⟩ hp ht fun b => ?_
  obtain ⟨cd, hc, hd'⟩ := any_some hh
  refine wpAny_bind (wpAny_pure (wpAny_bind (instanceDict_exc hx (looks_clsIn X hc) hd' ?_)))
  obtain ⟨hp', g, d, t, os⟩ := s
  show wpAny _ _ (Builtin.ObjectAttr.storeInDict hp'.objs.size (.str name tk) name v) _ _ _
  refine PySem.PX.store_in_new ?_ fun h' tk' hn' hs => ?_
  · exact ⟨_, #[], _, (Heap.get?_update_ne _ _ _ _ hxs.symm).trans (Heap.get?_push_at rfl rfl), rfl, fun e he => absurd he (by simp), fun _ => rfl⟩
  · have hx₁ : (hp'.push (dictOf [] 0)).get? x = some (excObj C t0 none .none) := Heap.get?_push_of_some _ hx
    refine hq h' tk' hp'.objs.size (fun b o hb ho => ?_) (Nat.le_refl _) hxs.symm ?_ hn'
    · exact (hs.2 b (Nat.ne_of_lt (Heap.lt_size ho))).trans ((Heap.get?_update_ne _ _ _ _ hb).trans (Heap.get?_push_of_some _ ho))
    · exact (hs.2 x hxs).trans (Heap.get?_update_self _ hx₁ rfl)
theorem ex_init (T : ExT prog K C fI f a msg) (B : L2.Mod K mg base) (hb : ∀ b o, base.get? b = some o → s.heap.get? b = some o) {x t0 : Addr} {v : Value} {u0 : Obj} (X : K.In s.heap) (hx : s.heap.get? x = some (excObj C t0 none .none)) (ht : s.heap.get? t0 = some u0) (hxt : x ≠ t0) (hnx : K.lookup x = none) (hnt : K.lookup t0 = none) (hroom : A.depth < recursionLimit)
    (hq : ∀ h' tk t1 dx, (∀ b o, b ≠ x → s.heap.get? b = some o → h'.get? b = some o) → h'.get? x = some (excObj C t1 (some dx) .none) → s.heap.objs.size ≤ dx → dx ≠ x → h'.Ns1 dx (fun y => if y = f then some v else none) → R (.ok (.ret .none)) { s with heap := h', toks := tk }) :
    codeAny (model prog w) A (.call (.ref fI) ⟨[.ref x, v], []⟩) R s := by
  obtain ⟨oc, od, osl, qual, params, scope, doc, pm, an, cda, ct, cc, j, p0, p1, p2, p3, p4, p5, p6, p7, p8, p9, ho, hcd, ⟨cl, cld, csl, hcc⟩, ⟨ccl, cdd, vs, ccs, file, tf, hcode, hvs, hfile⟩, I⟩ := T.fn
  refine ks_codeAny_call_defAt (fd := fnX "__init__" qual params _ scope [("__class__", cc)] .none .none doc pm an (.ref cda) ct) (body := iBody f a msg j p0 p1 p2 p3 p4 p5 p6 p7 p8 p9) (binds := [("self", .ref x), (a, v)]) hroom (X _ _ ho) rfl (B.nolimit.keeps hb) (codeRec_of X hcd) rfl (BindsTo.of_eq (I.bind _ _ _ _ _ _ _ _ _)) I.ncell (fun y hy => ?_) (fun h₁ hns hk₁ => ?_) I.co I.gen I.kind
  · rcases List.mem_cons.mp hy with rfl | hy
    · exact I.nself
    · rcases List.mem_cons.mp hy with rfl | hy
      · exact I.na
      · cases hy
  -- the frame over what stands, but for the new error
  let g := hideAll s.heap [x, t0]
  have gx : g.get? x = none := hideAll_none _ (by simp)
  have gt : g.get? t0 = none := hideAll_none _ (by simp)
  have F : Fr g s.heap.objs.size h₁ (fun y => ([("self", Value.ref x), (a, v)] : List (Str × Value)).reverse.lookup y) := ⟨hns, fun b o e => hk₁ b o (of_hideAll _ e), Nat.le_of_eq (hideAll_size _ _)⟩
  have Xg : K.In g := fun b o e => hideAll_get _ (X b o e) (by
    intro z
    rcases List.mem_cons.mp z with rfl | z
    · rw [hnx] at e; cases e
    · rcases List.mem_cons.mp z with rfl | z
      · rw [hnt] at e; cases e
      · cases z)
  have N : News g s.heap.objs.size h₁ [(x, excObj C t0 none .none), (t0, u0)] := fun p hp => by
    rcases List.mem_cons.mp hp with rfl | hp
    · exact ⟨hk₁ _ _ hx, Nat.ne_of_lt (Heap.lt_size hx), gx⟩
    · rcases List.mem_cons.mp hp with rfl | hp
      · exact ⟨hk₁ _ _ ht, Nat.ne_of_lt (Heap.lt_size ht), gt⟩
      · cases hp
  have hself : ([("self", Value.ref x), (a, v)] : List (Str × Value)).reverse.lookup ("self" : Str) = some (.ref x) := by
    simp [List.lookup, I.ane]
  have hval : ([("self", Value.ref x), (a, v)] : List (Str × Value)).reverse.lookup a = some v := by simp [List.lookup]
  obtain ⟨cdD, hD⟩ : ∃ cdD, clsIn K C = some cdD := by
    cases e : clsIn K C with
    | none =>
      have z := T.mro
      unfold mroIn at z
      rw [e] at z; cases z
    | some cd => exact ⟨cd, rfl⟩
  have kb : ∀ b o, base.get? b = some o → h₁.get? b = some o := fun b o e => hk₁ b o (hb b o e)
  obtain ⟨ar, har, hs⟩ := I.head
  obtain ⟨hp, gs, dr, tk, os⟩ := s
  obtain ⟨pl, hev⟩ := I.ev qual [("__class__", cc)] (.ref cda) hp.objs.size fI
  have lt1 : hp.objs.size < h₁.objs.size := hns.lt
  show _root_.PySem.wpAt _ _ _ (execs (iBody f a msg j p0 p1 p2 p3 p4 p5 p6 p7 p8 p9) (envX qual scope hp.objs.size fI (.ref cda) [("__class__", cc)])) _ _ _
  refine ks_wpAt_execs_cons (ks_wpAt_Expr_any (ks_wpAt_MethodCall (pl := pl) ?_ hev) (I.act _ _ _ _ _) (I.sw1 _ _ _ _ _))
  -- super()
  have X₁ : K.In h₁ := Xg.keeps F.keep
  obtain ⟨oD, hD1, hD2⟩ : ∃ oD, h₁.get? C = some oD ∧ oD.data = .cls cdD := by
    unfold clsIn at hD
    split at hD
    · rename_i c d cd' sl ho
      cases hD
      exact ⟨_, X₁ _ _ ho, rfl⟩
    · cases hD
  obtain ⟨mb, hmb, hbt⟩ := B.blt
  refine ks_wpAt_super_base (env := ksEnv qual scope _ fI (.ref cda) cc) I.nsup I.ncls rfl rfl (X₁ _ _ ho) rfl har rfl (X₁ _ _ hcode) rfl hvs hfile T.top ?_
  refine ks_loadName_global I.kind I.nsup (loadGlobal_builtin (env := ksEnv qual scope _ fI (.ref cda) cc) (B.glob.keeps kb) (mg_none_of B.kin B.glob T.ns) (hmb.keeps kb) ((hbt _ (by decide +kernel)).trans (by first | rfl | decide +kernel | kernel_rfl)) ⟨rfl, ?_⟩)
  refine wpAny_loadName_free I.kind I.ncls rfl ⟨_, X₁ _ _ hcc, rfl⟩ ?_
  rw [hs]
  refine wpAny_loadName_local I.kind I.nself F.ns hself ?_
  refine ks_wpAny_isType_cls hD1 hD2 ⟨rfl, ?_⟩
  refine ks_wpAny_call_super hD1 hD2 (N _ List.mem_cons_self).1 rfl (fun c e => by cases e) (looks_mroIn X₁ T.mro) (fun h2 e2 k2 => ?_)
  obtain ⟨F2, N2, l2⟩ := ks_newsPush (s := ⟨h₁, gs, dr, tk + 2, os⟩) F N rfl e2 k2
  -- .__init__
  refine kxs_method (s := ⟨h2, gs, dr, tk + 2, os⟩) kxs_Exception F2 Xg N2 List.mem_cons_self (InstAt.of_exc0 (t := t0) (c2 := .none) N2 (List.mem_cons_of_mem _ List.mem_cons_self)) T.opq T.sup T.exE rfl fun u h3 F3 N3 l3 => ?_
  -- (text)
  refine kxs_callWith1 N3 List.mem_cons_self ?_ (by rfl) (by rfl)
  have ux : u ≠ x := Ne.symm (Nat.ne_of_lt (l3 (x, excObj C t0 none .none) (by simp)))
  have sx : h₁.objs.size ≠ x := Ne.symm (Nat.ne_of_lt (l2 (x, excObj C t0 none .none) (by simp)))
  refine PyProof.Rows.args_cons (Constant_str (PyProof.Rows.args_nil ⟨kxs_at N3 List.mem_cons_self, ?_⟩)) (by rfl)
  have U : UpdF x (excObj C t0 none .none) [(u, kxs_mw "Exception.__init__" x), (h₁.objs.size, ks_superObj C x C), (x, excObj C t0 none .none), (t0, u0)] (fun o' => [(u, kxs_mw "Exception.__init__" x), (h₁.objs.size, ks_superObj C x C), (x, o'), (t0, u0)]) :=
    .tail ux (.tail sx (.head fun p hp => by
      rcases List.mem_cons.mp hp with rfl | hp
      · exact fun z => hxt z.symm
      · cases hp))
  refine kxs_call (s := ⟨h3, gs, dr, _, os⟩) F3 Xg N3 PySem.F.excBase_Exception T.init List.mem_cons_self U (by show 1 ≤ sizeLine; rw [sizeLine_eq]; decide) fun t1 h4 F4 N4 l4 => ?_
  -- self.f = a
  have hx4 : h4.get? x = some (excObj C t1 none .none) := (N4 (x, excObj C t1 none .none) (by simp)).1
  refine ks_wpAt_execs_cons (ks_wpAt_Assign_Attr (wpAt_of_wpAny (wpAny_Name (wpAny_loadName_local I.kind I.na F4.ns hval (wpAny_Name (wpAny_loadName_local I.kind I.nself F4.ns hself ?_) (by decide))) I.adb)) (I.sw2 _ _ _ _ _))
  have X4 : K.In h4 := Xg.keeps F4.keep
  refine set_plain X4 (od := none) ⟨hx4, rfl, rfl, trivial⟩ T.sa ?_
  refine store_new X4 hx4 T.over (by unfold takerIn; rw [T.noF]; rfl) T.hd fun h5 tk5 dx k5 db dn hx5 ns5 => ?_
  have keep : ∀ b o, b ≠ x → hp.get? b = some o → h4.get? b = some o := fun b o hb e => by
    by_cases q : b = t0
    · rw [q] at e ⊢
      have e' := e.symm.trans ht
      cases e'
      exact (N4 (t0, u0) (by simp)).1
    · exact F4.keep b o (hideAll_get _ e (by simp [hb, q]))
  refine wpAt_of_wpAny (wpAny_execs_nil (hq h5 tk5 t1 dx (fun b o hb e => k5 b o hb (keep b o hb e)) hx5 ?_ dn ns5))
  obtain ⟨oL, _, _, hL, _⟩ := F4.ns
  exact Nat.le_trans (Nat.le_of_lt (Heap.lt_size hL)) db
theorem ex_made (T : ExT prog K C fI f a msg) (B : L2.Mod K mg base) (hb : ∀ b o, base.get? b = some o → s.heap.get? b = some o) {v : Value} (X : K.In s.heap) (hroom : A.depth + 1 < recursionLimit)
    (hq : ∀ h' tk e d, Made s.heap h' e C d f v → R (.ok (.ret (.ref e))) { s with heap := h', toks := tk }) :
    codeAny (model prog w) A (.call (.ref C) ⟨[v], []⟩) R s := by
  obtain ⟨nm, N', qn, bs, bm, hdct, sn, sub, ab, col, dd, k0, k1, k2, k3, k5, hC, hT⟩ := excInit_of X T.init
  obtain ⟨oI, hoI, hcI⟩ : ∃ oI, s.heap.get? fI = some oI ∧ oI.cls = .type "function" := by
    obtain ⟨o, ho, hc⟩ := Option.map_eq_some_iff.mp (show (K.lookup fI).map (·.cls) = some (.type "function") from beq_iff_eq.mp T.isf)
    exact ⟨o, X _ _ ho, hc⟩
  obtain ⟨hp, g, dr, tk, os⟩ := s
  have k : ∀ b o, hp.get? b = some o → ((hp.push (kdv_tup [v])).push (PySem.PX.excO C hp.objs.size)).get? b = some o := fun b o e => Heap.get?_push_of_some _ (Heap.get?_push_of_some _ e)
  have hget : ((hp.push (kdv_tup [v])).push (PySem.PX.excO C hp.objs.size)).get? (hp.objs.size + 1) = some (excObj C hp.objs.size none .none) := by heap_get
  have hgt : ((hp.push (kdv_tup [v])).push (PySem.PX.excO C hp.objs.size)).get? hp.objs.size = some (kdv_tup [v]) := Heap.get?_push_of_some _ (Heap.get?_push_at rfl rfl)
  have hn : ∀ b, hp.objs.size ≤ b → K.lookup b = none := fun b hb => by
    cases e : K.lookup b with
    | none => rfl
    | some o => exact absurd (Heap.lt_size (X _ _ e)) (Nat.not_lt.mpr hb)
  refine PySem.PX.call_own PySem.F.excBase_Exception hT hC (looks_findIn X T.ini) (fun self => exc_bind hoI hcI self) (by show 1 ≤ sizeLine; rw [sizeLine_eq]; decide) ?_
  refine ex_init (s := ⟨(hp.push (kdv_tup [v])).push (PySem.PX.excO C hp.objs.size), g, dr, tk, os⟩) T B (fun b o e => k b o (hb b o e)) (X.keeps k) hget hgt (Nat.succ_ne_self _) (hn _ (Nat.le_succ _)) (hn _ (Nat.le_refl _)) ?_ fun h' tk' t1 dx kp hx db dn hns => ?_
  · show A.depth + 1 < recursionLimit
    exact hroom
  · have old : ∀ b o, hp.get? b = some o → h'.get? b = some o := fun b o e => kp b o (Nat.ne_of_lt (Nat.lt_succ_of_lt (Heap.lt_size e))) (k b o e)
    have z : hp.objs.size + 1 + 1 ≤ dx := by
      have q := db
      first
        | (simpa only [Heap.size_push] using db)
        | (rw [Heap.size_push, Heap.size_push] at q; exact q)
    exact ⟨rfl, hq h' tk' (hp.objs.size + 1) dx ⟨old, Nat.le_succ _, ⟨_, _, hx, rfl, rfl, rfl, rfl⟩, Nat.le_trans (Nat.le_trans (Nat.le_succ _) (Nat.le_succ _)) z, dn, hns⟩⟩
end
end PTX

set_option Elab.async false
set_option linter.all false
set_option maxRecDepth 100000
set_option maxHeartbeats 4000000
/-! PT: raise, try -/
namespace PT
open PySem PySem.Spec PyProof.Rows L2

theorem relO_one {f : Str} {v : V} {v' : Value} (r : RelV v v') (g : Str) : RelO (List.lookup g [(f, v)]) (if g = f then some v' else none) := by
  by_cases hw : g = f
  · subst hw
    rw [if_pos rfl]
    have q : List.lookup g [(g, v)] = some v := by simp [List.lookup]
    rw [q]
    exact r
  · rw [if_neg hw]
    have qw : (g == f) = false := by simpa using hw
    have q2 : List.lookup g [(f, v)] = none := by simp [List.lookup, qw]
    rw [q2]
    trivial
/-- C(e) -/
def tMkE (C : Addr) (f : Str) (ta : TA) : L2.St → Hp → XK → Prop := fun σ H Q => ta σ H fun vs H1 => ∃ v, vs = [v] ∧ ∀ d, H1 d = none → Q (.ref C) (some d) (upd H1 d (.xd [(f, v)]))
section
variable {X : Cx} {C : SC} {Δ Δ' : Ty}
theorem pmk_ex {x : Str} {Ca fI : Addr} {f a msg : Str} {e : Expr} {ta : TA} {p pos : Pos} {k : Nat} (T : PTX.ExT X.prog X.K Ca fI f a msg) (hm : X.mg x = some (.ref Ca)) (hr : Room k X.A) (ha : PA X [e] ta) (hg : Gl X x)
    (hdb : (x == ("__debug__" : Str)) = false := by decide) (he : starEach (e :: []) X.env = (false, eval e X.env) :: starEach [] X.env := by rfl) (hpl : (backTo pos (starEach [] X.env)).any (·.1) = false := by rfl) :
    PMk X (.Call (.Name x p) [e] [] pos) (tMkE Ca f ta) := by
  intro pins s σ H Q I h
  refine wpAny_Call_Name_kw (ld_glob I hg hm ?_ hdb)
  refine PySem.W.callWith_K (h₀ := X.base) I.ok.mod.kin T.keep (thn (ha.run pos pins s σ H _ I h) fun us s1 hh => ?_) he hpl
  obtain ⟨vs, H1, I1, r1, v, ev, q1⟩ := hh
  subst ev
  refine ⟨I1.kIn, ?_⟩
  cases r1 with
  | cons rv rn =>
    rename_i v' us'
    cases rn
    show wpAny _ _ (call (.ref Ca) [v']) _ _ _
    have hbk := I1.bk
    obtain ⟨hp, g, dr, tk, os⟩ := s1
    refine wpAny_call (PTX.ex_made T I1.mod hbk I1.kIn (by have := hr.dp; omega) fun h' tk' e d M => ?_)
    show MkP X pins σ Q (.ref e) ⟨h', g, dr, tk', os⟩
    obtain ⟨oe, fv, hoe, hc, hd, hdat, h1⟩ := M.obj
    have hns := M.ns
    obtain ⟨G', g1, g2⟩ := restrict h' fun b => decide (b ≠ e)
    have gk : ∀ b, b ≠ e → G'.get? b = h'.get? b := fun b hb => g1 b (decide_eq_true hb)
    have ge : G'.get? e = none := g2 e (by simp)
    have old : ∀ b o, hp.get? b = some o → G'.get? b = some o := fun b o q => (gk b (Nat.ne_of_lt (Nat.lt_of_lt_of_le (Heap.lt_size q) M.new))).trans (M.keep b o q)
    have ob : ObjOk X.prog X.w (upd H1 d (.xd [(f, v)])) G' d (.xd [(f, v)]) := ⟨_, hns.at (fun o q => (gk d M.dne).trans q), fun g => relO_one rv g⟩
    have J : Inv X pins σ (upd H1 d (.xd [(f, v)])) ⟨G', g, dr, tk', os⟩ := I1.laid (t' := tk') old M.dbig ob
    refine ⟨e, oe, fv, ⟨G', g, dr, tk', os⟩, _, .ref Ca, some d, rfl, J, fun b o q => ?_, ge, hoe, ⟨hc, hd⟩, hdat, h1, ?_, rfl, I1.bare, raises_own T.exB T.tyC, q1 d (I1.hok.fresh M.dbig)⟩
    · by_cases hb : b = e
      · have q' : G'.get? b = some o := q
        rw [hb, ge] at q'; cases q'
      · exact (gk b hb).symm.trans q
    · rw [upd_ne (Ne.symm M.dne)]
      exact I1.hok.fresh M.new
/-- raise C(e) -/
def sRaise (c f : Str) (m : ME) : MS := fun e => (m e).bindS fun d e1 => .exc c [(f, d)] e1
theorem s_raise {x : Str} {fI : Addr} {f a msg : Str} {e : Expr} {m : ME} {p pos pos2 : Pos} {k : Nat} (hc : X.calm = true) (tk : Takes X C.W) (T : PTX.ExT X.prog X.K (He.ga X.K x) fI f a msg) (hm : X.mg x = some (.ref (He.ga X.K x))) (hr : Room k X.A) (hg : Gl X x) (l : LeT Δ C.tx) (ha : PE X e (tE X.K C Δ m .fz))
    (hdb : (x == ("__debug__" : Str)) = false := by decide) (he : starEach (e :: []) X.env = (false, eval e X.env) :: starEach [] X.env := by rfl) (hpl : (backTo pos (starEach [] X.env)).any (·.1) = false := by rfl) :
    PS X (.Raise (some (.Call (.Name x p) [e] [] pos)) none pos2) (tS X.K C Δ (sRaise x f m) Δ') := by
  refine PS.weak (ps_raise hc tk (pmk_ex T hm hr (pa_cons ha pa_nil he) hg hdb he hpl)) fun D σ H ⟨G, F, env, A, st, h⟩ => ⟨G, F, env, A, st, PostS.bindD h fun d e1 F1 H1 A1 v st1 i1 s1 h1 => ⟨v, rfl, fun q nq => ?_⟩⟩
  have g := Grow.new (o := HO.xd [(f, v)]) st1.le nq
  obtain ⟨A2, w1, w2⟩ := (st1.grow g).weak l
  exact h1 _ _ A2 σ (some q) (g.step.less w2) w1 (.inr ⟨q, [(f, v)], rfl, upd_same, by simp only [IsF]; exact ⟨v, [], rfl, Is.mono g.le _ _ i1, rfl⟩⟩)
end
end PT

set_option Elab.async false
set_option linter.all false
set_option maxRecDepth 100000
set_option maxHeartbeats 4000000
/-! PT: try with several clauses, each with or without a name -/
namespace L2
open PySem PySem.Spec PyProof.Rows
abbrev HTs : Type := Addr → Value → Option Addr → TS
def unS (i : Option Nat) (σ : St) : St := match i with
  | none => σ
  | some i => σ.set i none
def unD (i : Option Nat) (D : Ends) : Ends := { nx := fun σ' H' => D.nx (unS i σ') H', rt := D.rt, bk := fun σ' H' => D.bk (unS i σ') H', ct := fun σ' H' => D.ct (unS i σ') H' }
def inS (i : Option Nat) (a : Addr) (σ : St) : St := match i with
  | none => σ
  | some i => σ.set i (some (.ref a))
def wAll (K : PySem.W.Frag) (Wout : WX) (D : Ends) : List (Value × Option Nat × HTs) → WX
  | [] => Wout
  | (c, i, ts) :: r => fun cls d σ H => ∃ b, PySem.W.exmOne K cls c = some b ∧ (b = true → ∀ a, H a = none → ts a cls d (unD i D) (inS i a σ) H) ∧ (b = false → wAll K Wout D r cls d σ H)
inductive HdsA (X : Cx) : List ExceptHandler → List (Value × Option Nat × HTs) → Prop
  | nil : HdsA X [] []
  | plain {x : Str} {c : Value} {ts : HTs} {b₀ : Stmt} {suite : List Stmt} {np pos' : Pos} {hds : List ExceptHandler} {l : List (Value × Option Nat × HTs)} (hc : Names X x c)
      (hsu : ∀ (a : Addr) (oe : Obj) (cls : Value) (d : Option Addr) (pn : List (Addr × Obj)), Zc cls d oe → (∃ vs, oe.data = .fields vs) → PSs (X.suite a ((a, oe) :: pn)) (b₀ :: suite) (ts a cls d)) (r : HdsA X hds l) :
      HdsA X (.ExceptHandler (some (.Name x np)) none (b₀ :: suite) pos' :: hds) ((c, none, ts) :: l)
  | as_ {x n : Str} {i : Nat} {c : Value} {ts : HTs} {b₀ : Stmt} {suite : List Stmt} {np pos' : Pos} {hds : List ExceptHandler} {l : List (Value × Option Nat × HTs)} (hc : Names X x c) (hN : X.N.Nodup) (hi : X.N[i]? = some n) (hln : X.env.kindOf n = some .local)
      (hsu : ∀ (a : Addr) (oe : Obj) (cls : Value) (d : Option Addr) (pn : List (Addr × Obj)), Zc cls d oe → (∃ vs, oe.data = .fields vs) → PSs (X.suite a ((a, oe) :: pn)) (b₀ :: suite) (ts a cls d)) (r : HdsA X hds l) :
      HdsA X (.ExceptHandler (some (.Name x np)) (some n) (b₀ :: suite) pos' :: hds) ((c, some i, ts) :: l)
section
variable {X : Cx} {body : List Stmt} {h₀ : ExceptHandler} {hds : List ExceptHandler} {l : List (Value × Option Nat × HTs)} {pos : Pos} {tb : WX → TS} {Wout : WX}
theorem ps_try_all (hs : X.stack = X.env :: X.outer) (hf : X.env.frame = some X.env.locals) (tk : Takes X Wout)
    (hb : ∀ (W : WX) (pn : List (Addr × Obj)) (xe : Value → Shared → Prop), Takes (X.tr pn xe) W → PassesOwn (model X.prog X.w) X.A X.env xe → PSs (X.tr pn xe) body (tb W))
    (hh : HdsA X (h₀ :: hds) l) : PS X (.Try body (h₀ :: hds) [] [] pos) (fun D σ H => tb (wAll X.K Wout D l) D σ H) := by
  refine ⟨fun pins s σ H D I h => ?_⟩
  have ok := I.ok
  have hfr : X.A.frames = some (X.env :: X.outer) := by rw [ok.frames, hs]
  refine wpAny_Try_except ?_
  refine wpAny_mono ((hb (wAll X.K Wout D l) (X.pn ++ pins) (fun e s₁ => wpAny (model X.prog X.w) X.A (noteFrame e X.env) (fun _ s₂ => wpAny (model X.prog X.w) X.A (setFlight e none) (fun _ s₃ =>
    wpAny (model X.prog X.w) X.A (handleBy e X.env (h₀ :: hds)) (SP X pins D) X.xe s₃) X.xe s₂) X.xe s₁) (fun u s' xx => ?_) PassesOwn.looking).run [] s σ H D (I.toTry _) h) (fun f s1 hsp => ?_) (fun e s1 he => he)
  · -- the catch
    obtain ⟨a, B, sI, pins', σ', H', cls, d, rfl, J', nb, up, sky, na, os, ag, w⟩ := xx
    have J : Inv X pins σ' H' sI := J'.ofTry ok
    have sky' : Sky B (X.env :: X.outer) a (Zc cls d) X.env.locals s'.heap := by rw [← hs]; exact sky
    show wpAny (model X.prog X.w) X.A (noteFrame (.ref a) X.env) _ _ _
    refine Sky.land Zc.steady hfr hf sky' fun h3 fl3 up3 => ?_
    have J3 : Inv X pins σ' H' { s' with heap := h3 } := J.landed nb fl3.1 (up.trans up3) os ag
    obtain ⟨oe3, vs3, he3, hz3, hd3⟩ := fl3.there
    have notFr : ∀ {h : Heap} {o : Obj} {vs : Array Value}, h.FunFrames B (X.env :: X.outer) → h.get? a = some o → o.data = .fields vs → a ∉ frs (X.env :: X.outer) := fun {h o vs} ff e dd hm => by
      obtain ⟨_, o', e', hnf⟩ := ff.mem hm
      rw [e] at e'; cases e'
      exact hnf _ dd
    have nfr := notFr fl3.2.2.1 he3 hd3
    have nL : a ≠ X.env.locals := fun z => nfr (List.mem_filterMap.mpr ⟨X.env, List.mem_cons_self, by rw [hf, z]⟩)
    have nF : a ∉ X.fs := fun hm => by
      obtain ⟨e, he, q⟩ := List.mem_filterMap.mp hm
      exact nfr (List.mem_filterMap.mpr ⟨e, List.mem_cons_of_mem _ he, q⟩)
    have S3 := J3.suite he3 hd3 na nL nF
    have LT : PySem.W.Looks (model X.prog X.w) h3 (typeOf (.ref a)) cls := fun A Q E s k q => wpAny_typeOf_ref (k _ _ he3) (by rw [hz3.1]; exact q)
    have test : ∀ {x : Str} {c : Value} {np : Pos} {Q : Value → Shared → Prop} {E : Value → Shared → Prop}, Names X x c → Q c { s' with heap := h3 } → wpAny (model X.prog X.w) (X.A.mark (some (.ref a))) (eval (.Name x np) X.env) Q E { s' with heap := h3 } := fun {x c np Q E} hc q => by
      obtain ⟨hg, hdbg, hm | ⟨hm, hv, hnn⟩⟩ := hc
      · exact ld_glob (X := X.suite a ((a, oe3) :: (X.pn ++ pins))) S3 hg hm q hdbg
      · exact ld_blt (X := X.suite a ((a, oe3) :: (X.pn ++ pins))) S3 hg hm hv q hnn hdbg
    have go : ∀ {hds' : List ExceptHandler} {l' : List (Value × Option Nat × HTs)}, HdsA X hds' l' → wAll X.K Wout D l' cls d σ' H' →
        wpAny (model X.prog X.w) X.A (handleBy (.ref a) X.env hds') (SP X pins D) X.xe { s' with heap := h3 } := by
      intro hds' l' hk
      induction hk with
      | nil =>
        intro w
        refine wpAny_handleBy_nil ?_
        obtain ⟨k1, k2, k3, oe, vs, T, oT, ts', he, hz, hd, h1, hr⟩ := id fl3
        unfold PySem.passOn
        refine wpAny_bind (wpAny_field he hd h1 ?_)
        rw [if_neg (show ¬ ((Value.ref T == Value.none) = true) from by simp)]
        have fin : wpAny (model X.prog X.w) X.A (setFlight (.ref a) X.env.frame) (fun _ s4 => wpAny (model X.prog X.w) X.A (throw (.ref a) : Sem Flow) (SP X pins D) X.xe s4) X.xe { s' with heap := h3 } := by
          rw [hf]
          refine HandSPX.setFlight_upZ fl3 fun h4 hh4 up4 => wpAny_throw (tk _ _ ?_)
          exact ⟨a, B, sI, pins, σ', H', cls, d, rfl, J, nb, (up.trans up3).trans up4, .inr (.inr (by rw [hs]; exact hh4)), na, os, ag, w⟩
        first
          | exact wpAny_bind (wpAny_pure (wpAny_bind fin))
          | exact wpAny_bind fin
      | @plain x c ts b₀ suite np pos' hds2 l2 hc hsu r ih =>
        intro w
        obtain ⟨b, hb1, hyes, hno⟩ := w
        refine wpAny_handleBy_cons (codeAny_handlers_test ?_) (by intro q; cases q)
        have LM := PySem.W.exm_one (M := model X.prog X.w) (J3.kIn) LT hb1
        refine test hc (LM.here ?_)
        cases b with
        | true =>
          refine codeAny_handlers_suite ?_
          refine HandSPX.lands_againZ fl3 fun h4 fl4 up4 => ?_
          have J4 : Inv X pins σ' H' { s' with heap := h4 } := J.landed nb fl4.1 ((up.trans up3).trans up4) os ag
          obtain ⟨oe4, vs4, he4, hz4, hd4⟩ := fl4.there
          have S4 := J4.suite he4 hd4 na nL nF
          refine wpAny_mono ((hsu a oe4 cls d (X.pn ++ pins) hz4 ⟨_, hd4⟩).run [] _ _ H' _ S4 (hyes rfl a na)) (fun f s6 hsp => ?_) (fun _ _ z => False.elim z)
          cases f with
          | next =>
            obtain ⟨σ6, H6, S6, q6⟩ := hsp
            exact ⟨_, _, S6.unsuite ok, q6⟩
          | brk =>
            obtain ⟨σ6, H6, S6, q6⟩ := hsp
            exact ⟨_, _, S6.unsuite ok, q6⟩
          | cont =>
            obtain ⟨σ6, H6, S6, q6⟩ := hsp
            exact ⟨_, _, S6.unsuite ok, q6⟩
          | ret u =>
            obtain ⟨v6, σ6, H6, S6, r6, q6⟩ := hsp
            exact ⟨_, _, _, S6.unsuite ok, r6, q6⟩
        | false =>
          show wpAny _ X.A (handleBy (.ref a) X.env hds2) _ _ _
          exact ih (hno rfl)
      | @as_ x n i c ts b₀ suite np pos' hds2 l2 hc hN hi hln hsu r ih =>
        intro w
        obtain ⟨b, hb1, hyes, hno⟩ := w
        have hloc : Loc X.env.scope n := .inl hln
        refine wpAny_handleBy_cons (codeAny_handlers_test ?_) (by intro q; cases q)
        have LM := PySem.W.exm_one (M := model X.prog X.w) (J3.kIn) LT hb1
        refine test hc (LM.here ?_)
        cases b with
        | true =>
          refine codeAny_handlers_suite_as ?_
          refine HandSPX.lands_againZ fl3 fun h4 fl4 up4 => ?_
          have J4 : Inv X pins σ' H' { s' with heap := h4 } := J.landed nb fl4.1 ((up.trans up3).trans up4) os ag
          obtain ⟨oe4, vs4, he4, hz4, hd4⟩ := fl4.there
          have S4 := J4.suite he4 hd4 na nL nF
          refine store_ok (X := X.suite a ((a, oe4) :: (X.pn ++ pins))) (v := .ref a) S4 hN hi hloc rfl (fun s5 S5 => ?_) (.inr hln)
          refine wpAny_mono ((hsu a oe4 cls d (X.pn ++ pins) hz4 ⟨_, hd4⟩).run [] s5 _ H' _ S5 (hyes rfl a na)) (fun f s6 hsp => ?_) (fun _ _ z => False.elim z)
          have end_ : ∀ {σ6 : St} {H6 : Hp} {Q : Shared → Prop}, Inv (X.suite a ((a, oe4) :: (X.pn ++ pins))) [] σ6 H6 s6 → (∀ s7, Inv X pins (σ6.set i none) H6 s7 → Q s7) →
              wpAny (model X.prog X.w) X.A (do bindName X.env n .none; unbindBehindTheSuite X.env n pos') (fun _ s7 => Q s7) X.xe s6 := fun {σ6 H6 Q} S6 hq => gone_ok (S6.unsuite ok) hN hi hln hq
          cases f with
          | next =>
            obtain ⟨σ6, H6, S6, q6⟩ := hsp
            exact end_ S6 fun s7 J7 => ⟨_, _, J7, q6⟩
          | brk =>
            obtain ⟨σ6, H6, S6, q6⟩ := hsp
            exact end_ S6 fun s7 J7 => ⟨_, _, J7, q6⟩
          | cont =>
            obtain ⟨σ6, H6, S6, q6⟩ := hsp
            exact end_ S6 fun s7 J7 => ⟨_, _, J7, q6⟩
          | ret u =>
            obtain ⟨v6, σ6, H6, S6, r6, q6⟩ := hsp
            exact end_ S6 fun s7 J7 => ⟨_, _, _, J7, r6, q6⟩
        | false =>
          show wpAny _ X.A (handleBy (.ref a) X.env hds2) _ _ _
          exact ih (hno rfl)
    exact go hh w
  · cases f with
    | next =>
      obtain ⟨σ', H', J', q⟩ := hsp
      exact wpAny_execs_nil ⟨σ', H', J'.ofTry ok, q⟩
    | brk =>
      obtain ⟨σ', H', J', q⟩ := hsp
      exact ⟨σ', H', J'.ofTry ok, q⟩
    | cont =>
      obtain ⟨σ', H', J', q⟩ := hsp
      exact ⟨σ', H', J'.ofTry ok, q⟩
    | ret u =>
      obtain ⟨v, σ', H', J', r, q⟩ := hsp
      exact ⟨v, σ', H', J'.ofTry ok, r, q⟩
end
end L2
namespace PT
open PySem PySem.Spec PyProof.Rows L2
def unE (i : Option Nat) (e : Ev) : Ev := match i with
  | none => e
  | some i => e.set i none
def inE (i : Option Nat) (d : D) (e : Ev) : Ev := match i with
  | none => e
  | some i => e.set i (some d)
def RS.un (i : Option Nat) : RS → RS
  | .nx e => .nx (unE i e)
  | .rt d e => .rt d (unE i e)
  | .bk e => .bk (unE i e)
  | .ct e => .ct (unE i e)
  | _ => .bad
abbrev Cls3 : Type := List (Str × Option Nat × MS)
def sHandle (cs : List Str) (sub : Str → Str → Bool) : Cls3 → Str → List (Str × D) → Ev → RS
  | [], c, fs, e => .exc c fs e
  | (x, i, ms) :: r, c, fs, e => if c ∈ cs then (if sub c x then RS.un i (ms (inE i (.obj c fs) e)) else sHandle cs sub r c fs e) else .bad
def sTry (cs : List Str) (sub : Str → Str → Bool) (mb : MS) (cl : Cls3) : MS := fun e => match mb e with
  | .exc c fs e1 => sHandle cs sub cl c fs e1
  | r => r
/-- slot i holds the exception -/
def exT (i : Option Nat) (a : Addr) (cls : Value) (dd : Option Addr) (Δ : Ty) : Ty := match i with
  | none => Δ
  | some i => Δ.set i (.ex a cls dd)
/-- what a suite stands in -/
abbrev SC.suite (C : SC) (i : Option Nat) (a : Addr) (cls : Value) (dd : Option Addr) (Δ : Ty) : SC := { W := fun _ _ _ _ => False, tx := Δ, tb := exT i a cls dd C.tb, tc := exT i a cls dd C.tc, ro := C.ro, tr := exT i a cls dd C.tr }
section
variable {K : PySem.W.Frag} {C : SC} {Δ Δ' : Ty} {G F H F1 H1 : Hp} {A A1 : AS} {σ : L2.St} {env : Ev}
theorem StOk.unex {i : Option Nat} {a : Addr} {cls : Value} {dd : Option Addr} (st : StOk K G (exT i a cls dd Δ) F H env σ A) : ∃ A', StOk K G Δ F H (unE i env) (unS i σ) A' ∧ ∀ b, A' b → A b := by
  cases i with
  | none => exact ⟨A, st, fun _ z => z⟩
  | some i =>
    obtain ⟨A2, h1, h2⟩ := st.sl.drop i none
    by_cases hi : i < Δ.length
    · have l := st.len.1
      have z := h1.retype (s' := Δ[i]'hi) (i := i) (by
        have : i < env.length := by simpa [exT] using (by rw [l]; simpa [exT] using hi : i < env.length)
        simp [this])
      have e : (exT (some i) a cls dd Δ).set i (Δ[i]'hi) = Δ := by
        unfold exT
        simp only
        rw [List.set_set]
        exact List.ext_getElem? fun j => by
          by_cases hj : i = j
          · subst hj; rw [List.getElem?_set_self hi, List.getElem?_eq_getElem hi]
          · rw [List.getElem?_set_ne hj]
      rw [e] at z
      exact ⟨A2, ⟨z, fun a z => st.dj a (h2 a z), st.le, st.gl, fun a z => st.gd a (h2 a z)⟩, h2⟩
    · have e : exT (some i) a cls dd Δ = Δ := by
        unfold exT
        simp only
        exact List.ext_getElem? fun j => by
          by_cases hj : i = j
          · subst hj; rw [List.getElem?_eq_none (by simpa using hi), List.getElem?_eq_none (by simpa using hi)]
          · rw [List.getElem?_set_ne hj]
      rw [e] at h1
      exact ⟨A2, ⟨h1, fun a z => st.dj a (h2 a z), st.le, st.gl, fun a z => st.gd a (h2 a z)⟩, h2⟩
theorem StOk.toex {i : Option Nat} {a : Addr} {dd : Option Addr} {c : Str} {fs : List (Str × D)} (st : StOk K G Δ F H env σ A) (hx : XdOk K F fs dd) (hi : ∀ j, i = some j → j < Δ.length) : ∃ A', StOk K G (exT i a (.ref (He.ga K c)) dd Δ) F H (inE i (.obj c fs) env) (inS i a σ) A' ∧ ∀ b, A' b → A b := by
  cases i with
  | none => exact ⟨A, st, fun _ z => z⟩
  | some i =>
    have hi := hi i rfl
    obtain ⟨A2, h1, h2⟩ := st.sl.drop i (some (.ref a))
    have l1 := st.len.1
    have l2 := st.len.2
    have z := h1.retype (s' := .ex a (.ref (He.ga K c)) dd) (i := i) (by simp [l1, hi])
    have z2 := Slots.put (i := i) (d := .obj c fs) (s := .ex a (.ref (He.ga K c)) dd) (v := some (.ref a)) (A1 := fun _ => False) z (by simp [l1, hi]) (by simp [hi]) (by simp [l2, hi])
      ⟨fun _ z => z, rfl, c, fs, rfl, rfl, hx⟩ fun _ z => z.elim
    rw [List.set_set] at z2
    exact ⟨_, ⟨z2, fun a z => st.dj a (h2 a (z.elim (fun z => z.elim) id)), st.le, st.gl, fun a z => st.gd a (h2 a (z.elim (fun z => z.elim) id))⟩, fun b z => h2 b (z.elim (fun z => z.elim) id)⟩
theorem PostS.un {D : Ends} {i : Option Nat} {a : Addr} {cls : Value} {dd : Option Addr} {r : RS} (h : PostS K C Δ' G F H A D (r.un i)) : PostS K (C.suite i a cls dd Δ) (exT i a cls dd Δ') G F H A (unD i D) r := by
  cases r with
  | nx e =>
    intro F' H' A' σ' s st
    obtain ⟨A2, h1, h2⟩ := st.unex
    exact h F' H' A2 _ (s.less h2) h1
  | bk e =>
    intro F' H' A' σ' s st
    obtain ⟨A2, h1, h2⟩ := st.unex
    exact h F' H' A2 _ (s.less h2) h1
  | ct e =>
    intro F' H' A' σ' s st
    obtain ⟨A2, h1, h2⟩ := st.unex
    exact h F' H' A2 _ (s.less h2) h1
  | rt d e =>
    intro F' H' A' B σ' v s st own dj
    obtain ⟨A2, h1, h2⟩ := st.unex
    exact h F' H' A2 B _ v (s.less fun a z => z.elim (fun z => .inl (h2 a z)) .inr) h1 own fun b z => ⟨fun w => (dj b z).1 (h2 b w), (dj b z).2⟩
  | exc c fs e => exact h.elim
  | bad => exact h.elim
end
section
variable {X : Cx} {C : SC} {Δ Δ' : Ty} {cs : List Str} {sub : Str → Str → Bool}
inductive HsOk (X : Cx) (C : SC) (Δ Δ' : Ty) : List ExceptHandler → Cls3 → Prop
  | nil : HsOk X C Δ Δ' [] []
  | plain {x : Str} {ms : MS} {b₀ : Stmt} {suite : List Stmt} {np pos' : Pos} {hds : List ExceptHandler} {l : Cls3} (hc : Names X x (.ref (He.ga X.K x)))
      (hsu : ∀ (a : Addr) (oe : Obj) (cls : Value) (d : Option Addr) (pn : List (Addr × Obj)), Zc cls d oe → (∃ vs, oe.data = .fields vs) → PSs (X.suite a ((a, oe) :: pn)) (b₀ :: suite) (tS X.K (C.suite none a cls d Δ) Δ ms Δ')) (r : HsOk X C Δ Δ' hds l) :
      HsOk X C Δ Δ' (.ExceptHandler (some (.Name x np)) none (b₀ :: suite) pos' :: hds) ((x, none, ms) :: l)
  | as_ {x n : Str} {i : Nat} {ms : MS} {b₀ : Stmt} {suite : List Stmt} {np pos' : Pos} {hds : List ExceptHandler} {l : Cls3} (hc : Names X x (.ref (He.ga X.K x))) (hN : X.N.Nodup) (hi : X.N[i]? = some n) (hln : X.env.kindOf n = some .local) (hl : i < Δ.length)
      (hsu : ∀ (a : Addr) (oe : Obj) (cls : Value) (d : Option Addr) (pn : List (Addr × Obj)), Zc cls d oe → (∃ vs, oe.data = .fields vs) → PSs (X.suite a ((a, oe) :: pn)) (b₀ :: suite) (tS X.K (C.suite (some i) a cls d Δ) (exT (some i) a cls d Δ) ms (exT (some i) a cls d Δ'))) (r : HsOk X C Δ Δ' hds l) :
      HsOk X C Δ Δ' (.ExceptHandler (some (.Name x np)) (some n) (b₀ :: suite) pos' :: hds) ((x, some i, ms) :: l)
def tsOf (K : PySem.W.Frag) (C : SC) (Δ Δ' : Ty) (p : Str × Option Nat × MS) : Value × Option Nat × HTs := (.ref (He.ga K p.1), p.2.1, fun a cls d => tS K (C.suite p.2.1 a cls d Δ) (exT p.2.1 a cls d Δ) p.2.2 (exT p.2.1 a cls d Δ'))
theorem HsOk.hds {hds : List ExceptHandler} {l : Cls3} (h : HsOk X C Δ Δ' hds l) : HdsA X hds (l.map (tsOf X.K C Δ Δ')) := by
  induction h with
  | nil => exact .nil
  | plain hc hsu r ih => exact .plain hc hsu ih
  | as_ hc hN hi hln hl hsu r ih => exact .as_ hc hN hi hln hsu ih
theorem HsOk.ix {hds : List ExceptHandler} {l : Cls3} (h : HsOk X C Δ Δ' hds l) : ∀ p ∈ l, ∀ j, p.2.1 = some j → j < Δ.length := by
  induction h with
  | nil => intro p hp; cases hp
  | plain hc hsu r ih =>
    intro p hp j hj
    rcases List.mem_cons.mp hp with rfl | hp
    · cases hj
    · exact ih p hp j hj
  | as_ hc hN hi hln hl hsu r ih =>
    intro p hp j hj
    rcases List.mem_cons.mp hp with rfl | hp
    · cases hj; exact hl
    · exact ih p hp j hj
theorem handle_ok (hx : LeT Δ C.tx) {l : Cls3} (hm : ∀ c ∈ cs, ∀ p ∈ l, PySem.W.exmOne X.K (.ref (He.ga X.K c)) (.ref (He.ga X.K p.1)) = some (sub c p.1)) (hi : ∀ p ∈ l, ∀ j, p.2.1 = some j → j < Δ.length) {D : Ends} {G F H F1 H1 : Hp} {A A1 : AS} {σ : L2.St} {e : Ev} {c : Str} {fs : List (Str × PT.D)} {dd : Option Addr}
    (st : StOk X.K G Δ F1 H1 e σ A1) (xd : XdOk X.K F1 fs dd) (s : Step F H A F1 H1 A1) (h : PostS X.K C Δ' G F H A D (sHandle cs sub l c fs e)) : wAll X.K C.W D (l.map (tsOf X.K C Δ Δ')) (.ref (He.ga X.K c)) dd σ H1 := by
  induction l with
  | nil =>
    simp only [sHandle] at h
    obtain ⟨A2, h1, h2⟩ := st.weak hx
    exact h F1 H1 A2 σ dd (s.less h2) h1 xd
  | cons p l ih =>
    obtain ⟨x, i, ms⟩ := p
    simp only [sHandle] at h
    split at h
    · rename_i hc
      refine ⟨sub c x, hm c hc (x, i, ms) List.mem_cons_self, fun hs a na => ?_, fun hs => ?_⟩
      · rw [hs] at h
        simp only [if_true] at h
        obtain ⟨A2, h1, h2⟩ := st.toex (i := i) (a := a) (c := c) xd (hi (x, i, ms) List.mem_cons_self)
        exact ⟨G, F1, _, A2, h1, PostS.un (PostS.base (s.less h2) h)⟩
      · rw [hs] at h
        simp only [Bool.false_eq_true, if_false] at h
        exact ih (fun c hc p hp => hm c hc p (List.mem_cons_of_mem _ hp)) (fun p hp => hi p (List.mem_cons_of_mem _ hp)) h
    · exact h.elim
theorem s_try {body : List Stmt} {h₀ : ExceptHandler} {hds : List ExceptHandler} {l : Cls3} {pos : Pos} {mb : MS} (hs : X.stack = X.env :: X.outer) (hf : X.env.frame = some X.env.locals) (tk : Takes X C.W) (hx : LeT Δ C.tx)
    (hb : ∀ (W : WX) (pn : List (Addr × Obj)) (xe : Value → Shared → Prop), Takes (X.tr pn xe) W → PassesOwn (model X.prog X.w) X.A X.env xe → PSs (X.tr pn xe) body (tS X.K { C with W := W, tx := Δ } Δ mb Δ'))
    (hm : ∀ c ∈ cs, ∀ p ∈ l, PySem.W.exmOne X.K (.ref (He.ga X.K c)) (.ref (He.ga X.K p.1)) = some (sub c p.1)) (hh : HsOk X C Δ Δ' (h₀ :: hds) l) :
    PS X (.Try body (h₀ :: hds) [] [] pos) (tS X.K C Δ (sTry cs sub mb l) Δ') := by
  refine PS.weak (ps_try_all hs hf tk hb hh.hds) fun D σ H ⟨G, F, env, A, st, h⟩ => ⟨G, F, env, A, st, ?_⟩
  unfold sTry at h
  generalize mb env = r at h ⊢
  cases r with
  | exc c fs e => exact fun F' H' A' σ' dd s st' xd => handle_ok hx hm hh.ix st' xd s h
  | nx e => exact h
  | rt d e => exact h
  | bk e => exact h
  | ct e => exact h
  | bad => exact h
end
/-- e.f of the exception that the suite holds -/
def mExf (cs : List Str) (i : Nat) (f : Str) : ME := fun e => match e[i]? with
  | some (some (.obj c fs)) => if c ∈ cs then lift (fs.lookup f) e else .bad
  | _ => .bad
/-- e.f of an exception, by values -/
def tExf (C : Addr) (a : Addr) (f : Str) (cls : Value) (d : Option Addr) (te : TE) : TE := fun σ H Q => te σ H fun x H1 => x = .ref a ∧ cls = .ref C ∧ ∃ (dd : Addr) (fs : List (Str × V)) (v : V), d = some dd ∧ H1 dd = some (.xd fs) ∧ fs.lookup f = some v ∧ Q v H1
theorem IsF.lookup {K : PySem.W.Frag} {F : Hp} : ∀ {fs : List (Str × D)} {gs : List (Str × V)} {f : Str} {d : D}, IsF K F fs gs → fs.lookup f = some d → ∃ v, gs.lookup f = some v ∧ Is K F d v
  | [], gs, f, d, h, e => by simp at e
  | (g, d') :: fs, gs, f, d, h, e => by
    simp only [IsF] at h
    obtain ⟨y, r, rfl, h1, h2⟩ := h
    rw [List.lookup_cons] at e ⊢
    cases q : (f == g) with
    | true => rw [q] at e; cases e; exact ⟨y, rfl, h1⟩
    | false => rw [q] at e; exact IsF.lookup h2 e
section
variable {X : Cx} {Δ : Ty}
theorem pe_exf {Ca fI : Addr} {f a' msg : Str} {a : Addr} {oe : Obj} {cls : Value} {d : Option Addr} {pn : List (Addr × Obj)} {e : Expr} {te : TE} {pos : Pos} (T : PTX.ExT X.prog X.K Ca fI f a' msg) (hz : Zc cls d oe) (hf : ∃ vs, oe.data = .fields vs) (he : PE (X.suite a ((a, oe) :: pn)) e te)
    (hb : attributeBase e f X.env (eval e X.env) = eval e X.env) : PE (X.suite a ((a, oe) :: pn)) (.Attribute e f pos) (tExf Ca a f cls d te) := by
  refine ⟨fun pins s σ H Q I h => ?_⟩
  refine attr_of hb (thn (he.run pins s σ H _ I h) fun u s1 hh => ?_)
  obtain ⟨x, H1, I1, rx, ex, ec, dd, fs, v, ed, ea, l, q⟩ := hh
  subst ex
  obtain rfl : u = Value.ref a := rx
  subst ec
  subst ed
  obtain ⟨ha, _⟩ := I1.pin (a, oe) (List.mem_append_left _ List.mem_cons_self)
  obtain ⟨vs, hd⟩ := hf
  have hx : ObjOk X.prog X.w H1 s1.heap dd (.xd fs) := I1.hok dd _ ea
  obtain ⟨mA, hns, hr⟩ := hx
  obtain ⟨od, ho, hl⟩ := lookIn_ns hns
  obtain ⟨u, hu, ru⟩ := RelO.some_of (v := v) (o := mA f) (by rw [← l]; exact hr f)
  have J : PySem.W.InstAt s1.heap a oe Ca (some od) := ⟨ha, hz.1, by unfold PySem.W.notCls; rw [hd] <;> rfl, by rw [hz.2]; exact ho⟩
  exact HandSPX.exc_get I1.kIn J T.ga T.gg T.exB (PySem.W.findObj_own T.hd T.noF rfl (by rw [hl, hu])) (handed_of ru) ⟨v, H1, I1.tok _, ru, q⟩
/-- one class of several: by cases at the reading -/
theorem PE.any {ι : Type} {Y : Cx} {e : Expr} {t : ι → TE} (h : ∀ i, PE Y e (t i)) : PE Y e (fun σ H Q => ∃ i, t i σ H Q) := ⟨fun pins s σ H Q I ⟨i, q⟩ => (h i).run pins s σ H Q I q⟩
theorem e_exf {C : SC} {cs : List Str} {f : Str} {a : Addr} {oe : Obj} {cls : Value} {d : Option Addr} {pn : List (Addr × Obj)} {i : Nat} {n : Str} {p1 pos : Pos} (T : ∀ c ∈ cs, ∃ fI a' msg, PTX.ExT X.prog X.K (He.ga X.K c) fI f a' msg) (hz : Zc cls d oe) (hf : ∃ vs, oe.data = .fields vs)
    (t : Δ[i]? = some (.ex a cls d)) (hN : X.N[i]? = some n) (hv : Vis X.env.scope n) (hd : (n == ("__debug__" : Str)) = false := by decide) (hcd : (n == ("__classdict__" : Str)) = false := by decide)
    (hb : attributeBase (.Name n p1) f X.env (eval (.Name n p1) X.env) = eval (.Name n p1) X.env := by rfl) : PE (X.suite a ((a, oe) :: pn)) (.Attribute (.Name n p1) f pos) (tE X.K C Δ (mExf cs i f) .fz) := by
  refine PE.weak (PE.any (ι := { c : Str // c ∈ cs }) fun c => by
    obtain ⟨fI, a', msg, T⟩ := T c.1 c.2
    exact pe_exf T hz hf (pe_var (X := X.suite a ((a, oe) :: pn)) (i := i) hN hv hd hcd) hb) fun σ H Q ⟨G, F, env, A, st, h⟩ => ?_
  unfold mExf at h
  split at h
  · rename_i c fs he
    split at h
    · rename_i hc
      obtain ⟨v, A1, h1, ⟨_, rfl, c', fs', e2, ec, h2⟩, _⟩ := st.sl.get he t
      cases e2
      obtain ⟨dz, e3, q⟩ := PostE.lift h st
      rcases h2 with ⟨rfl, _⟩ | ⟨q', gs, rfl, h3, h4⟩
      · cases e3
      · obtain ⟨v, hv, iv⟩ := IsF.lookup h4 e3
        exact ⟨⟨c, hc⟩, .ref a, h1, rfl, ec, q', gs, v, rfl, st.le _ _ h3, hv, q (Grow.refl st.le) iv⟩
    · exact h.elim
  · exact h.elim
end
end PT

set_option Elab.async false
set_option linter.all false
set_option maxRecDepth 100000
set_option maxHeartbeats 4000000
/-! PT: objects: fields read, stored; made -/
namespace L2
open PySem PySem.Spec PyProof.Rows
section
variable {X : Cx} {CX : CXT} {k : Nat} {f C : Addr} {fd : FuncData} {ps : List Str} {sp : Sp} {x : Str} {p pos : Pos} {e : Expr} {es : List Expr} {t : TA} {dvs : List V} {ds : List Value} {E : St → XK}
def tMakeS (C : Addr) (sp : Sp) (dvs : List V) (E : St → XK) (t : TA) : TE := fun σ H Q => t σ H fun vs H1 => ∀ x dx, H1 x = none → H1 dx = none → dx ≠ x →
  sp (.ref x :: (vs ++ dvs)) (upd (upd H1 dx (.own x)) x (.ins C dx [])) (fun v H2 => v = .non ∧ Q (.ref x) H2) (E σ)
theorem run_makeS {pins : List (Addr × Obj)} {σ : St} {H : Hp} {s : Shared} {Q : VK} {us : List Value} {vs : List V} (M : Mk X.K C f) (F : FnOk X.prog X.w X.K X.mg X.base CX k f fd ps sp) (hr : Room (k + 1) X.A) (hb : Binds X.K fd ps ds) (hd : Vals dvs ds)
    (hx : PassesAt CX X σ (E σ)) (I : Inv X pins σ H s) (r : Vals vs us)
    (h : ∀ x dx, H x = none → H dx = none → dx ≠ x → sp (.ref x :: (vs ++ dvs)) (upd (upd H dx (.own x)) x (.ins C dx [])) (fun v H2 => v = .non ∧ Q (.ref x) H2) (E σ)) :
    wpAny (model X.prog X.w) X.A (call (.ref C) us) (EP X pins σ Q) X.xe s := by
  have hq := h (s.heap.objs.size + 1) s.heap.objs.size (I.hok.fresh (Nat.le_succ _)) (I.hok.fresh (Nat.le_refl _)) (Nat.ne_of_lt (Nat.lt_succ_self _))
  have I2 := Inv.made (C := C) I
  have r2 : Vals (V.ref (s.heap.objs.size + 1) :: (vs ++ dvs)) (Value.ref (s.heap.objs.size + 1) :: (us ++ ds)) := .cons rfl (r.append hd)
  have hl : (Value.ref (s.heap.objs.size + 1) :: us ++ ds).length = ps.length := by
    have e := r2.length
    rw [F.len _ _ _ _ hq] at e
    exact e.symm
  refine wpAny_call (make_map (f := f) I.kIn M.makes M.init (beq_iff_eq.mp M.fn) (codeAny_mono (F.run _ X.stack _ _ ⟨Value.ref (s.heap.objs.size + 1) :: us, []⟩ (Value.ref (s.heap.objs.size + 1) :: (us ++ ds)) _ _ (E σ) (hr.make C us [])
    (I2.env0.make C us []) (hb _ (Value.ref (s.heap.objs.size + 1) :: us) I2.kIn hl) r2 hq) fun r s' hq' => ?_))
  cases r with
  | error e => exact hx pins _ _ e s' I2 hq'
  | ok fl =>
    cases fl with
    | ret u =>
      obtain ⟨v, H', I3, rv, ev, q3⟩ := I2.after hq'
      subst ev
      exact ⟨rv, ⟨V.ref (s.heap.objs.size + 1), H', I3, rfl, q3⟩⟩
    | next => exact False.elim hq'
    | brk => exact False.elim hq'
    | cont => exact False.elim hq'
theorem pe_makeS (M : Mk X.K C f) (F : FnOk X.prog X.w X.K X.mg X.base CX k f fd ps sp) (hr : Room (k + 1) X.A) (hg : Gl X x) (hm : X.mg x = some (.ref C)) (hb : Binds X.K fd ps ds) (hd : Vals dvs ds) (hx : ∀ σ, PassesAt CX X σ (E σ))
    (ha : PA X (e :: es) t) (hdb : (x == ("__debug__" : Str)) = false := by decide) (he : starEach (e :: es) X.env = (false, eval e X.env) :: starEach es X.env := by rfl) (hpl : (backTo pos (starEach es X.env)).any (·.1) = false := by rfl) :
    PE X (.Call (.Name x p) (e :: es) [] pos) (tMakeS C sp dvs E t) := by
  refine ⟨fun pins s σ H Q I h => ?_⟩
  refine wpAny_Call_Name_kw (ld_glob I hg hm ?_ hdb)
  refine PySem.W.callWith_K (h₀ := X.base) I.ok.mod.kin M.kp (thn (ha.run pos pins s σ H _ I h) fun us s1 ⟨vs, H1, I1, r, q⟩ => ⟨I1.kIn, ?_⟩) he hpl
  exact run_makeS M F hr hb hd (hx σ) I1 r q
end
end L2
namespace PT
open PySem PySem.Spec PyProof.Rows L2

/-- the field f of an object of one of these classes -/
def fldD (cs : List Str) (f : Str) : D → Option D
  | .obj c fs => if c ∈ cs then fs.lookup f else none
  | _ => none
def putD (f : Str) (d : D) : List (Str × D) → List (Str × D)
  | [] => [(f, d)]
  | (g, x) :: r => if g = f then (g, d) :: r else (g, x) :: putD f d r
/-- name.f = value, the name's object is owned -/
def sFldO (c : Str) (i : Nat) (f : Str) (m : ME) : MS := fun e => (m e).bindS fun v e1 => match e1[i]? with
  | some (some (.obj c' fs)) => if fs.length < 1000 then .nx (e1.set i (some (.obj c' (putD f v fs)))) else .bad
  | _ => .bad
/-- c(..) -/
def mMake (c : Str) (f : List D → RF) (m : MA) (dds : List D) : ME := fun e => (m e).bind fun ds e1 => match f (.obj c [] :: (ds ++ dds)) with
  | .ok r (d :: _) => if r.isNon then .ok d e1 else .bad
  | .exc c fs _ => .exc c fs e1
  | _ => .bad
section
variable {K : PySem.W.Frag} {C : SC} {Δ : Ty} {G F H F' H' : Hp} {A A' B : AS} {σ : L2.St} {env : Ev}
theorem IsF.put {f : Str} {d : D} {y : V} (iy : Is K F d y) : ∀ {fs : List (Str × D)} {gs : List (Str × V)}, IsF K F fs gs → IsF K F (putD f d fs) (putF f y gs) ∧ gs.length = fs.length
  | [], gs, h => by
    simp only [IsF] at h
    subst h
    exact ⟨by simp only [putD, putF, IsF]; exact ⟨y, [], rfl, iy, rfl⟩, rfl⟩
  | (g, x) :: fs, gs, h => by
    simp only [IsF] at h
    obtain ⟨z, r, rfl, h1, h2⟩ := h
    obtain ⟨q1, q2⟩ := IsF.put iy h2
    refine ⟨?_, by simp [q2]⟩
    by_cases hg : g = f
    · simp only [putD, putF, if_pos hg, IsF]
      exact ⟨y, r, rfl, iy, h2⟩
    · simp only [putD, putF, if_neg hg, IsF]
      exact ⟨z, _, rfl, h1, q1⟩
theorem own_ob {c : Str} {d : D} {v : V} {A : AS} : Own K F H (.ob c) d v A ↔ ∃ fs p dx gs, d = .obj c fs ∧ v = .ref p ∧ H p = some (.ins (He.ga K c) dx gs) ∧ IsF K F fs gs ∧ ∀ a, A a ↔ a = p := by
  rw [Own]
/-- a lone thing of the slot is written -/
theorem StOk.write {i : Nat} {d d' : D} {o : O} {p : Addr} {u : HO} (st : StOk K G Δ F H env σ A) (hd : env[i]? = some (some d)) (ht : Δ[i]? = some (.ow o) ∨ ∃ v, Δ[i]? = some (.pr o v))
    (hp : ∀ y A1, σ[i]? = some (some y) → Own K F H o d y A1 → A1 p ∧ Own K F (upd H p u) o d' y A1) : StOk K G Δ F (upd H p u) (env.set i (some d')) σ A ∧ Step F H A F (upd H p u) A := by
  obtain ⟨y, A1, A2, h1, h2, h3, h4, h5, h6⟩ := lend st hd ht
  obtain ⟨Ap1, own⟩ := hp y A1 h1 h2
  have Ap : A p := (h5 p).mpr (.inl Ap1)
  refine ⟨⟨?_, st.dj, ?_, ?_, st.gd⟩, ⟨fun _ _ h => h, fun a o nA e => ?_, fun a z => .inl z, fun a o e => .inl e, fun a e => ?_⟩⟩
  · have s2 : Slots K G F (upd H p u) Δ (env.set i none) σ A2 := h3.loc (fun _ _ h => h) fun a u z e => by
      rw [upd_ne (fun q => h4 p Ap1 (by rw [← q]; exact z))]; exact e
    have z := h6 (F' := F) (H' := upd H p u) (d' := d') (A3 := A1) s2 own h4
    have e : (fun a => A1 a ∨ A2 a) = A := funext fun a => propext (h5 a).symm
    rw [e] at z
    exact z
  · intro a u e
    have : a ≠ p := fun q => by subst q; rw [st.dj _ Ap] at e; cases e
    rw [upd_ne this]; exact st.le a u e
  · intro a u e
    have : a ≠ p := fun q => by subst q; rw [st.gd _ Ap] at e; cases e
    rw [upd_ne this]; exact st.gl a u e
  · have : a ≠ p := fun q => by subst q; exact nA Ap
    rw [upd_ne this]; exact e
  · by_cases q : a = p
    · subst q; rw [upd_same] at e; cases e
    · rw [upd_ne q] at e; exact e
end
section
variable {X : Cx} {C : SC} {Δ : Ty} {i : Nat} {f : Str} {m : ME} {e : Expr} {cs : List Str} {pos p1 p2 : Pos}
theorem e_fld (hc : ∀ c ∈ cs, Cls X.K (He.ga X.K c)) (hn : ∀ c ∈ cs, NoAttr X.K (He.ga X.K c) f) (he : PE X e (tE X.K C Δ m .fz)) (hb : attributeBase e f X.env (eval e X.env) = eval e X.env := by rfl) : PE X (.Attribute e f pos) (tE X.K C Δ (mUn (fldD cs f) m) .fz) := by
  refine PE.weak (pe_fld he hb) fun σ H Q ⟨G, F, env, A, st, h⟩ => ⟨G, F, env, A, st, h.bind fun d e1 F1 H1 A1 v st1 i1 s1 h1 => ?_⟩
  obtain ⟨dz, e2, q⟩ := h1.lift st1
  unfold fldD at e2
  split at e2
  · split at e2
    · rename_i c fs hcs
      simp only [Is] at i1
      obtain ⟨p, dx, gs, rfl, h1, h2⟩ := i1
      obtain ⟨v, hv, iv⟩ := IsF.lookup h2 e2
      exact ⟨p, _, dx, gs, v, rfl, st1.le _ _ h1, hc c hcs, hn c hcs, hv, q (Grow.refl st1.le) iv⟩
    · cases e2
  · cases e2
theorem s_fld {x c : Str} {o : O} (t : Δ[i]? = some (.ow (.ob c)) ∨ ∃ v, Δ[i]? = some (.pr (.ob c) v)) (hc : Cls X.K (He.ga X.K c)) (hn : NoAttr X.K (He.ga X.K c) f) (hN : X.N[i]? = some x) (hv : Vis X.env.scope x) (he : PE X e (tE X.K C Δ m .fz)) (hd : (x == ("__debug__" : Str)) = false := by decide) (hcd : (x == ("__classdict__" : Str)) = false := by decide)
    (hs : swapsWith e (some (.Attribute (.Name x p1) f p2)) pos.line X.env = pure false := by rfl) : PS X (.Assign [.Attribute (.Name x p1) f p2] e pos) (tS X.K C Δ (sFldO c i f m) Δ) := by
  refine PS.weak (ps_fld (pe_var hN hv hd hcd) he hs) fun D σ H ⟨G, F, env, A, st, h⟩ => ⟨G, F, env, A, st, PostS.bindD h fun v e1 F1 H1 A1 y st1 i1 s1 h1 => ?_⟩
  split at h1
  · rename_i c' fs he1
    split at h1
    · rename_i hz
      obtain ⟨y0, A0, _, k1, k2, _⟩ := lend st1 he1 t
      obtain ⟨fs', p, dx, gs, e2, rfl, k3, k4, k5⟩ := own_ob.mp k2
      cases e2
      obtain ⟨q1, q2⟩ := IsF.put (f := f) i1 k4
      obtain ⟨st2, s2⟩ := st1.write (d' := .obj c (putD f v fs)) (p := p) (u := .ins (He.ga X.K c) dx (putF f y gs)) he1 t fun y' A1 e3 o3 => by
        rw [k1] at e3; cases e3
        obtain ⟨fs', p', dx', gs', e4, e5, l3, l4, l5⟩ := own_ob.mp o3
        cases e5
        exact ⟨(l5 p).mpr rfl, own_ob.mpr ⟨_, p, dx, _, rfl, rfl, upd_same, q1, l5⟩⟩
      exact ⟨.ref p, k1, p, _, dx, gs, rfl, k3, hc, hn, by rw [q2]; exact hz, h1 F1 _ A1 σ s2 st2⟩
    · exact h1.elim
  · exact h1.elim
theorem e_make {x : Str} {fI : Addr} {fd : FuncData} {pn : List Str} {k : Nat} {ps : List PK} {fM : List D → RF} {r : MA} {dds : List D} {dvs : List V} {ds : List Value} {p : Pos} {e0 : Expr} {es : List Expr} (tk : Takes X C.W) (lx : LeT Δ C.tx) (M : Mk X.K (He.ga X.K x) fI) (Fn : FnOk X.prog X.w X.K X.mg X.base (L2.CX X.prog X.w) k fI fd pn (pM X.K ⟨.o (.ob x) :: ps, .fz⟩ fM)) (hps : ∀ p ∈ ps, p = .d) (hr : Room (k + 1) X.A) (hg : Gl X x) (hm : X.mg x = some (.ref (He.ga X.K x)))
    (hb : Binds X.K fd pn ds) (hd : Vals dvs ds) (hI : ∀ F, IsL X.K F dds dvs) (hn : ∀ env ds0 e1, r env = .ok ds0 e1 → (ds0 ++ dds).length = ps.length) (ha : PA X (e0 :: es) (tA X.K C Δ r)) (hdb : (x == ("__debug__" : Str)) = false := by decide)
    (he : starEach (e0 :: es) X.env = (false, eval e0 X.env) :: starEach es X.env := by rfl) (hpl : (backTo pos (starEach es X.env)).any (·.1) = false := by rfl) :
    PE X (.Call (.Name x p) (e0 :: es) [] pos) (tE X.K C Δ (mMake x fM r dds) (.ob x)) := by
  refine PE.weak (pe_makeS (E := WE C.W) M Fn hr hg hm hb hd (fun σ => passAt tk σ) ha hdb he hpl) fun σ H Q ⟨G, F, env, A, st, h⟩ => ⟨G, F, env, A, st, ?_⟩
  unfold mMake at h
  cases er : r env with
  | exc c fs e1 => rw [er] at h; exact h
  | bad => rw [er] at h; exact h
  | ok ds0 e1 =>
    rw [er] at h
    simp only [RA.bind_ok] at h
    intro F1 H1 A1 vs s1 st1 i1 q dx nq ndx hne
    have nF : F1 q = none := none_of_same st1.le q nq
    have nFd : F1 dx = none := none_of_same st1.le dx ndx
    have pres2 : Same H1 (upd (upd H1 dx (.own q)) q (.ins (He.ga X.K x) dx [])) := fun a o e => by
      rw [upd_ne (ne_of_none e nq), upd_ne (ne_of_none e ndx)]; exact e
    have il : IsL X.K F1 (ds0 ++ dds) (vs ++ dvs) := IsL.app i1 (hI F1)
    have ll : (ds0 ++ dds).length = ps.length := hn _ _ _ er
    have tyd : ∀ {ps : List PK} {ds : List D}, (∀ p ∈ ps, p = .d) → ds.length = ps.length → ps.map PK.so = ds.map fun _ => SO.ow .fz := by
      intro ps
      induction ps with
      | nil => intro ds _ l; cases ds with
        | nil => rfl
        | cons d ds => simp at l
      | cons p ps ih => intro ds hp l; cases ds with
        | nil => simp at l
        | cons d ds => rw [List.map_cons, List.map_cons, hp p List.mem_cons_self, ih (fun p hp' => hp p (List.mem_cons_of_mem _ hp')) (by simpa using l)]; rfl
    have ty : (FT.mk (.o (.ob x) :: ps) .fz).ty = SO.ow (.ob x) :: (ds0 ++ dds).map fun _ => SO.ow .fz := by
      show (PK.so (.o (.ob x))) :: ps.map PK.so = _
      rw [tyd hps ll]; rfl
    refine ⟨fun _ => none, F1, .obj x [] :: (ds0 ++ dds), fun a => a = q, ⟨?_, fun a z => by rw [z]; exact nF, fun a o e => pres2 a o (st1.le a o e), (fun a o e => by cases e), fun _ _ => rfl⟩, ?_⟩
    · rw [ty]
      refine ⟨some (.obj x []), _, some (.ref q), _, fun a => a = q, fun _ => False, rfl, rfl, ⟨.ref q, rfl, own_ob.mpr ⟨[], q, dx, [], rfl, rfl, upd_same, by simp [IsF], fun a => Iff.rfl⟩⟩, slots_data il, fun _ _ z => z, fun a => ⟨.inl, fun z => z.elim id fun z => z.elim⟩⟩
    · -- behind __init__
      have mk : ∀ {F' H' : Hp} {A' : AS}, Step F1 (upd (upd H1 dx (.own q)) q (.ins (He.ga X.K x) dx [])) (fun a => a = q) F' H' A' → Same F' H' → (StOk X.K G Δ F' H' e1 σ A1) ∧ Step F H A F' H' (fun a => A1 a ∨ A' a) ∧ ∀ b, A' b → ¬ A1 b := fun {F' H' A'} s le' => by
        have there : ∀ a, A1 a → H1 a ≠ none := fun a z => st1.there z
        have nq1 : ¬ A1 q := fun z => there q z nq
        have nA' : ∀ b, A' b → ¬ A1 b := fun b z w => by
          rcases s.sub b z with e | e
          · subst e; exact nq1 w
          · cases h1 : H1 b with
            | none => exact there b w h1
            | some o => rw [pres2 b o h1] at e; cases e
        refine ⟨⟨st1.sl.loc s.le fun a u z e => s.pres a u (fun w => by subst w; exact nq1 z) (pres2 a u e), fun a z => ?_, le', fun a o e => ?_, st1.gd⟩, ⟨s1.le.trans s.le, fun a o nA e => ?_, fun a z => ?_, fun a o e => ?_, fun a e => ?_⟩, nA'⟩
        · cases e : F' a with
          | none => rfl
          | some o =>
            rcases s.fnew a o e with w | w | w
            · rw [st1.dj a z] at w; cases w
            · subst w; exact absurd z nq1
            · cases h1 : H1 a with
              | none => exact absurd h1 (there a z)
              | some o => rw [pres2 a o h1] at w; cases w
        · have h1 := st1.gl a o e
          exact s.pres a o (fun w => by subst w; rw [nq] at h1; cases h1) (pres2 a o h1)
        · have h1 := s1.pres a o nA e
          exact s.pres a o (fun w => by subst w; rw [nq] at h1; cases h1) (pres2 a o h1)
        · rcases z with z | z
          · exact s1.sub a z
          · rcases s.sub a z with e | e
            · subst e; exact .inr (s1.there _ nq)
            · refine .inr (s1.there a ?_)
              cases h1 : H1 a with
              | none => rfl
              | some o => rw [pres2 a o h1] at e; cases e
        · rcases s.fnew a o e with w | w | w
          · exact s1.fnew a o w
          · subst w; exact .inr (.inr (s1.there _ nq))
          · refine .inr (.inr (s1.there a ?_))
            cases h1 : H1 a with
            | none => rfl
            | some o => rw [pres2 a o h1] at w; cases w
        · have e2 := s.there a e
          refine s1.there a ?_
          cases h1 : H1 a with
          | none => rfl
          | some o => rw [pres2 a o h1] at e2; cases e2
      cases ef : fM (.obj x [] :: (ds0 ++ dds)) with
      | ok d ys =>
        rw [ef] at h
        intro F' H' A' B v s st' own dj
        simp only [Own] at own
        have s' := s.less (A'' := A') fun a z => .inl z
        cases ys with
        | nil => exact h.elim
        | cons y ys =>
          simp only at h
          obtain ⟨k1, k2, k3⟩ := mk s' st'.le
          have sl := st'.sl
          rw [ty] at sl
          obtain ⟨x0, e0, v0, r0, B1, B2, g1, g2, g3, g4, g5, g6⟩ := sl
          simp only [List.map_cons, List.cons.injEq] at g1 g2
          obtain ⟨rfl, rfl⟩ := g1
          obtain ⟨rfl, rfl⟩ := g2
          obtain ⟨y0, ey, ow⟩ := g3
          cases ey
          split at h
          · rename_i hd
            exact ⟨own.1.non hd, h F' H' A1 B1 (.ref q) (k2.less fun a z => z.elim .inl fun z => .inr ((g6 a).mpr (.inl z))) k1 ow fun b z => ⟨k3 b ((g6 b).mpr (.inl z)), st'.dj b ((g6 b).mpr (.inl z))⟩⟩
          · exact h.elim
      | exc c fs ys =>
        rw [ef] at h
        intro F' H' A' dd s st' xd
        obtain ⟨k1, k2, k3⟩ := mk s st'.le
        obtain ⟨A2, w1, w2⟩ := k1.weak lx
        exact h F' H' A2 σ dd (k2.less fun a z => .inl (w2 a z)) w1 xd
      | bad => rw [ef] at h; exact h.elim
end
end PT

set_option Elab.async false
set_option linter.all false
set_option maxRecDepth 100000
set_option maxHeartbeats 4000000
/-! PT: isinstance -/
namespace PT
open PySem PySem.Spec PyProof.Rows L2

def tys : List String := ["NoneType", "bool", "int", "str", "tuple", "list"]
/-- a class x of the program, or the base of all errors -/
def subX (c x : Str) : Bool := c == x || x == ("PushError" : Str)
structure KitOk (K : PySem.W.Frag) (cs xs : List Str) : Prop where
  tg : ∀ a ∈ tys, ∀ x ∈ xs, PySem.W.kitOne K (.type a) (.ref (He.ga K x)) = some false
  gt : ∀ c ∈ cs, ∀ b ∈ tys, PySem.W.kitOne K (.ref (He.ga K c)) (.type b) = some false
  gg : ∀ c ∈ cs, ∀ x ∈ xs, PySem.W.kitOne K (.ref (He.ga K c)) (.ref (He.ga K x)) = some (subX c x)
  cl : ∀ c ∈ cs, Cls K (He.ga K c)
  ha : ∀ c ∈ cs, PySem.W.findIn K (.ref (He.ga K c)) "__class__" = some (some (.builtin "object.__class__"))
  hn : PySem.W.specialIn K (.builtin "object.__class__") "__get__" = some (some (.builtin "getset_descriptor.__get__"))
  ht : PySem.W.takesIn K (.builtin "object.__class__") = some true
  hm : ∀ c ∈ cs, PySem.W.mroIn K (He.ga K c) (.type "object") = some true
/-- the type of data -/
def D.tyn (cs : List Str) : D → Option (String ⊕ Str)
  | .non => some (.inl "NoneType")
  | .bl _ => some (.inl "bool")
  | .int _ => some (.inl "int")
  | .str _ => some (.inl "str")
  | .tup _ => some (.inl "tuple")
  | .lst _ => some (.inl "list")
  | .obj c _ => if c ∈ cs then some (.inr c) else none
  | _ => none
def kitT (a b : String) : Bool := a == b || (a == "bool" && b == "int")
theorem kitT_ok : ∀ a ∈ tys, ∀ b ∈ tys, L2.kitB a b = some (kitT a b) := by
  intro a ha b hb
  simp only [tys, List.mem_cons, List.not_mem_nil, or_false] at ha hb
  rcases ha with rfl | rfl | rfl | rfl | rfl | rfl <;> rcases hb with rfl | rfl | rfl | rfl | rfl | rfl <;> decide +kernel
def isOne (xs : List Str) : String ⊕ Str → D → Option Bool
  | .inl a, .ty b => if a ∈ tys ∧ b ∈ tys then some (kitT a b) else none
  | .inl a, .glo x => if a ∈ tys ∧ x ∈ xs then some false else none
  | .inr _, .ty b => if b ∈ tys then some false else none
  | .inr c, .glo x => if x ∈ xs then some (subX c x) else none
  | _, _ => none
def isAny (xs : List Str) (t : String ⊕ Str) : List D → Option Bool
  | [] => some false
  | c :: r => match isOne xs t c with
    | some true => some true
    | some false => isAny xs t r
    | none => none
/-- isinstance(d, c), c a class or a tuple of classes -/
def isiD (cs xs : List Str) : List D → Option D
  | [d, .tup l] => (d.tyn cs).bind fun t => (isAny xs t l).map .bl
  | [d, c] => (d.tyn cs).bind fun t => (isOne xs t c).map .bl
  | _ => none
def tyV (K : PySem.W.Frag) : String ⊕ Str → Value
  | .inl a => .type a
  | .inr c => .ref (He.ga K c)
section
variable {K : PySem.W.Frag} {cs xs : List Str}
theorem tyX_of (h : KitOk K cs xs) {F H : Hp} {d : D} {v : V} {t : String ⊕ Str} (le : Same F H) (i : Is K F d v) (e : d.tyn cs = some t) : TyX K H v (tyV K t) := by
  cases d with
  | non => simp only [Is] at i; subst i; cases e; exact .base .non
  | bl b => simp only [Is] at i; subst i; cases e; exact .base (.bl b)
  | int b => simp only [Is] at i; subst i; cases e; exact .base (.int b)
  | str b => simp only [Is] at i; subst i; cases e; exact .base (.str b)
  | tup ds =>
    simp only [Is] at i
    obtain ⟨p, ys, rfl, h1, h2⟩ := i
    cases e
    rcases sqT_mono le h1 with (z | ⟨o, z⟩) | ⟨o, its, n, z, z1, _⟩
    · exact .base (.tup z)
    · exact .fTuple z
    · exact .kTuple z z1
  | lst ds =>
    simp only [Is] at i
    obtain ⟨p, ys, rfl, h1, h2⟩ := i
    cases e
    exact .base (.lst (le _ _ h1))
  | obj c fs =>
    simp only [Is] at i
    obtain ⟨p, dx, gs, rfl, h1, h2⟩ := i
    simp only [D.tyn] at e
    split at e
    · rename_i hc
      cases e
      exact .base (.ins (le _ _ h1) (h.cl c hc) (h.ha c hc) h.hn h.ht (h.hm c hc))
    · cases e
  | ty n => cases e
  | glo x => cases e
  | scr x => cases e
theorem tyn_ok {d : D} {t : String ⊕ Str} (e : d.tyn cs = some t) : (∃ a, t = .inl a ∧ a ∈ tys) ∨ ∃ c, t = .inr c ∧ c ∈ cs := by
  cases d with
  | obj c fs =>
    simp only [D.tyn] at e
    split at e
    · rename_i hc; cases e; exact .inr ⟨c, rfl, hc⟩
    · cases e
  | ty n => cases e
  | glo x => cases e
  | scr x => cases e
  | _ => cases e; exact .inl ⟨_, rfl, by decide⟩
theorem isOne_ok (h : KitOk K cs xs) {F : Hp} {t : String ⊕ Str} {c : D} {v : V} {b : Bool} (ht : (∃ a, t = .inl a ∧ a ∈ tys) ∨ ∃ c, t = .inr c ∧ c ∈ cs) (i : Is K F c v) (e : isOne xs t c = some b) : ∃ u, ClsV v u ∧ PySem.W.kitOne K (tyV K t) u = some b := by
  rcases ht with ⟨a, rfl, ha⟩ | ⟨c', rfl, hc⟩
  · cases c with
    | ty n =>
      simp only [Is] at i; subst i
      simp only [isOne] at e
      split at e
      · rename_i hh
        cases e
        exact ⟨.type n, .ty n, kit_ty (kitT_ok a hh.1 n hh.2)⟩
      · cases e
    | glo x =>
      simp only [Is] at i; subst i
      simp only [isOne] at e
      split at e
      · rename_i hh
        cases e
        exact ⟨_, .own _, h.tg a hh.1 x hh.2⟩
      · cases e
    | _ => cases e
  · cases c with
    | ty n =>
      simp only [Is] at i; subst i
      simp only [isOne] at e
      split at e
      · rename_i hh
        cases e
        exact ⟨.type n, .ty n, h.gt c' hc n hh⟩
      · cases e
    | glo x =>
      simp only [Is] at i; subst i
      simp only [isOne] at e
      split at e
      · rename_i hh
        cases e
        exact ⟨_, .own _, h.gg c' hc x hh⟩
      · cases e
    | _ => cases e
theorem isAny_ok (h : KitOk K cs xs) {F : Hp} {t : String ⊕ Str} (ht : (∃ a, t = .inl a ∧ a ∈ tys) ∨ ∃ c, t = .inr c ∧ c ∈ cs) : ∀ {l : List D} {vs : List V} {b : Bool}, IsL K F l vs → isAny xs t l = some b → (∀ c ∈ l, ∃ b', isOne xs t c = some b') → ∃ us, Paired ClsV vs us ∧ PySem.W.kitAny K (tyV K t) us = some b
  | [], vs, b, i, e, _ => by
    simp only [IsL] at i; subst i
    cases e
    exact ⟨[], .nil, rfl⟩
  | c :: l, vs, b, i, e, al => by
    simp only [IsL] at i
    obtain ⟨y, ys, rfl, i1, i2⟩ := i
    obtain ⟨b1, e1⟩ := al c List.mem_cons_self
    obtain ⟨u, k1, k2⟩ := isOne_ok h ht i1 e1
    simp only [isAny, e1] at e
    cases b1 with
    | true =>
      simp only at e
      cases e
      -- the rest is classes, too
      have rest : ∀ {l : List D} {vs : List V}, IsL K F l vs → (∀ c ∈ l, ∃ b', isOne xs t c = some b') → ∃ us, Paired ClsV vs us := by
        intro l
        induction l with
        | nil => intro vs i _; simp only [IsL] at i; subst i; exact ⟨[], .nil⟩
        | cons c l ih =>
          intro vs i al
          simp only [IsL] at i
          obtain ⟨y, ys, rfl, i1, i2⟩ := i
          obtain ⟨b1, e1⟩ := al c List.mem_cons_self
          obtain ⟨u, k1, k2⟩ := isOne_ok h ht i1 e1
          obtain ⟨us, k3⟩ := ih i2 fun c hc => al c (List.mem_cons_of_mem _ hc)
          exact ⟨u :: us, .cons k1 k3⟩
      obtain ⟨us, k3⟩ := rest i2 fun c hc => al c (List.mem_cons_of_mem _ hc)
      exact ⟨u :: us, .cons k1 k3, kitAny_cons k2 (fun z => by cases z) fun _ => rfl⟩
    | false =>
      simp only at e
      obtain ⟨us, k3, k4⟩ := isAny_ok h ht i2 e fun c hc => al c (List.mem_cons_of_mem _ hc)
      exact ⟨u :: us, .cons k1 k3, kitAny_cons k2 (fun _ => k4) fun z => by cases z⟩
/-- isinstance(x, t), t a tuple of classes anywhere -/
def rIsiS (K : PySem.W.Frag) : List V → Hp → VK → Prop := fun ys H Q => ∃ (x : V) (tp : Addr) (cs : List V) (t : Value) (us : List Value) (b : Bool), ys = [x, .ref tp] ∧ SqT K H tp cs ∧ Paired ClsV cs us ∧ TyX K H x t ∧ PySem.W.kitAny K t us = some b ∧ Q (.bl b) H
theorem call_isiS {X : Cx} : CallR X (.builtin "isinstance") (rIsiS X.K) := by
  intro pins s σ H xs us Q I r h
  obtain ⟨x, tp, cs, t, ws, b, rfl, hT, k, ty, e, q⟩ := h
  obtain ⟨u1, u2, rfl, r1, r2⟩ := vals2 r
  cases (show u2 = Value.ref tp from r2)
  obtain ⟨P, Z, p, hx⟩ := kit_of I r1 ty
  obtain ⟨its, rv, ⟨o, h1, h2, n, h3⟩, _⟩ := I.tuple hT
  have e3 := ClsV.all k rv
  subst e3
  obtain ⟨oc, od, dt, sl⟩ := o
  simp only at h2 h3
  subst h2 h3
  exact PySem.W.kia_tup Z I.kIn p h1 e hx fun tk => ⟨.bl b, H, I.tok tk, rfl, q⟩
def rIsiD (K : PySem.W.Frag) : List V → Hp → VK → Prop := fun ys H Q => rIsi K ys H Q ∨ rIsiS K ys H Q
theorem call_isiD {X : Cx} : CallR X (.builtin "isinstance") (rIsiD X.K) := call_isi.or call_isiS
/-- all of the classes are known -/
def isiD' (cs xs : List Str) (l : List D) : Option D := match l with
  | [d, .tup l] => (d.tyn cs).bind fun t => if l.all fun c => (isOne xs t c).isSome then (isAny xs t l).map .bl else none
  | l => isiD cs xs l
theorem rel_isi (h : KitOk K cs xs) : RelC K (rIsiD K) (isiD' cs xs) := by
  intro F H vs ds dz Q le hi e q
  unfold isiD' at e
  split at e
  · rename_i d l
    obtain ⟨v, w, rfl, i1, i2⟩ := hi.two
    cases et : d.tyn cs with
    | none => rw [et] at e; cases e
    | some t =>
      rw [et] at e
      simp only [Option.bind_some] at e
      split at e
      · rename_i al
        cases ea : isAny xs t l with
        | none => rw [ea] at e; cases e
        | some b =>
          rw [ea] at e
          cases e
          simp only [Is] at i2
          obtain ⟨p, ys, rfl, j1, j2⟩ := i2
          obtain ⟨us, k1, k2⟩ := isAny_ok h (tyn_ok et) j2 ea fun c hc => by
            have := List.all_eq_true.mp al c hc
            exact Option.isSome_iff_exists.mp this
          exact .inr ⟨v, p, ys, tyV K t, us, b, rfl, sqT_mono le j1, k1, tyX_of h le i1 et, k2, q F H _ (Grow.refl le) (by simp only [Is])⟩
      · cases e
  · unfold isiD at e
    split at e
    · rename_i d l hne
      exact absurd rfl (hne d l)
    · rename_i d c _ _
      obtain ⟨v, w, rfl, i1, i2⟩ := hi.two
      cases et : d.tyn cs with
      | none => rw [et] at e; cases e
      | some t =>
        rw [et] at e
        simp only [Option.bind_some] at e
        cases ea : isOne xs t c with
        | none => rw [ea] at e; cases e
        | some b =>
          rw [ea] at e
          cases e
          obtain ⟨u, k1, k2⟩ := isOne_ok h (tyn_ok et) i2 ea
          exact .inl ⟨v, w, tyV K t, u, b, rfl, k1, tyX_of h le i1 et, k2, q F H _ (Grow.refl le) (by simp only [Is])⟩
    · cases e
end
section
variable {X : Cx} {C : SC} {Δ : Ty} {pos : Pos}
theorem e_glo {x : Str} (hg : Gl X x) (hm : X.mg x = some (.ref (He.ga X.K x))) (hd : (x == ("__debug__" : Str)) = false := by decide) : PE X (.Name x pos) (tE X.K C Δ (mC (.glo x)) .fz) := e_const (v := .ref (He.ga X.K x)) (pe_glob hg hm rfl hd) fun _ => by simp only [Is]
theorem e_tyn {x : Str} {n : String} (hg : Gl X x) (hm : X.mg x = none) (hv : bootBuiltins x = some (.type n)) (hn : x ≠ "__name__" := by decide) (hd : (x == ("__debug__" : Str)) = false := by decide) : PE X (.Name x pos) (tE X.K C Δ (mC (.ty n)) .fz) := e_const (v := .ty n) (pe_bltn hg hm hv rfl hn hd) fun _ => by simp only [Is]
/-- a module's constant: an int, a text -/
theorem e_gint {x : Str} {i : Int} {t : Tok} (hg : Gl X x) (hm : X.mg x = some (.int i t)) (hd : (x == ("__debug__" : Str)) = false := by decide) : PE X (.Name x pos) (tE X.K C Δ (mC (.int i)) .fz) := e_const (v := .int i) (pe_glob hg hm ⟨t, rfl⟩ hd) fun _ => by simp only [Is]
theorem e_gstr {x z : Str} {t : Tok} (hg : Gl X x) (hm : X.mg x = some (.str z t)) (hd : (x == ("__debug__" : Str)) = false := by decide) : PE X (.Name x pos) (tE X.K C Δ (mC (.str z)) .fz) := e_const (v := .str z) (pe_glob hg hm ⟨t, rfl⟩ hd) fun _ => by simp only [Is]
end
end PT

set_option Elab.async false
set_option linter.all false
set_option maxRecDepth 100000
set_option maxHeartbeats 4000000
/-! PT: tuple(zip(x, y)) -/
namespace TZ
open PySem PySem.Spec PyProof.Rows L2
open Sem (wp)
/-- a zip whose last tuple (handed out) is still held -/
abbrev IsZipF (h : Heap) (z TI TO T : Addr) (f : Bool) : Prop := h.get? z = some { cls := .type "zip", data := .fields #[rawInt T, .bool f, .bool false, .ref TI, .ref TO] }
section
variable {prog : Program} {w : World} {A : Around} {E : Value → Shared → Prop} {s : Shared} {z TI TO i1 i2 T : Addr} {fp1 fp2 : List Addr} {n1 n2 i : Nat} {P1 P2 : Nat → Value → Prop} {St1 St2 : Nat → Heap → Prop} {f : Bool} {oT : Obj}
theorem notFree {Q : Bool → Shared → Prop} (hz : IsZipF s.heap z TI TO T f) (hT : s.heap.get? T = some oT) (h : ∀ h', IsZipF h' z TI TO T true → Heap.SameBut z s.heap h' → Q false { s with heap := h' }) : wpAny (model prog w) A (Builtin.SmallTypes.ownedTupleIsFree (.ref z)) Q E s := by
  unfold Builtin.SmallTypes.ownedTupleIsFree
  refine wpAny_bind (wpAny_field hz rfl (x := rawInt T) rfl ?_)
  show wpAny _ _ (loadIfAlive ((T : Int).toNat) >>= _) _ _ _
  rw [Int.toNat_natCast]
  refine wpAny_bind (PySem.W.kdx_alive hT ?_)
  simp only [Option.isNone_some, Bool.false_eq_true, if_false]
  refine wpAny_bind (wpAny_field hz rfl (x := .bool f) rfl ?_)
  cases f with
  | true =>
    rw [if_neg (by decide)]
    exact wpAny_pure (h s.heap hz (Heap.SameBut.refl ..))
  | false =>
    rw [if_pos (by decide)]
    refine wpAny_bind (wpAny_setField_rec hz (by simp) fun h' e k => ?_)
    exact wpAny_pure (h h' e k)
theorem nextB_item {Q : Value → Shared → Prop} (S : ZipSep2 z TI TO i1 i2 fp1 fp2) (D1 : Draws prog w A i1 fp1 n1 P1 St1) (D2 : Draws prog w A i2 fp2 n2 P2 St2)
    (hz : IsZipF s.heap z TI TO T f) (hT : s.heap.get? T = some oT) (hTI : IsTupOf2 s.heap TI (.ref i1) (.ref i2)) (st1 : St1 i s.heap) (st2 : St2 i s.heap) (hlt1 : i < n1) (hlt2 : i < n2)
    (hQ : ∀ x1 x2 h' tk, P1 i x1 → P2 i x2 → IsZipF h' z TI TO T true → St1 (i + 1) h' → St2 (i + 1) h' → IsTupOf2 h' s.heap.objs.size x1 x2 → h'.objs.size = s.heap.objs.size + 1 →
      (∀ c o, c ≠ z → c ≠ i1 → c ≠ i2 → s.heap.get? c = some o → h'.get? c = some o) → Q (.ref s.heap.objs.size) { s with heap := h', toks := tk }) :
    wpAny (model prog w) A (Builtin.«zip.__next__» ⟨[.ref z], []⟩) (fun fin s' => ∃ v, fin = .done (.ret v) ∧ Q v s') E s := by
  obtain ⟨hp, g, d, tk0, os⟩ := s
  show wpAny _ _ (field (.ref z) 2 >>= _) _ _ _
  refine wpAny_bind (wpAny_field hz rfl (x := .bool false) rfl ?_)
  show wpAny _ _ (field (.ref z) 3 >>= _) _ _ _
  refine wpAny_bind (wpAny_field hz rfl (x := .ref TI) rfl ?_)
  refine wpAny_bind (wpAny_seqItems hTI rfl ?_)
  show wpAny _ _ (Builtin.SmallTypes.ownedTupleIsFree (.ref z) >>= _) _ _ _
  refine wpAny_bind (notFree hz hT fun g0 hz0 hs0 => ?_)
  replace hs0 : Heap.SameBut z hp g0 := hs0
  simp only [Bool.false_eq_true, if_false]
  refine wpAny_bind ?_
  rw [← Array.forIn_toList]
  simp only [List.forIn_cons, List.forIn_nil]
  refine wpAny_bind (wpAny_bind (wpAny_holding ?_))
  show wpAny _ _ (Builtin.SmallTypes.nextOf (.ref i1) >>= _) _ _ ⟨g0, g, d, tk0, os⟩
  refine wpAny_bind (D1.item i _ _ _ hlt1 (D1.over st1 hs0 S.zf1) fun x1 p1 tk1 hx1 sn1 hp1 => wpAny_pure ?_)
  replace hp1 : Heap.SameBut i1 g0 p1 := hp1
  refine wpAny_pure (wpAny_bind (wpAny_bind (wpAny_holding ?_)))
  show wpAny _ _ (Builtin.SmallTypes.nextOf (.ref i2) >>= _) _ _ ⟨p1, g, d, tk1, os⟩
  refine wpAny_bind (D2.item i _ _ _ hlt2 (D2.over (D2.over st2 hs0 S.zf2) hp1 S.sep1_2) fun x2 p2 tk2 hx2 sn2 hp2 => wpAny_pure ?_)
  replace hp2 : Heap.SameBut i2 p1 p2 := hp2
  refine wpAny_pure (wpAny_pure ?_)
  show wpAny _ _ (newTuple [x1, x2] >>= _) _ _ ⟨p2, g, d, tk2, os⟩
  refine wpAny_bind (wpAny_newTuple (wpAny_pure ⟨_, rfl, ?_⟩))
  have hsz : p2.objs.size = hp.objs.size := by rw [hp2.1, hp1.1, hs0.1]
  have hzz : IsZipF p2 z TI TO T true := hp2.extBut _ _ S.zi2 (hp1.extBut _ _ S.zi1 hz0)
  have j1 : St1 (i + 1) p2 := D1.over sn1 hp2 S.sep2_1
  have up : ∀ c o, p2.get? c = some o → (p2.push { cls := .type "tuple", data := .seq #[x1, x2] }).get? c = some o := fun c o e => Heap.get?_push_of_some _ e
  have q := hQ x1 x2 (p2.push { cls := .type "tuple", data := .seq #[x1, x2] }) tk2 hx1 hx2 (up _ _ hzz) (D1.frame _ _ _ j1 fun b _ o e => up b o e) (D2.frame _ _ _ sn2 fun b _ o e => up b o e) (by
    show (p2.push _).get? hp.objs.size = _
    rw [← hsz]; exact Heap.get?_push_size _ rfl) (by rw [Heap.size_push, hsz]) (fun c o cz c1 c2 e => up c o (hp2.extBut _ _ c2 (hp1.extBut _ _ c1 (hs0.extBut _ _ cz e))))
  show Q (.ref p2.objs.size) _
  rw [hsz]
  exact q
theorem nextB_end {Q : Fin → Shared → Prop} (S : ZipSep2 z TI TO i1 i2 fp1 fp2) (D1 : Draws prog w A i1 fp1 n1 P1 St1) (D2 : Draws prog w A i2 fp2 n2 P2 St2)
    (hz : IsZipF s.heap z TI TO T f) (hT : s.heap.get? T = some oT) (hTI : IsTupOf2 s.heap TI (.ref i1) (.ref i2)) (st1 : St1 i s.heap) (st2 : St2 i s.heap) (hle1 : i ≤ n1) (hle2 : i ≤ n2) (hend : i = n1 ∨ i = n2)
    (hE : ∀ h' tk e, (∀ c o, c ≠ z → c ≠ i1 → c ≠ i2 → s.heap.get? c = some o → h'.get? c = some o) → (∃ o, h'.get? e = some o ∧ o.cls = .type "StopIteration") → E (.ref e) { s with heap := h', toks := tk }) :
    wpAny (model prog w) A (Builtin.«zip.__next__» ⟨[.ref z], []⟩) Q E s := by
  obtain ⟨hp, g, d, tk0, os⟩ := s
  show wpAny _ _ (field (.ref z) 2 >>= _) _ _ _
  refine wpAny_bind (wpAny_field hz rfl (x := .bool false) rfl ?_)
  show wpAny _ _ (field (.ref z) 3 >>= _) _ _ _
  refine wpAny_bind (wpAny_field hz rfl (x := .ref TI) rfl ?_)
  refine wpAny_bind (wpAny_seqItems hTI rfl ?_)
  show wpAny _ _ (Builtin.SmallTypes.ownedTupleIsFree (.ref z) >>= _) _ _ _
  refine wpAny_bind (notFree hz hT fun g0 hz0 hs0 => ?_)
  replace hs0 : Heap.SameBut z hp g0 := hs0
  simp only [Bool.false_eq_true, if_false]
  refine wpAny_bind ?_
  rw [← Array.forIn_toList]
  simp only [List.forIn_cons, List.forIn_nil]
  refine wpAny_bind (wpAny_bind (wpAny_holding ?_))
  show wpAny _ _ (Builtin.SmallTypes.nextOf (.ref i1) >>= _) _ _ ⟨g0, g, d, tk0, os⟩
  by_cases hlt1 : i < n1
  · refine wpAny_bind (D1.item i _ _ _ hlt1 (D1.over st1 hs0 S.zf1) fun x1 p1 tk1 hx1 sn1 hp1 => wpAny_pure ?_)
    replace hp1 : Heap.SameBut i1 g0 p1 := hp1
    have hi2 : i = n2 := by omega
    refine wpAny_pure (wpAny_bind (wpAny_bind (wpAny_holding ?_)))
    show wpAny _ _ (Builtin.SmallTypes.nextOf (.ref i2) >>= _) _ _ ⟨p1, g, d, tk1, os⟩
    refine wpAny_bind (D2.done ⟨p1, g, d, tk1, os⟩ _ _ (by rw [← hi2]; exact (D2.over (D2.over st2 hs0 S.zf2) hp1 S.sep1_2)) fun q e hq he => ?_)
    exact hE q tk1 e (fun c o cz c1 c2 x => hq _ _ c2 (hp1.extBut _ _ c1 (hs0.extBut _ _ cz x))) he
  · have hi1 : i = n1 := by omega
    refine wpAny_bind (D1.done ⟨g0, g, d, tk0, os⟩ _ _ (by rw [← hi1]; exact (D1.over st1 hs0 S.zf1)) fun q e hq he => ?_)
    exact hE q tk0 e (fun c o cz c1 c2 x => hq _ _ c1 (hs0.extBut _ _ cz x)) he
theorem pyNextB_item {Q : Option Value → Shared → Prop} (S : ZipSep2 z TI TO i1 i2 fp1 fp2) (D1 : Draws prog w A.in1 i1 fp1 n1 P1 St1) (D2 : Draws prog w A.in1 i2 fp2 n2 P2 St2)
    (hz : IsZipF s.heap z TI TO T f) (hT : s.heap.get? T = some oT) (hTI : IsTupOf2 s.heap TI (.ref i1) (.ref i2)) (st1 : St1 i s.heap) (st2 : St2 i s.heap) (hlt1 : i < n1) (hlt2 : i < n2)
    (hQ : ∀ x1 x2 h' tk, P1 i x1 → P2 i x2 → IsZipF h' z TI TO T true → St1 (i + 1) h' → St2 (i + 1) h' → IsTupOf2 h' s.heap.objs.size x1 x2 → h'.objs.size = s.heap.objs.size + 1 →
      (∀ c o, c ≠ z → c ≠ i1 → c ≠ i2 → s.heap.get? c = some o → h'.get? c = some o) → Q (some (.ref s.heap.objs.size)) { s with heap := h', toks := tk }) :
    wpAny (model prog w) A (pyNext (.ref z)) Q E s := by
  have hTy : s.TypeIs (.ref z) "zip" := ⟨_, hz, rfl⟩
  unfold pyNext
  exact wpAny_bind (wpAny_attempt (wpAny_callSpecial?_slot (name := Str.ofString "__next__") hTy F.slot_zip_next
    (wpAny_call_entry F.slot_zip_next hTy F.entry_zip_next
      (nextB_item S D1 D2 hz hT hTI st1 st2 hlt1 hlt2 fun x1 x2 h' tk y1 y2 b1 d1 d2 b5 b6 b7 => wpAny_pure (hQ x1 x2 h' tk y1 y2 b1 d1 d2 b5 b6 b7)) (F.args_zip_next_1 _))))
theorem pyNextB_end {Q : Option Value → Shared → Prop} (S : ZipSep2 z TI TO i1 i2 fp1 fp2) (D1 : Draws prog w A.in1 i1 fp1 n1 P1 St1) (D2 : Draws prog w A.in1 i2 fp2 n2 P2 St2)
    (hz : IsZipF s.heap z TI TO T f) (hT : s.heap.get? T = some oT) (hTI : IsTupOf2 s.heap TI (.ref i1) (.ref i2)) (st1 : St1 i s.heap) (st2 : St2 i s.heap) (hle1 : i ≤ n1) (hle2 : i ≤ n2) (hend : i = n1 ∨ i = n2)
    (hQ : ∀ h' tk, (∀ c o, c ≠ z → c ≠ i1 → c ≠ i2 → s.heap.get? c = some o → h'.get? c = some o) → Q none { s with heap := h', toks := tk }) : wpAny (model prog w) A (pyNext (.ref z)) Q E s := by
  have hTy : s.TypeIs (.ref z) "zip" := ⟨_, hz, rfl⟩
  unfold pyNext
  refine wpAny_bind (wpAny_attempt (wpAny_callSpecial?_slot (name := Str.ofString "__next__") hTy F.slot_zip_next
    (wpAny_call_entry F.slot_zip_next hTy F.entry_zip_next (nextB_end S D1 D2 hz hT hTI st1 st2 hle1 hle2 hend fun h' tk e hk he => ?_) (F.args_zip_next_1 _))))
  obtain ⟨o, ho, hc⟩ := he
  refine wpAny_bind (wpAny_isInstance (T := "StopIteration") (b := true) ⟨o, ho, hc⟩ isSubtype_stop ?_)
  exact wpAny_pure (hQ _ _ hk)
/-- the zip ahead of turn i -/
def ZSt (h : Heap) (z TI TO i1 i2 n0 : Addr) (St1 St2 : Nat → Heap → Prop) (i : Nat) : Prop :=
  ((i = 0 ∧ IsZip h z TI TO .none ∧ ∃ a b, IsTupOf2 h TO a b) ∨ ∃ T f oT, n0 ≤ T ∧ IsZipF h z TI TO T f ∧ h.get? T = some oT) ∧ IsTupOf2 h TI (.ref i1) (.ref i2) ∧ St1 i h ∧ St2 i h
/-- what is collected -/
def Acc (h : Heap) (n0 : Addr) (P1 P2 : Nat → Value → Prop) (acc : Array Value) (i : Nat) : Prop :=
  acc.size = i ∧ ∀ k, k < i → ∃ T x y, acc[k]? = some (.ref T) ∧ n0 ≤ T ∧ IsTupOf2 h T x y ∧ P1 k x ∧ P2 k y
theorem Acc.keep {h h' : Heap} {n0 : Addr} {acc : Array Value} (k : ∀ b o, n0 ≤ b → h.get? b = some o → h'.get? b = some o) (a : Acc h n0 P1 P2 acc i) : Acc h' n0 P1 P2 acc i :=
  ⟨a.1, fun j hj => let ⟨T, x, y, h1, h2, h3, h4⟩ := a.2 j hj; ⟨T, x, y, h1, h2, k _ _ h2 h3, h4⟩⟩
theorem Acc.push {h : Heap} {n0 T : Addr} {acc : Array Value} {x y : Value} (a : Acc h n0 P1 P2 acc i) (hT : IsTupOf2 h T x y) (hn : n0 ≤ T) (h1 : P1 i x) (h2 : P2 i y) : Acc h n0 P1 P2 (acc.push (.ref T)) (i + 1) := by
  refine ⟨by rw [Array.size_push, a.1], fun k hk => ?_⟩
  rw [Array.getElem?_push]
  by_cases e : k = i
  · subst e
    rw [if_pos a.1.symm]
    exact ⟨T, x, y, rfl, hn, hT, h1, h2⟩
  · rw [if_neg (by rw [a.1]; exact e)]
    exact a.2 k (by omega)
theorem loopZ {R : Result → Shared → Prop} {s0 : Shared} (S : ZipSep2 z TI TO i1 i2 fp1 fp2) (D1 : Draws prog w A.in1.in1 i1 fp1 n1 P1 St1) (D2 : Draws prog w A.in1.in1 i2 fp2 n2 P2 St2) (n0 L : Addr) (res : Value) (hn : min n1 n2 ≤ sizeLine)
    (low : ∀ c ∈ [z, TI, TO, i1, i2], c < n0) (hLf1 : L ∉ fp1) (hLf2 : L ∉ fp2) (hLz : L ≠ z) (hLTI : L ≠ TI) (hLTO : L ≠ TO) (hL : L < n0) :
    ∀ (k i : Nat) (s : Shared) (acc : Array Value) (c : Nat), min n1 n2 - i = k → i ≤ min n1 n2 → n0 ≤ s.heap.objs.size → ZSt s.heap z TI TO i1 i2 n0 St1 St2 i → s.heap.get? L = some { cls := .type "list", dict := none, data := .seq acc c, slots := #[] } → Acc s.heap n0 P1 P2 acc i →
    (∀ h' tk acc' c', (∀ b o, b ∉ [z, TO, i1, i2, L] → s.heap.get? b = some o → h'.get? b = some o) → h'.get? L = some { cls := .type "list", dict := none, data := .seq acc' c', slots := #[] } → Acc h' n0 P1 P2 acc' (min n1 n2) → R (.ok (.ret res)) { s with heap := h', toks := tk }) →
    codeAny (model prog w) A (.builtin "list.extend.loop" ⟨[.ref L, .ref z, res], []⟩) R s := by
  have lz : z < n0 := low z (by simp)
  have lTI : TI < n0 := low TI (by simp)
  have lTO : TO < n0 := low TO (by simp)
  have l1 : i1 < n0 := low i1 (by simp)
  have l2 : i2 < n0 := low i2 (by simp)
  intro k
  induction k with
  | zero =>
    intro i s acc c hk hi hbig hst hLs hacc hR
    have hin : i = min n1 n2 := by omega
    subst hin
    refine codeAny_builtin F.entry_extend_loop ?_
    rw [Around.under_plainId F.plain_extend_loop _]
    show wpAny _ _ (pyNext (.ref z) >>= _) _ _ s
    obtain ⟨hz, hTI, st1, st2⟩ := hst
    have fin : ∀ h' tk, (∀ c o, c ≠ z → c ≠ TO → c ≠ i1 → c ≠ i2 → s.heap.get? c = some o → h'.get? c = some o) → R (.ok (.ret res)) { s with heap := h', toks := tk } := fun h' tk hk' =>
      hR h' tk acc c (fun b o hb e => hk' b o (fun q => hb (by simp [q])) (fun q => hb (by simp [q])) (fun q => hb (by simp [q])) (fun q => hb (by simp [q])) e)
        (hk' _ _ hLz hLTO (fun q => hLf1 (q ▸ S.mem1)) (fun q => hLf2 (q ▸ S.mem2)) hLs) (hacc.keep fun b o hb e => hk' b o (Nat.ne_of_gt (Nat.lt_of_lt_of_le lz hb)) (Nat.ne_of_gt (Nat.lt_of_lt_of_le lTO hb)) (Nat.ne_of_gt (Nat.lt_of_lt_of_le l1 hb)) (Nat.ne_of_gt (Nat.lt_of_lt_of_le l2 hb)) e)
    rcases hz with ⟨h0, hz, a, b, hTO⟩ | ⟨T, f, oT, hTn, hz, hT⟩
    · refine wpAny_bind (wpAny_pyNext_zipD2_end S D1 D2 hz hTI hTO st1 st2 (Nat.min_le_left _ _) (Nat.min_le_right _ _) (by omega) fun h' tk hk' => ?_)
      exact wpAny_pure (fin h' tk hk')
    · refine wpAny_bind (pyNextB_end S D1 D2 hz hT hTI st1 st2 (Nat.min_le_left _ _) (Nat.min_le_right _ _) (by omega) fun h' tk hk' => ?_)
      exact wpAny_pure (fin h' tk fun c o c1 _ c3 c4 e => hk' c o c1 c3 c4 e)
  | succ k ih =>
    intro i s acc c hk hi hbig hst hLs hacc hR
    have hlt1 : i < n1 := by omega
    have hlt2 : i < n2 := by omega
    refine codeAny_builtin F.entry_extend_loop ?_
    rw [Around.under_plainId F.plain_extend_loop _]
    show wpAny _ _ (pyNext (.ref z) >>= _) _ _ s
    obtain ⟨hz, hTI, st1, st2⟩ := hst
    have go : ∀ x1 x2 h' tk, P1 i x1 → P2 i x2 → (∃ T f oT, n0 ≤ T ∧ IsZipF h' z TI TO T f ∧ h'.get? T = some oT) → St1 (i + 1) h' → St2 (i + 1) h' → IsTupOf2 h' s.heap.objs.size x1 x2 → h'.objs.size = s.heap.objs.size + 1 →
        (∀ c o, c ≠ z → c ≠ TO → c ≠ i1 → c ≠ i2 → s.heap.get? c = some o → h'.get? c = some o) →
        wpAny (model prog w) A.in1 (updateSeq L (·.push (.ref s.heap.objs.size)) >>= fun _ => again (.builtin "list.extend.loop" ⟨[.ref L, .ref z, res], []⟩)) (fun fin s' => match fin with | .done f => R (.ok f) s' | .again c' => c'.quiet = true ∧ codeAny (model prog w) A c' R s') (fun e s' => R (.error e) s') { s with heap := h', toks := tk } := fun x1 x2 h' tk p1 p2 hz' t1 t2 hT hsz hk' => by
      have hL' := hk' _ _ hLz hLTO (fun q => hLf1 (q ▸ S.mem1)) (fun q => hLf2 (q ▸ S.mem2)) hLs
      refine wpAny_bind ?_
      refine wpAny_updateSeq hL' rfl (wpAny_pure ⟨plainId_quiet F.plain_extend_loop _, ?_⟩) (by rw [hacc.1]; omega) (by show (acc.push _).size ≤ sizeLine + 1; rw [Array.size_push, hacc.1]; omega)
      have ot : ∀ b o, b ≠ L → h'.get? b = some o → (h'.update L (Obj.mapSeq (·.push (.ref s.heap.objs.size)))).get? b = some o := fun b o hb e => (Heap.get?_update_other _ _ (Ne.symm hb)).trans e
      obtain ⟨T, f, oT, hTn, hzf, hTo⟩ := hz'
      have nL : ∀ b, n0 ≤ b → b ≠ L := fun b hb => Nat.ne_of_gt (Nat.lt_of_lt_of_le hL hb)
      refine ih (i + 1) _ (acc.push (.ref s.heap.objs.size)) _ (by omega) (by omega) ?_ ⟨.inr ⟨T, f, oT, hTn, ot _ _ (Ne.symm hLz) hzf, ot _ _ (nL T hTn) hTo⟩, ot _ _ (Ne.symm hLTI) (hk' _ _ S.TIz S.TITO S.TIi1 S.TIi2 hTI), D1.frame _ _ _ t1 fun b hb o e => ot b o (fun q => hLf1 (q ▸ hb)) e, D2.frame _ _ _ t2 fun b hb o e => ot b o (fun q => hLf2 (q ▸ hb)) e⟩
        (Heap.get?_update_self _ hL' rfl) (((hacc.keep fun b o hb e => hk' b o (Nat.ne_of_gt (Nat.lt_of_lt_of_le lz hb)) (Nat.ne_of_gt (Nat.lt_of_lt_of_le lTO hb)) (Nat.ne_of_gt (Nat.lt_of_lt_of_le l1 hb)) (Nat.ne_of_gt (Nat.lt_of_lt_of_le l2 hb)) e).keep fun b o hb e => ot b o (nL b hb) e).push (ot _ _ (nL _ hbig) hT) hbig p1 p2) ?_
      · show n0 ≤ (h'.update L _).objs.size
        rw [Heap.size_update, hsz]; exact Nat.le_succ_of_le hbig
      · intro h2 tk2 acc' c' k2 e2 a2
        exact hR h2 tk2 acc' c' (fun b o hb e => k2 b o hb (ot b o (fun q => hb (by simp [q])) (hk' b o (fun q => hb (by simp [q])) (fun q => hb (by simp [q])) (fun q => hb (by simp [q])) (fun q => hb (by simp [q])) e))) e2 a2
    rcases hz with ⟨h0, hz, a, b, hTO⟩ | ⟨T, f, oT, hTn, hz, hT⟩
    · refine wpAny_bind (wpAny_pyNext_zipD2_item S D1 D2 hz hTI hTO st1 st2 hlt1 hlt2 fun x1 x2 h' tk p1 p2 z1 _ t1 t2 hT hsz hk' => ?_)
      exact go x1 x2 h' tk p1 p2 ⟨_, false, _, hbig, z1, hT⟩ t1 t2 hT hsz hk'
    · refine wpAny_bind (pyNextB_item S D1 D2 hz hT hTI st1 st2 hlt1 hlt2 fun x1 x2 h' tk p1 p2 z1 t1 t2 hT' hsz hk' => ?_)
      exact go x1 x2 h' tk p1 p2 ⟨T, true, oT, hTn, z1, hk' _ _ (Nat.ne_of_gt (Nat.lt_of_lt_of_le lz hTn)) (Nat.ne_of_gt (Nat.lt_of_lt_of_le l1 hTn)) (Nat.ne_of_gt (Nat.lt_of_lt_of_le l2 hTn)) hT⟩ t1 t2 hT' hsz fun c o c1 _ c3 c4 e => hk' c o c1 c3 c4 e
theorem zip_no_len : typeLookup (.type "zip") "__len__" = pure none := by rw [typeLookup_type, builtinLookup_eq_fast]; kernel_rfl
theorem zip_no_hint : typeLookup (.type "zip") "__length_hint__" = pure none := by rw [typeLookup_type, builtinLookup_eq_fast]; kernel_rfl
theorem collectZ {Q : List Value → Shared → Prop} (S : ZipSep2 z TI TO i1 i2 fp1 fp2) (D1 : Draws prog w A.in1.in1 i1 fp1 n1 P1 St1) (D2 : Draws prog w A.in1.in1 i2 fp2 n2 P2 St2) (hn : min n1 n2 ≤ sizeLine) (low : ∀ c ∈ [z, TI, TO, i1, i2], c < s.heap.objs.size) (hf1 : ∀ c ∈ fp1, c < s.heap.objs.size) (hf2 : ∀ c ∈ fp2, c < s.heap.objs.size)
    (hz : IsZip s.heap z TI TO .none) (hTO : ∃ a b, IsTupOf2 s.heap TO a b) (hTI : IsTupOf2 s.heap TI (.ref i1) (.ref i2)) (st1 : St1 0 s.heap) (st2 : St2 0 s.heap)
    (hQ : ∀ h' tk acc, (∀ b o, b ∉ [z, TO, i1, i2] → s.heap.get? b = some o → h'.get? b = some o) → Acc h' (s.heap.objs.size + 1) P1 P2 acc (min n1 n2) → Q acc.toList { s with heap := h', toks := tk }) : wpAny (model prog w) A (collect (.ref z)) Q E s := by
  have zlt : z < s.heap.objs.size := low z (by simp)
  have hSz : s.heap.objs.size ≠ z := Nat.ne_of_gt zlt
  unfold collect
  refine wpAny_bind (wpAny_runValue (codeAny_builtin F.entry_proto_collect ?_))
  rw [Around.under_plainId F.plain_proto_collect _]
  show wpAny _ A.in1 (newList [] >>= fun l => again (.builtin "list.__iadd__" ⟨[l, .ref z], []⟩)) _ _ s
  refine wpAny_bind (wpAny_newObj_type ?_)
  refine wpAny_pure ⟨plainId_quiet F.plain_list_iadd _, codeAny_builtin F.entry_list_iadd ?_⟩
  rw [Around.under_plainId F.plain_list_iadd _]
  have up : ∀ b o, s.heap.get? b = some o → (s.heap.push { cls := .type "list", data := .seq ([] : List Value).toArray }).get? b = some o := fun b o e => Heap.get?_push_of_some _ e
  have hz1 : IsZip (s.heap.push { cls := .type "list", data := .seq ([] : List Value).toArray }) z TI TO .none := up _ _ hz
  have hT : ({ s with heap := s.heap.push { cls := .type "list", data := .seq ([] : List Value).toArray } } : Shared).TypeIs (.ref z) "zip" := ⟨_, hz1, rfl⟩
  show wpAny _ A.in1 (Builtin.List.listExtendWith (.ref s.heap.objs.size) (.ref z) (.ref s.heap.objs.size)) _ _ _
  unfold Builtin.List.listExtendWith
  refine wpAny_bind (wpAny_typeOf hT ?_)
  have h1 : Builtin.List.listSameRef (.ref s.heap.objs.size) (.ref z) = false := by simp [Builtin.List.listSameRef, hSz]
  have h2 : (Value.type "zip" == Value.type "list") = false := by decide
  have h3 : (Value.type "zip" == Value.type "tuple") = false := by decide
  simp only [h1, h2, h3, Bool.or_false, Bool.false_eq_true, if_false]
  refine wpAny_bind (wpAny_pyIter_zip (s := { s with heap := s.heap.push { cls := .type "list", data := .seq ([] : List Value).toArray } }) hz1 ?_)
  refine wpAny_bind (wpAny_holding ?_)
  unfold Builtin.List.listLengthHint
  refine wpAny_bind (wpAny_specialOf hT zip_no_len ?_)
  show wpAny _ A.in1 (specialOf (Value.ref z) (Str.ofString "__length_hint__") >>= _) _ _ _
  refine wpAny_bind (wpAny_specialOf hT zip_no_hint ?_)
  refine wpAny_pure ?_
  show wpAny _ A.in1 (rule "list.extend.makes-room" >>= fun _ => Builtin.List.listTouch (.ref s.heap.objs.size) >>= fun _ =>
    again (.builtin "list.extend.loop" ⟨[.ref s.heap.objs.size, .ref z, .ref s.heap.objs.size], []⟩)) _ _ _
  refine wpAny_bind (wpAny_rule ?_)
  have hS₁ : (s.heap.push { cls := .type "list", data := .seq ([] : List Value).toArray }).get? s.heap.objs.size = some { cls := .type "list", data := .seq ([] : List Value).toArray } := Heap.get?_push_size _ rfl
  refine wpAny_bind ?_
  show wpAny _ A.in1 (updateSeq s.heap.objs.size (·.push .none) >>= fun _ => updateSeq s.heap.objs.size (·.pop)) _ _ _
  refine wpAny_bind (wpAny_updateSeq hS₁ rfl ?_)
  have hS₂ := Heap.get?_update_self (Obj.mapSeq (·.push Value.none)) hS₁ rfl
  refine wpAny_updateSeq hS₂ rfl ?_
  have hS₃ := Heap.get?_update_self (Obj.mapSeq (·.pop)) hS₂ rfl
  have oth : ∀ b o, b ≠ s.heap.objs.size → (s.heap.push { cls := .type "list", data := .seq ([] : List Value).toArray }).get? b = some o →
      (((s.heap.push { cls := .type "list", data := .seq ([] : List Value).toArray }).update s.heap.objs.size (Obj.mapSeq (·.push Value.none))).update s.heap.objs.size (Obj.mapSeq (·.pop))).get? b = some o :=
    fun b o hb e => (Heap.get?_update_other _ _ (Ne.symm hb)).trans ((Heap.get?_update_other _ _ (Ne.symm hb)).trans e)
  have ot : ∀ b o, b < s.heap.objs.size → s.heap.get? b = some o → _ := fun b o hb e => oth b o (Nat.ne_of_lt hb) (up b o e)
  have ne1 : ∀ c ∈ [z, TI, TO, i1, i2], s.heap.objs.size ≠ c := fun c hc => Nat.ne_of_gt (low c hc)
  obtain ⟨a0, b0, hTO⟩ := hTO
  refine wpAny_pure ⟨plainId_quiet F.plain_extend_loop _, loopZ (s0 := s) S D1 D2 (s.heap.objs.size + 1) s.heap.objs.size _ hn (fun c hc => Nat.lt_succ_of_lt (low c hc)) (fun q => Nat.lt_irrefl _ (hf1 _ q)) (fun q => Nat.lt_irrefl _ (hf2 _ q)) hSz (ne1 _ (by simp)) (ne1 _ (by simp)) (Nat.lt_succ_self _)
    _ 0 _ _ _ rfl (Nat.zero_le _) (by show s.heap.objs.size + 1 ≤ ((_ : Heap).update _ _).objs.size; rw [Heap.size_update, Heap.size_update, Heap.size_push]; exact Nat.le_refl _) ⟨.inl ⟨rfl, ot _ _ zlt hz, a0, b0, ot _ _ (low TO (by simp)) hTO⟩, ot _ _ (low TI (by simp)) hTI, D1.frame _ _ _ st1 fun b hb o e => ot b o (hf1 b hb) e, D2.frame _ _ _ st2 fun b hb o e => ot b o (hf2 b hb) e⟩ hS₃ ⟨rfl, fun k hk => absurd hk (Nat.not_lt_zero k)⟩ fun h' tk acc' c' hk hS' hacc => ?_⟩
  show wpAny _ A (load s.heap.objs.size >>= _) _ _ _
  refine wpAny_bind (wpAny_load hS' ?_)
  refine wpAny_pure (hQ h' tk acc' (fun b o hb e => hk b o (fun q => ?_) (ot b o (Heap.lt_size e) e)) hacc)
  have hne : b ≠ s.heap.objs.size := Nat.ne_of_lt (Heap.lt_size e)
  simp only [List.mem_cons, List.not_mem_nil, or_false, not_or] at q hb
  rcases q with q | q | q | q | q
  · exact hb.1 q
  · exact hb.2.1 q
  · exact hb.2.2.1 q
  · exact hb.2.2.2 q
  · exact hne q
theorem newZ {Q₁ : Value → Shared → Prop} (S : ZipSep2 z TI TO i1 i2 fp1 fp2) (D1 : Draws prog w A.in1.in1.in1 i1 fp1 n1 P1 St1) (D2 : Draws prog w A.in1.in1.in1 i2 fp2 n2 P2 St2) (hn : min n1 n2 ≤ sizeLine) (low : ∀ c ∈ [z, TI, TO, i1, i2], c < s.heap.objs.size) (hf1 : ∀ c ∈ fp1, c < s.heap.objs.size) (hf2 : ∀ c ∈ fp2, c < s.heap.objs.size)
    (hz : IsZip s.heap z TI TO .none) (hTO : ∃ a b, IsTupOf2 s.heap TO a b) (hTI : IsTupOf2 s.heap TI (.ref i1) (.ref i2)) (st1 : St1 0 s.heap) (st2 : St2 0 s.heap)
    (h : ∀ h' tk acc, (∀ b o, b ∉ [z, TO, i1, i2] → s.heap.get? b = some o → h'.get? b = some o) → Acc h' (s.heap.objs.size + 1) P1 P2 acc (min n1 n2) → Q₁ (.ref h'.objs.size) { s with heap := h'.push { cls := .type "tuple", data := .seq acc }, toks := tk }) :
    codeAny (model prog w) A (.call (.builtin "tuple.__new__") ⟨[.type "tuple", .ref z], []⟩) (wants Q₁ E) s := by
  refine codeAny_of_tree ?_
  show wpAny _ A.in1 (do checkBuiltinCall "tuple.__new__" ⟨[.type "tuple", .ref z], []⟩; again (.builtin "tuple.__new__" ⟨[.type "tuple", .ref z], []⟩)) _ _ s
  refine wpAny_bind (wpAny_of_eq (F.newCall_tuple_1 _) (wpAny_pure ⟨plainId_quiet F.plain_tuple_new _, codeAny_builtin F.entry_tuple_new ?_⟩))
  rw [Around.under_plainId F.plain_tuple_new _]
  have hsub := sub_tuple_self
  have hinit := init_tuple_lookup
  have hmh := madeHere_tuple
  have hTI' : s.TypeIs (.ref z) "zip" := ⟨_, hz, rfl⟩
  wp_walk using wpAny_typeOf hTI', collectZ (A := A.in1) S D1 D2 hn low hf1 hf2 hz hTO hTI st1 st2
  intro h' tk acc hk hacc
  show wpAny _ _ (Builtin.Tuple.tupleExact acc.toList.toArray >>= fun v => ret v) _ _ _
  unfold Builtin.Tuple.tupleExact
  refine wpAny_bind (wpAny_newObj_type ?_ (by show acc.toList.toArray.size ≤ sizeLine; simp only [Array.toArray_toList]; rw [hacc.1]; exact hn))
  refine wpAny_pure ?_
  have e : acc.toList.toArray = acc := by simp
  rw [e]
  exact h h' tk acc hk hacc
theorem call_tupleZ {Q : Value → Shared → Prop} (S : ZipSep2 z TI TO i1 i2 fp1 fp2) (D1 : Draws prog w A.in1.in1.in1.in1 i1 fp1 n1 P1 St1) (D2 : Draws prog w A.in1.in1.in1.in1 i2 fp2 n2 P2 St2) (hn : min n1 n2 ≤ sizeLine) (low : ∀ c ∈ [z, TI, TO, i1, i2], c < s.heap.objs.size) (hf1 : ∀ c ∈ fp1, c < s.heap.objs.size) (hf2 : ∀ c ∈ fp2, c < s.heap.objs.size)
    (hz : IsZip s.heap z TI TO .none) (hTO : ∃ a b, IsTupOf2 s.heap TO a b) (hTI : IsTupOf2 s.heap TI (.ref i1) (.ref i2)) (st1 : St1 0 s.heap) (st2 : St2 0 s.heap)
    (hQ : ∀ h' tk acc, (∀ b o, b ∉ [z, TO, i1, i2] → s.heap.get? b = some o → h'.get? b = some o) → Acc h' (s.heap.objs.size + 1) P1 P2 acc (min n1 n2) → Q (.ref h'.objs.size) { s with heap := h'.push { cls := .type "tuple", data := .seq acc }, toks := tk }) :
    wpAny (model prog w) A (call (.type "tuple") [.ref z]) Q E s := by
  refine callType_codes (Q₁ := fun obj s₁ => s₁.TypeIs obj "tuple" ∧ Q obj s₁) F.called_tuple (F.typeCall_tuple_1 _) F.entry_object_init
    (newZ (A := A.in1) S D1 D2 hn low hf1 hf2 hz hTO hTI st1 st2 fun h' tk acc hk hacc => ⟨⟨_, Heap.get?_push_size _ rfl, rfl⟩, hQ h' tk acc hk hacc⟩) fun obj s₁ h₁ => ?_
  exact ⟨h₁.1, F.args_object_init_2 obj _, object_init_meets F.called_tuple.init.lookup F.called_tuple.made (by decide) prog w A.in1 _ s₁ ⟨h₁.1, rfl, h₁.2⟩⟩
end
end TZ
namespace PT
open PySem PySem.Spec PyProof.Rows L2
/-- tuple(zip(x, y)), by values: the pairs are new, too -/
def tTZ (K : PySem.W.Frag) (ta : TA) : TE := fun σ H Q => ta σ H fun vs H1 => ∃ (b1 b2 : Bool) (a1 a2 : Addr) (xs ys : List V), vs = [.ref a1, .ref a2] ∧ Sq K H1 b1 a1 xs ∧ Sq K H1 b2 a2 ys ∧
  ∀ (ps : List Addr) (p : Addr) (H' : Hp), ps.length = min xs.length ys.length → Same H1 H' → H1 p = none → H' p = some (.tup (ps.map V.ref)) → (∀ (k : Nat) (T : Addr), ps[k]? = some T → ∃ x y, xs[k]? = some x ∧ ys[k]? = some y ∧ H1 T = none ∧ H' T = some (.tup [x, y])) → Q (.ref p) H'
section
variable {X : Cx} {pins : List (Addr × Obj)} {σ : L2.St} {H H' : Hp} {s : Shared} {h' : Heap}
/-- what is new is described at once -/
theorem Inv.news {t' : Nat} (I : L2.Inv X pins σ H s) (k : ∀ b o, s.heap.get? b = some o → h'.get? b = some o) (gr : Same H H') (nw : ∀ b u, H' b = some u → H b = some u ∨ (s.heap.objs.size ≤ b ∧ ObjOk X.prog X.w H' h' b u)) : L2.Inv X pins σ H' { s with heap := h', toks := t' } := by
  refine I.step (g' := s.gens) (d' := s.drawn) (ch := []) (fun b hb => absurd hb (by simp)) (fun b o _ _ _ e _ => k b o e) (fun b o _ _ _ e _ => ⟨o.slots, k b o e⟩) (fun b o _ e n => ?_) (fun b o _ e => ⟨o, k b o e⟩) (fun b xs e => gr b _ e) (fun b o u e => gr b _ e) (fun b ps e => ⟨#[], by rw [gr b _ e]; simp⟩) (fun m hm => ?_) (fun b u e => ?_) I.bare
  · cases q : H' b with
    | none => rfl
    | some u =>
      rcases nw b u q with z | ⟨z, _⟩
      · rw [n] at z; cases z
      · exact absurd (Nat.lt_of_lt_of_le (Heap.lt_size e) z) (Nat.lt_irrefl _)
  · obtain ⟨o, es, ep, ho, r⟩ := hm
    exact ⟨o, es, ep, k _ o ho, r⟩
  · rcases nw b u e with z | ⟨_, z⟩
    · exact (I.hok b u z).stay (fun c v _ q => k c v q) (fun c q => gr c _ q) fun c xs q => gr c _ q
    · exact z
/-- a pair, by values -/
def pairV : Option Obj → Option (List V)
  | some ⟨.type c, _, .seq its _, _⟩ => if c = "tuple" then (match its.toList with
    | [u, v] => (absV u).bind fun x => (absV v).map fun y => [x, y]
    | _ => none) else none
  | _ => none
theorem absV_ok {u : Value} {x : V} (h : absV u = some x) : RelV x u := by
  cases u <;> simp only [absV, Option.some.injEq, reduceCtorEq] at h <;> subst h <;> first | rfl | exact ⟨_, rfl⟩
theorem pairV_ok {o : Option Obj} {l : List V} (h : pairV o = some l) : ∃ ob us, o = some ob ∧ ob.cls = .type "tuple" ∧ (∃ n, ob.data = .seq (List.toArray us) n) ∧ Vals l us ∧ l.length = 2 := by
  unfold pairV at h
  split at h
  · rename_i c d its n sl
    split at h
    · rename_i hc
      subst hc
      split at h
      · rename_i u v hl
        cases e1 : absV u with
        | none => rw [e1] at h; cases h
        | some x =>
          rw [e1] at h
          simp only [Option.bind_some] at h
          cases e2 : absV v with
          | none => rw [e2] at h; cases h
          | some y =>
            rw [e2] at h
            cases h
            refine ⟨_, [u, v], rfl, rfl, ⟨n, ?_⟩, .cons (absV_ok e1) (.cons (absV_ok e2) .nil), rfl⟩
            show Data.seq its n = Data.seq _ n
            congr 1
            rw [← hl]
      · cases h
    · cases h
  · cases h
theorem pairV_at {h : Heap} {T : Addr} {x y : V} {u v : Value} (r1 : RelV x u) (r2 : RelV y v) (hT : IsTupOf2 h T u v) : pairV (h.get? T) = some [x, y] := by
  rw [show h.get? T = _ from hT]
  simp only [pairV, if_true]
  rw [r1.abs, r2.abs]
  rfl
/-- the new pairs, and the tuple of them -/
def tzH (H : Hp) (h' : Heap) (n p : Addr) (ps : List Addr) : Hp := fun b => if b = p then some (.tup (ps.map V.ref)) else if n ≤ b then (match pairV (h'.get? b) with
  | some l => some (.tup l)
  | none => H b) else H b
theorem tzH_at {n p T : Addr} {ps : List Addr} {x y : V} {u v : Value} (hn : n ≤ T) (ne : T ≠ p) (r1 : RelV x u) (r2 : RelV y v) (hT : IsTupOf2 h' T u v) : tzH H h' n p ps T = some (.tup [x, y]) := by
  unfold tzH
  rw [if_neg ne, if_pos hn, pairV_at r1 r2 hT]
theorem pe_tz {e e2 : Expr} {ta : TA} {p1 p2 pz pos : Pos} (hc : X.calm = true) (hgT : Gl X "tuple") (hmT : X.mg "tuple" = none) (hg : Gl X "zip") (hm : X.mg "zip" = none) (ha : PA X [e, e2] ta)
    (hs : starEach [e, e2] X.env = (false, eval e X.env) :: starEach [e2] X.env := by rfl) (hpl : (backTo pz (starEach [e2] X.env)).any (·.1) = false := by rfl)
    (hs2 : starEach [.Call (.Name "zip" p2) [e, e2] [] pz] X.env = (false, eval (.Call (.Name "zip" p2) [e, e2] [] pz) X.env) :: starEach [] X.env := by rfl) :
    PE X (.Call (.Name "tuple" p1) [.Call (.Name "zip" p2) [e, e2] [] pz] [] pos) (tTZ X.K ta) := by
  refine ⟨fun pins s σ H Q I h => ?_⟩
  refine Call_ (ld_blt I hgT hmT PyProof.Rows.boot_tuple (PyProof.Rows.callWith_type1 (PyProof.Rows.args_cons (Call_ (ld_blt I hg hm PyProof.Rows.boot_zip (PyProof.Rows.callWith_type1 (thn (ha.run pz pins s σ H _ I h) fun us s1 ⟨vs, H1, I1, r1, q1⟩ => ?_) hs hpl))) hs2) hs2 (by rfl)))
  obtain ⟨b1, b2, a1, a2, xs, ys, ex, hqx, hqy, q⟩ := q1
  subst ex
  cases r1 with
  | cons r rr =>
    cases rr with
    | cons r' rr =>
      cases rr
      cases r
      cases r'
      obtain ⟨its, rv, p1, hz1, L1⟩ := sq_at I1 hqx
      obtain ⟨its2, rv2, p2, hz2, L2'⟩ := sq_at I1 hqy
      refine zip_begins2 (begins b1 a1 its.toArray) (begins b2 a2 its2.toArray) p1 p2 fun h' hz hTI hTO h1 h2 hsz hk => ?_
      refine PyProof.Rows.args_nil ?_
      have ZA : ZA2 (s1.heap.objs.size + 4) (s1.heap.objs.size + 2) (s1.heap.objs.size + 3) s1.heap.objs.size (s1.heap.objs.size + 1) a1 a2 := ⟨z2_nd _, z2_out L1, z2_out L2'⟩
      have n1 : a1 ≠ s1.heap.objs.size := Nat.ne_of_lt L1
      have n2 : a2 ≠ s1.heap.objs.size + 1 := Nat.ne_of_lt (Nat.lt_succ_of_lt L2')
      have sq1 : IsSq h' b1 a1 its.toArray := (begins b1 a1 its.toArray).keeps _ _ p1 hk
      have sq2 : IsSq h' b2 a2 its2.toArray := (begins b2 a2 its2.toArray).keeps _ _ p2 hk
      have l1 := rv.length
      have l2 := rv2.length
      have bound : s1.heap.objs.size + 5 ≤ h'.objs.size := Nat.le_of_eq hsz.symm
      have bnd : ∀ k, k < 5 → s1.heap.objs.size + k < h'.objs.size := fun k hk => Nat.lt_of_lt_of_le (Nat.add_lt_add_left hk _) bound
      refine TZ.call_tupleZ (s := { s1 with heap := h' }) ZA.sep (draws (A := X.A.in1.in1.in1.in1) (I.ok.hd hc) b1 _ a1 n1 its.toArray) (draws (A := X.A.in1.in1.in1.in1) (I.ok.hd hc) b2 _ a2 n2 its2.toArray) (Nat.le_trans (Nat.min_le_left _ _) (by rw [List.size_toArray, ← l1]; exact hz1)) ?_ ?_ ?_ hz ⟨_, _, hTO⟩ hTI ⟨itOb_is h1, sq1⟩ ⟨itOb_is h2, sq2⟩ ?_
      · intro c hc
        simp only [List.mem_cons, List.not_mem_nil, or_false] at hc
        rcases hc with rfl | rfl | rfl | rfl | rfl
        · exact bnd 4 (by decide)
        · exact bnd 2 (by decide)
        · exact bnd 3 (by decide)
        · exact bnd 0 (by decide)
        · exact bnd 1 (by decide)
      · intro c hc
        simp only [List.mem_cons, List.not_mem_nil, or_false] at hc
        rcases hc with rfl | rfl
        · exact bnd 0 (by decide)
        · exact Nat.lt_of_lt_of_le L1 (Nat.le_of_lt (bnd 0 (by decide)))
      · intro c hc
        simp only [List.mem_cons, List.not_mem_nil, or_false] at hc
        rcases hc with rfl | rfl
        · exact bnd 1 (by decide)
        · exact Nat.lt_of_lt_of_le L2' (Nat.le_of_lt (bnd 0 (by decide)))
      intro h2' tk acc hk2 hacc
      -- the addresses of the pairs
      have hns : ∀ b, H1 b ≠ none → b < s1.heap.objs.size := fun b hb => by
        cases e : H1 b with
        | none => exact absurd e hb
        | some u => exact ObjOk.lt (I1.hok b u e)
      have keep : ∀ b o, s1.heap.get? b = some o → h2'.get? b = some o := fun b o e => hk2 b o (fun q => by
        have := z2_ge (n := s1.heap.objs.size) (c := b) (by
          simp only [List.mem_cons, List.not_mem_nil, or_false] at q ⊢
          rcases q with q | q | q | q
          · exact .inl q
          · exact .inr (.inr (.inl q))
          · exact .inr (.inr (.inr (.inl q)))
          · exact .inr (.inr (.inr (.inr q))))
        exact absurd (Heap.lt_size e) (Nat.not_lt.mpr this)) (hk b o e)
      have keep3 : ∀ b o, s1.heap.get? b = some o → (h2'.push { cls := .type "tuple", data := .seq acc }).get? b = some o := fun b o e => Heap.get?_push_of_some _ (keep b o e)
      have hTI2 : h2'.get? (s1.heap.objs.size + 2) = some { cls := .type "tuple", data := .seq #[.ref s1.heap.objs.size, .ref (s1.heap.objs.size + 1)] } := hk2 _ _ (by simp) hTI
      have lp : s1.heap.objs.size ≤ h2'.objs.size := Nat.le_of_lt (Nat.lt_of_le_of_lt (Nat.le_add_right _ 2) (Heap.lt_size hTI2))
      have hbig : s1.heap.objs.size ≤ h'.objs.size + 1 := Nat.le_succ_of_le (Nat.le_of_lt (bnd 0 (by decide)))
      obtain ⟨hsz2, hit⟩ := hacc
      let ad : Value → Addr := fun v => match v with
        | .ref a => a
        | _ => 0
      have hlen : (acc.toList.map ad).length = min xs.length ys.length := by
        rw [List.length_map, Array.length_toList, hsz2, List.size_toArray, List.size_toArray, l1, l2]
      have hv : ∀ l : List Value, (∀ v ∈ l, ∃ T, v = .ref T) → Vals ((l.map ad).map V.ref) l := by
        intro l
        induction l with
        | nil => intro _; exact .nil
        | cons v l ih =>
          intro h
          obtain ⟨T, rfl⟩ := h v List.mem_cons_self
          exact .cons rfl (ih fun v hv => h v (List.mem_cons_of_mem _ hv))
      have hr : ∀ v ∈ acc.toList, ∃ T, v = .ref T := fun v hv => by
        obtain ⟨k, hk, e⟩ := List.mem_iff_getElem.mp hv
        obtain ⟨T, x, y, e1, _⟩ := hit k (by rw [← hsz2, ← Array.length_toList]; exact hk)
        rw [← Array.getElem?_toList, List.getElem?_eq_getElem hk, e] at e1
        exact ⟨T, Option.some.inj e1⟩
      have gr : Same H1 (tzH H1 (h2'.push { cls := .type "tuple", data := .seq acc }) s1.heap.objs.size h2'.objs.size (acc.toList.map ad)) := fun a o e => by
        have lt := hns a (by rw [e]; exact fun z => nomatch z)
        unfold tzH
        rw [if_neg (Nat.ne_of_lt (Nat.lt_of_lt_of_le lt lp)), if_neg (Nat.not_le.mpr lt)]
        exact e
      have zacc : acc.size ≤ sizeLine := by
        rw [hsz2, List.size_toArray]
        exact Nat.le_trans (Nat.min_le_left _ _) (by rw [← l1]; exact hz1)
      have J : L2.Inv X pins σ (tzH H1 (h2'.push { cls := .type "tuple", data := .seq acc }) s1.heap.objs.size h2'.objs.size (acc.toList.map ad)) { s1 with heap := h2'.push { cls := .type "tuple", data := .seq acc }, toks := tk } := by
        refine Inv.news I1 keep3 gr fun b u e => ?_
        unfold tzH at e
        split at e
        · rename_i hb
          subst hb
          cases e
          exact .inr ⟨lp, by rw [List.length_map, List.length_map, Array.length_toList]; exact zacc, acc.toList, hv _ hr, ⟨_, Heap.get?_push_size _ rfl, rfl, 0, by simp⟩⟩
        · split at e
          · rename_i hb
            split at e
            · rename_i l hl
              cases e
              obtain ⟨ob, us, e1, e2, e3, e4, e5⟩ := pairV_ok hl
              exact .inr ⟨hb, by rw [e5, sizeLine_eq]; decide, us, e4, ob, e1, e2, e3⟩
            · exact .inl e
          · exact .inl e
      refine ⟨.ref h2'.objs.size, _, J, rfl, q _ _ _ hlen gr (I1.hok.fresh lp) (by unfold tzH; rw [if_pos rfl]) fun k T hkT => ?_⟩
      rw [List.getElem?_map] at hkT
      cases ea : acc.toList[k]? with
      | none => rw [ea] at hkT; cases hkT
      | some v =>
        have hk' : k < acc.size := by
          have := (List.getElem?_eq_some_iff.mp ea).1
          rwa [Array.length_toList] at this
        obtain ⟨T', u, v', e1, e2, e3, e4, e5⟩ := hit k (by rw [← hsz2]; exact hk')
        rw [← Array.getElem?_toList, ea] at e1
        cases e1
        rw [ea] at hkT
        obtain rfl : T' = T := Option.some.inj hkT
        have kx : k < xs.length := by
          rw [hsz2, List.size_toArray, List.size_toArray] at hk'
          omega
        have ky : k < ys.length := by
          rw [hsz2, List.size_toArray, List.size_toArray] at hk'
          omega
        obtain ⟨u1, g1, g2⟩ := rv.get (List.getElem?_eq_getElem kx)
        obtain ⟨u2, g3, g4⟩ := rv2.get (List.getElem?_eq_getElem ky)
        have f1 : u1 = u := by
          have z : its.toArray[k]? = some u1 := by simpa using g1
          exact Option.some.inj (z.symm.trans e4)
        have f2 : u2 = v' := by
          have z : its2.toArray[k]? = some u2 := by simpa using g3
          exact Option.some.inj (z.symm.trans e5)
        subst f1 f2
        refine ⟨xs[k], ys[k], List.getElem?_eq_getElem kx, List.getElem?_eq_getElem ky, I1.hok.fresh (Nat.le_trans hbig e2), ?_⟩
        exact tzH_at (Nat.le_trans hbig e2) (Nat.ne_of_lt (Heap.lt_size e3)) g2 g4 (Heap.get?_push_of_some _ e3)
end
/-- tuple(zip(x, y)) -/
def tzD : List D → Option D
  | [x, y] => (itemsOf x).bind fun xs => (itemsOf y).map fun ys => .tup (zip2D xs ys)
  | _ => none
theorem tzD_some {ds : List D} {z : D} (h : tzD ds = some z) : ∃ d d' ys zs, ds = [d, d'] ∧ itemsOf d = some ys ∧ itemsOf d' = some zs ∧ z = .tup (zip2D ys zs) := by
  unfold tzD at h
  split at h
  · rename_i d d'
    cases q : itemsOf d with
    | none => rw [q] at h; cases h
    | some ys =>
      cases q' : itemsOf d' with
      | none => rw [q, q'] at h; cases h
      | some zs => rw [q, q'] at h; exact ⟨d, d', ys, zs, rfl, q, q', (Option.some.inj h).symm⟩
  · cases h
theorem IsL.of_get {K : PySem.W.Frag} {F : Hp} : ∀ {ds : List D} {vs : List V}, vs.length = ds.length → (∀ (k : Nat) (d : D) (v : V), ds[k]? = some d → vs[k]? = some v → Is K F d v) → IsL K F ds vs
  | [], vs, l, h => by simp only [IsL]; exact List.length_eq_zero_iff.mp l
  | d :: ds, [], l, h => by simp at l
  | d :: ds, v :: vs, l, h => by
    simp only [IsL]
    exact ⟨v, vs, rfl, h 0 d v rfl rfl, IsL.of_get (by simpa using l) fun (k : Nat) d v e1 e2 => h (k + 1) d v (by simpa using e1) (by simpa using e2)⟩
theorem e_tz {X : Cx} {C : SC} {Δ : Ty} {e e2 : Expr} {r : MA} {p1 p2 pz pos : Pos} (hc : X.calm = true) (hgT : Gl X "tuple") (hmT : X.mg "tuple" = none) (hg : Gl X "zip") (hm : X.mg "zip" = none) (ha : PA X [e, e2] (tA X.K C Δ r))
    (hs : starEach [e, e2] X.env = (false, eval e X.env) :: starEach [e2] X.env := by rfl) (hpl : (backTo pz (starEach [e2] X.env)).any (·.1) = false := by rfl)
    (hs2 : starEach [.Call (.Name "zip" p2) [e, e2] [] pz] X.env = (false, eval (.Call (.Name "zip" p2) [e, e2] [] pz) X.env) :: starEach [] X.env := by rfl) :
    PE X (.Call (.Name "tuple" p1) [.Call (.Name "zip" p2) [e, e2] [] pz] [] pos) (tE X.K C Δ (mFn tzD r) .fz) := by
  refine PE.weak (pe_tz hc hgT hmT hg hm ha hs hpl hs2) fun σ H Q ⟨G, F, env, A, st, h⟩ => ⟨G, F, env, A, st, h.bindA fun ds e1 F1 H1 A1 vs st1 i1 s1 h1 => ?_⟩
  obtain ⟨dz, ez, q⟩ := h1.lift st1
  obtain ⟨d, d', ys, zs, rfl, q1, q2, rfl⟩ := tzD_some ez
  obtain ⟨v, w, rfl, iv, iw⟩ := i1.two
  obtain ⟨b, a, xs, rfl, hs, hi⟩ := sq_of q1 iv
  obtain ⟨b', a', xs', rfl, hs', hi'⟩ := sq_of q2 iw
  refine ⟨b, b', a, a', xs, xs', rfl, sq_mono st1.le hs, sq_mono st1.le hs', fun ps p H' lp gr np hp hps => ?_⟩
  have g : Grow F1 H1 (addH F1 H' fun a => H1 a = none) H' := by
    refine ⟨addH_same fun a z => none_of_same st1.le a z, gr, addH_le fun a o e => gr _ _ (st1.le a o e), fun a o e => ?_⟩
    by_cases z : H1 a = none
    · exact .inr z
    · rw [addH_out z] at e; exact .inl e
  refine q g ?_
  simp only [Is]
  refine ⟨p, ps.map V.ref, rfl, SqT.of (by rw [addH_in np]; exact hp), IsL.of_get ?_ fun k d v e1 e2 => ?_⟩
  · rw [List.length_map, lp, IsL.len hi, IsL.len hi']
    simp [zip2D]
  · rw [List.getElem?_map] at e2
    cases eT : ps[k]? with
    | none => rw [eT] at e2; cases e2
    | some T =>
      rw [eT] at e2
      cases e2
      obtain ⟨x, y, hx, hy, nT, hT⟩ := hps k T eT
      obtain ⟨dx, k1, k2⟩ := IsL.get' hi hx
      obtain ⟨dy, k3, k4⟩ := IsL.get' hi' hy
      unfold zip2D at e1
      rw [List.getElem?_zipWith, k1, k3] at e1
      cases e1
      simp only [Is, IsL]
      exact ⟨T, _, rfl, SqT.of (by rw [addH_in nT]; exact hT), x, _, rfl, Is.mono g.le _ _ k2, y, _, rfl, Is.mono g.le _ _ k4, rfl⟩
end PT

set_option Elab.async false
set_option linter.all false
set_option maxRecDepth 100000
set_option maxHeartbeats 4000000
/-! PT: a def as it stands; comprehensions stored in names -/
namespace PT
open PySem PySem.Spec PyProof.Rows L2
section
variable {P : Program} {w : World} {K : PySem.W.Frag} {mg : Str → Option Value} {base : Heap}
/-- a def by its body -/
theorem ok_def {x qual : Str} {params : Arguments} {body : List Stmt} {scope : Scope} {dvs : List V} {kws : List (Str × V)} {f : Addr} {fd : FuncData} {N ps : List Str} {k : Nat} (Fu : FunD K x qual params body scope dvs kws f fd) (S : FnScope N ps scope) (t : FT) (lt : Ty) (b : MS) (hp : t.ps.length = ps.length) (hn : N.length = ps.length + lt.length)
    (hb : ∀ (cdv : Value) (A : Around) (outer : List Env) (s : Shared) (H : Hp) (vs : List V) (E : XK), Room k (cxOf (L2.CX P w) P w K mg base N qual scope f cdv A outer s H E).A →
      ∃ Δ', LeT Δ' (scF t vs lt E).tr ∧ PSs (cxOf (L2.CX P w) P w K mg base N qual scope f cdv A outer s H E) body (tS K (scF t vs lt E) (inT vs 0 t.ps lt) b Δ')) (hret : t.ret = .fz ∨ ∀ e e', b e ≠ .nx e') :
    FnOk P w K mg base (L2.CX P w) (k + 1) f fd ps (pM K t (runF t N.length b)) := by
  refine Fu.ok S (fun vs H Q E h => ?_) (fun cdv A outer s H vs Q E hr h => ?_)
  · obtain ⟨G, F, xs, A, st, _⟩ := h
    have := st.len.2
    simp at this
    omega
  · obtain ⟨G, F, xs, A1, st1, post⟩ := h
    have l1 := st1.len.1
    have l2 := st1.len.2
    simp at l1 l2
    obtain ⟨Δ', hle, hd⟩ := hb cdv A outer s H vs E hr
    refine ⟨_, hd, G, F, xs.map some ++ List.replicate lt.length none, A1, ⟨?_, st1.dj, st1.le, st1.gl, st1.gd⟩, ?_⟩
    · have e : L2.start N vs = vs.map some ++ List.replicate lt.length none := by
        unfold L2.start
        congr 2
        omega
      rw [e]
      exact slots_in vs lt t.ps 0 xs vs A1 (fun j w q => by simpa using q) st1.sl
    · unfold runF at post
      have e : N.length - xs.length = lt.length := by omega
      rw [e] at post
      have fin : ∀ {F' H' : Hp} {e1 : Ev} {σ' : L2.St} {A' : AS} {ys : List D} (_ : Same F F'), back t.ps xs e1 = some ys → StOk K G (scF t vs lt E).tr F' H' e1 σ' A' → ∃ B, StOk K G t.ty F' H' (ys.map some) (vs.map some) B ∧ ∀ a, B a → A' a := fun {F' H' e1 σ' A' ys} le hbk st' => by
        obtain ⟨B, q1, q2⟩ := slots_out vs _ le t.ps 0 xs ys vs e1 σ' A1 A' (fun j w q => by simpa using q) hbk st1.sl st'.sl
        exact ⟨B, ⟨q1, fun a z => st'.dj a (q2 a z), st'.le, st'.gl, fun a z => st'.gd a (q2 a z)⟩, q2⟩
      cases r : b (xs.map some ++ List.replicate lt.length none) with
      | nx e1 =>
        simp only [r] at post
        cases hbk : back t.ps xs e1 with
        | none => simp only [hbk] at post; exact post.elim
        | some ys =>
          simp only [hbk] at post
          intro F' H' A' σ' s1 st'
          obtain ⟨A2, w1, w2⟩ := st'.weak hle
          obtain ⟨B, q1, q2⟩ := fin s1.le hbk w1
          refine post F' H' B (fun _ => False) .non (s1.less fun a z => z.elim (fun z => w2 a (q2 a z)) fun z => z.elim) q1 ?_ fun _ z => z.elim
          rcases hret with hr | hr
          · rw [hr]; simp [Own, Is]
          · exact absurd r (hr _ _)
      | rt d e1 =>
        simp only [r] at post
        cases hbk : back t.ps xs e1 with
        | none => simp only [hbk] at post; exact post.elim
        | some ys =>
          simp only [hbk] at post
          intro F' H' A' B0 σ' v s1 st' own dj
          obtain ⟨B, q1, q2⟩ := fin s1.le hbk st'
          exact post F' H' B B0 v (s1.less fun a z => z.elim (fun z => .inl (q2 a z)) .inr) q1 own fun a z => ⟨fun y => (dj a z).1 (q2 a y), (dj a z).2⟩
      | exc c fs e1 =>
        simp only [r] at post
        cases hbk : back t.ps xs e1 with
        | none => simp only [hbk] at post; exact post.elim
        | some ys =>
          simp only [hbk] at post
          intro F' H' A' σ' dd s1 st' x
          obtain ⟨B, q1, q2⟩ := fin s1.le hbk st'
          exact post F' H' B dd (s1.less q2) q1 x
      | bk e1 => simp only [r] at post; exact post.elim
      | ct e1 => simp only [r] at post; exact post.elim
      | bad => simp only [r] at post; exact post.elim
end
section
variable {X : Cx} {C : SC} {Δ : Ty} {pos : Pos} {o : O}
/-- name = [..] on one line -/
theorem s_setLc {i : Nat} {y : Str} {py : Pos} {elt tg iter : Expr} {ifs : List Expr} {scope : Scope} {own : List (Str × Nat)} {spos : Pos} {mi : MI} {p : Pat} {mc m : ME} (t : Δ[i]? = some (.ow (.lst o))) (hc : X.calm = true) (hN : X.N.Nodup) (hy : X.N[i]? = some y) (hyl : X.env.scope.names.lookup y = some .local)
    (hsw : swapsWith (.ListComp elt [⟨tg, iter, ifs, 0⟩] scope pos) (some (.Name y py)) spos.line X.env = pure true) (hi : PI X tg iter (tI X.K C Δ mi)) (ok : BlkOk X.N X.env.scope scope own)
    (hvs : ∀ v ∈ own.map (·.2), Δ[v]? = some (.ow .fz)) (hp : ∀ i ∈ p.ixs, i ∈ own.map (·.2))
    (hg : ∀ (s : Shared) (H : Hp) (C' : Addr) (cl : List (Str × Addr)) (fp : List Addr), PG (X.blk s H scope (compEnvC scope cl C' X.env) fp) tg (tG X.K Δ p)) (ht : ∀ (s : Shared) (H : Hp) (C' : Addr) (cl : List (Str × Addr)) (fp : List Addr), PTs (X.blk s H scope (compEnvC scope cl C' X.env) fp) ifs (tT X.K (C.blk Δ) Δ mc))
    (he : ∀ (s : Shared) (H : Hp) (C' : Addr) (cl : List (Str × Addr)) (fp : List Addr), PE (X.blk s H scope (compEnvC scope cl C' X.env) fp) elt (tE X.K (C.blk Δ) Δ m o)) (hs : ∀ x, foldedSetIterable iter X.env x = pure x := by intro _; rfl) :
    PS X (.Assign [.Name y py] (.ListComp elt [⟨tg, iter, ifs, 0⟩] scope pos) spos) (tS X.K C Δ (sSet i (mLc mi p mc m (own.map (·.2)))) Δ) := by
  refine PS.weak (ps_setLc hc hN hy hyl hsw hi ok hg ht he hs) fun D σ H ⟨G, F, env, A, st, h⟩ => ⟨G, F, env, A, st, ?_⟩
  have h' : PostE X.K C Δ G F H A σ (.lst o) (fun x H1 => gName i x σ H1 D.nx) (mLc mi p mc m (own.map (·.2)) env) := h.bindE fun d e F1 H1 A1 B v st1 own' dj s h1 => by
    obtain ⟨A2, q1, q2⟩ := st1.store t own' dj (s.gnone st)
    exact h1 F1 H1 A2 _ (s.less q2) q1
  refine PostE.bindI h' fun xs e1 F1 H1 A1 J st1 fd s1 h1 => ?_
  exact lc_sound hvs hp st1 fd h1
/-- .. of plain items: the list is data -/
theorem s_setLcF {i : Nat} {y : Str} {py : Pos} {elt tg iter : Expr} {ifs : List Expr} {scope : Scope} {own : List (Str × Nat)} {spos : Pos} {mi : MI} {p : Pat} {mc m : ME} (t : Δ[i]? = some (.ow .fz)) (f : o.frz = true) (hc : X.calm = true) (hN : X.N.Nodup) (hy : X.N[i]? = some y) (hyl : X.env.scope.names.lookup y = some .local)
    (hsw : swapsWith (.ListComp elt [⟨tg, iter, ifs, 0⟩] scope pos) (some (.Name y py)) spos.line X.env = pure true) (hi : PI X tg iter (tI X.K C Δ mi)) (ok : BlkOk X.N X.env.scope scope own)
    (hvs : ∀ v ∈ own.map (·.2), Δ[v]? = some (.ow .fz)) (hp : ∀ i ∈ p.ixs, i ∈ own.map (·.2))
    (hg : ∀ (s : Shared) (H : Hp) (C' : Addr) (cl : List (Str × Addr)) (fp : List Addr), PG (X.blk s H scope (compEnvC scope cl C' X.env) fp) tg (tG X.K Δ p)) (ht : ∀ (s : Shared) (H : Hp) (C' : Addr) (cl : List (Str × Addr)) (fp : List Addr), PTs (X.blk s H scope (compEnvC scope cl C' X.env) fp) ifs (tT X.K (C.blk Δ) Δ mc))
    (he : ∀ (s : Shared) (H : Hp) (C' : Addr) (cl : List (Str × Addr)) (fp : List Addr), PE (X.blk s H scope (compEnvC scope cl C' X.env) fp) elt (tE X.K (C.blk Δ) Δ m o)) (hs : ∀ x, foldedSetIterable iter X.env x = pure x := by intro _; rfl) :
    PS X (.Assign [.Name y py] (.ListComp elt [⟨tg, iter, ifs, 0⟩] scope pos) spos) (tS X.K C Δ (sSet i (mLc mi p mc m (own.map (·.2)))) Δ) := by
  refine PS.weak (ps_setLc hc hN hy hyl hsw hi ok hg ht he hs) fun D σ H ⟨G, F, env, A, st, h⟩ => ⟨G, F, env, A, st, ?_⟩
  have h' : PostE X.K C Δ G F H A σ (.lst o) (fun x H1 => gName i x σ H1 D.nx) (mLc mi p mc m (own.map (·.2)) env) := h.bindE fun d e F1 H1 A1 B v st1 own' dj s h1 => by
    have sm : Same F1 (addH F1 H1 B) := addH_same fun a z => (dj a z).2
    have le : Same (addH F1 H1 B) H1 := addH_le st1.le
    have st2 : StOk X.K G Δ (addH F1 H1 B) H1 e σ A1 := ⟨st1.sl.loc sm fun _ _ _ e => e, fun a z => by rw [addH_out fun q => (dj a q).1 z]; exact st1.dj a z, le, st1.gl, st1.gd⟩
    obtain ⟨A2, q1, q2⟩ := st2.storeD t (Own.freeze sm (.lst o) d v B (by simpa [O.frz] using f) (fun a u z e => by rw [addH_in z]; exact e) own')
    refine h1 _ H1 A2 _ ⟨s.le.trans sm, s.pres, fun a z => s.sub a (.inl (q2 a z)), fun a u e => ?_, s.there⟩ q1
    by_cases q : B a
    · exact .inr (s.sub a (.inr q))
    · rw [addH_out q] at e; exact s.fnew a u e
  refine PostE.bindI h' fun xs e1 F1 H1 A1 J st1 fd s1 h1 => ?_
  exact lc_sound hvs hp st1 fd h1
end
end PT

set_option Elab.async false
set_option linter.all false
set_option maxRecDepth 100000
set_option maxHeartbeats 4000000
/-! PT: small rules for the printed derivations -/
namespace PT
open PySem PySem.Spec PyProof.Rows L2
theorem bb_len : bootBuiltins "len" = some (.builtin "len") := by kernel_rfl
theorem bb_abs : bootBuiltins "abs" = some (.builtin "abs") := by kernel_rfl
theorem bb_int : bootBuiltins "int" = some (.type "int") := by kernel_rfl
theorem bb_bool : bootBuiltins "bool" = some (.type "bool") := by kernel_rfl
theorem bb_str : bootBuiltins "str" = some (.type "str") := by kernel_rfl
theorem bb_list : bootBuiltins "list" = some (.type "list") := by kernel_rfl
theorem bb_tuple : bootBuiltins "tuple" = some (.type "tuple") := by kernel_rfl
theorem bb_min : bootBuiltins "min" = some (.builtin "min") := by kernel_rfl
theorem bb_max : bootBuiltins "max" = some (.builtin "max") := by kernel_rfl
theorem bb_sum : bootBuiltins "sum" = some (.builtin "sum") := by kernel_rfl
theorem bb_any : bootBuiltins "any" = some (.builtin "any") := by kernel_rfl
theorem bb_all : bootBuiltins "all" = some (.builtin "all") := by kernel_rfl
theorem bb_sorted : bootBuiltins "sorted" = some (.builtin "sorted") := by kernel_rfl
theorem bb_isinstance : bootBuiltins "isinstance" = some (.builtin "isinstance") := by kernel_rfl
/-! ### types' order -/
theorem inT_out (vs : List V) {r r' : Ty} (h : LeT r r') : ∀ (i : Nat) (ps : List PK), LeT (inT vs i ps r) (outT vs i ps r')
  | i, [] => h
  | i, .d :: ps => ⟨.inr rfl, inT_out vs h (i + 1) ps⟩
  | i, .o o :: ps => ⟨.inl rfl, inT_out vs h (i + 1) ps⟩
  | i, .s o :: ps => ⟨.inr rfl, inT_out vs h (i + 1) ps⟩
theorem le_any : ∀ lt : Ty, LeT lt (lt.map fun _ => .ow .any)
  | [] => trivial
  | _ :: lt => ⟨.inr rfl, le_any lt⟩
theorem leT_set : ∀ {Δ Δ' : Ty} {i : Nat} {s : SO}, LeT Δ Δ' → Δ'[i]? = some (.ow .any) → LeT (Δ.set i s) Δ'
  | [], [], i, s, h, e => by simp at e
  | a :: Δ, b :: Δ', 0, s, h, e => by
    simp at e
    exact ⟨.inr e, h.2⟩
  | a :: Δ, b :: Δ', i + 1, s, h, e => ⟨h.1, leT_set h.2 (by simpa using e)⟩
  | [], b :: Δ', i, s, h, e => h.elim
  | a :: Δ, [], i, s, h, e => h.elim
def AllFz (Δ : Ty) : List Nat → Prop
  | [] => True
  | v :: vs => Δ[v]? = some (.ow .fz) ∧ AllFz Δ vs
theorem allFz : ∀ {Δ : Ty} {vs : List Nat}, AllFz Δ vs → ∀ v ∈ vs, Δ[v]? = some (.ow .fz)
  | Δ, [], _, v, hv => by cases hv
  | Δ, w :: vs, h, v, hv => by
    rcases List.mem_cons.mp hv with rfl | hv
    · exact h.1
    · exact allFz h.2 v hv
/-! ### ints in place -/
def addI : D → D → Option D := i2' fun i j => .int (i + j)
def subI : D → D → Option D := i2' fun i j => .int (i - j)
@[simp] theorem addI_int (i j : Int) : addI (.int i) (.int j) = some (.int (i + j)) := rfl
@[simp] theorem subI_int (i j : Int) : subI (.int i) (.int j) = some (.int (i - j)) := rfl
theorem rel_ipadd {K : PySem.W.Frag} : Rel2 K (ipI fun i j => i + j) addI := by
  intro F H x y dx dy dz Q le h1 h2 e q
  obtain ⟨i, j, rfl, rfl, rfl⟩ := i2'_some e
  simp only [Is] at h1 h2
  exact ⟨i, j, h1, h2, q F H _ (Grow.refl le) (by simp only [Is])⟩
theorem rel_ipsub {K : PySem.W.Frag} : Rel2 K (ipI fun i j => i - j) subI := by
  intro F H x y dx dy dz Q le h1 h2 e q
  obtain ⟨i, j, rfl, rfl, rfl⟩ := i2'_some e
  simp only [Is] at h1 h2
  exact ⟨i, j, h1, h2, q F H _ (Grow.refl le) (by simp only [Is])⟩
/-! ### [..] * n, new -/
def repD : D → D → Option D
  | .lst a, .int k => if -(2 ^ 63) ≤ k ∧ k < 2 ^ 63 ∧ a.length * k.toNat ≤ 16777216 then some (.lst (List.replicate k.toNat a).flatten) else none
  | _, _ => none
theorem repD_ok {a : List D} {k : Int} (h0 : 0 ≤ k) (h : a.length * k.toNat ≤ 16777216) (h1 : k < 2 ^ 63) : repD (.lst a) (.int k) = some (.lst (List.replicate k.toNat a).flatten) := if_pos ⟨by omega, h1, h⟩
section
variable {X : Cx} {C : SC} {Δ : Ty} {pos : Pos} {a b : Expr} {ma mb : ME}
theorem PostE.newL {K : PySem.W.Frag} {G F H : Hp} {A : AS} {σ : L2.St} {Q : VK} {e : Ev} {ds : List D} {xs : List V} {p : Addr} (st : StOk K G Δ F H e σ A) (i : IsL K F ds xs) (np : H p = none) (h : PostE K C Δ G F H A σ (.lst .fz) Q (.ok (.lst ds) e)) : Q (.ref p) (upd H p (.lst xs)) := by
  have nf : F p = none := none_of_same st.le p np
  have g : Grow F H F (upd H p (.lst xs)) := ⟨fun _ _ h => h, fun a o e => by rw [upd_ne (ne_of_none e np)]; exact e, fun a o e => by rw [upd_ne (ne_of_none e nf)]; exact st.le a o e, fun _ _ h => .inl h⟩
  refine h F _ A (fun a => a = p) _ ⟨fun _ _ h => h, fun a o _ e => g.pres a o e, fun a z => z.elim .inl fun z => .inr (z ▸ np), fun a o e => .inl e, fun a e => none_of_same g.pres a e⟩ (st.grow g) (own_lst.mpr ⟨ds, p, xs, fun _ => False, rfl, rfl, upd_same, ownL_fz.mpr ⟨i, fun _ z => z⟩, id, fun a => ⟨.inl, fun z => z.elim id fun z => z.elim⟩⟩) fun b z => ?_
  have z' : b = p := z
  subst z'
  exact ⟨fun q => absurd np (st.there q), nf⟩
theorem e_rep (ha : PE X a (tE X.K C Δ ma .fz)) (hb : PE X b (tE X.K C Δ mb .fz)) : PE X (.BinOp a .Mult b pos) (tE X.K C Δ (mBin repD ma mb) (.lst .fz)) := by
  refine PE.weak (pe_op op_rep ha hb) fun σ H Q ⟨G, F, env, A, st, h⟩ => ?_
  refine ⟨G, F, env, A, st, h.bind fun dx e1 F1 H1 A1 x st1 i1 s1 h1 => ⟨G, F1, e1, A1, st1, h1.bind fun dy e2 F2 H2 A2 y st2 i2 s2 h2 => ?_⟩⟩
  unfold PT.lift at h2
  split at h2
  · rename_i dz hz
    unfold repD at hz
    split at hz
    · split at hz
      · rename_i ds k hk
        cases hz
        have i1' := Is.mono s2.le _ _ i1
        simp only [Is] at i1' i2
        obtain ⟨p, xs, rfl, p1, p2⟩ := i1'
        subst i2
        exact ⟨p, k, xs, rfl, rfl, st2.le _ _ p1, hk.1, hk.2.1, by rw [sizeLine_eq, IsL.len p2]; exact hk.2.2, fun u nu => PostE.newL st2 (p2.rep _) nu h2⟩
      · cases hz
    · cases hz
  · exact h2.elim
end
/-! ### range with a step -/
def range3D (lo hi c : Int) : Option (List D) := if c ≠ 0 ∧ c.natAbs < 1073741824 ∧ Builtin.Range.small lo hi c = true ∧ Builtin.Range.rangeSize lo hi c = ((Builtin.Range.rangeSize lo hi c).toNat : Int) ∧ (Builtin.Range.rangeSize lo hi c).toNat ≤ 16777216 then some ((List.range (Builtin.Range.rangeSize lo hi c).toNat).map fun i => .int (lo + (i : Nat) * c)) else none
def rangeL3 : List D → Option (List D)
  | [.int a, .int b, .int c] => range3D a b c
  | _ => none
def iRange3 (m : MA) : MI := fun e => (m e).bindI fun ds e => liftI (rangeL3 ds) e
theorem rangeL3_some {ds xs : List D} (h : rangeL3 ds = some xs) : ∃ a b c, ds = [.int a, .int b, .int c] ∧ range3D a b c = some xs := by
  unfold rangeL3 at h
  split at h
  · exact ⟨_, _, _, rfl, h⟩
  · cases h
theorem feeds_rangeC {K : PySem.W.Frag} {F : Hp} (lo c : Int) (n : Nat) (hn : n ≤ 16777216) : Feeds K F (Itc lo c n) ((List.range n).map fun i => .int (lo + (i : Nat) * c)) where
  go := fun i H _ h => by
    show i < n
    simpa using h
  stop := fun i H _ h => by
    have : i = n := by simpa using h
    exact Nat.le_of_eq this.symm
  yld := fun i H x H' F1 _ _ hi ⟨e1, e2⟩ => by
    subst e1 e2
    have hi' : i < n := by simpa using hi
    exact ⟨F1, _, by rw [List.getElem?_map, List.getElem?_range hi']; rfl, Grow.refl (by assumption), by simp only [Is]⟩
  sz := by rw [List.length_map, List.length_range, sizeLine_eq]; exact hn
section
variable {X : Cx} {C : SC} {Δ : Ty} {tg : Expr}
theorem i_range3 {p pos : Pos} {a b c : Expr} {r : MA} (hg : Gl X "range") (hm : X.mg "range" = none) (ha : PA X [a, b, c] (tA X.K C Δ r)) (hs : starEach [a, b, c] X.env = (false, eval a X.env) :: starEach [b, c] X.env := by rfl) (hpl : (backTo pos (starEach [b, c] X.env)).any (·.1) = false := by rfl) :
    PI X tg (.Call (.Name "range" p) [a, b, c] [] pos) (tI X.K C Δ (iRange3 r)) := by
  refine PI.weak (pi_range3 hg hm ha hs hpl) fun σ H R ⟨G, F, env, A, st, h⟩ => ⟨G, F, env, A, st, h.bindA fun ds e1 F1 H1 A1 vs st1 i1 s1 h1 => ?_⟩
  obtain ⟨xs, q, h2⟩ := h1.lift
  obtain ⟨n, k, l, rfl, q2⟩ := rangeL3_some q
  simp only [IsL, Is] at i1
  obtain ⟨y, ys, rfl, rfl, y', ys', rfl, rfl, y'', ys'', rfl, rfl, rfl⟩ := i1
  have b := q2
  unfold range3D at b
  split at b
  · rename_i hb
    cases b
    exact ⟨n, k, l, _, rfl, ⟨hb.1, hb.2.1, hb.2.2.1, hb.2.2.2.1⟩, h2 F1 H1 A1 _ Step.refl st1 (feeds_rangeC n l _ hb.2.2.2.2)⟩
  · cases b
end
def visB (s : Scope) (x : Str) : Bool := match s.names.lookup x with
  | some .local => true
  | some .cell => true
  | some .free => true
  | _ => false
theorem vis_by {s : Scope} {x : Str} (h : visB s x = true) : Vis s x := by
  unfold visB at h
  split at h <;> first | exact .inl (by assumption) | exact .inr (.inl (by assumption)) | exact .inr (.inr (by assumption)) | cases h
def locB (s : Scope) (x : Str) : Bool := match s.names.lookup x with
  | some .local => true
  | some .cell => true
  | _ => false
theorem loc_by {s : Scope} {x : Str} (h : locB s x = true) : Loc s x := by
  unfold locB at h
  split at h <;> first | exact .inl (by assumption) | exact .inr (by assumption) | cases h
/-- a def of no fuel -/
theorem fn_bad {P : Program} {w : World} {K : PySem.W.Frag} {mg : Str → Option Value} {base : Heap} {CX : CXT} {f : Addr} {fd : FuncData} {ps : List Str} {k : Nat} (t : FT) : FnOk P w K mg base CX k f fd ps (pM K t fun _ => .bad) :=
  ⟨fun vs H Q E ⟨_, _, _, _, _, h⟩ => h.elim, fun A outer s H args us vs Q E _ _ _ _ ⟨_, _, _, _, _, h⟩ => h.elim⟩
end PT

set_option Elab.async false
set_option linter.all false
set_option maxRecDepth 100000
set_option maxHeartbeats 4000000
/-! PT: helpers of the printed text -/
namespace PT
open PySem PySem.Spec PyProof.Rows L2
theorem all_nil {α : Type} {p : α → Prop} : ∀ x ∈ ([] : List α), p x := fun _ h => by cases h
theorem all_cons {α : Type} {p : α → Prop} {a : α} {l : List α} (h : p a) (r : ∀ x ∈ l, p x) : ∀ x ∈ a :: l, p x := fun x hx => by
  rcases List.mem_cons.mp hx with rfl | hx
  · exact h
  · exact r x hx
theorem al_len {r : MA} {n m : Nat} {dds : List D} (h : ∀ env ds e, r env = .ok ds e → ds.length = n) (e : n + dds.length = m := by rfl) : ∀ env ds e1, r env = .ok ds e1 → (ds ++ dds).length = m := fun env ds e1 q => by
  rw [List.length_append, h env ds e1 q, e]
theorem is_nil {K : PySem.W.Frag} {F : Hp} : IsL K F [] [] := by simp only [IsL]
theorem is_ints {K : PySem.W.Frag} {F : Hp} : ∀ l : List Int, IsL K F (l.map D.int) (l.map V.int)
  | [] => by simp [IsL]
  | i :: l => by
    simp only [List.map_cons, IsL]
    exact ⟨_, _, rfl, by simp only [Is], is_ints l⟩
theorem ix_lt {α : Type} {l : List α} {i : Nat} {s : α} (h : l[i]? = some s) : i < l.length := by
  rcases Nat.lt_or_ge i l.length with z | z
  · exact z
  · rw [List.getElem?_eq_none z] at h; cases h
theorem nx_seq {a b : MS} (h : ∀ e e2, b e ≠ .nx e2) : ∀ e e2, sSeq a b e ≠ .nx e2 := fun e e2 => by
  unfold sSeq
  cases a e <;> first | exact h _ _ | (intro z; cases z)
theorem nx_ret {m : ME} : ∀ e e2, sRet m e ≠ .nx e2 := fun e e2 => by
  unfold sRet
  cases m e <;> (intro z; cases z)
theorem nx_if {c : ME} {a b : MS} (ha : ∀ e e2, a e ≠ .nx e2) (hb : ∀ e e2, b e ≠ .nx e2) : ∀ e e2, sIf c a b e ≠ .nx e2 := fun e e2 => by
  unfold sIf
  generalize c e = r
  cases r with
  | ok d e1 =>
    cases d with
    | bl b =>
      cases b
      · exact hb _ _
      · exact ha _ _
    | _ => intro z; cases z
  | _ => intro z; cases z
theorem exm_l {K : PySem.W.Frag} {cs xs : List Str} {l : Cls3} (h : ∀ c ∈ cs, ∀ x ∈ xs, PySem.W.exmOne K (.ref (He.ga K c)) (.ref (He.ga K x)) = some (subX c x)) (hl : (l.map (·.1)).all (fun p => xs.contains p) = true) : ∀ c ∈ cs, ∀ p ∈ l, PySem.W.exmOne K (.ref (He.ga K c)) (.ref (He.ga K p.1)) = some (subX c p.1) := fun c hc p hp => by
  refine h c hc p.1 ?_
  have := List.all_eq_true.mp hl p.1 (List.mem_map_of_mem hp)
  exact List.contains_iff_mem.mp this
theorem names_of {X : Cx} {x : Str} {c : Value} (hg : Gl X x) (hm : X.mg x = some c) (hd : (x == ("__debug__" : Str)) = false := by decide) : Names X x c := ⟨hg, hd, .inl hm⟩
section
variable {X : Cx} {C : SC} {Δ : Ty} {pos : Pos} {i : Nat} {o : O} {x : Str} {p1 : Pos} {b : Expr} {mb : ME}
theorem t_cmpO {op : CmpOp} {r : R2} {f : D → D → Option D} (ho : OpR X (compareOp op) r) (hr : Rel2 X.K r f) (t : ReadO Δ i o) (fo : o.frz = true) (hN : X.N[i]? = some x) (hv : Vis X.env.scope x) (hb : PE X b (tE X.K C Δ mb .fz)) (hm : behindInMarks op b = false)
    (hd : (x == ("__debug__" : Str)) = false := by decide) (hcd : (x == ("__classdict__" : Str)) = false := by decide) : L2.PT X (.Compare (.Name x p1) [op] [b] pos) (tT X.K C Δ (mBinO i f mb)) := by
  refine PT.weak (pt_cmpR ho (pe_var hN hv hd hcd) hb hm) fun σ H Q ⟨G, F, env, A, st, h⟩ => ?_
  unfold mBinO at h
  cases q : has env i with
  | false => rw [q] at h; exact h.elim
  | true =>
    rw [q] at h
    simp only [if_true] at h
    obtain ⟨d, hd⟩ := has_some q
    obtain ⟨y, hy, _⟩ := st.view hd t fo
    refine ⟨y, hy, G, F, env, A, st, PostT.bind h fun dy e1 F1 H1 A1 w st1 i1 s1 h1 => ?_⟩
    split at h1
    · rename_i d1 hd1
      obtain ⟨y', hy', iy'⟩ := st1.view hd1 t fo
      rw [hy] at hy'; cases hy'
      split at h1
      · rename_i z hz
        split at h1
        · rename_i sz
          cases z with
          | bl c =>
            refine hr H1 H1 y w d1 dy _ _ (fun _ _ h => h) iy' (Is.mono st1.le _ _ i1) hz fun F' H' v g iv => ?_
            simp only [Is] at iv
            exact ⟨c, iv, h1.val st1 (Grow.up st1.le g)⟩
          | _ => exact h1.elim
        · exact h1.elim
      · exact h1.elim
    · exact h1.elim
end
end PT

set_option Elab.async false
set_option linter.all false
set_option maxRecDepth 100000
set_option maxHeartbeats 4000000
/-! PT: the head's own hook: facts, defs, errors -/
namespace PT
open PySem PySem.Spec PyProof.Rows L2 He
structure XD where
  C : Str
  fld : Str
  arg : Str
  msg : Str
  qual : Str
  st : Stmt
abbrev XnW : Type := Option (Str × Str × Arguments × FuncBody × Scope × Addr × List Str × Addr)
def xAd (K : PySem.W.Frag) (C : Str) : Addr := ma K (ga K C) "__init__"
def xnW (K : PySem.W.Frag) (d : XD) : XnW := match K.lookup (xAd K d.C) with
  | some ⟨_, _, .func fd, _⟩ => some (fd.name, fd.qualname, fd.params, fd.body, fd.scope, fd.globals, fd.closure.map (·.1), fd.builtins)
  | _ => none
def XD.val (d : XD) : XnW := some ("__init__", d.qual, defArgs d.st, .stmts (defBody d.st), defScope d.st, mainGlobals, ["__class__"], builtinsNs)
def cellB (K : PySem.W.Frag) (C : Addr) (cc : Addr) : Bool := match K.lookup cc with
  | some ⟨_, _, .cell (some (.ref D)), _⟩ => decide (D = C)
  | _ => false
def fileB (K : PySem.W.Frag) (file : Str) (cda : Addr) : Bool := match K.lookup cda with
  | some ⟨_, _, .fields vs, _⟩ => (match (vs : Array Value)[2]? with
    | some (Value.str z _) => file == z
    | _ => false)
  | _ => false
def codeB (K : PySem.W.Frag) (file qual : Str) (C : Addr) (a : Addr) : Bool := match K.lookup a with
  | some ⟨_, _, .func fd, _⟩ => (match fd.defaults, fd.kwdefaults, fd.closure, fd.code with
    | .none, .none, [(_, cc)], .ref cda => PySem.W.codeIn K (.ref cda) qual && (cellB K C cc && fileB K file cda)
    | _, _, _, _ => false)
  | _ => false
def XD.ok (file : Str) (K : PySem.W.Frag) (d : XD) : Bool :=
  PySem.W.excInitIn K (ga K d.C) PTX.bmE "Exception.__new__" && (PySem.W.excOver K (ga K d.C) PTX.bmE && (eqO (PySem.W.findIn K (.ref (ga K d.C)) "__init__") (some (some (.ref (xAd K d.C)))) && (PySem.W.isFn K (.ref (xAd K d.C)) && (PySem.W.keepIn K (.ref (ga K d.C))
    && (eqO (PySem.W.findIn K (.ref (ga K d.C)) "__setattr__") (some (some (.builtin "object.__setattr__"))) && (eqO (PySem.W.findIn K (.ref (ga K d.C)) "__getattribute__") (some (some (.builtin "BaseException.__getattribute__"))) && (eqO (PySem.W.findIn K (.ref (ga K d.C)) "__getattr__") (some none)
    && (eqO (PySem.W.findIn K (.ref (ga K d.C)) d.fld) (some none) && (PySem.W.hasDictIn K (ga K d.C) && (decide (PySem.W.subIn K (.ref (ga K d.C)) (.type "BaseException") = some true) && (decide (PySem.W.subIn K (.ref (ga K d.C)) (.type "Exception") = some true) && (decide (PySem.W.typeIn K (.ref (ga K d.C)) = some (.type "type"))
    && (eqO (PySem.W.ks_superIn K (ga K d.C) (ga K d.C) "__init__") (some (some (.builtin "Exception.__init__"))) && (decide (PySem.W.mroIn K (ga K d.C) (.ref (ga K d.C)) = some true) && (eqO (PySem.W.nsIn K mainGlobals "super") (some none) && (eqO (PySem.W.nsIn K cStatics "thirdparty.any") (some none)
    && codeB K file d.qual (ga K d.C) (xAd K d.C)))))))))))))))))
theorem XD.ext {P : Program} {K : PySem.W.Frag} {d : XD} {file : Str} (e : xnW K d = d.val) (c : d.ok file K = true) (hf : P.main.file = file) (ht : (P.main.scope.names.lookup ("super" : Str)).isSome = false)
    (hT : ∃ j p0 p1 p2 p3 p4 p5 p6 p7 p8 p9, defBody d.st = PTX.iBody d.fld d.arg d.msg j p0 p1 p2 p3 p4 p5 p6 p7 p8 p9 ∧ PTX.IT d.fld d.arg d.msg (defArgs d.st) (defScope d.st) j p0 p1 p2 p3 p4 p5 p6 p7 p8 p9) : PTX.ExT P K (ga K d.C) (xAd K d.C) d.fld d.arg d.msg := by
  unfold XD.ok at c
  obtain ⟨c1, c⟩ := ba c
  obtain ⟨c2, c⟩ := ba c
  obtain ⟨c3, c⟩ := ba c
  obtain ⟨c4, c⟩ := ba c
  obtain ⟨c5, c⟩ := ba c
  obtain ⟨c6, c⟩ := ba c
  obtain ⟨c7, c⟩ := ba c
  obtain ⟨c8, c⟩ := ba c
  obtain ⟨c9, c⟩ := ba c
  obtain ⟨c10, c⟩ := ba c
  obtain ⟨c11, c⟩ := ba c
  obtain ⟨c12, c⟩ := ba c
  obtain ⟨c13, c⟩ := ba c
  obtain ⟨c14, c⟩ := ba c
  obtain ⟨c15, c⟩ := ba c
  obtain ⟨c16, c⟩ := ba c
  obtain ⟨c17, c⟩ := ba c
  refine ⟨c1, c2, eqO_ok c3, c4, c5, eqO_ok c6, eqO_ok c7, eqO_ok c8, eqO_ok c9, c10, of_decide_eq_true c11, of_decide_eq_true c12, of_decide_eq_true c13, eqO_ok c14, of_decide_eq_true c15, eqO_ok c16, eqO_ok c17, ht, ?_⟩
  unfold codeB at c
  unfold xnW at e
  cases q : K.lookup (xAd K d.C) with
  | none => rw [q] at c; cases c
  | some o =>
    obtain ⟨oc, od, dt, osl⟩ := o
    rw [q] at c e
    cases dt with
    | func fd =>
      obtain ⟨n1, n2, n3, n4, n5, n6, n7, n8, n9, n10, n11, n12, n13, n14, n15⟩ := fd
      have e2 : (some (n1, n2, n3, n4, n5, n6, n7.map (·.1), n15) : XnW) = (some (("__init__" : Str), d.qual, defArgs d.st, FuncBody.stmts (defBody d.st), defScope d.st, mainGlobals, [("__class__" : Str)], builtinsNs) : XnW) := e
      simp only [Option.some.injEq, Prod.mk.injEq] at e2
      obtain ⟨h1, h2, h3, h4, h5, h6, h7, h8⟩ := e2
      subst h1 h2 h3 h4 h5 h6 h8
      dsimp only at c
      split at c
      · rename_i nm cc cda
        obtain ⟨k1, c⟩ := ba c
        obtain ⟨k2, k3⟩ := ba c
        simp only [List.map_cons, List.map_nil, List.cons.injEq, and_true] at h7
        subst h7
        obtain ⟨j, p0, p1, p2, p3, p4, p5, p6, p7, p8, p9, hb, hI⟩ := hT
        refine ⟨oc, od, osl, d.qual, defArgs d.st, defScope d.st, n10, n11, n12, cda, n14, cc, j, p0, p1, p2, p3, p4, p5, p6, p7, p8, p9, ?_, k1, ?_, ?_, hI⟩
        · rw [← hb]
        · unfold cellB at k2
          split at k2
          · rename_i D _ ek
            have := of_decide_eq_true k2
            subst this
            exact ⟨_, _, _, ek⟩
          · cases k2
        · unfold fileB at k3
          split at k3
          · rename_i vs _ ek
            split at k3
            · rename_i z tf ez
              exact ⟨_, _, vs, _, z, tf, ek, ez, by rw [hf]; exact k3⟩
            · cases k3
          · cases k3
      · cases c
    | _ => cases c
/-! ### kit, catches -/
def kitB (K : PySem.W.Frag) (cs xs : List Str) : Bool :=
  (tys.all fun a => xs.all fun x => decide (PySem.W.kitOne K (.type a) (.ref (ga K x)) = some false)) && ((cs.all fun c => tys.all fun b => decide (PySem.W.kitOne K (.ref (ga K c)) (.type b) = some false)) && ((cs.all fun c => xs.all fun x => decide (PySem.W.kitOne K (.ref (ga K c)) (.ref (ga K x)) = some (subX c x)))
    && ((cs.all fun c => (Fa.cls c).ok K) && ((cs.all fun c => eqO (PySem.W.findIn K (.ref (ga K c)) "__class__") (some (some (.builtin "object.__class__")))) && (eqO (PySem.W.specialIn K (.builtin "object.__class__") "__get__") (some (some (.builtin "getset_descriptor.__get__")))
    && (decide (PySem.W.takesIn K (.builtin "object.__class__") = some true) && (cs.all fun c => decide (PySem.W.mroIn K (ga K c) (.type "object") = some true))))))))
theorem all_of {α : Type} {p : α → Bool} {l : List α} (h : l.all p = true) : ∀ x ∈ l, p x = true := List.all_eq_true.mp h
theorem kitB_ok {K : PySem.W.Frag} {cs xs : List Str} (c : kitB K cs xs = true) : KitOk K cs xs := by
  unfold kitB at c
  obtain ⟨c1, c⟩ := ba c
  obtain ⟨c2, c⟩ := ba c
  obtain ⟨c3, c⟩ := ba c
  obtain ⟨c4, c⟩ := ba c
  obtain ⟨c5, c⟩ := ba c
  obtain ⟨c6, c⟩ := ba c
  obtain ⟨c7, c8⟩ := ba c
  exact ⟨fun a ha x hx => of_decide_eq_true (all_of (all_of c1 a ha) x hx), fun a ha x hx => of_decide_eq_true (all_of (all_of c2 a ha) x hx), fun a ha x hx => of_decide_eq_true (all_of (all_of c3 a ha) x hx),
    fun a ha => cls_ok (all_of c4 a ha), fun a ha => eqO_ok (all_of c5 a ha), eqO_ok c6, of_decide_eq_true c7, fun a ha => of_decide_eq_true (all_of c8 a ha)⟩
def exmB (K : PySem.W.Frag) (es : List Str) : Bool := es.all fun c => es.all fun x => decide (PySem.W.exmOne K (.ref (ga K c)) (.ref (ga K x)) = some (subX c x))
theorem exmB_ok {K : PySem.W.Frag} {es : List Str} (c : exmB K es = true) : ∀ c ∈ es, ∀ x ∈ es, PySem.W.exmOne K (.ref (ga K c)) (.ref (ga K x)) = some (subX c x) := fun a ha x hx => of_decide_eq_true (all_of (all_of c a ha) x hx)
/-! ### the hook -/
structure HX where
  fa : List Fa
  fn : List DefD
  xs : List XD
  cs : List Str
  es : List Str
  file : Str
def asX (g : Addr → Option Obj) : Nat → List Addr
  | 0 => [mainGlobals, cStatics]
  | n + 1 => growD g (asX g n)
abbrev AlX : Type := Bool × List FnW × List XnW
def obsX (q : HX) (K : PySem.W.Frag) : AlX := ((q.fa.all fun f => f.ok K) && ((q.fn.all fun d => d.ok K) && ((q.xs.all fun d => d.ok q.file K) && (kitB K q.cs q.cs && exmB K q.es))), q.fn.map fun d => fnW K d.at_, q.xs.map (xnW K))
def valX (q : HX) : AlX := (true, q.fn.map DefD.val, q.xs.map XD.val)
def SaysX (q : HX) (K : PySem.W.Frag) : Prop := obsX q K = valX q
def obsXG (n : Nat) (q : HX) (g : Addr → Option Obj) : AlX := obsX q (frG g (asX g n))
def hookX (n : Nat) (q : HX) : PySem.W.Hook where
  α := AlX
  obs := fun s => obsXG n q s.heap.get?
  val := fun _ => valX q
  says := fun _ h => ∃ K : PySem.W.Frag, K.In h ∧ SaysX q K
  of := fun _ _ e => ⟨_, frG_in, e⟩
  keeps := fun _ _ _ ⟨K, hK, c⟩ k => ⟨K, PySem.W.Frag.In.keeps hK k, c⟩
theorem obsXG_eq {n : Nat} {q : HX} {g : Addr → Option Obj} {s : Shared} (h : ∀ a, g a = s.heap.get? a) : obsXG n q g = (hookX n q).obs s := by
  have e : g = s.heap.get? := funext h
  rw [e] <;> rfl
section
variable {q : HX} {K : PySem.W.Frag}
theorem SaysX.b (c : SaysX q K) : ((q.fa.all fun f => f.ok K) && ((q.fn.all fun d => d.ok K) && ((q.xs.all fun d => d.ok q.file K) && (kitB K q.cs q.cs && exmB K q.es)))) = true := congrArg (fun z : AlX => z.1) c
theorem SaysX.fact (c : SaysX q K) (i : Nat) {f : Fa} (h : q.fa[i]? = some f := by rfl) : f.ok K = true := List.all_eq_true.mp (ba c.b).1 f (List.mem_of_getElem? h)
theorem SaysX.def_ (c : SaysX q K) (i : Nat) {d : DefD} (h : q.fn[i]? = some d := by rfl) : ∃ fd, FunD K d.name d.qual d.params d.body d.scope (d.dvs K) (d.kws K) (fAd K d.at_) fd := by
  have c2 := (ba (ba c.b).2).1
  have e : q.fn.map (fun d => fnW K d.at_) = q.fn.map DefD.val := congrArg (fun z : AlX => z.2.1) c
  have e2 : (q.fn.map fun d => fnW K d.at_)[i]? = (q.fn.map DefD.val)[i]? := by rw [e]
  rw [List.getElem?_map, List.getElem?_map, h] at e2
  exact DefD.funD (Option.some.inj e2) (List.all_eq_true.mp c2 d (List.mem_of_getElem? h))
theorem SaysX.ext {P : Program} (c : SaysX q K) (i : Nat) {d : XD} (hf : P.main.file = q.file) (ht : (P.main.scope.names.lookup ("super" : Str)).isSome = false) (h : q.xs[i]? = some d)
    (hT : ∃ j p0 p1 p2 p3 p4 p5 p6 p7 p8 p9, defBody d.st = PTX.iBody d.fld d.arg d.msg j p0 p1 p2 p3 p4 p5 p6 p7 p8 p9 ∧ PTX.IT d.fld d.arg d.msg (defArgs d.st) (defScope d.st) j p0 p1 p2 p3 p4 p5 p6 p7 p8 p9) : PTX.ExT P K (ga K d.C) (xAd K d.C) d.fld d.arg d.msg := by
  have c2 := (ba (ba (ba c.b).2).2).1
  have e : q.xs.map (xnW K) = q.xs.map XD.val := congrArg (fun z : AlX => z.2.2) c
  have e2 : (q.xs.map (xnW K))[i]? = (q.xs.map XD.val)[i]? := by rw [e]
  rw [List.getElem?_map, List.getElem?_map, h] at e2
  exact XD.ext (Option.some.inj e2) (List.all_eq_true.mp c2 d (List.mem_of_getElem? h)) hf ht hT
theorem SaysX.kit (c : SaysX q K) : KitOk K q.cs q.cs := kitB_ok (ba (ba (ba (ba c.b).2).2).2).1
theorem SaysX.exm (c : SaysX q K) : ∀ c ∈ q.es, ∀ x ∈ q.es, PySem.W.exmOne K (.ref (ga K c)) (.ref (ga K x)) = some (subX c x) := exmB_ok (ba (ba (ba (ba c.b).2).2).2).2
end
end PT

set_option Elab.async false
set_option linter.all false
set_option maxRecDepth 100000
set_option maxHeartbeats 4000000
/-! PT: a law's end -/
namespace PT
open PySem PySem.Spec PyProof.Rows L2
theorem walk_ofX {l : PySem.W.OpenLaw} {n k : Nat} {q : Program} {loose : List Str} {XP : (Str → Option Value) → Heap → Prop} {YP : World → Heap → Prop} {d : DefRec} {CX : World → CXT} {x : Str}
    (hn : l.most = some n) (hn2 : n ≤ sizeLine) (hdf : d.params.defaults = []) (hr : Room k callerA)
    (F : ∀ (w : World) (mg : Str → Option Value) (fa : Addr) (h : Heap), YP w h → h.Ns mainGlobals mg → mg d.name = some (.ref fa) →
      ∃ (K : PySem.W.Frag) (fd : FuncData) (sp : Sp), K.In h ∧ (∀ (s : Shared) (u : Value), BindsTo s fd ⟨[u], []⟩ [(x, u)]) ∧
        (∀ (H : Hp) (a : Addr) (ns : List Int), ns.length ≤ n → Only H → SqL K H a (ns.map V.int) → sp [.ref a] H (fun v _ => v = .bl true) fun _ _ _ => False) ∧
        ∀ base : Heap, K.In base → base.Ns mainGlobals mg → FnOk l.prog w K mg base (CX w) k fa fd [x] sp)
    (hCX : ∀ (w : World) (H : Hp) (s : Shared) (e : Value) (s' : Shared), CX w [] H s (fun _ _ _ => False) e s' → False) :
    PySem.W.WalkO q loose XP YP l.row.toRowW d [] (fun f vs => PySem.call f vs) := by
  refine Att.attach_call hn hdf fun w s₀ s₁ mg mb fa o pm cd doc a vs ns G Y ho hd hcd hmg hobj hints hlen hg => ?_
  obtain ⟨K, fd, sp, KX, hb, hsp, hF⟩ := F w mg fa _ Y G.T.g hmg
  exact law_call KX G.T.g G.T.b G.T.builtins G.T.nolimit hg hobj hints (Nat.le_trans hlen hn2) hr hF hb (fun H hO hS => hsp H a ns hlen hO hS) fun H e s' => hCX w H s₁ e s'
theorem cx_none {P : Program} {w : World} (H : Hp) (s : Shared) (e : Value) (s' : Shared) (h : L2.CX P w [] H s (fun _ _ _ => False) e s') : False := by
  obtain ⟨_, _, _, _, _, _, _, _, _, _, _, _, z⟩ := h
  exact z
theorem law_sp {K : PySem.W.Frag} {H : Hp} {a : Addr} {ns : List Int} {f : List D → RF} {ys : List D} (hS : SqL K H a (ns.map V.int)) (hf : f [.scr (ns.map .int)] = .ok (.bl true) ys) : pM K ⟨[.d], .fz⟩ f [.ref a] H (fun v _ => v = .bl true) fun _ _ _ => False := by
  refine ⟨fun _ => none, H, [.scr (ns.map .int)], fun _ => False, ⟨?_, fun a z => z.elim, fun _ _ h => h, fun _ _ h => (by cases h), fun a z => z.elim⟩, ?_⟩
  · refine ⟨some (.scr (ns.map .int)), [], some (.ref a), [], fun _ => False, fun _ => False, rfl, rfl, ⟨.ref a, rfl, ?_⟩, ⟨rfl, rfl, fun _ z => z⟩, fun _ z => z.elim, fun _ => ⟨.inl, fun z => z.elim id id⟩⟩
    simp only [Own, Is]
    exact ⟨⟨a, _, rfl, hS, is_ints ns⟩, fun _ z => z⟩
  · rw [hf]
    intro F' H' A' B v s st own dj
    simp only [Own, Is] at own
    exact own.1
end PT

set_option Elab.async false
set_option linter.all false
set_option maxRecDepth 100000
set_option maxHeartbeats 4000000
/-! PT: zip of three, is True, str(int), stores that change a slot's type -/
namespace PT
open PySem PySem.Spec PyProof.Rows L2
/-! ### zip of three -/
def ItZ3 (K : PySem.W.Frag) (b1 b2 b3 : Bool) (a1 a2 a3 : Addr) : It :=
  ⟨fun i H => ∃ (xs ys zs : List V) (x y z : V), Sq K H b1 a1 xs ∧ Sq K H b2 a2 ys ∧ Sq K H b3 a3 zs ∧ xs[i]? = some x ∧ ys[i]? = some y ∧ zs[i]? = some z,
    fun i H v H' => ∃ T x y z, v = .ref T ∧ H T = none ∧ H' = upd H T (.tup [x, y, z]) ∧ (∀ xs, Sq K H b1 a1 xs → xs[i]? = some x) ∧ (∀ ys, Sq K H b2 a2 ys → ys[i]? = some y) ∧ ∀ zs, Sq K H b3 a3 zs → zs[i]? = some z,
    fun i H => ∃ xs ys zs : List V, Sq K H b1 a1 xs ∧ Sq K H b2 a2 ys ∧ Sq K H b3 a3 zs ∧ i ≤ xs.length ∧ i ≤ ys.length ∧ i ≤ zs.length ∧ (i = xs.length ∨ i = ys.length ∨ i = zs.length)⟩
structure ZA3 (z TI TO i1 i2 i3 a1 a2 a3 : Addr) : Prop where
  nd : [z, TI, TO, i1, i2, i3].Nodup
  m1 : a1 ∉ [z, TI, TO, i1, i2, i3]
  m2 : a2 ∉ [z, TI, TO, i1, i2, i3]
  m3 : a3 ∉ [z, TI, TO, i1, i2, i3]
theorem ZA3.sep {z TI TO i1 i2 i3 a1 a2 a3 : Addr} (D : ZA3 z TI TO i1 i2 i3 a1 a2 a3) : ZipSep3 z TI TO i1 i2 i3 [i1, a1] [i2, a2] [i3, a3] := by
  have h := D.nd
  have m1 := D.m1
  have m2 := D.m2
  have m3 := D.m3
  simp only [List.nodup_cons, List.mem_cons, List.not_mem_nil, not_or, or_false, not_false_eq_true] at h m1 m2 m3
  obtain ⟨⟨h1, h2, h3, h4, h5⟩, ⟨h6, h7, h8, h9⟩, ⟨h10, h11, h12⟩, ⟨h13, h14⟩, h15, _⟩ := h
  obtain ⟨p1, p2, p3, p4, p5, p6⟩ := m1
  obtain ⟨q1, q2, q3, q4, q5, q6⟩ := m2
  obtain ⟨r1, r2, r3, r4, r5, r6⟩ := m3
  constructor <;> simp <;> (try constructor) <;> first | assumption | (apply Ne.symm; assumption) | (intro z; exact absurd z.symm (by assumption)) | (intro z; exact absurd z (by assumption))
theorem turn_z3 {P : Program} {w : World} {K : PySem.W.Frag} {elts : List Expr} {kk : Nat} {tpos : Pos} {b1 b2 b3 : Bool} {a1 a2 a3 z TI TO i1 i2 i3 : Addr} (D : ZA3 z TI TO i1 i2 i3 a1 a2 a3) :
    Turn P w K (.Tuple elts kk tpos) (ItZ3 K b1 b2 b3 a1 a2 a3) [z, TI, TO, i1, i2, i3] z (fun i h => IsZip h z TI TO .none ∧ IsTupOf3 h TI (.ref i1) (.ref i2) (.ref i3) ∧ (∃ x y u, IsTupOf3 h TO x y u) ∧ IsIt h b1 i1 a1 i ∧ IsIt h b2 i2 a2 i ∧ IsIt h b3 i3 a3 i) where
  mem := by simp
  obj := fun i h st c hc => by
    obtain ⟨hz, hTI, ⟨x, y, u, hTO⟩, h1, h2, h3⟩ := st
    have e' : c = z ∨ c = TI ∨ c = TO ∨ c = i1 ∨ c = i2 ∨ c = i3 := by simpa using hc
    rcases e' with q | q | q | q | q | q
    · rw [q]; exact ⟨_, hz, fun v q => nomatch q⟩
    · rw [q]; exact ⟨_, hTI, fun v q => nomatch q⟩
    · rw [q]; exact ⟨_, hTO, fun v q => nomatch q⟩
    · rw [q]; exact isIt_ob h1
    · rw [q]; exact isIt_ob h2
    · rw [q]; exact isIt_ob h3
  keep := fun i h h' st k => by
    obtain ⟨hz, hTI, ⟨x, y, u, hTO⟩, h1, h2, h3⟩ := st
    exact ⟨k z (by simp) _ hz, k TI (by simp) _ hTI, ⟨x, y, u, k TO (by simp) _ hTO⟩, isIt_at h1 fun o q => k i1 (by simp) o q, isIt_at h2 fun o q => k i2 (by simp) o q, isIt_at h3 fun o q => k i3 (by simp) o q⟩
  item := by
    intro X hP hw hK hc i pins s σ H E I hf st hg
    subst hP hw hK
    obtain ⟨hz, hTI, ⟨x0, y0, u0, hTO⟩, h1, h2, h3⟩ := st
    obtain ⟨xs, ys, zs, x, y, w', hqx, hqy, hqz, hx, hy, hw⟩ := hg
    obtain ⟨its, rv, p, _, _⟩ := sq_at I hqx
    obtain ⟨its2, rv2, p2, _, _⟩ := sq_at I hqy
    obtain ⟨its3, rv3, p3, _, _⟩ := sq_at I hqz
    obtain ⟨u, hu, ru⟩ := rv.get hx
    obtain ⟨u2, hu2, ru2⟩ := rv2.get hy
    obtain ⟨u3, hu3, ru3⟩ := rv3.get hw
    have hzl : z < s.heap.objs.size := Heap.lt_size hz
    have S := D.sep
    have n1 : a1 ≠ i1 := fun q => D.m1 (by rw [q]; simp)
    have n2 : a2 ≠ i2 := fun q => D.m2 (by rw [q]; simp)
    have n3 : a3 ≠ i3 := fun q => D.m3 (by rw [q]; simp)
    have l1 : i < its.toArray.size := by rw [List.size_toArray]; exact (List.getElem?_eq_some_iff.mp hu).1
    have l2 : i < its2.toArray.size := by rw [List.size_toArray]; exact (List.getElem?_eq_some_iff.mp hu2).1
    have l3 : i < its3.toArray.size := by rw [List.size_toArray]; exact (List.getElem?_eq_some_iff.mp hu3).1
    refine wpAny_pyNext_zipD3_item S (draws (A := X.A.in1) (I.ok.hd hc) b1 i1 a1 n1 its.toArray) (draws (A := X.A.in1) (I.ok.hd hc) b2 i2 a2 n2 its2.toArray) (draws (A := X.A.in1) (I.ok.hd hc) b3 i3 a3 n3 its3.toArray) hz hTI hTO ⟨h1, p⟩ ⟨h2, p2⟩ ⟨h3, p3⟩ l1 l2 l3 fun v1 v2 v3 h' tk hv1 hv2 hv3 z' TO' h1' h2' h3' hT hsz hk => ?_
    have e1 : v1 = u := by
      have z : its.toArray[i]? = some u := by simpa using hu
      rw [z] at hv1; exact (Option.some.inj hv1).symm
    have e2 : v2 = u2 := by
      have z : its2.toArray[i]? = some u2 := by simpa using hu2
      rw [z] at hv2; exact (Option.some.inj hv2).symm
    have e3 : v3 = u3 := by
      have z : its3.toArray[i]? = some u3 := by simpa using hu3
      rw [z] at hv3; exact (Option.some.inj hv3).symm
    subst e1 e2 e3
    refine ⟨_, rfl, wpAny_letOwnedTupleGo_zip (s := { s with heap := h', toks := tk }) z' fun h'' z'' sb => ?_⟩
    have hT2 : h''.get? s.heap.objs.size = some { cls := .type "tuple", data := .seq #[v1, v2, v3] } := (sb.2 _ (Nat.ne_of_gt hzl)).trans hT
    have new : ObjOk X.prog X.w (upd H s.heap.objs.size (.tup [x, y, w'])) h'' s.heap.objs.size (.tup [x, y, w']) :=
      ⟨by show 3 ≤ sizeLine; decide, [v1, v2, v3], .cons ru (.cons ru2 (.cons ru3 .nil)), ⟨_, hT2, rfl, _, rfl⟩⟩
    have I1 : Inv X pins σ (upd H s.heap.objs.size (.tup [x, y, w'])) { s with heap := h'', toks := tk } :=
      I.turnedNew (t' := tk) (ch := [z, TI, TO, i1, i2, i3]) (fun c o hb q => (sb.2 c (fun q' => hb (by simp [q']))).trans (hk c o (fun q' => hb (by simp [q'])) (fun q' => hb (by simp [q'])) (fun q' => hb (by simp [q'])) (fun q' => hb (by simp [q'])) (fun q' => hb (by simp [q'])) q)) hf (Nat.le_refl _) new
    refine ⟨.ref s.heap.objs.size, _, I1, rfl, ⟨_, x, y, w', rfl, I.hok.fresh (Nat.le_refl _), rfl, fun l hl => by rw [sq_inj I hl hqx]; exact hx, fun l hl => by rw [sq_inj I hl hqy]; exact hy, fun l hl => by rw [sq_inj I hl hqz]; exact hw⟩, ⟨z'', ?_, ⟨v1, v2, v3, ?_⟩, ?_, ?_, ?_⟩, fun c hcm => ?_⟩
    · exact (sb.2 _ S.TIz).trans (hk _ _ S.TIz S.TITO S.TIi1 S.TIi2 S.TIi3 hTI)
    · exact (sb.2 _ S.TOz).trans TO'
    · exact isIt_at h1'.1 fun o q => (sb.2 _ (Ne.symm S.zi1)).trans q
    · exact isIt_at h2'.1 fun o q => (sb.2 _ (Ne.symm S.zi2)).trans q
    · exact isIt_at h3'.1 fun o q => (sb.2 _ (Ne.symm S.zi3)).trans q
    · have hlt : c < s.heap.objs.size := by
        have e' : c = z ∨ c = TI ∨ c = TO ∨ c = i1 ∨ c = i2 ∨ c = i3 := by simpa using hcm
        rcases e' with q | q | q | q | q | q
        · rw [q]; exact hzl
        · rw [q]; exact Heap.lt_size hTI
        · rw [q]; exact Heap.lt_size hTO
        · rw [q]; obtain ⟨_, e1, _⟩ := isIt_ob h1; exact Heap.lt_size e1
        · rw [q]; obtain ⟨_, e2, _⟩ := isIt_ob h2; exact Heap.lt_size e2
        · rw [q]; obtain ⟨_, e3, _⟩ := isIt_ob h3; exact Heap.lt_size e3
      rw [upd_ne (Nat.ne_of_lt hlt)]
      exact (hf c hcm).1
  done := by
    intro X hP hw hK hc i pins s σ H E I hf st hg
    subst hP hw hK
    obtain ⟨hz, hTI, ⟨x0, y0, u0, hTO⟩, h1, h2, h3⟩ := st
    obtain ⟨xs, ys, zs, hqx, hqy, hqz, le1, le2, le3, hend⟩ := hg
    obtain ⟨its, rv, p, _, _⟩ := sq_at I hqx
    obtain ⟨its2, rv2, p2, _, _⟩ := sq_at I hqy
    obtain ⟨its3, rv3, p3, _, _⟩ := sq_at I hqz
    have l1 := rv.length
    have l2 := rv2.length
    have l3 := rv3.length
    have S := D.sep
    have n1 : a1 ≠ i1 := fun q => D.m1 (by rw [q]; simp)
    have n2 : a2 ≠ i2 := fun q => D.m2 (by rw [q]; simp)
    have n3 : a3 ≠ i3 := fun q => D.m3 (by rw [q]; simp)
    exact wpAny_pyNext_zipD3_end S (draws (A := X.A.in1) (I.ok.hd hc) b1 i1 a1 n1 its.toArray) (draws (A := X.A.in1) (I.ok.hd hc) b2 i2 a2 n2 its2.toArray) (draws (A := X.A.in1) (I.ok.hd hc) b3 i3 a3 n3 its3.toArray) hz hTI hTO ⟨h1, p⟩ ⟨h2, p2⟩ ⟨h3, p3⟩ (by rw [List.size_toArray]; omega) (by rw [List.size_toArray]; omega) (by rw [List.size_toArray]; omega) (by rw [List.size_toArray, List.size_toArray, List.size_toArray]; omega)
      fun h' tk hk => ⟨rfl, I.turnedL (t' := tk) (ch := [z, TI, TO, i1, i2, i3]) (fun c o hb q => hk c o (fun q' => hb (by simp [q'])) (fun q' => hb (by simp [q'])) (fun q' => hb (by simp [q'])) (fun q' => hb (by simp [q'])) (fun q' => hb (by simp [q'])) q) hf⟩
  self := fun A i s Q E st h => wpAny_pyIter_zip st.1 h
theorem z3_nd (n : Nat) : [n + 5, n + 3, n + 4, n, n + 1, n + 2].Nodup := by simp
theorem z3_out {a n : Nat} (h : a < n) : a ∉ [n + 5, n + 3, n + 4, n, n + 1, n + 2] := by simp; omega
theorem z3_ge {c n : Nat} (h : c ∈ [n + 5, n + 3, n + 4, n, n + 1, n + 2]) : n ≤ c := by simp at h; omega
def iZ3 (K : PySem.W.Frag) (ta : TA) : TI := fun σ H R => ta σ H fun vs H1 => ∃ b1 b2 b3 a1 a2 a3 xs ys zs, vs = [.ref a1, .ref a2, .ref a3] ∧ Sq K H1 b1 a1 xs ∧ Sq K H1 b2 a2 ys ∧ Sq K H1 b3 a3 zs ∧ R (ItZ3 K b1 b2 b3 a1 a2 a3) H1
theorem pi_z3 {X : Cx} {e e2 e3 : Expr} {ta : TA} {p pos tpos : Pos} {elts : List Expr} {kk : Nat} (hg : Gl X "zip") (hm : X.mg "zip" = none) (ha : PA X [e, e2, e3] ta)
    (hs : starEach [e, e2, e3] X.env = (false, eval e X.env) :: starEach [e2, e3] X.env := by rfl) (hpl : (backTo pos (starEach [e2, e3] X.env)).any (·.1) = false := by rfl) :
    PI X (.Tuple elts kk tpos) (.Call (.Name "zip" p) [e, e2, e3] [] pos) (iZ3 X.K ta) := by
  refine ⟨fun pins s σ H R I h => ?_⟩
  refine Call_ (ld_blt I hg hm PyProof.Rows.boot_zip (PyProof.Rows.callWith_type1 (thn (ha.run pos pins s σ H _ I h) fun us s1 ⟨vs, H1, I1, r1, q1⟩ => ?_) hs hpl))
  obtain ⟨b1, b2, b3, a1, a2, a3, xs, ys, zs, ex, hqx, hqy, hqz, q⟩ := q1
  subst ex
  cases r1 with
  | cons r rr =>
    cases rr with
    | cons r' rr =>
      cases rr with
      | cons r'' rr =>
        cases rr
        cases r
        cases r'
        cases r''
        obtain ⟨its, rv, p1, _, L1⟩ := sq_at I1 hqx
        obtain ⟨its2, rv2, p2, _, L2'⟩ := sq_at I1 hqy
        obtain ⟨its3, rv3, p3, _, L3'⟩ := sq_at I1 hqz
        refine zip_begins3 (begins b1 a1 its.toArray) (begins b2 a2 its2.toArray) (begins b3 a3 its3.toArray) p1 p2 p3 fun h' hz hTI hTO h1 h2 h3 hsz hk => wpAny_pyIter_zip hz ?_
        have I2 : Inv X pins σ H1 { s1 with heap := h' } := I1.kept (t' := s1.toks) hk
        refine ⟨s1.heap.objs.size + 5, [s1.heap.objs.size + 5, s1.heap.objs.size + 3, s1.heap.objs.size + 4, s1.heap.objs.size, s1.heap.objs.size + 1, s1.heap.objs.size + 2], _, _, H1, rfl, I2, turn_z3 ⟨?_, ?_, ?_, ?_⟩, ⟨hz, hTI, ⟨_, _, _, hTO⟩, itOb_is h1, itOb_is h2, itOb_is h3⟩, fun c hcm => ?_, q⟩
        · exact z3_nd _
        · exact z3_out L1
        · exact z3_out L2'
        · exact z3_out L3'
        · have hle : s1.heap.objs.size ≤ c := z3_ge hcm
          exact I1.fpOk hle (I1.hok.fresh hle)
def zip3D (xs ys zs : List D) : List D := (xs.zip (ys.zip zs)).map fun p => .tup [p.1, p.2.1, p.2.2]
def zip3L : List D → Option (List D)
  | [x, y, z] => (itemsOf x).bind fun xs => (itemsOf y).bind fun ys => (itemsOf z).map fun zs => zip3D xs ys zs
  | _ => none
theorem zip3L_some {ds xs : List D} (h : zip3L ds = some xs) : ∃ d d' d'' ys zs us, ds = [d, d', d''] ∧ itemsOf d = some ys ∧ itemsOf d' = some zs ∧ itemsOf d'' = some us ∧ xs = zip3D ys zs us := by
  unfold zip3L at h
  split at h
  · rename_i d d' d''
    cases e1 : itemsOf d with
    | none => simp [e1] at h
    | some ys =>
      cases e2 : itemsOf d' with
      | none => simp [e1, e2] at h
      | some zs =>
        cases e3 : itemsOf d'' with
        | none => simp [e1, e2, e3] at h
        | some us =>
          simp [e1, e2, e3] at h
          exact ⟨_, _, _, _, _, _, rfl, e1, e2, e3, h.symm⟩
  · cases h
def iZp3 (m : MA) : MI := fun e => (m e).bindI fun ds e => liftI (zip3L ds) e
theorem zip3_get {xs ys zs : List D} {j : Nat} {x y z : D} (h1 : xs[j]? = some x) (h2 : ys[j]? = some y) (h3 : zs[j]? = some z) : (zip3D xs ys zs)[j]? = some (.tup [x, y, z]) := by
  unfold zip3D
  rw [List.getElem?_map, List.zip, List.getElem?_zipWith, h1, List.zip, List.getElem?_zipWith, h2, h3]
  rfl
section
variable {K : PySem.W.Frag} {F : Hp}
theorem feeds_z3 {b1 b2 b3 : Bool} {a1 a2 a3 : Addr} {xs ys zs : List V} {ds es us : List D} (h1 : Sq K F b1 a1 xs) (h2 : Sq K F b2 a2 ys) (h3 : Sq K F b3 a3 zs) (i1 : IsL K F ds xs) (i2 : IsL K F es ys) (i3 : IsL K F us zs) (z : xs.length ≤ sizeLine) : Feeds K F (ItZ3 K b1 b2 b3 a1 a2 a3) (zip3D ds es us) where
  go := fun j H le hj => by
    have l1 := IsL.len i1
    have l2 := IsL.len i2
    have l3 := IsL.len i3
    unfold zip3D at hj
    simp at hj
    obtain ⟨x, hx⟩ : ∃ x, xs[j]? = some x := ⟨xs[j]'(by omega), List.getElem?_eq_getElem _⟩
    obtain ⟨y, hy⟩ : ∃ y, ys[j]? = some y := ⟨ys[j]'(by omega), List.getElem?_eq_getElem _⟩
    obtain ⟨u, hu⟩ : ∃ y, zs[j]? = some y := ⟨zs[j]'(by omega), List.getElem?_eq_getElem _⟩
    exact ⟨xs, ys, zs, x, y, u, sq_mono le h1, sq_mono le h2, sq_mono le h3, hx, hy, hu⟩
  stop := fun j H le hj => by
    have l1 := IsL.len i1
    have l2 := IsL.len i2
    have l3 := IsL.len i3
    unfold zip3D at hj
    simp at hj
    exact ⟨xs, ys, zs, sq_mono le h1, sq_mono le h2, sq_mono le h3, by omega, by omega, by omega, by omega⟩
  yld := fun j H x H' F1 le le1 hj y => by
    obtain ⟨T, x0, y0, z0, rfl, hT, rfl, hf1, hf2, hf3⟩ := y
    obtain ⟨d, hd, hi⟩ := IsL.get' i1 (hf1 xs (sq_mono (le.trans le1) h1))
    obtain ⟨d', hd', hi'⟩ := IsL.get' i2 (hf2 ys (sq_mono (le.trans le1) h2))
    obtain ⟨d'', hd'', hi''⟩ := IsL.get' i3 (hf3 zs (sq_mono (le.trans le1) h3))
    refine ⟨_, .tup [d, d', d''], zip3_get hd hd' hd'', Grow.new le1 hT, ?_⟩
    simp only [Is, IsL]
    exact ⟨T, _, rfl, SqT.of upd_same, _, _, rfl, Is.mono (le.trans (Grow.new le1 hT).le) _ _ hi, _, _, rfl, Is.mono (le.trans (Grow.new le1 hT).le) _ _ hi', _, _, rfl, Is.mono (le.trans (Grow.new le1 hT).le) _ _ hi'', rfl⟩
  sz := by unfold zip3D; simp; have := IsL.len i1; omega
end
section
variable {X : Cx} {C : SC} {Δ : Ty} {tg e : Expr} {m : ME}
theorem i_zip3 {e2 e3 : Expr} {p pos tpos : Pos} {elts : List Expr} {kk : Nat} {r : MA} (hg : Gl X "zip") (hm : X.mg "zip" = none) (ha : PA X [e, e2, e3] (tA X.K C Δ r)) (hs : starEach [e, e2, e3] X.env = (false, eval e X.env) :: starEach [e2, e3] X.env := by rfl) (hpl : (backTo pos (starEach [e2, e3] X.env)).any (·.1) = false := by rfl) :
    PI X (.Tuple elts kk tpos) (.Call (.Name "zip" p) [e, e2, e3] [] pos) (tI X.K C Δ (iZp3 r)) := by
  refine PI.weak (PI.sized (pi_z3 hg hm ha hs hpl)) fun σ H R ⟨G, F, env, A, st, h⟩ => ⟨G, F, env, A, st, h.bindA fun ds e1 F1 H1 A1 vs st1 i1 s1 h1 => ?_⟩
  obtain ⟨xs, q, h2⟩ := h1.lift
  obtain ⟨d, d', d'', ys, zs, us, rfl, q2, q', q'', rfl⟩ := zip3L_some q
  simp only [IsL] at i1
  obtain ⟨y, ys', rfl, i2, y', ys'', rfl, i3, y'', ys''', rfl, i4, rfl⟩ := i1
  obtain ⟨b, a, xs, rfl, hs, hi⟩ := sq_of q2 i2
  obtain ⟨b', a', xs', rfl, hs', hi'⟩ := sq_of q' i3
  obtain ⟨b'', a'', xs'', rfl, hs'', hi''⟩ := sq_of q'' i4
  exact ⟨b, b', b'', a, a', a'', xs, xs', xs'', rfl, sq_mono st1.le hs, sq_mono st1.le hs', sq_mono st1.le hs'', fun sz => h2 F1 H1 A1 _ Step.refl st1 (feeds_z3 hs hs' hs'' hi hi' hi'' (sz b a xs (sq_mono st1.le hs)))⟩
end
/-! ### x is True -/
def isBD : D → D → Option D
  | .bl a, .bl b => some (.bl (decide (a = b)))
  | _, _ => none
@[simp] theorem isBD_bl {a b : Bool} : isBD (.bl a) (.bl b) = some (.bl (decide (a = b))) := (rfl)
theorem rel_isB {K : PySem.W.Frag} : Rel2 K (fun x y H Q => ∃ a b, x = V.bl a ∧ y = V.bl b ∧ Q (.bl (decide (a = b))) H) isBD := by
  intro F H x y dx dy dz Q le h1 h2 e q
  unfold isBD at e
  split at e
  · cases e
    simp only [Is] at h1 h2
    exact ⟨_, _, h1, h2, q F H _ (Grow.refl le) (by simp only [Is])⟩
  · cases e
/-! ### str(int) -/
def strD : List D → Option D
  | [.int i] => if i.natAbs.log2 < 1920 then some (.str (toString i)) else none
  | _ => none
theorem strD_int {i : Int} (h : i.natAbs.log2 < 1920) : strD [.int i] = some (.str (toString i)) := if_pos h
theorem rel_str {K : PySem.W.Frag} : RelC K (fun xs H Q => ∃ i : Int, xs = [.int i] ∧ i.natAbs.log2 < 1920 ∧ Q (.str (toString i)) H) strD := by
  intro F H vs ds dz Q le h e q
  unfold strD at e
  split at e
  · split at e
    · rename_i c
      obtain ⟨v, rfl, h1⟩ := h.one
      cases e
      simp only [Is] at h1
      subst h1
      exact ⟨_, rfl, c, q F H _ (Grow.refl le) (by simp only [Is])⟩
    · cases e
  · cases e
/-! ### a slot that is forgotten, and may have another type -/
section
variable {K : PySem.W.Frag} {G F H : Hp}
theorem Slots.forget {s' : SO} : ∀ {Δ : Ty} {env : Ev} {σ : L2.St} {A : AS} (i : Nat), Slots K G F H Δ env σ A → ∃ A2, Slots K G F H (Δ.set i s') (env.set i none) σ A2 ∧ ∀ a, A2 a → A a
  | [], env, σ, A, i, h => by obtain ⟨rfl, rfl, n⟩ := h; exact ⟨A, ⟨rfl, rfl, n⟩, fun _ z => z⟩
  | s :: Δ, env, σ, A, 0, h => by
    obtain ⟨x, e0, v, r, A1, A2, rfl, rfl, h1, h2, h3, h4⟩ := h
    exact ⟨A2, ⟨none, e0, v, r, fun _ => False, A2, rfl, rfl, fun a z => z, h2, fun a z => z.elim, fun a => ⟨.inr, fun z => z.elim (fun z => z.elim) id⟩⟩, fun a z => (h4 a).mpr (.inr z)⟩
  | s :: Δ, env, σ, A, i + 1, h => by
    obtain ⟨x, e0, v, r, A1, A2, rfl, rfl, h1, h2, h3, h4⟩ := h
    obtain ⟨A3, q1, q2⟩ := Slots.forget i h2
    exact ⟨fun a => A1 a ∨ A3 a, ⟨x, _, v, _, A1, A3, rfl, rfl, h1, q1, fun a z y => h3 a z (q2 a y), fun a => Iff.rfl⟩, fun a z => (h4 a).mpr (z.elim .inl fun z => .inr (q2 a z))⟩
theorem StOk.forget {s' : SO} {Δ : Ty} {env : Ev} {σ : L2.St} {A : AS} (i : Nat) (x : StOk K G Δ F H env σ A) : ∃ A', StOk K G (Δ.set i s') F H (env.set i none) σ A' ∧ ∀ a, A' a → A a := by
  obtain ⟨A2, h1, h2⟩ := Slots.forget (s' := s') i x.sl
  exact ⟨A2, ⟨h1, fun a z => x.dj a (h2 a z), x.le, x.gl, fun a z => x.gd a (h2 a z)⟩, h2⟩
end
def sForget (i : Nat) (m : MS) : MS := fun e => m (e.set i none)
section
variable {X : Cx} {C : SC} {Δ Δ1 Δ' : Ty} {pos : Pos} {e : Expr} {m : ME} {ms : MS} {ss : List Stmt}
theorem s_forget {i : Nat} {s' : SO} (h : PSs X ss (tS X.K C (Δ.set i s') ms Δ')) : PSs X ss (tS X.K C Δ (sForget i ms) Δ') := by
  refine PSs.weak h fun D σ H ⟨G, F, env, A, st, h⟩ => ?_
  obtain ⟨A', q1, q2⟩ := st.forget (s' := s') i
  exact ⟨G, F, _, A', q1, PostS.base (Step.refl.less q2) h⟩
/-- name = value, of another type than the slot had -/
theorem s_setR {i : Nat} {x : Str} {o o' : O} {pos' : Pos} (t : Δ[i]? = some (.ow o')) (hN : X.N.Nodup) (hi : X.N[i]? = some x) (hx : Loc X.env.scope x) (he : PE X e (tE X.K C Δ m o)) (hs : swapsWith e (some (.Name x pos')) pos.line X.env = pure false := by rfl)
    (hf : X.fn x = true ∨ X.env.scope.names.lookup x = some .local := by first | exact .inl rfl | exact .inr rfl | assumption) : PS X (.Assign [.Name x pos'] e pos) (tS X.K C Δ (sSet i m) (Δ.set i (.ow o))) := by
  refine PS.weak (ps_set hN hi hx he hs hf) fun D σ H ⟨G, F, env, A, st, h⟩ => ⟨G, F, env, A, st, h.bindE fun d e F1 H1 A1 B v st1 own dj s h1 => ?_⟩
  obtain ⟨A3, r1, r2⟩ := st1.forget (s' := .ow o) i
  have hi' : i < Δ.length := (List.getElem?_eq_some_iff.mp t).1
  obtain ⟨A2, q1, q2⟩ := r1.store (i := i) (o := o) (by simp [hi']) own (fun b z => ⟨fun w => (dj b z).1 (r2 b w), (dj b z).2⟩) fun b z => by
    cases q : G b with
    | none => rfl
    | some u =>
      rcases s.sub b (.inr z) with w | w
      · rw [st.gd b w] at q; cases q
      · rw [st.gl b u q] at w; cases w
  rw [List.set_set] at q1
  exact h1 F1 H1 A2 _ (s.less fun a z => (q2 a z).elim (fun z => .inl (r2 a z)) .inr) q1
/-- list + list, a new one that is owned -/
def catD : D → D → Option D
  | .lst a, .lst b => if a.length + b.length ≤ 16777216 then some (.lst (a ++ b)) else none
  | _, _ => none
theorem catD_ok {a b : List D} (h : a.length + b.length ≤ 16777216) : catD (.lst a) (.lst b) = some (.lst (a ++ b)) := if_pos h
theorem e_cat {a b : Expr} {ma mb : ME} (ha : PE X a (tE X.K C Δ ma .fz)) (hb : PE X b (tE X.K C Δ mb .fz)) : PE X (.BinOp a .Add b pos) (tE X.K C Δ (mBin catD ma mb) (.lst .fz)) := by
  refine PE.weak (pe_op op_cat ha hb) fun σ H Q ⟨G, F, env, A, st, h⟩ => ?_
  refine ⟨G, F, env, A, st, h.bind fun dx e1 F1 H1 A1 x st1 i1 s1 h1 => ⟨G, F1, e1, A1, st1, h1.bind fun dy e2 F2 H2 A2 y st2 i2 s2 h2 => ?_⟩⟩
  unfold PT.lift at h2
  split at h2
  · rename_i dz hz
    unfold catD at hz
    split at hz
    · split at hz
      · rename_i ds es hk
        cases hz
        have i1' := Is.mono s2.le _ _ i1
        simp only [Is] at i1' i2
        obtain ⟨p, xs, rfl, p1, p2⟩ := i1'
        obtain ⟨p', ys, rfl, p3, p4⟩ := i2
        exact ⟨p, p', xs, ys, rfl, rfl, st2.le _ _ p1, st2.le _ _ p3, by rw [sizeLine_eq, IsL.len p2, IsL.len p4]; exact hk, fun u nu => PostE.newL st2 (p2.app p4) nu h2⟩
      · cases hz
    · cases hz
  · exact h2.elim
end
end PT

set_option Elab.async false
set_option linter.all false
set_option maxRecDepth 100000
set_option maxHeartbeats 1000000
namespace K26
open PySem PySem.Spec PyProof.Rows L2 PT
def top (i : Nat) : Stmt := PySem.Challenge.pw_pushtells_k26_whole_judges_of_fillings_a.main.body.getD i (.Pass ⟨0, 0, 0, 0⟩)
def clsBody : Stmt → List Stmt
  | .ClassDef (body := b) .. => b
  | _ => []
def meth (i j : Nat) : Stmt := (clsBody (top i)).getD j (.Pass ⟨0, 0, 0, 0⟩)
def kitC : List Str := ["Web", "Box"]
def kitX : List Str := ["Web", "Box"]
def errsAll : List Str := ["InvalidWeb", "InvalidBox", "InvalidTies", "InvalidBounds", "InvalidTotals", "InvalidSize"]
structure Facts (P : Program) (K : PySem.W.Frag) (mg : Str → Option Value) where
  fd__law_box : FuncData
  d__law_box : FunD K "_law_box" "_law_box" (defArgs (top 41)) (defBody (top 41)) (defScope (top 41)) [] [] (He.ga K "_law_box") fd__law_box
  fd__law_take : FuncData
  d__law_take : FunD K "_law_take" "_law_take" (defArgs (top 42)) (defBody (top 42)) (defScope (top 42)) [] [] (He.ga K "_law_take") fd__law_take
  fd__law_pick : FuncData
  d__law_pick : FunD K "_law_pick" "_law_pick" (defArgs (top 43)) (defBody (top 43)) (defScope (top 43)) [] [] (He.ga K "_law_pick") fd__law_pick
  fd__law_scales : FuncData
  d__law_scales : FunD K "_law_scales" "_law_scales" (defArgs (top 60)) (defBody (top 60)) (defScope (top 60)) [] [] (He.ga K "_law_scales") fd__law_scales
  fd__law_sign : FuncData
  d__law_sign : FunD K "_law_sign" "_law_sign" (defArgs (top 46)) (defBody (top 46)) (defScope (top 46)) [] [] (He.ga K "_law_sign") fd__law_sign
  fd__law_rings : FuncData
  d__law_rings : FunD K "_law_rings" "_law_rings" (defArgs (top 51)) (defBody (top 51)) (defScope (top 51)) [] [] (He.ga K "_law_rings") fd__law_rings
  fd__law_tie : FuncData
  d__law_tie : FunD K "_law_tie" "_law_tie" (defArgs (top 49)) (defBody (top 49)) (defScope (top 49)) [] [] (He.ga K "_law_tie") fd__law_tie
  fd__law_web : FuncData
  d__law_web : FunD K "_law_web" "_law_web" (defArgs (top 50)) (defBody (top 50)) (defScope (top 50)) [] [] (He.ga K "_law_web") fd__law_web
  fd__law_far : FuncData
  d__law_far : FunD K "_law_far" "_law_far" (defArgs (top 44)) (defBody (top 44)) (defScope (top 44)) [] [] (He.ga K "_law_far") fd__law_far
  fd__law_amount : FuncData
  d__law_amount : FunD K "_law_amount" "_law_amount" (defArgs (top 45)) (defBody (top 45)) (defScope (top 45)) [] [] (He.ga K "_law_amount") fd__law_amount
  fd__law_full : FuncData
  d__law_full : FunD K "_law_full" "_law_full" (defArgs (top 62)) (defBody (top 62)) (defScope (top 62)) [] [] (He.ga K "_law_full") fd__law_full
  fd__law_signs : FuncData
  d__law_signs : FunD K "_law_signs" "_law_signs" (defArgs (top 61)) (defBody (top 61)) (defScope (top 61)) [] [] (He.ga K "_law_signs") fd__law_signs
  fd_is_integer : FuncData
  d_is_integer : FunD K "is_integer" "is_integer" (defArgs (top 9)) (defBody (top 9)) (defScope (top 9)) [] [] (He.ga K "is_integer") fd_is_integer
  fd_is_between : FuncData
  d_is_between : FunD K "is_between" "is_between" (defArgs (top 11)) (defBody (top 11)) (defScope (top 11)) [] [] (He.ga K "is_between") fd_is_between
  fd_is_sequence : FuncData
  d_is_sequence : FunD K "is_sequence" "is_sequence" (defArgs (top 12)) (defBody (top 12)) (defScope (top 12)) [] [] (He.ga K "is_sequence") fd_is_sequence
  fd_is_row : FuncData
  d_is_row : FunD K "is_row" "is_row" (defArgs (top 13)) (defBody (top 13)) (defScope (top 13)) [] [] (He.ga K "is_row") fd_is_row
  fd_is_below : FuncData
  d_is_below : FunD K "is_below" "is_below" (defArgs (top 10)) (defBody (top 10)) (defScope (top 10)) [] [] (He.ga K "is_below") fd_is_below
  fd_is_sign : FuncData
  d_is_sign : FunD K "is_sign" "is_sign" (defArgs (top 15)) (defBody (top 15)) (defScope (top 15)) [] [] (He.ga K "is_sign") fd_is_sign
  fd_is_tie : FuncData
  d_is_tie : FunD K "is_tie" "is_tie" (defArgs (top 21)) (defBody (top 21)) (defScope (top 21)) [] [] (He.ga K "is_tie") fd_is_tie
  fd_told_tie : FuncData
  d_told_tie : FunD K "told_tie" "told_tie" (defArgs (top 22)) (defBody (top 22)) (defScope (top 22)) [] [] (He.ga K "told_tie") fd_told_tie
  fd_Web_init : FuncData
  d_Web_init : FunD K "__init__" "Web.__init__" (defArgs (meth 20 0)) (defBody (meth 20 0)) (defScope (meth 20 0)) [] [] (He.ma K (He.ga K "Web") "__init__") fd_Web_init
  fd_need_web : FuncData
  d_need_web : FunD K "need_web" "need_web" (defArgs (top 23)) (defBody (top 23)) (defScope (top 23)) [.int (-1)] [] (He.ga K "need_web") fd_need_web
  fd_are_bounds : FuncData
  d_are_bounds : FunD K "are_bounds" "are_bounds" (defArgs (top 27)) (defBody (top 27)) (defScope (top 27)) [] [] (He.ga K "are_bounds") fd_are_bounds
  fd_Box_init : FuncData
  d_Box_init : FunD K "__init__" "Box.__init__" (defArgs (meth 28 0)) (defBody (meth 28 0)) (defScope (meth 28 0)) [] [] (He.ma K (He.ga K "Box") "__init__") fd_Box_init
  fd__law_are_ints : FuncData
  d__law_are_ints : FunD K "_law_are_ints" "_law_are_ints" (defArgs (top 56)) (defBody (top 56)) (defScope (top 56)) [] [] (He.ga K "_law_are_ints") fd__law_are_ints
  fd__law_ends : FuncData
  d__law_ends : FunD K "_law_ends" "_law_ends" (defArgs (top 52)) (defBody (top 52)) (defScope (top 52)) [] [] (He.ga K "_law_ends") fd__law_ends
  fd__law_sums : FuncData
  d__law_sums : FunD K "_law_sums" "_law_sums" (defArgs (top 53)) (defBody (top 53)) (defScope (top 53)) [] [] (He.ga K "_law_sums") fd__law_sums
  fd__law_fills : FuncData
  d__law_fills : FunD K "_law_fills" "_law_fills" (defArgs (top 57)) (defBody (top 57)) (defScope (top 57)) [] [] (He.ga K "_law_fills") fd__law_fills
  fd__law_are_signs : FuncData
  d__law_are_signs : FunD K "_law_are_signs" "_law_are_signs" (defArgs (top 58)) (defBody (top 58)) (defScope (top 58)) [] [] (He.ga K "_law_are_signs") fd__law_are_signs
  fd__law_is : FuncData
  d__law_is : FunD K "_law_is" "_law_is" (defArgs (top 47)) (defBody (top 47)) (defScope (top 47)) [] [] (He.ga K "_law_is") fd__law_is
  fd__law_pull : FuncData
  d__law_pull : FunD K "_law_pull" "_law_pull" (defArgs (top 54)) (defBody (top 54)) (defScope (top 54)) [] [] (He.ga K "_law_pull") fd__law_pull
  fd__law_short : FuncData
  d__law_short : FunD K "_law_short" "_law_short" (defArgs (top 55)) (defBody (top 55)) (defScope (top 55)) [] [] (He.ga K "_law_short") fd__law_short
  fd_need_box : FuncData
  d_need_box : FunD K "need_box" "need_box" (defArgs (top 29)) (defBody (top 29)) (defScope (top 29)) [] [] (He.ga K "need_box") fd_need_box
  fd_is_paper : FuncData
  d_is_paper : FunD K "is_paper" "is_paper" (defArgs (top 14)) (defBody (top 14)) (defScope (top 14)) [] [] (He.ga K "is_paper") fd_is_paper
  fd_is_told_row : FuncData
  d_is_told_row : FunD K "is_told_row" "is_told_row" (defArgs (top 16)) (defBody (top 16)) (defScope (top 16)) [] [] (He.ga K "is_told_row") fd_is_told_row
  fd_ends_at : FuncData
  d_ends_at : FunD K "ends_at" "ends_at" (defArgs (top 24)) (defBody (top 24)) (defScope (top 24)) [] [] (He.ga K "ends_at") fd_ends_at
  fd_fills : FuncData
  d_fills : FunD K "fills" "fills" (defArgs (top 37)) (defBody (top 37)) (defScope (top 37)) [] [] (He.ga K "fills") fd_fills
  fd_is_sign_row : FuncData
  d_is_sign_row : FunD K "is_sign_row" "is_sign_row" (defArgs (top 25)) (defBody (top 25)) (defScope (top 25)) [] [] (He.ga K "is_sign_row") fd_is_sign_row
  fd_most_of : FuncData
  d_most_of : FunD K "most_of" "most_of" (defArgs (top 33)) (defBody (top 33)) (defScope (top 33)) [] [] (He.ga K "most_of") fd_most_of
  fd_signed_total : FuncData
  d_signed_total : FunD K "signed_total" "signed_total" (defArgs (top 32)) (defBody (top 32)) (defScope (top 32)) [] [] (He.ga K "signed_total") fd_signed_total
  fd_pull_at : FuncData
  d_pull_at : FunD K "pull_at" "pull_at" (defArgs (top 31)) (defBody (top 31)) (defScope (top 31)) [] [] (He.ga K "pull_at") fd_pull_at
  fd_shortage_of : FuncData
  d_shortage_of : FunD K "shortage_of" "shortage_of" (defArgs (top 34)) (defBody (top 34)) (defScope (top 34)) [] [] (He.ga K "shortage_of") fd_shortage_of
  fd_signs_show : FuncData
  d_signs_show : FunD K "signs_show" "signs_show" (defArgs (top 35)) (defBody (top 35)) (defScope (top 35)) [] [] (He.ga K "signs_show") fd_signs_show
  fd_fill_holds : FuncData
  d_fill_holds : FunD K "fill_holds" "fill_holds" (defArgs (top 39)) (defBody (top 39)) (defScope (top 39)) [] [] (He.ga K "fill_holds") fd_fill_holds
  fd_filling_holds : FuncData
  d_filling_holds : FunD K "filling_holds" "filling_holds" (defArgs (top 38)) (defBody (top 38)) (defScope (top 38)) [] [] (He.ga K "filling_holds") fd_filling_holds
  fd__law_asked : FuncData
  d__law_asked : FunD K "_law_asked" "_law_asked" (defArgs (top 63)) (defBody (top 63)) (defScope (top 63)) [] [] (He.ga K "_law_asked") fd__law_asked
  fd__law_with : FuncData
  d__law_with : FunD K "_law_with" "_law_with" (defArgs (top 59)) (defBody (top 59)) (defScope (top 59)) [] [] (He.ga K "_law_with") fd__law_with
  fd__law_cut : FuncData
  d__law_cut : FunD K "_law_cut" "_law_cut" (defArgs (top 65)) (defBody (top 65)) (defScope (top 65)) [] [] (He.ga K "_law_cut") fd__law_cut
  fd__law_bent : FuncData
  d__law_bent : FunD K "_law_bent" "_law_bent" (defArgs (top 64)) (defBody (top 64)) (defScope (top 64)) [] [] (He.ga K "_law_bent") fd__law_bent
  fd__law_norm : FuncData
  d__law_norm : FunD K "_law_norm" "_law_norm" (defArgs (top 48)) (defBody (top 48)) (defScope (top 48)) [] [] (He.ga K "_law_norm") fd__law_norm
  fd_law : FuncData
  d_law : FunD K "law" "law" (defArgs (top 66)) (defBody (top 66)) (defScope (top 66)) [] [] (He.ga K "law") fd_law
  n_abs : mg "abs" = none
  n_all : mg "all" = none
  n_bool : mg "bool" = none
  n_enumerate : mg "enumerate" = none
  n_int : mg "int" = none
  n_isinstance : mg "isinstance" = none
  n_len : mg "len" = none
  n_list : mg "list" = none
  n_max : mg "max" = none
  n_min : mg "min" = none
  n_range : mg "range" = none
  n_str : mg "str" = none
  n_sum : mg "sum" = none
  n_tuple : mg "tuple" = none
  n_zip : mg "zip" = none
  g_Box : mg "Box" = some (.ref (He.ga K "Box"))
  g_InvalidBounds : mg "InvalidBounds" = some (.ref (He.ga K "InvalidBounds"))
  g_InvalidBox : mg "InvalidBox" = some (.ref (He.ga K "InvalidBox"))
  g_InvalidSize : mg "InvalidSize" = some (.ref (He.ga K "InvalidSize"))
  g_InvalidTies : mg "InvalidTies" = some (.ref (He.ga K "InvalidTies"))
  g_InvalidTotals : mg "InvalidTotals" = some (.ref (He.ga K "InvalidTotals"))
  g_InvalidWeb : mg "InvalidWeb" = some (.ref (He.ga K "InvalidWeb"))
  g_Web : mg "Web" = some (.ref (He.ga K "Web"))
  g__law_amount : mg "_law_amount" = some (.ref (He.ga K "_law_amount"))
  g__law_are_ints : mg "_law_are_ints" = some (.ref (He.ga K "_law_are_ints"))
  g__law_are_signs : mg "_law_are_signs" = some (.ref (He.ga K "_law_are_signs"))
  g__law_asked : mg "_law_asked" = some (.ref (He.ga K "_law_asked"))
  g__law_bent : mg "_law_bent" = some (.ref (He.ga K "_law_bent"))
  g__law_box : mg "_law_box" = some (.ref (He.ga K "_law_box"))
  g__law_cut : mg "_law_cut" = some (.ref (He.ga K "_law_cut"))
  g__law_ends : mg "_law_ends" = some (.ref (He.ga K "_law_ends"))
  g__law_far : mg "_law_far" = some (.ref (He.ga K "_law_far"))
  g__law_fills : mg "_law_fills" = some (.ref (He.ga K "_law_fills"))
  g__law_full : mg "_law_full" = some (.ref (He.ga K "_law_full"))
  g__law_is : mg "_law_is" = some (.ref (He.ga K "_law_is"))
  g__law_norm : mg "_law_norm" = some (.ref (He.ga K "_law_norm"))
  g__law_pick : mg "_law_pick" = some (.ref (He.ga K "_law_pick"))
  g__law_pull : mg "_law_pull" = some (.ref (He.ga K "_law_pull"))
  g__law_rings : mg "_law_rings" = some (.ref (He.ga K "_law_rings"))
  g__law_scales : mg "_law_scales" = some (.ref (He.ga K "_law_scales"))
  g__law_short : mg "_law_short" = some (.ref (He.ga K "_law_short"))
  g__law_sign : mg "_law_sign" = some (.ref (He.ga K "_law_sign"))
  g__law_signs : mg "_law_signs" = some (.ref (He.ga K "_law_signs"))
  g__law_sums : mg "_law_sums" = some (.ref (He.ga K "_law_sums"))
  g__law_take : mg "_law_take" = some (.ref (He.ga K "_law_take"))
  g__law_tie : mg "_law_tie" = some (.ref (He.ga K "_law_tie"))
  g__law_web : mg "_law_web" = some (.ref (He.ga K "_law_web"))
  g__law_with : mg "_law_with" = some (.ref (He.ga K "_law_with"))
  g_are_bounds : mg "are_bounds" = some (.ref (He.ga K "are_bounds"))
  g_ends_at : mg "ends_at" = some (.ref (He.ga K "ends_at"))
  g_fill_holds : mg "fill_holds" = some (.ref (He.ga K "fill_holds"))
  g_filling_holds : mg "filling_holds" = some (.ref (He.ga K "filling_holds"))
  g_fills : mg "fills" = some (.ref (He.ga K "fills"))
  g_is_below : mg "is_below" = some (.ref (He.ga K "is_below"))
  g_is_between : mg "is_between" = some (.ref (He.ga K "is_between"))
  g_is_integer : mg "is_integer" = some (.ref (He.ga K "is_integer"))
  g_is_paper : mg "is_paper" = some (.ref (He.ga K "is_paper"))
  g_is_row : mg "is_row" = some (.ref (He.ga K "is_row"))
  g_is_sequence : mg "is_sequence" = some (.ref (He.ga K "is_sequence"))
  g_is_sign : mg "is_sign" = some (.ref (He.ga K "is_sign"))
  g_is_sign_row : mg "is_sign_row" = some (.ref (He.ga K "is_sign_row"))
  g_is_tie : mg "is_tie" = some (.ref (He.ga K "is_tie"))
  g_is_told_row : mg "is_told_row" = some (.ref (He.ga K "is_told_row"))
  g_most_of : mg "most_of" = some (.ref (He.ga K "most_of"))
  g_need_box : mg "need_box" = some (.ref (He.ga K "need_box"))
  g_need_web : mg "need_web" = some (.ref (He.ga K "need_web"))
  g_pull_at : mg "pull_at" = some (.ref (He.ga K "pull_at"))
  g_shortage_of : mg "shortage_of" = some (.ref (He.ga K "shortage_of"))
  g_signed_total : mg "signed_total" = some (.ref (He.ga K "signed_total"))
  g_signs_show : mg "signs_show" = some (.ref (He.ga K "signs_show"))
  g_told_tie : mg "told_tie" = some (.ref (He.ga K "told_tie"))
  i_MOST_POINTS : ∃ t, mg "MOST_POINTS" = some (.int 1000 t)
  i_MOST_TIES : ∃ t, mg "MOST_TIES" = some (.int 3000 t)
  fi_InvalidWeb : Addr
  x_InvalidWeb : PTX.ExT P K (He.ga K "InvalidWeb") fi_InvalidWeb "at" "at" "no such web"
  fi_InvalidBox : Addr
  x_InvalidBox : PTX.ExT P K (He.ga K "InvalidBox") fi_InvalidBox "at" "at" "no such box"
  fi_InvalidTies : Addr
  x_InvalidTies : PTX.ExT P K (He.ga K "InvalidTies") fi_InvalidTies "at" "at" "no such ties"
  fi_InvalidBounds : Addr
  x_InvalidBounds : PTX.ExT P K (He.ga K "InvalidBounds") fi_InvalidBounds "at" "at" "no such bounds"
  fi_InvalidTotals : Addr
  x_InvalidTotals : PTX.ExT P K (He.ga K "InvalidTotals") fi_InvalidTotals "at" "at" "no such totals"
  fi_InvalidSize : Addr
  x_InvalidSize : PTX.ExT P K (He.ga K "InvalidSize") fi_InvalidSize "word" "word" "no such size"
  cls_Web : Cls K (He.ga K "Web")
  mk_Web : Mk K (He.ga K "Web") (He.ma K (He.ga K "Web") "__init__")
  cls_Box : Cls K (He.ga K "Box")
  mk_Box : Mk K (He.ga K "Box") (He.ma K (He.ga K "Box") "__init__")
  na_Web_points : NoAttr K (He.ga K "Web") "points"
  na_Web_ties : NoAttr K (He.ga K "Web") "ties"
  na_Box_bounds : NoAttr K (He.ga K "Box") "bounds"
  na_Box_totals : NoAttr K (He.ga K "Box") "totals"
  kit : KitOk K kitC kitX
  exm : ∀ c ∈ errsAll, ∀ x ∈ errsAll, PySem.W.exmOne K (.ref (He.ga K c)) (.ref (He.ga K x)) = some (subX c x)
section
variable {P : Program} {w : World} {K : PySem.W.Frag} {mg : Str → Option Value} {base : Heap}
def errs_at : List Str := ["InvalidWeb", "InvalidBox", "InvalidTies", "InvalidBounds", "InvalidTotals"]
theorem Facts.exts_at (F : Facts P K mg) : ∀ c ∈ errs_at, ∃ fI a m, PTX.ExT P K (He.ga K c) fI "at" a m := all_cons ⟨_, _, _, F.x_InvalidWeb⟩ <| all_cons ⟨_, _, _, F.x_InvalidBox⟩ <| all_cons ⟨_, _, _, F.x_InvalidTies⟩ <| all_cons ⟨_, _, _, F.x_InvalidBounds⟩ <| all_cons ⟨_, _, _, F.x_InvalidTotals⟩ <| all_nil
def errs_word : List Str := ["InvalidSize"]
theorem Facts.exts_word (F : Facts P K mg) : ∀ c ∈ errs_word, ∃ fI a m, PTX.ExT P K (He.ga K c) fI "word" a m := all_cons ⟨_, _, _, F.x_InvalidSize⟩ <| all_nil
/-! ### _law_box -/
def t__law_box : FT := ⟨[.d], (.lst .fz)⟩
noncomputable def b__law_box : MS :=
  (sSeq (sPar [1, 2] (aCons (mLst aNil) (aCons (mC (.int 40503)) aNil)))
  (sSeq (sFor (iEnu (aCons (mSl slD (mVar 0) none (some (mC (.int 63)))) aNil)) (.tp [(.nm 3), (.nm 4)]) (sSeq (sSet 5 (mBin addD (mBin mulD (mFn absD (aCons (mVar 4) aNil)) (mC (.int 2))) (mFn intD (aCons (mBin ltD (mVar 4) (mC (.int 0))) aNil))))
  (sSeq (sIf (mBin geD (mFn absD (aCons (mVar 4) aNil)) (mBin powD (mC (.int 10)) (mC (.int 18)))) (sApp 1 (mFn absD (aCons (mVar 4) aNil))) sNil)
  (sSet 2 (mBin addD (mBin modD (mFn intD (aCons (mBin addD (mBin addD (mBin mulD (mVar 2) (mC (.int 48271))) (mBin mulD (mBin modD (mFn intD (aCons (mVar 5) aNil)) (mC (.int 2147483629))) (mBin addD (mBin mulD (mC (.int 2)) (mVar 3)) (mC (.int 69621))))) (mC (.int 11))) aNil)) (mC (.int 2147483629))) (mC (.int 1)))))))
  (sRet (mLst (aCons (mVar 1) (aCons (mVar 2) aNil))))))
noncomputable def f__law_box : List D → RF := runF t__law_box 6 b__law_box
theorem sc__law_box : FnScope ["script", "rest", "state", "k", "cell", "size"] ["script"] (defScope (top 41)) := ⟨rfl, rfl, rfl, by decide +kernel, rfl, by decide +kernel, by decide +kernel⟩
abbrev d__law_box (vs : List V) : Ty := [.ow .fz, .ow (.lst .fz), .ow .fz, .ow .fz, .ow .fz, .ow .fz]
theorem bd__law_box (F : Facts P K mg) : Binds K F.fd__law_box ["script"] [] := F.d__law_box.bindsN fun _ _ _ _ _ _ us hl => match us, hl with | [_], _ => rfl
theorem nx__law_box : ∀ e e2, b__law_box e ≠ .nx e2 := (nx_seq (nx_seq nx_ret))
theorem ok__law_box (F : Facts P K mg) : FnOk P w K mg base (L2.CX P w) 1 (He.ga K "_law_box") F.fd__law_box ["script"] (pM K t__law_box f__law_box) := by
  have sc := sc__law_box
  refine ok_def F.d__law_box sc t__law_box [.ow (.lst .fz), .ow .fz, .ow .fz, .ow .fz, .ow .fz] b__law_box rfl rfl (fun cdv A outer s H vs E hr => ⟨(d__law_box vs).set 1 (.ow .fz), leT_set (inT_out vs (le_any [.ow (.lst .fz), .ow .fz, .ow .fz, .ow .fz, .ow .fz]) 0 t__law_box.ps) rfl, ?_⟩) (.inr nx__law_box)
  have tk : Takes (cxOf (L2.CX P w) P w K mg base ["script", "rest", "state", "k", "cell", "size"] "_law_box" (defScope (top 41)) (He.ga K "_law_box") cdv A outer s H E) (scF t__law_box vs [.ow (.lst .fz), .ow .fz, .ow .fz, .ow .fz, .ow .fz] E).W := takes_of rfl rfl rfl rfl
  have hp : PassesOwn (model P w) (A.deeper (envOfC "_law_box" (defScope (top 41)) s.heap.objs.size (He.ga K "_law_box") cdv)) _ (cxOf (L2.CX P w) P w K mg base ["script", "rest", "state", "k", "cell", "size"] "_law_box" (defScope (top 41)) (He.ga K "_law_box") cdv A outer s H E).xe := PassesOwn.leaving
  have lr : LeT (d__law_box vs) (scF t__law_box vs [.ow (.lst .fz), .ow .fz, .ow .fz, .ow .fz, .ow .fz] E).tr := inT_out vs (le_any [.ow (.lst .fz), .ow .fz, .ow .fz, .ow .fz, .ow .fz]) 0 t__law_box.ps
  exact (s_cons (s_par2 rfl sc.nd rfl rfl  (by decide) rfl rfl  rfl rfl  (o_cons (e_lst (by decide) al_nil a_nil) (o_cons e_int o_nil)) rfl)
  (s_cons (s_for hp rfl (i_enum rfl F.n_enumerate (a_cons (e_slice sl_D rel_sl (e_var rfl rfl (vis_by rfl)) part_none (part_some e_int)) a_nil)) (g_tup rfl rfl (gs_cons (g_name rfl sc.nd rfl (loc_by rfl)) (gs_cons (g_name rfl sc.nd rfl (loc_by rfl)) gs_nil))) (s_cons (s_set rfl sc.nd rfl (loc_by rfl) (e_bin op_addD rel_add (e_bin op_mulD rel_mul (e_callB call_abs rel_abs rfl F.n_abs bb_abs (a_cons (e_var rfl rfl (vis_by rfl)) a_nil)) e_int) (e_callT call_int1 rel_int rfl F.n_int bb_int (a_cons (e_cmp op_lt rel_lt (e_var rfl rfl (vis_by rfl)) e_int (nomark _)) a_nil))))
  (s_cons (s_if (t_cmp op_ge rel_ge (e_callB call_abs rel_abs rfl F.n_abs bb_abs (a_cons (e_var rfl rfl (vis_by rfl)) a_nil)) (e_bin op_pow rel_pow e_int e_int) (nomark _)) (s_one (s_app (.inl rfl) rfl (vis_by rfl) (e_callB call_abs rel_abs rfl F.n_abs bb_abs (a_cons (e_var rfl rfl (vis_by rfl)) a_nil)))) s_nil)
  (s_one (s_set rfl sc.nd rfl (loc_by rfl) (e_bin op_addD rel_add (e_bin op_mod rel_mod (e_callT call_int1 rel_int rfl F.n_int bb_int (a_cons (e_bin op_addD rel_add (e_bin op_addD rel_add (e_bin op_mulD rel_mul (e_var rfl rfl (vis_by rfl)) e_int) (e_bin op_mulD rel_mul (e_bin op_mod rel_mod (e_callT call_int1 rel_int rfl F.n_int bb_int (a_cons (e_var rfl rfl (vis_by rfl)) a_nil)) e_int) (e_bin op_addD rel_add (e_bin op_mulD rel_mul e_int (e_var rfl rfl (vis_by rfl))) e_int))) e_int) a_nil)) e_int) e_int))))))
  (s_frz (i := 1) rfl rfl (s_one (s_ret (leT_set lr rfl) (e_lst (by decide) (al_cons (al_cons al_nil)) (a_cons (e_var rfl rfl (vis_by rfl)) (a_cons (e_var rfl rfl (vis_by rfl)) a_nil))))))))
/-! ### _law_take -/
def t__law_take : FT := ⟨[.o (.lst .fz), .d], .fz⟩
noncomputable def b__law_take : MS :=
  (sSeq (sIf (mBin neD (mOix 0 (mC (.int 0))) (mLst aNil)) (sSeq (sSet 2 (mBin ixD (mOix 0 (mC (.int 0))) (mC (.int 0))))
  (sSeq (sOset 0 (mC (.int 0)) (mBin addD (mIf (mBin geD (mVar 2) (mVar 1)) (mLst (aCons (mBin divD (mVar 2) (mVar 1)) aNil)) (mLst aNil)) (mSl slD (mOix 0 (mC (.int 0))) (some (mC (.int 1))) none)))
  (sRet (mBin modD (mFn intD (aCons (mVar 2) aNil)) (mVar 1))))) sNil)
  (sSeq (sOset 0 (mC (.int 1)) (mBin modD (mFn intD (aCons (mBin mulD (mOix 0 (mC (.int 1))) (mC (.int 48271))) aNil)) (mC (.int 2147483647))))
  (sRet (mBin modD (mFn intD (aCons (mBin divD (mBin addD (mBin mulD (mOix 0 (mC (.int 1))) (mC (.int 69621))) (mC (.int 7))) (mC (.int 1013))) aNil)) (mVar 1)))))
noncomputable def f__law_take : List D → RF := runF t__law_take 3 b__law_take
theorem sc__law_take : FnScope ["box", "many", "cell"] ["box", "many"] (defScope (top 42)) := ⟨rfl, rfl, rfl, by decide +kernel, rfl, by decide +kernel, by decide +kernel⟩
abbrev d__law_take (vs : List V) : Ty := [.pr (.lst .fz) (vs.getD 0 .non), .ow .fz, .ow .fz]
theorem bd__law_take (F : Facts P K mg) : Binds K F.fd__law_take ["box", "many"] [] := F.d__law_take.bindsN fun _ _ _ _ _ _ us hl => match us, hl with | [_, _], _ => rfl
theorem ok__law_take (F : Facts P K mg) : FnOk P w K mg base (L2.CX P w) 1 (He.ga K "_law_take") F.fd__law_take ["box", "many"] (pM K t__law_take f__law_take) := by
  have sc := sc__law_take
  refine ok_def F.d__law_take sc t__law_take [.ow .fz] b__law_take rfl rfl (fun cdv A outer s H vs E hr => ⟨d__law_take vs, inT_out vs (le_any [.ow .fz]) 0 t__law_take.ps, ?_⟩) (.inl rfl)
  have tk : Takes (cxOf (L2.CX P w) P w K mg base ["box", "many", "cell"] "_law_take" (defScope (top 42)) (He.ga K "_law_take") cdv A outer s H E) (scF t__law_take vs [.ow .fz] E).W := takes_of rfl rfl rfl rfl
  have hp : PassesOwn (model P w) (A.deeper (envOfC "_law_take" (defScope (top 42)) s.heap.objs.size (He.ga K "_law_take") cdv)) _ (cxOf (L2.CX P w) P w K mg base ["box", "many", "cell"] "_law_take" (defScope (top 42)) (He.ga K "_law_take") cdv A outer s H E).xe := PassesOwn.leaving
  have lr : LeT (d__law_take vs) (scF t__law_take vs [.ow .fz] E).tr := inT_out vs (le_any [.ow .fz]) 0 t__law_take.ps
  exact (s_cons (s_if (t_cmp (op_neD hr.units) rel_ne (e_rix (.inr (.inr ⟨_, rfl⟩)) rfl (vis_by rfl) e_int fun _ _ => rfl) (e_fz rfl (e_lst (by decide) al_nil a_nil)) (nomark _)) (s_cons (s_set rfl sc.nd rfl (loc_by rfl) (e_ix ix_seq rel_ix (e_rix (.inr (.inr ⟨_, rfl⟩)) rfl (vis_by rfl) e_int fun _ _ => rfl) e_int fun _ _ => rfl))
  (s_cons (s_oset (.inr ⟨_, rfl⟩) rfl (vis_by rfl) e_int (e_bin op_addD rel_add (e_fz rfl (e_if (t_cmp op_ge rel_ge (e_var rfl rfl (vis_by rfl)) (e_var rfl rfl (vis_by rfl)) (nomark _)) (e_lst (by decide) (al_cons al_nil) (a_cons (e_bin op_fdivW rel_div (e_var rfl rfl (vis_by rfl)) (e_var rfl rfl (vis_by rfl))) a_nil)) (e_lst (by decide) al_nil a_nil))) (e_slice sl_D rel_sl (e_rix (.inr (.inr ⟨_, rfl⟩)) rfl (vis_by rfl) e_int fun _ _ => rfl) (part_some e_int) part_none)))
  (s_one (s_ret lr (e_bin op_mod rel_mod (e_callT call_int1 rel_int rfl F.n_int bb_int (a_cons (e_var rfl rfl (vis_by rfl)) a_nil)) (e_var rfl rfl (vis_by rfl))))))) s_nil)
  (s_cons (s_oset (.inr ⟨_, rfl⟩) rfl (vis_by rfl) e_int (e_bin op_mod rel_mod (e_callT call_int1 rel_int rfl F.n_int bb_int (a_cons (e_bin op_mulD rel_mul (e_rix (.inr (.inr ⟨_, rfl⟩)) rfl (vis_by rfl) e_int fun _ _ => rfl) e_int) a_nil)) e_int))
  (s_one (s_ret lr (e_bin op_mod rel_mod (e_callT call_int1 rel_int rfl F.n_int bb_int (a_cons (e_bin op_fdivW rel_div (e_bin op_addD rel_add (e_bin op_mulD rel_mul (e_rix (.inr (.inr ⟨_, rfl⟩)) rfl (vis_by rfl) e_int fun _ _ => rfl) e_int) e_int) e_int) a_nil)) (e_var rfl rfl (vis_by rfl)))))))
/-! ### _law_pick -/
def t__law_pick : FT := ⟨[.o (.lst .fz), .d], .fz⟩
noncomputable def b__law_pick : MS :=
  (sRet (mBin ixD (mVar 1) (mCall f__law_take [(.o 0), (.d (mFn lenD (aCons (mVar 1) aNil)))] [])))
noncomputable def f__law_pick : List D → RF := runF t__law_pick 2 b__law_pick
theorem sc__law_pick : FnScope ["box", "some"] ["box", "some"] (defScope (top 43)) := ⟨rfl, rfl, rfl, by decide +kernel, rfl, by decide +kernel, by decide +kernel⟩
abbrev d__law_pick (vs : List V) : Ty := [.pr (.lst .fz) (vs.getD 0 .non), .ow .fz]
theorem bd__law_pick (F : Facts P K mg) : Binds K F.fd__law_pick ["box", "some"] [] := F.d__law_pick.bindsN fun _ _ _ _ _ _ us hl => match us, hl with | [_, _], _ => rfl
theorem ok__law_pick (F : Facts P K mg) : FnOk P w K mg base (L2.CX P w) 2 (He.ga K "_law_pick") F.fd__law_pick ["box", "some"] (pM K t__law_pick f__law_pick) := by
  have sc := sc__law_pick
  refine ok_def F.d__law_pick sc t__law_pick [] b__law_pick rfl rfl (fun cdv A outer s H vs E hr => ⟨d__law_pick vs, inT_out vs (le_any []) 0 t__law_pick.ps, ?_⟩) (.inl rfl)
  have tk : Takes (cxOf (L2.CX P w) P w K mg base ["box", "some"] "_law_pick" (defScope (top 43)) (He.ga K "_law_pick") cdv A outer s H E) (scF t__law_pick vs [] E).W := takes_of rfl rfl rfl rfl
  have hp : PassesOwn (model P w) (A.deeper (envOfC "_law_pick" (defScope (top 43)) s.heap.objs.size (He.ga K "_law_pick") cdv)) _ (cxOf (L2.CX P w) P w K mg base ["box", "some"] "_law_pick" (defScope (top 43)) (He.ga K "_law_pick") cdv A outer s H E).xe := PassesOwn.leaving
  have lr : LeT (d__law_pick vs) (scF t__law_pick vs [] E).tr := inT_out vs (le_any []) 0 t__law_pick.ps
  exact (s_one (s_ret lr (e_ix ix_seq rel_ix (e_var rfl rfl (vis_by rfl)) (e_call (ps := [.o (.lst .fz), .d]) (dds := []) (ret := .fz) (ks := [(.o 0), (.d (mFn lenD (aCons (mVar 1) aNil)))]) tk ((ok__law_take F).mono (by decide)) hr rfl F.g__law_take F.d__law_take.kp (bd__law_take F) .nil (fun _ => is_nil) lr ⟨rfl, (.inr ⟨_, rfl⟩), trivial, trivial⟩ (k_o rfl rfl (vis_by rfl) (k_d (e_callB call_len rel_len rfl F.n_len bb_len (a_cons (e_var rfl rfl (vis_by rfl)) a_nil)) k_nil))) fun _ _ => rfl)))
/-! ### _law_scales -/
def t__law_scales : FT := ⟨[.o (.lst .fz)], .fz⟩
noncomputable def b__law_scales : MS :=
  (sSeq (sSet 1 (mLst (aCons (mTup (aCons (mC (.int 1)) (aCons (mC (.int 0)) (aCons (mC (.int 3)) aNil)))) (aCons (mTup (aCons (mC (.int 2)) (aCons (mC (.int 4)) (aCons (mC (.int 2)) aNil)))) (aCons (mTup (aCons (mC (.int 3)) (aCons (mC (.int 5)) (aCons (mC (.int 2)) aNil)))) (aCons (mTup (aCons (mC (.int 5)) (aCons (mC (.int 9)) (aCons (mC (.int 3)) aNil)))) (aCons (mTup (aCons (mC (.int 9)) (aCons (mC (.int 15)) (aCons (mC (.int 4)) aNil)))) (aCons (mTup (aCons (mC (.int 24)) (aCons (mC (.int 40)) (aCons (mC (.int 9)) aNil)))) aNil))))))))
  (sRet (mIf (mBin eqD (mCall f__law_take [(.o 0), (.d (mC (.int 12)))] []) (mC (.int 0))) (mTup (aCons (mC (.int 150)) (aCons (mC (.int 300)) (aCons (mC (.int 60)) aNil)))) (mCall f__law_pick [(.o 0), (.d (mVar 1))] []))))
noncomputable def f__law_scales : List D → RF := runF t__law_scales 2 b__law_scales
theorem sc__law_scales : FnScope ["box", "few"] ["box"] (defScope (top 60)) := ⟨rfl, rfl, rfl, by decide +kernel, rfl, by decide +kernel, by decide +kernel⟩
abbrev d__law_scales (vs : List V) : Ty := [.pr (.lst .fz) (vs.getD 0 .non), .ow .fz]
theorem bd__law_scales (F : Facts P K mg) : Binds K F.fd__law_scales ["box"] [] := F.d__law_scales.bindsN fun _ _ _ _ _ _ us hl => match us, hl with | [_], _ => rfl
theorem ok__law_scales (F : Facts P K mg) : FnOk P w K mg base (L2.CX P w) 3 (He.ga K "_law_scales") F.fd__law_scales ["box"] (pM K t__law_scales f__law_scales) := by
  have sc := sc__law_scales
  refine ok_def F.d__law_scales sc t__law_scales [.ow .fz] b__law_scales rfl rfl (fun cdv A outer s H vs E hr => ⟨d__law_scales vs, inT_out vs (le_any [.ow .fz]) 0 t__law_scales.ps, ?_⟩) (.inl rfl)
  have tk : Takes (cxOf (L2.CX P w) P w K mg base ["box", "few"] "_law_scales" (defScope (top 60)) (He.ga K "_law_scales") cdv A outer s H E) (scF t__law_scales vs [.ow .fz] E).W := takes_of rfl rfl rfl rfl
  have hp : PassesOwn (model P w) (A.deeper (envOfC "_law_scales" (defScope (top 60)) s.heap.objs.size (He.ga K "_law_scales") cdv)) _ (cxOf (L2.CX P w) P w K mg base ["box", "few"] "_law_scales" (defScope (top 60)) (He.ga K "_law_scales") cdv A outer s H E).xe := PassesOwn.leaving
  have lr : LeT (d__law_scales vs) (scF t__law_scales vs [.ow .fz] E).tr := inT_out vs (le_any [.ow .fz]) 0 t__law_scales.ps
  exact (s_cons (s_set rfl sc.nd rfl (loc_by rfl) (e_fz rfl (e_lst (by decide) (al_cons (al_cons (al_cons (al_cons (al_cons (al_cons al_nil)))))) (a_cons (e_tup (by decide) (al_cons (al_cons (al_cons al_nil))) (a_cons e_int (a_cons e_int (a_cons e_int a_nil)))) (a_cons (e_tup (by decide) (al_cons (al_cons (al_cons al_nil))) (a_cons e_int (a_cons e_int (a_cons e_int a_nil)))) (a_cons (e_tup (by decide) (al_cons (al_cons (al_cons al_nil))) (a_cons e_int (a_cons e_int (a_cons e_int a_nil)))) (a_cons (e_tup (by decide) (al_cons (al_cons (al_cons al_nil))) (a_cons e_int (a_cons e_int (a_cons e_int a_nil)))) (a_cons (e_tup (by decide) (al_cons (al_cons (al_cons al_nil))) (a_cons e_int (a_cons e_int (a_cons e_int a_nil)))) (a_cons (e_tup (by decide) (al_cons (al_cons (al_cons al_nil))) (a_cons e_int (a_cons e_int (a_cons e_int a_nil)))) a_nil)))))))))
  (s_one (s_ret lr (e_if (t_cmp (op_eqD hr.units) rel_eq (e_call (ps := [.o (.lst .fz), .d]) (dds := []) (ret := .fz) (ks := [(.o 0), (.d (mC (.int 12)))]) tk ((ok__law_take F).mono (by decide)) hr rfl F.g__law_take F.d__law_take.kp (bd__law_take F) .nil (fun _ => is_nil) lr ⟨rfl, (.inr ⟨_, rfl⟩), trivial, trivial⟩ (k_o rfl rfl (vis_by rfl) (k_d e_int k_nil))) e_int (nomark _)) (e_tup (by decide) (al_cons (al_cons (al_cons al_nil))) (a_cons e_int (a_cons e_int (a_cons e_int a_nil)))) (e_call (ps := [.o (.lst .fz), .d]) (dds := []) (ret := .fz) (ks := [(.o 0), (.d (mVar 1))]) tk ((ok__law_pick F).mono (by decide)) hr rfl F.g__law_pick F.d__law_pick.kp (bd__law_pick F) .nil (fun _ => is_nil) lr ⟨rfl, (.inr ⟨_, rfl⟩), trivial, trivial⟩ (k_o rfl rfl (vis_by rfl) (k_d (e_var rfl rfl (vis_by rfl)) k_nil)))))))
/-! ### _law_sign -/
def t__law_sign : FT := ⟨[.o (.lst .fz)], .fz⟩
noncomputable def b__law_sign : MS :=
  (sRet (mBin subD (mC (.int 1)) (mBin mulD (mC (.int 2)) (mCall f__law_take [(.o 0), (.d (mC (.int 2)))] []))))
noncomputable def f__law_sign : List D → RF := runF t__law_sign 1 b__law_sign
theorem sc__law_sign : FnScope ["box"] ["box"] (defScope (top 46)) := ⟨rfl, rfl, rfl, by decide +kernel, rfl, by decide +kernel, by decide +kernel⟩
abbrev d__law_sign (vs : List V) : Ty := [.pr (.lst .fz) (vs.getD 0 .non)]
theorem bd__law_sign (F : Facts P K mg) : Binds K F.fd__law_sign ["box"] [] := F.d__law_sign.bindsN fun _ _ _ _ _ _ us hl => match us, hl with | [_], _ => rfl
theorem ok__law_sign (F : Facts P K mg) : FnOk P w K mg base (L2.CX P w) 2 (He.ga K "_law_sign") F.fd__law_sign ["box"] (pM K t__law_sign f__law_sign) := by
  have sc := sc__law_sign
  refine ok_def F.d__law_sign sc t__law_sign [] b__law_sign rfl rfl (fun cdv A outer s H vs E hr => ⟨d__law_sign vs, inT_out vs (le_any []) 0 t__law_sign.ps, ?_⟩) (.inl rfl)
  have tk : Takes (cxOf (L2.CX P w) P w K mg base ["box"] "_law_sign" (defScope (top 46)) (He.ga K "_law_sign") cdv A outer s H E) (scF t__law_sign vs [] E).W := takes_of rfl rfl rfl rfl
  have hp : PassesOwn (model P w) (A.deeper (envOfC "_law_sign" (defScope (top 46)) s.heap.objs.size (He.ga K "_law_sign") cdv)) _ (cxOf (L2.CX P w) P w K mg base ["box"] "_law_sign" (defScope (top 46)) (He.ga K "_law_sign") cdv A outer s H E).xe := PassesOwn.leaving
  have lr : LeT (d__law_sign vs) (scF t__law_sign vs [] E).tr := inT_out vs (le_any []) 0 t__law_sign.ps
  exact (s_one (s_ret lr (e_bin op_sub rel_sub e_int (e_bin op_mulD rel_mul e_int (e_call (ps := [.o (.lst .fz), .d]) (dds := []) (ret := .fz) (ks := [(.o 0), (.d (mC (.int 2)))]) tk ((ok__law_take F).mono (by decide)) hr rfl F.g__law_take F.d__law_take.kp (bd__law_take F) .nil (fun _ => is_nil) lr ⟨rfl, (.inr ⟨_, rfl⟩), trivial, trivial⟩ (k_o rfl rfl (vis_by rfl) (k_d e_int k_nil)))))))
/-! ### _law_rings -/
def t__law_rings : FT := ⟨[.o (.lst .fz), .d, .d], (.lst .fz)⟩
noncomputable def b__law_rings : MS :=
  (sSeq (sSet 3 (mLst aNil))
  (sSeq (sFor (iRange1 (aCons (mIf (mBin gtD (mVar 1) (mC (.int 1))) (mVar 2) (mC (.int 0))) aNil)) (.nm 4) (sSeq (sPar [5, 6] (aCons (mCall f__law_take [(.o 0), (.d (mVar 1))] []) (aCons (mBin addD (mC (.int 2)) (mCall f__law_take [(.o 0), (.d (mBin subD (mFn min2D (aCons (mVar 1) (aCons (mC (.int 8)) aNil))) (mC (.int 1))))] [])) aNil)))
  (sForget 9 (sSeq (sPar [8, 9] (aCons (mLc (iRange1 (aCons (mVar 6) aNil)) (.nm 7) (mC (.bl true)) (mBin modD (mFn intD (aCons (mBin addD (mVar 5) (mVar 7)) aNil)) (mVar 1)) [7]) (aCons (mLst aNil) aNil)))
  (sSeq (sFor (iRange1 (aCons (mVar 6) aNil)) (.nm 7) (sApp 9 (mTup (aCons (mBin ixD (mVar 8) (mVar 7)) (aCons (mCall f__law_sign [(.o 0)] []) (aCons (mBin ixD (mVar 8) (mBin modD (mFn intD (aCons (mBin addD (mVar 7) (mC (.int 1))) aNil)) (mVar 6))) (aCons (mCall f__law_sign [(.o 0)] []) aNil)))))))
  (sApp 3 (mVar 9)))))))
  (sRet (mVar 3))))
noncomputable def f__law_rings : List D → RF := runF t__law_rings 10 b__law_rings
theorem sc__law_rings : FnScope ["box", "points", "many", "rings", "turn", "start", "length", "k", "row", "ring"] ["box", "points", "many"] (defScope (top 51)) := ⟨rfl, rfl, rfl, by decide +kernel, rfl, by decide +kernel, by decide +kernel⟩
abbrev d__law_rings (vs : List V) : Ty := [.pr (.lst .fz) (vs.getD 0 .non), .ow .fz, .ow .fz, .ow (.lst .fz), .ow .fz, .ow .fz, .ow .fz, .ow .fz, .ow .fz, .ow .fz]
theorem bd__law_rings (F : Facts P K mg) : Binds K F.fd__law_rings ["box", "points", "many"] [] := F.d__law_rings.bindsN fun _ _ _ _ _ _ us hl => match us, hl with | [_, _, _], _ => rfl
theorem nx__law_rings : ∀ e e2, b__law_rings e ≠ .nx e2 := (nx_seq (nx_seq nx_ret))
theorem ok__law_rings (F : Facts P K mg) : FnOk P w K mg base (L2.CX P w) 3 (He.ga K "_law_rings") F.fd__law_rings ["box", "points", "many"] (pM K t__law_rings f__law_rings) := by
  have sc := sc__law_rings
  refine ok_def F.d__law_rings sc t__law_rings [.ow (.lst .fz), .ow .fz, .ow .fz, .ow .fz, .ow .fz, .ow .fz, .ow .fz] b__law_rings rfl rfl (fun cdv A outer s H vs E hr => ⟨d__law_rings vs, inT_out vs (le_any [.ow (.lst .fz), .ow .fz, .ow .fz, .ow .fz, .ow .fz, .ow .fz, .ow .fz]) 0 t__law_rings.ps, ?_⟩) (.inr nx__law_rings)
  have tk : Takes (cxOf (L2.CX P w) P w K mg base ["box", "points", "many", "rings", "turn", "start", "length", "k", "row", "ring"] "_law_rings" (defScope (top 51)) (He.ga K "_law_rings") cdv A outer s H E) (scF t__law_rings vs [.ow (.lst .fz), .ow .fz, .ow .fz, .ow .fz, .ow .fz, .ow .fz, .ow .fz] E).W := takes_of rfl rfl rfl rfl
  have hp : PassesOwn (model P w) (A.deeper (envOfC "_law_rings" (defScope (top 51)) s.heap.objs.size (He.ga K "_law_rings") cdv)) _ (cxOf (L2.CX P w) P w K mg base ["box", "points", "many", "rings", "turn", "start", "length", "k", "row", "ring"] "_law_rings" (defScope (top 51)) (He.ga K "_law_rings") cdv A outer s H E).xe := PassesOwn.leaving
  have lr : LeT (d__law_rings vs) (scF t__law_rings vs [.ow (.lst .fz), .ow .fz, .ow .fz, .ow .fz, .ow .fz, .ow .fz, .ow .fz] E).tr := inT_out vs (le_any [.ow (.lst .fz), .ow .fz, .ow .fz, .ow .fz, .ow .fz, .ow .fz, .ow .fz]) 0 t__law_rings.ps
  exact (s_cons (s_set rfl sc.nd rfl (loc_by rfl) (e_lst (by decide) al_nil a_nil))
  (s_cons (s_for hp rfl (i_range1 rfl F.n_range (a_cons (e_if (t_cmp op_gt rel_gt (e_var rfl rfl (vis_by rfl)) e_int (nomark _)) (e_var rfl rfl (vis_by rfl)) e_int) a_nil)) (g_name rfl sc.nd rfl (loc_by rfl)) (s_cons (s_parT (os := [.fz, .fz]) rfl ⟨rfl, ⟨rfl, trivial⟩⟩ (by decide) (ga_cons sc.nd rfl (loc_by rfl) (ga_cons sc.nd rfl (loc_by rfl) ga_nil)) (o_cons (e_call (ps := [.o (.lst .fz), .d]) (dds := []) (ret := .fz) (ks := [(.o 0), (.d (mVar 1))]) tk ((ok__law_take F).mono (by decide)) hr rfl F.g__law_take F.d__law_take.kp (bd__law_take F) .nil (fun _ => is_nil) lr ⟨rfl, (.inr ⟨_, rfl⟩), trivial, trivial⟩ (k_o rfl rfl (vis_by rfl) (k_d (e_var rfl rfl (vis_by rfl)) k_nil))) (o_cons (e_bin op_addD rel_add e_int (e_call (ps := [.o (.lst .fz), .d]) (dds := []) (ret := .fz) (ks := [(.o 0), (.d (mBin subD (mFn min2D (aCons (mVar 1) (aCons (mC (.int 8)) aNil))) (mC (.int 1))))]) tk ((ok__law_take F).mono (by decide)) hr rfl F.g__law_take F.d__law_take.kp (bd__law_take F) .nil (fun _ => is_nil) lr ⟨rfl, (.inr ⟨_, rfl⟩), trivial, trivial⟩ (k_o rfl rfl (vis_by rfl) (k_d (e_bin op_sub rel_sub (e_callB (call_min2 rfl) rel_min2 rfl F.n_min bb_min (a_cons (e_var rfl rfl (vis_by rfl)) (a_cons e_int a_nil))) e_int) k_nil)))) o_nil)))
  (s_forget (i := 9) (s' := .ow (.lst .fz)) (s_cons (s_par2 rfl sc.nd rfl rfl  (by decide) rfl rfl  rfl rfl  (o_cons (e_fz rfl (e_lc rfl sc.nd (i_range1 rfl F.n_range (a_cons (e_var rfl rfl (vis_by rfl)) a_nil)) (own := [("k", 7)]) (blkOk_by (by kernel_rfl)) (allFz ⟨rfl, trivial⟩) (by decide) (fun _ _ _ _ _ => (g_name rfl sc.nd rfl (loc_by rfl))) (fun _ _ _ _ _ => t_yes) (fun _ _ _ _ _ => (e_bin op_mod rel_mod (e_callT call_int1 rel_int rfl F.n_int bb_int (a_cons (e_bin op_addD rel_add (e_var rfl rfl (vis_by rfl)) (e_var rfl rfl (vis_by rfl))) a_nil)) (e_var rfl rfl (vis_by rfl)))))) (o_cons (e_lst (by decide) al_nil a_nil) o_nil)) rfl)
  (s_cons (s_for hp rfl (i_range1 rfl F.n_range (a_cons (e_var rfl rfl (vis_by rfl)) a_nil)) (g_name rfl sc.nd rfl (loc_by rfl)) (s_one (s_app (.inl rfl) rfl (vis_by rfl) (e_tup (by decide) (al_cons (al_cons (al_cons (al_cons al_nil)))) (a_cons (e_ix ix_seq rel_ix (e_var rfl rfl (vis_by rfl)) (e_var rfl rfl (vis_by rfl)) fun _ _ => rfl) (a_cons (e_call (ps := [.o (.lst .fz)]) (dds := []) (ret := .fz) (ks := [(.o 0)]) tk ((ok__law_sign F).mono (by decide)) hr rfl F.g__law_sign F.d__law_sign.kp (bd__law_sign F) .nil (fun _ => is_nil) (leT_set lr rfl) ⟨rfl, (.inr ⟨_, rfl⟩), trivial, trivial⟩ (k_o rfl rfl (vis_by rfl) k_nil)) (a_cons (e_ix ix_seq rel_ix (e_var rfl rfl (vis_by rfl)) (e_bin op_mod rel_mod (e_callT call_int1 rel_int rfl F.n_int bb_int (a_cons (e_bin op_addD rel_add (e_var rfl rfl (vis_by rfl)) e_int) a_nil)) (e_var rfl rfl (vis_by rfl))) fun _ _ => rfl) (a_cons (e_call (ps := [.o (.lst .fz)]) (dds := []) (ret := .fz) (ks := [(.o 0)]) tk ((ok__law_sign F).mono (by decide)) hr rfl F.g__law_sign F.d__law_sign.kp (bd__law_sign F) .nil (fun _ => is_nil) (leT_set lr rfl) ⟨rfl, (.inr ⟨_, rfl⟩), trivial, trivial⟩ (k_o rfl rfl (vis_by rfl) k_nil)) a_nil))))))))
  (s_frz (i := 9) rfl rfl (s_one (s_app (.inl rfl) rfl (vis_by rfl) (e_var rfl rfl (vis_by rfl))))))))))
  (s_one (s_retO rfl rfl lr rfl rfl (vis_by rfl)))))
/-! ### _law_tie -/
def t__law_tie : FT := ⟨[.o (.lst .fz), .d, .d, .d], .fz⟩
noncomputable def b__law_tie : MS :=
  (sSeq (sPar [4, 5] (aCons (mCall f__law_take [(.o 0), (.d (mVar 1))] []) (aCons (mCall f__law_sign [(.o 0)] []) aNil)))
  (sSeq (sSet 6 (mBin modD (mFn intD (aCons (mBin addD (mBin addD (mVar 4) (mC (.int 1))) (mCall f__law_take [(.o 0), (.d (mVar 2))] [])) aNil)) (mVar 1)))
  (sRet (mTup (aCons (mVar 4) (aCons (mVar 5) (aCons (mVar 6) (aCons (mIf (mBin geD (mCall f__law_take [(.o 0), (.d (mC (.int 4)))] []) (mVar 3)) (mVar 5) (mUn negD (mVar 5))) aNil))))))))
noncomputable def f__law_tie : List D → RF := runF t__law_tie 7 b__law_tie
theorem sc__law_tie : FnScope ["box", "points", "near", "even", "one", "sign", "other"] ["box", "points", "near", "even"] (defScope (top 49)) := ⟨rfl, rfl, rfl, by decide +kernel, rfl, by decide +kernel, by decide +kernel⟩
abbrev d__law_tie (vs : List V) : Ty := [.pr (.lst .fz) (vs.getD 0 .non), .ow .fz, .ow .fz, .ow .fz, .ow .fz, .ow .fz, .ow .fz]
theorem bd__law_tie (F : Facts P K mg) : Binds K F.fd__law_tie ["box", "points", "near", "even"] [] := F.d__law_tie.bindsN fun _ _ _ _ _ _ us hl => match us, hl with | [_, _, _, _], _ => rfl
theorem ok__law_tie (F : Facts P K mg) : FnOk P w K mg base (L2.CX P w) 3 (He.ga K "_law_tie") F.fd__law_tie ["box", "points", "near", "even"] (pM K t__law_tie f__law_tie) := by
  have sc := sc__law_tie
  refine ok_def F.d__law_tie sc t__law_tie [.ow .fz, .ow .fz, .ow .fz] b__law_tie rfl rfl (fun cdv A outer s H vs E hr => ⟨d__law_tie vs, inT_out vs (le_any [.ow .fz, .ow .fz, .ow .fz]) 0 t__law_tie.ps, ?_⟩) (.inl rfl)
  have tk : Takes (cxOf (L2.CX P w) P w K mg base ["box", "points", "near", "even", "one", "sign", "other"] "_law_tie" (defScope (top 49)) (He.ga K "_law_tie") cdv A outer s H E) (scF t__law_tie vs [.ow .fz, .ow .fz, .ow .fz] E).W := takes_of rfl rfl rfl rfl
  have hp : PassesOwn (model P w) (A.deeper (envOfC "_law_tie" (defScope (top 49)) s.heap.objs.size (He.ga K "_law_tie") cdv)) _ (cxOf (L2.CX P w) P w K mg base ["box", "points", "near", "even", "one", "sign", "other"] "_law_tie" (defScope (top 49)) (He.ga K "_law_tie") cdv A outer s H E).xe := PassesOwn.leaving
  have lr : LeT (d__law_tie vs) (scF t__law_tie vs [.ow .fz, .ow .fz, .ow .fz] E).tr := inT_out vs (le_any [.ow .fz, .ow .fz, .ow .fz]) 0 t__law_tie.ps
  exact (s_cons (s_par2 rfl sc.nd rfl rfl  (by decide) rfl rfl  rfl rfl  (o_cons (e_call (ps := [.o (.lst .fz), .d]) (dds := []) (ret := .fz) (ks := [(.o 0), (.d (mVar 1))]) tk ((ok__law_take F).mono (by decide)) hr rfl F.g__law_take F.d__law_take.kp (bd__law_take F) .nil (fun _ => is_nil) lr ⟨rfl, (.inr ⟨_, rfl⟩), trivial, trivial⟩ (k_o rfl rfl (vis_by rfl) (k_d (e_var rfl rfl (vis_by rfl)) k_nil))) (o_cons (e_call (ps := [.o (.lst .fz)]) (dds := []) (ret := .fz) (ks := [(.o 0)]) tk ((ok__law_sign F).mono (by decide)) hr rfl F.g__law_sign F.d__law_sign.kp (bd__law_sign F) .nil (fun _ => is_nil) lr ⟨rfl, (.inr ⟨_, rfl⟩), trivial, trivial⟩ (k_o rfl rfl (vis_by rfl) k_nil)) o_nil)) rfl)
  (s_cons (s_set rfl sc.nd rfl (loc_by rfl) (e_bin op_mod rel_mod (e_callT call_int1 rel_int rfl F.n_int bb_int (a_cons (e_bin op_addD rel_add (e_bin op_addD rel_add (e_var rfl rfl (vis_by rfl)) e_int) (e_call (ps := [.o (.lst .fz), .d]) (dds := []) (ret := .fz) (ks := [(.o 0), (.d (mVar 2))]) tk ((ok__law_take F).mono (by decide)) hr rfl F.g__law_take F.d__law_take.kp (bd__law_take F) .nil (fun _ => is_nil) lr ⟨rfl, (.inr ⟨_, rfl⟩), trivial, trivial⟩ (k_o rfl rfl (vis_by rfl) (k_d (e_var rfl rfl (vis_by rfl)) k_nil)))) a_nil)) (e_var rfl rfl (vis_by rfl))))
  (s_one (s_ret lr (e_tup (by decide) (al_cons (al_cons (al_cons (al_cons al_nil)))) (a_cons (e_var rfl rfl (vis_by rfl)) (a_cons (e_var rfl rfl (vis_by rfl)) (a_cons (e_var rfl rfl (vis_by rfl)) (a_cons (e_if (t_cmp op_ge rel_ge (e_call (ps := [.o (.lst .fz), .d]) (dds := []) (ret := .fz) (ks := [(.o 0), (.d (mC (.int 4)))]) tk ((ok__law_take F).mono (by decide)) hr rfl F.g__law_take F.d__law_take.kp (bd__law_take F) .nil (fun _ => is_nil) lr ⟨rfl, (.inr ⟨_, rfl⟩), trivial, trivial⟩ (k_o rfl rfl (vis_by rfl) (k_d e_int k_nil))) (e_var rfl rfl (vis_by rfl)) (nomark _)) (e_var rfl rfl (vis_by rfl)) (e_un un_neg rel_neg (e_var rfl rfl (vis_by rfl)))) a_nil)))))))))
/-! ### _law_web -/
def t__law_web : FT := ⟨[.o (.lst .fz), .d, .d, .d], (.lst .fz)⟩
noncomputable def b__law_web : MS :=
  (sSeq (sPar [4, 5, 6] (aCons (mLst aNil) (aCons (mBin addD (mC (.int 1)) (mCall f__law_take [(.o 0), (.d (mFn max2D (aCons (mC (.int 1)) (aCons (mBin subD (mVar 1) (mC (.int 1))) aNil))))] [])) (aCons (mCall f__law_take [(.o 0), (.d (mC (.int 5)))] []) aNil))))
  (sSeq (sSet 7 (mLst (aCons (mIf (mBin gtD (mVar 1) (mC (.int 1))) (mVar 2) (mC (.int 0))) (aCons (mVar 3) aNil))))
  (sSeq (sFor (iRange1 (aCons (mBin addD (mOix 7 (mC (.int 0))) (mOix 7 (mC (.int 1)))) aNil)) (.nm 8) (sIf (mBin ltD (mCall f__law_take [(.o 0), (.d (mBin addD (mOix 7 (mC (.int 0))) (mOix 7 (mC (.int 1)))))] []) (mOix 7 (mC (.int 1)))) (sSeq (sApp 4 (mTup (aCons (mCall f__law_take [(.o 0), (.d (mVar 1))] []) (aCons (mCall f__law_sign [(.o 0)] []) aNil))))
  (sOset 7 (mC (.int 1)) (mBin subD (mOix 7 (mC (.int 1))) (mC (.int 1))))) (sSeq (sApp 4 (mCall f__law_tie [(.o 0), (.d (mVar 1)), (.d (mVar 5)), (.d (mVar 6))] []))
  (sOset 7 (mC (.int 0)) (mBin subD (mOix 7 (mC (.int 0))) (mC (.int 1)))))))
  (sRet (mVar 4)))))
noncomputable def f__law_web : List D → RF := runF t__law_web 9 b__law_web
theorem sc__law_web : FnScope ["box", "points", "twos", "loose", "ties", "near", "even", "left", "turn"] ["box", "points", "twos", "loose"] (defScope (top 50)) := ⟨rfl, rfl, rfl, by decide +kernel, rfl, by decide +kernel, by decide +kernel⟩
abbrev d__law_web (vs : List V) : Ty := [.pr (.lst .fz) (vs.getD 0 .non), .ow .fz, .ow .fz, .ow .fz, .ow (.lst .fz), .ow .fz, .ow .fz, .ow (.lst .fz), .ow .fz]
theorem bd__law_web (F : Facts P K mg) : Binds K F.fd__law_web ["box", "points", "twos", "loose"] [] := F.d__law_web.bindsN fun _ _ _ _ _ _ us hl => match us, hl with | [_, _, _, _], _ => rfl
theorem nx__law_web : ∀ e e2, b__law_web e ≠ .nx e2 := (nx_seq (nx_seq (nx_seq nx_ret)))
theorem ok__law_web (F : Facts P K mg) : FnOk P w K mg base (L2.CX P w) 4 (He.ga K "_law_web") F.fd__law_web ["box", "points", "twos", "loose"] (pM K t__law_web f__law_web) := by
  have sc := sc__law_web
  refine ok_def F.d__law_web sc t__law_web [.ow (.lst .fz), .ow .fz, .ow .fz, .ow (.lst .fz), .ow .fz] b__law_web rfl rfl (fun cdv A outer s H vs E hr => ⟨d__law_web vs, inT_out vs (le_any [.ow (.lst .fz), .ow .fz, .ow .fz, .ow (.lst .fz), .ow .fz]) 0 t__law_web.ps, ?_⟩) (.inr nx__law_web)
  have tk : Takes (cxOf (L2.CX P w) P w K mg base ["box", "points", "twos", "loose", "ties", "near", "even", "left", "turn"] "_law_web" (defScope (top 50)) (He.ga K "_law_web") cdv A outer s H E) (scF t__law_web vs [.ow (.lst .fz), .ow .fz, .ow .fz, .ow (.lst .fz), .ow .fz] E).W := takes_of rfl rfl rfl rfl
  have hp : PassesOwn (model P w) (A.deeper (envOfC "_law_web" (defScope (top 50)) s.heap.objs.size (He.ga K "_law_web") cdv)) _ (cxOf (L2.CX P w) P w K mg base ["box", "points", "twos", "loose", "ties", "near", "even", "left", "turn"] "_law_web" (defScope (top 50)) (He.ga K "_law_web") cdv A outer s H E).xe := PassesOwn.leaving
  have lr : LeT (d__law_web vs) (scF t__law_web vs [.ow (.lst .fz), .ow .fz, .ow .fz, .ow (.lst .fz), .ow .fz] E).tr := inT_out vs (le_any [.ow (.lst .fz), .ow .fz, .ow .fz, .ow (.lst .fz), .ow .fz]) 0 t__law_web.ps
  exact (s_cons (s_par3 rfl sc.nd rfl rfl rfl  (by decide) (by decide) (by decide) rfl rfl rfl  rfl rfl rfl  (o_cons (e_lst (by decide) al_nil a_nil) (o_cons (e_bin op_addD rel_add e_int (e_call (ps := [.o (.lst .fz), .d]) (dds := []) (ret := .fz) (ks := [(.o 0), (.d (mFn max2D (aCons (mC (.int 1)) (aCons (mBin subD (mVar 1) (mC (.int 1))) aNil))))]) tk ((ok__law_take F).mono (by decide)) hr rfl F.g__law_take F.d__law_take.kp (bd__law_take F) .nil (fun _ => is_nil) lr ⟨rfl, (.inr ⟨_, rfl⟩), trivial, trivial⟩ (k_o rfl rfl (vis_by rfl) (k_d (e_callB (call_max2 rfl) rel_max2 rfl F.n_max bb_max (a_cons e_int (a_cons (e_bin op_sub rel_sub (e_var rfl rfl (vis_by rfl)) e_int) a_nil))) k_nil)))) (o_cons (e_call (ps := [.o (.lst .fz), .d]) (dds := []) (ret := .fz) (ks := [(.o 0), (.d (mC (.int 5)))]) tk ((ok__law_take F).mono (by decide)) hr rfl F.g__law_take F.d__law_take.kp (bd__law_take F) .nil (fun _ => is_nil) lr ⟨rfl, (.inr ⟨_, rfl⟩), trivial, trivial⟩ (k_o rfl rfl (vis_by rfl) (k_d e_int k_nil))) o_nil))) rfl)
  (s_cons (s_set rfl sc.nd rfl (loc_by rfl) (e_lst (by decide) (al_cons (al_cons al_nil)) (a_cons (e_if (t_cmp op_gt rel_gt (e_var rfl rfl (vis_by rfl)) e_int (nomark _)) (e_var rfl rfl (vis_by rfl)) e_int) (a_cons (e_var rfl rfl (vis_by rfl)) a_nil))))
  (s_cons (s_for hp rfl (i_range1 rfl F.n_range (a_cons (e_bin op_addD rel_add (e_rix (.inl rfl) rfl (vis_by rfl) e_int fun _ _ => rfl) (e_rix (.inl rfl) rfl (vis_by rfl) e_int fun _ _ => rfl)) a_nil)) (g_name rfl sc.nd rfl (loc_by rfl)) (s_one (s_if (t_cmp op_lt rel_lt (e_call (ps := [.o (.lst .fz), .d]) (dds := []) (ret := .fz) (ks := [(.o 0), (.d (mBin addD (mOix 7 (mC (.int 0))) (mOix 7 (mC (.int 1)))))]) tk ((ok__law_take F).mono (by decide)) hr rfl F.g__law_take F.d__law_take.kp (bd__law_take F) .nil (fun _ => is_nil) lr ⟨rfl, (.inr ⟨_, rfl⟩), trivial, trivial⟩ (k_o rfl rfl (vis_by rfl) (k_d (e_bin op_addD rel_add (e_rix (.inl rfl) rfl (vis_by rfl) e_int fun _ _ => rfl) (e_rix (.inl rfl) rfl (vis_by rfl) e_int fun _ _ => rfl)) k_nil))) (e_rix (.inl rfl) rfl (vis_by rfl) e_int fun _ _ => rfl) (nomark _)) (s_cons (s_app (.inl rfl) rfl (vis_by rfl) (e_tup (by decide) (al_cons (al_cons al_nil)) (a_cons (e_call (ps := [.o (.lst .fz), .d]) (dds := []) (ret := .fz) (ks := [(.o 0), (.d (mVar 1))]) tk ((ok__law_take F).mono (by decide)) hr rfl F.g__law_take F.d__law_take.kp (bd__law_take F) .nil (fun _ => is_nil) lr ⟨rfl, (.inr ⟨_, rfl⟩), trivial, trivial⟩ (k_o rfl rfl (vis_by rfl) (k_d (e_var rfl rfl (vis_by rfl)) k_nil))) (a_cons (e_call (ps := [.o (.lst .fz)]) (dds := []) (ret := .fz) (ks := [(.o 0)]) tk ((ok__law_sign F).mono (by decide)) hr rfl F.g__law_sign F.d__law_sign.kp (bd__law_sign F) .nil (fun _ => is_nil) lr ⟨rfl, (.inr ⟨_, rfl⟩), trivial, trivial⟩ (k_o rfl rfl (vis_by rfl) k_nil)) a_nil))))
  (s_one (s_oset (.inl rfl) rfl (vis_by rfl) e_int (e_bin op_sub rel_sub (e_rix (.inl rfl) rfl (vis_by rfl) e_int fun _ _ => rfl) e_int)))) (s_cons (s_app (.inl rfl) rfl (vis_by rfl) (e_call (ps := [.o (.lst .fz), .d, .d, .d]) (dds := []) (ret := .fz) (ks := [(.o 0), (.d (mVar 1)), (.d (mVar 5)), (.d (mVar 6))]) tk ((ok__law_tie F).mono (by decide)) hr rfl F.g__law_tie F.d__law_tie.kp (bd__law_tie F) .nil (fun _ => is_nil) lr ⟨rfl, (.inr ⟨_, rfl⟩), trivial, trivial⟩ (k_o rfl rfl (vis_by rfl) (k_d (e_var rfl rfl (vis_by rfl)) (k_d (e_var rfl rfl (vis_by rfl)) (k_d (e_var rfl rfl (vis_by rfl)) k_nil))))))
  (s_one (s_oset (.inl rfl) rfl (vis_by rfl) e_int (e_bin op_sub rel_sub (e_rix (.inl rfl) rfl (vis_by rfl) e_int fun _ _ => rfl) e_int)))))))
  (s_one (s_retO rfl rfl lr rfl rfl (vis_by rfl))))))
/-! ### _law_far -/
def t__law_far : FT := ⟨[.o (.lst .fz), .d], .fz⟩
noncomputable def b__law_far : MS :=
  (sSeq (sSet 2 (mBin addD (mBin mulD (mBin addD (mBin mulD (mCall f__law_take [(.o 0), (.d (mBin powD (mC (.int 10)) (mC (.int 9))))] []) (mBin powD (mC (.int 10)) (mC (.int 9)))) (mCall f__law_take [(.o 0), (.d (mBin powD (mC (.int 10)) (mC (.int 9))))] [])) (mC (.int 4))) (mCall f__law_take [(.o 0), (.d (mC (.int 4)))] [])))
  (sRet (mBin subD (mBin modD (mFn intD (aCons (mVar 2) aNil)) (mBin addD (mBin mulD (mC (.int 2)) (mVar 1)) (mC (.int 1)))) (mVar 1))))
noncomputable def f__law_far : List D → RF := runF t__law_far 3 b__law_far
theorem sc__law_far : FnScope ["box", "size", "raw"] ["box", "size"] (defScope (top 44)) := ⟨rfl, rfl, rfl, by decide +kernel, rfl, by decide +kernel, by decide +kernel⟩
abbrev d__law_far (vs : List V) : Ty := [.pr (.lst .fz) (vs.getD 0 .non), .ow .fz, .ow .fz]
theorem bd__law_far (F : Facts P K mg) : Binds K F.fd__law_far ["box", "size"] [] := F.d__law_far.bindsN fun _ _ _ _ _ _ us hl => match us, hl with | [_, _], _ => rfl
theorem ok__law_far (F : Facts P K mg) : FnOk P w K mg base (L2.CX P w) 2 (He.ga K "_law_far") F.fd__law_far ["box", "size"] (pM K t__law_far f__law_far) := by
  have sc := sc__law_far
  refine ok_def F.d__law_far sc t__law_far [.ow .fz] b__law_far rfl rfl (fun cdv A outer s H vs E hr => ⟨d__law_far vs, inT_out vs (le_any [.ow .fz]) 0 t__law_far.ps, ?_⟩) (.inl rfl)
  have tk : Takes (cxOf (L2.CX P w) P w K mg base ["box", "size", "raw"] "_law_far" (defScope (top 44)) (He.ga K "_law_far") cdv A outer s H E) (scF t__law_far vs [.ow .fz] E).W := takes_of rfl rfl rfl rfl
  have hp : PassesOwn (model P w) (A.deeper (envOfC "_law_far" (defScope (top 44)) s.heap.objs.size (He.ga K "_law_far") cdv)) _ (cxOf (L2.CX P w) P w K mg base ["box", "size", "raw"] "_law_far" (defScope (top 44)) (He.ga K "_law_far") cdv A outer s H E).xe := PassesOwn.leaving
  have lr : LeT (d__law_far vs) (scF t__law_far vs [.ow .fz] E).tr := inT_out vs (le_any [.ow .fz]) 0 t__law_far.ps
  exact (s_cons (s_set rfl sc.nd rfl (loc_by rfl) (e_bin op_addD rel_add (e_bin op_mulD rel_mul (e_bin op_addD rel_add (e_bin op_mulD rel_mul (e_call (ps := [.o (.lst .fz), .d]) (dds := []) (ret := .fz) (ks := [(.o 0), (.d (mBin powD (mC (.int 10)) (mC (.int 9))))]) tk ((ok__law_take F).mono (by decide)) hr rfl F.g__law_take F.d__law_take.kp (bd__law_take F) .nil (fun _ => is_nil) lr ⟨rfl, (.inr ⟨_, rfl⟩), trivial, trivial⟩ (k_o rfl rfl (vis_by rfl) (k_d (e_bin op_pow rel_pow e_int e_int) k_nil))) (e_bin op_pow rel_pow e_int e_int)) (e_call (ps := [.o (.lst .fz), .d]) (dds := []) (ret := .fz) (ks := [(.o 0), (.d (mBin powD (mC (.int 10)) (mC (.int 9))))]) tk ((ok__law_take F).mono (by decide)) hr rfl F.g__law_take F.d__law_take.kp (bd__law_take F) .nil (fun _ => is_nil) lr ⟨rfl, (.inr ⟨_, rfl⟩), trivial, trivial⟩ (k_o rfl rfl (vis_by rfl) (k_d (e_bin op_pow rel_pow e_int e_int) k_nil)))) e_int) (e_call (ps := [.o (.lst .fz), .d]) (dds := []) (ret := .fz) (ks := [(.o 0), (.d (mC (.int 4)))]) tk ((ok__law_take F).mono (by decide)) hr rfl F.g__law_take F.d__law_take.kp (bd__law_take F) .nil (fun _ => is_nil) lr ⟨rfl, (.inr ⟨_, rfl⟩), trivial, trivial⟩ (k_o rfl rfl (vis_by rfl) (k_d e_int k_nil)))))
  (s_one (s_ret lr (e_bin op_sub rel_sub (e_bin op_mod rel_mod (e_callT call_int1 rel_int rfl F.n_int bb_int (a_cons (e_var rfl rfl (vis_by rfl)) a_nil)) (e_bin op_addD rel_add (e_bin op_mulD rel_mul e_int (e_var rfl rfl (vis_by rfl))) e_int)) (e_var rfl rfl (vis_by rfl))))))
/-! ### _law_amount -/
def t__law_amount : FT := ⟨[.o (.lst .fz), .d], .fz⟩
noncomputable def b__law_amount : MS :=
  (sSeq (sSet 2 (mLst (aCons (mC (.int 0)) (aCons (mCall f__law_take [(.o 0), (.d (mC (.int 3)))] []) (aCons (mCall f__law_take [(.o 0), (.d (mC (.int 12)))] []) aNil)))))
  (sRet (mFn min2D (aCons (mVar 1) (aCons (mCall f__law_pick [(.o 0), (.d (mBin addD (mVar 2) (mLst (aCons (mFn absD (aCons (mCall f__law_far [(.o 0), (.d (mVar 1))] []) aNil)) aNil))))] []) aNil)))))
noncomputable def f__law_amount : List D → RF := runF t__law_amount 3 b__law_amount
theorem sc__law_amount : FnScope ["box", "size", "some"] ["box", "size"] (defScope (top 45)) := ⟨rfl, rfl, rfl, by decide +kernel, rfl, by decide +kernel, by decide +kernel⟩
abbrev d__law_amount (vs : List V) : Ty := [.pr (.lst .fz) (vs.getD 0 .non), .ow .fz, .ow .fz]
theorem bd__law_amount (F : Facts P K mg) : Binds K F.fd__law_amount ["box", "size"] [] := F.d__law_amount.bindsN fun _ _ _ _ _ _ us hl => match us, hl with | [_, _], _ => rfl
theorem ok__law_amount (F : Facts P K mg) : FnOk P w K mg base (L2.CX P w) 3 (He.ga K "_law_amount") F.fd__law_amount ["box", "size"] (pM K t__law_amount f__law_amount) := by
  have sc := sc__law_amount
  refine ok_def F.d__law_amount sc t__law_amount [.ow .fz] b__law_amount rfl rfl (fun cdv A outer s H vs E hr => ⟨d__law_amount vs, inT_out vs (le_any [.ow .fz]) 0 t__law_amount.ps, ?_⟩) (.inl rfl)
  have tk : Takes (cxOf (L2.CX P w) P w K mg base ["box", "size", "some"] "_law_amount" (defScope (top 45)) (He.ga K "_law_amount") cdv A outer s H E) (scF t__law_amount vs [.ow .fz] E).W := takes_of rfl rfl rfl rfl
  have hp : PassesOwn (model P w) (A.deeper (envOfC "_law_amount" (defScope (top 45)) s.heap.objs.size (He.ga K "_law_amount") cdv)) _ (cxOf (L2.CX P w) P w K mg base ["box", "size", "some"] "_law_amount" (defScope (top 45)) (He.ga K "_law_amount") cdv A outer s H E).xe := PassesOwn.leaving
  have lr : LeT (d__law_amount vs) (scF t__law_amount vs [.ow .fz] E).tr := inT_out vs (le_any [.ow .fz]) 0 t__law_amount.ps
  exact (s_cons (s_set rfl sc.nd rfl (loc_by rfl) (e_fz rfl (e_lst (by decide) (al_cons (al_cons (al_cons al_nil))) (a_cons e_int (a_cons (e_call (ps := [.o (.lst .fz), .d]) (dds := []) (ret := .fz) (ks := [(.o 0), (.d (mC (.int 3)))]) tk ((ok__law_take F).mono (by decide)) hr rfl F.g__law_take F.d__law_take.kp (bd__law_take F) .nil (fun _ => is_nil) lr ⟨rfl, (.inr ⟨_, rfl⟩), trivial, trivial⟩ (k_o rfl rfl (vis_by rfl) (k_d e_int k_nil))) (a_cons (e_call (ps := [.o (.lst .fz), .d]) (dds := []) (ret := .fz) (ks := [(.o 0), (.d (mC (.int 12)))]) tk ((ok__law_take F).mono (by decide)) hr rfl F.g__law_take F.d__law_take.kp (bd__law_take F) .nil (fun _ => is_nil) lr ⟨rfl, (.inr ⟨_, rfl⟩), trivial, trivial⟩ (k_o rfl rfl (vis_by rfl) (k_d e_int k_nil))) a_nil))))))
  (s_one (s_ret lr (e_callB (call_min2 rfl) rel_min2 rfl F.n_min bb_min (a_cons (e_var rfl rfl (vis_by rfl)) (a_cons (e_call (ps := [.o (.lst .fz), .d]) (dds := []) (ret := .fz) (ks := [(.o 0), (.d (mBin addD (mVar 2) (mLst (aCons (mFn absD (aCons (mCall f__law_far [(.o 0), (.d (mVar 1))] []) aNil)) aNil))))]) tk ((ok__law_pick F).mono (by decide)) hr rfl F.g__law_pick F.d__law_pick.kp (bd__law_pick F) .nil (fun _ => is_nil) lr ⟨rfl, (.inr ⟨_, rfl⟩), trivial, trivial⟩ (k_o rfl rfl (vis_by rfl) (k_d (e_bin op_addD rel_add (e_var rfl rfl (vis_by rfl)) (e_fz rfl (e_lst (by decide) (al_cons al_nil) (a_cons (e_callB call_abs rel_abs rfl F.n_abs bb_abs (a_cons (e_call (ps := [.o (.lst .fz), .d]) (dds := []) (ret := .fz) (ks := [(.o 0), (.d (mVar 1))]) tk ((ok__law_far F).mono (by decide)) hr rfl F.g__law_far F.d__law_far.kp (bd__law_far F) .nil (fun _ => is_nil) lr ⟨rfl, (.inr ⟨_, rfl⟩), trivial, trivial⟩ (k_o rfl rfl (vis_by rfl) (k_d (e_var rfl rfl (vis_by rfl)) k_nil))) a_nil)) a_nil)))) k_nil))) a_nil))))))
/-! ### _law_full -/
def t__law_full : FT := ⟨[.o (.lst .fz), .d, .d, .d], .fz⟩
noncomputable def b__law_full : MS :=
  (sSeq (sPar [4, 5] (aCons (mLst aNil) (aCons (mLst aNil) aNil)))
  (sSeq (sFor (iRange1 (aCons (mFn lenD (aCons (mVar 1) aNil)) aNil)) (.nm 6) (sSeq (sSet 7 (mBin addD (mBin mulD (mC (.int 2)) (mCall f__law_far [(.o 0), (.d (mVar 2))] [])) (mBin ixD (mVar 3) (mVar 6))))
  (sSeq (sApp 4 (mTup (aCons (mBin subD (mBin divD (mVar 7) (mC (.int 2))) (mCall f__law_amount [(.o 0), (.d (mVar 2))] [])) (aCons (mBin addD (mBin addD (mBin divD (mVar 7) (mC (.int 2))) (mBin modD (mFn intD (aCons (mVar 7) aNil)) (mC (.int 2)))) (mCall f__law_amount [(.o 0), (.d (mVar 2))] [])) aNil))))
  (sApp 5 (mVar 7)))))
  (sRet (mTup (aCons (mVar 4) (aCons (mVar 5) aNil))))))
noncomputable def f__law_full : List D → RF := runF t__law_full 8 b__law_full
theorem sc__law_full : FnScope ["box", "ties", "size", "halves", "bounds", "numbers", "at", "z"] ["box", "ties", "size", "halves"] (defScope (top 62)) := ⟨rfl, rfl, rfl, by decide +kernel, rfl, by decide +kernel, by decide +kernel⟩
abbrev d__law_full (vs : List V) : Ty := [.pr (.lst .fz) (vs.getD 0 .non), .ow .fz, .ow .fz, .ow .fz, .ow (.lst .fz), .ow (.lst .fz), .ow .fz, .ow .fz]
theorem bd__law_full (F : Facts P K mg) : Binds K F.fd__law_full ["box", "ties", "size", "halves"] [] := F.d__law_full.bindsN fun _ _ _ _ _ _ us hl => match us, hl with | [_, _, _, _], _ => rfl
theorem ok__law_full (F : Facts P K mg) : FnOk P w K mg base (L2.CX P w) 4 (He.ga K "_law_full") F.fd__law_full ["box", "ties", "size", "halves"] (pM K t__law_full f__law_full) := by
  have sc := sc__law_full
  refine ok_def F.d__law_full sc t__law_full [.ow (.lst .fz), .ow (.lst .fz), .ow .fz, .ow .fz] b__law_full rfl rfl (fun cdv A outer s H vs E hr => ⟨((d__law_full vs).set 4 (.ow .fz)).set 5 (.ow .fz), leT_set (leT_set (inT_out vs (le_any [.ow (.lst .fz), .ow (.lst .fz), .ow .fz, .ow .fz]) 0 t__law_full.ps) rfl) rfl, ?_⟩) (.inl rfl)
  have tk : Takes (cxOf (L2.CX P w) P w K mg base ["box", "ties", "size", "halves", "bounds", "numbers", "at", "z"] "_law_full" (defScope (top 62)) (He.ga K "_law_full") cdv A outer s H E) (scF t__law_full vs [.ow (.lst .fz), .ow (.lst .fz), .ow .fz, .ow .fz] E).W := takes_of rfl rfl rfl rfl
  have hp : PassesOwn (model P w) (A.deeper (envOfC "_law_full" (defScope (top 62)) s.heap.objs.size (He.ga K "_law_full") cdv)) _ (cxOf (L2.CX P w) P w K mg base ["box", "ties", "size", "halves", "bounds", "numbers", "at", "z"] "_law_full" (defScope (top 62)) (He.ga K "_law_full") cdv A outer s H E).xe := PassesOwn.leaving
  have lr : LeT (d__law_full vs) (scF t__law_full vs [.ow (.lst .fz), .ow (.lst .fz), .ow .fz, .ow .fz] E).tr := inT_out vs (le_any [.ow (.lst .fz), .ow (.lst .fz), .ow .fz, .ow .fz]) 0 t__law_full.ps
  exact (s_cons (s_par2 rfl sc.nd rfl rfl  (by decide) rfl rfl  rfl rfl  (o_cons (e_lst (by decide) al_nil a_nil) (o_cons (e_lst (by decide) al_nil a_nil) o_nil)) rfl)
  (s_cons (s_for hp rfl (i_range1 rfl F.n_range (a_cons (e_callB call_len rel_len rfl F.n_len bb_len (a_cons (e_var rfl rfl (vis_by rfl)) a_nil)) a_nil)) (g_name rfl sc.nd rfl (loc_by rfl)) (s_cons (s_set rfl sc.nd rfl (loc_by rfl) (e_bin op_addD rel_add (e_bin op_mulD rel_mul e_int (e_call (ps := [.o (.lst .fz), .d]) (dds := []) (ret := .fz) (ks := [(.o 0), (.d (mVar 2))]) tk ((ok__law_far F).mono (by decide)) hr rfl F.g__law_far F.d__law_far.kp (bd__law_far F) .nil (fun _ => is_nil) lr ⟨rfl, (.inr ⟨_, rfl⟩), trivial, trivial⟩ (k_o rfl rfl (vis_by rfl) (k_d (e_var rfl rfl (vis_by rfl)) k_nil)))) (e_ix ix_seq rel_ix (e_var rfl rfl (vis_by rfl)) (e_var rfl rfl (vis_by rfl)) fun _ _ => rfl)))
  (s_cons (s_app (.inl rfl) rfl (vis_by rfl) (e_tup (by decide) (al_cons (al_cons al_nil)) (a_cons (e_bin op_sub rel_sub (e_bin op_fdivW rel_div (e_var rfl rfl (vis_by rfl)) e_int) (e_call (ps := [.o (.lst .fz), .d]) (dds := []) (ret := .fz) (ks := [(.o 0), (.d (mVar 2))]) tk ((ok__law_amount F).mono (by decide)) hr rfl F.g__law_amount F.d__law_amount.kp (bd__law_amount F) .nil (fun _ => is_nil) lr ⟨rfl, (.inr ⟨_, rfl⟩), trivial, trivial⟩ (k_o rfl rfl (vis_by rfl) (k_d (e_var rfl rfl (vis_by rfl)) k_nil)))) (a_cons (e_bin op_addD rel_add (e_bin op_addD rel_add (e_bin op_fdivW rel_div (e_var rfl rfl (vis_by rfl)) e_int) (e_bin op_mod rel_mod (e_callT call_int1 rel_int rfl F.n_int bb_int (a_cons (e_var rfl rfl (vis_by rfl)) a_nil)) e_int)) (e_call (ps := [.o (.lst .fz), .d]) (dds := []) (ret := .fz) (ks := [(.o 0), (.d (mVar 2))]) tk ((ok__law_amount F).mono (by decide)) hr rfl F.g__law_amount F.d__law_amount.kp (bd__law_amount F) .nil (fun _ => is_nil) lr ⟨rfl, (.inr ⟨_, rfl⟩), trivial, trivial⟩ (k_o rfl rfl (vis_by rfl) (k_d (e_var rfl rfl (vis_by rfl)) k_nil)))) a_nil))))
  (s_one (s_app (.inl rfl) rfl (vis_by rfl) (e_var rfl rfl (vis_by rfl)))))))
  (s_frz (i := 4) rfl rfl (s_frz (i := 5) rfl rfl (s_one (s_ret (leT_set (leT_set lr rfl) rfl) (e_tup (by decide) (al_cons (al_cons al_nil)) (a_cons (e_var rfl rfl (vis_by rfl)) (a_cons (e_var rfl rfl (vis_by rfl)) a_nil)))))))))
/-! ### _law_signs -/
def t__law_signs : FT := ⟨[.o (.lst .fz), .d], .fz⟩
noncomputable def b__law_signs : MS :=
  (sSeq (sSet 2 (mCall f__law_pick [(.o 0), (.d (mLst (aCons (mTup (aCons (mC (.int 1)) (aCons (mC (.int 0)) (aCons (mUn negD (mC (.int 1))) aNil)))) (aCons (mTup (aCons (mC (.int 1)) (aCons (mUn negD (mC (.int 1))) aNil))) (aCons (mTup (aCons (mC (.int 0)) (aCons (mC (.int 0)) (aCons (mC (.int 0)) (aCons (mC (.int 1)) (aCons (mUn negD (mC (.int 1))) aNil)))))) (aCons (mTup (aCons (mC (.int 1)) (aCons (mC (.int 1)) (aCons (mC (.int 1)) (aCons (mUn negD (mC (.int 1))) aNil))))) aNil))))))] []))
  (sRet (mFn tupleD (aCons (mLc (iRange1 (aCons (mVar 1) aNil)) (.nm 3) (mC (.bl true)) (mCall f__law_pick [(.o 0), (.d (mVar 2))] []) [3]) aNil))))
noncomputable def f__law_signs : List D → RF := runF t__law_signs 4 b__law_signs
theorem sc__law_signs : FnScope ["box", "points", "some", "point"] ["box", "points"] (defScope (top 61)) := ⟨rfl, rfl, rfl, by decide +kernel, rfl, by decide +kernel, by decide +kernel⟩
abbrev d__law_signs (vs : List V) : Ty := [.pr (.lst .fz) (vs.getD 0 .non), .ow .fz, .ow .fz, .ow .fz]
theorem bd__law_signs (F : Facts P K mg) : Binds K F.fd__law_signs ["box", "points"] [] := F.d__law_signs.bindsN fun _ _ _ _ _ _ us hl => match us, hl with | [_, _], _ => rfl
theorem ok__law_signs (F : Facts P K mg) : FnOk P w K mg base (L2.CX P w) 3 (He.ga K "_law_signs") F.fd__law_signs ["box", "points"] (pM K t__law_signs f__law_signs) := by
  have sc := sc__law_signs
  refine ok_def F.d__law_signs sc t__law_signs [.ow .fz, .ow .fz] b__law_signs rfl rfl (fun cdv A outer s H vs E hr => ⟨d__law_signs vs, inT_out vs (le_any [.ow .fz, .ow .fz]) 0 t__law_signs.ps, ?_⟩) (.inl rfl)
  have tk : Takes (cxOf (L2.CX P w) P w K mg base ["box", "points", "some", "point"] "_law_signs" (defScope (top 61)) (He.ga K "_law_signs") cdv A outer s H E) (scF t__law_signs vs [.ow .fz, .ow .fz] E).W := takes_of rfl rfl rfl rfl
  have hp : PassesOwn (model P w) (A.deeper (envOfC "_law_signs" (defScope (top 61)) s.heap.objs.size (He.ga K "_law_signs") cdv)) _ (cxOf (L2.CX P w) P w K mg base ["box", "points", "some", "point"] "_law_signs" (defScope (top 61)) (He.ga K "_law_signs") cdv A outer s H E).xe := PassesOwn.leaving
  have lr : LeT (d__law_signs vs) (scF t__law_signs vs [.ow .fz, .ow .fz] E).tr := inT_out vs (le_any [.ow .fz, .ow .fz]) 0 t__law_signs.ps
  exact (s_cons (s_set rfl sc.nd rfl (loc_by rfl) (e_call (ps := [.o (.lst .fz), .d]) (dds := []) (ret := .fz) (ks := [(.o 0), (.d (mLst (aCons (mTup (aCons (mC (.int 1)) (aCons (mC (.int 0)) (aCons (mUn negD (mC (.int 1))) aNil)))) (aCons (mTup (aCons (mC (.int 1)) (aCons (mUn negD (mC (.int 1))) aNil))) (aCons (mTup (aCons (mC (.int 0)) (aCons (mC (.int 0)) (aCons (mC (.int 0)) (aCons (mC (.int 1)) (aCons (mUn negD (mC (.int 1))) aNil)))))) (aCons (mTup (aCons (mC (.int 1)) (aCons (mC (.int 1)) (aCons (mC (.int 1)) (aCons (mUn negD (mC (.int 1))) aNil))))) aNil))))))]) tk ((ok__law_pick F).mono (by decide)) hr rfl F.g__law_pick F.d__law_pick.kp (bd__law_pick F) .nil (fun _ => is_nil) lr ⟨rfl, (.inr ⟨_, rfl⟩), trivial, trivial⟩ (k_o rfl rfl (vis_by rfl) (k_d (e_fz rfl (e_lst (by decide) (al_cons (al_cons (al_cons (al_cons al_nil)))) (a_cons (e_tup (by decide) (al_cons (al_cons (al_cons al_nil))) (a_cons e_int (a_cons e_int (a_cons (e_un un_neg rel_neg e_int) a_nil)))) (a_cons (e_tup (by decide) (al_cons (al_cons al_nil)) (a_cons e_int (a_cons (e_un un_neg rel_neg e_int) a_nil))) (a_cons (e_tup (by decide) (al_cons (al_cons (al_cons (al_cons (al_cons al_nil))))) (a_cons e_int (a_cons e_int (a_cons e_int (a_cons e_int (a_cons (e_un un_neg rel_neg e_int) a_nil)))))) (a_cons (e_tup (by decide) (al_cons (al_cons (al_cons (al_cons al_nil)))) (a_cons e_int (a_cons e_int (a_cons e_int (a_cons (e_un un_neg rel_neg e_int) a_nil))))) a_nil)))))) k_nil))))
  (s_one (s_ret lr (e_callT call_tuple_of rel_tuple rfl F.n_tuple bb_tuple (a_cons (e_fz rfl (e_lc rfl sc.nd (i_range1 rfl F.n_range (a_cons (e_var rfl rfl (vis_by rfl)) a_nil)) (own := [("point", 3)]) (blkOk_by (by kernel_rfl)) (allFz ⟨rfl, trivial⟩) (by decide) (fun _ _ _ _ _ => (g_name rfl sc.nd rfl (loc_by rfl))) (fun _ _ _ _ _ => t_yes) (fun _ _ _ _ _ => (e_call (ps := [.o (.lst .fz), .d]) (dds := []) (ret := .fz) (ks := [(.o 0), (.d (mVar 2))]) takes0 ((ok__law_pick F).mono (by decide)) hr rfl F.g__law_pick F.d__law_pick.kp (bd__law_pick F) .nil (fun _ => is_nil) (LeT.refl _) ⟨rfl, (.inr ⟨_, rfl⟩), trivial, trivial⟩ (k_o rfl rfl (vis_by rfl) (k_d (e_var rfl rfl (vis_by rfl)) k_nil)))))) a_nil)))))
/-! ### is_integer -/
def t_is_integer : FT := ⟨[.d], .fz⟩
noncomputable def b_is_integer : MS :=
  (sRet (mAnd (mFn (isiD' kitC kitX) (aCons (mVar 0) (aCons (mC (.ty "int")) aNil))) (mNot (mFn (isiD' kitC kitX) (aCons (mVar 0) (aCons (mC (.ty "bool")) aNil))))))
noncomputable def f_is_integer : List D → RF := runF t_is_integer 1 b_is_integer
theorem sc_is_integer : FnScope ["value"] ["value"] (defScope (top 9)) := ⟨rfl, rfl, rfl, by decide +kernel, rfl, by decide +kernel, by decide +kernel⟩
abbrev d_is_integer (vs : List V) : Ty := [.ow .fz]
theorem bd_is_integer (F : Facts P K mg) : Binds K F.fd_is_integer ["value"] [] := F.d_is_integer.bindsN fun _ _ _ _ _ _ us hl => match us, hl with | [_], _ => rfl
theorem ok_is_integer (F : Facts P K mg) : FnOk P w K mg base (L2.CX P w) 1 (He.ga K "is_integer") F.fd_is_integer ["value"] (pM K t_is_integer f_is_integer) := by
  have sc := sc_is_integer
  refine ok_def F.d_is_integer sc t_is_integer [] b_is_integer rfl rfl (fun cdv A outer s H vs E hr => ⟨d_is_integer vs, inT_out vs (le_any []) 0 t_is_integer.ps, ?_⟩) (.inl rfl)
  have tk : Takes (cxOf (L2.CX P w) P w K mg base ["value"] "is_integer" (defScope (top 9)) (He.ga K "is_integer") cdv A outer s H E) (scF t_is_integer vs [] E).W := takes_of rfl rfl rfl rfl
  have hp : PassesOwn (model P w) (A.deeper (envOfC "is_integer" (defScope (top 9)) s.heap.objs.size (He.ga K "is_integer") cdv)) _ (cxOf (L2.CX P w) P w K mg base ["value"] "is_integer" (defScope (top 9)) (He.ga K "is_integer") cdv A outer s H E).xe := PassesOwn.leaving
  have lr : LeT (d_is_integer vs) (scF t_is_integer vs [] E).tr := inT_out vs (le_any []) 0 t_is_integer.ps
  exact (s_one (s_ret lr (e_and (e_callB call_isiD (rel_isi F.kit) rfl F.n_isinstance bb_isinstance (a_cons (e_var rfl rfl (vis_by rfl)) (a_cons (e_tyn rfl F.n_int bb_int) a_nil))) (e_one (e_not (e_callB call_isiD (rel_isi F.kit) rfl F.n_isinstance bb_isinstance (a_cons (e_var rfl rfl (vis_by rfl)) (a_cons (e_tyn rfl F.n_bool bb_bool) a_nil))))))))
/-! ### is_between -/
def t_is_between : FT := ⟨[.d, .d, .d], .fz⟩
noncomputable def b_is_between : MS :=
  (sRet (mAnd (mCall f_is_integer [(.d (mVar 0))] []) (mChain leD leD (mVar 1) (mVar 0) (mVar 2))))
noncomputable def f_is_between : List D → RF := runF t_is_between 3 b_is_between
theorem sc_is_between : FnScope ["value", "least", "greatest"] ["value", "least", "greatest"] (defScope (top 11)) := ⟨rfl, rfl, rfl, by decide +kernel, rfl, by decide +kernel, by decide +kernel⟩
abbrev d_is_between (vs : List V) : Ty := [.ow .fz, .ow .fz, .ow .fz]
theorem bd_is_between (F : Facts P K mg) : Binds K F.fd_is_between ["value", "least", "greatest"] [] := F.d_is_between.bindsN fun _ _ _ _ _ _ us hl => match us, hl with | [_, _, _], _ => rfl
theorem ok_is_between (F : Facts P K mg) : FnOk P w K mg base (L2.CX P w) 2 (He.ga K "is_between") F.fd_is_between ["value", "least", "greatest"] (pM K t_is_between f_is_between) := by
  have sc := sc_is_between
  refine ok_def F.d_is_between sc t_is_between [] b_is_between rfl rfl (fun cdv A outer s H vs E hr => ⟨d_is_between vs, inT_out vs (le_any []) 0 t_is_between.ps, ?_⟩) (.inl rfl)
  have tk : Takes (cxOf (L2.CX P w) P w K mg base ["value", "least", "greatest"] "is_between" (defScope (top 11)) (He.ga K "is_between") cdv A outer s H E) (scF t_is_between vs [] E).W := takes_of rfl rfl rfl rfl
  have hp : PassesOwn (model P w) (A.deeper (envOfC "is_between" (defScope (top 11)) s.heap.objs.size (He.ga K "is_between") cdv)) _ (cxOf (L2.CX P w) P w K mg base ["value", "least", "greatest"] "is_between" (defScope (top 11)) (He.ga K "is_between") cdv A outer s H E).xe := PassesOwn.leaving
  have lr : LeT (d_is_between vs) (scF t_is_between vs [] E).tr := inT_out vs (le_any []) 0 t_is_between.ps
  exact (s_one (s_ret lr (e_and (e_call (ps := [.d]) (dds := []) (ret := .fz) (ks := [(.d (mVar 0))]) tk ((ok_is_integer F).mono (by decide)) hr rfl F.g_is_integer F.d_is_integer.kp (bd_is_integer F) .nil (fun _ => is_nil) lr trivial (k_d (e_var rfl rfl (vis_by rfl)) k_nil)) (e_one (e_chain op_le op_le rel_le rel_le (e_var rfl rfl (vis_by rfl)) (e_var rfl rfl (vis_by rfl)) (e_var rfl rfl (vis_by rfl)))))))
/-! ### is_sequence -/
def t_is_sequence : FT := ⟨[.d], .fz⟩
noncomputable def b_is_sequence : MS :=
  (sRet (mFn (isiD' kitC kitX) (aCons (mVar 0) (aCons (mTup (aCons (mC (.ty "list")) (aCons (mC (.ty "tuple")) aNil))) aNil))))
noncomputable def f_is_sequence : List D → RF := runF t_is_sequence 1 b_is_sequence
theorem sc_is_sequence : FnScope ["value"] ["value"] (defScope (top 12)) := ⟨rfl, rfl, rfl, by decide +kernel, rfl, by decide +kernel, by decide +kernel⟩
abbrev d_is_sequence (vs : List V) : Ty := [.ow .fz]
theorem bd_is_sequence (F : Facts P K mg) : Binds K F.fd_is_sequence ["value"] [] := F.d_is_sequence.bindsN fun _ _ _ _ _ _ us hl => match us, hl with | [_], _ => rfl
theorem ok_is_sequence (F : Facts P K mg) : FnOk P w K mg base (L2.CX P w) 1 (He.ga K "is_sequence") F.fd_is_sequence ["value"] (pM K t_is_sequence f_is_sequence) := by
  have sc := sc_is_sequence
  refine ok_def F.d_is_sequence sc t_is_sequence [] b_is_sequence rfl rfl (fun cdv A outer s H vs E hr => ⟨d_is_sequence vs, inT_out vs (le_any []) 0 t_is_sequence.ps, ?_⟩) (.inl rfl)
  have tk : Takes (cxOf (L2.CX P w) P w K mg base ["value"] "is_sequence" (defScope (top 12)) (He.ga K "is_sequence") cdv A outer s H E) (scF t_is_sequence vs [] E).W := takes_of rfl rfl rfl rfl
  have hp : PassesOwn (model P w) (A.deeper (envOfC "is_sequence" (defScope (top 12)) s.heap.objs.size (He.ga K "is_sequence") cdv)) _ (cxOf (L2.CX P w) P w K mg base ["value"] "is_sequence" (defScope (top 12)) (He.ga K "is_sequence") cdv A outer s H E).xe := PassesOwn.leaving
  have lr : LeT (d_is_sequence vs) (scF t_is_sequence vs [] E).tr := inT_out vs (le_any []) 0 t_is_sequence.ps
  exact (s_one (s_ret lr (e_callB call_isiD (rel_isi F.kit) rfl F.n_isinstance bb_isinstance (a_cons (e_var rfl rfl (vis_by rfl)) (a_cons (e_tup (by decide) (al_cons (al_cons al_nil)) (a_cons (e_tyn rfl F.n_list bb_list) (a_cons (e_tyn rfl F.n_tuple bb_tuple) a_nil))) a_nil)))))
/-! ### is_row -/
def t_is_row : FT := ⟨[.d, .d], .fz⟩
noncomputable def b_is_row : MS :=
  (sRet (mAnd (mCall f_is_sequence [(.d (mVar 0))] []) (mBin eqD (mFn lenD (aCons (mVar 0) aNil)) (mVar 1))))
noncomputable def f_is_row : List D → RF := runF t_is_row 2 b_is_row
theorem sc_is_row : FnScope ["value", "many"] ["value", "many"] (defScope (top 13)) := ⟨rfl, rfl, rfl, by decide +kernel, rfl, by decide +kernel, by decide +kernel⟩
abbrev d_is_row (vs : List V) : Ty := [.ow .fz, .ow .fz]
theorem bd_is_row (F : Facts P K mg) : Binds K F.fd_is_row ["value", "many"] [] := F.d_is_row.bindsN fun _ _ _ _ _ _ us hl => match us, hl with | [_, _], _ => rfl
theorem ok_is_row (F : Facts P K mg) : FnOk P w K mg base (L2.CX P w) 2 (He.ga K "is_row") F.fd_is_row ["value", "many"] (pM K t_is_row f_is_row) := by
  have sc := sc_is_row
  refine ok_def F.d_is_row sc t_is_row [] b_is_row rfl rfl (fun cdv A outer s H vs E hr => ⟨d_is_row vs, inT_out vs (le_any []) 0 t_is_row.ps, ?_⟩) (.inl rfl)
  have tk : Takes (cxOf (L2.CX P w) P w K mg base ["value", "many"] "is_row" (defScope (top 13)) (He.ga K "is_row") cdv A outer s H E) (scF t_is_row vs [] E).W := takes_of rfl rfl rfl rfl
  have hp : PassesOwn (model P w) (A.deeper (envOfC "is_row" (defScope (top 13)) s.heap.objs.size (He.ga K "is_row") cdv)) _ (cxOf (L2.CX P w) P w K mg base ["value", "many"] "is_row" (defScope (top 13)) (He.ga K "is_row") cdv A outer s H E).xe := PassesOwn.leaving
  have lr : LeT (d_is_row vs) (scF t_is_row vs [] E).tr := inT_out vs (le_any []) 0 t_is_row.ps
  exact (s_one (s_ret lr (e_and (e_call (ps := [.d]) (dds := []) (ret := .fz) (ks := [(.d (mVar 0))]) tk ((ok_is_sequence F).mono (by decide)) hr rfl F.g_is_sequence F.d_is_sequence.kp (bd_is_sequence F) .nil (fun _ => is_nil) lr trivial (k_d (e_var rfl rfl (vis_by rfl)) k_nil)) (e_one (e_cmp (op_eqD hr.units) rel_eq (e_callB call_len rel_len rfl F.n_len bb_len (a_cons (e_var rfl rfl (vis_by rfl)) a_nil)) (e_var rfl rfl (vis_by rfl)) (nomark _))))))
/-! ### is_below -/
def t_is_below : FT := ⟨[.d, .d], .fz⟩
noncomputable def b_is_below : MS :=
  (sRet (mAnd (mCall f_is_integer [(.d (mVar 0))] []) (mChain leD ltD (mC (.int 0)) (mVar 0) (mVar 1))))
noncomputable def f_is_below : List D → RF := runF t_is_below 2 b_is_below
theorem sc_is_below : FnScope ["value", "limit"] ["value", "limit"] (defScope (top 10)) := ⟨rfl, rfl, rfl, by decide +kernel, rfl, by decide +kernel, by decide +kernel⟩
abbrev d_is_below (vs : List V) : Ty := [.ow .fz, .ow .fz]
theorem bd_is_below (F : Facts P K mg) : Binds K F.fd_is_below ["value", "limit"] [] := F.d_is_below.bindsN fun _ _ _ _ _ _ us hl => match us, hl with | [_, _], _ => rfl
theorem ok_is_below (F : Facts P K mg) : FnOk P w K mg base (L2.CX P w) 2 (He.ga K "is_below") F.fd_is_below ["value", "limit"] (pM K t_is_below f_is_below) := by
  have sc := sc_is_below
  refine ok_def F.d_is_below sc t_is_below [] b_is_below rfl rfl (fun cdv A outer s H vs E hr => ⟨d_is_below vs, inT_out vs (le_any []) 0 t_is_below.ps, ?_⟩) (.inl rfl)
  have tk : Takes (cxOf (L2.CX P w) P w K mg base ["value", "limit"] "is_below" (defScope (top 10)) (He.ga K "is_below") cdv A outer s H E) (scF t_is_below vs [] E).W := takes_of rfl rfl rfl rfl
  have hp : PassesOwn (model P w) (A.deeper (envOfC "is_below" (defScope (top 10)) s.heap.objs.size (He.ga K "is_below") cdv)) _ (cxOf (L2.CX P w) P w K mg base ["value", "limit"] "is_below" (defScope (top 10)) (He.ga K "is_below") cdv A outer s H E).xe := PassesOwn.leaving
  have lr : LeT (d_is_below vs) (scF t_is_below vs [] E).tr := inT_out vs (le_any []) 0 t_is_below.ps
  exact (s_one (s_ret lr (e_and (e_call (ps := [.d]) (dds := []) (ret := .fz) (ks := [(.d (mVar 0))]) tk ((ok_is_integer F).mono (by decide)) hr rfl F.g_is_integer F.d_is_integer.kp (bd_is_integer F) .nil (fun _ => is_nil) lr trivial (k_d (e_var rfl rfl (vis_by rfl)) k_nil)) (e_one (e_chain op_le op_lt rel_le rel_lt e_int (e_var rfl rfl (vis_by rfl)) (e_var rfl rfl (vis_by rfl)))))))
/-! ### is_sign -/
def t_is_sign : FT := ⟨[.d], .fz⟩
noncomputable def b_is_sign : MS :=
  (sRet (mAnd (mCall f_is_integer [(.d (mVar 0))] []) (mBin inD (mVar 0) (mTup (aCons (mC (.int 1)) (aCons (mUn negD (mC (.int 1))) aNil))))))
noncomputable def f_is_sign : List D → RF := runF t_is_sign 1 b_is_sign
theorem sc_is_sign : FnScope ["value"] ["value"] (defScope (top 15)) := ⟨rfl, rfl, rfl, by decide +kernel, rfl, by decide +kernel, by decide +kernel⟩
abbrev d_is_sign (vs : List V) : Ty := [.ow .fz]
theorem bd_is_sign (F : Facts P K mg) : Binds K F.fd_is_sign ["value"] [] := F.d_is_sign.bindsN fun _ _ _ _ _ _ us hl => match us, hl with | [_], _ => rfl
theorem ok_is_sign (F : Facts P K mg) : FnOk P w K mg base (L2.CX P w) 2 (He.ga K "is_sign") F.fd_is_sign ["value"] (pM K t_is_sign f_is_sign) := by
  have sc := sc_is_sign
  refine ok_def F.d_is_sign sc t_is_sign [] b_is_sign rfl rfl (fun cdv A outer s H vs E hr => ⟨d_is_sign vs, inT_out vs (le_any []) 0 t_is_sign.ps, ?_⟩) (.inl rfl)
  have tk : Takes (cxOf (L2.CX P w) P w K mg base ["value"] "is_sign" (defScope (top 15)) (He.ga K "is_sign") cdv A outer s H E) (scF t_is_sign vs [] E).W := takes_of rfl rfl rfl rfl
  have hp : PassesOwn (model P w) (A.deeper (envOfC "is_sign" (defScope (top 15)) s.heap.objs.size (He.ga K "is_sign") cdv)) _ (cxOf (L2.CX P w) P w K mg base ["value"] "is_sign" (defScope (top 15)) (He.ga K "is_sign") cdv A outer s H E).xe := PassesOwn.leaving
  have lr : LeT (d_is_sign vs) (scF t_is_sign vs [] E).tr := inT_out vs (le_any []) 0 t_is_sign.ps
  exact (s_one (s_ret lr (e_and (e_call (ps := [.d]) (dds := []) (ret := .fz) (ks := [(.d (mVar 0))]) tk ((ok_is_integer F).mono (by decide)) hr rfl F.g_is_integer F.d_is_integer.kp (bd_is_integer F) .nil (fun _ => is_nil) lr trivial (k_d (e_var rfl rfl (vis_by rfl)) k_nil)) (e_one (e_cmp op_in_seq rel_in (e_var rfl rfl (vis_by rfl)) (e_tup (by decide) (al_cons (al_cons al_nil)) (a_cons e_int (a_cons (e_un un_neg rel_neg e_int) a_nil))) rfl)))))
/-! ### is_tie -/
def t_is_tie : FT := ⟨[.d, .d], .fz⟩
noncomputable def b_is_tie : MS :=
  (sSeq (sIf (mAnd (mNot (mCall f_is_row [(.d (mVar 1)), (.d (mC (.int 2)))] [])) (mNot (mCall f_is_row [(.d (mVar 1)), (.d (mC (.int 4)))] []))) (sRet (mC (.bl false))) sNil)
  (sSeq (sIf (mOr (mNot (mCall f_is_below [(.d (mBin ixD (mVar 1) (mC (.int 0)))), (.d (mVar 0))] [])) (mNot (mCall f_is_sign [(.d (mBin ixD (mVar 1) (mC (.int 1))))] []))) (sRet (mC (.bl false))) sNil)
  (sRet (mOr (mBin eqD (mFn lenD (aCons (mVar 1) aNil)) (mC (.int 2))) (mAnd (mCall f_is_below [(.d (mBin ixD (mVar 1) (mC (.int 2)))), (.d (mVar 0))] []) (mAnd (mCall f_is_sign [(.d (mBin ixD (mVar 1) (mC (.int 3))))] []) (mBin neD (mBin ixD (mVar 1) (mC (.int 0))) (mBin ixD (mVar 1) (mC (.int 2))))))))))
noncomputable def f_is_tie : List D → RF := runF t_is_tie 2 b_is_tie
theorem sc_is_tie : FnScope ["points", "value"] ["points", "value"] (defScope (top 21)) := ⟨rfl, rfl, rfl, by decide +kernel, rfl, by decide +kernel, by decide +kernel⟩
abbrev d_is_tie (vs : List V) : Ty := [.ow .fz, .ow .fz]
theorem bd_is_tie (F : Facts P K mg) : Binds K F.fd_is_tie ["points", "value"] [] := F.d_is_tie.bindsN fun _ _ _ _ _ _ us hl => match us, hl with | [_, _], _ => rfl
theorem ok_is_tie (F : Facts P K mg) : FnOk P w K mg base (L2.CX P w) 3 (He.ga K "is_tie") F.fd_is_tie ["points", "value"] (pM K t_is_tie f_is_tie) := by
  have sc := sc_is_tie
  refine ok_def F.d_is_tie sc t_is_tie [] b_is_tie rfl rfl (fun cdv A outer s H vs E hr => ⟨d_is_tie vs, inT_out vs (le_any []) 0 t_is_tie.ps, ?_⟩) (.inl rfl)
  have tk : Takes (cxOf (L2.CX P w) P w K mg base ["points", "value"] "is_tie" (defScope (top 21)) (He.ga K "is_tie") cdv A outer s H E) (scF t_is_tie vs [] E).W := takes_of rfl rfl rfl rfl
  have hp : PassesOwn (model P w) (A.deeper (envOfC "is_tie" (defScope (top 21)) s.heap.objs.size (He.ga K "is_tie") cdv)) _ (cxOf (L2.CX P w) P w K mg base ["points", "value"] "is_tie" (defScope (top 21)) (He.ga K "is_tie") cdv A outer s H E).xe := PassesOwn.leaving
  have lr : LeT (d_is_tie vs) (scF t_is_tie vs [] E).tr := inT_out vs (le_any []) 0 t_is_tie.ps
  exact (s_cons (s_if (t_w (w_and (t_not (t_ofE (e_call (ps := [.d, .d]) (dds := []) (ret := .fz) (ks := [(.d (mVar 1)), (.d (mC (.int 2)))]) tk ((ok_is_row F).mono (by decide)) hr rfl F.g_is_row F.d_is_row.kp (bd_is_row F) .nil (fun _ => is_nil) lr trivial (k_d (e_var rfl rfl (vis_by rfl)) (k_d e_int k_nil))))) (w_and1 (t_not (t_ofE (e_call (ps := [.d, .d]) (dds := []) (ret := .fz) (ks := [(.d (mVar 1)), (.d (mC (.int 4)))]) tk ((ok_is_row F).mono (by decide)) hr rfl F.g_is_row F.d_is_row.kp (bd_is_row F) .nil (fun _ => is_nil) lr trivial (k_d (e_var rfl rfl (vis_by rfl)) (k_d e_int k_nil)))))))) (s_one (s_ret lr e_bl)) s_nil)
  (s_cons (s_if (t_w (w_or (t_not (t_ofE (e_call (ps := [.d, .d]) (dds := []) (ret := .fz) (ks := [(.d (mBin ixD (mVar 1) (mC (.int 0)))), (.d (mVar 0))]) tk ((ok_is_below F).mono (by decide)) hr rfl F.g_is_below F.d_is_below.kp (bd_is_below F) .nil (fun _ => is_nil) lr trivial (k_d (e_ix ix_seq rel_ix (e_var rfl rfl (vis_by rfl)) e_int fun _ _ => rfl) (k_d (e_var rfl rfl (vis_by rfl)) k_nil))))) (w_or1 (t_not (t_ofE (e_call (ps := [.d]) (dds := []) (ret := .fz) (ks := [(.d (mBin ixD (mVar 1) (mC (.int 1))))]) tk ((ok_is_sign F).mono (by decide)) hr rfl F.g_is_sign F.d_is_sign.kp (bd_is_sign F) .nil (fun _ => is_nil) lr trivial (k_d (e_ix ix_seq rel_ix (e_var rfl rfl (vis_by rfl)) e_int fun _ _ => rfl) k_nil))))))) (s_one (s_ret lr e_bl)) s_nil)
  (s_one (s_ret lr (e_or (e_cmp (op_eqD hr.units) rel_eq (e_callB call_len rel_len rfl F.n_len bb_len (a_cons (e_var rfl rfl (vis_by rfl)) a_nil)) e_int (nomark _)) (e_one (e_and (e_call (ps := [.d, .d]) (dds := []) (ret := .fz) (ks := [(.d (mBin ixD (mVar 1) (mC (.int 2)))), (.d (mVar 0))]) tk ((ok_is_below F).mono (by decide)) hr rfl F.g_is_below F.d_is_below.kp (bd_is_below F) .nil (fun _ => is_nil) lr trivial (k_d (e_ix ix_seq rel_ix (e_var rfl rfl (vis_by rfl)) e_int fun _ _ => rfl) (k_d (e_var rfl rfl (vis_by rfl)) k_nil))) (e_and (e_call (ps := [.d]) (dds := []) (ret := .fz) (ks := [(.d (mBin ixD (mVar 1) (mC (.int 3))))]) tk ((ok_is_sign F).mono (by decide)) hr rfl F.g_is_sign F.d_is_sign.kp (bd_is_sign F) .nil (fun _ => is_nil) lr trivial (k_d (e_ix ix_seq rel_ix (e_var rfl rfl (vis_by rfl)) e_int fun _ _ => rfl) k_nil)) (e_one (e_cmp (op_neD hr.units) rel_ne (e_ix ix_seq rel_ix (e_var rfl rfl (vis_by rfl)) e_int fun _ _ => rfl) (e_ix ix_seq rel_ix (e_var rfl rfl (vis_by rfl)) e_int fun _ _ => rfl) (nomark _)))))))))))
/-! ### told_tie -/
def t_told_tie : FT := ⟨[.d], .fz⟩
noncomputable def b_told_tie : MS :=
  (sSeq (sIf (mAnd (mBin eqD (mFn lenD (aCons (mVar 0) aNil)) (mC (.int 4))) (mBin ltD (mBin ixD (mVar 0) (mC (.int 2))) (mBin ixD (mVar 0) (mC (.int 0))))) (sRet (mTup (aCons (mBin ixD (mVar 0) (mC (.int 2))) (aCons (mBin ixD (mVar 0) (mC (.int 3))) (aCons (mBin ixD (mVar 0) (mC (.int 0))) (aCons (mBin ixD (mVar 0) (mC (.int 1))) aNil)))))) sNil)
  (sRet (mFn tupleD (aCons (mVar 0) aNil))))
noncomputable def f_told_tie : List D → RF := runF t_told_tie 1 b_told_tie
theorem sc_told_tie : FnScope ["tie"] ["tie"] (defScope (top 22)) := ⟨rfl, rfl, rfl, by decide +kernel, rfl, by decide +kernel, by decide +kernel⟩
abbrev d_told_tie (vs : List V) : Ty := [.ow .fz]
theorem bd_told_tie (F : Facts P K mg) : Binds K F.fd_told_tie ["tie"] [] := F.d_told_tie.bindsN fun _ _ _ _ _ _ us hl => match us, hl with | [_], _ => rfl
theorem ok_told_tie (F : Facts P K mg) : FnOk P w K mg base (L2.CX P w) 1 (He.ga K "told_tie") F.fd_told_tie ["tie"] (pM K t_told_tie f_told_tie) := by
  have sc := sc_told_tie
  refine ok_def F.d_told_tie sc t_told_tie [] b_told_tie rfl rfl (fun cdv A outer s H vs E hr => ⟨d_told_tie vs, inT_out vs (le_any []) 0 t_told_tie.ps, ?_⟩) (.inl rfl)
  have tk : Takes (cxOf (L2.CX P w) P w K mg base ["tie"] "told_tie" (defScope (top 22)) (He.ga K "told_tie") cdv A outer s H E) (scF t_told_tie vs [] E).W := takes_of rfl rfl rfl rfl
  have hp : PassesOwn (model P w) (A.deeper (envOfC "told_tie" (defScope (top 22)) s.heap.objs.size (He.ga K "told_tie") cdv)) _ (cxOf (L2.CX P w) P w K mg base ["tie"] "told_tie" (defScope (top 22)) (He.ga K "told_tie") cdv A outer s H E).xe := PassesOwn.leaving
  have lr : LeT (d_told_tie vs) (scF t_told_tie vs [] E).tr := inT_out vs (le_any []) 0 t_told_tie.ps
  exact (s_cons (s_if (t_w (w_and (t_cmp (op_eqD hr.units) rel_eq (e_callB call_len rel_len rfl F.n_len bb_len (a_cons (e_var rfl rfl (vis_by rfl)) a_nil)) e_int (nomark _)) (w_and1 (t_cmp op_lt rel_lt (e_ix ix_seq rel_ix (e_var rfl rfl (vis_by rfl)) e_int fun _ _ => rfl) (e_ix ix_seq rel_ix (e_var rfl rfl (vis_by rfl)) e_int fun _ _ => rfl) (nomark _))))) (s_one (s_ret lr (e_tup (by decide) (al_cons (al_cons (al_cons (al_cons al_nil)))) (a_cons (e_ix ix_seq rel_ix (e_var rfl rfl (vis_by rfl)) e_int fun _ _ => rfl) (a_cons (e_ix ix_seq rel_ix (e_var rfl rfl (vis_by rfl)) e_int fun _ _ => rfl) (a_cons (e_ix ix_seq rel_ix (e_var rfl rfl (vis_by rfl)) e_int fun _ _ => rfl) (a_cons (e_ix ix_seq rel_ix (e_var rfl rfl (vis_by rfl)) e_int fun _ _ => rfl) a_nil))))))) s_nil)
  (s_one (s_ret lr (e_callT call_tuple_of rel_tuple rfl F.n_tuple bb_tuple (a_cons (e_var rfl rfl (vis_by rfl)) a_nil)))))
/-! ### Web_init -/
def t_Web_init : FT := ⟨[.o (.ob "Web"), .d, .d], .fz⟩
noncomputable def b_Web_init : MS :=
  (sSeq (sIf (mNot (mCall f_is_between [(.d (mVar 1)), (.d (mC (.int 1))), (.d (mC (.int 1000)))] [])) (sRaise "InvalidSize" "word" (mC (.str "points"))) sNil)
  (sSeq (sIf (mOr (mNot (mCall f_is_sequence [(.d (mVar 2))] [])) (mBin gtD (mFn lenD (aCons (mVar 2) aNil)) (mC (.int 3000)))) (sRaise "InvalidTies" "at" (mUn negD (mC (.int 1)))) sNil)
  (sSeq (sSet 3 (mLst aNil))
  (sSeq (sFor (iEnu (aCons (mVar 2) aNil)) (.tp [(.nm 4), (.nm 5)]) (sSeq (sIf (mNot (mCall f_is_tie [(.d (mVar 1)), (.d (mVar 5))] [])) (sRaise "InvalidTies" "at" (mVar 4)) sNil)
  (sApp 3 (mCall f_told_tie [(.d (mVar 5))] []))))
  (sSeq (sFldO "Web" 0 "points" (mVar 1))
  (sFldO "Web" 0 "ties" (mFn tupleD (aCons (mVar 3) aNil))))))))
noncomputable def f_Web_init : List D → RF := runF t_Web_init 6 b_Web_init
theorem sc_Web_init : FnScope ["self", "points", "ties", "told", "at", "tie"] ["self", "points", "ties"] (defScope (meth 20 0)) := ⟨rfl, rfl, rfl, by decide +kernel, rfl, by decide +kernel, by decide +kernel⟩
abbrev d_Web_init (vs : List V) : Ty := [.pr (.ob "Web") (vs.getD 0 .non), .ow .fz, .ow .fz, .ow (.lst .fz), .ow .fz, .ow .fz]
theorem bd_Web_init (F : Facts P K mg) : Binds K F.fd_Web_init ["self", "points", "ties"] [] := F.d_Web_init.bindsN fun _ _ _ _ _ _ us hl => match us, hl with | [_, _, _], _ => rfl
theorem ok_Web_init (F : Facts P K mg) : FnOk P w K mg base (L2.CX P w) 4 (He.ma K (He.ga K "Web") "__init__") F.fd_Web_init ["self", "points", "ties"] (pM K t_Web_init f_Web_init) := by
  have sc := sc_Web_init
  refine ok_def F.d_Web_init sc t_Web_init [.ow (.lst .fz), .ow .fz, .ow .fz] b_Web_init rfl rfl (fun cdv A outer s H vs E hr => ⟨(d_Web_init vs).set 3 (.ow .fz), leT_set (inT_out vs (le_any [.ow (.lst .fz), .ow .fz, .ow .fz]) 0 t_Web_init.ps) rfl, ?_⟩) (.inl rfl)
  have tk : Takes (cxOf (L2.CX P w) P w K mg base ["self", "points", "ties", "told", "at", "tie"] "Web.__init__" (defScope (meth 20 0)) (He.ma K (He.ga K "Web") "__init__") cdv A outer s H E) (scF t_Web_init vs [.ow (.lst .fz), .ow .fz, .ow .fz] E).W := takes_of rfl rfl rfl rfl
  have hp : PassesOwn (model P w) (A.deeper (envOfC "Web.__init__" (defScope (meth 20 0)) s.heap.objs.size (He.ma K (He.ga K "Web") "__init__") cdv)) _ (cxOf (L2.CX P w) P w K mg base ["self", "points", "ties", "told", "at", "tie"] "Web.__init__" (defScope (meth 20 0)) (He.ma K (He.ga K "Web") "__init__") cdv A outer s H E).xe := PassesOwn.leaving
  have lr : LeT (d_Web_init vs) (scF t_Web_init vs [.ow (.lst .fz), .ow .fz, .ow .fz] E).tr := inT_out vs (le_any [.ow (.lst .fz), .ow .fz, .ow .fz]) 0 t_Web_init.ps
  exact (s_cons (s_if (t_not (t_ofE (e_call (ps := [.d, .d, .d]) (dds := []) (ret := .fz) (ks := [(.d (mVar 1)), (.d (mC (.int 1))), (.d (mC (.int 1000)))]) tk ((ok_is_between F).mono (by decide)) hr rfl F.g_is_between F.d_is_between.kp (bd_is_between F) .nil (fun _ => is_nil) lr trivial (k_d (e_var rfl rfl (vis_by rfl)) (k_d e_int (k_d (let ⟨_, h⟩ := F.i_MOST_POINTS; e_gint rfl h) k_nil)))))) (s_one (s_raise rfl tk F.x_InvalidSize F.g_InvalidSize hr rfl lr e_str)) s_nil)
  (s_cons (s_if (t_w (w_or (t_not (t_ofE (e_call (ps := [.d]) (dds := []) (ret := .fz) (ks := [(.d (mVar 2))]) tk ((ok_is_sequence F).mono (by decide)) hr rfl F.g_is_sequence F.d_is_sequence.kp (bd_is_sequence F) .nil (fun _ => is_nil) lr trivial (k_d (e_var rfl rfl (vis_by rfl)) k_nil)))) (w_or1 (t_cmp op_gt rel_gt (e_callB call_len rel_len rfl F.n_len bb_len (a_cons (e_var rfl rfl (vis_by rfl)) a_nil)) (let ⟨_, h⟩ := F.i_MOST_TIES; e_gint rfl h) (nomark _))))) (s_one (s_raise rfl tk F.x_InvalidTies F.g_InvalidTies hr rfl lr (e_un un_neg rel_neg e_int))) s_nil)
  (s_cons (s_set rfl sc.nd rfl (loc_by rfl) (e_lst (by decide) al_nil a_nil))
  (s_cons (s_for hp rfl (i_enum rfl F.n_enumerate (a_cons (e_var rfl rfl (vis_by rfl)) a_nil)) (g_tup rfl rfl (gs_cons (g_name rfl sc.nd rfl (loc_by rfl)) (gs_cons (g_name rfl sc.nd rfl (loc_by rfl)) gs_nil))) (s_cons (s_if (t_not (t_ofE (e_call (ps := [.d, .d]) (dds := []) (ret := .fz) (ks := [(.d (mVar 1)), (.d (mVar 5))]) tk ((ok_is_tie F).mono (by decide)) hr rfl F.g_is_tie F.d_is_tie.kp (bd_is_tie F) .nil (fun _ => is_nil) lr trivial (k_d (e_var rfl rfl (vis_by rfl)) (k_d (e_var rfl rfl (vis_by rfl)) k_nil))))) (s_one (s_raise rfl tk F.x_InvalidTies F.g_InvalidTies hr rfl lr (e_var rfl rfl (vis_by rfl)))) s_nil)
  (s_one (s_app (.inl rfl) rfl (vis_by rfl) (e_call (ps := [.d]) (dds := []) (ret := .fz) (ks := [(.d (mVar 5))]) tk ((ok_told_tie F).mono (by decide)) hr rfl F.g_told_tie F.d_told_tie.kp (bd_told_tie F) .nil (fun _ => is_nil) lr trivial (k_d (e_var rfl rfl (vis_by rfl)) k_nil))))))
  (s_cons (s_fld (o := .fz) (.inr ⟨_, rfl⟩) F.cls_Web F.na_Web_points rfl (vis_by rfl) (e_var rfl rfl (vis_by rfl)))
  (s_frz (i := 3) rfl rfl (s_one (s_fld (o := .fz) (.inr ⟨_, rfl⟩) F.cls_Web F.na_Web_ties rfl (vis_by rfl) (e_callT call_tuple_of rel_tuple rfl F.n_tuple bb_tuple (a_cons (e_var rfl rfl (vis_by rfl)) a_nil))))))))))
/-! ### need_web -/
def t_need_web : FT := ⟨[.d, .d], .fz⟩
noncomputable def b_need_web : MS :=
  (sIf (mNot (mFn (isiD' kitC kitX) (aCons (mVar 0) (aCons (mC (.glo "Web")) aNil)))) (sRaise "InvalidWeb" "at" (mVar 1)) sNil)
noncomputable def f_need_web : List D → RF := runF t_need_web 2 b_need_web
theorem sc_need_web : FnScope ["web", "at"] ["web", "at"] (defScope (top 23)) := ⟨rfl, rfl, rfl, by decide +kernel, rfl, by decide +kernel, by decide +kernel⟩
abbrev d_need_web (vs : List V) : Ty := [.ow .fz, .ow .fz]
theorem bd_need_web_1 (F : Facts P K mg) : ∃ ds, Vals [.int (-1)] ds ∧ Binds K F.fd_need_web ["web", "at"] ds := F.d_need_web.binds1 1 0 (by simp) rfl fun _ _ _ _ _ _ _ us its hl hi => match us, hl, its, hi with | [u0], _, [v0], _ => ⟨_, rfl, rfl⟩
theorem bd_need_web_2 (F : Facts P K mg) : ∃ ds, Vals [] ds ∧ Binds K F.fd_need_web ["web", "at"] ds := F.d_need_web.binds1 2 1 (by simp) rfl fun _ _ _ _ _ _ _ us its hl hi => match us, hl, its, hi with | [u0, u1], _, [v0], _ => ⟨_, rfl, rfl⟩
theorem bd_need_web (F : Facts P K mg) : Binds K F.fd_need_web ["web", "at"] [] := by
  obtain ⟨ds, v, b⟩ := bd_need_web_2 F
  cases v
  exact b
theorem ok_need_web (F : Facts P K mg) : FnOk P w K mg base (L2.CX P w) 1 (He.ga K "need_web") F.fd_need_web ["web", "at"] (pM K t_need_web f_need_web) := by
  have sc := sc_need_web
  refine ok_def F.d_need_web sc t_need_web [] b_need_web rfl rfl (fun cdv A outer s H vs E hr => ⟨d_need_web vs, inT_out vs (le_any []) 0 t_need_web.ps, ?_⟩) (.inl rfl)
  have tk : Takes (cxOf (L2.CX P w) P w K mg base ["web", "at"] "need_web" (defScope (top 23)) (He.ga K "need_web") cdv A outer s H E) (scF t_need_web vs [] E).W := takes_of rfl rfl rfl rfl
  have hp : PassesOwn (model P w) (A.deeper (envOfC "need_web" (defScope (top 23)) s.heap.objs.size (He.ga K "need_web") cdv)) _ (cxOf (L2.CX P w) P w K mg base ["web", "at"] "need_web" (defScope (top 23)) (He.ga K "need_web") cdv A outer s H E).xe := PassesOwn.leaving
  have lr : LeT (d_need_web vs) (scF t_need_web vs [] E).tr := inT_out vs (le_any []) 0 t_need_web.ps
  exact (s_one (s_if (t_not (t_ofE (e_callB call_isiD (rel_isi F.kit) rfl F.n_isinstance bb_isinstance (a_cons (e_var rfl rfl (vis_by rfl)) (a_cons (e_glo rfl F.g_Web) a_nil))))) (s_one (s_raise rfl tk F.x_InvalidWeb F.g_InvalidWeb hr rfl lr (e_var rfl rfl (vis_by rfl)))) s_nil))
/-! ### are_bounds -/
def t_are_bounds : FT := ⟨[.d], .fz⟩
noncomputable def b_are_bounds : MS :=
  (sRet (mAnd (mCall f_is_row [(.d (mVar 0)), (.d (mC (.int 2)))] []) (mAnd (mCall f_is_integer [(.d (mBin ixD (mVar 0) (mC (.int 0))))] []) (mAnd (mCall f_is_integer [(.d (mBin ixD (mVar 0) (mC (.int 1))))] []) (mBin leD (mBin ixD (mVar 0) (mC (.int 0))) (mBin ixD (mVar 0) (mC (.int 1))))))))
noncomputable def f_are_bounds : List D → RF := runF t_are_bounds 1 b_are_bounds
theorem sc_are_bounds : FnScope ["value"] ["value"] (defScope (top 27)) := ⟨rfl, rfl, rfl, by decide +kernel, rfl, by decide +kernel, by decide +kernel⟩
abbrev d_are_bounds (vs : List V) : Ty := [.ow .fz]
theorem bd_are_bounds (F : Facts P K mg) : Binds K F.fd_are_bounds ["value"] [] := F.d_are_bounds.bindsN fun _ _ _ _ _ _ us hl => match us, hl with | [_], _ => rfl
theorem ok_are_bounds (F : Facts P K mg) : FnOk P w K mg base (L2.CX P w) 3 (He.ga K "are_bounds") F.fd_are_bounds ["value"] (pM K t_are_bounds f_are_bounds) := by
  have sc := sc_are_bounds
  refine ok_def F.d_are_bounds sc t_are_bounds [] b_are_bounds rfl rfl (fun cdv A outer s H vs E hr => ⟨d_are_bounds vs, inT_out vs (le_any []) 0 t_are_bounds.ps, ?_⟩) (.inl rfl)
  have tk : Takes (cxOf (L2.CX P w) P w K mg base ["value"] "are_bounds" (defScope (top 27)) (He.ga K "are_bounds") cdv A outer s H E) (scF t_are_bounds vs [] E).W := takes_of rfl rfl rfl rfl
  have hp : PassesOwn (model P w) (A.deeper (envOfC "are_bounds" (defScope (top 27)) s.heap.objs.size (He.ga K "are_bounds") cdv)) _ (cxOf (L2.CX P w) P w K mg base ["value"] "are_bounds" (defScope (top 27)) (He.ga K "are_bounds") cdv A outer s H E).xe := PassesOwn.leaving
  have lr : LeT (d_are_bounds vs) (scF t_are_bounds vs [] E).tr := inT_out vs (le_any []) 0 t_are_bounds.ps
  exact (s_one (s_ret lr (e_and (e_call (ps := [.d, .d]) (dds := []) (ret := .fz) (ks := [(.d (mVar 0)), (.d (mC (.int 2)))]) tk ((ok_is_row F).mono (by decide)) hr rfl F.g_is_row F.d_is_row.kp (bd_is_row F) .nil (fun _ => is_nil) lr trivial (k_d (e_var rfl rfl (vis_by rfl)) (k_d e_int k_nil))) (e_and (e_call (ps := [.d]) (dds := []) (ret := .fz) (ks := [(.d (mBin ixD (mVar 0) (mC (.int 0))))]) tk ((ok_is_integer F).mono (by decide)) hr rfl F.g_is_integer F.d_is_integer.kp (bd_is_integer F) .nil (fun _ => is_nil) lr trivial (k_d (e_ix ix_seq rel_ix (e_var rfl rfl (vis_by rfl)) e_int fun _ _ => rfl) k_nil)) (e_and (e_call (ps := [.d]) (dds := []) (ret := .fz) (ks := [(.d (mBin ixD (mVar 0) (mC (.int 1))))]) tk ((ok_is_integer F).mono (by decide)) hr rfl F.g_is_integer F.d_is_integer.kp (bd_is_integer F) .nil (fun _ => is_nil) lr trivial (k_d (e_ix ix_seq rel_ix (e_var rfl rfl (vis_by rfl)) e_int fun _ _ => rfl) k_nil)) (e_one (e_cmp op_le rel_le (e_ix ix_seq rel_ix (e_var rfl rfl (vis_by rfl)) e_int fun _ _ => rfl) (e_ix ix_seq rel_ix (e_var rfl rfl (vis_by rfl)) e_int fun _ _ => rfl) (nomark _))))))))
/-! ### Box_init -/
def t_Box_init : FT := ⟨[.o (.ob "Box"), .d, .d, .d], .fz⟩
noncomputable def b_Box_init : MS :=
  (sSeq (sExpr (mCall f_need_web [(.d (mVar 1))] [.int (-1)]))
  (sSeq (sIf (mNot (mCall f_is_row [(.d (mVar 2)), (.d (mFn lenD (aCons (mUn (fldD ["Web"] "ties") (mVar 1)) aNil)))] [])) (sRaise "InvalidBounds" "at" (mUn negD (mC (.int 1)))) sNil)
  (sSeq (sFor (iEnu (aCons (mVar 2) aNil)) (.tp [(.nm 4), (.nm 5)]) (sIf (mNot (mCall f_are_bounds [(.d (mVar 5))] [])) (sRaise "InvalidBounds" "at" (mVar 4)) sNil))
  (sSeq (sIf (mNot (mCall f_is_row [(.d (mVar 3)), (.d (mUn (fldD ["Web"] "points") (mVar 1)))] [])) (sRaise "InvalidTotals" "at" (mUn negD (mC (.int 1)))) sNil)
  (sSeq (sFor (iEnu (aCons (mVar 3) aNil)) (.tp [(.nm 4), (.nm 6)]) (sIf (mNot (mCall f_is_integer [(.d (mVar 6))] [])) (sRaise "InvalidTotals" "at" (mVar 4)) sNil))
  (sSeq (sFldO "Box" 0 "bounds" (mFn tupleD (aCons (mLc (iSeq (mVar 2)) (.tp [(.nm 7), (.nm 8)]) (mC (.bl true)) (mTup (aCons (mVar 7) (aCons (mVar 8) aNil))) [7, 8]) aNil)))
  (sFldO "Box" 0 "totals" (mFn tupleD (aCons (mVar 3) aNil)))))))))
noncomputable def f_Box_init : List D → RF := runF t_Box_init 9 b_Box_init
theorem sc_Box_init : FnScope ["self", "web", "bounds", "totals", "at", "pair", "total", "least", "greatest"] ["self", "web", "bounds", "totals"] (defScope (meth 28 0)) := ⟨rfl, rfl, rfl, by decide +kernel, rfl, by decide +kernel, by decide +kernel⟩
abbrev d_Box_init (vs : List V) : Ty := [.pr (.ob "Box") (vs.getD 0 .non), .ow .fz, .ow .fz, .ow .fz, .ow .fz, .ow .fz, .ow .fz, .ow .fz, .ow .fz]
theorem bd_Box_init (F : Facts P K mg) : Binds K F.fd_Box_init ["self", "web", "bounds", "totals"] [] := F.d_Box_init.bindsN fun _ _ _ _ _ _ us hl => match us, hl with | [_, _, _, _], _ => rfl
theorem ok_Box_init (F : Facts P K mg) : FnOk P w K mg base (L2.CX P w) 4 (He.ma K (He.ga K "Box") "__init__") F.fd_Box_init ["self", "web", "bounds", "totals"] (pM K t_Box_init f_Box_init) := by
  have sc := sc_Box_init
  obtain ⟨q1_ds, q1_v, q1_b⟩ := bd_need_web_1 F
  refine ok_def F.d_Box_init sc t_Box_init [.ow .fz, .ow .fz, .ow .fz, .ow .fz, .ow .fz] b_Box_init rfl rfl (fun cdv A outer s H vs E hr => ⟨d_Box_init vs, inT_out vs (le_any [.ow .fz, .ow .fz, .ow .fz, .ow .fz, .ow .fz]) 0 t_Box_init.ps, ?_⟩) (.inl rfl)
  have tk : Takes (cxOf (L2.CX P w) P w K mg base ["self", "web", "bounds", "totals", "at", "pair", "total", "least", "greatest"] "Box.__init__" (defScope (meth 28 0)) (He.ma K (He.ga K "Box") "__init__") cdv A outer s H E) (scF t_Box_init vs [.ow .fz, .ow .fz, .ow .fz, .ow .fz, .ow .fz] E).W := takes_of rfl rfl rfl rfl
  have hp : PassesOwn (model P w) (A.deeper (envOfC "Box.__init__" (defScope (meth 28 0)) s.heap.objs.size (He.ma K (He.ga K "Box") "__init__") cdv)) _ (cxOf (L2.CX P w) P w K mg base ["self", "web", "bounds", "totals", "at", "pair", "total", "least", "greatest"] "Box.__init__" (defScope (meth 28 0)) (He.ma K (He.ga K "Box") "__init__") cdv A outer s H E).xe := PassesOwn.leaving
  have lr : LeT (d_Box_init vs) (scF t_Box_init vs [.ow .fz, .ow .fz, .ow .fz, .ow .fz, .ow .fz] E).tr := inT_out vs (le_any [.ow .fz, .ow .fz, .ow .fz, .ow .fz, .ow .fz]) 0 t_Box_init.ps
  exact (s_cons (s_expr (e_call (ps := [.d]) (dds := [.int (-1)]) (ret := .fz) (ks := [(.d (mVar 1))]) tk ((ok_need_web F).mono (by decide)) hr rfl F.g_need_web F.d_need_web.kp q1_b q1_v (fun _ => is_ints [(-1)]) lr trivial (k_d (e_var rfl rfl (vis_by rfl)) k_nil)))
  (s_cons (s_if (t_not (t_ofE (e_call (ps := [.d, .d]) (dds := []) (ret := .fz) (ks := [(.d (mVar 2)), (.d (mFn lenD (aCons (mUn (fldD ["Web"] "ties") (mVar 1)) aNil)))]) tk ((ok_is_row F).mono (by decide)) hr rfl F.g_is_row F.d_is_row.kp (bd_is_row F) .nil (fun _ => is_nil) lr trivial (k_d (e_var rfl rfl (vis_by rfl)) (k_d (e_callB call_len rel_len rfl F.n_len bb_len (a_cons (e_fld (all_cons F.cls_Web all_nil) (all_cons F.na_Web_ties all_nil) (e_var rfl rfl (vis_by rfl))) a_nil)) k_nil))))) (s_one (s_raise rfl tk F.x_InvalidBounds F.g_InvalidBounds hr rfl lr (e_un un_neg rel_neg e_int))) s_nil)
  (s_cons (s_for hp rfl (i_enum rfl F.n_enumerate (a_cons (e_var rfl rfl (vis_by rfl)) a_nil)) (g_tup rfl rfl (gs_cons (g_name rfl sc.nd rfl (loc_by rfl)) (gs_cons (g_name rfl sc.nd rfl (loc_by rfl)) gs_nil))) (s_one (s_if (t_not (t_ofE (e_call (ps := [.d]) (dds := []) (ret := .fz) (ks := [(.d (mVar 5))]) tk ((ok_are_bounds F).mono (by decide)) hr rfl F.g_are_bounds F.d_are_bounds.kp (bd_are_bounds F) .nil (fun _ => is_nil) lr trivial (k_d (e_var rfl rfl (vis_by rfl)) k_nil)))) (s_one (s_raise rfl tk F.x_InvalidBounds F.g_InvalidBounds hr rfl lr (e_var rfl rfl (vis_by rfl)))) s_nil)))
  (s_cons (s_if (t_not (t_ofE (e_call (ps := [.d, .d]) (dds := []) (ret := .fz) (ks := [(.d (mVar 3)), (.d (mUn (fldD ["Web"] "points") (mVar 1)))]) tk ((ok_is_row F).mono (by decide)) hr rfl F.g_is_row F.d_is_row.kp (bd_is_row F) .nil (fun _ => is_nil) lr trivial (k_d (e_var rfl rfl (vis_by rfl)) (k_d (e_fld (all_cons F.cls_Web all_nil) (all_cons F.na_Web_points all_nil) (e_var rfl rfl (vis_by rfl))) k_nil))))) (s_one (s_raise rfl tk F.x_InvalidTotals F.g_InvalidTotals hr rfl lr (e_un un_neg rel_neg e_int))) s_nil)
  (s_cons (s_for hp rfl (i_enum rfl F.n_enumerate (a_cons (e_var rfl rfl (vis_by rfl)) a_nil)) (g_tup rfl rfl (gs_cons (g_name rfl sc.nd rfl (loc_by rfl)) (gs_cons (g_name rfl sc.nd rfl (loc_by rfl)) gs_nil))) (s_one (s_if (t_not (t_ofE (e_call (ps := [.d]) (dds := []) (ret := .fz) (ks := [(.d (mVar 6))]) tk ((ok_is_integer F).mono (by decide)) hr rfl F.g_is_integer F.d_is_integer.kp (bd_is_integer F) .nil (fun _ => is_nil) lr trivial (k_d (e_var rfl rfl (vis_by rfl)) k_nil)))) (s_one (s_raise rfl tk F.x_InvalidTotals F.g_InvalidTotals hr rfl lr (e_var rfl rfl (vis_by rfl)))) s_nil)))
  (s_cons (s_fld (o := .fz) (.inr ⟨_, rfl⟩) F.cls_Box F.na_Box_bounds rfl (vis_by rfl) (e_callT call_tuple_of rel_tuple rfl F.n_tuple bb_tuple (a_cons (e_fz rfl (e_lc rfl sc.nd (i_seq (e_var rfl rfl (vis_by rfl))) (own := [("least", 7), ("greatest", 8)]) (blkOk_by (by kernel_rfl)) (allFz ⟨rfl, ⟨rfl, trivial⟩⟩) (by decide) (fun _ _ _ _ _ => (g_tup rfl rfl (gs_cons (g_name rfl sc.nd rfl (loc_by rfl)) (gs_cons (g_name rfl sc.nd rfl (loc_by rfl)) gs_nil)))) (fun _ _ _ _ _ => t_yes) (fun _ _ _ _ _ => (e_tup (by decide) (al_cons (al_cons al_nil)) (a_cons (e_var rfl rfl (vis_by rfl)) (a_cons (e_var rfl rfl (vis_by rfl)) a_nil)))))) a_nil)))
  (s_one (s_fld (o := .fz) (.inr ⟨_, rfl⟩) F.cls_Box F.na_Box_totals rfl (vis_by rfl) (e_callT call_tuple_of rel_tuple rfl F.n_tuple bb_tuple (a_cons (e_var rfl rfl (vis_by rfl)) a_nil))))))))))
/-! ### _law_are_ints -/
def t__law_are_ints : FT := ⟨[.d, .d], .fz⟩
noncomputable def b__law_are_ints : MS :=
  (sSeq (sIf (mOr (mNot (mFn (isiD' kitC kitX) (aCons (mVar 0) (aCons (mC (.ty "tuple")) aNil)))) (mBin neD (mFn lenD (aCons (mVar 0) aNil)) (mVar 1))) (sRet (mC (.bl false))) sNil)
  (sRet (mBin eqD (mLc (iSeq (mVar 0)) (.nm 2) (mOr (mNot (mFn (isiD' kitC kitX) (aCons (mVar 2) (aCons (mC (.ty "int")) aNil)))) (mFn (isiD' kitC kitX) (aCons (mVar 2) (aCons (mC (.ty "bool")) aNil)))) (mVar 2) [2]) (mLst aNil))))
noncomputable def f__law_are_ints : List D → RF := runF t__law_are_ints 3 b__law_are_ints
theorem sc__law_are_ints : FnScope ["value", "many", "part"] ["value", "many"] (defScope (top 56)) := ⟨rfl, rfl, rfl, by decide +kernel, rfl, by decide +kernel, by decide +kernel⟩
abbrev d__law_are_ints (vs : List V) : Ty := [.ow .fz, .ow .fz, .ow .fz]
theorem bd__law_are_ints (F : Facts P K mg) : Binds K F.fd__law_are_ints ["value", "many"] [] := F.d__law_are_ints.bindsN fun _ _ _ _ _ _ us hl => match us, hl with | [_, _], _ => rfl
theorem ok__law_are_ints (F : Facts P K mg) : FnOk P w K mg base (L2.CX P w) 1 (He.ga K "_law_are_ints") F.fd__law_are_ints ["value", "many"] (pM K t__law_are_ints f__law_are_ints) := by
  have sc := sc__law_are_ints
  refine ok_def F.d__law_are_ints sc t__law_are_ints [.ow .fz] b__law_are_ints rfl rfl (fun cdv A outer s H vs E hr => ⟨d__law_are_ints vs, inT_out vs (le_any [.ow .fz]) 0 t__law_are_ints.ps, ?_⟩) (.inl rfl)
  have tk : Takes (cxOf (L2.CX P w) P w K mg base ["value", "many", "part"] "_law_are_ints" (defScope (top 56)) (He.ga K "_law_are_ints") cdv A outer s H E) (scF t__law_are_ints vs [.ow .fz] E).W := takes_of rfl rfl rfl rfl
  have hp : PassesOwn (model P w) (A.deeper (envOfC "_law_are_ints" (defScope (top 56)) s.heap.objs.size (He.ga K "_law_are_ints") cdv)) _ (cxOf (L2.CX P w) P w K mg base ["value", "many", "part"] "_law_are_ints" (defScope (top 56)) (He.ga K "_law_are_ints") cdv A outer s H E).xe := PassesOwn.leaving
  have lr : LeT (d__law_are_ints vs) (scF t__law_are_ints vs [.ow .fz] E).tr := inT_out vs (le_any [.ow .fz]) 0 t__law_are_ints.ps
  exact (s_cons (s_if (t_w (w_or (t_not (t_ofE (e_callB call_isiD (rel_isi F.kit) rfl F.n_isinstance bb_isinstance (a_cons (e_var rfl rfl (vis_by rfl)) (a_cons (e_tyn rfl F.n_tuple bb_tuple) a_nil))))) (w_or1 (t_cmp (op_neD hr.units) rel_ne (e_callB call_len rel_len rfl F.n_len bb_len (a_cons (e_var rfl rfl (vis_by rfl)) a_nil)) (e_var rfl rfl (vis_by rfl)) (nomark _))))) (s_one (s_ret lr e_bl)) s_nil)
  (s_one (s_ret lr (e_cmp (op_eqD hr.units) rel_eq (e_fz rfl (e_lc rfl sc.nd (i_seq (e_var rfl rfl (vis_by rfl))) (own := [("part", 2)]) (blkOk_by (by kernel_rfl)) (allFz ⟨rfl, trivial⟩) (by decide) (fun _ _ _ _ _ => (g_name rfl sc.nd rfl (loc_by rfl))) (fun _ _ _ _ _ => (t_one (t_w (w_or (t_not (t_ofE (e_callB call_isiD (rel_isi F.kit) rfl F.n_isinstance bb_isinstance (a_cons (e_var rfl rfl (vis_by rfl)) (a_cons (e_tyn rfl F.n_int bb_int) a_nil))))) (w_or1 (t_ofE (e_callB call_isiD (rel_isi F.kit) rfl F.n_isinstance bb_isinstance (a_cons (e_var rfl rfl (vis_by rfl)) (a_cons (e_tyn rfl F.n_bool bb_bool) a_nil))))))))) (fun _ _ _ _ _ => (e_var rfl rfl (vis_by rfl))))) (e_fz rfl (e_lst (by decide) al_nil a_nil)) (nomark _)))))
/-! ### _law_ends -/
def t__law_ends : FT := ⟨[.d], .fz⟩
noncomputable def b__law_ends : MS :=
  (sRet (mIf (mBin eqD (mFn lenD (aCons (mVar 0) aNil)) (mC (.int 2))) (mLst (aCons (mTup (aCons (mBin ixD (mVar 0) (mC (.int 0))) (aCons (mBin ixD (mVar 0) (mC (.int 1))) aNil))) aNil)) (mLst (aCons (mTup (aCons (mBin ixD (mVar 0) (mC (.int 0))) (aCons (mBin ixD (mVar 0) (mC (.int 1))) aNil))) (aCons (mTup (aCons (mBin ixD (mVar 0) (mC (.int 2))) (aCons (mBin ixD (mVar 0) (mC (.int 3))) aNil))) aNil)))))
noncomputable def f__law_ends : List D → RF := runF t__law_ends 1 b__law_ends
theorem sc__law_ends : FnScope ["tie"] ["tie"] (defScope (top 52)) := ⟨rfl, rfl, rfl, by decide +kernel, rfl, by decide +kernel, by decide +kernel⟩
abbrev d__law_ends (vs : List V) : Ty := [.ow .fz]
theorem bd__law_ends (F : Facts P K mg) : Binds K F.fd__law_ends ["tie"] [] := F.d__law_ends.bindsN fun _ _ _ _ _ _ us hl => match us, hl with | [_], _ => rfl
theorem ok__law_ends (F : Facts P K mg) : FnOk P w K mg base (L2.CX P w) 1 (He.ga K "_law_ends") F.fd__law_ends ["tie"] (pM K t__law_ends f__law_ends) := by
  have sc := sc__law_ends
  refine ok_def F.d__law_ends sc t__law_ends [] b__law_ends rfl rfl (fun cdv A outer s H vs E hr => ⟨d__law_ends vs, inT_out vs (le_any []) 0 t__law_ends.ps, ?_⟩) (.inl rfl)
  have tk : Takes (cxOf (L2.CX P w) P w K mg base ["tie"] "_law_ends" (defScope (top 52)) (He.ga K "_law_ends") cdv A outer s H E) (scF t__law_ends vs [] E).W := takes_of rfl rfl rfl rfl
  have hp : PassesOwn (model P w) (A.deeper (envOfC "_law_ends" (defScope (top 52)) s.heap.objs.size (He.ga K "_law_ends") cdv)) _ (cxOf (L2.CX P w) P w K mg base ["tie"] "_law_ends" (defScope (top 52)) (He.ga K "_law_ends") cdv A outer s H E).xe := PassesOwn.leaving
  have lr : LeT (d__law_ends vs) (scF t__law_ends vs [] E).tr := inT_out vs (le_any []) 0 t__law_ends.ps
  exact (s_one (s_ret lr (e_fz rfl (e_if (t_cmp (op_eqD hr.units) rel_eq (e_callB call_len rel_len rfl F.n_len bb_len (a_cons (e_var rfl rfl (vis_by rfl)) a_nil)) e_int (nomark _)) (e_lst (by decide) (al_cons al_nil) (a_cons (e_tup (by decide) (al_cons (al_cons al_nil)) (a_cons (e_ix ix_seq rel_ix (e_var rfl rfl (vis_by rfl)) e_int fun _ _ => rfl) (a_cons (e_ix ix_seq rel_ix (e_var rfl rfl (vis_by rfl)) e_int fun _ _ => rfl) a_nil))) a_nil)) (e_lst (by decide) (al_cons (al_cons al_nil)) (a_cons (e_tup (by decide) (al_cons (al_cons al_nil)) (a_cons (e_ix ix_seq rel_ix (e_var rfl rfl (vis_by rfl)) e_int fun _ _ => rfl) (a_cons (e_ix ix_seq rel_ix (e_var rfl rfl (vis_by rfl)) e_int fun _ _ => rfl) a_nil))) (a_cons (e_tup (by decide) (al_cons (al_cons al_nil)) (a_cons (e_ix ix_seq rel_ix (e_var rfl rfl (vis_by rfl)) e_int fun _ _ => rfl) (a_cons (e_ix ix_seq rel_ix (e_var rfl rfl (vis_by rfl)) e_int fun _ _ => rfl) a_nil))) a_nil)))))))
/-! ### _law_sums -/
def t__law_sums : FT := ⟨[.d, .d, .d], (.lst .fz)⟩
noncomputable def b__law_sums : MS :=
  (sSeq (sSet 3 (mBin repD (mLst (aCons (mC (.int 0)) aNil)) (mVar 0)))
  (sSeq (sFor (iZp2 (aCons (mVar 1) (aCons (mVar 2) aNil))) (.tp [(.nm 4), (.nm 5)]) (sFor (iSeq (mCall f__law_ends [(.d (mVar 4))] [])) (.tp [(.nm 6), (.nm 7)]) (sOset 3 (mVar 6) (mBin addD (mOix 3 (mVar 6)) (mBin mulD (mVar 7) (mVar 5))))))
  (sRet (mVar 3))))
noncomputable def f__law_sums : List D → RF := runF t__law_sums 8 b__law_sums
theorem sc__law_sums : FnScope ["points", "ties", "numbers", "sums", "tie", "number", "point", "sign"] ["points", "ties", "numbers"] (defScope (top 53)) := ⟨rfl, rfl, rfl, by decide +kernel, rfl, by decide +kernel, by decide +kernel⟩
abbrev d__law_sums (vs : List V) : Ty := [.ow .fz, .ow .fz, .ow .fz, .ow (.lst .fz), .ow .fz, .ow .fz, .ow .fz, .ow .fz]
theorem bd__law_sums (F : Facts P K mg) : Binds K F.fd__law_sums ["points", "ties", "numbers"] [] := F.d__law_sums.bindsN fun _ _ _ _ _ _ us hl => match us, hl with | [_, _, _], _ => rfl
theorem nx__law_sums : ∀ e e2, b__law_sums e ≠ .nx e2 := (nx_seq (nx_seq nx_ret))
theorem ok__law_sums (F : Facts P K mg) : FnOk P w K mg base (L2.CX P w) 2 (He.ga K "_law_sums") F.fd__law_sums ["points", "ties", "numbers"] (pM K t__law_sums f__law_sums) := by
  have sc := sc__law_sums
  refine ok_def F.d__law_sums sc t__law_sums [.ow (.lst .fz), .ow .fz, .ow .fz, .ow .fz, .ow .fz] b__law_sums rfl rfl (fun cdv A outer s H vs E hr => ⟨d__law_sums vs, inT_out vs (le_any [.ow (.lst .fz), .ow .fz, .ow .fz, .ow .fz, .ow .fz]) 0 t__law_sums.ps, ?_⟩) (.inr nx__law_sums)
  have tk : Takes (cxOf (L2.CX P w) P w K mg base ["points", "ties", "numbers", "sums", "tie", "number", "point", "sign"] "_law_sums" (defScope (top 53)) (He.ga K "_law_sums") cdv A outer s H E) (scF t__law_sums vs [.ow (.lst .fz), .ow .fz, .ow .fz, .ow .fz, .ow .fz] E).W := takes_of rfl rfl rfl rfl
  have hp : PassesOwn (model P w) (A.deeper (envOfC "_law_sums" (defScope (top 53)) s.heap.objs.size (He.ga K "_law_sums") cdv)) _ (cxOf (L2.CX P w) P w K mg base ["points", "ties", "numbers", "sums", "tie", "number", "point", "sign"] "_law_sums" (defScope (top 53)) (He.ga K "_law_sums") cdv A outer s H E).xe := PassesOwn.leaving
  have lr : LeT (d__law_sums vs) (scF t__law_sums vs [.ow (.lst .fz), .ow .fz, .ow .fz, .ow .fz, .ow .fz] E).tr := inT_out vs (le_any [.ow (.lst .fz), .ow .fz, .ow .fz, .ow .fz, .ow .fz]) 0 t__law_sums.ps
  exact (s_cons (s_set rfl sc.nd rfl (loc_by rfl) (e_rep (e_fz rfl (e_lst (by decide) (al_cons al_nil) (a_cons e_int a_nil))) (e_var rfl rfl (vis_by rfl))))
  (s_cons (s_for hp rfl (i_zip2 rfl F.n_zip (a_cons (e_var rfl rfl (vis_by rfl)) (a_cons (e_var rfl rfl (vis_by rfl)) a_nil))) (g_tup rfl rfl (gs_cons (g_name rfl sc.nd rfl (loc_by rfl)) (gs_cons (g_name rfl sc.nd rfl (loc_by rfl)) gs_nil))) (s_one (s_for hp rfl (i_seq (e_call (ps := [.d]) (dds := []) (ret := .fz) (ks := [(.d (mVar 4))]) tk ((ok__law_ends F).mono (by decide)) hr rfl F.g__law_ends F.d__law_ends.kp (bd__law_ends F) .nil (fun _ => is_nil) lr trivial (k_d (e_var rfl rfl (vis_by rfl)) k_nil))) (g_tup rfl rfl (gs_cons (g_name rfl sc.nd rfl (loc_by rfl)) (gs_cons (g_name rfl sc.nd rfl (loc_by rfl)) gs_nil))) (s_one (s_oset (.inl rfl) rfl (vis_by rfl) (e_var rfl rfl (vis_by rfl)) (e_bin op_addD rel_add (e_rix (.inl rfl) rfl (vis_by rfl) (e_var rfl rfl (vis_by rfl)) fun _ _ => rfl) (e_bin op_mulD rel_mul (e_var rfl rfl (vis_by rfl)) (e_var rfl rfl (vis_by rfl)))))))))
  (s_one (s_retO rfl rfl lr rfl rfl (vis_by rfl)))))
/-! ### _law_fills -/
def t__law_fills : FT := ⟨[.d, .d, .d, .d, .d], .fz⟩
noncomputable def b__law_fills : MS :=
  (sSeq (sIf (mNot (mCall f__law_are_ints [(.d (mVar 4)), (.d (mFn lenD (aCons (mVar 1) aNil)))] [])) (sRet (mC (.bl false))) sNil)
  (sSeq (sIf (mBin neD (mLc (iZp2 (aCons (mVar 4) (aCons (mVar 2) aNil))) (.tp [(.nm 5), (.nm 6)]) (mOr (mBin ltD (mVar 5) (mBin mulD (mC (.int 2)) (mBin ixD (mVar 6) (mC (.int 0))))) (mBin gtD (mVar 5) (mBin mulD (mC (.int 2)) (mBin ixD (mVar 6) (mC (.int 1)))))) (mC (.int 1)) [5, 6]) (mLst aNil)) (sRet (mC (.bl false))) sNil)
  (sRet (mBin eqD (mCall f__law_sums [(.d (mVar 0)), (.d (mVar 1)), (.d (mVar 4))] []) (mLc (iSeq (mVar 3)) (.nm 7) (mC (.bl true)) (mBin mulD (mC (.int 2)) (mVar 7)) [7])))))
noncomputable def f__law_fills : List D → RF := runF t__law_fills 8 b__law_fills
theorem sc__law_fills : FnScope ["points", "ties", "bounds", "totals", "z", "number", "both", "total"] ["points", "ties", "bounds", "totals", "z"] (defScope (top 57)) := ⟨rfl, rfl, rfl, by decide +kernel, rfl, by decide +kernel, by decide +kernel⟩
abbrev d__law_fills (vs : List V) : Ty := [.ow .fz, .ow .fz, .ow .fz, .ow .fz, .ow .fz, .ow .fz, .ow .fz, .ow .fz]
theorem bd__law_fills (F : Facts P K mg) : Binds K F.fd__law_fills ["points", "ties", "bounds", "totals", "z"] [] := F.d__law_fills.bindsN fun _ _ _ _ _ _ us hl => match us, hl with | [_, _, _, _, _], _ => rfl
theorem ok__law_fills (F : Facts P K mg) : FnOk P w K mg base (L2.CX P w) 3 (He.ga K "_law_fills") F.fd__law_fills ["points", "ties", "bounds", "totals", "z"] (pM K t__law_fills f__law_fills) := by
  have sc := sc__law_fills
  refine ok_def F.d__law_fills sc t__law_fills [.ow .fz, .ow .fz, .ow .fz] b__law_fills rfl rfl (fun cdv A outer s H vs E hr => ⟨d__law_fills vs, inT_out vs (le_any [.ow .fz, .ow .fz, .ow .fz]) 0 t__law_fills.ps, ?_⟩) (.inl rfl)
  have tk : Takes (cxOf (L2.CX P w) P w K mg base ["points", "ties", "bounds", "totals", "z", "number", "both", "total"] "_law_fills" (defScope (top 57)) (He.ga K "_law_fills") cdv A outer s H E) (scF t__law_fills vs [.ow .fz, .ow .fz, .ow .fz] E).W := takes_of rfl rfl rfl rfl
  have hp : PassesOwn (model P w) (A.deeper (envOfC "_law_fills" (defScope (top 57)) s.heap.objs.size (He.ga K "_law_fills") cdv)) _ (cxOf (L2.CX P w) P w K mg base ["points", "ties", "bounds", "totals", "z", "number", "both", "total"] "_law_fills" (defScope (top 57)) (He.ga K "_law_fills") cdv A outer s H E).xe := PassesOwn.leaving
  have lr : LeT (d__law_fills vs) (scF t__law_fills vs [.ow .fz, .ow .fz, .ow .fz] E).tr := inT_out vs (le_any [.ow .fz, .ow .fz, .ow .fz]) 0 t__law_fills.ps
  exact (s_cons (s_if (t_not (t_ofE (e_call (ps := [.d, .d]) (dds := []) (ret := .fz) (ks := [(.d (mVar 4)), (.d (mFn lenD (aCons (mVar 1) aNil)))]) tk ((ok__law_are_ints F).mono (by decide)) hr rfl F.g__law_are_ints F.d__law_are_ints.kp (bd__law_are_ints F) .nil (fun _ => is_nil) lr trivial (k_d (e_var rfl rfl (vis_by rfl)) (k_d (e_callB call_len rel_len rfl F.n_len bb_len (a_cons (e_var rfl rfl (vis_by rfl)) a_nil)) k_nil))))) (s_one (s_ret lr e_bl)) s_nil)
  (s_cons (s_if (t_cmp (op_neD hr.units) rel_ne (e_fz rfl (e_lc rfl sc.nd (i_zip2 rfl F.n_zip (a_cons (e_var rfl rfl (vis_by rfl)) (a_cons (e_var rfl rfl (vis_by rfl)) a_nil))) (own := [("number", 5), ("both", 6)]) (blkOk_by (by kernel_rfl)) (allFz ⟨rfl, ⟨rfl, trivial⟩⟩) (by decide) (fun _ _ _ _ _ => (g_tup rfl rfl (gs_cons (g_name rfl sc.nd rfl (loc_by rfl)) (gs_cons (g_name rfl sc.nd rfl (loc_by rfl)) gs_nil)))) (fun _ _ _ _ _ => (t_one (t_w (w_or (t_cmp op_lt rel_lt (e_var rfl rfl (vis_by rfl)) (e_bin op_mulD rel_mul e_int (e_ix ix_seq rel_ix (e_var rfl rfl (vis_by rfl)) e_int fun _ _ => rfl)) (nomark _)) (w_or1 (t_cmp op_gt rel_gt (e_var rfl rfl (vis_by rfl)) (e_bin op_mulD rel_mul e_int (e_ix ix_seq rel_ix (e_var rfl rfl (vis_by rfl)) e_int fun _ _ => rfl)) (nomark _))))))) (fun _ _ _ _ _ => e_int))) (e_fz rfl (e_lst (by decide) al_nil a_nil)) (nomark _)) (s_one (s_ret lr e_bl)) s_nil)
  (s_one (s_ret lr (e_cmp (op_eqD hr.units) rel_eq (e_fz rfl (e_call (ps := [.d, .d, .d]) (dds := []) (ret := (.lst .fz)) (ks := [(.d (mVar 0)), (.d (mVar 1)), (.d (mVar 4))]) tk ((ok__law_sums F).mono (by decide)) hr rfl F.g__law_sums F.d__law_sums.kp (bd__law_sums F) .nil (fun _ => is_nil) lr trivial (k_d (e_var rfl rfl (vis_by rfl)) (k_d (e_var rfl rfl (vis_by rfl)) (k_d (e_var rfl rfl (vis_by rfl)) k_nil))))) (e_fz rfl (e_lc rfl sc.nd (i_seq (e_var rfl rfl (vis_by rfl))) (own := [("total", 7)]) (blkOk_by (by kernel_rfl)) (allFz ⟨rfl, trivial⟩) (by decide) (fun _ _ _ _ _ => (g_name rfl sc.nd rfl (loc_by rfl))) (fun _ _ _ _ _ => t_yes) (fun _ _ _ _ _ => (e_bin op_mulD rel_mul e_int (e_var rfl rfl (vis_by rfl)))))) (nomark _))))))
/-! ### _law_are_signs -/
def t__law_are_signs : FT := ⟨[.d, .d], .fz⟩
noncomputable def b__law_are_signs : MS :=
  (sRet (mAnd (mCall f__law_are_ints [(.d (mVar 0)), (.d (mVar 1))] []) (mBin eqD (mLc (iSeq (mVar 0)) (.nm 2) (mBin gtD (mFn absD (aCons (mVar 2) aNil)) (mC (.int 1))) (mVar 2) [2]) (mLst aNil))))
noncomputable def f__law_are_signs : List D → RF := runF t__law_are_signs 3 b__law_are_signs
theorem sc__law_are_signs : FnScope ["value", "points", "part"] ["value", "points"] (defScope (top 58)) := ⟨rfl, rfl, rfl, by decide +kernel, rfl, by decide +kernel, by decide +kernel⟩
abbrev d__law_are_signs (vs : List V) : Ty := [.ow .fz, .ow .fz, .ow .fz]
theorem bd__law_are_signs (F : Facts P K mg) : Binds K F.fd__law_are_signs ["value", "points"] [] := F.d__law_are_signs.bindsN fun _ _ _ _ _ _ us hl => match us, hl with | [_, _], _ => rfl
theorem ok__law_are_signs (F : Facts P K mg) : FnOk P w K mg base (L2.CX P w) 2 (He.ga K "_law_are_signs") F.fd__law_are_signs ["value", "points"] (pM K t__law_are_signs f__law_are_signs) := by
  have sc := sc__law_are_signs
  refine ok_def F.d__law_are_signs sc t__law_are_signs [.ow .fz] b__law_are_signs rfl rfl (fun cdv A outer s H vs E hr => ⟨d__law_are_signs vs, inT_out vs (le_any [.ow .fz]) 0 t__law_are_signs.ps, ?_⟩) (.inl rfl)
  have tk : Takes (cxOf (L2.CX P w) P w K mg base ["value", "points", "part"] "_law_are_signs" (defScope (top 58)) (He.ga K "_law_are_signs") cdv A outer s H E) (scF t__law_are_signs vs [.ow .fz] E).W := takes_of rfl rfl rfl rfl
  have hp : PassesOwn (model P w) (A.deeper (envOfC "_law_are_signs" (defScope (top 58)) s.heap.objs.size (He.ga K "_law_are_signs") cdv)) _ (cxOf (L2.CX P w) P w K mg base ["value", "points", "part"] "_law_are_signs" (defScope (top 58)) (He.ga K "_law_are_signs") cdv A outer s H E).xe := PassesOwn.leaving
  have lr : LeT (d__law_are_signs vs) (scF t__law_are_signs vs [.ow .fz] E).tr := inT_out vs (le_any [.ow .fz]) 0 t__law_are_signs.ps
  exact (s_one (s_ret lr (e_and (e_call (ps := [.d, .d]) (dds := []) (ret := .fz) (ks := [(.d (mVar 0)), (.d (mVar 1))]) tk ((ok__law_are_ints F).mono (by decide)) hr rfl F.g__law_are_ints F.d__law_are_ints.kp (bd__law_are_ints F) .nil (fun _ => is_nil) lr trivial (k_d (e_var rfl rfl (vis_by rfl)) (k_d (e_var rfl rfl (vis_by rfl)) k_nil))) (e_one (e_cmp (op_eqD hr.units) rel_eq (e_fz rfl (e_lc rfl sc.nd (i_seq (e_var rfl rfl (vis_by rfl))) (own := [("part", 2)]) (blkOk_by (by kernel_rfl)) (allFz ⟨rfl, trivial⟩) (by decide) (fun _ _ _ _ _ => (g_name rfl sc.nd rfl (loc_by rfl))) (fun _ _ _ _ _ => (t_one (t_cmp op_gt rel_gt (e_callB call_abs rel_abs rfl F.n_abs bb_abs (a_cons (e_var rfl rfl (vis_by rfl)) a_nil)) e_int (nomark _)))) (fun _ _ _ _ _ => (e_var rfl rfl (vis_by rfl))))) (e_fz rfl (e_lst (by decide) al_nil a_nil)) (nomark _))))))
/-! ### _law_is -/
def t__law_is : FT := ⟨[.d, .d], .fz⟩
noncomputable def b__law_is (g : List D → RF) : MS :=
  (sSeq (sIf (mFn (isiD' kitC kitX) (aCons (mVar 1) (aCons (mC (.ty "tuple")) aNil))) (sSeq (sIf (mOr (mNot (mFn (isiD' kitC kitX) (aCons (mVar 0) (aCons (mC (.ty "tuple")) aNil)))) (mBin neD (mFn lenD (aCons (mVar 0) aNil)) (mFn lenD (aCons (mVar 1) aNil)))) (sRet (mC (.bl false))) sNil)
  (sRet (mBin eqD (mLc (iZp2 (aCons (mVar 0) (aCons (mVar 1) aNil))) (.tp [(.nm 2), (.nm 3)]) (mNot (mCall g [(.d (mVar 2)), (.d (mVar 3))] [])) (mC (.int 1)) [2, 3]) (mLst aNil)))) sNil)
  (sSeq (sIf (mOr (mBin isND (mVar 1) (mC .non)) (mOr (mBin isBD (mVar 1) (mC (.bl true))) (mBin isBD (mVar 1) (mC (.bl false))))) (sRet (mIf (mBin isND (mVar 1) (mC .non)) (mBin isND (mVar 0) (mC .non)) (mIf (mBin isBD (mVar 1) (mC (.bl true))) (mBin isBD (mVar 0) (mC (.bl true))) (mBin isBD (mVar 0) (mC (.bl false)))))) sNil)
  (sSeq (sIf (mFn (isiD' kitC kitX) (aCons (mVar 1) (aCons (mC (.ty "int")) aNil))) (sRet (mAnd (mFn (isiD' kitC kitX) (aCons (mVar 0) (aCons (mC (.ty "int")) aNil))) (mAnd (mNot (mFn (isiD' kitC kitX) (aCons (mVar 0) (aCons (mC (.ty "bool")) aNil)))) (mBin eqD (mVar 0) (mVar 1))))) sNil)
  (sRet (mAnd (mFn (isiD' kitC kitX) (aCons (mVar 1) (aCons (mC (.ty "str")) aNil))) (mAnd (mFn (isiD' kitC kitX) (aCons (mVar 0) (aCons (mC (.ty "str")) aNil))) (mBin eqD (mVar 0) (mVar 1))))))))
noncomputable def f__law_is : Nat → List D → RF
  | 0 => fun _ => .bad
  | n + 1 => runF t__law_is 4 (b__law_is (f__law_is n))
theorem sc__law_is : FnScope ["told", "due", "one", "other"] ["told", "due"] (defScope (top 47)) := ⟨rfl, rfl, rfl, by decide +kernel, rfl, by decide +kernel, by decide +kernel⟩
abbrev d__law_is (vs : List V) : Ty := [.ow .fz, .ow .fz, .ow .fz, .ow .fz]
theorem bd__law_is (F : Facts P K mg) : Binds K F.fd__law_is ["told", "due"] [] := F.d__law_is.bindsN fun _ _ _ _ _ _ us hl => match us, hl with | [_, _], _ => rfl
theorem ok__law_is (F : Facts P K mg) : ∀ n : Nat, FnOk P w K mg base (L2.CX P w) (1 + n) (He.ga K "_law_is") F.fd__law_is ["told", "due"] (pM K t__law_is (f__law_is n))
  | 0 => fn_bad t__law_is
  | n + 1 => by
    have sc := sc__law_is
    have ih := ok__law_is F n
    refine ok_def F.d__law_is sc t__law_is [.ow .fz, .ow .fz] (b__law_is (f__law_is n)) rfl rfl (fun cdv A outer s H vs E hr => ⟨d__law_is vs, inT_out vs (le_any [.ow .fz, .ow .fz]) 0 t__law_is.ps, ?_⟩) (.inl rfl)
    have tk : Takes (cxOf (L2.CX P w) P w K mg base ["told", "due", "one", "other"] "_law_is" (defScope (top 47)) (He.ga K "_law_is") cdv A outer s H E) (scF t__law_is vs [.ow .fz, .ow .fz] E).W := takes_of rfl rfl rfl rfl
    have hp : PassesOwn (model P w) (A.deeper (envOfC "_law_is" (defScope (top 47)) s.heap.objs.size (He.ga K "_law_is") cdv)) _ (cxOf (L2.CX P w) P w K mg base ["told", "due", "one", "other"] "_law_is" (defScope (top 47)) (He.ga K "_law_is") cdv A outer s H E).xe := PassesOwn.leaving
    have lr : LeT (d__law_is vs) (scF t__law_is vs [.ow .fz, .ow .fz] E).tr := inT_out vs (le_any [.ow .fz, .ow .fz]) 0 t__law_is.ps
    exact (s_cons (s_if (t_ofE (e_callB call_isiD (rel_isi F.kit) rfl F.n_isinstance bb_isinstance (a_cons (e_var rfl rfl (vis_by rfl)) (a_cons (e_tyn rfl F.n_tuple bb_tuple) a_nil)))) (s_cons (s_if (t_w (w_or (t_not (t_ofE (e_callB call_isiD (rel_isi F.kit) rfl F.n_isinstance bb_isinstance (a_cons (e_var rfl rfl (vis_by rfl)) (a_cons (e_tyn rfl F.n_tuple bb_tuple) a_nil))))) (w_or1 (t_cmp (op_neD hr.units) rel_ne (e_callB call_len rel_len rfl F.n_len bb_len (a_cons (e_var rfl rfl (vis_by rfl)) a_nil)) (e_callB call_len rel_len rfl F.n_len bb_len (a_cons (e_var rfl rfl (vis_by rfl)) a_nil)) (nomark _))))) (s_one (s_ret lr e_bl)) s_nil)
    (s_one (s_ret lr (e_cmp (op_eqD hr.units) rel_eq (e_fz rfl (e_lc rfl sc.nd (i_zip2 rfl F.n_zip (a_cons (e_var rfl rfl (vis_by rfl)) (a_cons (e_var rfl rfl (vis_by rfl)) a_nil))) (own := [("one", 2), ("other", 3)]) (blkOk_by (by kernel_rfl)) (allFz ⟨rfl, ⟨rfl, trivial⟩⟩) (by decide) (fun _ _ _ _ _ => (g_tup rfl rfl (gs_cons (g_name rfl sc.nd rfl (loc_by rfl)) (gs_cons (g_name rfl sc.nd rfl (loc_by rfl)) gs_nil)))) (fun _ _ _ _ _ => (t_one (t_not (t_ofE (e_call (ps := [.d, .d]) (dds := []) (ret := .fz) (ks := [(.d (mVar 2)), (.d (mVar 3))]) takes0 ih hr rfl F.g__law_is F.d__law_is.kp (bd__law_is F) .nil (fun _ => is_nil) (LeT.refl _) trivial (k_d (e_var rfl rfl (vis_by rfl)) (k_d (e_var rfl rfl (vis_by rfl)) k_nil))))))) (fun _ _ _ _ _ => e_int))) (e_fz rfl (e_lst (by decide) al_nil a_nil)) (nomark _))))) s_nil)
    (s_cons (s_if (t_w (w_or (t_cmp op_isN rel_isN (e_var rfl rfl (vis_by rfl)) e_non (nomark _)) (w_or (t_cmp op_is_bl rel_isB (e_var rfl rfl (vis_by rfl)) e_bl (nomark _)) (w_or1 (t_cmp op_is_bl rel_isB (e_var rfl rfl (vis_by rfl)) e_bl (nomark _)))))) (s_one (s_ret lr (e_if (t_cmp op_isN rel_isN (e_var rfl rfl (vis_by rfl)) e_non (nomark _)) (e_cmp op_isN rel_isN (e_var rfl rfl (vis_by rfl)) e_non (nomark _)) (e_if (t_cmp op_is_bl rel_isB (e_var rfl rfl (vis_by rfl)) e_bl (nomark _)) (e_cmp op_is_bl rel_isB (e_var rfl rfl (vis_by rfl)) e_bl (nomark _)) (e_cmp op_is_bl rel_isB (e_var rfl rfl (vis_by rfl)) e_bl (nomark _)))))) s_nil)
    (s_cons (s_if (t_ofE (e_callB call_isiD (rel_isi F.kit) rfl F.n_isinstance bb_isinstance (a_cons (e_var rfl rfl (vis_by rfl)) (a_cons (e_tyn rfl F.n_int bb_int) a_nil)))) (s_one (s_ret lr (e_and (e_callB call_isiD (rel_isi F.kit) rfl F.n_isinstance bb_isinstance (a_cons (e_var rfl rfl (vis_by rfl)) (a_cons (e_tyn rfl F.n_int bb_int) a_nil))) (e_and (e_not (e_callB call_isiD (rel_isi F.kit) rfl F.n_isinstance bb_isinstance (a_cons (e_var rfl rfl (vis_by rfl)) (a_cons (e_tyn rfl F.n_bool bb_bool) a_nil)))) (e_one (e_cmp (op_eqD hr.units) rel_eq (e_var rfl rfl (vis_by rfl)) (e_var rfl rfl (vis_by rfl)) (nomark _))))))) s_nil)
    (s_one (s_ret lr (e_and (e_callB call_isiD (rel_isi F.kit) rfl F.n_isinstance bb_isinstance (a_cons (e_var rfl rfl (vis_by rfl)) (a_cons (e_tyn rfl F.n_str bb_str) a_nil))) (e_and (e_callB call_isiD (rel_isi F.kit) rfl F.n_isinstance bb_isinstance (a_cons (e_var rfl rfl (vis_by rfl)) (a_cons (e_tyn rfl F.n_str bb_str) a_nil))) (e_one (e_cmp (op_eqD hr.units) rel_eq (e_var rfl rfl (vis_by rfl)) (e_var rfl rfl (vis_by rfl)) (nomark _))))))))))

/-! ### _law_pull -/
def t__law_pull : FT := ⟨[.d, .d], .fz⟩
noncomputable def b__law_pull : MS :=
  (sRet (mFn sumD (aCons (mLc (iSeq (mCall f__law_ends [(.d (mVar 0))] [])) (.tp [(.nm 2), (.nm 3)]) (mC (.bl true)) (mBin mulD (mVar 3) (mBin ixD (mVar 1) (mVar 2))) [2, 3]) aNil)))
noncomputable def f__law_pull : List D → RF := runF t__law_pull 4 b__law_pull
theorem sc__law_pull : FnScope ["tie", "signs", "point", "sign"] ["tie", "signs"] (defScope (top 54)) := ⟨rfl, rfl, rfl, by decide +kernel, rfl, by decide +kernel, by decide +kernel⟩
abbrev d__law_pull (vs : List V) : Ty := [.ow .fz, .ow .fz, .ow .fz, .ow .fz]
theorem bd__law_pull (F : Facts P K mg) : Binds K F.fd__law_pull ["tie", "signs"] [] := F.d__law_pull.bindsN fun _ _ _ _ _ _ us hl => match us, hl with | [_, _], _ => rfl
theorem ok__law_pull (F : Facts P K mg) : FnOk P w K mg base (L2.CX P w) 2 (He.ga K "_law_pull") F.fd__law_pull ["tie", "signs"] (pM K t__law_pull f__law_pull) := by
  have sc := sc__law_pull
  refine ok_def F.d__law_pull sc t__law_pull [.ow .fz, .ow .fz] b__law_pull rfl rfl (fun cdv A outer s H vs E hr => ⟨d__law_pull vs, inT_out vs (le_any [.ow .fz, .ow .fz]) 0 t__law_pull.ps, ?_⟩) (.inl rfl)
  have tk : Takes (cxOf (L2.CX P w) P w K mg base ["tie", "signs", "point", "sign"] "_law_pull" (defScope (top 54)) (He.ga K "_law_pull") cdv A outer s H E) (scF t__law_pull vs [.ow .fz, .ow .fz] E).W := takes_of rfl rfl rfl rfl
  have hp : PassesOwn (model P w) (A.deeper (envOfC "_law_pull" (defScope (top 54)) s.heap.objs.size (He.ga K "_law_pull") cdv)) _ (cxOf (L2.CX P w) P w K mg base ["tie", "signs", "point", "sign"] "_law_pull" (defScope (top 54)) (He.ga K "_law_pull") cdv A outer s H E).xe := PassesOwn.leaving
  have lr : LeT (d__law_pull vs) (scF t__law_pull vs [.ow .fz, .ow .fz] E).tr := inT_out vs (le_any [.ow .fz, .ow .fz]) 0 t__law_pull.ps
  exact (s_one (s_ret lr (e_callB (cr_sum rfl) rel_sum rfl F.n_sum bb_sum (a_cons (e_fz rfl (e_lc rfl sc.nd (i_seq (e_call (ps := [.d]) (dds := []) (ret := .fz) (ks := [(.d (mVar 0))]) tk ((ok__law_ends F).mono (by decide)) hr rfl F.g__law_ends F.d__law_ends.kp (bd__law_ends F) .nil (fun _ => is_nil) lr trivial (k_d (e_var rfl rfl (vis_by rfl)) k_nil))) (own := [("point", 2), ("sign", 3)]) (blkOk_by (by kernel_rfl)) (allFz ⟨rfl, ⟨rfl, trivial⟩⟩) (by decide) (fun _ _ _ _ _ => (g_tup rfl rfl (gs_cons (g_name rfl sc.nd rfl (loc_by rfl)) (gs_cons (g_name rfl sc.nd rfl (loc_by rfl)) gs_nil)))) (fun _ _ _ _ _ => t_yes) (fun _ _ _ _ _ => (e_bin op_mulD rel_mul (e_var rfl rfl (vis_by rfl)) (e_ix ix_seq rel_ix (e_var rfl rfl (vis_by rfl)) (e_var rfl rfl (vis_by rfl)) fun _ _ => rfl))))) a_nil))))
/-! ### _law_short -/
def t__law_short : FT := ⟨[.d, .d, .d, .d], .fz⟩
noncomputable def b__law_short : MS :=
  (sSeq (sSet 4 (mFn sumD (aCons (mLc (iZp2 (aCons (mVar 3) (aCons (mVar 2) aNil))) (.tp [(.nm 8), (.nm 9)]) (mC (.bl true)) (mBin mulD (mVar 8) (mVar 9)) [8, 9]) aNil)))
  (sSeq (sFor (iZp2 (aCons (mVar 0) (aCons (mVar 1) aNil))) (.tp [(.nm 5), (.nm 6)]) (sSeq (sSet 7 (mCall f__law_pull [(.d (mVar 5)), (.d (mVar 3))] []))
  (sSet 4 (mBin subD (mVar 4) (mIf (mBin gtD (mVar 7) (mC (.int 0))) (mBin mulD (mVar 7) (mBin ixD (mVar 6) (mC (.int 1)))) (mBin mulD (mVar 7) (mBin ixD (mVar 6) (mC (.int 0)))))))))
  (sRet (mVar 4))))
noncomputable def f__law_short : List D → RF := runF t__law_short 10 b__law_short
theorem sc__law_short : FnScope ["ties", "bounds", "totals", "signs", "left", "tie", "both", "by", "sign", "total"] ["ties", "bounds", "totals", "signs"] (defScope (top 55)) := ⟨rfl, rfl, rfl, by decide +kernel, rfl, by decide +kernel, by decide +kernel⟩
abbrev d__law_short (vs : List V) : Ty := [.ow .fz, .ow .fz, .ow .fz, .ow .fz, .ow .fz, .ow .fz, .ow .fz, .ow .fz, .ow .fz, .ow .fz]
theorem bd__law_short (F : Facts P K mg) : Binds K F.fd__law_short ["ties", "bounds", "totals", "signs"] [] := F.d__law_short.bindsN fun _ _ _ _ _ _ us hl => match us, hl with | [_, _, _, _], _ => rfl
theorem ok__law_short (F : Facts P K mg) : FnOk P w K mg base (L2.CX P w) 3 (He.ga K "_law_short") F.fd__law_short ["ties", "bounds", "totals", "signs"] (pM K t__law_short f__law_short) := by
  have sc := sc__law_short
  refine ok_def F.d__law_short sc t__law_short [.ow .fz, .ow .fz, .ow .fz, .ow .fz, .ow .fz, .ow .fz] b__law_short rfl rfl (fun cdv A outer s H vs E hr => ⟨d__law_short vs, inT_out vs (le_any [.ow .fz, .ow .fz, .ow .fz, .ow .fz, .ow .fz, .ow .fz]) 0 t__law_short.ps, ?_⟩) (.inl rfl)
  have tk : Takes (cxOf (L2.CX P w) P w K mg base ["ties", "bounds", "totals", "signs", "left", "tie", "both", "by", "sign", "total"] "_law_short" (defScope (top 55)) (He.ga K "_law_short") cdv A outer s H E) (scF t__law_short vs [.ow .fz, .ow .fz, .ow .fz, .ow .fz, .ow .fz, .ow .fz] E).W := takes_of rfl rfl rfl rfl
  have hp : PassesOwn (model P w) (A.deeper (envOfC "_law_short" (defScope (top 55)) s.heap.objs.size (He.ga K "_law_short") cdv)) _ (cxOf (L2.CX P w) P w K mg base ["ties", "bounds", "totals", "signs", "left", "tie", "both", "by", "sign", "total"] "_law_short" (defScope (top 55)) (He.ga K "_law_short") cdv A outer s H E).xe := PassesOwn.leaving
  have lr : LeT (d__law_short vs) (scF t__law_short vs [.ow .fz, .ow .fz, .ow .fz, .ow .fz, .ow .fz, .ow .fz] E).tr := inT_out vs (le_any [.ow .fz, .ow .fz, .ow .fz, .ow .fz, .ow .fz, .ow .fz]) 0 t__law_short.ps
  exact (s_cons (s_set rfl sc.nd rfl (loc_by rfl) (e_callB (cr_sum rfl) rel_sum rfl F.n_sum bb_sum (a_cons (e_fz rfl (e_lc rfl sc.nd (i_zip2 rfl F.n_zip (a_cons (e_var rfl rfl (vis_by rfl)) (a_cons (e_var rfl rfl (vis_by rfl)) a_nil))) (own := [("sign", 8), ("total", 9)]) (blkOk_by (by kernel_rfl)) (allFz ⟨rfl, ⟨rfl, trivial⟩⟩) (by decide) (fun _ _ _ _ _ => (g_tup rfl rfl (gs_cons (g_name rfl sc.nd rfl (loc_by rfl)) (gs_cons (g_name rfl sc.nd rfl (loc_by rfl)) gs_nil)))) (fun _ _ _ _ _ => t_yes) (fun _ _ _ _ _ => (e_bin op_mulD rel_mul (e_var rfl rfl (vis_by rfl)) (e_var rfl rfl (vis_by rfl)))))) a_nil)))
  (s_cons (s_for hp rfl (i_zip2 rfl F.n_zip (a_cons (e_var rfl rfl (vis_by rfl)) (a_cons (e_var rfl rfl (vis_by rfl)) a_nil))) (g_tup rfl rfl (gs_cons (g_name rfl sc.nd rfl (loc_by rfl)) (gs_cons (g_name rfl sc.nd rfl (loc_by rfl)) gs_nil))) (s_cons (s_set rfl sc.nd rfl (loc_by rfl) (e_call (ps := [.d, .d]) (dds := []) (ret := .fz) (ks := [(.d (mVar 5)), (.d (mVar 3))]) tk ((ok__law_pull F).mono (by decide)) hr rfl F.g__law_pull F.d__law_pull.kp (bd__law_pull F) .nil (fun _ => is_nil) lr trivial (k_d (e_var rfl rfl (vis_by rfl)) (k_d (e_var rfl rfl (vis_by rfl)) k_nil))))
  (s_one (s_set rfl sc.nd rfl (loc_by rfl) (e_bin op_sub rel_sub (e_var rfl rfl (vis_by rfl)) (e_if (t_cmp op_gt rel_gt (e_var rfl rfl (vis_by rfl)) e_int (nomark _)) (e_bin op_mulD rel_mul (e_var rfl rfl (vis_by rfl)) (e_ix ix_seq rel_ix (e_var rfl rfl (vis_by rfl)) e_int fun _ _ => rfl)) (e_bin op_mulD rel_mul (e_var rfl rfl (vis_by rfl)) (e_ix ix_seq rel_ix (e_var rfl rfl (vis_by rfl)) e_int fun _ _ => rfl))))))))
  (s_one (s_ret lr (e_var rfl rfl (vis_by rfl))))))
/-! ### need_box -/
def t_need_box : FT := ⟨[.d, .d], .fz⟩
noncomputable def b_need_box : MS :=
  (sSeq (sExpr (mCall f_need_web [(.d (mVar 0))] [.int (-1)]))
  (sIf (mOr (mNot (mFn (isiD' kitC kitX) (aCons (mVar 1) (aCons (mC (.glo "Box")) aNil)))) (mOr (mBin neD (mFn lenD (aCons (mUn (fldD ["Box"] "bounds") (mVar 1)) aNil)) (mFn lenD (aCons (mUn (fldD ["Web"] "ties") (mVar 0)) aNil))) (mBin neD (mFn lenD (aCons (mUn (fldD ["Box"] "totals") (mVar 1)) aNil)) (mUn (fldD ["Web"] "points") (mVar 0))))) (sRaise "InvalidBox" "at" (mUn negD (mC (.int 1)))) sNil))
noncomputable def f_need_box : List D → RF := runF t_need_box 2 b_need_box
theorem sc_need_box : FnScope ["web", "box"] ["web", "box"] (defScope (top 29)) := ⟨rfl, rfl, rfl, by decide +kernel, rfl, by decide +kernel, by decide +kernel⟩
abbrev d_need_box (vs : List V) : Ty := [.ow .fz, .ow .fz]
theorem bd_need_box (F : Facts P K mg) : Binds K F.fd_need_box ["web", "box"] [] := F.d_need_box.bindsN fun _ _ _ _ _ _ us hl => match us, hl with | [_, _], _ => rfl
theorem ok_need_box (F : Facts P K mg) : FnOk P w K mg base (L2.CX P w) 2 (He.ga K "need_box") F.fd_need_box ["web", "box"] (pM K t_need_box f_need_box) := by
  have sc := sc_need_box
  obtain ⟨q1_ds, q1_v, q1_b⟩ := bd_need_web_1 F
  refine ok_def F.d_need_box sc t_need_box [] b_need_box rfl rfl (fun cdv A outer s H vs E hr => ⟨d_need_box vs, inT_out vs (le_any []) 0 t_need_box.ps, ?_⟩) (.inl rfl)
  have tk : Takes (cxOf (L2.CX P w) P w K mg base ["web", "box"] "need_box" (defScope (top 29)) (He.ga K "need_box") cdv A outer s H E) (scF t_need_box vs [] E).W := takes_of rfl rfl rfl rfl
  have hp : PassesOwn (model P w) (A.deeper (envOfC "need_box" (defScope (top 29)) s.heap.objs.size (He.ga K "need_box") cdv)) _ (cxOf (L2.CX P w) P w K mg base ["web", "box"] "need_box" (defScope (top 29)) (He.ga K "need_box") cdv A outer s H E).xe := PassesOwn.leaving
  have lr : LeT (d_need_box vs) (scF t_need_box vs [] E).tr := inT_out vs (le_any []) 0 t_need_box.ps
  exact (s_cons (s_expr (e_call (ps := [.d]) (dds := [.int (-1)]) (ret := .fz) (ks := [(.d (mVar 0))]) tk ((ok_need_web F).mono (by decide)) hr rfl F.g_need_web F.d_need_web.kp q1_b q1_v (fun _ => is_ints [(-1)]) lr trivial (k_d (e_var rfl rfl (vis_by rfl)) k_nil)))
  (s_one (s_if (t_w (w_or (t_not (t_ofE (e_callB call_isiD (rel_isi F.kit) rfl F.n_isinstance bb_isinstance (a_cons (e_var rfl rfl (vis_by rfl)) (a_cons (e_glo rfl F.g_Box) a_nil))))) (w_or (t_cmp (op_neD hr.units) rel_ne (e_callB call_len rel_len rfl F.n_len bb_len (a_cons (e_fld (all_cons F.cls_Box all_nil) (all_cons F.na_Box_bounds all_nil) (e_var rfl rfl (vis_by rfl))) a_nil)) (e_callB call_len rel_len rfl F.n_len bb_len (a_cons (e_fld (all_cons F.cls_Web all_nil) (all_cons F.na_Web_ties all_nil) (e_var rfl rfl (vis_by rfl))) a_nil)) (nomark _)) (w_or1 (t_cmp (op_neD hr.units) rel_ne (e_callB call_len rel_len rfl F.n_len bb_len (a_cons (e_fld (all_cons F.cls_Box all_nil) (all_cons F.na_Box_totals all_nil) (e_var rfl rfl (vis_by rfl))) a_nil)) (e_fld (all_cons F.cls_Web all_nil) (all_cons F.na_Web_points all_nil) (e_var rfl rfl (vis_by rfl))) (nomark _)))))) (s_one (s_raise rfl tk F.x_InvalidBox F.g_InvalidBox hr rfl lr (e_un un_neg rel_neg e_int))) s_nil)))
/-! ### is_paper -/
def t_is_paper : FT := ⟨[.d, .d], .fz⟩
noncomputable def b_is_paper : MS :=
  (sRet (mAnd (mFn (isiD' kitC kitX) (aCons (mVar 0) (aCons (mC (.ty "tuple")) aNil))) (mBin eqD (mFn lenD (aCons (mVar 0) aNil)) (mVar 1))))
noncomputable def f_is_paper : List D → RF := runF t_is_paper 2 b_is_paper
theorem sc_is_paper : FnScope ["value", "many"] ["value", "many"] (defScope (top 14)) := ⟨rfl, rfl, rfl, by decide +kernel, rfl, by decide +kernel, by decide +kernel⟩
abbrev d_is_paper (vs : List V) : Ty := [.ow .fz, .ow .fz]
theorem bd_is_paper (F : Facts P K mg) : Binds K F.fd_is_paper ["value", "many"] [] := F.d_is_paper.bindsN fun _ _ _ _ _ _ us hl => match us, hl with | [_, _], _ => rfl
theorem ok_is_paper (F : Facts P K mg) : FnOk P w K mg base (L2.CX P w) 1 (He.ga K "is_paper") F.fd_is_paper ["value", "many"] (pM K t_is_paper f_is_paper) := by
  have sc := sc_is_paper
  refine ok_def F.d_is_paper sc t_is_paper [] b_is_paper rfl rfl (fun cdv A outer s H vs E hr => ⟨d_is_paper vs, inT_out vs (le_any []) 0 t_is_paper.ps, ?_⟩) (.inl rfl)
  have tk : Takes (cxOf (L2.CX P w) P w K mg base ["value", "many"] "is_paper" (defScope (top 14)) (He.ga K "is_paper") cdv A outer s H E) (scF t_is_paper vs [] E).W := takes_of rfl rfl rfl rfl
  have hp : PassesOwn (model P w) (A.deeper (envOfC "is_paper" (defScope (top 14)) s.heap.objs.size (He.ga K "is_paper") cdv)) _ (cxOf (L2.CX P w) P w K mg base ["value", "many"] "is_paper" (defScope (top 14)) (He.ga K "is_paper") cdv A outer s H E).xe := PassesOwn.leaving
  have lr : LeT (d_is_paper vs) (scF t_is_paper vs [] E).tr := inT_out vs (le_any []) 0 t_is_paper.ps
  exact (s_one (s_ret lr (e_and (e_callB call_isiD (rel_isi F.kit) rfl F.n_isinstance bb_isinstance (a_cons (e_var rfl rfl (vis_by rfl)) (a_cons (e_tyn rfl F.n_tuple bb_tuple) a_nil))) (e_one (e_cmp (op_eqD hr.units) rel_eq (e_callB call_len rel_len rfl F.n_len bb_len (a_cons (e_var rfl rfl (vis_by rfl)) a_nil)) (e_var rfl rfl (vis_by rfl)) (nomark _))))))
/-! ### is_told_row -/
def t_is_told_row : FT := ⟨[.d, .d], .fz⟩
noncomputable def b_is_told_row : MS :=
  (sRet (mAnd (mCall f_is_paper [(.d (mVar 0)), (.d (mVar 1))] []) (mFn allD (aCons (mLc (iSeq (mVar 0)) (.nm 2) (mC (.bl true)) (mCall f_is_integer [(.d (mVar 2))] []) [2]) aNil))))
noncomputable def f_is_told_row : List D → RF := runF t_is_told_row 3 b_is_told_row
theorem sc_is_told_row : FnScope ["value", "many", "part"] ["value", "many"] (defScope (top 16)) := ⟨rfl, rfl, rfl, by decide +kernel, rfl, by decide +kernel, by decide +kernel⟩
abbrev d_is_told_row (vs : List V) : Ty := [.ow .fz, .ow .fz, .ow .fz]
theorem bd_is_told_row (F : Facts P K mg) : Binds K F.fd_is_told_row ["value", "many"] [] := F.d_is_told_row.bindsN fun _ _ _ _ _ _ us hl => match us, hl with | [_, _], _ => rfl
theorem ok_is_told_row (F : Facts P K mg) : FnOk P w K mg base (L2.CX P w) 2 (He.ga K "is_told_row") F.fd_is_told_row ["value", "many"] (pM K t_is_told_row f_is_told_row) := by
  have sc := sc_is_told_row
  refine ok_def F.d_is_told_row sc t_is_told_row [.ow .fz] b_is_told_row rfl rfl (fun cdv A outer s H vs E hr => ⟨d_is_told_row vs, inT_out vs (le_any [.ow .fz]) 0 t_is_told_row.ps, ?_⟩) (.inl rfl)
  have tk : Takes (cxOf (L2.CX P w) P w K mg base ["value", "many", "part"] "is_told_row" (defScope (top 16)) (He.ga K "is_told_row") cdv A outer s H E) (scF t_is_told_row vs [.ow .fz] E).W := takes_of rfl rfl rfl rfl
  have hp : PassesOwn (model P w) (A.deeper (envOfC "is_told_row" (defScope (top 16)) s.heap.objs.size (He.ga K "is_told_row") cdv)) _ (cxOf (L2.CX P w) P w K mg base ["value", "many", "part"] "is_told_row" (defScope (top 16)) (He.ga K "is_told_row") cdv A outer s H E).xe := PassesOwn.leaving
  have lr : LeT (d_is_told_row vs) (scF t_is_told_row vs [.ow .fz] E).tr := inT_out vs (le_any [.ow .fz]) 0 t_is_told_row.ps
  exact (s_one (s_ret lr (e_and (e_call (ps := [.d, .d]) (dds := []) (ret := .fz) (ks := [(.d (mVar 0)), (.d (mVar 1))]) tk ((ok_is_paper F).mono (by decide)) hr rfl F.g_is_paper F.d_is_paper.kp (bd_is_paper F) .nil (fun _ => is_nil) lr trivial (k_d (e_var rfl rfl (vis_by rfl)) (k_d (e_var rfl rfl (vis_by rfl)) k_nil))) (e_one (e_callB (cr_all rfl) rel_all rfl F.n_all bb_all (a_cons (e_fz rfl (e_lc rfl sc.nd (i_seq (e_var rfl rfl (vis_by rfl))) (own := [("part", 2)]) (blkOk_by (by kernel_rfl)) (allFz ⟨rfl, trivial⟩) (by decide) (fun _ _ _ _ _ => (g_name rfl sc.nd rfl (loc_by rfl))) (fun _ _ _ _ _ => t_yes) (fun _ _ _ _ _ => (e_call (ps := [.d]) (dds := []) (ret := .fz) (ks := [(.d (mVar 2))]) takes0 ((ok_is_integer F).mono (by decide)) hr rfl F.g_is_integer F.d_is_integer.kp (bd_is_integer F) .nil (fun _ => is_nil) (LeT.refl _) trivial (k_d (e_var rfl rfl (vis_by rfl)) k_nil))))) a_nil))))))
/-! ### ends_at -/
def t_ends_at : FT := ⟨[.d], .fz⟩
noncomputable def b_ends_at : MS :=
  (sRet (mFn tzD (aCons (mSl3 (mVar 0) none none (mC (.int 2))) (aCons (mSl3 (mVar 0) (some (mC (.int 1))) none (mC (.int 2))) aNil))))
noncomputable def f_ends_at : List D → RF := runF t_ends_at 1 b_ends_at
theorem sc_ends_at : FnScope ["tie"] ["tie"] (defScope (top 24)) := ⟨rfl, rfl, rfl, by decide +kernel, rfl, by decide +kernel, by decide +kernel⟩
abbrev d_ends_at (vs : List V) : Ty := [.ow .fz]
theorem bd_ends_at (F : Facts P K mg) : Binds K F.fd_ends_at ["tie"] [] := F.d_ends_at.bindsN fun _ _ _ _ _ _ us hl => match us, hl with | [_], _ => rfl
theorem ok_ends_at (F : Facts P K mg) : FnOk P w K mg base (L2.CX P w) 1 (He.ga K "ends_at") F.fd_ends_at ["tie"] (pM K t_ends_at f_ends_at) := by
  have sc := sc_ends_at
  refine ok_def F.d_ends_at sc t_ends_at [] b_ends_at rfl rfl (fun cdv A outer s H vs E hr => ⟨d_ends_at vs, inT_out vs (le_any []) 0 t_ends_at.ps, ?_⟩) (.inl rfl)
  have tk : Takes (cxOf (L2.CX P w) P w K mg base ["tie"] "ends_at" (defScope (top 24)) (He.ga K "ends_at") cdv A outer s H E) (scF t_ends_at vs [] E).W := takes_of rfl rfl rfl rfl
  have hp : PassesOwn (model P w) (A.deeper (envOfC "ends_at" (defScope (top 24)) s.heap.objs.size (He.ga K "ends_at") cdv)) _ (cxOf (L2.CX P w) P w K mg base ["tie"] "ends_at" (defScope (top 24)) (He.ga K "ends_at") cdv A outer s H E).xe := PassesOwn.leaving
  have lr : LeT (d_ends_at vs) (scF t_ends_at vs [] E).tr := inT_out vs (le_any []) 0 t_ends_at.ps
  exact (s_one (s_ret lr (e_tz rfl rfl F.n_tuple rfl F.n_zip (a_cons (e_slice3 (e_var rfl rfl (vis_by rfl)) part_none part_none e_int) (a_cons (e_slice3 (e_var rfl rfl (vis_by rfl)) (part_some e_int) part_none e_int) a_nil)))))
/-! ### fills -/
def t_fills : FT := ⟨[.d, .d, .d], .fz⟩
noncomputable def b_fills : MS :=
  (sSeq (sIf (mNot (mCall f_is_told_row [(.d (mVar 2)), (.d (mFn lenD (aCons (mUn (fldD ["Web"] "ties") (mVar 0)) aNil)))] [])) (sRet (mC (.bl false))) sNil)
  (sSeq (sSet 4 (mLc (iRange1 (aCons (mUn (fldD ["Web"] "points") (mVar 0)) aNil)) (.nm 3) (mC (.bl true)) (mC (.int 0)) [3]))
  (sSeq (sFor (iZp3 (aCons (mVar 2) (aCons (mUn (fldD ["Web"] "ties") (mVar 0)) (aCons (mUn (fldD ["Box"] "bounds") (mVar 1)) aNil)))) (.tp [(.nm 5), (.nm 6), (.tp [(.nm 7), (.nm 8)])]) (sSeq (sIf (mNot (mChain leD leD (mBin mulD (mC (.int 2)) (mVar 7)) (mVar 5) (mBin mulD (mC (.int 2)) (mVar 8)))) (sRet (mC (.bl false))) sNil)
  (sFor (iSeq (mCall f_ends_at [(.d (mVar 6))] [])) (.tp [(.nm 3), (.nm 9)]) (sOaug 4 (mVar 3) addI (mBin mulD (mVar 9) (mVar 5))))))
  (sRet (mFn allD (aCons (mLc (iZp2 (aCons (mVar 4) (aCons (mUn (fldD ["Box"] "totals") (mVar 1)) aNil))) (.tp [(.nm 10), (.nm 11)]) (mC (.bl true)) (mBin eqD (mVar 10) (mBin mulD (mC (.int 2)) (mVar 11))) [10, 11]) aNil))))))
noncomputable def f_fills : List D → RF := runF t_fills 12 b_fills
theorem sc_fills : FnScope ["web", "box", "value", "point", "sums", "number", "tie", "least", "greatest", "sign", "found", "total"] ["web", "box", "value"] (defScope (top 37)) := ⟨rfl, rfl, rfl, by decide +kernel, rfl, by decide +kernel, by decide +kernel⟩
abbrev d_fills (vs : List V) : Ty := [.ow .fz, .ow .fz, .ow .fz, .ow .fz, .ow (.lst .fz), .ow .fz, .ow .fz, .ow .fz, .ow .fz, .ow .fz, .ow .fz, .ow .fz]
theorem bd_fills (F : Facts P K mg) : Binds K F.fd_fills ["web", "box", "value"] [] := F.d_fills.bindsN fun _ _ _ _ _ _ us hl => match us, hl with | [_, _, _], _ => rfl
theorem ok_fills (F : Facts P K mg) : FnOk P w K mg base (L2.CX P w) 3 (He.ga K "fills") F.fd_fills ["web", "box", "value"] (pM K t_fills f_fills) := by
  have sc := sc_fills
  refine ok_def F.d_fills sc t_fills [.ow .fz, .ow (.lst .fz), .ow .fz, .ow .fz, .ow .fz, .ow .fz, .ow .fz, .ow .fz, .ow .fz] b_fills rfl rfl (fun cdv A outer s H vs E hr => ⟨(d_fills vs).set 4 (.ow .fz), leT_set (inT_out vs (le_any [.ow .fz, .ow (.lst .fz), .ow .fz, .ow .fz, .ow .fz, .ow .fz, .ow .fz, .ow .fz, .ow .fz]) 0 t_fills.ps) rfl, ?_⟩) (.inl rfl)
  have tk : Takes (cxOf (L2.CX P w) P w K mg base ["web", "box", "value", "point", "sums", "number", "tie", "least", "greatest", "sign", "found", "total"] "fills" (defScope (top 37)) (He.ga K "fills") cdv A outer s H E) (scF t_fills vs [.ow .fz, .ow (.lst .fz), .ow .fz, .ow .fz, .ow .fz, .ow .fz, .ow .fz, .ow .fz, .ow .fz] E).W := takes_of rfl rfl rfl rfl
  have hp : PassesOwn (model P w) (A.deeper (envOfC "fills" (defScope (top 37)) s.heap.objs.size (He.ga K "fills") cdv)) _ (cxOf (L2.CX P w) P w K mg base ["web", "box", "value", "point", "sums", "number", "tie", "least", "greatest", "sign", "found", "total"] "fills" (defScope (top 37)) (He.ga K "fills") cdv A outer s H E).xe := PassesOwn.leaving
  have lr : LeT (d_fills vs) (scF t_fills vs [.ow .fz, .ow (.lst .fz), .ow .fz, .ow .fz, .ow .fz, .ow .fz, .ow .fz, .ow .fz, .ow .fz] E).tr := inT_out vs (le_any [.ow .fz, .ow (.lst .fz), .ow .fz, .ow .fz, .ow .fz, .ow .fz, .ow .fz, .ow .fz, .ow .fz]) 0 t_fills.ps
  exact (s_cons (s_if (t_not (t_ofE (e_call (ps := [.d, .d]) (dds := []) (ret := .fz) (ks := [(.d (mVar 2)), (.d (mFn lenD (aCons (mUn (fldD ["Web"] "ties") (mVar 0)) aNil)))]) tk ((ok_is_told_row F).mono (by decide)) hr rfl F.g_is_told_row F.d_is_told_row.kp (bd_is_told_row F) .nil (fun _ => is_nil) lr trivial (k_d (e_var rfl rfl (vis_by rfl)) (k_d (e_callB call_len rel_len rfl F.n_len bb_len (a_cons (e_fld (all_cons F.cls_Web all_nil) (all_cons F.na_Web_ties all_nil) (e_var rfl rfl (vis_by rfl))) a_nil)) k_nil))))) (s_one (s_ret lr e_bl)) s_nil)
  (s_cons (s_setLc rfl rfl sc.nd rfl rfl rfl (i_range1 rfl F.n_range (a_cons (e_fld (all_cons F.cls_Web all_nil) (all_cons F.na_Web_points all_nil) (e_var rfl rfl (vis_by rfl))) a_nil)) (own := [("point", 3)]) (blkOk_by (by kernel_rfl)) (allFz ⟨rfl, trivial⟩) (by decide) (fun _ _ _ _ _ => (g_name rfl sc.nd rfl (loc_by rfl))) (fun _ _ _ _ _ => t_yes) (fun _ _ _ _ _ => e_int))
  (s_cons (s_for hp rfl (i_zip3 rfl F.n_zip (a_cons (e_var rfl rfl (vis_by rfl)) (a_cons (e_fld (all_cons F.cls_Web all_nil) (all_cons F.na_Web_ties all_nil) (e_var rfl rfl (vis_by rfl))) (a_cons (e_fld (all_cons F.cls_Box all_nil) (all_cons F.na_Box_bounds all_nil) (e_var rfl rfl (vis_by rfl))) a_nil)))) (g_tup rfl rfl (gs_cons (g_name rfl sc.nd rfl (loc_by rfl)) (gs_cons (g_name rfl sc.nd rfl (loc_by rfl)) (gs_cons (g_tup rfl rfl (gs_cons (g_name rfl sc.nd rfl (loc_by rfl)) (gs_cons (g_name rfl sc.nd rfl (loc_by rfl)) gs_nil))) gs_nil)))) (s_cons (s_if (t_not (t_chain op_le op_le rel_le rel_le (e_bin op_mulD rel_mul e_int (e_var rfl rfl (vis_by rfl))) (e_var rfl rfl (vis_by rfl)) (e_bin op_mulD rel_mul e_int (e_var rfl rfl (vis_by rfl))))) (s_one (s_ret lr e_bl)) s_nil)
  (s_one (s_for hp rfl (i_seq (e_call (ps := [.d]) (dds := []) (ret := .fz) (ks := [(.d (mVar 6))]) tk ((ok_ends_at F).mono (by decide)) hr rfl F.g_ends_at F.d_ends_at.kp (bd_ends_at F) .nil (fun _ => is_nil) lr trivial (k_d (e_var rfl rfl (vis_by rfl)) k_nil))) (g_tup rfl rfl (gs_cons (g_name rfl sc.nd rfl (loc_by rfl)) (gs_cons (g_name rfl sc.nd rfl (loc_by rfl)) gs_nil))) (s_one (s_oaug (.inl rfl) rfl (vis_by rfl) (e_var rfl rfl (vis_by rfl)) (e_bin op_mulD rel_mul (e_var rfl rfl (vis_by rfl)) (e_var rfl rfl (vis_by rfl))) ip_add rel_ipadd))))))
  (s_frz (i := 4) rfl rfl (s_one (s_ret (leT_set lr rfl) (e_callB (cr_all rfl) rel_all rfl F.n_all bb_all (a_cons (e_fz rfl (e_lc rfl sc.nd (i_zip2 rfl F.n_zip (a_cons (e_var rfl rfl (vis_by rfl)) (a_cons (e_fld (all_cons F.cls_Box all_nil) (all_cons F.na_Box_totals all_nil) (e_var rfl rfl (vis_by rfl))) a_nil))) (own := [("found", 10), ("total", 11)]) (blkOk_by (by kernel_rfl)) (allFz ⟨rfl, ⟨rfl, trivial⟩⟩) (by decide) (fun _ _ _ _ _ => (g_tup rfl rfl (gs_cons (g_name rfl sc.nd rfl (loc_by rfl)) (gs_cons (g_name rfl sc.nd rfl (loc_by rfl)) gs_nil)))) (fun _ _ _ _ _ => t_yes) (fun _ _ _ _ _ => (e_cmp (op_eqD hr.units) rel_eq (e_var rfl rfl (vis_by rfl)) (e_bin op_mulD rel_mul e_int (e_var rfl rfl (vis_by rfl))) (nomark _))))) a_nil))))))))
/-! ### is_sign_row -/
def t_is_sign_row : FT := ⟨[.d, .d], .fz⟩
noncomputable def b_is_sign_row : MS :=
  (sRet (mAnd (mCall f_is_paper [(.d (mVar 0)), (.d (mVar 1))] []) (mFn allD (aCons (mLc (iSeq (mVar 0)) (.nm 2) (mC (.bl true)) (mAnd (mCall f_is_integer [(.d (mVar 2))] []) (mBin inD (mVar 2) (mTup (aCons (mUn negD (mC (.int 1))) (aCons (mC (.int 0)) (aCons (mC (.int 1)) aNil)))))) [2]) aNil))))
noncomputable def f_is_sign_row : List D → RF := runF t_is_sign_row 3 b_is_sign_row
theorem sc_is_sign_row : FnScope ["value", "many", "part"] ["value", "many"] (defScope (top 25)) := ⟨rfl, rfl, rfl, by decide +kernel, rfl, by decide +kernel, by decide +kernel⟩
abbrev d_is_sign_row (vs : List V) : Ty := [.ow .fz, .ow .fz, .ow .fz]
theorem bd_is_sign_row (F : Facts P K mg) : Binds K F.fd_is_sign_row ["value", "many"] [] := F.d_is_sign_row.bindsN fun _ _ _ _ _ _ us hl => match us, hl with | [_, _], _ => rfl
theorem ok_is_sign_row (F : Facts P K mg) : FnOk P w K mg base (L2.CX P w) 2 (He.ga K "is_sign_row") F.fd_is_sign_row ["value", "many"] (pM K t_is_sign_row f_is_sign_row) := by
  have sc := sc_is_sign_row
  refine ok_def F.d_is_sign_row sc t_is_sign_row [.ow .fz] b_is_sign_row rfl rfl (fun cdv A outer s H vs E hr => ⟨d_is_sign_row vs, inT_out vs (le_any [.ow .fz]) 0 t_is_sign_row.ps, ?_⟩) (.inl rfl)
  have tk : Takes (cxOf (L2.CX P w) P w K mg base ["value", "many", "part"] "is_sign_row" (defScope (top 25)) (He.ga K "is_sign_row") cdv A outer s H E) (scF t_is_sign_row vs [.ow .fz] E).W := takes_of rfl rfl rfl rfl
  have hp : PassesOwn (model P w) (A.deeper (envOfC "is_sign_row" (defScope (top 25)) s.heap.objs.size (He.ga K "is_sign_row") cdv)) _ (cxOf (L2.CX P w) P w K mg base ["value", "many", "part"] "is_sign_row" (defScope (top 25)) (He.ga K "is_sign_row") cdv A outer s H E).xe := PassesOwn.leaving
  have lr : LeT (d_is_sign_row vs) (scF t_is_sign_row vs [.ow .fz] E).tr := inT_out vs (le_any [.ow .fz]) 0 t_is_sign_row.ps
  exact (s_one (s_ret lr (e_and (e_call (ps := [.d, .d]) (dds := []) (ret := .fz) (ks := [(.d (mVar 0)), (.d (mVar 1))]) tk ((ok_is_paper F).mono (by decide)) hr rfl F.g_is_paper F.d_is_paper.kp (bd_is_paper F) .nil (fun _ => is_nil) lr trivial (k_d (e_var rfl rfl (vis_by rfl)) (k_d (e_var rfl rfl (vis_by rfl)) k_nil))) (e_one (e_callB (cr_all rfl) rel_all rfl F.n_all bb_all (a_cons (e_fz rfl (e_lc rfl sc.nd (i_seq (e_var rfl rfl (vis_by rfl))) (own := [("part", 2)]) (blkOk_by (by kernel_rfl)) (allFz ⟨rfl, trivial⟩) (by decide) (fun _ _ _ _ _ => (g_name rfl sc.nd rfl (loc_by rfl))) (fun _ _ _ _ _ => t_yes) (fun _ _ _ _ _ => (e_and (e_call (ps := [.d]) (dds := []) (ret := .fz) (ks := [(.d (mVar 2))]) takes0 ((ok_is_integer F).mono (by decide)) hr rfl F.g_is_integer F.d_is_integer.kp (bd_is_integer F) .nil (fun _ => is_nil) (LeT.refl _) trivial (k_d (e_var rfl rfl (vis_by rfl)) k_nil)) (e_one (e_cmp op_in_seq rel_in (e_var rfl rfl (vis_by rfl)) (e_tup (by decide) (al_cons (al_cons (al_cons al_nil))) (a_cons (e_un un_neg rel_neg e_int) (a_cons e_int (a_cons e_int a_nil)))) rfl)))))) a_nil))))))
/-! ### most_of -/
def t_most_of : FT := ⟨[.d, .d], .fz⟩
noncomputable def b_most_of : MS :=
  (sRet (mFn max2D (aCons (mBin mulD (mVar 0) (mBin ixD (mVar 1) (mC (.int 0)))) (aCons (mBin mulD (mVar 0) (mBin ixD (mVar 1) (mC (.int 1)))) aNil))))
noncomputable def f_most_of : List D → RF := runF t_most_of 2 b_most_of
theorem sc_most_of : FnScope ["by", "bounds"] ["by", "bounds"] (defScope (top 33)) := ⟨rfl, rfl, rfl, by decide +kernel, rfl, by decide +kernel, by decide +kernel⟩
abbrev d_most_of (vs : List V) : Ty := [.ow .fz, .ow .fz]
theorem bd_most_of (F : Facts P K mg) : Binds K F.fd_most_of ["by", "bounds"] [] := F.d_most_of.bindsN fun _ _ _ _ _ _ us hl => match us, hl with | [_, _], _ => rfl
theorem ok_most_of (F : Facts P K mg) : FnOk P w K mg base (L2.CX P w) 1 (He.ga K "most_of") F.fd_most_of ["by", "bounds"] (pM K t_most_of f_most_of) := by
  have sc := sc_most_of
  refine ok_def F.d_most_of sc t_most_of [] b_most_of rfl rfl (fun cdv A outer s H vs E hr => ⟨d_most_of vs, inT_out vs (le_any []) 0 t_most_of.ps, ?_⟩) (.inl rfl)
  have tk : Takes (cxOf (L2.CX P w) P w K mg base ["by", "bounds"] "most_of" (defScope (top 33)) (He.ga K "most_of") cdv A outer s H E) (scF t_most_of vs [] E).W := takes_of rfl rfl rfl rfl
  have hp : PassesOwn (model P w) (A.deeper (envOfC "most_of" (defScope (top 33)) s.heap.objs.size (He.ga K "most_of") cdv)) _ (cxOf (L2.CX P w) P w K mg base ["by", "bounds"] "most_of" (defScope (top 33)) (He.ga K "most_of") cdv A outer s H E).xe := PassesOwn.leaving
  have lr : LeT (d_most_of vs) (scF t_most_of vs [] E).tr := inT_out vs (le_any []) 0 t_most_of.ps
  exact (s_one (s_ret lr (e_callB (call_max2 rfl) rel_max2 rfl F.n_max bb_max (a_cons (e_bin op_mulD rel_mul (e_var rfl rfl (vis_by rfl)) (e_ix ix_seq rel_ix (e_var rfl rfl (vis_by rfl)) e_int fun _ _ => rfl)) (a_cons (e_bin op_mulD rel_mul (e_var rfl rfl (vis_by rfl)) (e_ix ix_seq rel_ix (e_var rfl rfl (vis_by rfl)) e_int fun _ _ => rfl)) a_nil)))))
/-! ### signed_total -/
def t_signed_total : FT := ⟨[.d, .d], .fz⟩
noncomputable def b_signed_total : MS :=
  (sRet (mFn sumD (aCons (mLc (iZp2 (aCons (mVar 1) (aCons (mVar 0) aNil))) (.tp [(.nm 2), (.nm 3)]) (mC (.bl true)) (mBin mulD (mVar 2) (mVar 3)) [2, 3]) aNil)))
noncomputable def f_signed_total : List D → RF := runF t_signed_total 4 b_signed_total
theorem sc_signed_total : FnScope ["totals", "signs", "sign", "total"] ["totals", "signs"] (defScope (top 32)) := ⟨rfl, rfl, rfl, by decide +kernel, rfl, by decide +kernel, by decide +kernel⟩
abbrev d_signed_total (vs : List V) : Ty := [.ow .fz, .ow .fz, .ow .fz, .ow .fz]
theorem bd_signed_total (F : Facts P K mg) : Binds K F.fd_signed_total ["totals", "signs"] [] := F.d_signed_total.bindsN fun _ _ _ _ _ _ us hl => match us, hl with | [_, _], _ => rfl
theorem ok_signed_total (F : Facts P K mg) : FnOk P w K mg base (L2.CX P w) 1 (He.ga K "signed_total") F.fd_signed_total ["totals", "signs"] (pM K t_signed_total f_signed_total) := by
  have sc := sc_signed_total
  refine ok_def F.d_signed_total sc t_signed_total [.ow .fz, .ow .fz] b_signed_total rfl rfl (fun cdv A outer s H vs E hr => ⟨d_signed_total vs, inT_out vs (le_any [.ow .fz, .ow .fz]) 0 t_signed_total.ps, ?_⟩) (.inl rfl)
  have tk : Takes (cxOf (L2.CX P w) P w K mg base ["totals", "signs", "sign", "total"] "signed_total" (defScope (top 32)) (He.ga K "signed_total") cdv A outer s H E) (scF t_signed_total vs [.ow .fz, .ow .fz] E).W := takes_of rfl rfl rfl rfl
  have hp : PassesOwn (model P w) (A.deeper (envOfC "signed_total" (defScope (top 32)) s.heap.objs.size (He.ga K "signed_total") cdv)) _ (cxOf (L2.CX P w) P w K mg base ["totals", "signs", "sign", "total"] "signed_total" (defScope (top 32)) (He.ga K "signed_total") cdv A outer s H E).xe := PassesOwn.leaving
  have lr : LeT (d_signed_total vs) (scF t_signed_total vs [.ow .fz, .ow .fz] E).tr := inT_out vs (le_any [.ow .fz, .ow .fz]) 0 t_signed_total.ps
  exact (s_one (s_ret lr (e_callB (cr_sum rfl) rel_sum rfl F.n_sum bb_sum (a_cons (e_fz rfl (e_lc rfl sc.nd (i_zip2 rfl F.n_zip (a_cons (e_var rfl rfl (vis_by rfl)) (a_cons (e_var rfl rfl (vis_by rfl)) a_nil))) (own := [("sign", 2), ("total", 3)]) (blkOk_by (by kernel_rfl)) (allFz ⟨rfl, ⟨rfl, trivial⟩⟩) (by decide) (fun _ _ _ _ _ => (g_tup rfl rfl (gs_cons (g_name rfl sc.nd rfl (loc_by rfl)) (gs_cons (g_name rfl sc.nd rfl (loc_by rfl)) gs_nil)))) (fun _ _ _ _ _ => t_yes) (fun _ _ _ _ _ => (e_bin op_mulD rel_mul (e_var rfl rfl (vis_by rfl)) (e_var rfl rfl (vis_by rfl)))))) a_nil))))
/-! ### pull_at -/
def t_pull_at : FT := ⟨[.d, .d], .fz⟩
noncomputable def b_pull_at : MS :=
  (sRet (mFn sumD (aCons (mLc (iSeq (mCall f_ends_at [(.d (mVar 0))] [])) (.tp [(.nm 2), (.nm 3)]) (mC (.bl true)) (mBin mulD (mVar 3) (mBin ixD (mVar 1) (mVar 2))) [2, 3]) aNil)))
noncomputable def f_pull_at : List D → RF := runF t_pull_at 4 b_pull_at
theorem sc_pull_at : FnScope ["tie", "signs", "point", "sign"] ["tie", "signs"] (defScope (top 31)) := ⟨rfl, rfl, rfl, by decide +kernel, rfl, by decide +kernel, by decide +kernel⟩
abbrev d_pull_at (vs : List V) : Ty := [.ow .fz, .ow .fz, .ow .fz, .ow .fz]
theorem bd_pull_at (F : Facts P K mg) : Binds K F.fd_pull_at ["tie", "signs"] [] := F.d_pull_at.bindsN fun _ _ _ _ _ _ us hl => match us, hl with | [_, _], _ => rfl
theorem ok_pull_at (F : Facts P K mg) : FnOk P w K mg base (L2.CX P w) 2 (He.ga K "pull_at") F.fd_pull_at ["tie", "signs"] (pM K t_pull_at f_pull_at) := by
  have sc := sc_pull_at
  refine ok_def F.d_pull_at sc t_pull_at [.ow .fz, .ow .fz] b_pull_at rfl rfl (fun cdv A outer s H vs E hr => ⟨d_pull_at vs, inT_out vs (le_any [.ow .fz, .ow .fz]) 0 t_pull_at.ps, ?_⟩) (.inl rfl)
  have tk : Takes (cxOf (L2.CX P w) P w K mg base ["tie", "signs", "point", "sign"] "pull_at" (defScope (top 31)) (He.ga K "pull_at") cdv A outer s H E) (scF t_pull_at vs [.ow .fz, .ow .fz] E).W := takes_of rfl rfl rfl rfl
  have hp : PassesOwn (model P w) (A.deeper (envOfC "pull_at" (defScope (top 31)) s.heap.objs.size (He.ga K "pull_at") cdv)) _ (cxOf (L2.CX P w) P w K mg base ["tie", "signs", "point", "sign"] "pull_at" (defScope (top 31)) (He.ga K "pull_at") cdv A outer s H E).xe := PassesOwn.leaving
  have lr : LeT (d_pull_at vs) (scF t_pull_at vs [.ow .fz, .ow .fz] E).tr := inT_out vs (le_any [.ow .fz, .ow .fz]) 0 t_pull_at.ps
  exact (s_one (s_ret lr (e_callB (cr_sum rfl) rel_sum rfl F.n_sum bb_sum (a_cons (e_fz rfl (e_lc rfl sc.nd (i_seq (e_call (ps := [.d]) (dds := []) (ret := .fz) (ks := [(.d (mVar 0))]) tk ((ok_ends_at F).mono (by decide)) hr rfl F.g_ends_at F.d_ends_at.kp (bd_ends_at F) .nil (fun _ => is_nil) lr trivial (k_d (e_var rfl rfl (vis_by rfl)) k_nil))) (own := [("point", 2), ("sign", 3)]) (blkOk_by (by kernel_rfl)) (allFz ⟨rfl, ⟨rfl, trivial⟩⟩) (by decide) (fun _ _ _ _ _ => (g_tup rfl rfl (gs_cons (g_name rfl sc.nd rfl (loc_by rfl)) (gs_cons (g_name rfl sc.nd rfl (loc_by rfl)) gs_nil)))) (fun _ _ _ _ _ => t_yes) (fun _ _ _ _ _ => (e_bin op_mulD rel_mul (e_var rfl rfl (vis_by rfl)) (e_ix ix_seq rel_ix (e_var rfl rfl (vis_by rfl)) (e_var rfl rfl (vis_by rfl)) fun _ _ => rfl))))) a_nil))))
/-! ### shortage_of -/
def t_shortage_of : FT := ⟨[.d, .d, .d], .fz⟩
noncomputable def b_shortage_of : MS :=
  (sSeq (sSet 3 (mLc (iZp2 (aCons (mUn (fldD ["Web"] "ties") (mVar 0)) (aCons (mUn (fldD ["Box"] "bounds") (mVar 1)) aNil))) (.tp [(.nm 4), (.nm 5)]) (mC (.bl true)) (mCall f_most_of [(.d (mCall f_pull_at [(.d (mVar 4)), (.d (mVar 2))] [])), (.d (mVar 5))] []) [4, 5]))
  (sRet (mBin subD (mCall f_signed_total [(.d (mUn (fldD ["Box"] "totals") (mVar 1))), (.d (mVar 2))] []) (mFn sumD (aCons (mVar 3) aNil)))))
noncomputable def f_shortage_of : List D → RF := runF t_shortage_of 6 b_shortage_of
theorem sc_shortage_of : FnScope ["web", "box", "signs", "brought", "tie", "bounds"] ["web", "box", "signs"] (defScope (top 34)) := ⟨rfl, rfl, rfl, by decide +kernel, rfl, by decide +kernel, by decide +kernel⟩
abbrev d_shortage_of (vs : List V) : Ty := [.ow .fz, .ow .fz, .ow .fz, .ow .fz, .ow .fz, .ow .fz]
theorem bd_shortage_of (F : Facts P K mg) : Binds K F.fd_shortage_of ["web", "box", "signs"] [] := F.d_shortage_of.bindsN fun _ _ _ _ _ _ us hl => match us, hl with | [_, _, _], _ => rfl
theorem ok_shortage_of (F : Facts P K mg) : FnOk P w K mg base (L2.CX P w) 3 (He.ga K "shortage_of") F.fd_shortage_of ["web", "box", "signs"] (pM K t_shortage_of f_shortage_of) := by
  have sc := sc_shortage_of
  refine ok_def F.d_shortage_of sc t_shortage_of [.ow .fz, .ow .fz, .ow .fz] b_shortage_of rfl rfl (fun cdv A outer s H vs E hr => ⟨d_shortage_of vs, inT_out vs (le_any [.ow .fz, .ow .fz, .ow .fz]) 0 t_shortage_of.ps, ?_⟩) (.inl rfl)
  have tk : Takes (cxOf (L2.CX P w) P w K mg base ["web", "box", "signs", "brought", "tie", "bounds"] "shortage_of" (defScope (top 34)) (He.ga K "shortage_of") cdv A outer s H E) (scF t_shortage_of vs [.ow .fz, .ow .fz, .ow .fz] E).W := takes_of rfl rfl rfl rfl
  have hp : PassesOwn (model P w) (A.deeper (envOfC "shortage_of" (defScope (top 34)) s.heap.objs.size (He.ga K "shortage_of") cdv)) _ (cxOf (L2.CX P w) P w K mg base ["web", "box", "signs", "brought", "tie", "bounds"] "shortage_of" (defScope (top 34)) (He.ga K "shortage_of") cdv A outer s H E).xe := PassesOwn.leaving
  have lr : LeT (d_shortage_of vs) (scF t_shortage_of vs [.ow .fz, .ow .fz, .ow .fz] E).tr := inT_out vs (le_any [.ow .fz, .ow .fz, .ow .fz]) 0 t_shortage_of.ps
  exact (s_cons (s_setLcF rfl rfl rfl sc.nd rfl rfl rfl (i_zip2 rfl F.n_zip (a_cons (e_fld (all_cons F.cls_Web all_nil) (all_cons F.na_Web_ties all_nil) (e_var rfl rfl (vis_by rfl))) (a_cons (e_fld (all_cons F.cls_Box all_nil) (all_cons F.na_Box_bounds all_nil) (e_var rfl rfl (vis_by rfl))) a_nil))) (own := [("tie", 4), ("bounds", 5)]) (blkOk_by (by kernel_rfl)) (allFz ⟨rfl, ⟨rfl, trivial⟩⟩) (by decide) (fun _ _ _ _ _ => (g_tup rfl rfl (gs_cons (g_name rfl sc.nd rfl (loc_by rfl)) (gs_cons (g_name rfl sc.nd rfl (loc_by rfl)) gs_nil)))) (fun _ _ _ _ _ => t_yes) (fun _ _ _ _ _ => (e_call (ps := [.d, .d]) (dds := []) (ret := .fz) (ks := [(.d (mCall f_pull_at [(.d (mVar 4)), (.d (mVar 2))] [])), (.d (mVar 5))]) takes0 ((ok_most_of F).mono (by decide)) hr rfl F.g_most_of F.d_most_of.kp (bd_most_of F) .nil (fun _ => is_nil) (LeT.refl _) trivial (k_d (e_call (ps := [.d, .d]) (dds := []) (ret := .fz) (ks := [(.d (mVar 4)), (.d (mVar 2))]) takes0 ((ok_pull_at F).mono (by decide)) hr rfl F.g_pull_at F.d_pull_at.kp (bd_pull_at F) .nil (fun _ => is_nil) (LeT.refl _) trivial (k_d (e_var rfl rfl (vis_by rfl)) (k_d (e_var rfl rfl (vis_by rfl)) k_nil))) (k_d (e_var rfl rfl (vis_by rfl)) k_nil)))))
  (s_one (s_ret lr (e_bin op_sub rel_sub (e_call (ps := [.d, .d]) (dds := []) (ret := .fz) (ks := [(.d (mUn (fldD ["Box"] "totals") (mVar 1))), (.d (mVar 2))]) tk ((ok_signed_total F).mono (by decide)) hr rfl F.g_signed_total F.d_signed_total.kp (bd_signed_total F) .nil (fun _ => is_nil) lr trivial (k_d (e_fld (all_cons F.cls_Box all_nil) (all_cons F.na_Box_totals all_nil) (e_var rfl rfl (vis_by rfl))) (k_d (e_var rfl rfl (vis_by rfl)) k_nil))) (e_callB (cr_sum rfl) rel_sum rfl F.n_sum bb_sum (a_cons (e_var rfl rfl (vis_by rfl)) a_nil))))))
/-! ### signs_show -/
def t_signs_show : FT := ⟨[.d, .d, .d], .fz⟩
noncomputable def b_signs_show : MS :=
  (sSeq (sExpr (mCall f_need_box [(.d (mVar 0)), (.d (mVar 1))] []))
  (sRet (mAnd (mCall f_is_sign_row [(.d (mVar 2)), (.d (mUn (fldD ["Web"] "points") (mVar 0)))] []) (mBin gtD (mCall f_shortage_of [(.d (mVar 0)), (.d (mVar 1)), (.d (mVar 2))] []) (mC (.int 0))))))
noncomputable def f_signs_show : List D → RF := runF t_signs_show 3 b_signs_show
theorem sc_signs_show : FnScope ["web", "box", "value"] ["web", "box", "value"] (defScope (top 35)) := ⟨rfl, rfl, rfl, by decide +kernel, rfl, by decide +kernel, by decide +kernel⟩
abbrev d_signs_show (vs : List V) : Ty := [.ow .fz, .ow .fz, .ow .fz]
theorem bd_signs_show (F : Facts P K mg) : Binds K F.fd_signs_show ["web", "box", "value"] [] := F.d_signs_show.bindsN fun _ _ _ _ _ _ us hl => match us, hl with | [_, _, _], _ => rfl
theorem ok_signs_show (F : Facts P K mg) : FnOk P w K mg base (L2.CX P w) 4 (He.ga K "signs_show") F.fd_signs_show ["web", "box", "value"] (pM K t_signs_show f_signs_show) := by
  have sc := sc_signs_show
  refine ok_def F.d_signs_show sc t_signs_show [] b_signs_show rfl rfl (fun cdv A outer s H vs E hr => ⟨d_signs_show vs, inT_out vs (le_any []) 0 t_signs_show.ps, ?_⟩) (.inl rfl)
  have tk : Takes (cxOf (L2.CX P w) P w K mg base ["web", "box", "value"] "signs_show" (defScope (top 35)) (He.ga K "signs_show") cdv A outer s H E) (scF t_signs_show vs [] E).W := takes_of rfl rfl rfl rfl
  have hp : PassesOwn (model P w) (A.deeper (envOfC "signs_show" (defScope (top 35)) s.heap.objs.size (He.ga K "signs_show") cdv)) _ (cxOf (L2.CX P w) P w K mg base ["web", "box", "value"] "signs_show" (defScope (top 35)) (He.ga K "signs_show") cdv A outer s H E).xe := PassesOwn.leaving
  have lr : LeT (d_signs_show vs) (scF t_signs_show vs [] E).tr := inT_out vs (le_any []) 0 t_signs_show.ps
  exact (s_cons (s_expr (e_call (ps := [.d, .d]) (dds := []) (ret := .fz) (ks := [(.d (mVar 0)), (.d (mVar 1))]) tk ((ok_need_box F).mono (by decide)) hr rfl F.g_need_box F.d_need_box.kp (bd_need_box F) .nil (fun _ => is_nil) lr trivial (k_d (e_var rfl rfl (vis_by rfl)) (k_d (e_var rfl rfl (vis_by rfl)) k_nil))))
  (s_one (s_ret lr (e_and (e_call (ps := [.d, .d]) (dds := []) (ret := .fz) (ks := [(.d (mVar 2)), (.d (mUn (fldD ["Web"] "points") (mVar 0)))]) tk ((ok_is_sign_row F).mono (by decide)) hr rfl F.g_is_sign_row F.d_is_sign_row.kp (bd_is_sign_row F) .nil (fun _ => is_nil) lr trivial (k_d (e_var rfl rfl (vis_by rfl)) (k_d (e_fld (all_cons F.cls_Web all_nil) (all_cons F.na_Web_points all_nil) (e_var rfl rfl (vis_by rfl))) k_nil))) (e_one (e_cmp op_gt rel_gt (e_call (ps := [.d, .d, .d]) (dds := []) (ret := .fz) (ks := [(.d (mVar 0)), (.d (mVar 1)), (.d (mVar 2))]) tk ((ok_shortage_of F).mono (by decide)) hr rfl F.g_shortage_of F.d_shortage_of.kp (bd_shortage_of F) .nil (fun _ => is_nil) lr trivial (k_d (e_var rfl rfl (vis_by rfl)) (k_d (e_var rfl rfl (vis_by rfl)) (k_d (e_var rfl rfl (vis_by rfl)) k_nil)))) e_int (nomark _)))))))
/-! ### fill_holds -/
def t_fill_holds : FT := ⟨[.d, .d, .d], .fz⟩
noncomputable def b_fill_holds : MS :=
  (sSeq (sExpr (mCall f_need_box [(.d (mVar 0)), (.d (mVar 1))] []))
  (sSeq (sIf (mNot (mCall f_is_paper [(.d (mVar 2)), (.d (mC (.int 2)))] [])) (sRet (mC (.bl false))) sNil)
  (sSeq (sIf (mBin eqD (mBin ixD (mVar 2) (mC (.int 0))) (mC (.str "filling"))) (sRet (mCall f_fills [(.d (mVar 0)), (.d (mVar 1)), (.d (mBin ixD (mVar 2) (mC (.int 1))))] [])) sNil)
  (sRet (mAnd (mBin eqD (mBin ixD (mVar 2) (mC (.int 0))) (mC (.str "signs"))) (mCall f_signs_show [(.d (mVar 0)), (.d (mVar 1)), (.d (mBin ixD (mVar 2) (mC (.int 1))))] []))))))
noncomputable def f_fill_holds : List D → RF := runF t_fill_holds 3 b_fill_holds
theorem sc_fill_holds : FnScope ["web", "box", "value"] ["web", "box", "value"] (defScope (top 39)) := ⟨rfl, rfl, rfl, by decide +kernel, rfl, by decide +kernel, by decide +kernel⟩
abbrev d_fill_holds (vs : List V) : Ty := [.ow .fz, .ow .fz, .ow .fz]
theorem bd_fill_holds (F : Facts P K mg) : Binds K F.fd_fill_holds ["web", "box", "value"] [] := F.d_fill_holds.bindsN fun _ _ _ _ _ _ us hl => match us, hl with | [_, _, _], _ => rfl
theorem ok_fill_holds (F : Facts P K mg) : FnOk P w K mg base (L2.CX P w) 5 (He.ga K "fill_holds") F.fd_fill_holds ["web", "box", "value"] (pM K t_fill_holds f_fill_holds) := by
  have sc := sc_fill_holds
  refine ok_def F.d_fill_holds sc t_fill_holds [] b_fill_holds rfl rfl (fun cdv A outer s H vs E hr => ⟨d_fill_holds vs, inT_out vs (le_any []) 0 t_fill_holds.ps, ?_⟩) (.inl rfl)
  have tk : Takes (cxOf (L2.CX P w) P w K mg base ["web", "box", "value"] "fill_holds" (defScope (top 39)) (He.ga K "fill_holds") cdv A outer s H E) (scF t_fill_holds vs [] E).W := takes_of rfl rfl rfl rfl
  have hp : PassesOwn (model P w) (A.deeper (envOfC "fill_holds" (defScope (top 39)) s.heap.objs.size (He.ga K "fill_holds") cdv)) _ (cxOf (L2.CX P w) P w K mg base ["web", "box", "value"] "fill_holds" (defScope (top 39)) (He.ga K "fill_holds") cdv A outer s H E).xe := PassesOwn.leaving
  have lr : LeT (d_fill_holds vs) (scF t_fill_holds vs [] E).tr := inT_out vs (le_any []) 0 t_fill_holds.ps
  exact (s_cons (s_expr (e_call (ps := [.d, .d]) (dds := []) (ret := .fz) (ks := [(.d (mVar 0)), (.d (mVar 1))]) tk ((ok_need_box F).mono (by decide)) hr rfl F.g_need_box F.d_need_box.kp (bd_need_box F) .nil (fun _ => is_nil) lr trivial (k_d (e_var rfl rfl (vis_by rfl)) (k_d (e_var rfl rfl (vis_by rfl)) k_nil))))
  (s_cons (s_if (t_not (t_ofE (e_call (ps := [.d, .d]) (dds := []) (ret := .fz) (ks := [(.d (mVar 2)), (.d (mC (.int 2)))]) tk ((ok_is_paper F).mono (by decide)) hr rfl F.g_is_paper F.d_is_paper.kp (bd_is_paper F) .nil (fun _ => is_nil) lr trivial (k_d (e_var rfl rfl (vis_by rfl)) (k_d e_int k_nil))))) (s_one (s_ret lr e_bl)) s_nil)
  (s_cons (s_if (t_cmp (op_eqD hr.units) rel_eq (e_ix ix_seq rel_ix (e_var rfl rfl (vis_by rfl)) e_int fun _ _ => rfl) e_str (nomark _)) (s_one (s_ret lr (e_call (ps := [.d, .d, .d]) (dds := []) (ret := .fz) (ks := [(.d (mVar 0)), (.d (mVar 1)), (.d (mBin ixD (mVar 2) (mC (.int 1))))]) tk ((ok_fills F).mono (by decide)) hr rfl F.g_fills F.d_fills.kp (bd_fills F) .nil (fun _ => is_nil) lr trivial (k_d (e_var rfl rfl (vis_by rfl)) (k_d (e_var rfl rfl (vis_by rfl)) (k_d (e_ix ix_seq rel_ix (e_var rfl rfl (vis_by rfl)) e_int fun _ _ => rfl) k_nil)))))) s_nil)
  (s_one (s_ret lr (e_and (e_cmp (op_eqD hr.units) rel_eq (e_ix ix_seq rel_ix (e_var rfl rfl (vis_by rfl)) e_int fun _ _ => rfl) e_str (nomark _)) (e_one (e_call (ps := [.d, .d, .d]) (dds := []) (ret := .fz) (ks := [(.d (mVar 0)), (.d (mVar 1)), (.d (mBin ixD (mVar 2) (mC (.int 1))))]) tk ((ok_signs_show F).mono (by decide)) hr rfl F.g_signs_show F.d_signs_show.kp (bd_signs_show F) .nil (fun _ => is_nil) lr trivial (k_d (e_var rfl rfl (vis_by rfl)) (k_d (e_var rfl rfl (vis_by rfl)) (k_d (e_ix ix_seq rel_ix (e_var rfl rfl (vis_by rfl)) e_int fun _ _ => rfl) k_nil)))))))))))
/-! ### filling_holds -/
def t_filling_holds : FT := ⟨[.d, .d, .d], .fz⟩
noncomputable def b_filling_holds : MS :=
  (sSeq (sExpr (mCall f_need_box [(.d (mVar 0)), (.d (mVar 1))] []))
  (sRet (mCall f_fills [(.d (mVar 0)), (.d (mVar 1)), (.d (mVar 2))] [])))
noncomputable def f_filling_holds : List D → RF := runF t_filling_holds 3 b_filling_holds
theorem sc_filling_holds : FnScope ["web", "box", "value"] ["web", "box", "value"] (defScope (top 38)) := ⟨rfl, rfl, rfl, by decide +kernel, rfl, by decide +kernel, by decide +kernel⟩
abbrev d_filling_holds (vs : List V) : Ty := [.ow .fz, .ow .fz, .ow .fz]
theorem bd_filling_holds (F : Facts P K mg) : Binds K F.fd_filling_holds ["web", "box", "value"] [] := F.d_filling_holds.bindsN fun _ _ _ _ _ _ us hl => match us, hl with | [_, _, _], _ => rfl
theorem ok_filling_holds (F : Facts P K mg) : FnOk P w K mg base (L2.CX P w) 4 (He.ga K "filling_holds") F.fd_filling_holds ["web", "box", "value"] (pM K t_filling_holds f_filling_holds) := by
  have sc := sc_filling_holds
  refine ok_def F.d_filling_holds sc t_filling_holds [] b_filling_holds rfl rfl (fun cdv A outer s H vs E hr => ⟨d_filling_holds vs, inT_out vs (le_any []) 0 t_filling_holds.ps, ?_⟩) (.inl rfl)
  have tk : Takes (cxOf (L2.CX P w) P w K mg base ["web", "box", "value"] "filling_holds" (defScope (top 38)) (He.ga K "filling_holds") cdv A outer s H E) (scF t_filling_holds vs [] E).W := takes_of rfl rfl rfl rfl
  have hp : PassesOwn (model P w) (A.deeper (envOfC "filling_holds" (defScope (top 38)) s.heap.objs.size (He.ga K "filling_holds") cdv)) _ (cxOf (L2.CX P w) P w K mg base ["web", "box", "value"] "filling_holds" (defScope (top 38)) (He.ga K "filling_holds") cdv A outer s H E).xe := PassesOwn.leaving
  have lr : LeT (d_filling_holds vs) (scF t_filling_holds vs [] E).tr := inT_out vs (le_any []) 0 t_filling_holds.ps
  exact (s_cons (s_expr (e_call (ps := [.d, .d]) (dds := []) (ret := .fz) (ks := [(.d (mVar 0)), (.d (mVar 1))]) tk ((ok_need_box F).mono (by decide)) hr rfl F.g_need_box F.d_need_box.kp (bd_need_box F) .nil (fun _ => is_nil) lr trivial (k_d (e_var rfl rfl (vis_by rfl)) (k_d (e_var rfl rfl (vis_by rfl)) k_nil))))
  (s_one (s_ret lr (e_call (ps := [.d, .d, .d]) (dds := []) (ret := .fz) (ks := [(.d (mVar 0)), (.d (mVar 1)), (.d (mVar 2))]) tk ((ok_fills F).mono (by decide)) hr rfl F.g_fills F.d_fills.kp (bd_fills F) .nil (fun _ => is_nil) lr trivial (k_d (e_var rfl rfl (vis_by rfl)) (k_d (e_var rfl rfl (vis_by rfl)) (k_d (e_var rfl rfl (vis_by rfl)) k_nil)))))))
/-! ### _law_asked -/
def t__law_asked : FT := ⟨[.o (.lst .fz), .d, .d, .d, .d, .d], .fz⟩
noncomputable def b__law_asked : MS :=
  (sSeq (sSet 6 (mMake "Web" f_Web_init (aCons (mVar 1) (aCons (mFn tupleD (aCons (mVar 2) aNil)) aNil)) []))
  (sSeq (sSet 7 (mMake "Box" f_Box_init (aCons (mVar 6) (aCons (mFn tupleD (aCons (mVar 3) aNil)) (aCons (mFn tupleD (aCons (mVar 4) aNil)) aNil))) []))
  (sSeq (sSet 8 (mCall f__law_fills [(.d (mVar 1)), (.d (mVar 2)), (.d (mVar 3)), (.d (mVar 4)), (.d (mVar 5))] []))
  (sSeq (sSet 9 (mAnd (mCall f__law_are_signs [(.d (mVar 5)), (.d (mVar 1))] []) (mBin gtD (mCall f__law_short [(.d (mVar 2)), (.d (mVar 3)), (.d (mVar 4)), (.d (mVar 5))] []) (mC (.int 0)))))
  (sSeq (sIf (mOr (mNot (mCall (f__law_is 2) [(.d (mCall f_filling_holds [(.d (mVar 6)), (.d (mVar 7)), (.d (mVar 5))] [])), (.d (mVar 8))] [])) (mNot (mCall (f__law_is 2) [(.d (mCall f_signs_show [(.d (mVar 6)), (.d (mVar 7)), (.d (mVar 5))] [])), (.d (mVar 9))] []))) (sRet (mC (.bl false))) sNil)
  (sSeq (sIf (mNot (mCall (f__law_is 2) [(.d (mCall f_fill_holds [(.d (mVar 6)), (.d (mVar 7)), (.d (mTup (aCons (mC (.str "filling")) (aCons (mVar 5) aNil))))] [])), (.d (mVar 8))] [])) (sRet (mC (.bl false))) sNil)
  (sSeq (sIf (mNot (mCall (f__law_is 2) [(.d (mCall f_fill_holds [(.d (mVar 6)), (.d (mVar 7)), (.d (mTup (aCons (mC (.str "signs")) (aCons (mVar 5) aNil))))] [])), (.d (mVar 9))] [])) (sRet (mC (.bl false))) sNil)
  (sSeq (sSet 10 (mLst (aCons (mTup (aCons (mC (.str "filling")) (aCons (mFn listD (aCons (mVar 5) aNil)) aNil))) (aCons (mLst (aCons (mC (.str "filling")) (aCons (mVar 5) aNil))) (aCons (mTup (aCons (mC (.str "filling")) (aCons (mVar 5) (aCons (mVar 5) aNil)))) (aCons (mTup (aCons (mC (.str "filling")) aNil)) (aCons (mTup (aCons (mC (.str "Filling")) (aCons (mVar 5) aNil))) aNil)))))))
  (sSeq (sSet 10 (mBin addD (mVar 10) (mLst (aCons (mTup (aCons (mC (.str "signs")) (aCons (mFn listD (aCons (mVar 5) aNil)) aNil))) (aCons (mLst (aCons (mC (.str "signs")) (aCons (mVar 5) aNil))) (aCons (mTup (aCons (mVar 5) (aCons (mC (.str "signs")) aNil))) (aCons (mTup (aCons (mC (.bl true)) (aCons (mVar 5) aNil))) (aCons (mVar 5) (aCons (mTup (aCons (mC .non) (aCons (mVar 5) aNil))) (aCons (mC (.str "signs")) aNil))))))))))
  (sRet (mAnd (mBin isBD (mCall f_fill_holds [(.d (mVar 6)), (.d (mVar 7)), (.d (mCall f__law_pick [(.o 0), (.d (mVar 10))] []))] []) (mC (.bl false))) (mBin isBD (mCall f_filling_holds [(.d (mVar 6)), (.d (mVar 7)), (.d (mFn listD (aCons (mVar 5) aNil)))] []) (mC (.bl false))))))))))))))
noncomputable def f__law_asked : List D → RF := runF t__law_asked 11 b__law_asked
theorem sc__law_asked : FnScope ["box", "points", "ties", "bounds", "totals", "value", "web", "own", "is_filling", "is_shown", "words"] ["box", "points", "ties", "bounds", "totals", "value"] (defScope (top 63)) := ⟨rfl, rfl, rfl, by decide +kernel, rfl, by decide +kernel, by decide +kernel⟩
abbrev d__law_asked (vs : List V) : Ty := [.pr (.lst .fz) (vs.getD 0 .non), .ow .fz, .ow .fz, .ow .fz, .ow .fz, .ow .fz, .ow .fz, .ow .fz, .ow .fz, .ow .fz, .ow .fz]
theorem bd__law_asked (F : Facts P K mg) : Binds K F.fd__law_asked ["box", "points", "ties", "bounds", "totals", "value"] [] := F.d__law_asked.bindsN fun _ _ _ _ _ _ us hl => match us, hl with | [_, _, _, _, _, _], _ => rfl
theorem ok__law_asked (F : Facts P K mg) : FnOk P w K mg base (L2.CX P w) 6 (He.ga K "_law_asked") F.fd__law_asked ["box", "points", "ties", "bounds", "totals", "value"] (pM K t__law_asked f__law_asked) := by
  have sc := sc__law_asked
  refine ok_def F.d__law_asked sc t__law_asked [.ow .fz, .ow .fz, .ow .fz, .ow .fz, .ow .fz] b__law_asked rfl rfl (fun cdv A outer s H vs E hr => ⟨d__law_asked vs, inT_out vs (le_any [.ow .fz, .ow .fz, .ow .fz, .ow .fz, .ow .fz]) 0 t__law_asked.ps, ?_⟩) (.inl rfl)
  have tk : Takes (cxOf (L2.CX P w) P w K mg base ["box", "points", "ties", "bounds", "totals", "value", "web", "own", "is_filling", "is_shown", "words"] "_law_asked" (defScope (top 63)) (He.ga K "_law_asked") cdv A outer s H E) (scF t__law_asked vs [.ow .fz, .ow .fz, .ow .fz, .ow .fz, .ow .fz] E).W := takes_of rfl rfl rfl rfl
  have hp : PassesOwn (model P w) (A.deeper (envOfC "_law_asked" (defScope (top 63)) s.heap.objs.size (He.ga K "_law_asked") cdv)) _ (cxOf (L2.CX P w) P w K mg base ["box", "points", "ties", "bounds", "totals", "value", "web", "own", "is_filling", "is_shown", "words"] "_law_asked" (defScope (top 63)) (He.ga K "_law_asked") cdv A outer s H E).xe := PassesOwn.leaving
  have lr : LeT (d__law_asked vs) (scF t__law_asked vs [.ow .fz, .ow .fz, .ow .fz, .ow .fz, .ow .fz] E).tr := inT_out vs (le_any [.ow .fz, .ow .fz, .ow .fz, .ow .fz, .ow .fz]) 0 t__law_asked.ps
  exact (s_cons (s_set rfl sc.nd rfl (loc_by rfl) (e_fz rfl (e_make tk lr F.mk_Web (k := 4) ((ok_Web_init F).mono (by decide)) (fun p hp => by simp at hp; exact hp) hr rfl F.g_Web (bd_Web_init F) .nil (fun _ => is_nil) (al_len (al_cons (al_cons al_nil))) (a_cons (e_var rfl rfl (vis_by rfl)) (a_cons (e_callT call_tuple_of rel_tuple rfl F.n_tuple bb_tuple (a_cons (e_var rfl rfl (vis_by rfl)) a_nil)) a_nil)))))
  (s_cons (s_set rfl sc.nd rfl (loc_by rfl) (e_fz rfl (e_make tk lr F.mk_Box (k := 4) ((ok_Box_init F).mono (by decide)) (fun p hp => by simp at hp; exact hp) hr rfl F.g_Box (bd_Box_init F) .nil (fun _ => is_nil) (al_len (al_cons (al_cons (al_cons al_nil)))) (a_cons (e_var rfl rfl (vis_by rfl)) (a_cons (e_callT call_tuple_of rel_tuple rfl F.n_tuple bb_tuple (a_cons (e_var rfl rfl (vis_by rfl)) a_nil)) (a_cons (e_callT call_tuple_of rel_tuple rfl F.n_tuple bb_tuple (a_cons (e_var rfl rfl (vis_by rfl)) a_nil)) a_nil))))))
  (s_cons (s_set rfl sc.nd rfl (loc_by rfl) (e_call (ps := [.d, .d, .d, .d, .d]) (dds := []) (ret := .fz) (ks := [(.d (mVar 1)), (.d (mVar 2)), (.d (mVar 3)), (.d (mVar 4)), (.d (mVar 5))]) tk ((ok__law_fills F).mono (by decide)) hr rfl F.g__law_fills F.d__law_fills.kp (bd__law_fills F) .nil (fun _ => is_nil) lr trivial (k_d (e_var rfl rfl (vis_by rfl)) (k_d (e_var rfl rfl (vis_by rfl)) (k_d (e_var rfl rfl (vis_by rfl)) (k_d (e_var rfl rfl (vis_by rfl)) (k_d (e_var rfl rfl (vis_by rfl)) k_nil)))))))
  (s_cons (s_set rfl sc.nd rfl (loc_by rfl) (e_and (e_call (ps := [.d, .d]) (dds := []) (ret := .fz) (ks := [(.d (mVar 5)), (.d (mVar 1))]) tk ((ok__law_are_signs F).mono (by decide)) hr rfl F.g__law_are_signs F.d__law_are_signs.kp (bd__law_are_signs F) .nil (fun _ => is_nil) lr trivial (k_d (e_var rfl rfl (vis_by rfl)) (k_d (e_var rfl rfl (vis_by rfl)) k_nil))) (e_one (e_cmp op_gt rel_gt (e_call (ps := [.d, .d, .d, .d]) (dds := []) (ret := .fz) (ks := [(.d (mVar 2)), (.d (mVar 3)), (.d (mVar 4)), (.d (mVar 5))]) tk ((ok__law_short F).mono (by decide)) hr rfl F.g__law_short F.d__law_short.kp (bd__law_short F) .nil (fun _ => is_nil) lr trivial (k_d (e_var rfl rfl (vis_by rfl)) (k_d (e_var rfl rfl (vis_by rfl)) (k_d (e_var rfl rfl (vis_by rfl)) (k_d (e_var rfl rfl (vis_by rfl)) k_nil))))) e_int (nomark _)))))
  (s_cons (s_if (t_w (w_or (t_not (t_ofE (e_call (ps := [.d, .d]) (dds := []) (ret := .fz) (ks := [(.d (mCall f_filling_holds [(.d (mVar 6)), (.d (mVar 7)), (.d (mVar 5))] [])), (.d (mVar 8))]) tk ((ok__law_is F 2).mono (by decide)) hr rfl F.g__law_is F.d__law_is.kp (bd__law_is F) .nil (fun _ => is_nil) lr trivial (k_d (e_call (ps := [.d, .d, .d]) (dds := []) (ret := .fz) (ks := [(.d (mVar 6)), (.d (mVar 7)), (.d (mVar 5))]) tk ((ok_filling_holds F).mono (by decide)) hr rfl F.g_filling_holds F.d_filling_holds.kp (bd_filling_holds F) .nil (fun _ => is_nil) lr trivial (k_d (e_var rfl rfl (vis_by rfl)) (k_d (e_var rfl rfl (vis_by rfl)) (k_d (e_var rfl rfl (vis_by rfl)) k_nil)))) (k_d (e_var rfl rfl (vis_by rfl)) k_nil))))) (w_or1 (t_not (t_ofE (e_call (ps := [.d, .d]) (dds := []) (ret := .fz) (ks := [(.d (mCall f_signs_show [(.d (mVar 6)), (.d (mVar 7)), (.d (mVar 5))] [])), (.d (mVar 9))]) tk ((ok__law_is F 2).mono (by decide)) hr rfl F.g__law_is F.d__law_is.kp (bd__law_is F) .nil (fun _ => is_nil) lr trivial (k_d (e_call (ps := [.d, .d, .d]) (dds := []) (ret := .fz) (ks := [(.d (mVar 6)), (.d (mVar 7)), (.d (mVar 5))]) tk ((ok_signs_show F).mono (by decide)) hr rfl F.g_signs_show F.d_signs_show.kp (bd_signs_show F) .nil (fun _ => is_nil) lr trivial (k_d (e_var rfl rfl (vis_by rfl)) (k_d (e_var rfl rfl (vis_by rfl)) (k_d (e_var rfl rfl (vis_by rfl)) k_nil)))) (k_d (e_var rfl rfl (vis_by rfl)) k_nil)))))))) (s_one (s_ret lr e_bl)) s_nil)
  (s_cons (s_if (t_not (t_ofE (e_call (ps := [.d, .d]) (dds := []) (ret := .fz) (ks := [(.d (mCall f_fill_holds [(.d (mVar 6)), (.d (mVar 7)), (.d (mTup (aCons (mC (.str "filling")) (aCons (mVar 5) aNil))))] [])), (.d (mVar 8))]) tk ((ok__law_is F 2).mono (by decide)) hr rfl F.g__law_is F.d__law_is.kp (bd__law_is F) .nil (fun _ => is_nil) lr trivial (k_d (e_call (ps := [.d, .d, .d]) (dds := []) (ret := .fz) (ks := [(.d (mVar 6)), (.d (mVar 7)), (.d (mTup (aCons (mC (.str "filling")) (aCons (mVar 5) aNil))))]) tk ((ok_fill_holds F).mono (by decide)) hr rfl F.g_fill_holds F.d_fill_holds.kp (bd_fill_holds F) .nil (fun _ => is_nil) lr trivial (k_d (e_var rfl rfl (vis_by rfl)) (k_d (e_var rfl rfl (vis_by rfl)) (k_d (e_tup (by decide) (al_cons (al_cons al_nil)) (a_cons e_str (a_cons (e_var rfl rfl (vis_by rfl)) a_nil))) k_nil)))) (k_d (e_var rfl rfl (vis_by rfl)) k_nil))))) (s_one (s_ret lr e_bl)) s_nil)
  (s_cons (s_if (t_not (t_ofE (e_call (ps := [.d, .d]) (dds := []) (ret := .fz) (ks := [(.d (mCall f_fill_holds [(.d (mVar 6)), (.d (mVar 7)), (.d (mTup (aCons (mC (.str "signs")) (aCons (mVar 5) aNil))))] [])), (.d (mVar 9))]) tk ((ok__law_is F 2).mono (by decide)) hr rfl F.g__law_is F.d__law_is.kp (bd__law_is F) .nil (fun _ => is_nil) lr trivial (k_d (e_call (ps := [.d, .d, .d]) (dds := []) (ret := .fz) (ks := [(.d (mVar 6)), (.d (mVar 7)), (.d (mTup (aCons (mC (.str "signs")) (aCons (mVar 5) aNil))))]) tk ((ok_fill_holds F).mono (by decide)) hr rfl F.g_fill_holds F.d_fill_holds.kp (bd_fill_holds F) .nil (fun _ => is_nil) lr trivial (k_d (e_var rfl rfl (vis_by rfl)) (k_d (e_var rfl rfl (vis_by rfl)) (k_d (e_tup (by decide) (al_cons (al_cons al_nil)) (a_cons e_str (a_cons (e_var rfl rfl (vis_by rfl)) a_nil))) k_nil)))) (k_d (e_var rfl rfl (vis_by rfl)) k_nil))))) (s_one (s_ret lr e_bl)) s_nil)
  (s_cons (s_set rfl sc.nd rfl (loc_by rfl) (e_fz rfl (e_lst (by decide) (al_cons (al_cons (al_cons (al_cons (al_cons al_nil))))) (a_cons (e_tup (by decide) (al_cons (al_cons al_nil)) (a_cons e_str (a_cons (e_callT call_list_of rel_list rfl F.n_list bb_list (a_cons (e_var rfl rfl (vis_by rfl)) a_nil)) a_nil))) (a_cons (e_fz rfl (e_lst (by decide) (al_cons (al_cons al_nil)) (a_cons e_str (a_cons (e_var rfl rfl (vis_by rfl)) a_nil)))) (a_cons (e_tup (by decide) (al_cons (al_cons (al_cons al_nil))) (a_cons e_str (a_cons (e_var rfl rfl (vis_by rfl)) (a_cons (e_var rfl rfl (vis_by rfl)) a_nil)))) (a_cons (e_tup (by decide) (al_cons al_nil) (a_cons e_str a_nil)) (a_cons (e_tup (by decide) (al_cons (al_cons al_nil)) (a_cons e_str (a_cons (e_var rfl rfl (vis_by rfl)) a_nil))) a_nil))))))))
  (s_cons (s_set rfl sc.nd rfl (loc_by rfl) (e_bin op_addD rel_add (e_var rfl rfl (vis_by rfl)) (e_fz rfl (e_lst (by decide) (al_cons (al_cons (al_cons (al_cons (al_cons (al_cons (al_cons al_nil))))))) (a_cons (e_tup (by decide) (al_cons (al_cons al_nil)) (a_cons e_str (a_cons (e_callT call_list_of rel_list rfl F.n_list bb_list (a_cons (e_var rfl rfl (vis_by rfl)) a_nil)) a_nil))) (a_cons (e_fz rfl (e_lst (by decide) (al_cons (al_cons al_nil)) (a_cons e_str (a_cons (e_var rfl rfl (vis_by rfl)) a_nil)))) (a_cons (e_tup (by decide) (al_cons (al_cons al_nil)) (a_cons (e_var rfl rfl (vis_by rfl)) (a_cons e_str a_nil))) (a_cons (e_tup (by decide) (al_cons (al_cons al_nil)) (a_cons e_bl (a_cons (e_var rfl rfl (vis_by rfl)) a_nil))) (a_cons (e_var rfl rfl (vis_by rfl)) (a_cons (e_tup (by decide) (al_cons (al_cons al_nil)) (a_cons e_non (a_cons (e_var rfl rfl (vis_by rfl)) a_nil))) (a_cons e_str a_nil)))))))))))
  (s_one (s_ret lr (e_and (e_cmp op_is_bl rel_isB (e_call (ps := [.d, .d, .d]) (dds := []) (ret := .fz) (ks := [(.d (mVar 6)), (.d (mVar 7)), (.d (mCall f__law_pick [(.o 0), (.d (mVar 10))] []))]) tk ((ok_fill_holds F).mono (by decide)) hr rfl F.g_fill_holds F.d_fill_holds.kp (bd_fill_holds F) .nil (fun _ => is_nil) lr trivial (k_d (e_var rfl rfl (vis_by rfl)) (k_d (e_var rfl rfl (vis_by rfl)) (k_d (e_call (ps := [.o (.lst .fz), .d]) (dds := []) (ret := .fz) (ks := [(.o 0), (.d (mVar 10))]) tk ((ok__law_pick F).mono (by decide)) hr rfl F.g__law_pick F.d__law_pick.kp (bd__law_pick F) .nil (fun _ => is_nil) lr ⟨rfl, (.inr ⟨_, rfl⟩), trivial, trivial⟩ (k_o rfl rfl (vis_by rfl) (k_d (e_var rfl rfl (vis_by rfl)) k_nil))) k_nil)))) e_bl (nomark _)) (e_one (e_cmp op_is_bl rel_isB (e_call (ps := [.d, .d, .d]) (dds := []) (ret := .fz) (ks := [(.d (mVar 6)), (.d (mVar 7)), (.d (mFn listD (aCons (mVar 5) aNil)))]) tk ((ok_filling_holds F).mono (by decide)) hr rfl F.g_filling_holds F.d_filling_holds.kp (bd_filling_holds F) .nil (fun _ => is_nil) lr trivial (k_d (e_var rfl rfl (vis_by rfl)) (k_d (e_var rfl rfl (vis_by rfl)) (k_d (e_callT call_list_of rel_list rfl F.n_list bb_list (a_cons (e_var rfl rfl (vis_by rfl)) a_nil)) k_nil)))) e_bl (nomark _)))))))))))))))
/-! ### _law_with -/
def t__law_with : FT := ⟨[.d, .d, .d], .fz⟩
noncomputable def b__law_with : MS :=
  (sRet (mBin addD (mBin addD (mFn tupleD (aCons (mSl slD (mVar 0) none (some (mVar 1))) aNil)) (mTup (aCons (mVar 2) aNil))) (mFn tupleD (aCons (mSl slD (mVar 0) (some (mBin addD (mVar 1) (mC (.int 1)))) none) aNil))))
noncomputable def f__law_with : List D → RF := runF t__law_with 3 b__law_with
theorem sc__law_with : FnScope ["row", "at", "value"] ["row", "at", "value"] (defScope (top 59)) := ⟨rfl, rfl, rfl, by decide +kernel, rfl, by decide +kernel, by decide +kernel⟩
abbrev d__law_with (vs : List V) : Ty := [.ow .fz, .ow .fz, .ow .fz]
theorem bd__law_with (F : Facts P K mg) : Binds K F.fd__law_with ["row", "at", "value"] [] := F.d__law_with.bindsN fun _ _ _ _ _ _ us hl => match us, hl with | [_, _, _], _ => rfl
theorem ok__law_with (F : Facts P K mg) : FnOk P w K mg base (L2.CX P w) 1 (He.ga K "_law_with") F.fd__law_with ["row", "at", "value"] (pM K t__law_with f__law_with) := by
  have sc := sc__law_with
  refine ok_def F.d__law_with sc t__law_with [] b__law_with rfl rfl (fun cdv A outer s H vs E hr => ⟨d__law_with vs, inT_out vs (le_any []) 0 t__law_with.ps, ?_⟩) (.inl rfl)
  have tk : Takes (cxOf (L2.CX P w) P w K mg base ["row", "at", "value"] "_law_with" (defScope (top 59)) (He.ga K "_law_with") cdv A outer s H E) (scF t__law_with vs [] E).W := takes_of rfl rfl rfl rfl
  have hp : PassesOwn (model P w) (A.deeper (envOfC "_law_with" (defScope (top 59)) s.heap.objs.size (He.ga K "_law_with") cdv)) _ (cxOf (L2.CX P w) P w K mg base ["row", "at", "value"] "_law_with" (defScope (top 59)) (He.ga K "_law_with") cdv A outer s H E).xe := PassesOwn.leaving
  have lr : LeT (d__law_with vs) (scF t__law_with vs [] E).tr := inT_out vs (le_any []) 0 t__law_with.ps
  exact (s_one (s_ret lr (e_bin op_addD rel_add (e_bin op_addD rel_add (e_callT call_tuple_of rel_tuple rfl F.n_tuple bb_tuple (a_cons (e_slice sl_D rel_sl (e_var rfl rfl (vis_by rfl)) part_none (part_some (e_var rfl rfl (vis_by rfl)))) a_nil)) (e_tup (by decide) (al_cons al_nil) (a_cons (e_var rfl rfl (vis_by rfl)) a_nil))) (e_callT call_tuple_of rel_tuple rfl F.n_tuple bb_tuple (a_cons (e_slice sl_D rel_sl (e_var rfl rfl (vis_by rfl)) (part_some (e_bin op_addD rel_add (e_var rfl rfl (vis_by rfl)) e_int)) part_none) a_nil)))))
/-! ### _law_cut -/
def t__law_cut : FT := ⟨[.o (.lst .fz), .d, .d, .d], .fz⟩
noncomputable def b__law_cut : MS :=
  (sSeq (sPar [4, 5] (aCons (mBin divD (mBin ixD (mVar 2) (mVar 3)) (mC (.int 2))) (aCons (mBin subD (mC (.int 0)) (mBin divD (mBin subD (mC (.int 0)) (mBin ixD (mVar 2) (mVar 3))) (mC (.int 2)))) aNil)))
  (sSeq (sSet 6 (mLst (aCons (mTup (aCons (mVar 4) (aCons (mFn max2D (aCons (mVar 5) (aCons (mBin ixD (mBin ixD (mVar 1) (mVar 3)) (mC (.int 1))) aNil))) aNil))) (aCons (mTup (aCons (mFn min2D (aCons (mVar 4) (aCons (mBin ixD (mBin ixD (mVar 1) (mVar 3)) (mC (.int 0))) aNil))) (aCons (mVar 5) aNil))) (aCons (mTup (aCons (mBin addD (mVar 4) (mC (.int 1))) (aCons (mBin addD (mVar 5) (mC (.int 9))) aNil))) (aCons (mTup (aCons (mBin subD (mVar 4) (mC (.int 9))) (aCons (mBin subD (mVar 5) (mC (.int 1))) aNil))) aNil))))))
  (sRet (mFn listD (aCons (mCall f__law_with [(.d (mVar 1)), (.d (mVar 3)), (.d (mCall f__law_pick [(.o 0), (.d (mVar 6))] []))] []) aNil)))))
noncomputable def f__law_cut : List D → RF := runF t__law_cut 7 b__law_cut
theorem sc__law_cut : FnScope ["box", "bounds", "numbers", "at", "low", "high", "some"] ["box", "bounds", "numbers", "at"] (defScope (top 65)) := ⟨rfl, rfl, rfl, by decide +kernel, rfl, by decide +kernel, by decide +kernel⟩
abbrev d__law_cut (vs : List V) : Ty := [.pr (.lst .fz) (vs.getD 0 .non), .ow .fz, .ow .fz, .ow .fz, .ow .fz, .ow .fz, .ow .fz]
theorem bd__law_cut (F : Facts P K mg) : Binds K F.fd__law_cut ["box", "bounds", "numbers", "at"] [] := F.d__law_cut.bindsN fun _ _ _ _ _ _ us hl => match us, hl with | [_, _, _, _], _ => rfl
theorem ok__law_cut (F : Facts P K mg) : FnOk P w K mg base (L2.CX P w) 3 (He.ga K "_law_cut") F.fd__law_cut ["box", "bounds", "numbers", "at"] (pM K t__law_cut f__law_cut) := by
  have sc := sc__law_cut
  refine ok_def F.d__law_cut sc t__law_cut [.ow .fz, .ow .fz, .ow .fz] b__law_cut rfl rfl (fun cdv A outer s H vs E hr => ⟨d__law_cut vs, inT_out vs (le_any [.ow .fz, .ow .fz, .ow .fz]) 0 t__law_cut.ps, ?_⟩) (.inl rfl)
  have tk : Takes (cxOf (L2.CX P w) P w K mg base ["box", "bounds", "numbers", "at", "low", "high", "some"] "_law_cut" (defScope (top 65)) (He.ga K "_law_cut") cdv A outer s H E) (scF t__law_cut vs [.ow .fz, .ow .fz, .ow .fz] E).W := takes_of rfl rfl rfl rfl
  have hp : PassesOwn (model P w) (A.deeper (envOfC "_law_cut" (defScope (top 65)) s.heap.objs.size (He.ga K "_law_cut") cdv)) _ (cxOf (L2.CX P w) P w K mg base ["box", "bounds", "numbers", "at", "low", "high", "some"] "_law_cut" (defScope (top 65)) (He.ga K "_law_cut") cdv A outer s H E).xe := PassesOwn.leaving
  have lr : LeT (d__law_cut vs) (scF t__law_cut vs [.ow .fz, .ow .fz, .ow .fz] E).tr := inT_out vs (le_any [.ow .fz, .ow .fz, .ow .fz]) 0 t__law_cut.ps
  exact (s_cons (s_par2 rfl sc.nd rfl rfl  (by decide) rfl rfl  rfl rfl  (o_cons (e_bin op_fdivW rel_div (e_ix ix_seq rel_ix (e_var rfl rfl (vis_by rfl)) (e_var rfl rfl (vis_by rfl)) fun _ _ => rfl) e_int) (o_cons (e_bin op_sub rel_sub e_int (e_bin op_fdivW rel_div (e_bin op_sub rel_sub e_int (e_ix ix_seq rel_ix (e_var rfl rfl (vis_by rfl)) (e_var rfl rfl (vis_by rfl)) fun _ _ => rfl)) e_int)) o_nil)) rfl)
  (s_cons (s_set rfl sc.nd rfl (loc_by rfl) (e_fz rfl (e_lst (by decide) (al_cons (al_cons (al_cons (al_cons al_nil)))) (a_cons (e_tup (by decide) (al_cons (al_cons al_nil)) (a_cons (e_var rfl rfl (vis_by rfl)) (a_cons (e_callB (call_max2 rfl) rel_max2 rfl F.n_max bb_max (a_cons (e_var rfl rfl (vis_by rfl)) (a_cons (e_ix ix_seq rel_ix (e_ix ix_seq rel_ix (e_var rfl rfl (vis_by rfl)) (e_var rfl rfl (vis_by rfl)) fun _ _ => rfl) e_int fun _ _ => rfl) a_nil))) a_nil))) (a_cons (e_tup (by decide) (al_cons (al_cons al_nil)) (a_cons (e_callB (call_min2 rfl) rel_min2 rfl F.n_min bb_min (a_cons (e_var rfl rfl (vis_by rfl)) (a_cons (e_ix ix_seq rel_ix (e_ix ix_seq rel_ix (e_var rfl rfl (vis_by rfl)) (e_var rfl rfl (vis_by rfl)) fun _ _ => rfl) e_int fun _ _ => rfl) a_nil))) (a_cons (e_var rfl rfl (vis_by rfl)) a_nil))) (a_cons (e_tup (by decide) (al_cons (al_cons al_nil)) (a_cons (e_bin op_addD rel_add (e_var rfl rfl (vis_by rfl)) e_int) (a_cons (e_bin op_addD rel_add (e_var rfl rfl (vis_by rfl)) e_int) a_nil))) (a_cons (e_tup (by decide) (al_cons (al_cons al_nil)) (a_cons (e_bin op_sub rel_sub (e_var rfl rfl (vis_by rfl)) e_int) (a_cons (e_bin op_sub rel_sub (e_var rfl rfl (vis_by rfl)) e_int) a_nil))) a_nil)))))))
  (s_one (s_ret lr (e_callT call_list_of rel_list rfl F.n_list bb_list (a_cons (e_call (ps := [.d, .d, .d]) (dds := []) (ret := .fz) (ks := [(.d (mVar 1)), (.d (mVar 3)), (.d (mCall f__law_pick [(.o 0), (.d (mVar 6))] []))]) tk ((ok__law_with F).mono (by decide)) hr rfl F.g__law_with F.d__law_with.kp (bd__law_with F) .nil (fun _ => is_nil) lr trivial (k_d (e_var rfl rfl (vis_by rfl)) (k_d (e_var rfl rfl (vis_by rfl)) (k_d (e_call (ps := [.o (.lst .fz), .d]) (dds := []) (ret := .fz) (ks := [(.o 0), (.d (mVar 6))]) tk ((ok__law_pick F).mono (by decide)) hr rfl F.g__law_pick F.d__law_pick.kp (bd__law_pick F) .nil (fun _ => is_nil) lr ⟨rfl, (.inr ⟨_, rfl⟩), trivial, trivial⟩ (k_o rfl rfl (vis_by rfl) (k_d (e_var rfl rfl (vis_by rfl)) k_nil))) k_nil)))) a_nil))))))
/-! ### _law_bent -/
def t__law_bent : FT := ⟨[.o (.lst .fz), .d], .fz⟩
noncomputable def b__law_bent : MS :=
  (sSeq (sIf (mBin eqD (mFn lenD (aCons (mVar 1) aNil)) (mC (.int 0))) (sRet (mCall f__law_pick [(.o 0), (.d (mLst (aCons (mTup (aCons (mC (.int 0)) aNil)) (aCons (mTup (aCons (mC .non) aNil)) (aCons (mTup (aCons (mTup aNil) aNil)) aNil)))))] [])) sNil)
  (sSeq (sSet 2 (mCall f__law_take [(.o 0), (.d (mFn lenD (aCons (mVar 1) aNil)))] []))
  (sForget 3 (sSeq (sSet 3 (mLst (aCons (mBin addD (mVar 1) (mTup (aCons (mC (.int 0)) aNil))) (aCons (mSl slD (mVar 1) (some (mC (.int 1))) none) (aCons (mCall f__law_with [(.d (mVar 1)), (.d (mVar 2)), (.d (mC .non))] []) (aCons (mCall f__law_with [(.d (mVar 1)), (.d (mVar 2)), (.d (mFn strD (aCons (mBin ixD (mVar 1) (mVar 2)) aNil)))] []) aNil))))))
  (sSeq (sApp 3 (mCall f__law_with [(.d (mVar 1)), (.d (mVar 2)), (.d (mTup (aCons (mBin ixD (mVar 1) (mVar 2)) aNil)))] []))
  (sSeq (sApp 3 (mIf (mBin inD (mBin ixD (mVar 1) (mVar 2)) (mTup (aCons (mC (.int 0)) (aCons (mC (.int 1)) aNil)))) (mCall f__law_with [(.d (mVar 1)), (.d (mVar 2)), (.d (mBin eqD (mBin ixD (mVar 1) (mVar 2)) (mC (.int 1))))] []) (mCall f__law_with [(.d (mVar 1)), (.d (mVar 2)), (.d (mC (.bl true)))] [])))
  (sSeq (sSet 3 (mBin catD (mBin addD (mVar 3) (mLc (iSeq (mTup (aCons (mUn negD (mC (.int 2))) (aCons (mUn negD (mC (.int 1))) (aCons (mC (.int 1)) (aCons (mC (.int 2)) aNil)))))) (.nm 4) (mC (.bl true)) (mCall f__law_with [(.d (mVar 1)), (.d (mVar 2)), (.d (mBin addD (mBin ixD (mVar 1) (mVar 2)) (mVar 4)))] []) [4])) (mLst (aCons (mSl3 (mVar 1) none none (mUn negD (mC (.int 1)))) aNil))))
  (sSeq (sApp 3 (mCall f__law_with [(.d (mVar 1)), (.d (mVar 2)), (.d (mBin subD (mC (.int 0)) (mBin ixD (mVar 1) (mVar 2))))] []))
  (sRet (mCall f__law_pick [(.o 0), (.d (mVar 3))] []))))))))))
noncomputable def f__law_bent : List D → RF := runF t__law_bent 5 b__law_bent
theorem sc__law_bent : FnScope ["box", "value", "at", "some", "by"] ["box", "value"] (defScope (top 64)) := ⟨rfl, rfl, rfl, by decide +kernel, rfl, by decide +kernel, by decide +kernel⟩
abbrev d__law_bent (vs : List V) : Ty := [.pr (.lst .fz) (vs.getD 0 .non), .ow .fz, .ow .fz, .ow .fz, .ow .fz]
theorem bd__law_bent (F : Facts P K mg) : Binds K F.fd__law_bent ["box", "value"] [] := F.d__law_bent.bindsN fun _ _ _ _ _ _ us hl => match us, hl with | [_, _], _ => rfl
theorem ok__law_bent (F : Facts P K mg) : FnOk P w K mg base (L2.CX P w) 3 (He.ga K "_law_bent") F.fd__law_bent ["box", "value"] (pM K t__law_bent f__law_bent) := by
  have sc := sc__law_bent
  refine ok_def F.d__law_bent sc t__law_bent [.ow .fz, .ow .fz, .ow .fz] b__law_bent rfl rfl (fun cdv A outer s H vs E hr => ⟨((((d__law_bent vs).set 3 (.ow (.lst .fz))).set 3 (.ow .fz)).set 3 (.ow (.lst .fz))).set 3 (.ow .fz), leT_set (leT_set (leT_set (leT_set (inT_out vs (le_any [.ow .fz, .ow .fz, .ow .fz]) 0 t__law_bent.ps) rfl) rfl) rfl) rfl, ?_⟩) (.inl rfl)
  have tk : Takes (cxOf (L2.CX P w) P w K mg base ["box", "value", "at", "some", "by"] "_law_bent" (defScope (top 64)) (He.ga K "_law_bent") cdv A outer s H E) (scF t__law_bent vs [.ow .fz, .ow .fz, .ow .fz] E).W := takes_of rfl rfl rfl rfl
  have hp : PassesOwn (model P w) (A.deeper (envOfC "_law_bent" (defScope (top 64)) s.heap.objs.size (He.ga K "_law_bent") cdv)) _ (cxOf (L2.CX P w) P w K mg base ["box", "value", "at", "some", "by"] "_law_bent" (defScope (top 64)) (He.ga K "_law_bent") cdv A outer s H E).xe := PassesOwn.leaving
  have lr : LeT (d__law_bent vs) (scF t__law_bent vs [.ow .fz, .ow .fz, .ow .fz] E).tr := inT_out vs (le_any [.ow .fz, .ow .fz, .ow .fz]) 0 t__law_bent.ps
  exact (s_cons (s_if (t_cmp (op_eqD hr.units) rel_eq (e_callB call_len rel_len rfl F.n_len bb_len (a_cons (e_var rfl rfl (vis_by rfl)) a_nil)) e_int (nomark _)) (s_one (s_ret lr (e_call (ps := [.o (.lst .fz), .d]) (dds := []) (ret := .fz) (ks := [(.o 0), (.d (mLst (aCons (mTup (aCons (mC (.int 0)) aNil)) (aCons (mTup (aCons (mC .non) aNil)) (aCons (mTup (aCons (mTup aNil) aNil)) aNil)))))]) tk ((ok__law_pick F).mono (by decide)) hr rfl F.g__law_pick F.d__law_pick.kp (bd__law_pick F) .nil (fun _ => is_nil) lr ⟨rfl, (.inr ⟨_, rfl⟩), trivial, trivial⟩ (k_o rfl rfl (vis_by rfl) (k_d (e_fz rfl (e_lst (by decide) (al_cons (al_cons (al_cons al_nil))) (a_cons (e_tup (by decide) (al_cons al_nil) (a_cons e_int a_nil)) (a_cons (e_tup (by decide) (al_cons al_nil) (a_cons e_non a_nil)) (a_cons (e_tup (by decide) (al_cons al_nil) (a_cons (e_tup (by decide) al_nil a_nil) a_nil)) a_nil))))) k_nil))))) s_nil)
  (s_cons (s_set rfl sc.nd rfl (loc_by rfl) (e_call (ps := [.o (.lst .fz), .d]) (dds := []) (ret := .fz) (ks := [(.o 0), (.d (mFn lenD (aCons (mVar 1) aNil)))]) tk ((ok__law_take F).mono (by decide)) hr rfl F.g__law_take F.d__law_take.kp (bd__law_take F) .nil (fun _ => is_nil) lr ⟨rfl, (.inr ⟨_, rfl⟩), trivial, trivial⟩ (k_o rfl rfl (vis_by rfl) (k_d (e_callB call_len rel_len rfl F.n_len bb_len (a_cons (e_var rfl rfl (vis_by rfl)) a_nil)) k_nil))))
  (s_forget (i := 3) (s' := .ow (.lst .fz)) (s_cons (s_set rfl sc.nd rfl (loc_by rfl) (e_lst (by decide) (al_cons (al_cons (al_cons (al_cons al_nil)))) (a_cons (e_bin op_addD rel_add (e_var rfl rfl (vis_by rfl)) (e_tup (by decide) (al_cons al_nil) (a_cons e_int a_nil))) (a_cons (e_slice sl_D rel_sl (e_var rfl rfl (vis_by rfl)) (part_some e_int) part_none) (a_cons (e_call (ps := [.d, .d, .d]) (dds := []) (ret := .fz) (ks := [(.d (mVar 1)), (.d (mVar 2)), (.d (mC .non))]) tk ((ok__law_with F).mono (by decide)) hr rfl F.g__law_with F.d__law_with.kp (bd__law_with F) .nil (fun _ => is_nil) (leT_set lr rfl) trivial (k_d (e_var rfl rfl (vis_by rfl)) (k_d (e_var rfl rfl (vis_by rfl)) (k_d e_non k_nil)))) (a_cons (e_call (ps := [.d, .d, .d]) (dds := []) (ret := .fz) (ks := [(.d (mVar 1)), (.d (mVar 2)), (.d (mFn strD (aCons (mBin ixD (mVar 1) (mVar 2)) aNil)))]) tk ((ok__law_with F).mono (by decide)) hr rfl F.g__law_with F.d__law_with.kp (bd__law_with F) .nil (fun _ => is_nil) (leT_set lr rfl) trivial (k_d (e_var rfl rfl (vis_by rfl)) (k_d (e_var rfl rfl (vis_by rfl)) (k_d (e_callT call_str_int rel_str rfl F.n_str bb_str (a_cons (e_ix ix_seq rel_ix (e_var rfl rfl (vis_by rfl)) (e_var rfl rfl (vis_by rfl)) fun _ _ => rfl) a_nil)) k_nil)))) a_nil))))))
  (s_cons (s_app (.inl rfl) rfl (vis_by rfl) (e_call (ps := [.d, .d, .d]) (dds := []) (ret := .fz) (ks := [(.d (mVar 1)), (.d (mVar 2)), (.d (mTup (aCons (mBin ixD (mVar 1) (mVar 2)) aNil)))]) tk ((ok__law_with F).mono (by decide)) hr rfl F.g__law_with F.d__law_with.kp (bd__law_with F) .nil (fun _ => is_nil) (leT_set lr rfl) trivial (k_d (e_var rfl rfl (vis_by rfl)) (k_d (e_var rfl rfl (vis_by rfl)) (k_d (e_tup (by decide) (al_cons al_nil) (a_cons (e_ix ix_seq rel_ix (e_var rfl rfl (vis_by rfl)) (e_var rfl rfl (vis_by rfl)) fun _ _ => rfl) a_nil)) k_nil)))))
  (s_cons (s_app (.inl rfl) rfl (vis_by rfl) (e_if (t_cmp op_in_seq rel_in (e_ix ix_seq rel_ix (e_var rfl rfl (vis_by rfl)) (e_var rfl rfl (vis_by rfl)) fun _ _ => rfl) (e_tup (by decide) (al_cons (al_cons al_nil)) (a_cons e_int (a_cons e_int a_nil))) rfl) (e_call (ps := [.d, .d, .d]) (dds := []) (ret := .fz) (ks := [(.d (mVar 1)), (.d (mVar 2)), (.d (mBin eqD (mBin ixD (mVar 1) (mVar 2)) (mC (.int 1))))]) tk ((ok__law_with F).mono (by decide)) hr rfl F.g__law_with F.d__law_with.kp (bd__law_with F) .nil (fun _ => is_nil) (leT_set lr rfl) trivial (k_d (e_var rfl rfl (vis_by rfl)) (k_d (e_var rfl rfl (vis_by rfl)) (k_d (e_cmp (op_eqD hr.units) rel_eq (e_ix ix_seq rel_ix (e_var rfl rfl (vis_by rfl)) (e_var rfl rfl (vis_by rfl)) fun _ _ => rfl) e_int (nomark _)) k_nil)))) (e_call (ps := [.d, .d, .d]) (dds := []) (ret := .fz) (ks := [(.d (mVar 1)), (.d (mVar 2)), (.d (mC (.bl true)))]) tk ((ok__law_with F).mono (by decide)) hr rfl F.g__law_with F.d__law_with.kp (bd__law_with F) .nil (fun _ => is_nil) (leT_set lr rfl) trivial (k_d (e_var rfl rfl (vis_by rfl)) (k_d (e_var rfl rfl (vis_by rfl)) (k_d e_bl k_nil))))))
  (s_frz (i := 3) rfl rfl (s_cons (s_setR rfl sc.nd rfl (loc_by rfl) (e_cat (e_bin op_addD rel_add (e_var rfl rfl (vis_by rfl)) (e_fz rfl (e_lc rfl sc.nd (i_seq (e_tup (by decide) (al_cons (al_cons (al_cons (al_cons al_nil)))) (a_cons (e_un un_neg rel_neg e_int) (a_cons (e_un un_neg rel_neg e_int) (a_cons e_int (a_cons e_int a_nil)))))) (own := [("by", 4)]) (blkOk_by (by kernel_rfl)) (allFz ⟨rfl, trivial⟩) (by decide) (fun _ _ _ _ _ => (g_name rfl sc.nd rfl (loc_by rfl))) (fun _ _ _ _ _ => t_yes) (fun _ _ _ _ _ => (e_call (ps := [.d, .d, .d]) (dds := []) (ret := .fz) (ks := [(.d (mVar 1)), (.d (mVar 2)), (.d (mBin addD (mBin ixD (mVar 1) (mVar 2)) (mVar 4)))]) takes0 ((ok__law_with F).mono (by decide)) hr rfl F.g__law_with F.d__law_with.kp (bd__law_with F) .nil (fun _ => is_nil) (LeT.refl _) trivial (k_d (e_var rfl rfl (vis_by rfl)) (k_d (e_var rfl rfl (vis_by rfl)) (k_d (e_bin op_addD rel_add (e_ix ix_seq rel_ix (e_var rfl rfl (vis_by rfl)) (e_var rfl rfl (vis_by rfl)) fun _ _ => rfl) (e_var rfl rfl (vis_by rfl))) k_nil)))))))) (e_fz rfl (e_lst (by decide) (al_cons al_nil) (a_cons (e_slice3 (e_var rfl rfl (vis_by rfl)) part_none part_none (e_un un_neg rel_neg e_int)) a_nil)))))
  (s_cons (s_app (.inl rfl) rfl (vis_by rfl) (e_call (ps := [.d, .d, .d]) (dds := []) (ret := .fz) (ks := [(.d (mVar 1)), (.d (mVar 2)), (.d (mBin subD (mC (.int 0)) (mBin ixD (mVar 1) (mVar 2))))]) tk ((ok__law_with F).mono (by decide)) hr rfl F.g__law_with F.d__law_with.kp (bd__law_with F) .nil (fun _ => is_nil) (leT_set (leT_set (leT_set lr rfl) rfl) rfl) trivial (k_d (e_var rfl rfl (vis_by rfl)) (k_d (e_var rfl rfl (vis_by rfl)) (k_d (e_bin op_sub rel_sub e_int (e_ix ix_seq rel_ix (e_var rfl rfl (vis_by rfl)) (e_var rfl rfl (vis_by rfl)) fun _ _ => rfl)) k_nil)))))
  (s_frz (i := 3) rfl rfl (s_one (s_ret (leT_set (leT_set (leT_set (leT_set lr rfl) rfl) rfl) rfl) (e_call (ps := [.o (.lst .fz), .d]) (dds := []) (ret := .fz) (ks := [(.o 0), (.d (mVar 3))]) tk ((ok__law_pick F).mono (by decide)) hr rfl F.g__law_pick F.d__law_pick.kp (bd__law_pick F) .nil (fun _ => is_nil) (leT_set (leT_set (leT_set (leT_set lr rfl) rfl) rfl) rfl) ⟨rfl, (.inr ⟨_, rfl⟩), trivial, trivial⟩ (k_o rfl rfl (vis_by rfl) (k_d (e_var rfl rfl (vis_by rfl)) k_nil)))))))))))))))
/-! ### _law_norm -/
def t__law_norm : FT := ⟨[.d], .fz⟩
noncomputable def b__law_norm : MS :=
  (sSeq (sIf (mAnd (mBin eqD (mFn lenD (aCons (mVar 0) aNil)) (mC (.int 4))) (mBin ltD (mBin ixD (mVar 0) (mC (.int 2))) (mBin ixD (mVar 0) (mC (.int 0))))) (sRet (mTup (aCons (mBin ixD (mVar 0) (mC (.int 2))) (aCons (mBin ixD (mVar 0) (mC (.int 3))) (aCons (mBin ixD (mVar 0) (mC (.int 0))) (aCons (mBin ixD (mVar 0) (mC (.int 1))) aNil)))))) sNil)
  (sRet (mFn tupleD (aCons (mVar 0) aNil))))
noncomputable def f__law_norm : List D → RF := runF t__law_norm 1 b__law_norm
theorem sc__law_norm : FnScope ["tie"] ["tie"] (defScope (top 48)) := ⟨rfl, rfl, rfl, by decide +kernel, rfl, by decide +kernel, by decide +kernel⟩
abbrev d__law_norm (vs : List V) : Ty := [.ow .fz]
theorem bd__law_norm (F : Facts P K mg) : Binds K F.fd__law_norm ["tie"] [] := F.d__law_norm.bindsN fun _ _ _ _ _ _ us hl => match us, hl with | [_], _ => rfl
theorem ok__law_norm (F : Facts P K mg) : FnOk P w K mg base (L2.CX P w) 1 (He.ga K "_law_norm") F.fd__law_norm ["tie"] (pM K t__law_norm f__law_norm) := by
  have sc := sc__law_norm
  refine ok_def F.d__law_norm sc t__law_norm [] b__law_norm rfl rfl (fun cdv A outer s H vs E hr => ⟨d__law_norm vs, inT_out vs (le_any []) 0 t__law_norm.ps, ?_⟩) (.inl rfl)
  have tk : Takes (cxOf (L2.CX P w) P w K mg base ["tie"] "_law_norm" (defScope (top 48)) (He.ga K "_law_norm") cdv A outer s H E) (scF t__law_norm vs [] E).W := takes_of rfl rfl rfl rfl
  have hp : PassesOwn (model P w) (A.deeper (envOfC "_law_norm" (defScope (top 48)) s.heap.objs.size (He.ga K "_law_norm") cdv)) _ (cxOf (L2.CX P w) P w K mg base ["tie"] "_law_norm" (defScope (top 48)) (He.ga K "_law_norm") cdv A outer s H E).xe := PassesOwn.leaving
  have lr : LeT (d__law_norm vs) (scF t__law_norm vs [] E).tr := inT_out vs (le_any []) 0 t__law_norm.ps
  exact (s_cons (s_if (t_w (w_and (t_cmp (op_eqD hr.units) rel_eq (e_callB call_len rel_len rfl F.n_len bb_len (a_cons (e_var rfl rfl (vis_by rfl)) a_nil)) e_int (nomark _)) (w_and1 (t_cmp op_lt rel_lt (e_ix ix_seq rel_ix (e_var rfl rfl (vis_by rfl)) e_int fun _ _ => rfl) (e_ix ix_seq rel_ix (e_var rfl rfl (vis_by rfl)) e_int fun _ _ => rfl) (nomark _))))) (s_one (s_ret lr (e_tup (by decide) (al_cons (al_cons (al_cons (al_cons al_nil)))) (a_cons (e_ix ix_seq rel_ix (e_var rfl rfl (vis_by rfl)) e_int fun _ _ => rfl) (a_cons (e_ix ix_seq rel_ix (e_var rfl rfl (vis_by rfl)) e_int fun _ _ => rfl) (a_cons (e_ix ix_seq rel_ix (e_var rfl rfl (vis_by rfl)) e_int fun _ _ => rfl) (a_cons (e_ix ix_seq rel_ix (e_var rfl rfl (vis_by rfl)) e_int fun _ _ => rfl) a_nil))))))) s_nil)
  (s_one (s_ret lr (e_callT call_tuple_of rel_tuple rfl F.n_tuple bb_tuple (a_cons (e_var rfl rfl (vis_by rfl)) a_nil)))))
/-! ### law -/
def t_law : FT := ⟨[.d], .fz⟩
noncomputable def b_law : MS :=
  (sSeq (sSet 1 (mCall f__law_box [(.d (mVar 0))] []))
  (sSeq (sAsg (.tp [(.nm 2), (.nm 3), (.nm 4)]) (mCall f__law_scales [(.o 1)] []))
  (sSeq (sSet 2 (mIf (mBin ltD (mVar 2) (mC (.int 150))) (mBin addD (mC (.int 1)) (mCall f__law_take [(.o 1), (.d (mVar 2))] [])) (mVar 2)))
  (sSeq (sPar [5, 6] (aCons (mLst aNil) (aCons (mLst aNil) aNil)))
  (sSeq (sFor (iSeq (mCall f__law_rings [(.o 1), (.d (mVar 2)), (.d (mIf (mBin ltD (mVar 2) (mC (.int 150))) (mCall f__law_take [(.o 1), (.d (mC (.int 3)))] []) (mC (.int 20))))] [])) (.nm 7) (sPar [5, 6] (aCons (mBin addD (mVar 5) (mVar 7)) (aCons (mBin addD (mVar 6) (mBin repD (mLst (aCons (mCall f__law_take [(.o 1), (.d (mC (.int 2)))] []) aNil)) (mFn lenD (aCons (mVar 7) aNil)))) aNil))))
  (sSeq (sSet 8 (mCall f__law_web [(.o 1), (.d (mVar 2)), (.d (mIf (mBin ltD (mVar 3) (mC (.int 300))) (mCall f__law_take [(.o 1), (.d (mBin addD (mVar 3) (mC (.int 1))))] []) (mBin subD (mVar 3) (mFn lenD (aCons (mVar 5) aNil))))), (.d (mCall f__law_take [(.o 1), (.d (mBin addD (mVar 4) (mC (.int 1))))] []))] []))
  (sSeq (sPar [5, 6] (aCons (mLc (iSeq (mBin addD (mVar 5) (mVar 8))) (.nm 24) (mC (.bl true)) (mCall f__law_norm [(.d (mVar 24))] []) [24]) (aCons (mBin addD (mVar 6) (mBin repD (mLst (aCons (mC (.int 0)) aNil)) (mFn lenD (aCons (mVar 8) aNil)))) aNil)))
  (sSeq (sSet 9 (mBin subD (mBin divD (mBin powD (mC (.int 10)) (mC (.int 18))) (mBin mulD (mC (.int 20)) (mBin addD (mBin addD (mFn lenD (aCons (mVar 5) aNil)) (mVar 2)) (mC (.int 1))))) (mC (.int 9))))
  (sSeq (sAsg (.tp [(.nm 10), (.nm 11)]) (mCall f__law_full [(.o 1), (.d (mVar 5)), (.d (mCall f__law_pick [(.o 1), (.d (mLst (aCons (mC (.int 0)) (aCons (mC (.int 1)) (aCons (mC (.int 2)) (aCons (mC (.int 40)) (aCons (mVar 9) (aCons (mVar 9) aNil))))))))] [])), (.d (mVar 6))] []))
  (sSeq (sSet 12 (mLc (iSeq (mCall f__law_sums [(.d (mVar 2)), (.d (mVar 5)), (.d (mVar 11))] [])) (.nm 21) (mC (.bl true)) (mBin divD (mVar 21) (mC (.int 2))) [21]))
  (sSeq (sSet 13 (mFn tupleD (aCons (mVar 11) aNil)))
  (sSeq (sIf (mOr (mNot (mCall f__law_fills [(.d (mVar 2)), (.d (mVar 5)), (.d (mVar 10)), (.d (mVar 12)), (.d (mVar 13))] [])) (mNot (mCall f__law_asked [(.o 1), (.d (mVar 2)), (.d (mVar 5)), (.d (mVar 10)), (.d (mVar 12)), (.d (mVar 13))] []))) (sRet (mC (.bl false))) sNil)
  (sSeq (sIf (mNot (mCall f__law_asked [(.o 1), (.d (mVar 2)), (.d (mVar 5)), (.d (mVar 10)), (.d (mVar 12)), (.d (mCall f__law_bent [(.o 1), (.d (mVar 13))] []))] [])) (sRet (mC (.bl false))) sNil)
  (sSeq (sIf (mBin gtD (mFn lenD (aCons (mVar 5) aNil)) (mC (.int 0))) (sSeq (sSet 14 (mCall f__law_cut [(.o 1), (.d (mVar 10)), (.d (mVar 11)), (.d (mCall f__law_take [(.o 1), (.d (mFn lenD (aCons (mVar 5) aNil)))] []))] []))
  (sIf (mNot (mCall f__law_asked [(.o 1), (.d (mVar 2)), (.d (mVar 5)), (.d (mVar 14)), (.d (mVar 12)), (.d (mVar 13))] [])) (sRet (mC (.bl false))) sNil)) sNil)
  (sSeq (sSet 15 (mCall f__law_take [(.o 1), (.d (mVar 2))] []))
  (sSeq (sIf (mNot (mCall f__law_asked [(.o 1), (.d (mVar 2)), (.d (mVar 5)), (.d (mVar 10)), (.d (mFn listD (aCons (mCall f__law_with [(.d (mVar 12)), (.d (mVar 15)), (.d (mBin addD (mBin ixD (mVar 12) (mVar 15)) (mCall f__law_sign [(.o 1)] [])))] []) aNil))), (.d (mVar 13))] [])) (sRet (mC (.bl false))) sNil)
  (sSeq (sSet 16 (mCall f__law_signs [(.o 1), (.d (mVar 2))] []))
  (sSeq (sSet 17 (mLc (iEnu (aCons (mVar 16) aNil)) (.tp [(.nm 22), (.nm 23)]) (mBin neD (mVar 23) (mC (.int 0))) (mVar 22) [22, 23]))
  (sSeq (sIf (mBin neD (mVar 17) (mLst aNil)) (sSeq (sPar [15, 18] (aCons (mCall f__law_pick [(.o 1), (.d (mVar 17))] []) (aCons (mCall f__law_pick [(.o 1), (.d (mLst (aCons (mC (.int 0)) (aCons (mC (.int 1)) (aCons (mC (.int 1)) (aCons (mC (.int 2)) (aCons (mFn absD (aCons (mCall f__law_far [(.o 1), (.d (mBin powD (mC (.int 10)) (mC (.int 9))))] []) aNil)) aNil)))))))] []) aNil)))
  (sSeq (sSet 19 (mBin mulD (mBin ixD (mVar 16) (mVar 15)) (mBin subD (mVar 18) (mCall f__law_short [(.d (mVar 5)), (.d (mVar 10)), (.d (mVar 12)), (.d (mVar 16))] []))))
  (sSet 12 (mFn listD (aCons (mCall f__law_with [(.d (mVar 12)), (.d (mVar 15)), (.d (mBin addD (mBin ixD (mVar 12) (mVar 15)) (mVar 19)))] []) aNil))))) sNil)
  (sSeq (sIf (mNot (mCall f__law_asked [(.o 1), (.d (mVar 2)), (.d (mVar 5)), (.d (mVar 10)), (.d (mVar 12)), (.d (mVar 16))] [])) (sRet (mC (.bl false))) sNil)
  (sSeq (sSet 20 (mFn tupleD (aCons (mLc (iSeq (mVar 16)) (.nm 23) (mC (.bl true)) (mUn negD (mVar 23)) [23]) aNil)))
  (sSeq (sIf (mNot (mCall f__law_asked [(.o 1), (.d (mVar 2)), (.d (mVar 5)), (.d (mVar 10)), (.d (mVar 12)), (.d (mVar 20))] [])) (sRet (mC (.bl false))) sNil)
  (sRet (mCall f__law_asked [(.o 1), (.d (mVar 2)), (.d (mVar 5)), (.d (mVar 10)), (.d (mVar 12)), (.d (mCall f__law_bent [(.o 1), (.d (mVar 16))] []))] []))))))))))))))))))))))))
noncomputable def f_law : List D → RF := runF t_law 25 b_law
theorem sc_law : FnScope ["script", "box", "points", "twos", "loose", "ties", "halves", "ring", "rest", "great", "bounds", "numbers", "totals", "z", "cut", "at", "signs", "some", "by", "more", "about", "total", "point", "sign", "tie"] ["script"] (defScope (top 66)) := ⟨rfl, rfl, rfl, by decide +kernel, rfl, by decide +kernel, by decide +kernel⟩
abbrev d_law (vs : List V) : Ty := [.ow .fz, .ow (.lst .fz), .ow .fz, .ow .fz, .ow .fz, .ow .fz, .ow .fz, .ow .fz, .ow .fz, .ow .fz, .ow .fz, .ow .fz, .ow .fz, .ow .fz, .ow .fz, .ow .fz, .ow .fz, .ow .fz, .ow .fz, .ow .fz, .ow .fz, .ow .fz, .ow .fz, .ow .fz, .ow .fz]
theorem bd_law (F : Facts P K mg) : Binds K F.fd_law ["script"] [] := F.d_law.bindsN fun _ _ _ _ _ _ us hl => match us, hl with | [_], _ => rfl
theorem ok_law (F : Facts P K mg) : FnOk P w K mg base (L2.CX P w) 7 (He.ga K "law") F.fd_law ["script"] (pM K t_law f_law) := by
  have sc := sc_law
  refine ok_def F.d_law sc t_law [.ow (.lst .fz), .ow .fz, .ow .fz, .ow .fz, .ow .fz, .ow .fz, .ow .fz, .ow .fz, .ow .fz, .ow .fz, .ow .fz, .ow .fz, .ow .fz, .ow .fz, .ow .fz, .ow .fz, .ow .fz, .ow .fz, .ow .fz, .ow .fz, .ow .fz, .ow .fz, .ow .fz, .ow .fz] b_law rfl rfl (fun cdv A outer s H vs E hr => ⟨d_law vs, inT_out vs (le_any [.ow (.lst .fz), .ow .fz, .ow .fz, .ow .fz, .ow .fz, .ow .fz, .ow .fz, .ow .fz, .ow .fz, .ow .fz, .ow .fz, .ow .fz, .ow .fz, .ow .fz, .ow .fz, .ow .fz, .ow .fz, .ow .fz, .ow .fz, .ow .fz, .ow .fz, .ow .fz, .ow .fz, .ow .fz]) 0 t_law.ps, ?_⟩) (.inl rfl)
  have tk : Takes (cxOf (L2.CX P w) P w K mg base ["script", "box", "points", "twos", "loose", "ties", "halves", "ring", "rest", "great", "bounds", "numbers", "totals", "z", "cut", "at", "signs", "some", "by", "more", "about", "total", "point", "sign", "tie"] "law" (defScope (top 66)) (He.ga K "law") cdv A outer s H E) (scF t_law vs [.ow (.lst .fz), .ow .fz, .ow .fz, .ow .fz, .ow .fz, .ow .fz, .ow .fz, .ow .fz, .ow .fz, .ow .fz, .ow .fz, .ow .fz, .ow .fz, .ow .fz, .ow .fz, .ow .fz, .ow .fz, .ow .fz, .ow .fz, .ow .fz, .ow .fz, .ow .fz, .ow .fz, .ow .fz] E).W := takes_of rfl rfl rfl rfl
  have hp : PassesOwn (model P w) (A.deeper (envOfC "law" (defScope (top 66)) s.heap.objs.size (He.ga K "law") cdv)) _ (cxOf (L2.CX P w) P w K mg base ["script", "box", "points", "twos", "loose", "ties", "halves", "ring", "rest", "great", "bounds", "numbers", "totals", "z", "cut", "at", "signs", "some", "by", "more", "about", "total", "point", "sign", "tie"] "law" (defScope (top 66)) (He.ga K "law") cdv A outer s H E).xe := PassesOwn.leaving
  have lr : LeT (d_law vs) (scF t_law vs [.ow (.lst .fz), .ow .fz, .ow .fz, .ow .fz, .ow .fz, .ow .fz, .ow .fz, .ow .fz, .ow .fz, .ow .fz, .ow .fz, .ow .fz, .ow .fz, .ow .fz, .ow .fz, .ow .fz, .ow .fz, .ow .fz, .ow .fz, .ow .fz, .ow .fz, .ow .fz, .ow .fz, .ow .fz] E).tr := inT_out vs (le_any [.ow (.lst .fz), .ow .fz, .ow .fz, .ow .fz, .ow .fz, .ow .fz, .ow .fz, .ow .fz, .ow .fz, .ow .fz, .ow .fz, .ow .fz, .ow .fz, .ow .fz, .ow .fz, .ow .fz, .ow .fz, .ow .fz, .ow .fz, .ow .fz, .ow .fz, .ow .fz, .ow .fz, .ow .fz]) 0 t_law.ps
  exact (s_cons (s_set rfl sc.nd rfl (loc_by rfl) (e_call (ps := [.d]) (dds := []) (ret := (.lst .fz)) (ks := [(.d (mVar 0))]) tk ((ok__law_box F).mono (by decide)) hr rfl F.g__law_box F.d__law_box.kp (bd__law_box F) .nil (fun _ => is_nil) lr trivial (k_d (e_var rfl rfl (vis_by rfl)) k_nil)))
  (s_cons (s_asg (e_call (ps := [.o (.lst .fz)]) (dds := []) (ret := .fz) (ks := [(.o 1)]) tk ((ok__law_scales F).mono (by decide)) hr rfl F.g__law_scales F.d__law_scales.kp (bd__law_scales F) .nil (fun _ => is_nil) lr ⟨rfl, (.inl rfl), trivial, trivial⟩ (k_o rfl rfl (vis_by rfl) k_nil)) (g_tup rfl rfl (gs_cons (g_name rfl sc.nd rfl (loc_by rfl)) (gs_cons (g_name rfl sc.nd rfl (loc_by rfl)) (gs_cons (g_name rfl sc.nd rfl (loc_by rfl)) gs_nil)))))
  (s_cons (s_set rfl sc.nd rfl (loc_by rfl) (e_if (t_cmp op_lt rel_lt (e_var rfl rfl (vis_by rfl)) e_int (nomark _)) (e_bin op_addD rel_add e_int (e_call (ps := [.o (.lst .fz), .d]) (dds := []) (ret := .fz) (ks := [(.o 1), (.d (mVar 2))]) tk ((ok__law_take F).mono (by decide)) hr rfl F.g__law_take F.d__law_take.kp (bd__law_take F) .nil (fun _ => is_nil) lr ⟨rfl, (.inl rfl), trivial, trivial⟩ (k_o rfl rfl (vis_by rfl) (k_d (e_var rfl rfl (vis_by rfl)) k_nil)))) (e_var rfl rfl (vis_by rfl))))
  (s_cons (s_par2 rfl sc.nd rfl rfl  (by decide) rfl rfl  rfl rfl  (o_cons (e_fz rfl (e_lst (by decide) al_nil a_nil)) (o_cons (e_fz rfl (e_lst (by decide) al_nil a_nil)) o_nil)) rfl)
  (s_cons (s_for hp rfl (i_seq (e_fz rfl (e_call (ps := [.o (.lst .fz), .d, .d]) (dds := []) (ret := (.lst .fz)) (ks := [(.o 1), (.d (mVar 2)), (.d (mIf (mBin ltD (mVar 2) (mC (.int 150))) (mCall f__law_take [(.o 1), (.d (mC (.int 3)))] []) (mC (.int 20))))]) tk ((ok__law_rings F).mono (by decide)) hr rfl F.g__law_rings F.d__law_rings.kp (bd__law_rings F) .nil (fun _ => is_nil) lr ⟨rfl, (.inl rfl), trivial, trivial⟩ (k_o rfl rfl (vis_by rfl) (k_d (e_var rfl rfl (vis_by rfl)) (k_d (e_if (t_cmp op_lt rel_lt (e_var rfl rfl (vis_by rfl)) e_int (nomark _)) (e_call (ps := [.o (.lst .fz), .d]) (dds := []) (ret := .fz) (ks := [(.o 1), (.d (mC (.int 3)))]) tk ((ok__law_take F).mono (by decide)) hr rfl F.g__law_take F.d__law_take.kp (bd__law_take F) .nil (fun _ => is_nil) lr ⟨rfl, (.inl rfl), trivial, trivial⟩ (k_o rfl rfl (vis_by rfl) (k_d e_int k_nil))) e_int) k_nil)))))) (g_name rfl sc.nd rfl (loc_by rfl)) (s_one (s_par2 rfl sc.nd rfl rfl  (by decide) rfl rfl  rfl rfl  (o_cons (e_bin op_addD rel_add (e_var rfl rfl (vis_by rfl)) (e_var rfl rfl (vis_by rfl))) (o_cons (e_bin op_addD rel_add (e_var rfl rfl (vis_by rfl)) (e_fz rfl (e_rep (e_fz rfl (e_lst (by decide) (al_cons al_nil) (a_cons (e_call (ps := [.o (.lst .fz), .d]) (dds := []) (ret := .fz) (ks := [(.o 1), (.d (mC (.int 2)))]) tk ((ok__law_take F).mono (by decide)) hr rfl F.g__law_take F.d__law_take.kp (bd__law_take F) .nil (fun _ => is_nil) lr ⟨rfl, (.inl rfl), trivial, trivial⟩ (k_o rfl rfl (vis_by rfl) (k_d e_int k_nil))) a_nil))) (e_callB call_len rel_len rfl F.n_len bb_len (a_cons (e_var rfl rfl (vis_by rfl)) a_nil))))) o_nil)) rfl)))
  (s_cons (s_set rfl sc.nd rfl (loc_by rfl) (e_fz rfl (e_call (ps := [.o (.lst .fz), .d, .d, .d]) (dds := []) (ret := (.lst .fz)) (ks := [(.o 1), (.d (mVar 2)), (.d (mIf (mBin ltD (mVar 3) (mC (.int 300))) (mCall f__law_take [(.o 1), (.d (mBin addD (mVar 3) (mC (.int 1))))] []) (mBin subD (mVar 3) (mFn lenD (aCons (mVar 5) aNil))))), (.d (mCall f__law_take [(.o 1), (.d (mBin addD (mVar 4) (mC (.int 1))))] []))]) tk ((ok__law_web F).mono (by decide)) hr rfl F.g__law_web F.d__law_web.kp (bd__law_web F) .nil (fun _ => is_nil) lr ⟨rfl, (.inl rfl), trivial, trivial⟩ (k_o rfl rfl (vis_by rfl) (k_d (e_var rfl rfl (vis_by rfl)) (k_d (e_if (t_cmp op_lt rel_lt (e_var rfl rfl (vis_by rfl)) e_int (nomark _)) (e_call (ps := [.o (.lst .fz), .d]) (dds := []) (ret := .fz) (ks := [(.o 1), (.d (mBin addD (mVar 3) (mC (.int 1))))]) tk ((ok__law_take F).mono (by decide)) hr rfl F.g__law_take F.d__law_take.kp (bd__law_take F) .nil (fun _ => is_nil) lr ⟨rfl, (.inl rfl), trivial, trivial⟩ (k_o rfl rfl (vis_by rfl) (k_d (e_bin op_addD rel_add (e_var rfl rfl (vis_by rfl)) e_int) k_nil))) (e_bin op_sub rel_sub (e_var rfl rfl (vis_by rfl)) (e_callB call_len rel_len rfl F.n_len bb_len (a_cons (e_var rfl rfl (vis_by rfl)) a_nil)))) (k_d (e_call (ps := [.o (.lst .fz), .d]) (dds := []) (ret := .fz) (ks := [(.o 1), (.d (mBin addD (mVar 4) (mC (.int 1))))]) tk ((ok__law_take F).mono (by decide)) hr rfl F.g__law_take F.d__law_take.kp (bd__law_take F) .nil (fun _ => is_nil) lr ⟨rfl, (.inl rfl), trivial, trivial⟩ (k_o rfl rfl (vis_by rfl) (k_d (e_bin op_addD rel_add (e_var rfl rfl (vis_by rfl)) e_int) k_nil))) k_nil)))))))
  (s_cons (s_par2 rfl sc.nd rfl rfl  (by decide) rfl rfl  rfl rfl  (o_cons (e_fz rfl (e_lc rfl sc.nd (i_seq (e_bin op_addD rel_add (e_var rfl rfl (vis_by rfl)) (e_var rfl rfl (vis_by rfl)))) (own := [("tie", 24)]) (blkOk_by (by kernel_rfl)) (allFz ⟨rfl, trivial⟩) (by decide) (fun _ _ _ _ _ => (g_name rfl sc.nd rfl (loc_by rfl))) (fun _ _ _ _ _ => t_yes) (fun _ _ _ _ _ => (e_call (ps := [.d]) (dds := []) (ret := .fz) (ks := [(.d (mVar 24))]) takes0 ((ok__law_norm F).mono (by decide)) hr rfl F.g__law_norm F.d__law_norm.kp (bd__law_norm F) .nil (fun _ => is_nil) (LeT.refl _) trivial (k_d (e_var rfl rfl (vis_by rfl)) k_nil))))) (o_cons (e_bin op_addD rel_add (e_var rfl rfl (vis_by rfl)) (e_fz rfl (e_rep (e_fz rfl (e_lst (by decide) (al_cons al_nil) (a_cons e_int a_nil))) (e_callB call_len rel_len rfl F.n_len bb_len (a_cons (e_var rfl rfl (vis_by rfl)) a_nil))))) o_nil)) rfl)
  (s_cons (s_set rfl sc.nd rfl (loc_by rfl) (e_bin op_sub rel_sub (e_bin op_fdivW rel_div (e_bin op_pow rel_pow e_int e_int) (e_bin op_mulD rel_mul e_int (e_bin op_addD rel_add (e_bin op_addD rel_add (e_callB call_len rel_len rfl F.n_len bb_len (a_cons (e_var rfl rfl (vis_by rfl)) a_nil)) (e_var rfl rfl (vis_by rfl))) e_int))) e_int))
  (s_cons (s_asg (e_call (ps := [.o (.lst .fz), .d, .d, .d]) (dds := []) (ret := .fz) (ks := [(.o 1), (.d (mVar 5)), (.d (mCall f__law_pick [(.o 1), (.d (mLst (aCons (mC (.int 0)) (aCons (mC (.int 1)) (aCons (mC (.int 2)) (aCons (mC (.int 40)) (aCons (mVar 9) (aCons (mVar 9) aNil))))))))] [])), (.d (mVar 6))]) tk ((ok__law_full F).mono (by decide)) hr rfl F.g__law_full F.d__law_full.kp (bd__law_full F) .nil (fun _ => is_nil) lr ⟨rfl, (.inl rfl), trivial, trivial⟩ (k_o rfl rfl (vis_by rfl) (k_d (e_var rfl rfl (vis_by rfl)) (k_d (e_call (ps := [.o (.lst .fz), .d]) (dds := []) (ret := .fz) (ks := [(.o 1), (.d (mLst (aCons (mC (.int 0)) (aCons (mC (.int 1)) (aCons (mC (.int 2)) (aCons (mC (.int 40)) (aCons (mVar 9) (aCons (mVar 9) aNil))))))))]) tk ((ok__law_pick F).mono (by decide)) hr rfl F.g__law_pick F.d__law_pick.kp (bd__law_pick F) .nil (fun _ => is_nil) lr ⟨rfl, (.inl rfl), trivial, trivial⟩ (k_o rfl rfl (vis_by rfl) (k_d (e_fz rfl (e_lst (by decide) (al_cons (al_cons (al_cons (al_cons (al_cons (al_cons al_nil)))))) (a_cons e_int (a_cons e_int (a_cons e_int (a_cons e_int (a_cons (e_var rfl rfl (vis_by rfl)) (a_cons (e_var rfl rfl (vis_by rfl)) a_nil)))))))) k_nil))) (k_d (e_var rfl rfl (vis_by rfl)) k_nil))))) (g_tup rfl rfl (gs_cons (g_name rfl sc.nd rfl (loc_by rfl)) (gs_cons (g_name rfl sc.nd rfl (loc_by rfl)) gs_nil))))
  (s_cons (s_setLcF rfl rfl rfl sc.nd rfl rfl rfl (i_seq (e_fz rfl (e_call (ps := [.d, .d, .d]) (dds := []) (ret := (.lst .fz)) (ks := [(.d (mVar 2)), (.d (mVar 5)), (.d (mVar 11))]) tk ((ok__law_sums F).mono (by decide)) hr rfl F.g__law_sums F.d__law_sums.kp (bd__law_sums F) .nil (fun _ => is_nil) lr trivial (k_d (e_var rfl rfl (vis_by rfl)) (k_d (e_var rfl rfl (vis_by rfl)) (k_d (e_var rfl rfl (vis_by rfl)) k_nil)))))) (own := [("total", 21)]) (blkOk_by (by kernel_rfl)) (allFz ⟨rfl, trivial⟩) (by decide) (fun _ _ _ _ _ => (g_name rfl sc.nd rfl (loc_by rfl))) (fun _ _ _ _ _ => t_yes) (fun _ _ _ _ _ => (e_bin op_fdivW rel_div (e_var rfl rfl (vis_by rfl)) e_int)))
  (s_cons (s_set rfl sc.nd rfl (loc_by rfl) (e_callT call_tuple_of rel_tuple rfl F.n_tuple bb_tuple (a_cons (e_var rfl rfl (vis_by rfl)) a_nil)))
  (s_cons (s_if (t_w (w_or (t_not (t_ofE (e_call (ps := [.d, .d, .d, .d, .d]) (dds := []) (ret := .fz) (ks := [(.d (mVar 2)), (.d (mVar 5)), (.d (mVar 10)), (.d (mVar 12)), (.d (mVar 13))]) tk ((ok__law_fills F).mono (by decide)) hr rfl F.g__law_fills F.d__law_fills.kp (bd__law_fills F) .nil (fun _ => is_nil) lr trivial (k_d (e_var rfl rfl (vis_by rfl)) (k_d (e_var rfl rfl (vis_by rfl)) (k_d (e_var rfl rfl (vis_by rfl)) (k_d (e_var rfl rfl (vis_by rfl)) (k_d (e_var rfl rfl (vis_by rfl)) k_nil)))))))) (w_or1 (t_not (t_ofE (e_call (ps := [.o (.lst .fz), .d, .d, .d, .d, .d]) (dds := []) (ret := .fz) (ks := [(.o 1), (.d (mVar 2)), (.d (mVar 5)), (.d (mVar 10)), (.d (mVar 12)), (.d (mVar 13))]) tk ((ok__law_asked F).mono (by decide)) hr rfl F.g__law_asked F.d__law_asked.kp (bd__law_asked F) .nil (fun _ => is_nil) lr ⟨rfl, (.inl rfl), trivial, trivial⟩ (k_o rfl rfl (vis_by rfl) (k_d (e_var rfl rfl (vis_by rfl)) (k_d (e_var rfl rfl (vis_by rfl)) (k_d (e_var rfl rfl (vis_by rfl)) (k_d (e_var rfl rfl (vis_by rfl)) (k_d (e_var rfl rfl (vis_by rfl)) k_nil)))))))))))) (s_one (s_ret lr e_bl)) s_nil)
  (s_cons (s_if (t_not (t_ofE (e_call (ps := [.o (.lst .fz), .d, .d, .d, .d, .d]) (dds := []) (ret := .fz) (ks := [(.o 1), (.d (mVar 2)), (.d (mVar 5)), (.d (mVar 10)), (.d (mVar 12)), (.d (mCall f__law_bent [(.o 1), (.d (mVar 13))] []))]) tk ((ok__law_asked F).mono (by decide)) hr rfl F.g__law_asked F.d__law_asked.kp (bd__law_asked F) .nil (fun _ => is_nil) lr ⟨rfl, (.inl rfl), trivial, trivial⟩ (k_o rfl rfl (vis_by rfl) (k_d (e_var rfl rfl (vis_by rfl)) (k_d (e_var rfl rfl (vis_by rfl)) (k_d (e_var rfl rfl (vis_by rfl)) (k_d (e_var rfl rfl (vis_by rfl)) (k_d (e_call (ps := [.o (.lst .fz), .d]) (dds := []) (ret := .fz) (ks := [(.o 1), (.d (mVar 13))]) tk ((ok__law_bent F).mono (by decide)) hr rfl F.g__law_bent F.d__law_bent.kp (bd__law_bent F) .nil (fun _ => is_nil) lr ⟨rfl, (.inl rfl), trivial, trivial⟩ (k_o rfl rfl (vis_by rfl) (k_d (e_var rfl rfl (vis_by rfl)) k_nil))) k_nil))))))))) (s_one (s_ret lr e_bl)) s_nil)
  (s_cons (s_if (t_cmp op_gt rel_gt (e_callB call_len rel_len rfl F.n_len bb_len (a_cons (e_var rfl rfl (vis_by rfl)) a_nil)) e_int (nomark _)) (s_cons (s_set rfl sc.nd rfl (loc_by rfl) (e_call (ps := [.o (.lst .fz), .d, .d, .d]) (dds := []) (ret := .fz) (ks := [(.o 1), (.d (mVar 10)), (.d (mVar 11)), (.d (mCall f__law_take [(.o 1), (.d (mFn lenD (aCons (mVar 5) aNil)))] []))]) tk ((ok__law_cut F).mono (by decide)) hr rfl F.g__law_cut F.d__law_cut.kp (bd__law_cut F) .nil (fun _ => is_nil) lr ⟨rfl, (.inl rfl), trivial, trivial⟩ (k_o rfl rfl (vis_by rfl) (k_d (e_var rfl rfl (vis_by rfl)) (k_d (e_var rfl rfl (vis_by rfl)) (k_d (e_call (ps := [.o (.lst .fz), .d]) (dds := []) (ret := .fz) (ks := [(.o 1), (.d (mFn lenD (aCons (mVar 5) aNil)))]) tk ((ok__law_take F).mono (by decide)) hr rfl F.g__law_take F.d__law_take.kp (bd__law_take F) .nil (fun _ => is_nil) lr ⟨rfl, (.inl rfl), trivial, trivial⟩ (k_o rfl rfl (vis_by rfl) (k_d (e_callB call_len rel_len rfl F.n_len bb_len (a_cons (e_var rfl rfl (vis_by rfl)) a_nil)) k_nil))) k_nil))))))
  (s_one (s_if (t_not (t_ofE (e_call (ps := [.o (.lst .fz), .d, .d, .d, .d, .d]) (dds := []) (ret := .fz) (ks := [(.o 1), (.d (mVar 2)), (.d (mVar 5)), (.d (mVar 14)), (.d (mVar 12)), (.d (mVar 13))]) tk ((ok__law_asked F).mono (by decide)) hr rfl F.g__law_asked F.d__law_asked.kp (bd__law_asked F) .nil (fun _ => is_nil) lr ⟨rfl, (.inl rfl), trivial, trivial⟩ (k_o rfl rfl (vis_by rfl) (k_d (e_var rfl rfl (vis_by rfl)) (k_d (e_var rfl rfl (vis_by rfl)) (k_d (e_var rfl rfl (vis_by rfl)) (k_d (e_var rfl rfl (vis_by rfl)) (k_d (e_var rfl rfl (vis_by rfl)) k_nil))))))))) (s_one (s_ret lr e_bl)) s_nil))) s_nil)
  (s_cons (s_set rfl sc.nd rfl (loc_by rfl) (e_call (ps := [.o (.lst .fz), .d]) (dds := []) (ret := .fz) (ks := [(.o 1), (.d (mVar 2))]) tk ((ok__law_take F).mono (by decide)) hr rfl F.g__law_take F.d__law_take.kp (bd__law_take F) .nil (fun _ => is_nil) lr ⟨rfl, (.inl rfl), trivial, trivial⟩ (k_o rfl rfl (vis_by rfl) (k_d (e_var rfl rfl (vis_by rfl)) k_nil))))
  (s_cons (s_if (t_not (t_ofE (e_call (ps := [.o (.lst .fz), .d, .d, .d, .d, .d]) (dds := []) (ret := .fz) (ks := [(.o 1), (.d (mVar 2)), (.d (mVar 5)), (.d (mVar 10)), (.d (mFn listD (aCons (mCall f__law_with [(.d (mVar 12)), (.d (mVar 15)), (.d (mBin addD (mBin ixD (mVar 12) (mVar 15)) (mCall f__law_sign [(.o 1)] [])))] []) aNil))), (.d (mVar 13))]) tk ((ok__law_asked F).mono (by decide)) hr rfl F.g__law_asked F.d__law_asked.kp (bd__law_asked F) .nil (fun _ => is_nil) lr ⟨rfl, (.inl rfl), trivial, trivial⟩ (k_o rfl rfl (vis_by rfl) (k_d (e_var rfl rfl (vis_by rfl)) (k_d (e_var rfl rfl (vis_by rfl)) (k_d (e_var rfl rfl (vis_by rfl)) (k_d (e_callT call_list_of rel_list rfl F.n_list bb_list (a_cons (e_call (ps := [.d, .d, .d]) (dds := []) (ret := .fz) (ks := [(.d (mVar 12)), (.d (mVar 15)), (.d (mBin addD (mBin ixD (mVar 12) (mVar 15)) (mCall f__law_sign [(.o 1)] [])))]) tk ((ok__law_with F).mono (by decide)) hr rfl F.g__law_with F.d__law_with.kp (bd__law_with F) .nil (fun _ => is_nil) lr trivial (k_d (e_var rfl rfl (vis_by rfl)) (k_d (e_var rfl rfl (vis_by rfl)) (k_d (e_bin op_addD rel_add (e_ix ix_seq rel_ix (e_var rfl rfl (vis_by rfl)) (e_var rfl rfl (vis_by rfl)) fun _ _ => rfl) (e_call (ps := [.o (.lst .fz)]) (dds := []) (ret := .fz) (ks := [(.o 1)]) tk ((ok__law_sign F).mono (by decide)) hr rfl F.g__law_sign F.d__law_sign.kp (bd__law_sign F) .nil (fun _ => is_nil) lr ⟨rfl, (.inl rfl), trivial, trivial⟩ (k_o rfl rfl (vis_by rfl) k_nil))) k_nil)))) a_nil)) (k_d (e_var rfl rfl (vis_by rfl)) k_nil))))))))) (s_one (s_ret lr e_bl)) s_nil)
  (s_cons (s_set rfl sc.nd rfl (loc_by rfl) (e_call (ps := [.o (.lst .fz), .d]) (dds := []) (ret := .fz) (ks := [(.o 1), (.d (mVar 2))]) tk ((ok__law_signs F).mono (by decide)) hr rfl F.g__law_signs F.d__law_signs.kp (bd__law_signs F) .nil (fun _ => is_nil) lr ⟨rfl, (.inl rfl), trivial, trivial⟩ (k_o rfl rfl (vis_by rfl) (k_d (e_var rfl rfl (vis_by rfl)) k_nil))))
  (s_cons (s_setLcF rfl rfl rfl sc.nd rfl rfl rfl (i_enum rfl F.n_enumerate (a_cons (e_var rfl rfl (vis_by rfl)) a_nil)) (own := [("point", 22), ("sign", 23)]) (blkOk_by (by kernel_rfl)) (allFz ⟨rfl, ⟨rfl, trivial⟩⟩) (by decide) (fun _ _ _ _ _ => (g_tup rfl rfl (gs_cons (g_name rfl sc.nd rfl (loc_by rfl)) (gs_cons (g_name rfl sc.nd rfl (loc_by rfl)) gs_nil)))) (fun _ _ _ _ _ => (t_one (t_cmp (op_neD hr.units) rel_ne (e_var rfl rfl (vis_by rfl)) e_int (nomark _)))) (fun _ _ _ _ _ => (e_var rfl rfl (vis_by rfl))))
  (s_cons (s_if (t_cmp (op_neD hr.units) rel_ne (e_var rfl rfl (vis_by rfl)) (e_fz rfl (e_lst (by decide) al_nil a_nil)) (nomark _)) (s_cons (s_par2 rfl sc.nd rfl rfl  (by decide) rfl rfl  rfl rfl  (o_cons (e_call (ps := [.o (.lst .fz), .d]) (dds := []) (ret := .fz) (ks := [(.o 1), (.d (mVar 17))]) tk ((ok__law_pick F).mono (by decide)) hr rfl F.g__law_pick F.d__law_pick.kp (bd__law_pick F) .nil (fun _ => is_nil) lr ⟨rfl, (.inl rfl), trivial, trivial⟩ (k_o rfl rfl (vis_by rfl) (k_d (e_var rfl rfl (vis_by rfl)) k_nil))) (o_cons (e_call (ps := [.o (.lst .fz), .d]) (dds := []) (ret := .fz) (ks := [(.o 1), (.d (mLst (aCons (mC (.int 0)) (aCons (mC (.int 1)) (aCons (mC (.int 1)) (aCons (mC (.int 2)) (aCons (mFn absD (aCons (mCall f__law_far [(.o 1), (.d (mBin powD (mC (.int 10)) (mC (.int 9))))] []) aNil)) aNil)))))))]) tk ((ok__law_pick F).mono (by decide)) hr rfl F.g__law_pick F.d__law_pick.kp (bd__law_pick F) .nil (fun _ => is_nil) lr ⟨rfl, (.inl rfl), trivial, trivial⟩ (k_o rfl rfl (vis_by rfl) (k_d (e_fz rfl (e_lst (by decide) (al_cons (al_cons (al_cons (al_cons (al_cons al_nil))))) (a_cons e_int (a_cons e_int (a_cons e_int (a_cons e_int (a_cons (e_callB call_abs rel_abs rfl F.n_abs bb_abs (a_cons (e_call (ps := [.o (.lst .fz), .d]) (dds := []) (ret := .fz) (ks := [(.o 1), (.d (mBin powD (mC (.int 10)) (mC (.int 9))))]) tk ((ok__law_far F).mono (by decide)) hr rfl F.g__law_far F.d__law_far.kp (bd__law_far F) .nil (fun _ => is_nil) lr ⟨rfl, (.inl rfl), trivial, trivial⟩ (k_o rfl rfl (vis_by rfl) (k_d (e_bin op_pow rel_pow e_int e_int) k_nil))) a_nil)) a_nil))))))) k_nil))) o_nil)) rfl)
  (s_cons (s_set rfl sc.nd rfl (loc_by rfl) (e_bin op_mulD rel_mul (e_ix ix_seq rel_ix (e_var rfl rfl (vis_by rfl)) (e_var rfl rfl (vis_by rfl)) fun _ _ => rfl) (e_bin op_sub rel_sub (e_var rfl rfl (vis_by rfl)) (e_call (ps := [.d, .d, .d, .d]) (dds := []) (ret := .fz) (ks := [(.d (mVar 5)), (.d (mVar 10)), (.d (mVar 12)), (.d (mVar 16))]) tk ((ok__law_short F).mono (by decide)) hr rfl F.g__law_short F.d__law_short.kp (bd__law_short F) .nil (fun _ => is_nil) lr trivial (k_d (e_var rfl rfl (vis_by rfl)) (k_d (e_var rfl rfl (vis_by rfl)) (k_d (e_var rfl rfl (vis_by rfl)) (k_d (e_var rfl rfl (vis_by rfl)) k_nil))))))))
  (s_one (s_set rfl sc.nd rfl (loc_by rfl) (e_callT call_list_of rel_list rfl F.n_list bb_list (a_cons (e_call (ps := [.d, .d, .d]) (dds := []) (ret := .fz) (ks := [(.d (mVar 12)), (.d (mVar 15)), (.d (mBin addD (mBin ixD (mVar 12) (mVar 15)) (mVar 19)))]) tk ((ok__law_with F).mono (by decide)) hr rfl F.g__law_with F.d__law_with.kp (bd__law_with F) .nil (fun _ => is_nil) lr trivial (k_d (e_var rfl rfl (vis_by rfl)) (k_d (e_var rfl rfl (vis_by rfl)) (k_d (e_bin op_addD rel_add (e_ix ix_seq rel_ix (e_var rfl rfl (vis_by rfl)) (e_var rfl rfl (vis_by rfl)) fun _ _ => rfl) (e_var rfl rfl (vis_by rfl))) k_nil)))) a_nil)))))) s_nil)
  (s_cons (s_if (t_not (t_ofE (e_call (ps := [.o (.lst .fz), .d, .d, .d, .d, .d]) (dds := []) (ret := .fz) (ks := [(.o 1), (.d (mVar 2)), (.d (mVar 5)), (.d (mVar 10)), (.d (mVar 12)), (.d (mVar 16))]) tk ((ok__law_asked F).mono (by decide)) hr rfl F.g__law_asked F.d__law_asked.kp (bd__law_asked F) .nil (fun _ => is_nil) lr ⟨rfl, (.inl rfl), trivial, trivial⟩ (k_o rfl rfl (vis_by rfl) (k_d (e_var rfl rfl (vis_by rfl)) (k_d (e_var rfl rfl (vis_by rfl)) (k_d (e_var rfl rfl (vis_by rfl)) (k_d (e_var rfl rfl (vis_by rfl)) (k_d (e_var rfl rfl (vis_by rfl)) k_nil))))))))) (s_one (s_ret lr e_bl)) s_nil)
  (s_cons (s_set rfl sc.nd rfl (loc_by rfl) (e_callT call_tuple_of rel_tuple rfl F.n_tuple bb_tuple (a_cons (e_fz rfl (e_lc rfl sc.nd (i_seq (e_var rfl rfl (vis_by rfl))) (own := [("sign", 23)]) (blkOk_by (by kernel_rfl)) (allFz ⟨rfl, trivial⟩) (by decide) (fun _ _ _ _ _ => (g_name rfl sc.nd rfl (loc_by rfl))) (fun _ _ _ _ _ => t_yes) (fun _ _ _ _ _ => (e_un un_neg rel_neg (e_var rfl rfl (vis_by rfl)))))) a_nil)))
  (s_cons (s_if (t_not (t_ofE (e_call (ps := [.o (.lst .fz), .d, .d, .d, .d, .d]) (dds := []) (ret := .fz) (ks := [(.o 1), (.d (mVar 2)), (.d (mVar 5)), (.d (mVar 10)), (.d (mVar 12)), (.d (mVar 20))]) tk ((ok__law_asked F).mono (by decide)) hr rfl F.g__law_asked F.d__law_asked.kp (bd__law_asked F) .nil (fun _ => is_nil) lr ⟨rfl, (.inl rfl), trivial, trivial⟩ (k_o rfl rfl (vis_by rfl) (k_d (e_var rfl rfl (vis_by rfl)) (k_d (e_var rfl rfl (vis_by rfl)) (k_d (e_var rfl rfl (vis_by rfl)) (k_d (e_var rfl rfl (vis_by rfl)) (k_d (e_var rfl rfl (vis_by rfl)) k_nil))))))))) (s_one (s_ret lr e_bl)) s_nil)
  (s_one (s_ret lr (e_call (ps := [.o (.lst .fz), .d, .d, .d, .d, .d]) (dds := []) (ret := .fz) (ks := [(.o 1), (.d (mVar 2)), (.d (mVar 5)), (.d (mVar 10)), (.d (mVar 12)), (.d (mCall f__law_bent [(.o 1), (.d (mVar 16))] []))]) tk ((ok__law_asked F).mono (by decide)) hr rfl F.g__law_asked F.d__law_asked.kp (bd__law_asked F) .nil (fun _ => is_nil) lr ⟨rfl, (.inl rfl), trivial, trivial⟩ (k_o rfl rfl (vis_by rfl) (k_d (e_var rfl rfl (vis_by rfl)) (k_d (e_var rfl rfl (vis_by rfl)) (k_d (e_var rfl rfl (vis_by rfl)) (k_d (e_var rfl rfl (vis_by rfl)) (k_d (e_call (ps := [.o (.lst .fz), .d]) (dds := []) (ret := .fz) (ks := [(.o 1), (.d (mVar 16))]) tk ((ok__law_bent F).mono (by decide)) hr rfl F.g__law_bent F.d__law_bent.kp (bd__law_bent F) .nil (fun _ => is_nil) lr ⟨rfl, (.inl rfl), trivial, trivial⟩ (k_o rfl rfl (vis_by rfl) (k_d (e_var rfl rfl (vis_by rfl)) k_nil))) k_nil)))))))))))))))))))))))))))))))
end
end K26

set_option Elab.async false
set_option linter.all false
set_option maxRecDepth 100000
set_option maxHeartbeats 1000000
namespace K26
open PySem PySem.Spec PyProof.Rows L2 PT
theorem it_InvalidWeb : ∃ j p0 p1 p2 p3 p4 p5 p6 p7 p8 p9, defBody (meth 2 0) = PTX.iBody "at" "at" "no such web" j p0 p1 p2 p3 p4 p5 p6 p7 p8 p9 ∧ PTX.IT "at" "at" "no such web" (defArgs (meth 2 0)) (defScope (meth 2 0)) j p0 p1 p2 p3 p4 p5 p6 p7 p8 p9 :=
  ⟨_, _, _, _, _, _, _, _, _, _, _, rfl, ⟨⟨_, rfl, rfl⟩, rfl, rfl, rfl, rfl, rfl, rfl, rfl, by decide +kernel, by decide, by decide, fun _ _ _ _ _ _ _ _ _ => rfl, fun _ _ _ _ _ => ⟨_, rfl⟩, fun _ _ _ _ _ => rfl, fun _ _ _ _ _ => rfl, fun _ _ _ _ _ => rfl⟩⟩
theorem it_InvalidBox : ∃ j p0 p1 p2 p3 p4 p5 p6 p7 p8 p9, defBody (meth 3 0) = PTX.iBody "at" "at" "no such box" j p0 p1 p2 p3 p4 p5 p6 p7 p8 p9 ∧ PTX.IT "at" "at" "no such box" (defArgs (meth 3 0)) (defScope (meth 3 0)) j p0 p1 p2 p3 p4 p5 p6 p7 p8 p9 :=
  ⟨_, _, _, _, _, _, _, _, _, _, _, rfl, ⟨⟨_, rfl, rfl⟩, rfl, rfl, rfl, rfl, rfl, rfl, rfl, by decide +kernel, by decide, by decide, fun _ _ _ _ _ _ _ _ _ => rfl, fun _ _ _ _ _ => ⟨_, rfl⟩, fun _ _ _ _ _ => rfl, fun _ _ _ _ _ => rfl, fun _ _ _ _ _ => rfl⟩⟩
theorem it_InvalidTies : ∃ j p0 p1 p2 p3 p4 p5 p6 p7 p8 p9, defBody (meth 4 0) = PTX.iBody "at" "at" "no such ties" j p0 p1 p2 p3 p4 p5 p6 p7 p8 p9 ∧ PTX.IT "at" "at" "no such ties" (defArgs (meth 4 0)) (defScope (meth 4 0)) j p0 p1 p2 p3 p4 p5 p6 p7 p8 p9 :=
  ⟨_, _, _, _, _, _, _, _, _, _, _, rfl, ⟨⟨_, rfl, rfl⟩, rfl, rfl, rfl, rfl, rfl, rfl, rfl, by decide +kernel, by decide, by decide, fun _ _ _ _ _ _ _ _ _ => rfl, fun _ _ _ _ _ => ⟨_, rfl⟩, fun _ _ _ _ _ => rfl, fun _ _ _ _ _ => rfl, fun _ _ _ _ _ => rfl⟩⟩
theorem it_InvalidBounds : ∃ j p0 p1 p2 p3 p4 p5 p6 p7 p8 p9, defBody (meth 5 0) = PTX.iBody "at" "at" "no such bounds" j p0 p1 p2 p3 p4 p5 p6 p7 p8 p9 ∧ PTX.IT "at" "at" "no such bounds" (defArgs (meth 5 0)) (defScope (meth 5 0)) j p0 p1 p2 p3 p4 p5 p6 p7 p8 p9 :=
  ⟨_, _, _, _, _, _, _, _, _, _, _, rfl, ⟨⟨_, rfl, rfl⟩, rfl, rfl, rfl, rfl, rfl, rfl, rfl, by decide +kernel, by decide, by decide, fun _ _ _ _ _ _ _ _ _ => rfl, fun _ _ _ _ _ => ⟨_, rfl⟩, fun _ _ _ _ _ => rfl, fun _ _ _ _ _ => rfl, fun _ _ _ _ _ => rfl⟩⟩
theorem it_InvalidTotals : ∃ j p0 p1 p2 p3 p4 p5 p6 p7 p8 p9, defBody (meth 6 0) = PTX.iBody "at" "at" "no such totals" j p0 p1 p2 p3 p4 p5 p6 p7 p8 p9 ∧ PTX.IT "at" "at" "no such totals" (defArgs (meth 6 0)) (defScope (meth 6 0)) j p0 p1 p2 p3 p4 p5 p6 p7 p8 p9 :=
  ⟨_, _, _, _, _, _, _, _, _, _, _, rfl, ⟨⟨_, rfl, rfl⟩, rfl, rfl, rfl, rfl, rfl, rfl, rfl, by decide +kernel, by decide, by decide, fun _ _ _ _ _ _ _ _ _ => rfl, fun _ _ _ _ _ => ⟨_, rfl⟩, fun _ _ _ _ _ => rfl, fun _ _ _ _ _ => rfl, fun _ _ _ _ _ => rfl⟩⟩
theorem it_InvalidSize : ∃ j p0 p1 p2 p3 p4 p5 p6 p7 p8 p9, defBody (meth 7 0) = PTX.iBody "word" "word" "no such size" j p0 p1 p2 p3 p4 p5 p6 p7 p8 p9 ∧ PTX.IT "word" "word" "no such size" (defArgs (meth 7 0)) (defScope (meth 7 0)) j p0 p1 p2 p3 p4 p5 p6 p7 p8 p9 :=
  ⟨_, _, _, _, _, _, _, _, _, _, _, rfl, ⟨⟨_, rfl, rfl⟩, rfl, rfl, rfl, rfl, rfl, rfl, rfl, by decide +kernel, by decide, by decide, fun _ _ _ _ _ _ _ _ _ => rfl, fun _ _ _ _ _ => ⟨_, rfl⟩, fun _ _ _ _ _ => rfl, fun _ _ _ _ _ => rfl, fun _ _ _ _ _ => rfl⟩⟩
def dd__law_box : He.DefD := ⟨("_law_box", none), "_law_box", "_law_box", defArgs (top 41), defBody (top 41), defScope (top 41), [], []⟩
def dd__law_take : He.DefD := ⟨("_law_take", none), "_law_take", "_law_take", defArgs (top 42), defBody (top 42), defScope (top 42), [], []⟩
def dd__law_pick : He.DefD := ⟨("_law_pick", none), "_law_pick", "_law_pick", defArgs (top 43), defBody (top 43), defScope (top 43), [], []⟩
def dd__law_scales : He.DefD := ⟨("_law_scales", none), "_law_scales", "_law_scales", defArgs (top 60), defBody (top 60), defScope (top 60), [], []⟩
def dd__law_sign : He.DefD := ⟨("_law_sign", none), "_law_sign", "_law_sign", defArgs (top 46), defBody (top 46), defScope (top 46), [], []⟩
def dd__law_rings : He.DefD := ⟨("_law_rings", none), "_law_rings", "_law_rings", defArgs (top 51), defBody (top 51), defScope (top 51), [], []⟩
def dd__law_tie : He.DefD := ⟨("_law_tie", none), "_law_tie", "_law_tie", defArgs (top 49), defBody (top 49), defScope (top 49), [], []⟩
def dd__law_web : He.DefD := ⟨("_law_web", none), "_law_web", "_law_web", defArgs (top 50), defBody (top 50), defScope (top 50), [], []⟩
def dd__law_far : He.DefD := ⟨("_law_far", none), "_law_far", "_law_far", defArgs (top 44), defBody (top 44), defScope (top 44), [], []⟩
def dd__law_amount : He.DefD := ⟨("_law_amount", none), "_law_amount", "_law_amount", defArgs (top 45), defBody (top 45), defScope (top 45), [], []⟩
def dd__law_full : He.DefD := ⟨("_law_full", none), "_law_full", "_law_full", defArgs (top 62), defBody (top 62), defScope (top 62), [], []⟩
def dd__law_signs : He.DefD := ⟨("_law_signs", none), "_law_signs", "_law_signs", defArgs (top 61), defBody (top 61), defScope (top 61), [], []⟩
def dd_is_integer : He.DefD := ⟨("is_integer", none), "is_integer", "is_integer", defArgs (top 9), defBody (top 9), defScope (top 9), [], []⟩
def dd_is_between : He.DefD := ⟨("is_between", none), "is_between", "is_between", defArgs (top 11), defBody (top 11), defScope (top 11), [], []⟩
def dd_is_sequence : He.DefD := ⟨("is_sequence", none), "is_sequence", "is_sequence", defArgs (top 12), defBody (top 12), defScope (top 12), [], []⟩
def dd_is_row : He.DefD := ⟨("is_row", none), "is_row", "is_row", defArgs (top 13), defBody (top 13), defScope (top 13), [], []⟩
def dd_is_below : He.DefD := ⟨("is_below", none), "is_below", "is_below", defArgs (top 10), defBody (top 10), defScope (top 10), [], []⟩
def dd_is_sign : He.DefD := ⟨("is_sign", none), "is_sign", "is_sign", defArgs (top 15), defBody (top 15), defScope (top 15), [], []⟩
def dd_is_tie : He.DefD := ⟨("is_tie", none), "is_tie", "is_tie", defArgs (top 21), defBody (top 21), defScope (top 21), [], []⟩
def dd_told_tie : He.DefD := ⟨("told_tie", none), "told_tie", "told_tie", defArgs (top 22), defBody (top 22), defScope (top 22), [], []⟩
def dd_Web_init : He.DefD := ⟨("Web", some "__init__"), "__init__", "Web.__init__", defArgs (meth 20 0), defBody (meth 20 0), defScope (meth 20 0), [], []⟩
def dd_need_web : He.DefD := ⟨("need_web", none), "need_web", "need_web", defArgs (top 23), defBody (top 23), defScope (top 23), [.int (-1)], []⟩
def dd_are_bounds : He.DefD := ⟨("are_bounds", none), "are_bounds", "are_bounds", defArgs (top 27), defBody (top 27), defScope (top 27), [], []⟩
def dd_Box_init : He.DefD := ⟨("Box", some "__init__"), "__init__", "Box.__init__", defArgs (meth 28 0), defBody (meth 28 0), defScope (meth 28 0), [], []⟩
def dd__law_are_ints : He.DefD := ⟨("_law_are_ints", none), "_law_are_ints", "_law_are_ints", defArgs (top 56), defBody (top 56), defScope (top 56), [], []⟩
def dd__law_ends : He.DefD := ⟨("_law_ends", none), "_law_ends", "_law_ends", defArgs (top 52), defBody (top 52), defScope (top 52), [], []⟩
def dd__law_sums : He.DefD := ⟨("_law_sums", none), "_law_sums", "_law_sums", defArgs (top 53), defBody (top 53), defScope (top 53), [], []⟩
def dd__law_fills : He.DefD := ⟨("_law_fills", none), "_law_fills", "_law_fills", defArgs (top 57), defBody (top 57), defScope (top 57), [], []⟩
def dd__law_are_signs : He.DefD := ⟨("_law_are_signs", none), "_law_are_signs", "_law_are_signs", defArgs (top 58), defBody (top 58), defScope (top 58), [], []⟩
def dd__law_is : He.DefD := ⟨("_law_is", none), "_law_is", "_law_is", defArgs (top 47), defBody (top 47), defScope (top 47), [], []⟩
def dd__law_pull : He.DefD := ⟨("_law_pull", none), "_law_pull", "_law_pull", defArgs (top 54), defBody (top 54), defScope (top 54), [], []⟩
def dd__law_short : He.DefD := ⟨("_law_short", none), "_law_short", "_law_short", defArgs (top 55), defBody (top 55), defScope (top 55), [], []⟩
def dd_need_box : He.DefD := ⟨("need_box", none), "need_box", "need_box", defArgs (top 29), defBody (top 29), defScope (top 29), [], []⟩
def dd_is_paper : He.DefD := ⟨("is_paper", none), "is_paper", "is_paper", defArgs (top 14), defBody (top 14), defScope (top 14), [], []⟩
def dd_is_told_row : He.DefD := ⟨("is_told_row", none), "is_told_row", "is_told_row", defArgs (top 16), defBody (top 16), defScope (top 16), [], []⟩
def dd_ends_at : He.DefD := ⟨("ends_at", none), "ends_at", "ends_at", defArgs (top 24), defBody (top 24), defScope (top 24), [], []⟩
def dd_fills : He.DefD := ⟨("fills", none), "fills", "fills", defArgs (top 37), defBody (top 37), defScope (top 37), [], []⟩
def dd_is_sign_row : He.DefD := ⟨("is_sign_row", none), "is_sign_row", "is_sign_row", defArgs (top 25), defBody (top 25), defScope (top 25), [], []⟩
def dd_most_of : He.DefD := ⟨("most_of", none), "most_of", "most_of", defArgs (top 33), defBody (top 33), defScope (top 33), [], []⟩
def dd_signed_total : He.DefD := ⟨("signed_total", none), "signed_total", "signed_total", defArgs (top 32), defBody (top 32), defScope (top 32), [], []⟩
def dd_pull_at : He.DefD := ⟨("pull_at", none), "pull_at", "pull_at", defArgs (top 31), defBody (top 31), defScope (top 31), [], []⟩
def dd_shortage_of : He.DefD := ⟨("shortage_of", none), "shortage_of", "shortage_of", defArgs (top 34), defBody (top 34), defScope (top 34), [], []⟩
def dd_signs_show : He.DefD := ⟨("signs_show", none), "signs_show", "signs_show", defArgs (top 35), defBody (top 35), defScope (top 35), [], []⟩
def dd_fill_holds : He.DefD := ⟨("fill_holds", none), "fill_holds", "fill_holds", defArgs (top 39), defBody (top 39), defScope (top 39), [], []⟩
def dd_filling_holds : He.DefD := ⟨("filling_holds", none), "filling_holds", "filling_holds", defArgs (top 38), defBody (top 38), defScope (top 38), [], []⟩
def dd__law_asked : He.DefD := ⟨("_law_asked", none), "_law_asked", "_law_asked", defArgs (top 63), defBody (top 63), defScope (top 63), [], []⟩
def dd__law_with : He.DefD := ⟨("_law_with", none), "_law_with", "_law_with", defArgs (top 59), defBody (top 59), defScope (top 59), [], []⟩
def dd__law_cut : He.DefD := ⟨("_law_cut", none), "_law_cut", "_law_cut", defArgs (top 65), defBody (top 65), defScope (top 65), [], []⟩
def dd__law_bent : He.DefD := ⟨("_law_bent", none), "_law_bent", "_law_bent", defArgs (top 64), defBody (top 64), defScope (top 64), [], []⟩
def dd__law_norm : He.DefD := ⟨("_law_norm", none), "_law_norm", "_law_norm", defArgs (top 48), defBody (top 48), defScope (top 48), [], []⟩
def dd_law : He.DefD := ⟨("law", none), "law", "law", defArgs (top 66), defBody (top 66), defScope (top 66), [], []⟩
def xd_InvalidWeb : XD := ⟨"InvalidWeb", "at", "at", "no such web", "InvalidWeb.__init__", meth 2 0⟩
def xd_InvalidBox : XD := ⟨"InvalidBox", "at", "at", "no such box", "InvalidBox.__init__", meth 3 0⟩
def xd_InvalidTies : XD := ⟨"InvalidTies", "at", "at", "no such ties", "InvalidTies.__init__", meth 4 0⟩
def xd_InvalidBounds : XD := ⟨"InvalidBounds", "at", "at", "no such bounds", "InvalidBounds.__init__", meth 5 0⟩
def xd_InvalidTotals : XD := ⟨"InvalidTotals", "at", "at", "no such totals", "InvalidTotals.__init__", meth 6 0⟩
def xd_InvalidSize : XD := ⟨"InvalidSize", "word", "word", "no such size", "InvalidSize.__init__", meth 7 0⟩
def qx : HX := ⟨[.free "abs", .free "all", .free "bool", .free "enumerate", .free "int", .free "isinstance", .free "len", .free "list", .free "max", .free "min", .free "range", .free "str", .free "sum", .free "tuple", .free "zip", .glo "Box", .glo "InvalidBounds", .glo "InvalidBox", .glo "InvalidSize", .glo "InvalidTies", .glo "InvalidTotals", .glo "InvalidWeb", .glo "Web", .glo "_law_amount", .glo "_law_are_ints", .glo "_law_are_signs", .glo "_law_asked", .glo "_law_bent", .glo "_law_box", .glo "_law_cut", .glo "_law_ends", .glo "_law_far", .glo "_law_fills", .glo "_law_full", .glo "_law_is", .glo "_law_norm", .glo "_law_pick", .glo "_law_pull", .glo "_law_rings", .glo "_law_scales", .glo "_law_short", .glo "_law_sign", .glo "_law_signs", .glo "_law_sums", .glo "_law_take", .glo "_law_tie", .glo "_law_web", .glo "_law_with", .glo "are_bounds", .glo "ends_at", .glo "fill_holds", .glo "filling_holds", .glo "fills", .glo "is_below", .glo "is_between", .glo "is_integer", .glo "is_paper", .glo "is_row", .glo "is_sequence", .glo "is_sign", .glo "is_sign_row", .glo "is_tie", .glo "is_told_row", .glo "most_of", .glo "need_box", .glo "need_web", .glo "pull_at", .glo "shortage_of", .glo "signed_total", .glo "signs_show", .glo "told_tie", .int "MOST_POINTS" 1000, .int "MOST_TIES" 3000, .cls "Web", .mkr "Web", .cls "Box", .mkr "Box", .noat "Web" "points", .noat "Web" "ties", .noat "Box" "bounds", .noat "Box" "totals", .glo "law"], [dd__law_box, dd__law_take, dd__law_pick, dd__law_scales, dd__law_sign, dd__law_rings, dd__law_tie, dd__law_web, dd__law_far, dd__law_amount, dd__law_full, dd__law_signs, dd_is_integer, dd_is_between, dd_is_sequence, dd_is_row, dd_is_below, dd_is_sign, dd_is_tie, dd_told_tie, dd_Web_init, dd_need_web, dd_are_bounds, dd_Box_init, dd__law_are_ints, dd__law_ends, dd__law_sums, dd__law_fills, dd__law_are_signs, dd__law_is, dd__law_pull, dd__law_short, dd_need_box, dd_is_paper, dd_is_told_row, dd_ends_at, dd_fills, dd_is_sign_row, dd_most_of, dd_signed_total, dd_pull_at, dd_shortage_of, dd_signs_show, dd_fill_holds, dd_filling_holds, dd__law_asked, dd__law_with, dd__law_cut, dd__law_bent, dd__law_norm, dd_law], [xd_InvalidWeb, xd_InvalidBox, xd_InvalidTies, xd_InvalidBounds, xd_InvalidTotals, xd_InvalidSize], kitC, errsAll, "/claim/cut.py"⟩
def looseL : List Str := "PushError" :: "InvalidWeb" :: "InvalidBox" :: "InvalidTies" :: "InvalidBounds" :: "InvalidTotals" :: "InvalidSize" :: "is_integer" :: "is_below" :: "is_between" :: "is_sequence" :: "is_row" :: "is_paper" :: "is_sign" :: "is_told_row" :: "Web" :: "is_tie" :: "told_tie" :: "need_web" :: "ends_at" :: "is_sign_row" :: "are_bounds" :: "Box" :: "need_box" :: "pull_at" :: "signed_total" :: "most_of" :: "shortage_of" :: "signs_show" :: "fills" :: "filling_holds" :: "fill_holds" :: "_law_box" :: "_law_take" :: "_law_pick" :: "_law_far" :: "_law_amount" :: "_law_sign" :: "_law_is" :: "_law_norm" :: "_law_tie" :: "_law_web" :: "_law_rings" :: "_law_ends" :: "_law_sums" :: "_law_pull" :: "_law_short" :: "_law_are_ints" :: "_law_fills" :: "_law_are_signs" :: "_law_with" :: "_law_scales" :: "_law_signs" :: "_law_full" :: "_law_asked" :: "_law_bent" :: "_law_cut" :: "MOST_POINTS" :: "MOST_TIES" :: []
abbrev R : PySem.W.OpenRow := PySem.W.OpenLaw.row PySem.Challenge.rw_pushtells_k26_whole_judges_of_fillings_a
abbrev hk : PySem.W.Hook := hookX 5 qx
def ob (s : PySem.W.SharedT) : AlX := obsXG 5 qx (HandSHeadRun.getT s)
theorem ob_eq (s : PySem.W.SharedT) : ob s = hk.obs s.abs := obsXG_eq (HandSHeadRun.getT_eq s)
theorem run (w : World) : HandSHeadRun.RunEq R (PySem.W.view R.prog [66]) hk ob 4000 K26.looseL w := by
  intro os
  kernel_rfl
theorem facts {K : PySem.W.Frag} {h : Heap} {mg : Str → Option Value} (X : K.In h) (G : h.Ns mainGlobals mg) (c : SaysX qx K) : Nonempty (Facts R.prog K mg) := by
  obtain ⟨fd__law_box, d__law_box⟩ := c.def_ 0 (d := dd__law_box) rfl
  obtain ⟨fd__law_take, d__law_take⟩ := c.def_ 1 (d := dd__law_take) rfl
  obtain ⟨fd__law_pick, d__law_pick⟩ := c.def_ 2 (d := dd__law_pick) rfl
  obtain ⟨fd__law_scales, d__law_scales⟩ := c.def_ 3 (d := dd__law_scales) rfl
  obtain ⟨fd__law_sign, d__law_sign⟩ := c.def_ 4 (d := dd__law_sign) rfl
  obtain ⟨fd__law_rings, d__law_rings⟩ := c.def_ 5 (d := dd__law_rings) rfl
  obtain ⟨fd__law_tie, d__law_tie⟩ := c.def_ 6 (d := dd__law_tie) rfl
  obtain ⟨fd__law_web, d__law_web⟩ := c.def_ 7 (d := dd__law_web) rfl
  obtain ⟨fd__law_far, d__law_far⟩ := c.def_ 8 (d := dd__law_far) rfl
  obtain ⟨fd__law_amount, d__law_amount⟩ := c.def_ 9 (d := dd__law_amount) rfl
  obtain ⟨fd__law_full, d__law_full⟩ := c.def_ 10 (d := dd__law_full) rfl
  obtain ⟨fd__law_signs, d__law_signs⟩ := c.def_ 11 (d := dd__law_signs) rfl
  obtain ⟨fd_is_integer, d_is_integer⟩ := c.def_ 12 (d := dd_is_integer) rfl
  obtain ⟨fd_is_between, d_is_between⟩ := c.def_ 13 (d := dd_is_between) rfl
  obtain ⟨fd_is_sequence, d_is_sequence⟩ := c.def_ 14 (d := dd_is_sequence) rfl
  obtain ⟨fd_is_row, d_is_row⟩ := c.def_ 15 (d := dd_is_row) rfl
  obtain ⟨fd_is_below, d_is_below⟩ := c.def_ 16 (d := dd_is_below) rfl
  obtain ⟨fd_is_sign, d_is_sign⟩ := c.def_ 17 (d := dd_is_sign) rfl
  obtain ⟨fd_is_tie, d_is_tie⟩ := c.def_ 18 (d := dd_is_tie) rfl
  obtain ⟨fd_told_tie, d_told_tie⟩ := c.def_ 19 (d := dd_told_tie) rfl
  obtain ⟨fd_Web_init, d_Web_init⟩ := c.def_ 20 (d := dd_Web_init) rfl
  obtain ⟨fd_need_web, d_need_web⟩ := c.def_ 21 (d := dd_need_web) rfl
  obtain ⟨fd_are_bounds, d_are_bounds⟩ := c.def_ 22 (d := dd_are_bounds) rfl
  obtain ⟨fd_Box_init, d_Box_init⟩ := c.def_ 23 (d := dd_Box_init) rfl
  obtain ⟨fd__law_are_ints, d__law_are_ints⟩ := c.def_ 24 (d := dd__law_are_ints) rfl
  obtain ⟨fd__law_ends, d__law_ends⟩ := c.def_ 25 (d := dd__law_ends) rfl
  obtain ⟨fd__law_sums, d__law_sums⟩ := c.def_ 26 (d := dd__law_sums) rfl
  obtain ⟨fd__law_fills, d__law_fills⟩ := c.def_ 27 (d := dd__law_fills) rfl
  obtain ⟨fd__law_are_signs, d__law_are_signs⟩ := c.def_ 28 (d := dd__law_are_signs) rfl
  obtain ⟨fd__law_is, d__law_is⟩ := c.def_ 29 (d := dd__law_is) rfl
  obtain ⟨fd__law_pull, d__law_pull⟩ := c.def_ 30 (d := dd__law_pull) rfl
  obtain ⟨fd__law_short, d__law_short⟩ := c.def_ 31 (d := dd__law_short) rfl
  obtain ⟨fd_need_box, d_need_box⟩ := c.def_ 32 (d := dd_need_box) rfl
  obtain ⟨fd_is_paper, d_is_paper⟩ := c.def_ 33 (d := dd_is_paper) rfl
  obtain ⟨fd_is_told_row, d_is_told_row⟩ := c.def_ 34 (d := dd_is_told_row) rfl
  obtain ⟨fd_ends_at, d_ends_at⟩ := c.def_ 35 (d := dd_ends_at) rfl
  obtain ⟨fd_fills, d_fills⟩ := c.def_ 36 (d := dd_fills) rfl
  obtain ⟨fd_is_sign_row, d_is_sign_row⟩ := c.def_ 37 (d := dd_is_sign_row) rfl
  obtain ⟨fd_most_of, d_most_of⟩ := c.def_ 38 (d := dd_most_of) rfl
  obtain ⟨fd_signed_total, d_signed_total⟩ := c.def_ 39 (d := dd_signed_total) rfl
  obtain ⟨fd_pull_at, d_pull_at⟩ := c.def_ 40 (d := dd_pull_at) rfl
  obtain ⟨fd_shortage_of, d_shortage_of⟩ := c.def_ 41 (d := dd_shortage_of) rfl
  obtain ⟨fd_signs_show, d_signs_show⟩ := c.def_ 42 (d := dd_signs_show) rfl
  obtain ⟨fd_fill_holds, d_fill_holds⟩ := c.def_ 43 (d := dd_fill_holds) rfl
  obtain ⟨fd_filling_holds, d_filling_holds⟩ := c.def_ 44 (d := dd_filling_holds) rfl
  obtain ⟨fd__law_asked, d__law_asked⟩ := c.def_ 45 (d := dd__law_asked) rfl
  obtain ⟨fd__law_with, d__law_with⟩ := c.def_ 46 (d := dd__law_with) rfl
  obtain ⟨fd__law_cut, d__law_cut⟩ := c.def_ 47 (d := dd__law_cut) rfl
  obtain ⟨fd__law_bent, d__law_bent⟩ := c.def_ 48 (d := dd__law_bent) rfl
  obtain ⟨fd__law_norm, d__law_norm⟩ := c.def_ 49 (d := dd__law_norm) rfl
  obtain ⟨fd_law, d_law⟩ := c.def_ 50 (d := dd_law) rfl
  exact ⟨{ fd__law_box := fd__law_box, d__law_box := d__law_box, fd__law_take := fd__law_take, d__law_take := d__law_take, fd__law_pick := fd__law_pick, d__law_pick := d__law_pick, fd__law_scales := fd__law_scales, d__law_scales := d__law_scales, fd__law_sign := fd__law_sign, d__law_sign := d__law_sign, fd__law_rings := fd__law_rings, d__law_rings := d__law_rings, fd__law_tie := fd__law_tie, d__law_tie := d__law_tie, fd__law_web := fd__law_web, d__law_web := d__law_web, fd__law_far := fd__law_far, d__law_far := d__law_far, fd__law_amount := fd__law_amount, d__law_amount := d__law_amount, fd__law_full := fd__law_full, d__law_full := d__law_full, fd__law_signs := fd__law_signs, d__law_signs := d__law_signs, fd_is_integer := fd_is_integer, d_is_integer := d_is_integer, fd_is_between := fd_is_between, d_is_between := d_is_between, fd_is_sequence := fd_is_sequence, d_is_sequence := d_is_sequence, fd_is_row := fd_is_row, d_is_row := d_is_row, fd_is_below := fd_is_below, d_is_below := d_is_below, fd_is_sign := fd_is_sign, d_is_sign := d_is_sign, fd_is_tie := fd_is_tie, d_is_tie := d_is_tie, fd_told_tie := fd_told_tie, d_told_tie := d_told_tie, fd_Web_init := fd_Web_init, d_Web_init := d_Web_init, fd_need_web := fd_need_web, d_need_web := d_need_web, fd_are_bounds := fd_are_bounds, d_are_bounds := d_are_bounds, fd_Box_init := fd_Box_init, d_Box_init := d_Box_init, fd__law_are_ints := fd__law_are_ints, d__law_are_ints := d__law_are_ints, fd__law_ends := fd__law_ends, d__law_ends := d__law_ends, fd__law_sums := fd__law_sums, d__law_sums := d__law_sums, fd__law_fills := fd__law_fills, d__law_fills := d__law_fills, fd__law_are_signs := fd__law_are_signs, d__law_are_signs := d__law_are_signs, fd__law_is := fd__law_is, d__law_is := d__law_is, fd__law_pull := fd__law_pull, d__law_pull := d__law_pull, fd__law_short := fd__law_short, d__law_short := d__law_short, fd_need_box := fd_need_box, d_need_box := d_need_box, fd_is_paper := fd_is_paper, d_is_paper := d_is_paper, fd_is_told_row := fd_is_told_row, d_is_told_row := d_is_told_row, fd_ends_at := fd_ends_at, d_ends_at := d_ends_at, fd_fills := fd_fills, d_fills := d_fills, fd_is_sign_row := fd_is_sign_row, d_is_sign_row := d_is_sign_row, fd_most_of := fd_most_of, d_most_of := d_most_of, fd_signed_total := fd_signed_total, d_signed_total := d_signed_total, fd_pull_at := fd_pull_at, d_pull_at := d_pull_at, fd_shortage_of := fd_shortage_of, d_shortage_of := d_shortage_of, fd_signs_show := fd_signs_show, d_signs_show := d_signs_show, fd_fill_holds := fd_fill_holds, d_fill_holds := d_fill_holds, fd_filling_holds := fd_filling_holds, d_filling_holds := d_filling_holds, fd__law_asked := fd__law_asked, d__law_asked := d__law_asked, fd__law_with := fd__law_with, d__law_with := d__law_with, fd__law_cut := fd__law_cut, d__law_cut := d__law_cut, fd__law_bent := fd__law_bent, d__law_bent := d__law_bent, fd__law_norm := fd__law_norm, d__law_norm := d__law_norm, fd_law := fd_law, d_law := d_law, n_abs := He.free_ok X G (c.fact 0 (f := .free "abs") rfl), n_all := He.free_ok X G (c.fact 1 (f := .free "all") rfl), n_bool := He.free_ok X G (c.fact 2 (f := .free "bool") rfl), n_enumerate := He.free_ok X G (c.fact 3 (f := .free "enumerate") rfl), n_int := He.free_ok X G (c.fact 4 (f := .free "int") rfl), n_isinstance := He.free_ok X G (c.fact 5 (f := .free "isinstance") rfl), n_len := He.free_ok X G (c.fact 6 (f := .free "len") rfl), n_list := He.free_ok X G (c.fact 7 (f := .free "list") rfl), n_max := He.free_ok X G (c.fact 8 (f := .free "max") rfl), n_min := He.free_ok X G (c.fact 9 (f := .free "min") rfl), n_range := He.free_ok X G (c.fact 10 (f := .free "range") rfl), n_str := He.free_ok X G (c.fact 11 (f := .free "str") rfl), n_sum := He.free_ok X G (c.fact 12 (f := .free "sum") rfl), n_tuple := He.free_ok X G (c.fact 13 (f := .free "tuple") rfl), n_zip := He.free_ok X G (c.fact 14 (f := .free "zip") rfl), g_Box := He.glo_ok X G (c.fact 15 (f := .glo "Box") rfl), g_InvalidBounds := He.glo_ok X G (c.fact 16 (f := .glo "InvalidBounds") rfl), g_InvalidBox := He.glo_ok X G (c.fact 17 (f := .glo "InvalidBox") rfl), g_InvalidSize := He.glo_ok X G (c.fact 18 (f := .glo "InvalidSize") rfl), g_InvalidTies := He.glo_ok X G (c.fact 19 (f := .glo "InvalidTies") rfl), g_InvalidTotals := He.glo_ok X G (c.fact 20 (f := .glo "InvalidTotals") rfl), g_InvalidWeb := He.glo_ok X G (c.fact 21 (f := .glo "InvalidWeb") rfl), g_Web := He.glo_ok X G (c.fact 22 (f := .glo "Web") rfl), g__law_amount := He.glo_ok X G (c.fact 23 (f := .glo "_law_amount") rfl), g__law_are_ints := He.glo_ok X G (c.fact 24 (f := .glo "_law_are_ints") rfl), g__law_are_signs := He.glo_ok X G (c.fact 25 (f := .glo "_law_are_signs") rfl), g__law_asked := He.glo_ok X G (c.fact 26 (f := .glo "_law_asked") rfl), g__law_bent := He.glo_ok X G (c.fact 27 (f := .glo "_law_bent") rfl), g__law_box := He.glo_ok X G (c.fact 28 (f := .glo "_law_box") rfl), g__law_cut := He.glo_ok X G (c.fact 29 (f := .glo "_law_cut") rfl), g__law_ends := He.glo_ok X G (c.fact 30 (f := .glo "_law_ends") rfl), g__law_far := He.glo_ok X G (c.fact 31 (f := .glo "_law_far") rfl), g__law_fills := He.glo_ok X G (c.fact 32 (f := .glo "_law_fills") rfl), g__law_full := He.glo_ok X G (c.fact 33 (f := .glo "_law_full") rfl), g__law_is := He.glo_ok X G (c.fact 34 (f := .glo "_law_is") rfl), g__law_norm := He.glo_ok X G (c.fact 35 (f := .glo "_law_norm") rfl), g__law_pick := He.glo_ok X G (c.fact 36 (f := .glo "_law_pick") rfl), g__law_pull := He.glo_ok X G (c.fact 37 (f := .glo "_law_pull") rfl), g__law_rings := He.glo_ok X G (c.fact 38 (f := .glo "_law_rings") rfl), g__law_scales := He.glo_ok X G (c.fact 39 (f := .glo "_law_scales") rfl), g__law_short := He.glo_ok X G (c.fact 40 (f := .glo "_law_short") rfl), g__law_sign := He.glo_ok X G (c.fact 41 (f := .glo "_law_sign") rfl), g__law_signs := He.glo_ok X G (c.fact 42 (f := .glo "_law_signs") rfl), g__law_sums := He.glo_ok X G (c.fact 43 (f := .glo "_law_sums") rfl), g__law_take := He.glo_ok X G (c.fact 44 (f := .glo "_law_take") rfl), g__law_tie := He.glo_ok X G (c.fact 45 (f := .glo "_law_tie") rfl), g__law_web := He.glo_ok X G (c.fact 46 (f := .glo "_law_web") rfl), g__law_with := He.glo_ok X G (c.fact 47 (f := .glo "_law_with") rfl), g_are_bounds := He.glo_ok X G (c.fact 48 (f := .glo "are_bounds") rfl), g_ends_at := He.glo_ok X G (c.fact 49 (f := .glo "ends_at") rfl), g_fill_holds := He.glo_ok X G (c.fact 50 (f := .glo "fill_holds") rfl), g_filling_holds := He.glo_ok X G (c.fact 51 (f := .glo "filling_holds") rfl), g_fills := He.glo_ok X G (c.fact 52 (f := .glo "fills") rfl), g_is_below := He.glo_ok X G (c.fact 53 (f := .glo "is_below") rfl), g_is_between := He.glo_ok X G (c.fact 54 (f := .glo "is_between") rfl), g_is_integer := He.glo_ok X G (c.fact 55 (f := .glo "is_integer") rfl), g_is_paper := He.glo_ok X G (c.fact 56 (f := .glo "is_paper") rfl), g_is_row := He.glo_ok X G (c.fact 57 (f := .glo "is_row") rfl), g_is_sequence := He.glo_ok X G (c.fact 58 (f := .glo "is_sequence") rfl), g_is_sign := He.glo_ok X G (c.fact 59 (f := .glo "is_sign") rfl), g_is_sign_row := He.glo_ok X G (c.fact 60 (f := .glo "is_sign_row") rfl), g_is_tie := He.glo_ok X G (c.fact 61 (f := .glo "is_tie") rfl), g_is_told_row := He.glo_ok X G (c.fact 62 (f := .glo "is_told_row") rfl), g_most_of := He.glo_ok X G (c.fact 63 (f := .glo "most_of") rfl), g_need_box := He.glo_ok X G (c.fact 64 (f := .glo "need_box") rfl), g_need_web := He.glo_ok X G (c.fact 65 (f := .glo "need_web") rfl), g_pull_at := He.glo_ok X G (c.fact 66 (f := .glo "pull_at") rfl), g_shortage_of := He.glo_ok X G (c.fact 67 (f := .glo "shortage_of") rfl), g_signed_total := He.glo_ok X G (c.fact 68 (f := .glo "signed_total") rfl), g_signs_show := He.glo_ok X G (c.fact 69 (f := .glo "signs_show") rfl), g_told_tie := He.glo_ok X G (c.fact 70 (f := .glo "told_tie") rfl), i_MOST_POINTS := He.int_ok X G (c.fact 71 (f := .int "MOST_POINTS" 1000) rfl), i_MOST_TIES := He.int_ok X G (c.fact 72 (f := .int "MOST_TIES" 3000) rfl), fi_InvalidWeb := xAd K "InvalidWeb", x_InvalidWeb := c.ext 0 (d := xd_InvalidWeb) rfl (by kernel_rfl) rfl it_InvalidWeb, fi_InvalidBox := xAd K "InvalidBox", x_InvalidBox := c.ext 1 (d := xd_InvalidBox) rfl (by kernel_rfl) rfl it_InvalidBox, fi_InvalidTies := xAd K "InvalidTies", x_InvalidTies := c.ext 2 (d := xd_InvalidTies) rfl (by kernel_rfl) rfl it_InvalidTies, fi_InvalidBounds := xAd K "InvalidBounds", x_InvalidBounds := c.ext 3 (d := xd_InvalidBounds) rfl (by kernel_rfl) rfl it_InvalidBounds, fi_InvalidTotals := xAd K "InvalidTotals", x_InvalidTotals := c.ext 4 (d := xd_InvalidTotals) rfl (by kernel_rfl) rfl it_InvalidTotals, fi_InvalidSize := xAd K "InvalidSize", x_InvalidSize := c.ext 5 (d := xd_InvalidSize) rfl (by kernel_rfl) rfl it_InvalidSize, cls_Web := He.cls_ok (c.fact 73 (f := .cls "Web") rfl), mk_Web := He.mkr_ok (c.fact 74 (f := .mkr "Web") rfl), cls_Box := He.cls_ok (c.fact 75 (f := .cls "Box") rfl), mk_Box := He.mkr_ok (c.fact 76 (f := .mkr "Box") rfl), na_Web_points := He.noat_ok (c.fact 77 (f := .noat "Web" "points") rfl), na_Web_ties := He.noat_ok (c.fact 78 (f := .noat "Web" "ties") rfl), na_Box_bounds := He.noat_ok (c.fact 79 (f := .noat "Box" "bounds") rfl), na_Box_totals := He.noat_ok (c.fact 80 (f := .noat "Box" "totals") rfl), kit := c.kit, exm := c.exm }⟩
end K26
open PySem PySem.W PySem.Calls PyProof.Rows
theorem K26.holds_of (pure : ∀ ns : List Int, ns.length ≤ 63 → ∃ ys, K26.f_law [.scr (ns.map .int)] = .ok (.bl true) ys) : PySem.Challenge.rw_pushtells_k26_whole_judges_of_fillings_a.Holds := by
  w_on; o_law
  refine HandSHeadRun.head_any (r := OpenLaw.row PySem.Challenge.rw_pushtells_k26_whole_judges_of_fillings_a) (q := view (OpenLaw.row PySem.Challenge.rw_pushtells_k26_whole_judges_of_fillings_a).prog [66]) (H := K26.hk) (ob := K26.ob) (M := 4000) (loose := K26.looseL) (d := HandSHeadRun.topDef (OpenLaw.row PySem.Challenge.rw_pushtells_k26_whole_judges_of_fillings_a).prog 66) (kwd := []) K26.ob_eq
    (by kernel_rfl) (fun s => by kernel_rfl) K26.run (by kernel_rfl) (by kernel_rfl) (by kernel_rfl) (by rfl) (by first | assumption | decide +kernel) (by decide +kernel) ⟨rfl, rfl, rfl, rfl, rfl, by decide +kernel⟩ ?hw ?hc
  case hw => w_witness2
  case hc =>
    refine PT.walk_ofX (l := PySem.Challenge.rw_pushtells_k26_whole_judges_of_fillings_a) (n := 63) (k := 7) (x := "script") (CX := fun w => L2.CX (PySem.Challenge.rw_pushtells_k26_whole_judges_of_fillings_a).prog w) rfl (by decide) (by kernel_rfl) ⟨rfl, by decide, by decide⟩ ?F (fun _ => PT.cx_none)
    intro w mg fa h Y G hmg0
    obtain ⟨K, KX, c⟩ := Y
    have hmg : mg ("law" : PySem.Str) = some (.ref fa) := by
      have e : (HandSHeadRun.topDef (OpenLaw.row PySem.Challenge.rw_pushtells_k26_whole_judges_of_fillings_a).prog 66).name = ("law" : PySem.Str) := by kernel_rfl
      rw [← e]
      exact hmg0
    obtain ⟨F⟩ := K26.facts KX G c
    have e := hmg.symm.trans (He.glo_ok KX G (c.fact 81 (f := .glo "law") rfl))
    cases e
    have b := L2.FunD.bindsA (ps := ["script"]) F.d_law fun _ _ _ _ _ _ us hl => match us, hl with | [_], _ => rfl
    refine ⟨K, F.fd_law, _, KX, fun s v => b s [v] rfl, fun H a ns hl _ hS => ?_, fun base _ _ => K26.ok_law F⟩
    obtain ⟨ys, e⟩ := pure ns hl
    exact PT.law_sp hS e

set_option Elab.async false
set_option linter.all false
set_option maxRecDepth 100000
set_option maxHeartbeats 4000000
/-! PT: what a mirror gives, by wishes -/
namespace PT
open PySem PySem.Spec PyProof.Rows L2
abbrev XP : Type := Str → List (Str × D) → Ev → Prop
def OV {α : Type} (o : Option α) (Q : α → Prop) : Prop := match o with
  | some a => Q a
  | none => False
theorem OV_some {α : Type} {a : α} {Q : α → Prop} : OV (some a) Q = Q a := (rfl)
def EV (r : RE) (Q : D → Ev → Prop) (X : XP) : Prop := match r with
  | .ok d e => Q d e
  | .exc c fs e => X c fs e
  | .bad => False
def AV (r : RA) (Q : List D → Ev → Prop) (X : XP) : Prop := match r with
  | .ok d e => Q d e
  | .exc c fs e => X c fs e
  | .bad => False
def IV (r : RI) (Q : List D → Ev → Prop) (X : XP) : Prop := match r with
  | .ok d e => Q d e
  | .exc c fs e => X c fs e
  | .bad => False
def TV (r : RE) (Q : Bool → Ev → Prop) (X : XP) : Prop := EV r (fun d e => match d with
  | .bl b => Q b e
  | _ => False) X
structure SP where
  N : Ev → Prop
  R : D → Ev → Prop
  X : XP
  B : Ev → Prop
  T : Ev → Prop
def SV (r : RS) (P : SP) : Prop := match r with
  | .nx e => P.N e
  | .rt d e => P.R d e
  | .bk e => P.B e
  | .ct e => P.T e
  | .exc c fs e => P.X c fs e
  | .bad => False
/-- a statement that waits -/
def SVk (b : MS) (e : Ev) (P : SP) : Prop := SV (b e) P
theorem sv_go {b : MS} {e : Ev} {P : SP} (h : SV (b e) P) : SVk b e P := h
def FV (r : RF) (Q : D → List D → Prop) (X : Str → List (Str × D) → List D → Prop) : Prop := match r with
  | .ok d e => Q d e
  | .exc c fs e => X c fs e
  | .bad => False
section
variable {Q : D → Ev → Prop} {QA : List D → Ev → Prop} {QT : Bool → Ev → Prop} {X : XP} {e : Ev} {P : SP}
theorem EV_ok {d : D} : EV (.ok d e) Q X = Q d e := (rfl)
theorem EV_bind {r : RE} {k : D → Ev → RE} : EV (r.bind k) Q X = EV r (fun d e => EV (k d e) Q X) X := by cases r <;> rfl
theorem EV_bindA {r : RA} {k : List D → Ev → RE} : EV (r.bind k) Q X = AV r (fun d e => EV (k d e) Q X) X := by cases r <;> rfl
theorem EV_lift {o : Option D} : EV (lift o e) Q X = OV o (fun d => Q d e) := by cases o <;> rfl
theorem AV_ok {d : List D} : AV (.ok d e) QA X = QA d e := (rfl)
theorem AV_bind {r : RE} {k : D → Ev → RA} : AV (r.bindA k) QA X = EV r (fun d e => AV (k d e) QA X) X := by cases r <;> rfl
theorem AV_bindA {r : RA} {k : List D → Ev → RA} : AV (r.bindA k) QA X = AV r (fun d e => AV (k d e) QA X) X := by cases r <;> rfl
theorem TV_bindT {r : RE} {k : Bool → Ev → RE} : EV (r.bindT k) Q X = TV r (fun d e => EV (k d e) Q X) X := by
  cases r with
  | ok d e => cases d <;> rfl
  | _ => rfl
theorem TV_eq {r : RE} : TV r QT X = EV r (fun d e => match d with
  | .bl b => QT b e
  | _ => False) X := (rfl)
theorem ev_var {i : Nat} : EV (mVar i e) Q X = OV (e[i]?) (fun x => OV x fun d => Q d e) := by
  unfold mVar
  rcases e[i]? with _ | _ | d <;> rfl
theorem ev_c {d : D} : EV (mC d e) Q X = Q d e := (rfl)
theorem ev_bin {f : D → D → Option D} {a b : ME} : EV (mBin f a b e) Q X = EV (a e) (fun x e => EV (b e) (fun y e => OV (f x y) fun z => Q z e) X) X := by simp only [mBin, EV_bind, EV_lift]
theorem ev_un {f : D → Option D} {a : ME} : EV (mUn f a e) Q X = EV (a e) (fun x e => OV (f x) fun z => Q z e) X := by simp only [mUn, EV_bind, EV_lift]
theorem ev_and {a b : ME} : EV (mAnd a b e) Q X = TV (a e) (fun c e => if c then EV (b e) Q X else Q (.bl false) e) X := by
  simp only [mAnd, TV_bindT]; congr; funext c e; cases c <;> rfl
theorem ev_or {a b : ME} : EV (mOr a b e) Q X = TV (a e) (fun c e => if c then Q (.bl true) e else EV (b e) Q X) X := by
  simp only [mOr, TV_bindT]; congr; funext c e; cases c <;> rfl
theorem ev_not {a : ME} : EV (mNot a e) Q X = TV (a e) (fun c e => Q (.bl (!c)) e) X := by simp only [mNot, TV_bindT]; rfl
theorem ev_if {c a b : ME} : EV (mIf c a b e) Q X = TV (c e) (fun c e => if c then EV (a e) Q X else EV (b e) Q X) X := by
  simp only [mIf, TV_bindT]; congr; funext c e; cases c <;> rfl
theorem ev_tup {a : MA} : EV (mTup a e) Q X = AV (a e) (fun ds e => Q (.tup ds) e) X := by simp only [mTup, EV_bindA]; rfl
theorem ev_lst {a : MA} : EV (mLst a e) Q X = AV (a e) (fun ds e => Q (.lst ds) e) X := by simp only [mLst, EV_bindA]; rfl
theorem ev_fn {f : List D → Option D} {a : MA} : EV (mFn f a e) Q X = AV (a e) (fun ds e => OV (f ds) fun z => Q z e) X := by simp only [mFn, EV_bindA, EV_lift]
theorem av_nil : AV (aNil e) QA X = QA [] e := (rfl)
theorem av_cons {a : ME} {r : MA} : AV (aCons a r e) QA X = EV (a e) (fun x e => AV (r e) (fun xs e => QA (x :: xs) e) X) X := by simp only [aCons, AV_bind, AV_bindA]; rfl
/-! calls -/
theorem av_kn : AV (mArgs [] e) QA X = QA [] e := (rfl)
theorem av_kd {m : ME} {ks : List AK} : AV (mArgs (.d m :: ks) e) QA X = EV (m e) (fun x e => AV (mArgs ks e) (fun xs e => QA (x :: xs) e) X) X := by simp only [mArgs, AV_bind, AV_bindA]; rfl
theorem av_ko {i : Nat} {ks : List AK} : AV (mArgs (.o i :: ks) e) QA X = EV (mVar i e) (fun _ e => AV (mArgs ks e) (fun xs e => EV (mVar i e) (fun x e => QA (x :: xs) e) X) X) X := by simp only [mArgs, AV_bind, AV_bindA]; rfl
theorem av_ks {i : Nat} {ks : List AK} : AV (mArgs (.s i :: ks) e) QA X = EV (mVar i e) (fun _ e => AV (mArgs ks e) (fun xs e => EV (mVar i e) (fun x e => QA (x :: xs) e) X) X) X := by simp only [mArgs, AV_bind, AV_bindA]; rfl
theorem ev_call {f : List D → RF} {ks : List AK} {dds : List D} : EV (mCall f ks dds e) Q X = AV (mArgs ks e) (fun xs e => FV (f (xs ++ dds)) (fun r ys => Q r (putB (ownI ks) (ownB ks ys) e)) fun c fs ys => X c fs (putB (ownI ks) (ownB ks ys) e)) X := by
  simp only [mCall, EV_bindA]
  congr; funext xs e
  cases f (xs ++ dds) <;> rfl
theorem ev_make {c : Str} {f : List D → RF} {a : MA} {dds : List D} : EV (mMake c f a dds e) Q X = AV (a e) (fun ds e => FV (f (.obj c [] :: (ds ++ dds))) (fun r ys => OV (ys[0]?) fun d => r.isNon = true ∧ Q d e) fun c fs _ => X c fs e) X := by
  simp only [mMake, EV_bindA]
  congr; funext xs e
  generalize f _ = r
  cases r with
  | ok r ys =>
    cases ys with
    | nil => rfl
    | cons d ys =>
      show EV (if r.isNon then .ok d e else .bad) Q X = (r.isNon = true ∧ Q d e)
      cases r.isNon
      · exact propext ⟨fun z => z.elim, fun z => by cases z.1⟩
      · exact propext ⟨fun z => ⟨rfl, z⟩, fun z => z.2⟩
  | _ => rfl
theorem ev_oix {i : Nat} {m : ME} : EV (mOix i m e) Q X = (has e i = true ∧ EV (m e) (fun k e1 => match k with
    | .int k => OV (atL e1 i) fun ds => OV (atI ds k) fun d => Q d e1
    | _ => False) X) := by
  unfold mOix
  cases has e i with
  | false => exact propext ⟨fun z => z.elim, fun z => by cases z.1⟩
  | true =>
    simp only [if_true, EV_bind]
    refine propext ⟨fun z => ⟨by trivial, ?_⟩, fun z => ?_⟩
    · revert z
      generalize m e = r
      cases r with
      | ok d e1 =>
        cases d with
        | int k =>
          simp only [EV_ok]
          cases atL e1 i with
          | none => exact id
          | some ds => simp only [EV_lift, OV_some]; exact id
        | _ => exact id
      | _ => exact id
    · obtain ⟨_, z⟩ := z
      revert z
      generalize m e = r
      cases r with
      | ok d e1 =>
        cases d with
        | int k =>
          simp only [EV_ok]
          cases atL e1 i with
          | none => exact id
          | some ds => simp only [EV_lift, OV_some]; exact id
        | _ => exact id
      | _ => exact id
theorem ev_sl {f : D → Option Int → Option Int → Option D} {a : ME} {lo hi : Option ME} : EV (mSl f a lo hi e) Q X = EV (a e) (fun x e1 => EV (mPart lo e1 fun l e2 => mPart hi e2 fun h e3 => lift (f x l h) e3) Q X) X := by simp only [mSl, EV_bind]
/-! statements -/
theorem sv_nil : SV (sNil e) P = P.N e := (rfl)
theorem SV_bindS {r : RE} {k : D → Ev → RS} : SV (r.bindS k) P = EV r (fun d e => SV (k d e) P) P.X := by cases r <;> rfl
theorem SV_bindSA {r : RA} {k : List D → Ev → RS} : SV (r.bindS k) P = AV r (fun d e => SV (k d e) P) P.X := by cases r <;> rfl
theorem SV_bindTS {r : RE} {k : Bool → Ev → RS} : SV (r.bindTS k) P = TV r (fun d e => SV (k d e) P) P.X := by
  cases r with
  | ok d e => cases d <;> rfl
  | _ => rfl
theorem sv_seq {a b : MS} : SV (sSeq a b e) P = SV (a e) { P with N := fun e => SVk b e P } := by
  unfold sSeq
  cases a e <;> rfl
theorem sv_expr {m : ME} : SV (sExpr m e) P = EV (m e) (fun _ e => P.N e) P.X := by simp only [sExpr, SV_bindS]; rfl
theorem sv_set {i : Nat} {m : ME} : SV (sSet i m e) P = EV (m e) (fun d e => P.N (e.set i (some d))) P.X := by simp only [sSet, SV_bindS]; rfl
theorem sv_ret {m : ME} : SV (sRet m e) P = EV (m e) (fun d e => P.R d e) P.X := by simp only [sRet, SV_bindS]; rfl
theorem sv_retN : SV (sRetN e) P = P.R .non e := (rfl)
theorem sv_if {c : ME} {a b : MS} : SV (sIf c a b e) P = TV (c e) (fun c e => if c then SVk a e P else SVk b e P) P.X := by
  simp only [sIf, SV_bindTS]; congr; funext c e; cases c <;> rfl
theorem sv_par {is : List Nat} {a : MA} : SV (sPar is a e) P = AV (a e) (fun ds e => P.N (setE e is ds)) P.X := by simp only [sPar, SV_bindSA]; rfl
theorem sv_asg {p : Pat} {m : ME} : SV (sAsg p m e) P = EV (m e) (fun d e => OV (p.put d e) P.N) P.X := by
  simp only [sAsg, SV_bindS]
  congr; funext d e; cases p.put d e <;> rfl
theorem sv_app {i : Nat} {m : ME} : SV (sApp i m e) P = (has e i = true ∧ EV (m e) (fun v e1 => OV (atL e1 i) fun ds => ds.length < 16777216 ∧ P.N (e1.set i (some (.lst (ds ++ [v]))))) P.X) := by
  unfold sApp
  cases has e i with
  | false => exact propext ⟨fun z => z.elim, fun z => by cases z.1⟩
  | true =>
    simp only [if_true, SV_bindS]
    refine propext ⟨fun z => ⟨by trivial, ?_⟩, fun z => ?_⟩
    · revert z
      generalize m e = r
      cases r with
      | ok d e1 =>
        simp only [EV_ok]
        cases atL e1 i with
        | none => exact id
        | some ds =>
          simp only [OV_some]
          by_cases h : ds.length < 16777216
          · rw [if_pos h]; exact fun z => ⟨h, z⟩
          · rw [if_neg h]; exact fun z => z.elim
      | _ => exact id
    · obtain ⟨_, z⟩ := z
      revert z
      generalize m e = r
      cases r with
      | ok d e1 =>
        simp only [EV_ok]
        cases atL e1 i with
        | none => exact id
        | some ds =>
          simp only [OV_some]
          exact fun z => by rw [if_pos z.1]; exact z.2
      | _ => exact id
theorem sv_raise {c f : Str} {m : ME} : SV (sRaise c f m e) P = EV (m e) (fun d e => P.X c [(f, d)] e) P.X := by simp only [sRaise, SV_bindS]; rfl
theorem IV_bindS {r : RI} {k : List D → Ev → RS} : SV (r.bindS k) P = IV r (fun d e => SV (k d e) P) P.X := by cases r <;> rfl
theorem IV_bindE {r : RI} {k : List D → Ev → RE} : EV (r.bindE k) Q X = IV r (fun d e => EV (k d e) Q X) X := by cases r <;> rfl
theorem IV_bindI {r : RE} {k : D → Ev → RI} : IV (r.bindI k) QA X = EV r (fun d e => IV (k d e) QA X) X := by cases r <;> rfl
theorem IV_bindAI {r : RA} {k : List D → Ev → RI} : IV (r.bindI k) QA X = AV r (fun d e => IV (k d e) QA X) X := by cases r <;> rfl
theorem IV_lift {o : Option (List D)} : IV (liftI o e) QA X = OV o (fun d => QA d e) := by cases o <;> rfl
theorem iv_seq {m : ME} : IV (iSeq m e) QA X = EV (m e) (fun d e => OV (itemsOf d) fun xs => QA xs e) X := by simp only [iSeq, IV_bindI, IV_lift]
theorem iv_range1 {m : MA} : IV (iRange1 m e) QA X = AV (m e) (fun d e => OV (rangeL1 d) fun xs => QA xs e) X := by simp only [iRange1, IV_bindAI, IV_lift]
theorem iv_range2 {m : MA} : IV (iRange2 m e) QA X = AV (m e) (fun d e => OV (rangeL2 d) fun xs => QA xs e) X := by simp only [iRange2, IV_bindAI, IV_lift]
theorem iv_range3 {m : MA} : IV (iRange3 m e) QA X = AV (m e) (fun d e => OV (rangeL3 d) fun xs => QA xs e) X := by simp only [iRange3, IV_bindAI, IV_lift]
theorem iv_enu {m : MA} : IV (iEnu m e) QA X = AV (m e) (fun d e => OV (enumL d) fun xs => QA xs e) X := by simp only [iEnu, IV_bindAI, IV_lift]
theorem iv_zp2 {m : MA} : IV (iZp2 m e) QA X = AV (m e) (fun d e => OV (zip2L d) fun xs => QA xs e) X := by simp only [iZp2, IV_bindAI, IV_lift]
theorem sv_for {mi : MI} {p : Pat} {b : MS} : SV (sFor mi p b e) P = IV (mi e) (fun xs e => SV (forL p.put b xs e) P) P.X := by simp only [sFor, IV_bindS]
theorem ev_lc {mi : MI} {p : Pat} {c m : ME} {vs : List Nat} : EV (mLc mi p c m vs e) Q X = IV (mi e) (fun xs e1 => EV (lcL p.put c m vs xs e1 []) (fun d e2 => Q d (unwipe e1 e2 vs)) X) X := by
  simp only [mLc, IV_bindE, EV_bind, EV_ok]
end
/-- a for loop by an invariant -/
theorem forL_wp {g : D → Ev → Option Ev} {b : MS} {P : SP} (J : Nat → Ev → Prop) : ∀ {xs : List D} {e : Ev} (n : Nat) (h0 : J n e) (hs : ∀ i d e, xs[i]? = some d → J (n + i) e → OV (g d e) fun e1 => SV (b e1) { P with N := J (n + i + 1), T := J (n + i + 1), B := P.N }) (hN : ∀ e, J (n + xs.length) e → P.N e), SV (forL g b xs e) P
  | [], e, n, h0, hs, hN => hN e h0
  | d :: xs, e, n, h0, hs, hN => by
    have h1 := hs 0 d e rfl h0
    simp only [forL]
    cases q : g d e with
    | none => rw [q] at h1; exact h1.elim
    | some e1 =>
      rw [q] at h1
      simp only [OV_some] at h1
      have ih : ∀ e2, J (n + 1) e2 → SV (forL g b xs e2) P := fun e2 h2 => forL_wp J (n + 1) h2 (fun i d e hi hj => by
        have := hs (i + 1) d e hi (by rw [show n + (i + 1) = n + 1 + i from by omega]; exact hj)
        rw [show n + (i + 1) = n + 1 + i from by omega] at this
        exact this) fun e hj => hN e (by rw [List.length_cons, show n + (xs.length + 1) = n + 1 + xs.length from by omega]; exact hj)
      simp only
      generalize b e1 = r at h1 ⊢
      cases r with
      | nx e2 => exact ih e2 h1
      | ct e2 => exact ih e2 h1
      | bk e2 => exact h1
      | rt d e => exact h1
      | exc c fs e => exact h1
      | bad => exact h1
/-- a list comprehension by an invariant -/
theorem lcL_wp {g : D → Ev → Option Ev} {c m : ME} {vs : List Nat} {Q : D → Ev → Prop} {X : XP} (J : Nat → List D → Ev → Prop) : ∀ {xs : List D} {e : Ev} {acc : List D} (n : Nat) (h0 : J n acc e) (ha : acc.length ≤ n) (hl : n + xs.length ≤ 16777216)
    (hs : ∀ i d acc e, xs[i]? = some d → J (n + i) acc e → OV (g d (wipeE e vs)) fun e1 => TV (c e1) (fun t e2 => if t then EV (m e2) (fun y e3 => J (n + i + 1) (acc ++ [y]) e3) (fun _ _ _ => False) else J (n + i + 1) acc e2) fun _ _ _ => False)
    (hq : ∀ acc e, J (n + xs.length) acc e → Q (.lst acc) e), EV (lcL g c m vs xs e acc) Q X
  | [], e, acc, n, h0, ha, hl, hs, hq => hq acc e h0
  | d :: xs, e, acc, n, h0, ha, hl, hs, hq => by
    have h1 := hs 0 d acc e rfl h0
    simp only [List.length_cons] at hl
    have ih : ∀ acc2 e2, acc2.length ≤ n + 1 → J (n + 1) acc2 e2 → EV (lcL g c m vs xs e2 acc2) Q X := fun acc2 e2 l2 h2 => lcL_wp J (n + 1) h2 l2 (by omega) (fun i d acc e hi hj => by
      have := hs (i + 1) d acc e hi (by rw [show n + (i + 1) = n + 1 + i from by omega]; exact hj)
      rw [show n + (i + 1) = n + 1 + i from by omega] at this
      exact this) fun acc e hj => hq acc e (by rw [List.length_cons, show n + (xs.length + 1) = n + 1 + xs.length from by omega]; exact hj)
    simp only [lcL]
    cases q : g d (wipeE e vs) with
    | none => rw [q] at h1; exact h1.elim
    | some e1 =>
      rw [q] at h1
      simp only [OV_some, TV_eq] at h1
      simp only
      generalize c e1 = r at h1 ⊢
      cases r with
      | ok t e2 =>
        cases t with
        | bl t =>
          cases t with
          | false => exact ih acc e2 (by omega) h1
          | true =>
            have h2 : EV (m e2) (fun y e3 => J (n + 0 + 1) (acc ++ [y]) e3) (fun _ _ _ => False) := h1
            simp only
            generalize m e2 = r at h2 ⊢
            cases r with
            | ok y e3 =>
              simp only
              rw [if_pos (by omega)]
              exact ih (acc ++ [y]) e3 (by rw [List.length_append]; simp; omega) h2
            | _ => exact h2.elim
        | _ => exact h1.elim
      | _ => exact h1.elim
/-- a def's answer -/
theorem fv_run {t : FT} {n : Nat} {b : MS} {xs : List D} {Q : D → List D → Prop} {X : Str → List (Str × D) → List D → Prop} : FV (runF t n b xs) Q X = SV (b (xs.map some ++ List.replicate (n - xs.length) none)) { N := fun e => OV (back t.ps xs e) (Q .non), R := fun d e => OV (back t.ps xs e) (Q d), X := fun c fs e => OV (back t.ps xs e) (X c fs), B := fun _ => False, T := fun _ => False } := by
  unfold runF
  generalize b _ = r
  cases r with
  | nx e => simp only [SV]; cases back t.ps xs e <;> rfl
  | rt d e => simp only [SV]; cases back t.ps xs e <;> rfl
  | exc c fs e => simp only [SV]; cases back t.ps xs e <;> rfl
  | _ => rfl
theorem FV.ok {r : RF} {Q : D → List D → Prop} (h : FV r Q fun _ _ _ => False) : ∃ d xs, r = .ok d xs ∧ Q d xs := by
  cases r with
  | ok d xs => exact ⟨d, xs, rfl, h⟩
  | _ => exact h.elim
theorem FV.imp {r : RF} {Q Q' : D → List D → Prop} {X X' : Str → List (Str × D) → List D → Prop} (h : FV r Q X) (q : ∀ d xs, Q d xs → Q' d xs) (x : ∀ c fs xs, X c fs xs → X' c fs xs) : FV r Q' X' := by
  cases r with
  | ok d xs => exact q _ _ h
  | exc c fs xs => exact x _ _ _ h
  | bad => exact h.elim
section
variable {Q : D → Ev → Prop} {X : XP} {e : Ev} {P : SP}
theorem SV_nx : SV (.nx e) P = P.N e := (rfl)
theorem SV_rt {d : D} : SV (.rt d e) P = P.R d e := (rfl)
theorem SV_bk : SV (.bk e) P = P.B e := (rfl)
theorem SV_ct : SV (.ct e) P = P.T e := (rfl)
theorem SV_exc {c : Str} {fs : List (Str × D)} : SV (.exc c fs e) P = P.X c fs e := (rfl)
theorem sv_brk : SV (sBrk e) P = P.B e := (rfl)
theorem sv_cont : SV (sCont e) P = P.T e := (rfl)
theorem has_s {x : Option D} {i : Nat} : has (x :: e) (i + 1) = has e i := (rfl)
theorem has_z {d : D} : has (some d :: e) 0 = true := (rfl)
theorem atL_s {x : Option D} {i : Nat} : atL (x :: e) (i + 1) = atL e i := (rfl)
theorem atL_z {ds : List D} : atL (some (.lst ds) :: e) 0 = some ds := (rfl)
theorem sv_oset {i : Nat} {mi mv : ME} : SV (sOset i mi mv e) P = EV (mv e) (fun v e1 => has e1 i = true ∧ EV (mi e1) (fun k e2 => match k with
    | .int k => OV (atL e2 i) fun ds => OV (ixN ds.length k) fun j => P.N (e2.set i (some (.lst (ds.set j v))))
    | _ => False) P.X) P.X := by
  simp only [sOset, SV_bindS]
  congr; funext v e1
  cases has e1 i with
  | false => exact propext ⟨fun z => z.elim, fun z => by cases z.1⟩
  | true =>
    simp only [if_true, SV_bindS, true_and]
    congr; funext k e2
    cases k with
    | int k =>
      cases atL e2 i with
      | none => rfl
      | some ds =>
        simp only [OV_some]
        cases ixN ds.length k <;> rfl
    | _ => rfl
theorem sv_aug {i : Nat} {f : D → D → Option D} {m : ME} : SV (sAug i f m e) P = OV (e[i]?) (fun x => OV x fun x => EV (m e) (fun y e1 => OV (f x y) fun z => P.N (e1.set i (some z))) P.X) := by
  unfold sAug
  rcases e[i]? with _ | _ | x
  · rfl
  · rfl
  · simp only [OV_some, SV_bindS]
    congr; funext y e1
    cases f x y <;> rfl
theorem sv_fldO {c f : Str} {i : Nat} {m : ME} : SV (sFldO c i f m e) P = EV (m e) (fun v e1 => OV (e1[i]?) fun x => OV x fun x => match x with
    | .obj c' fs => fs.length < 1000 ∧ P.N (e1.set i (some (.obj c' (putD f v fs))))
    | _ => False) P.X := by
  simp only [sFldO, SV_bindS]
  congr; funext v e1
  rcases e1[i]? with _ | _ | x
  · rfl
  · rfl
  · cases x with
    | obj c' fs =>
      simp only [OV_some]
      by_cases h : fs.length < 1000
      · simp only [if_pos h, h, true_and]; rfl
      · simp only [if_neg h, h, false_and]; rfl
    | _ => rfl
theorem ev_callO {i : Nat} {f : List D → Option D} : EV (mCallO i f e) Q X = OV (e[i]?) (fun x => OV x fun d => OV (f [d]) fun z => z.scal = true ∧ Q z e) := by
  unfold mCallO
  rcases e[i]? with _ | _ | d
  · rfl
  · rfl
  · simp only [OV_some]
    cases f [d] with
    | none => rfl
    | some z =>
      simp only [OV_some]
      cases h : z.scal
      · exact propext ⟨fun z => z.elim, fun z => by cases z.1⟩
      · exact propext ⟨fun z => ⟨rfl, z⟩, fun z => z.2⟩
theorem ev_chain {f f' : D → D → Option D} {a b c : ME} : EV (mChain f f' a b c e) Q X = EV (a e) (fun x e => EV (b e) (fun y e => OV (f x y) fun t => match t with
    | .bl true => EV (c e) (fun z e => OV (f' y z) fun w => Q w e) X
    | .bl false => Q (.bl false) e
    | _ => False) X) X := by
  simp only [mChain, EV_bind]
  congr; funext x e1
  congr; funext y e2
  cases f x y with
  | none => rfl
  | some t =>
    cases t with
    | bl t => cases t <;> simp only [EV_bind, EV_lift, OV_some, EV_ok]
    | _ => rfl
theorem ev_part_n {k : Option Int → Ev → RE} : EV (mPart none e k) Q X = EV (k none e) Q X := (rfl)
theorem ev_part_s {m : ME} {k : Option Int → Ev → RE} : EV (mPart (some m) e k) Q X = EV (m e) (fun d e1 => match d with
    | .int i => EV (k (some i) e1) Q X
    | _ => False) X := by
  simp only [mPart, EV_bind]
  congr; funext d e1
  cases d <;> rfl
theorem ev_sl3 {a st : ME} {lo hi : Option ME} : EV (mSl3 a lo hi st e) Q X = EV (a e) (fun x e1 => EV (mPart lo e1 fun l e2 => mPart hi e2 fun h e3 => mPart (some st) e3 fun j e4 => lift (j.bind fun j => slD3 x l h j) e4) Q X) X := by
  simp only [mSl3, EV_bind]
  congr
end
/-! numbers -/
theorem mulD_lit {i j : Int} (h : decide (-(2 ^ 64) < i ∧ i < 2 ^ 64) = true) : mulD (.int i) (.int j) = some (.int (i * j)) := mulD_l (of_decide_eq_true h).1 (of_decide_eq_true h).2
theorem atI0 {α : Type} {a : α} {l : List α} : atI (a :: l) 0 = some a := by simp [atI, ixN]
theorem atI1 {α : Type} {a b : α} {l : List α} : atI (a :: b :: l) 1 = some b := by
  have : (1 : Int) < (l.length : Int) + 1 + 1 := by omega
  simp [atI, ixN, this]
theorem atI2 {α : Type} {a b c : α} {l : List α} : atI (a :: b :: c :: l) 2 = some c := by
  have : (2 : Int) < (l.length : Int) + 1 + 1 + 1 := by omega
  simp [atI, ixN, this]
theorem atI3 {α : Type} {a b c d : α} {l : List α} : atI (a :: b :: c :: d :: l) 3 = some d := by
  have : (3 : Int) < (l.length : Int) + 1 + 1 + 1 + 1 := by omega
  simp [atI, ixN, this]
theorem ixN3_0 : ixN 3 0 = some 0 := by decide
theorem ixN3_1 : ixN 3 1 = some 1 := by decide
theorem ixN3_2 : ixN 3 2 = some 2 := by decide
theorem ixD_lst {l : List D} {i : Int} : ixD (.lst l) (.int i) = atI l i := (rfl)
theorem ixD_tup {l : List D} {i : Int} : ixD (.tup l) (.int i) = atI l i := (rfl)
theorem ixD_scr {l : List D} {i : Int} : ixD (.scr l) (.int i) = atI l i := (rfl)
theorem lenD_scr {l : List D} : lenD [.scr l] = some (.int l.length) := (rfl)
/-- a box of a draw -/
def Box (d : D) : Prop := ∃ a b c : Int, d = .lst [.int a, .int b, .int c]
end PT

set_option Elab.async false
set_option linter.all false
set_option maxRecDepth 100000
set_option maxHeartbeats 4000000
/-! PT: plain data, equality with itself; ranges -/
namespace PT
open PySem PySem.Spec PyProof.Rows L2
/-- plain data of a depth -/
def Pl : Nat → D → Prop
  | _, .non => True
  | _, .bl _ => True
  | _, .int _ => True
  | _, .str s => PyData.strOk s = true
  | n + 1, .tup ds => ∀ d ∈ ds, Pl n d
  | n + 1, .lst ds => ∀ d ∈ ds, Pl n d
  | _, _ => False
theorem pdL_ok {n : Nat} (ih : ∀ d, Pl n d → ∃ p, d.pd = some p ∧ p.canLay0 = true ∧ p.depth ≤ n) : ∀ ds : List D, (∀ d ∈ ds, Pl n d) → ∃ ps, D.pdL ds = some ps ∧ PyData.canLayAll0 ps = true ∧ PyData.depthAll ps ≤ n ∧ ps.length = ds.length
  | [], _ => ⟨[], by simp only [D.pdL], by simp only [PyData.canLayAll0], by simp only [PyData.depthAll]; omega, rfl⟩
  | d :: ds, h => by
    obtain ⟨p, h1, h2, h3⟩ := ih d (h d List.mem_cons_self)
    obtain ⟨ps, g1, g2, g3, g4⟩ := pdL_ok ih ds fun x hx => h x (List.mem_cons_of_mem _ hx)
    exact ⟨p :: ps, by simp only [D.pdL, h1, g1, Option.bind_some, Option.map_some], by simp only [PyData.canLayAll0, h2, g2, Bool.and_self], by simp only [PyData.depthAll]; omega, by simp [g4]⟩
theorem Pl.pd : ∀ {n : Nat} {d : D}, Pl n d → ∃ p, d.pd = some p ∧ p.canLay0 = true ∧ p.depth ≤ n
  | n, .non, _ => ⟨.none, by simp only [D.pd], by simp only [PyData.canLay0], by simp only [PyData.depth]; omega⟩
  | n, .bl b, _ => ⟨.bool b, by simp only [D.pd], by simp only [PyData.canLay0], by simp only [PyData.depth]; omega⟩
  | n, .int b, _ => ⟨.int b, by simp only [D.pd], by simp only [PyData.canLay0], by simp only [PyData.depth]; omega⟩
  | n, .str b, h => ⟨.str b, by simp only [D.pd], by simp only [PyData.canLay0]; simpa only [Pl] using h, by simp only [PyData.depth]; omega⟩
  | n + 1, .tup ds, h => by
    obtain ⟨ps, g1, g2, g3, _⟩ := pdL_ok (fun d hd => Pl.pd (n := n) hd) ds (by simpa only [Pl] using h)
    exact ⟨.tuple ps, by simp only [D.pd, g1, Option.map_some], by simp only [PyData.canLay0, g2], by simp only [PyData.depth]; omega⟩
  | n + 1, .lst ds, h => by
    obtain ⟨ps, g1, g2, g3, _⟩ := pdL_ok (fun d hd => Pl.pd (n := n) hd) ds (by simpa only [Pl] using h)
    exact ⟨.list ps, by simp only [D.pd, g1, Option.map_some], by simp only [PyData.canLay0, g2], by simp only [PyData.depth]; omega⟩
  | _, .obj _ _, h => by simp only [Pl] at h
  | _, .ty _, h => by simp only [Pl] at h
  | _, .glo _, h => by simp only [Pl] at h
  | _, .scr _, h => by simp only [Pl] at h
  | 0, .tup _, h => by simp only [Pl] at h
  | 0, .lst _, h => by simp only [Pl] at h
theorem shaped_of {p : PyData} (h : p.canLay0 = true) (h2 : p.depth ≤ 64) : SeqAt.shaped p = true := by
  unfold SeqAt.shaped
  rw [h, decide_eq_true h2]; rfl
theorem shaped_nil : SeqAt.shaped (.list []) = true := shaped_of (by simp only [PyData.canLay0, PyData.canLayAll0]) (by simp only [PyData.depth, PyData.depthAll]; omega)
theorem pd_nil : D.pd (.lst []) = some (.list []) := by simp only [D.pd, D.pdL, Option.map_some]
theorem eqv_nil {ps : List PyData} : PyData.eqv (.list ps) (.list []) = ps.isEmpty := by cases ps <;> simp [PyData.eqv, PyData.eqvAll]
theorem pd_lst {n : Nat} {ds : List D} (h : ∀ d ∈ ds, Pl n d) (hn : n ≤ 60) : ∃ ps, D.pd (.lst ds) = some (.list ps) ∧ SeqAt.shaped (.list ps) = true ∧ ps.isEmpty = ds.isEmpty := by
  obtain ⟨ps, g1, g2, g3, g4⟩ := pdL_ok (fun d hd => Pl.pd (n := n) hd) ds h
  refine ⟨ps, by simp only [D.pd, g1, Option.map_some], shaped_of (by simp only [PyData.canLay0, g2]) (by simp only [PyData.depth]; omega), ?_⟩
  cases ps <;> cases ds <;> simp_all
theorem neD_nil {n : Nat} {ds : List D} (h : ∀ d ∈ ds, Pl n d) (hn : n ≤ 60) : neD (.lst ds) (.lst []) = some (.bl (!ds.isEmpty)) := by
  obtain ⟨ps, g1, g2, g3⟩ := pd_lst h hn
  rw [neD_of g1 pd_nil g2 shaped_nil, eqv_nil, g3]
theorem eqD_nil {n : Nat} {ds : List D} (h : ∀ d ∈ ds, Pl n d) (hn : n ≤ 60) : eqD (.lst ds) (.lst []) = some (.bl ds.isEmpty) := by
  obtain ⟨ps, g1, g2, g3⟩ := pd_lst h hn
  rw [eqD_of g1 pd_nil g2 shaped_nil, eqv_nil, g3]
theorem eqD_str {s : Str} (h : PyData.strOk s = true) : eqD (.str s) (.str s) = some (.bl true) := by
  rw [eqD_of (p := .str s) (q := .str s) (by simp only [D.pd]) (by simp only [D.pd]) (shaped_of (by simp only [PyData.canLay0, h]) (by simp only [PyData.depth]; omega)) (shaped_of (by simp only [PyData.canLay0, h]) (by simp only [PyData.depth]; omega))]
  simp [PyData.eqv]
theorem rangeL1_ok {n : Int} (h1 : n ≤ 16777216) (h2 : -16777216 ≤ n) : rangeL1 [.int n] = some ((List.range n.toNat).map fun i => .int (i : Nat)) := by
  show rangeD 0 n = _
  unfold rangeD
  rw [if_pos (by omega)]
  simp
theorem range_get {n i : Nat} {d : D} (h : ((List.range n).map fun i => D.int (i : Nat))[i]? = some d) : i < n ∧ d = .int i := by
  rw [List.getElem?_map] at h
  rcases Nat.lt_or_ge i n with z | z
  · rw [List.getElem?_range z] at h
    cases h
    exact ⟨z, rfl⟩
  · rw [List.getElem?_eq_none (by simpa using z)] at h
    cases h
theorem ev_binO {Q : D → Ev → Prop} {X : XP} {e : Ev} {i : Nat} {f : D → D → Option D} {b : ME} : EV (mBinO i f b e) Q X = (has e i = true ∧ EV (b e) (fun y e1 => OV (e1[i]?) fun x => OV x fun x => OV (f x y) fun z => z.scal = true ∧ Q z e1) X) := by
  unfold mBinO
  cases has e i with
  | false => exact propext ⟨fun z => z.elim, fun z => by cases z.1⟩
  | true =>
    simp only [if_true, EV_bind, true_and]
    congr; funext y e1
    rcases e1[i]? with _ | _ | x
    · rfl
    · rfl
    · simp only [OV_some]
      cases f x y with
      | none => rfl
      | some z =>
        simp only [OV_some]
        cases h : z.scal
        · exact propext ⟨fun z => z.elim, fun z => by cases z.1⟩
        · exact propext ⟨fun z => ⟨rfl, z⟩, fun z => z.2⟩
theorem atI_mem {α : Type} {L : List α} {r : Int} (h0 : 0 ≤ r) (h1 : r < L.length) : ∃ x, x ∈ L ∧ atI L r = some x := by
  have hn : r.toNat < L.length := by omega
  refine ⟨L[r.toNat], List.getElem_mem hn, ?_⟩
  unfold L2.atI ixN
  rw [if_pos h0, if_pos h1]
  exact List.getElem?_eq_getElem hn
theorem lcL_nil {g : D → Ev → Option Ev} {c m : ME} {vs : List Nat} {e : Ev} {acc : List D} {Q : D → Ev → Prop} {X : XP} : EV (lcL g c m vs [] e acc) Q X = Q (.lst acc) e := (rfl)
theorem lcL_cons {g : D → Ev → Option Ev} {c m : ME} {vs : List Nat} {e : Ev} {acc ds : List D} {d : D} {Q : D → Ev → Prop} {X : XP} : EV (lcL g c m vs (d :: ds) e acc) Q X = OV (g d (wipeE e vs)) fun e1 => EV (c e1) (fun t e2 => match t with
    | .bl true => EV (m e2) (fun y e3 => acc.length < 16777216 ∧ EV (lcL g c m vs ds e3 (acc ++ [y])) Q X) (fun _ _ _ => False)
    | .bl false => EV (lcL g c m vs ds e2 acc) Q X
    | _ => False) (fun _ _ _ => False) := by
  rw [lcL]
  cases g d (wipeE e vs) with
  | none => rfl
  | some e1 =>
    simp only [OV_some]
    generalize c e1 = r
    cases r with
    | ok t e2 =>
      cases t with
      | bl t =>
        cases t with
        | false => rfl
        | true =>
          simp only [EV_ok]
          generalize m e2 = r
          cases r with
          | ok y e3 =>
            simp only [EV_ok]
            by_cases h : acc.length < 16777216
            · simp only [h, true_and, if_true]
            · simp only [h, false_and, if_false]; rfl
          | _ => rfl
      | _ => rfl
    | _ => rfl
end PT

set_option Elab.async false
set_option linter.all false
set_option maxRecDepth 100000
set_option maxHeartbeats 4000000
/-! PT: wishes over the mirrors of PtZg, equality of lists of ints -/
namespace PT
open PySem PySem.Spec PyProof.Rows L2
section
variable {Q : D → Ev → Prop} {QA : List D → Ev → Prop} {X : XP} {e : Ev} {P : SP}
theorem iv_zp3 {m : MA} : IV (iZp3 m e) QA X = AV (m e) (fun d e => OV (zip3L d) fun xs => QA xs e) X := by simp only [iZp3, IV_bindAI, IV_lift]
theorem sv_forget {i : Nat} {m : MS} : SV (sForget i m e) P = SV (m (e.set i none)) P := (rfl)
theorem sv_oaug {i : Nat} {f : D → D → Option D} {mi mv : ME} : SV (sOaug i mi f mv e) P = (has e i = true ∧ EV (mi e) (fun k e1 => match k with
    | .int k => OV (atL e1 i) fun ds => OV (atI ds k) fun x => EV (mv e1) (fun y e2 => OV (f x y) fun z => OV (atL e2 i) fun es => OV (ixN es.length k) fun j => P.N (e2.set i (some (.lst (es.set j z))))) P.X
    | _ => False) P.X) := by
  unfold sOaug
  cases has e i with
  | false => exact propext ⟨fun z => z.elim, fun z => by cases z.1⟩
  | true =>
    simp only [if_true, SV_bindS, true_and]
    congr; funext k e1
    cases k with
    | int k =>
      cases atL e1 i with
      | none => rfl
      | some ds =>
        simp only [OV_some]
        cases atI ds k with
        | none => rfl
        | some x =>
          simp only [OV_some, SV_bindS]
          congr; funext y e2
          cases f x y with
          | none => rfl
          | some z =>
            simp only [OV_some]
            cases atL e2 i with
            | none => rfl
            | some es =>
              simp only [OV_some]
              cases ixN es.length k <;> rfl
    | _ => rfl
end
theorem EV.imp {r : RE} {Q Q' : D → Ev → Prop} {X X' : XP} (h : EV r Q X) (q : ∀ d e, Q d e → Q' d e) (x : ∀ c fs e, X c fs e → X' c fs e) : EV r Q' X' := by
  cases r with
  | ok d e => exact q _ _ h
  | exc c fs e => exact x _ _ _ h
  | bad => exact h.elim
theorem pdL_ints : ∀ zs : List Int, D.pdL (zs.map .int) = some (zs.map .int)
  | [] => by simp only [List.map_nil, D.pdL]
  | z :: zs => by simp only [List.map_cons, D.pdL, D.pd, pdL_ints zs, Option.bind_some, Option.map_some]
theorem lay_ints : ∀ zs : List Int, PyData.canLayAll0 (zs.map .int) = true
  | [] => by simp only [List.map_nil, PyData.canLayAll0]
  | z :: zs => by simp only [List.map_cons, PyData.canLayAll0, PyData.canLay0, lay_ints zs, Bool.and_self]
theorem dep_ints : ∀ zs : List Int, PyData.depthAll (zs.map .int) = 0
  | [] => by simp only [List.map_nil, PyData.depthAll]
  | z :: zs => by simp only [List.map_cons, PyData.depthAll, PyData.depth, dep_ints zs]; omega
theorem eqv_ints : ∀ xs ys : List Int, PyData.eqvAll (xs.map .int) (ys.map .int) = decide (xs = ys)
  | [], [] => by simp [PyData.eqvAll]
  | [], y :: ys => by simp [PyData.eqvAll]
  | x :: xs, [] => by simp [PyData.eqvAll]
  | x :: xs, y :: ys => by
    simp only [List.map_cons, PyData.eqvAll, PyData.eqv, eqv_ints xs ys]
    by_cases h1 : x = y
    · by_cases h2 : xs = ys
      · simp [h1, h2]
      · simp [h1, h2]
    · simp [h1]
theorem ixN2_0 : ixN 2 0 = some 0 := by decide
theorem ixN2_1 : ixN 2 1 = some 1 := by decide
theorem cut1 {x : D} {l : List D} : slD (.lst (x :: l)) (some 1) none = some (.lst l) := by
  show some (D.lst (cutG (x :: l) (some 1) none)) = _
  have e : HT.sIx (x :: l).length 0 (some 1) = 1 := by
    show (if (1 : Int) < 0 then ((1 : Int) + ((x :: l).length : Int)).toNat else min (1 : Int).toNat (x :: l).length) = 1
    rw [if_neg (by decide)]
    show min 1 (l.length + 1) = 1
    omega
  have e0 : HT.sIx (x :: l).length (x :: l).length none = (x :: l).length := rfl
  unfold cutG
  rw [e, e0]
  simp
theorem addD_lst {a b : List D} (h : a.length + b.length ≤ 16777216) : addD (.lst a) (.lst b) = some (.lst (a ++ b)) := if_pos h
theorem addD_tup {a b : List D} (h : a.length + b.length ≤ 16777216) : addD (.tup a) (.tup b) = some (.tup (a ++ b)) := if_pos h
theorem eqD_ints {xs ys : List Int} : eqD (.lst (xs.map .int)) (.lst (ys.map .int)) = some (.bl (decide (xs = ys))) := by
  have s : ∀ zs : List Int, SeqAt.shaped (.list (zs.map .int)) = true := fun zs => shaped_of (by simp only [PyData.canLay0, lay_ints]) (by simp only [PyData.depth, dep_ints]; omega)
  rw [eqD_of (p := .list (xs.map .int)) (q := .list (ys.map .int)) (by simp only [D.pd, pdL_ints, Option.map_some]) (by simp only [D.pd, pdL_ints, Option.map_some]) (s _) (s _)]
  simp only [PyData.eqv, eqv_ints]
end PT

set_option Elab.async false
set_option linter.all false
set_option maxRecDepth 100000
set_option maxHeartbeats 1000000
namespace K26
open PySem PySem.Spec PyProof.Rows L2 PT
local macro_rules | `(tactic| walk_at "wp1") => `(tactic| try simp only [fv_run, EV_ok, EV_bind, EV_lift, AV_ok, ev_var, ev_c, ev_bin, ev_un, ev_and, ev_or, ev_not, ev_if, ev_tup, ev_lst, ev_fn, av_nil, av_cons, av_kn, av_kd, av_ko, av_ks, ev_call, ev_make, ev_oix, ev_sl, ev_sl3, ev_part_n, ev_part_s, ev_chain, ev_callO, ev_binO, sv_nil, sv_seq, sv_expr, sv_set, sv_ret, sv_retN, sv_if, sv_par, sv_asg, sv_app, sv_raise, sv_oset, sv_aug, sv_fldO, sv_brk, sv_cont, iv_seq, iv_range1, iv_range2, iv_range3, iv_enu, iv_zp2, iv_zp3, sv_forget, sv_for, ev_lc, TV_eq, OV_some, SV_nx, SV_rt, SV_bk, SV_ct, SV_exc, has_s, has_z, atL_s, atL_z, ownI, ownB, putB, back, setE,
  addD_int, subD_int, negD_int, ltD_int, leD_int, gtD_int, geD_int, eqD_int, neD_int, eqD_bl, neD_bl, lenD_lst, lenD_tup, lenD_scr, absD_int, PT.intD_int, intD_bl, max2D_int, min2D_int, max3D_int, listD_lst, listD_tup, tupleD_lst, tupleD_tup, addI_int, subI_int, ixD_lst, ixD_tup, ixD_scr, atI0, atI1, atI2, atI3, ixN2_0, ixN2_1, cut1, mulD_l, mulD_r, modD_int, powD_int, divD_small, Int.reduceNeg, Int.reducePow, Int.reduceLT, Int.reduceLE, Int.reduceAdd, D.scal, D.isNon, itemsOf, Pat.put, Pat.puts, Option.bind_some,
  List.map_cons, List.map_nil, List.cons_append, List.nil_append, List.append_nil, List.length_cons, List.length_nil, List.replicate_succ, List.replicate_zero, List.getElem?_cons_zero, List.getElem?_cons_succ, List.set_cons_zero, List.set_cons_succ, Nat.reduceAdd, Nat.reduceSub, Option.map_some, Option.map_none, if_true, if_false, Bool.false_eq_true, reduceIte, true_and, Bool.not_true, Bool.not_false])
local macro_rules | `(tactic| walk_at "wp") => `(tactic| (walk_at "wp1"; repeat (with_reducible refine sv_go ?_; walk_at "wp1")))
def Bx (d : D) : Prop := ∃ (cs : List Int) (s : Int), cs.length ≤ 63 ∧ d = .lst [.lst (cs.map .int), .int s]
theorem ne_nil0 : neD (.lst []) (.lst []) = some (.bl false) := neD_nil (n := 0) (ds := []) (by simp) (by omega)
theorem ne_nil1 {c : Int} {cs : List Int} : neD (.lst (.int c :: cs.map .int)) (.lst []) = some (.bl true) := neD_nil (n := 0) (ds := .int c :: cs.map .int) (fun d hd => by
  rcases List.mem_cons.mp hd with rfl | hd
  · simp only [Pl]
  · obtain ⟨z, _, rfl⟩ := List.mem_map.mp hd; simp only [Pl]) (by omega)
theorem take_wp {d : D} {m : Int} {Q : D → List D → Prop} {X : Str → List (Str × D) → List D → Prop} (hb : Bx d) (h1 : 0 < m) (h2 : m < 2 ^ 64) (q : ∀ (r : Int) (d' : D), 0 ≤ r → r < m → Bx d' → Q (.int r) [d', .int m]) : FV (f__law_take [d, .int m]) Q X := by
  obtain ⟨cs, s, hl, rfl⟩ := hb
  unfold f__law_take b__law_take t__law_take
  have e1 : ∀ x : Int, divD (.int x) (.int m) = some (.int (x / m)) := fun x => divD_small h1 h2
  have e2 : ∀ x : Int, modD (.int x) (.int m) = some (.int (x % m)) := fun x => modD_int h1
  cases cs with
  | nil =>
    walk_at "wp"
    simp only [ne_nil0]
    walk_at "wp"
    simp only [e1, e2]
    walk_at "wp"
    exact q _ _ (Int.emod_nonneg _ (by omega)) (Int.emod_lt_of_pos _ h1) ⟨[], _, by simp, rfl⟩
  | cons c cs =>
    simp only [List.length_cons] at hl
    walk_at "wp"
    simp only [ne_nil1]
    walk_at "wp"
    by_cases c1 : m ≤ c
    · simp only [decide_eq_true c1]
      walk_at "wp"
      simp only [e1, e2]
      walk_at "wp"
      rw [addD_lst (by simp; omega)]
      walk_at "wp"
      simp only [e1, e2]
      walk_at "wp"
      exact q _ _ (Int.emod_nonneg _ (by omega)) (Int.emod_lt_of_pos _ h1) ⟨c / m :: cs, _, by simp; omega, rfl⟩
    · simp only [decide_eq_false c1]
      walk_at "wp"
      rw [addD_lst (by simp; omega)]
      walk_at "wp"
      simp only [e1, e2]
      walk_at "wp"
      exact q _ _ (Int.emod_nonneg _ (by omega)) (Int.emod_lt_of_pos _ h1) ⟨cs, _, by omega, rfl⟩
theorem pick_wp {d : D} {L : List D} {Q : D → List D → Prop} {X : Str → List (Str × D) → List D → Prop} (hb : Bx d) (h1 : 0 < L.length) (h2 : L.length < 2 ^ 62) (q : ∀ (x : D) (d' : D), x ∈ L → Bx d' → Q x [d', .lst L]) : FV (f__law_pick [d, .lst L]) Q X := by
  unfold f__law_pick b__law_pick t__law_pick
  walk_at "wp"
  refine take_wp hb (by omega) (by omega) fun r d' r0 r1 hb' => ?_
  walk_at "wp"
  obtain ⟨x, hx, e⟩ := atI_mem r0 r1
  rw [e]
  walk_at "wp"
  exact q _ _ hx hb'
theorem pickT_wp {d : D} {L : List D} {Q : D → List D → Prop} {X : Str → List (Str × D) → List D → Prop} (hb : Bx d) (h1 : 0 < L.length) (h2 : L.length < 2 ^ 62) (q : ∀ (x : D) (d' : D), x ∈ L → Bx d' → Q x [d', .tup L]) : FV (f__law_pick [d, .tup L]) Q X := by
  unfold f__law_pick b__law_pick t__law_pick
  walk_at "wp"
  refine take_wp hb (by omega) (by omega) fun r d' r0 r1 hb' => ?_
  walk_at "wp"
  obtain ⟨x, hx, e⟩ := atI_mem r0 r1
  rw [e]
  walk_at "wp"
  exact q _ _ hx hb'
theorem pow18 : powD (.int 10) (.int 18) = some (.int 1000000000000000000) := powD_int (by decide) (by decide) (by decide)
theorem pow9 : powD (.int 10) (.int 9) = some (.int 1000000000) := powD_int (by decide) (by decide) (by decide)
theorem sign_wp {d : D} {Q : D → List D → Prop} {X : Str → List (Str × D) → List D → Prop} (hb : Bx d) (q : ∀ (s : Int) (d' : D), s = 1 ∨ s = -1 → Bx d' → Q (.int s) [d']) : FV (f__law_sign [d]) Q X := by
  unfold f__law_sign b__law_sign t__law_sign
  walk_at "wp"
  refine take_wp hb (by omega) (by omega) fun r d' r0 r1 hb' => ?_
  walk_at "wp"
  exact q _ _ (by omega) hb'
theorem far_wp {d : D} {m : Int} {Q : D → List D → Prop} {X : Str → List (Str × D) → List D → Prop} (hb : Bx d) (h0 : 0 ≤ m) (q : ∀ (r : Int) (d' : D), -m ≤ r → r ≤ m → Bx d' → Q (.int r) [d', .int m]) : FV (f__law_far [d, .int m]) Q X := by
  unfold f__law_far b__law_far t__law_far
  walk_at "wp"
  simp only [pow9]
  walk_at "wp"
  refine take_wp hb (by omega) (by omega) fun r d1 r0 r1 hb1 => ?_
  walk_at "wp"
  refine take_wp hb1 (by omega) (by omega) fun r2 d2 _ _ hb2 => ?_
  walk_at "wp"
  refine take_wp hb2 (by omega) (by omega) fun r3 d3 _ _ hb3 => ?_
  walk_at "wp"
  have e2 : ∀ x : Int, modD (.int x) (.int (2 * m + 1)) = some (.int (x % (2 * m + 1))) := fun x => modD_int (by omega)
  simp only [e2]
  walk_at "wp"
  have g0 := Int.emod_nonneg (((r * 1000000000 + r2) * 4 + r3)) (show (2 * m + 1) ≠ 0 by omega)
  have g1 := Int.emod_lt_of_pos (((r * 1000000000 + r2) * 4 + r3)) (show 0 < (2 * m + 1) by omega)
  exact q _ _ (by omega) (by omega) hb3
theorem amount_wp {d : D} {m : Int} {Q : D → List D → Prop} {X : Str → List (Str × D) → List D → Prop} (hb : Bx d) (h0 : 0 ≤ m) (q : ∀ (r : Int) (d' : D), 0 ≤ r → r ≤ m → Bx d' → Q (.int r) [d', .int m]) : FV (f__law_amount [d, .int m]) Q X := by
  unfold f__law_amount b__law_amount t__law_amount
  walk_at "wp"
  refine take_wp hb (by omega) (by omega) fun r d1 r0 r1 hb1 => ?_
  walk_at "wp"
  refine take_wp hb1 (by omega) (by omega) fun r2 d2 r20 _ hb2 => ?_
  walk_at "wp"
  refine far_wp hb2 h0 fun f d3 _ _ hb3 => ?_
  walk_at "wp"
  rw [addD_lst (by simp)]
  walk_at "wp"
  refine pick_wp hb3 (by simp) (by simp) fun x d4 hx hb4 => ?_
  have hx' : ∃ k : Int, x = .int k ∧ 0 ≤ k := by
    simp only [List.mem_cons, List.not_mem_nil, or_false] at hx
    rcases hx with rfl | rfl | rfl | rfl
    · exact ⟨0, rfl, by omega⟩
    · exact ⟨_, rfl, r0⟩
    · exact ⟨_, rfl, r20⟩
    · exact ⟨_, rfl, by omega⟩
  obtain ⟨k, rfl, hk⟩ := hx'
  walk_at "wp"
  exact q _ _ (by omega) (by omega) hb4
theorem ite_and {p q : Prop} [Decidable p] [Decidable q] {A B : Prop} (h1 : p → q → A) (h2 : ¬ (p ∧ q) → B) : if decide p = true then (if decide q = true then A else B) else B := by
  by_cases hp : p
  · by_cases hq : q
    · rw [if_pos (decide_eq_true hp), if_pos (decide_eq_true hq)]; exact h1 hp hq
    · rw [if_pos (decide_eq_true hp), if_neg (fun z => hq (of_decide_eq_true z))]; exact h2 fun z => hq z.2
  · rw [if_neg (fun z => hp (of_decide_eq_true z))]; exact h2 fun z => hp z.1
theorem ite_or {p q : Prop} [Decidable p] [Decidable q] {A B : Prop} (h1 : p ∨ q → A) (h2 : ¬ p → ¬ q → B) : if decide p = true then A else (if decide q = true then A else B) := by
  by_cases hp : p
  · rw [if_pos (decide_eq_true hp)]; exact h1 (.inl hp)
  · rw [if_neg (fun z => hp (of_decide_eq_true z))]
    by_cases hq : q
    · rw [if_pos (decide_eq_true hq)]; exact h1 (.inr hq)
    · rw [if_neg (fun z => hq (of_decide_eq_true z))]; exact h2 hp hq
theorem ite_one {p : Prop} [Decidable p] {A B : Prop} (h1 : p → A) (h2 : ¬ p → B) : if decide p = true then A else B := by
  by_cases hp : p
  · rw [if_pos (decide_eq_true hp)]; exact h1 hp
  · rw [if_neg (fun z => hp (of_decide_eq_true z))]; exact h2 hp
theorem mod_ne {a r n : Int} (a0 : 0 ≤ a) (a1 : a < n) (r0 : 0 ≤ r) (r1 : r < n - 1) : a ≠ (a + 1 + r) % n := by
  rcases Int.lt_or_le (a + 1 + r) n with h | h
  · rw [Int.emod_eq_of_lt (by omega) h]; omega
  · have e : (a + 1 + r) % n = a + 1 + r - n := by
      rw [← Int.sub_emod_right, Int.emod_eq_of_lt (by omega) (by omega)]
    rw [e]; omega
inductive TieOk (n : Int) : D → Prop
  | one (p s : Int) : 0 ≤ p → p < n → s = 1 ∨ s = -1 → TieOk n (.tup [.int p, .int s])
  | two (p s q t : Int) : 0 ≤ p → p < n → 0 ≤ q → q < n → p ≠ q → s = 1 ∨ s = -1 → t = 1 ∨ t = -1 → TieOk n (.tup [.int p, .int s, .int q, .int t])
theorem TieOk.pl {n : Int} {d : D} (h : TieOk n d) : Pl 1 d := by
  cases h <;> simp [Pl]
theorem sign_mem {x : D} (h : x ∈ [D.int 1, D.int (-1)]) : ∃ s : Int, x = .int s ∧ (s = 1 ∨ s = -1) := by
  simp only [List.mem_cons, List.not_mem_nil, or_false] at h
  rcases h with rfl | rfl
  · exact ⟨1, rfl, .inl rfl⟩
  · exact ⟨-1, rfl, .inr rfl⟩
inductive BndOk : D → Prop
  | mk (a b : Int) : a ≤ b → BndOk (.tup [.int a, .int b])
def Sg (z : Int) : Prop := z = -1 ∨ z = 0 ∨ z = 1
theorem ixN_ok {n : Nat} {i : Int} (h0 : 0 ≤ i) (h1 : i < n) : ixN n i = some i.toNat := by
  unfold ixN; rw [if_pos h0, if_pos h1]
theorem repD_zero {n : Int} (h0 : 0 ≤ n) (h1 : n ≤ 16777216) : repD (.lst [.int 0]) (.int n) = some (.lst ((List.replicate n.toNat (0 : Int)).map .int)) := by
  rw [repD_ok h0 (by simp; omega) (by omega)]
  congr 2
  rw [List.map_replicate]
  generalize n.toNat = k
  induction k with
  | zero => rfl
  | succ k ih => rw [List.replicate_succ, List.flatten_cons, ih, List.replicate_succ]; rfl
end K26

set_option Elab.async false
set_option linter.all false
set_option maxRecDepth 100000
set_option maxHeartbeats 1000000
namespace K26
open PySem PySem.Spec PyProof.Rows L2 PT
local macro_rules | `(tactic| walk_at "wp1") => `(tactic| try simp only [fv_run, EV_ok, EV_bind, EV_lift, AV_ok, ev_var, ev_c, ev_bin, ev_un, ev_and, ev_or, ev_not, ev_if, ev_tup, ev_lst, ev_fn, av_nil, av_cons, av_kn, av_kd, av_ko, av_ks, ev_call, ev_make, ev_oix, ev_sl, ev_sl3, ev_part_n, ev_part_s, ev_chain, ev_callO, ev_binO, sv_nil, sv_seq, sv_expr, sv_set, sv_ret, sv_retN, sv_if, sv_par, sv_asg, sv_app, sv_raise, sv_oset, sv_aug, sv_fldO, sv_brk, sv_cont, iv_seq, iv_range1, iv_range2, iv_range3, iv_enu, iv_zp2, iv_zp3, sv_forget, sv_for, ev_lc, TV_eq, OV_some, SV_nx, SV_rt, SV_bk, SV_ct, SV_exc, has_s, has_z, atL_s, atL_z, ownI, ownB, putB, back, setE,
  addD_int, subD_int, negD_int, ltD_int, leD_int, gtD_int, geD_int, eqD_int, neD_int, eqD_bl, neD_bl, lenD_lst, lenD_tup, lenD_scr, absD_int, PT.intD_int, intD_bl, max2D_int, min2D_int, max3D_int, listD_lst, listD_tup, tupleD_lst, tupleD_tup, addI_int, subI_int, ixD_lst, ixD_tup, ixD_scr, atI0, atI1, atI2, atI3, ixN2_0, ixN2_1, cut1, mulD_l, mulD_r, modD_int, powD_int, divD_small, Int.reduceNeg, Int.reducePow, Int.reduceLT, Int.reduceLE, Int.reduceAdd, D.scal, D.isNon, itemsOf, Pat.put, Pat.puts, Option.bind_some,
  List.map_cons, List.map_nil, List.cons_append, List.nil_append, List.append_nil, List.length_cons, List.length_nil, List.replicate_succ, List.replicate_zero, List.getElem?_cons_zero, List.getElem?_cons_succ, List.set_cons_zero, List.set_cons_succ, Nat.reduceAdd, Nat.reduceSub, Option.map_some, Option.map_none, if_true, if_false, Bool.false_eq_true, reduceIte, true_and, Bool.not_true, Bool.not_false])
local macro_rules | `(tactic| walk_at "wp") => `(tactic| (walk_at "wp1"; repeat (with_reducible refine sv_go ?_; walk_at "wp1")))
def told : D → D
  | .tup [.int p, .int s, .int q, .int t] => if q < p then .tup [.int q, .int t, .int p, .int s] else .tup [.int p, .int s, .int q, .int t]
  | d => d
theorem enumL_lst {L : List D} : enumL [.lst L] = some (enumD L) := rfl
theorem enumL_tup {L : List D} : enumL [.tup L] = some (enumD L) := rfl
theorem enum_get {L : List D} {i : Nat} {d : D} (h : (enumD L)[i]? = some d) : ∃ x, L[i]? = some x ∧ d = .tup [.int (i : Nat), x] := by
  unfold enumD at h
  rw [List.getElem?_zipWith] at h
  cases e : L[i]? with
  | none => rw [e] at h; simp at h
  | some x =>
    rw [e] at h
    have hi : i < L.length := by
      rcases Nat.lt_or_ge i L.length with z | z
      · exact z
      · rw [List.getElem?_eq_none z] at e; cases e
    rw [List.getElem?_range hi] at h
    simp at h
    exact ⟨x, rfl, h.symm⟩
theorem enum_len {L : List D} : (enumD L).length = L.length := by simp [enumD]
theorem TieOk.told {n : Int} {d : D} (h : TieOk n d) : TieOk n (told d) := by
  cases h with
  | one p s a b c => exact .one p s a b c
  | two p s u t p0 p1 u0 u1 ne hs ht =>
    by_cases c : u < p
    · simp only [K26.told, if_pos c]; exact .two u t p s u0 u1 p0 p1 (Ne.symm ne) ht hs
    · simp only [K26.told, if_neg c]; exact .two p s u t p0 p1 u0 u1 ne hs ht
theorem cut63 {ns : List Int} : ∃ l : List Int, slD (.scr (ns.map .int)) none (some 63) = some (.lst (l.map .int)) ∧ l.length ≤ 63 := by
  refine ⟨ns.take (HT.sIx ns.length ns.length (some 63)), ?_, ?_⟩
  · show some (D.lst (cutG (ns.map .int) none (some 63))) = _
    unfold cutG
    rw [List.length_map, List.map_take]; rfl
  · have e : HT.sIx ns.length ns.length (some 63) = min 63 ns.length := by
      show (if (63 : Int) < 0 then ((63 : Int) + (ns.length : Int)).toNat else min (63 : Int).toNat ns.length) = _
      rw [if_neg (by decide)]; rfl
    rw [e, List.length_take]; omega
theorem box_wp {ns : List Int} {Q : D → List D → Prop} {X : Str → List (Str × D) → List D → Prop} (q : ∀ d' : D, Bx d' → Q d' [.scr (ns.map .int)]) : FV (f__law_box [.scr (ns.map .int)]) Q X := by
  unfold f__law_box b__law_box t__law_box
  walk_at "wp"
  obtain ⟨l, e, hl⟩ := cut63 (ns := ns)
  simp only [e]
  walk_at "wp"
  simp only [enumL_lst]
  walk_at "wp"
  refine forL_wp (fun i e => ∃ (cs : List Int) (s : Int) (x3 x4 x5 : Option D), cs.length ≤ i ∧ e = [some (.scr (ns.map .int)), some (.lst (cs.map .int)), some (.int s), x3, x4, x5]) 0 ⟨[], _, _, _, _, by simp, rfl⟩ ?_ ?_
  · rintro i x e hx ⟨cs, s, x3, x4, x5, hc, rfl⟩
    have hil : i < l.length := by
      rcases Nat.lt_or_ge i l.length with h | h
      · exact h
      · rw [List.getElem?_eq_none (by rw [enum_len, List.length_map]; exact h)] at hx; cases hx
    obtain ⟨y, hy, rfl⟩ := enum_get hx
    rw [List.getElem?_map] at hy
    obtain ⟨c, _, rfl⟩ := Option.map_eq_some_iff.mp hy
    have key : ∀ v : Int, mulD (.int (v % 2147483629)) (.int (2 * (i : Int) + 69621)) = some (.int (v % 2147483629 * (2 * (i : Int) + 69621))) := fun v => by
      have h0 := Int.emod_nonneg v (show (2147483629 : Int) ≠ 0 by decide)
      have h1 := Int.emod_lt_of_pos v (show (0 : Int) < 2147483629 by decide)
      exact mulD_l (by omega) (by omega)
    walk_at "wp"
    simp only [pow18]
    walk_at "wp"
    refine ite_one (fun c1 => ?_) fun c1 => ?_
    · walk_at "wp"
      refine ⟨by simp; omega, ?_⟩
      walk_at "wp"
      simp only [key]
      walk_at "wp"
      exact ⟨cs ++ [if c < 0 then -c else c], _, _, _, _, by simp; omega, by rw [List.map_append]; rfl⟩
    · walk_at "wp"
      simp only [key]
      walk_at "wp"
      exact ⟨cs, _, _, _, _, by omega, rfl⟩
  · rintro e ⟨cs, s, x3, x4, x5, hc, rfl⟩
    rw [enum_len, List.length_map] at hc
    walk_at "wp"
    exact q _ ⟨cs, s, by omega, rfl⟩
theorem scales_wp {d : D} {Q : D → List D → Prop} {X : Str → List (Str × D) → List D → Prop} (hb : Bx d) (q : ∀ (p t l : Int) (d' : D), (1 ≤ p ∧ p ≤ 24 ∧ 0 ≤ t ∧ t ≤ 40 ∧ 0 ≤ l ∧ l ≤ 9) ∨ (p = 150 ∧ t = 300 ∧ l = 60) → Bx d' → Q (.tup [.int p, .int t, .int l]) [d']) : FV (f__law_scales [d]) Q X := by
  unfold f__law_scales b__law_scales t__law_scales
  walk_at "wp"
  refine take_wp hb (by omega) (by omega) fun r d1 r0 r1 hb1 => ?_
  walk_at "wp"
  refine ite_one (fun c1 => ?_) fun c1 => ?_
  · walk_at "wp"
    exact q _ _ _ _ (.inr ⟨rfl, rfl, rfl⟩) hb1
  · walk_at "wp"
    refine pick_wp hb1 (by simp) (by simp) fun x d2 hx hb2 => ?_
    simp only [List.mem_cons, List.not_mem_nil, or_false] at hx
    rcases hx with rfl | rfl | rfl | rfl | rfl | rfl
    all_goals
      walk_at "wp"
      exact q _ _ _ _ (.inl (by decide)) hb2
theorem tie_wp {d : D} {n m v : Int} {Q : D → List D → Prop} {X : Str → List (Str × D) → List D → Prop} (hb : Bx d) (h1 : 2 ≤ n) (h2 : n ≤ 1000) (m0 : 1 ≤ m) (m1 : m ≤ n - 1) (q : ∀ (t d' : D), TieOk n t → Bx d' → Q t [d', .int n, .int m, .int v]) : FV (f__law_tie [d, .int n, .int m, .int v]) Q X := by
  unfold f__law_tie b__law_tie t__law_tie
  walk_at "wp"
  refine take_wp hb (by omega) (by omega) fun a d1 a0 a1 hb1 => ?_
  walk_at "wp"
  refine sign_wp hb1 fun s d2 hs hb2 => ?_
  walk_at "wp"
  refine take_wp hb2 (by omega) (by omega) fun r d3 r0 r1 hb3 => ?_
  walk_at "wp"
  have e2 : ∀ x : Int, modD (.int x) (.int n) = some (.int (x % n)) := fun x => modD_int (by omega)
  simp only [e2]
  walk_at "wp"
  refine take_wp hb3 (by omega) (by omega) fun r4 d4 _ _ hb4 => ?_
  walk_at "wp"
  have g0 := Int.emod_nonneg (a + 1 + r) (show n ≠ 0 by omega)
  have g1 := Int.emod_lt_of_pos (a + 1 + r) (show 0 < n by omega)
  refine ite_one (fun c1 => ?_) fun c1 => ?_
  · walk_at "wp"
    exact q _ _ (.two _ _ _ _ a0 a1 g0 g1 (mod_ne a0 a1 r0 (by omega)) hs hs) hb4
  · walk_at "wp"
    exact q _ _ (.two _ _ _ _ a0 a1 g0 g1 (mod_ne a0 a1 r0 (by omega)) hs (by omega)) hb4
theorem web_wp {d : D} {n t l : Int} {Q : D → List D → Prop} {X : Str → List (Str × D) → List D → Prop} (hb : Bx d) (h1 : 1 ≤ n) (h2 : n ≤ 1000) (t0 : 0 ≤ t) (t1 : t ≤ 1000) (l0 : 0 ≤ l) (l1 : l ≤ 1000) (q : ∀ (L : List D) (d' : D), (∀ x ∈ L, TieOk n x) → (L.length : Int) ≤ t + l → Bx d' → Q (.lst L) [d', .int n, .int t, .int l]) : FV (f__law_web [d, .int n, .int t, .int l]) Q X := by
  unfold f__law_web b__law_web t__law_web
  walk_at "wp"
  refine take_wp hb (by omega) (by omega) fun a d1 a0 a1 hb1 => ?_
  walk_at "wp"
  refine take_wp hb1 (by omega) (by omega) fun ev d2 _ _ hb2 => ?_
  walk_at "wp"
  obtain ⟨nr, hnr⟩ : ∃ nr, nr = 1 + a := ⟨_, rfl⟩
  rw [← hnr]
  refine ite_one (fun c => ?_) fun c => ?_
  · walk_at "wp"
    rw [rangeL1_ok (by omega) (by omega)]
    walk_at "wp"
    refine forL_wp (fun i e => ∃ (d' : D) (L : List D) (a b : Int) (x8 : Option D), Bx d' ∧ L.length = i ∧ (∀ x ∈ L, TieOk n x) ∧ 0 ≤ a ∧ 0 ≤ b ∧ a + b + i = t + l ∧ (0 < a → 2 ≤ n) ∧ e = [some d', some (.int n), some (.int t), some (.int l), some (.lst L), some (.int nr), some (.int ev), some (.lst [.int a, .int b]), x8]) 0 ⟨d2, [], _, _, _, hb2, rfl, by simp, t0, l0, by simp, fun _ => by omega, rfl⟩ ?_ ?_
    · rintro i x e hx ⟨d', L, a, b, x8, hb', hL, hT, ha, hbb, hab, h2n, rfl⟩
      obtain ⟨hi, rfl⟩ := range_get hx
      have pos : 0 < a + b := by omega
      have app : ∀ y : D, TieOk n y → (∀ x ∈ L ++ [y], TieOk n x) := fun y hy x hx => by
        rcases List.mem_append.mp hx with hx | hx
        · exact hT x hx
        · rw [List.mem_singleton.mp hx]; exact hy
      walk_at "wp"
      refine take_wp hb' pos (by omega) fun r d3 r0 r1 hb3 => ?_
      walk_at "wp"
      refine ite_one (fun c1 => ?_) fun c1 => ?_
      · walk_at "wp"
        refine take_wp hb3 (by omega) (by omega) fun p d4 p0 p1 hb4 => ?_
        walk_at "wp"
        refine sign_wp hb4 fun s d5 hs hb5 => ?_
        walk_at "wp"
        refine ⟨by omega, d5, L ++ [_], _, _, _, hb5, ?_, app _ (.one _ _ p0 p1 hs), ha, ?_, ?_, h2n, rfl⟩
        · rw [List.length_append, hL]; simp
        · omega
        · omega
      · walk_at "wp"
        refine tie_wp hb3 (h2n (by omega)) h2 (by omega) (by omega) fun y d4 hy hb4 => ?_
        walk_at "wp"
        refine ⟨by omega, d4, L ++ [_], _, _, _, hb4, ?_, app _ hy, ?_, hbb, ?_, fun h => h2n (by omega), rfl⟩
        · rw [List.length_append, hL]; simp
        · omega
        · omega
    · rintro e ⟨d', L, a, b, x8, hb', hL, hT, ha, hbb, hab, h2n, rfl⟩
      walk_at "wp"
      refine q _ _ hT ?_ hb'
      omega
  · walk_at "wp"
    rw [rangeL1_ok (by omega) (by omega)]
    walk_at "wp"
    refine forL_wp (fun i e => ∃ (d' : D) (L : List D) (a b : Int) (x8 : Option D), Bx d' ∧ L.length = i ∧ (∀ x ∈ L, TieOk n x) ∧ 0 ≤ a ∧ 0 ≤ b ∧ a + b + i = 0 + l ∧ (0 < a → 2 ≤ n) ∧ e = [some d', some (.int n), some (.int t), some (.int l), some (.lst L), some (.int nr), some (.int ev), some (.lst [.int a, .int b]), x8]) 0 ⟨d2, [], _, _, _, hb2, rfl, by simp, by omega, l0, by simp, fun h => by omega, rfl⟩ ?_ ?_
    · rintro i x e hx ⟨d', L, a, b, x8, hb', hL, hT, ha, hbb, hab, h2n, rfl⟩
      obtain ⟨hi, rfl⟩ := range_get hx
      have pos : 0 < a + b := by omega
      have app : ∀ y : D, TieOk n y → (∀ x ∈ L ++ [y], TieOk n x) := fun y hy x hx => by
        rcases List.mem_append.mp hx with hx | hx
        · exact hT x hx
        · rw [List.mem_singleton.mp hx]; exact hy
      walk_at "wp"
      refine take_wp hb' pos (by omega) fun r d3 r0 r1 hb3 => ?_
      walk_at "wp"
      refine ite_one (fun c1 => ?_) fun c1 => ?_
      · walk_at "wp"
        refine take_wp hb3 (by omega) (by omega) fun p d4 p0 p1 hb4 => ?_
        walk_at "wp"
        refine sign_wp hb4 fun s d5 hs hb5 => ?_
        walk_at "wp"
        refine ⟨by omega, d5, L ++ [_], _, _, _, hb5, ?_, app _ (.one _ _ p0 p1 hs), ha, ?_, ?_, h2n, rfl⟩
        · rw [List.length_append, hL]; simp
        · omega
        · omega
      · walk_at "wp"
        refine tie_wp hb3 (h2n (by omega)) h2 (by omega) (by omega) fun y d4 hy hb4 => ?_
        walk_at "wp"
        refine ⟨by omega, d4, L ++ [_], _, _, _, hb4, ?_, app _ hy, ?_, hbb, ?_, fun h => h2n (by omega), rfl⟩
        · rw [List.length_append, hL]; simp
        · omega
        · omega
    · rintro e ⟨d', L, a, b, x8, hb', hL, hT, ha, hbb, hab, h2n, rfl⟩
      walk_at "wp"
      refine q _ _ hT ?_ hb'
      omega
end K26

set_option Elab.async false
set_option linter.all false
set_option maxRecDepth 100000
set_option maxHeartbeats 1000000
namespace K26
open PySem PySem.Spec PyProof.Rows L2 PT
local macro_rules | `(tactic| walk_at "wp1") => `(tactic| try simp only [fv_run, EV_ok, EV_bind, EV_lift, AV_ok, ev_var, ev_c, ev_bin, ev_un, ev_and, ev_or, ev_not, ev_if, ev_tup, ev_lst, ev_fn, av_nil, av_cons, av_kn, av_kd, av_ko, av_ks, ev_call, ev_make, ev_oix, ev_sl, ev_sl3, ev_part_n, ev_part_s, ev_chain, ev_callO, ev_binO, sv_nil, sv_seq, sv_expr, sv_set, sv_ret, sv_retN, sv_if, sv_par, sv_asg, sv_app, sv_raise, sv_oset, sv_aug, sv_fldO, sv_brk, sv_cont, iv_seq, iv_range1, iv_range2, iv_range3, iv_enu, iv_zp2, iv_zp3, sv_forget, sv_for, ev_lc, TV_eq, OV_some, SV_nx, SV_rt, SV_bk, SV_ct, SV_exc, has_s, has_z, atL_s, atL_z, ownI, ownB, putB, back, setE,
  addD_int, subD_int, negD_int, ltD_int, leD_int, gtD_int, geD_int, eqD_int, neD_int, eqD_bl, neD_bl, lenD_lst, lenD_tup, lenD_scr, absD_int, PT.intD_int, intD_bl, max2D_int, min2D_int, max3D_int, listD_lst, listD_tup, tupleD_lst, tupleD_tup, addI_int, subI_int, ixD_lst, ixD_tup, ixD_scr, atI0, atI1, atI2, atI3, ixN2_0, ixN2_1, cut1, mulD_l, mulD_r, modD_int, powD_int, divD_small, Int.reduceNeg, Int.reducePow, Int.reduceLT, Int.reduceLE, Int.reduceAdd, D.scal, D.isNon, itemsOf, Pat.put, Pat.puts, Option.bind_some,
  List.map_cons, List.map_nil, List.cons_append, List.nil_append, List.append_nil, List.length_cons, List.length_nil, List.replicate_succ, List.replicate_zero, List.getElem?_cons_zero, List.getElem?_cons_succ, List.set_cons_zero, List.set_cons_succ, Nat.reduceAdd, Nat.reduceSub, Option.map_some, Option.map_none, if_true, if_false, Bool.false_eq_true, reduceIte, true_and, Bool.not_true, Bool.not_false])
local macro_rules | `(tactic| walk_at "wp") => `(tactic| (walk_at "wp1"; repeat (with_reducible refine sv_go ?_; walk_at "wp1")))
theorem set_get {L : List D} {k : Nat} {v : D} (h : k < L.length) : L.take k ++ [v] ++ L.drop (k + 1) = L.set k v := by
  rw [List.set_eq_take_append_cons_drop, if_pos h]
  simp
theorem sIx_pos {n d : Nat} {k : Int} (h0 : 0 ≤ k) (h1 : k ≤ n) : HT.sIx n d (some k) = k.toNat := by
  show (if k < 0 then (k + (n : Int)).toNat else min k.toNat n) = k.toNat
  rw [if_neg (by omega)]
  omega
theorem with_wp {S : D} {L : List D} {k : Int} {v : D} {Q : D → List D → Prop} {X : Str → List (Str × D) → List D → Prop} (hS : S = .lst L ∨ S = .tup L) (h0 : 0 ≤ k) (h1 : k < L.length) (h2 : L.length ≤ 100000) (q : Q (.tup (L.set k.toNat v)) [S, .int k, v]) : FV (f__law_with [S, .int k, v]) Q X := by
  have e1 : ∃ S', slD S none (some k) = some S' ∧ tupleD [S'] = some (.tup (L.take k.toNat)) := by
    have e : cutG L none (some k) = L.take k.toNat := by
      unfold cutG
      rw [sIx_pos h0 (by omega), HT.sIx_none]; rfl
    rcases hS with rfl | rfl
    · exact ⟨_, rfl, by rw [e]; rfl⟩
    · exact ⟨_, rfl, by rw [e]; rfl⟩
  have e2 : ∃ S', slD S (some (k + 1)) none = some S' ∧ tupleD [S'] = some (.tup (L.drop (k.toNat + 1))) := by
    have e : cutG L (some (k + 1)) none = L.drop (k.toNat + 1) := by
      unfold cutG
      rw [sIx_pos (by omega) (by omega), HT.sIx_none, show (k + 1).toNat = k.toNat + 1 from by omega]
      rw [List.take_of_length_le]
      rw [List.length_drop]; omega
    rcases hS with rfl | rfl
    · exact ⟨_, rfl, by rw [e]; rfl⟩
    · exact ⟨_, rfl, by rw [e]; rfl⟩
  obtain ⟨S1, e1, e1'⟩ := e1
  obtain ⟨S2, e2, e2'⟩ := e2
  unfold f__law_with b__law_with t__law_with
  walk_at "wp"
  simp only [e1]
  walk_at "wp"
  simp only [e1']
  walk_at "wp"
  rw [addD_tup (by simp; omega)]
  walk_at "wp"
  simp only [e2]
  walk_at "wp"
  simp only [e2']
  walk_at "wp"
  rw [addD_tup (by simp; omega)]
  walk_at "wp"
  rw [set_get (by omega)]
  exact q
theorem norm_wp {n : Int} {d : D} {Q : D → List D → Prop} {X : Str → List (Str × D) → List D → Prop} (h : TieOk n d) (q : Q (told d) [d]) : FV (f__law_norm [d]) Q X := by
  unfold f__law_norm b__law_norm t__law_norm
  cases h with
  | one p s p0 p1 hs =>
    walk_at "wp"
    exact q
  | two p s u t p0 p1 u0 u1 ne hs ht =>
    walk_at "wp"
    by_cases c : u < p
    · simp only [told, if_pos c] at q
      simp only [decide_eq_true c]
      walk_at "wp"
      exact q
    · simp only [told, if_neg c] at q
      simp only [decide_eq_false c]
      walk_at "wp"
      exact q
theorem signs_wp {d : D} {n : Int} {Q : D → List D → Prop} {X : Str → List (Str × D) → List D → Prop} (hb : Bx d) (n0 : 1 ≤ n) (n1 : n ≤ 1000) (q : ∀ (zs : List Int) (d' : D), (∀ z ∈ zs, Sg z) → (zs.length : Int) = n → Bx d' → Q (.tup (zs.map .int)) [d', .int n]) : FV (f__law_signs [d, .int n]) Q X := by
  unfold f__law_signs b__law_signs t__law_signs
  walk_at "wp"
  refine pick_wp hb (by simp) (by simp) fun x d1 hx hb1 => ?_
  have hx' : ∃ l : List D, x = .tup l ∧ 0 < l.length ∧ l.length < 100 ∧ ∀ y ∈ l, ∃ s : Int, y = .int s ∧ Sg s := by
    have s1 : Sg 1 := .inr (.inr rfl)
    have s0 : Sg 0 := .inr (.inl rfl)
    have sm : Sg (-1) := .inl rfl
    simp only [List.mem_cons, List.not_mem_nil, or_false] at hx
    rcases hx with rfl | rfl | rfl | rfl
    all_goals
      refine ⟨_, rfl, by simp, by simp, fun y hy => ?_⟩
      simp only [List.mem_cons, List.not_mem_nil, or_false] at hy
      rcases hy with rfl | rfl | rfl | rfl | rfl <;> exact ⟨_, rfl, by assumption⟩
  obtain ⟨l, rfl, l0, l1, hl⟩ := hx'
  walk_at "wp"
  rw [rangeL1_ok (by omega) (by omega)]
  walk_at "wp"
  refine lcL_wp (fun i acc e => ∃ (d' : D) (zs : List Int) (x3 : Option D), Bx d' ∧ zs.length = i ∧ (∀ z ∈ zs, Sg z) ∧ acc = zs.map .int ∧ e = [some d', some (.int n), some (.tup l), x3]) 0 ⟨d1, [], _, hb1, rfl, by simp, rfl, rfl⟩ (by simp) (by simp; omega) ?_ ?_
  · rintro i x acc e hx ⟨d', zs, x3, hb', hL, hT, rfl, rfl⟩
    simp only [wipeE]
    walk_at "wp"
    refine pickT_wp hb' l0 (by omega) fun y d'' hy hb'' => ?_
    obtain ⟨s, rfl, hs⟩ := hl y hy
    walk_at "wp"
    refine ⟨d'', zs ++ [s], _, hb'', by rw [List.length_append, hL]; simp, fun z hz => ?_, by simp, rfl⟩
    rcases List.mem_append.mp hz with hz | hz
    · exact hT z hz
    · rw [List.mem_singleton.mp hz]; exact hs
  · rintro acc e ⟨d', zs, x3, hb', hL, hT, rfl, rfl⟩
    rw [List.length_map, List.length_range, Nat.zero_add] at hL
    simp only [unwipe]
    walk_at "wp"
    exact q _ _ hT (by omega) hb'
/-- bounds round drawn numbers -/
def FullAt (B : List D) (zs hs : List Int) (j : Nat) : Prop := ∃ a b z h : Int, B[j]? = some (.tup [.int a, .int b]) ∧ zs[j]? = some z ∧ hs[j]? = some h ∧ a ≤ b ∧ 2 * a ≤ z ∧ z ≤ 2 * b ∧ (z - h) % 2 = 0 ∧ -9000000000000000000 ≤ z ∧ z ≤ 9000000000000000000
theorem full_wp {d : D} {T : List D} {m : Int} {hs : List Int} {Q : D → List D → Prop} {X : Str → List (Str × D) → List D → Prop} (hb : Bx d) (m0 : 0 ≤ m) (m1 : m ≤ 10 ^ 18) (hT : T.length ≤ 2000) (hl : hs.length = T.length) (hh : ∀ h ∈ hs, 0 ≤ h ∧ h ≤ 1) (q : ∀ (B : List D) (zs : List Int) (d' : D), B.length = T.length → zs.length = T.length → (∀ j < T.length, FullAt B zs hs j) → Bx d' → Q (.tup [.lst B, .lst (zs.map .int)]) [d', .lst T, .int m, .lst (hs.map .int)]) : FV (f__law_full [d, .lst T, .int m, .lst (hs.map .int)]) Q X := by
  unfold f__law_full b__law_full t__law_full
  walk_at "wp"
  rw [rangeL1_ok (by omega) (by omega)]
  walk_at "wp"
  refine forL_wp (fun i e => ∃ (d' : D) (B : List D) (zs : List Int) (x6 x7 : Option D), Bx d' ∧ B.length = i ∧ zs.length = i ∧ (∀ j < i, FullAt B zs hs j) ∧ e = [some d', some (.lst T), some (.int m), some (.lst (hs.map .int)), some (.lst B), some (.lst (zs.map .int)), x6, x7]) 0 ⟨d, [], [], _, _, hb, rfl, rfl, by simp, rfl⟩ ?_ ?_
  · rintro i x e hx ⟨d', B, zs, x6, x7, hb', hB, hz, hF, rfl⟩
    obtain ⟨hi, rfl⟩ := range_get hx
    have hi : i < hs.length := by omega
    have e0 : L2.atI (hs.map D.int) (i : Int) = some (.int hs[i]) := by
      unfold L2.atI ixN
      rw [List.length_map, if_pos (by omega), if_pos (by omega)]
      show (hs.map D.int)[i]? = _
      rw [List.getElem?_map, List.getElem?_eq_getElem hi]; rfl
    have hhi := hh _ (List.getElem_mem hi)
    walk_at "wp"
    refine far_wp hb' m0 fun f d1 f0 f1 hb1 => ?_
    walk_at "wp"
    simp only [e0]
    walk_at "wp"
    refine amount_wp hb1 m0 fun a d2 a0 a1 hb2 => ?_
    walk_at "wp"
    refine amount_wp hb2 m0 fun b d3 b0 b1 hb3 => ?_
    walk_at "wp"
    refine ⟨by omega, ?_⟩
    walk_at "wp"
    refine ⟨by simp; omega, ?_⟩
    walk_at "wp"
    obtain ⟨z, hzd⟩ : ∃ z, z = 2 * f + hs[i] := ⟨_, rfl⟩
    rw [← hzd]
    have hB' : B.length = i := by omega
    have hz' : zs.length = i := by omega
    refine ⟨d3, B ++ [.tup [.int (z / 2 - a), .int (z / 2 + z % 2 + b)]], zs ++ [z], _, _, hb3, by simp; omega, by simp; omega, fun j hj => ?_, by rw [List.map_append]; rfl⟩
    rcases Nat.lt_or_ge j i with hji | hji
    · obtain ⟨a', b', z', h', g1, g2, g3, g⟩ := hF j (by omega)
      refine ⟨a', b', z', h', ?_, ?_, g3, g⟩
      · rw [List.getElem?_append_left (by omega)]; exact g1
      · rw [List.getElem?_append_left (by omega)]; exact g2
    · obtain rfl : j = i := by omega
      refine ⟨z / 2 - a, z / 2 + z % 2 + b, z, hs[j], ?_, ?_, List.getElem?_eq_getElem hi, ?_, ?_, ?_, ?_, ?_, ?_⟩
      · rw [List.getElem?_append_right (by omega), hB', Nat.sub_self]; rfl
      · rw [List.getElem?_append_right (by omega), hz', Nat.sub_self]; rfl
      all_goals omega
  · rintro e ⟨d', B, zs, x6, x7, hb', hB, hz, hF, rfl⟩
    rw [List.length_map, List.length_range, Nat.zero_add] at hB hz hF
    walk_at "wp"
    exact q _ _ _ (by omega) (by omega) (fun j hj => hF j (by omega)) hb'
end K26

set_option Elab.async false
set_option linter.all false
set_option maxRecDepth 100000
set_option maxHeartbeats 1000000
namespace K26
open PySem PySem.Spec PyProof.Rows L2 PT
local macro_rules | `(tactic| walk_at "wp1") => `(tactic| try simp only [fv_run, EV_ok, EV_bind, EV_lift, AV_ok, ev_var, ev_c, ev_bin, ev_un, ev_and, ev_or, ev_not, ev_if, ev_tup, ev_lst, ev_fn, av_nil, av_cons, av_kn, av_kd, av_ko, av_ks, ev_call, ev_make, ev_oix, ev_sl, ev_sl3, ev_part_n, ev_part_s, ev_chain, ev_callO, ev_binO, sv_nil, sv_seq, sv_expr, sv_set, sv_ret, sv_retN, sv_if, sv_par, sv_asg, sv_app, sv_raise, sv_oset, sv_aug, sv_fldO, sv_brk, sv_cont, iv_seq, iv_range1, iv_range2, iv_range3, iv_enu, iv_zp2, iv_zp3, sv_forget, sv_for, ev_lc, TV_eq, OV_some, SV_nx, SV_rt, SV_bk, SV_ct, SV_exc, has_s, has_z, atL_s, atL_z, ownI, ownB, putB, back, setE,
  addD_int, subD_int, negD_int, ltD_int, leD_int, gtD_int, geD_int, eqD_int, neD_int, eqD_bl, neD_bl, lenD_lst, lenD_tup, lenD_scr, absD_int, PT.intD_int, intD_bl, max2D_int, min2D_int, max3D_int, listD_lst, listD_tup, tupleD_lst, tupleD_tup, addI_int, subI_int, ixD_lst, ixD_tup, ixD_scr, atI0, atI1, atI2, atI3, ixN2_0, ixN2_1, cut1, mulD_l, mulD_r, modD_int, powD_int, divD_small, Int.reduceNeg, Int.reducePow, Int.reduceLT, Int.reduceLE, Int.reduceAdd, D.scal, D.isNon, itemsOf, Pat.put, Pat.puts, Option.bind_some,
  List.map_cons, List.map_nil, List.cons_append, List.nil_append, List.append_nil, List.length_cons, List.length_nil, List.replicate_succ, List.replicate_zero, List.getElem?_cons_zero, List.getElem?_cons_succ, List.set_cons_zero, List.set_cons_succ, Nat.reduceAdd, Nat.reduceSub, Option.map_some, Option.map_none, if_true, if_false, Bool.false_eq_true, reduceIte, true_and, Bool.not_true, Bool.not_false])
local macro_rules | `(tactic| walk_at "wp") => `(tactic| (walk_at "wp1"; repeat (with_reducible refine sv_go ?_; walk_at "wp1")))
def ind (a x : Int) : Int := if a = x then 1 else 0
def cnt : D → Int → Int
  | .tup [.int p, .int _], x => ind p x
  | .tup [.int p, .int _, .int q, .int _], x => ind p x + ind q x
  | _, _ => 0
def cntL (L : List D) (x : Int) : Int := (L.map fun d => cnt d x).sum
theorem cntL_snoc {L : List D} {y : D} {x : Int} : cntL (L ++ [y]) x = cntL L x + cnt y x := by simp [cntL]
def rwk (st n : Int) (k : Nat) : Int := (st + (k : Int)) % n
theorem rwk_ne {st n : Int} {a b : Nat} (h : a < b) (hb : (b : Int) - a < n) : rwk st n a ≠ rwk st n b := fun e => by
  have h1 := Int.emod_eq_emod_iff_emod_sub_eq_zero.mp e
  have h2 : (st + (b : Int) - (st + (a : Int))) % n = 0 := Int.emod_eq_emod_iff_emod_sub_eq_zero.mp e.symm
  rw [show st + (b : Int) - (st + (a : Int)) = (b : Int) - a from by omega, Int.emod_eq_of_lt (by omega) (by omega)] at h2
  omega
structure RingOk (n : Int) (L : List D) : Prop where
  len : L.length ≤ 8
  tie : ∀ x ∈ L, TieOk n x
  ev : ∀ x, cntL L x % 2 = 0
theorem row_at {f : Nat → D} {m : Nat} {k : Int} (h0 : 0 ≤ k) (h1 : k < m) : L2.atI ((List.range m).map f) k = some (f k.toNat) := by
  have h : k.toNat < m := by omega
  unfold L2.atI ixN
  rw [List.length_map, List.length_range, if_pos h0, if_pos h1]
  show ((List.range m).map f)[k.toNat]? = _
  rw [List.getElem?_map, List.getElem?_range h]; rfl
theorem rings_wp {d : D} {n m : Int} {Q : D → List D → Prop} {X : Str → List (Str × D) → List D → Prop} (hb : Bx d) (n0 : 1 ≤ n) (n1 : n ≤ 1000) (m0 : 0 ≤ m) (m1 : m ≤ 20) (q : ∀ (R : List D) (d' : D), R.length ≤ 20 → (∀ r ∈ R, ∃ L, r = .lst L ∧ RingOk n L) → Bx d' → Q (.lst R) [d', .int n, .int m]) : FV (f__law_rings [d, .int n, .int m]) Q X := by
  unfold f__law_rings b__law_rings t__law_rings
  walk_at "wp"
  refine ite_one (fun c => ?_) fun c => ?_
  · walk_at "wp"
    rw [rangeL1_ok (by omega) (by omega)]
    walk_at "wp"
    refine forL_wp (fun i e => ∃ (d' : D) (R : List D) (x4 x5 x6 x7 x8 x9 : Option D), Bx d' ∧ R.length = i ∧ (∀ r ∈ R, ∃ L, r = .lst L ∧ RingOk n L) ∧ e = [some d', some (.int n), some (.int m), some (.lst R), x4, x5, x6, x7, x8, x9]) 0 ⟨d, [], _, _, _, _, _, _, hb, rfl, by simp, rfl⟩ ?_ ?_
    · rintro i x e hx ⟨d', R, x4, x5, x6, x7, x8, x9, hb', hR, hT, rfl⟩
      obtain ⟨hi, rfl⟩ := range_get hx
      walk_at "wp"
      refine take_wp hb' (by omega) (by omega) fun st d1 s0 s1 hb1 => ?_
      walk_at "wp"
      refine take_wp hb1 (by omega) (by omega) fun r d2 r0 r1 hb2 => ?_
      walk_at "wp"
      obtain ⟨len, hlen⟩ : ∃ len : Nat, (len : Int) = 2 + r := ⟨(2 + r).toNat, by omega⟩
      rw [← hlen]
      rw [rangeL1_ok (by omega) (by omega)]
      walk_at "wp"
      have e2 : ∀ x : Int, modD (.int x) (.int n) = some (.int (x % n)) := fun x => modD_int (by omega)
      have e3 : ∀ x : Int, modD (.int x) (.int (len : Int)) = some (.int (x % (len : Int))) := fun x => modD_int (by omega)
      refine lcL_wp (fun i' acc e => ∃ (y7 : Option D), acc = (List.range i').map (fun k => .int (rwk st n k)) ∧ e = [some d2, some (.int n), some (.int m), some (.lst R), some (.int (i : Nat)), some (.int st), some (.int (len : Int)), y7, x8, none]) 0 ⟨_, rfl, rfl⟩ (by simp) (by simp; omega) ?_ ?_
      · rintro i' x acc e hx ⟨y7, rfl, rfl⟩
        obtain ⟨hi', rfl⟩ := range_get hx
        simp only [wipeE]
        walk_at "wp"
        simp only [e2]
        walk_at "wp"
        refine ⟨_, ?_, rfl⟩
        rw [Nat.zero_add, List.range_succ, List.map_append]; rfl
      · rintro acc e ⟨y7, rfl, rfl⟩
        simp only [unwipe]
        rw [List.length_map, List.length_range, Nat.zero_add, Int.toNat_natCast]
        walk_at "wp"
        rw [rangeL1_ok (by omega) (by omega)]
        walk_at "wp"
        refine forL_wp (fun i' e => ∃ (d'' : D) (L : List D) (x7 : Option D), Bx d'' ∧ L.length = i' ∧ (∀ x ∈ L, TieOk n x) ∧ (∀ x, ∃ c, cntL L x = 2 * c - ind (rwk st n 0) x + ind (rwk st n (i' % len)) x) ∧ e = [some d'', some (.int n), some (.int m), some (.lst R), some (.int (i : Nat)), some (.int st), some (.int (len : Int)), x7, some (.lst ((List.range len).map fun k => .int (rwk st n k))), some (.lst L)]) 0 ⟨d2, [], _, hb2, rfl, by simp, fun x => ⟨0, by simp [cntL]; omega⟩, rfl⟩ ?_ ?_
        · rintro i' x e hx ⟨d'', L, x7, hb'', hL, hTL, hc, rfl⟩
          obtain ⟨hi', rfl⟩ := range_get hx
          have hi' : i' < len := by omega
          have hm : ((i' : Int) + 1) % (len : Int) = (((i' + 1) % len : Nat) : Int) := by
            rw [Int.natCast_emod]; rfl
          have hm2 : (i' + 1) % len < len := Nat.mod_lt _ (by omega)
          walk_at "wp"
          simp only [row_at (f := fun k => D.int (rwk st n k)) (m := len) (k := (i' : Int)) (by omega) (by omega)]
          walk_at "wp"
          refine sign_wp hb'' fun sa d3 hsa hb3 => ?_
          walk_at "wp"
          simp only [e3, hm]
          walk_at "wp"
          simp only [row_at (f := fun k => D.int (rwk st n k)) (m := len) (k := (((i' + 1) % len : Nat) : Int)) (by omega) (by omega)]
          walk_at "wp"
          refine sign_wp hb3 fun sb d4 hsb hb4 => ?_
          walk_at "wp"
          simp only [Int.toNat_natCast]
          refine ⟨by omega, d4, L ++ [.tup [.int (rwk st n i'), .int sa, .int (rwk st n ((i' + 1) % len)), .int sb]], _, hb4, by rw [List.length_append, hL]; simp, fun y hy => ?_, fun x => ?_, rfl⟩
          · rcases List.mem_append.mp hy with hy | hy
            · exact hTL y hy
            · rw [List.mem_singleton.mp hy]
              have bd : ∀ k, 0 ≤ rwk st n k ∧ rwk st n k < n := fun k => ⟨Int.emod_nonneg _ (by omega), Int.emod_lt_of_pos _ (by omega)⟩
              refine .two _ _ _ _ (bd _).1 (bd _).2 (bd _).1 (bd _).2 ?_ hsa hsb
              rcases Nat.lt_or_ge (i' + 1) len with h | h
              · rw [Nat.mod_eq_of_lt h]; exact rwk_ne (by omega) (by omega)
              · have : i' + 1 = len := by omega
                rw [this, Nat.mod_self]
                exact (rwk_ne (by omega) (by omega)).symm
          · obtain ⟨c, hc⟩ := hc x
            refine ⟨c + ind (rwk st n i') x, ?_⟩
            rw [cntL_snoc, hc, Nat.zero_add, Nat.mod_eq_of_lt hi']
            show _ + (ind (rwk st n i') x + ind (rwk st n ((i' + 1) % len)) x) = _
            omega
        · rintro e ⟨d'', L, x7, hb'', hL, hTL, hc, rfl⟩
          rw [List.length_map, List.length_range, Nat.zero_add, Int.toNat_natCast] at hL hc
          walk_at "wp"
          refine ⟨by omega, d'', R ++ [.lst L], _, _, _, _, _, _, hb'', by rw [List.length_append, hR]; simp, fun y hy => ?_, rfl⟩
          rcases List.mem_append.mp hy with hy | hy
          · exact hT y hy
          · refine ⟨L, List.mem_singleton.mp hy, ⟨by omega, hTL, fun x => ?_⟩⟩
            obtain ⟨c, hc⟩ := hc x
            rw [hc, Nat.mod_self]
            omega
    · rintro e ⟨d', R, x4, x5, x6, x7, x8, x9, hb', hR, hT, rfl⟩
      rw [List.length_map, List.length_range] at hR
      walk_at "wp"
      exact q _ _ (by omega) hT hb'
  · walk_at "wp"
    rw [rangeL1_ok (by omega) (by omega)]
    walk_at "wp"
    exact q _ _ (by simp) (by simp) hb
theorem cut_wp {d : D} {B : List D} {zs : List Int} {k : Int} {Q : D → List D → Prop} {X : Str → List (Str × D) → List D → Prop} (hb : Bx d) (h0 : 0 ≤ k) (h1 : k < B.length) (h2 : B.length ≤ 5000) (hz : zs.length = B.length) (hB : ∀ x ∈ B, BndOk x) (q : ∀ (B' : List D) (d' : D), B'.length = B.length → (∀ x ∈ B', BndOk x) → Bx d' → Q (.lst B') [d', .lst B, .lst (zs.map .int), .int k]) : FV (f__law_cut [d, .lst B, .lst (zs.map .int), .int k]) Q X := by
  unfold f__law_cut b__law_cut t__law_cut
  have hk : k.toNat < zs.length := by omega
  have hk2 : k.toNat < B.length := by omega
  have ez : L2.atI (zs.map D.int) k = some (.int zs[k.toNat]) := by
    unfold L2.atI ixN
    rw [List.length_map, if_pos h0, if_pos (by omega)]
    show (zs.map D.int)[k.toNat]? = _
    rw [List.getElem?_map, List.getElem?_eq_getElem hk]; rfl
  have eb : L2.atI B k = some B[k.toNat] := by
    unfold L2.atI ixN
    rw [if_pos h0, if_pos (by omega)]
    exact List.getElem?_eq_getElem hk2
  have hbb := hB _ (List.getElem_mem hk2)
  generalize B[k.toNat] = bd at eb hbb
  generalize zs[k.toNat] = z at ez
  cases hbb with
  | mk a b hab =>
    walk_at "wp"
    try simp only [ez, eb]
    walk_at "wp"
    try simp only [ez, eb]
    walk_at "wp"
    try simp only [ez, eb]
    walk_at "wp"
    try simp only [ez, eb]
    walk_at "wp"
    try simp only [ez, eb]
    walk_at "wp"
    refine pick_wp hb (by simp) (by simp) fun x d1 hx hb1 => ?_
    have hx' : BndOk x := by
      simp only [List.mem_cons, List.not_mem_nil, or_false] at hx
      rcases hx with rfl | rfl | rfl | rfl
      · exact .mk _ _ (by omega)
      · exact .mk _ _ (by omega)
      · exact .mk _ _ (by omega)
      · exact .mk _ _ (by omega)
    walk_at "wp"
    refine with_wp (.inl rfl) h0 h1 (by omega) ?_
    walk_at "wp"
    refine q _ _ (by simp) (fun y hy => ?_) hb1
    rcases List.mem_or_eq_of_mem_set hy with h | rfl
    · exact hB y h
    · exact hx'
end K26

set_option Elab.async false
set_option linter.all false
set_option maxRecDepth 100000
set_option maxHeartbeats 1000000
namespace K26
open PySem PySem.Spec PyProof.Rows L2 PT
local macro_rules | `(tactic| walk_at "wp1") => `(tactic| try simp only [fv_run, EV_ok, EV_bind, EV_lift, AV_ok, ev_var, ev_c, ev_bin, ev_un, ev_and, ev_or, ev_not, ev_if, ev_tup, ev_lst, ev_fn, av_nil, av_cons, av_kn, av_kd, av_ko, av_ks, ev_call, ev_make, ev_oix, ev_sl, ev_sl3, ev_part_n, ev_part_s, ev_chain, ev_callO, ev_binO, sv_nil, sv_seq, sv_expr, sv_set, sv_ret, sv_retN, sv_if, sv_par, sv_asg, sv_app, sv_raise, sv_oset, sv_aug, sv_fldO, sv_brk, sv_cont, iv_seq, iv_range1, iv_range2, iv_range3, iv_enu, iv_zp2, iv_zp3, sv_forget, sv_for, ev_lc, TV_eq, OV_some, SV_nx, SV_rt, SV_bk, SV_ct, SV_exc, has_s, has_z, atL_s, atL_z, ownI, ownB, putB, back, setE,
  addD_int, subD_int, negD_int, ltD_int, leD_int, gtD_int, geD_int, eqD_int, neD_int, eqD_bl, neD_bl, lenD_lst, lenD_tup, lenD_scr, absD_int, PT.intD_int, intD_bl, max2D_int, min2D_int, max3D_int, listD_lst, listD_tup, tupleD_lst, tupleD_tup, addI_int, subI_int, ixD_lst, ixD_tup, ixD_scr, atI0, atI1, atI2, atI3, ixN2_0, ixN2_1, cut1, mulD_l, mulD_r, modD_int, powD_int, divD_small, Int.reduceNeg, Int.reducePow, Int.reduceLT, Int.reduceLE, Int.reduceAdd, D.scal, D.isNon, itemsOf, Pat.put, Pat.puts, Option.bind_some,
  List.map_cons, List.map_nil, List.cons_append, List.nil_append, List.append_nil, List.length_cons, List.length_nil, List.replicate_succ, List.replicate_zero, List.getElem?_cons_zero, List.getElem?_cons_succ, List.set_cons_zero, List.set_cons_succ, Nat.reduceAdd, Nat.reduceSub, Option.map_some, Option.map_none, if_true, if_false, Bool.false_eq_true, reduceIte, true_and, Bool.not_true, Bool.not_false])
local macro_rules | `(tactic| walk_at "wp") => `(tactic| (walk_at "wp1"; repeat (with_reducible refine sv_go ?_; walk_at "wp1")))
theorem isi_ii {i : Int} : isiD' kitC kitX [.int i, .ty "int"] = some (.bl true) := rfl
theorem isi_ib {i : Int} : isiD' kitC kitX [.int i, .ty "bool"] = some (.bl false) := rfl
theorem isi_l {l : List D} : isiD' kitC kitX [.lst l, .tup [.ty "list", .ty "tuple"]] = some (.bl true) := rfl
theorem isi_t {l : List D} : isiD' kitC kitX [.tup l, .tup [.ty "list", .ty "tuple"]] = some (.bl true) := rfl
theorem is_integer_wp {i : Int} {Q : D → List D → Prop} {X : Str → List (Str × D) → List D → Prop} (q : Q (.bl true) [.int i]) : FV (f_is_integer [.int i]) Q X := by
  unfold f_is_integer b_is_integer t_is_integer
  walk_at "wp"
  simp only [isi_ii, isi_ib]
  walk_at "wp"
  exact q
theorem is_below_wp {i n : Int} {Q : D → List D → Prop} {X : Str → List (Str × D) → List D → Prop} (h0 : 0 ≤ i) (h1 : i < n) (q : Q (.bl true) [.int i, .int n]) : FV (f_is_below [.int i, .int n]) Q X := by
  unfold f_is_below b_is_below t_is_below
  walk_at "wp"
  refine is_integer_wp ?_
  walk_at "wp"
  simp only [decide_eq_true h0, decide_eq_true h1]
  exact q
theorem is_between_wp {i a b : Int} {Q : D → List D → Prop} {X : Str → List (Str × D) → List D → Prop} (h0 : a ≤ i) (h1 : i ≤ b) (q : Q (.bl true) [.int i, .int a, .int b]) : FV (f_is_between [.int i, .int a, .int b]) Q X := by
  unfold f_is_between b_is_between t_is_between
  walk_at "wp"
  refine is_integer_wp ?_
  walk_at "wp"
  simp only [decide_eq_true h0, decide_eq_true h1]
  exact q
def Sq2 (d : D) (l : List D) : Prop := d = .lst l ∨ d = .tup l
theorem is_sequence_wp {d : D} {l : List D} {Q : D → List D → Prop} {X : Str → List (Str × D) → List D → Prop} (h : Sq2 d l) (q : Q (.bl true) [d]) : FV (f_is_sequence [d]) Q X := by
  unfold f_is_sequence b_is_sequence t_is_sequence
  rcases h with rfl | rfl
  · walk_at "wp"
    simp only [isi_l]
    walk_at "wp"
    exact q
  · walk_at "wp"
    simp only [isi_t]
    walk_at "wp"
    exact q
theorem is_row_wp {d : D} {l : List D} {m : Int} {Q : D → List D → Prop} {X : Str → List (Str × D) → List D → Prop} (h : Sq2 d l) (q : Q (.bl (decide ((l.length : Int) = m))) [d, .int m]) : FV (f_is_row [d, .int m]) Q X := by
  unfold f_is_row b_is_row t_is_row
  walk_at "wp"
  refine is_sequence_wp h ?_
  rcases h with rfl | rfl
  · walk_at "wp"
    exact q
  · walk_at "wp"
    exact q
theorem is_sign_wp {i : Int} {Q : D → List D → Prop} {X : Str → List (Str × D) → List D → Prop} (h : i = 1 ∨ i = -1) (q : Q (.bl true) [.int i]) : FV (f_is_sign [.int i]) Q X := by
  unfold f_is_sign b_is_sign t_is_sign
  walk_at "wp"
  refine is_integer_wp ?_
  walk_at "wp"
  have e : inD (.int i) (.tup [.int 1, .int (-1)]) = some (.bl true) := by
    rcases h with rfl | rfl <;> rfl
  rw [e]
  exact q
theorem dc22 : decide (((2 : Nat) : Int) = 2) = true := by decide
theorem dc42 : decide (((4 : Nat) : Int) = 2) = false := by decide
theorem dc44 : decide (((4 : Nat) : Int) = 4) = true := by decide
theorem dc24 : decide (((2 : Nat) : Int) = 4) = false := by decide
theorem is_tie_wp {n : Int} {d : D} {Q : D → List D → Prop} {X : Str → List (Str × D) → List D → Prop} (h : TieOk n d) (q : Q (.bl true) [.int n, d]) : FV (f_is_tie [.int n, d]) Q X := by
  unfold f_is_tie b_is_tie t_is_tie
  cases h with
  | one p s p0 p1 hs =>
    walk_at "wp"
    refine is_row_wp (.inr rfl) ?_
    walk_at "wp"
    simp only [dc22]
    walk_at "wp"
    refine is_below_wp p0 p1 ?_
    walk_at "wp"
    refine is_sign_wp hs ?_
    walk_at "wp"
    exact q
  | two p s u t p0 p1 u0 u1 ne hs ht =>
    walk_at "wp"
    refine is_row_wp (.inr rfl) ?_
    walk_at "wp"
    simp only [dc42]
    walk_at "wp"
    refine is_row_wp (.inr rfl) ?_
    walk_at "wp"
    simp only [dc44]
    walk_at "wp"
    refine is_below_wp p0 p1 ?_
    walk_at "wp"
    refine is_sign_wp hs ?_
    walk_at "wp"
    refine is_below_wp u0 u1 ?_
    walk_at "wp"
    refine is_sign_wp ht ?_
    walk_at "wp"
    simp only [decide_eq_false ne]
    exact q
theorem told_tie_wp {n : Int} {d : D} {Q : D → List D → Prop} {X : Str → List (Str × D) → List D → Prop} (h : TieOk n d) (q : Q (told d) [d]) : FV (f_told_tie [d]) Q X := by
  unfold f_told_tie b_told_tie t_told_tie
  cases h with
  | one p s p0 p1 hs =>
    walk_at "wp"
    exact q
  | two p s u t p0 p1 u0 u1 ne hs ht =>
    walk_at "wp"
    by_cases c : u < p
    · simp only [told, if_pos c] at q
      simp only [decide_eq_true c]
      walk_at "wp"
      exact q
    · simp only [told, if_neg c] at q
      simp only [decide_eq_false c]
      walk_at "wp"
      exact q
theorem putD_nil {f : Str} {d : D} : putD f d [] = [(f, d)] := rfl
theorem Web_wp {n : Int} {L : List D} {S : D} {Q : D → List D → Prop} {X : Str → List (Str × D) → List D → Prop} (n0 : 1 ≤ n) (n1 : n ≤ 1000) (hT : ∀ x ∈ L, TieOk n x) (hl : L.length ≤ 3000) (hS : Sq2 S L) (q : Q .non [.obj "Web" [("points", .int n), ("ties", .tup (L.map told))], .int n, S]) : FV (f_Web_init [.obj "Web" [], .int n, S]) Q X := by
  have hlen : lenD [S] = some (.int L.length) := by rcases hS with rfl | rfl <;> rfl
  have hen : enumL [S] = some (enumD L) := by rcases hS with rfl | rfl <;> rfl
  unfold f_Web_init b_Web_init t_Web_init
  walk_at "wp"
  refine is_between_wp n0 n1 ?_
  walk_at "wp"
  refine is_sequence_wp hS ?_
  walk_at "wp"
  simp only [hlen]
  walk_at "wp"
  have c : ¬ (3000 : Int) < L.length := by omega
  simp only [decide_eq_false c]
  walk_at "wp"
  simp only [hen]
  walk_at "wp"
  refine forL_wp (fun i e => ∃ (x4 x5 : Option D), e = [some (.obj "Web" []), some (.int n), some S, some (.lst ((L.take i).map told)), x4, x5]) 0 ⟨_, _, rfl⟩ ?_ ?_
  · rintro i x e hx ⟨x4, x5, rfl⟩
    obtain ⟨y, hy, rfl⟩ := enum_get hx
    have hi : i < L.length := by
      rcases Nat.lt_or_ge i L.length with z | z
      · exact z
      · rw [List.getElem?_eq_none z] at hy; cases hy
    have hty := hT y (List.mem_of_getElem? hy)
    walk_at "wp"
    refine is_tie_wp hty ?_
    walk_at "wp"
    refine told_tie_wp hty ?_
    walk_at "wp"
    have et : (L.take (0 + i)).map told ++ [told y] = (L.take (0 + i + 1)).map told := by
      rw [Nat.zero_add, List.take_succ, hy]
      simp
    refine ⟨by simp; omega, some (.int (i : Nat)), some y, ?_⟩
    rw [et]
  · rintro e ⟨x4, x5, rfl⟩
    rw [enum_len, Nat.zero_add, List.take_length]
    walk_at "wp"
    refine ⟨by omega, ?_⟩
    walk_at "wp"
    refine ⟨by simp [putD], ?_⟩
    walk_at "wp"
    exact q
abbrev webD (n : Int) (T : List D) : D := .obj "Web" [("points", .int n), ("ties", .tup T)]
theorem isi_web {fs : List (Str × D)} : isiD' kitC kitX [.obj "Web" fs, .glo "Web"] = some (.bl true) := rfl
theorem isi_box {fs : List (Str × D)} : isiD' kitC kitX [.obj "Box" fs, .glo "Box"] = some (.bl true) := rfl
theorem fld_points {n : Int} {T : List D} : fldD ["Web"] "points" (webD n T) = some (.int n) := rfl
theorem fld_ties {n : Int} {T : List D} : fldD ["Web"] "ties" (webD n T) = some (.tup T) := rfl
theorem need_web_wp {n a : Int} {T : List D} {Q : D → List D → Prop} {X : Str → List (Str × D) → List D → Prop} (q : Q .non [webD n T, .int a]) : FV (f_need_web [webD n T, .int a]) Q X := by
  unfold f_need_web b_need_web t_need_web
  walk_at "wp"
  simp only [isi_web]
  walk_at "wp"
  exact q
theorem are_bounds_wp {d : D} {Q : D → List D → Prop} {X : Str → List (Str × D) → List D → Prop} (h : BndOk d) (q : Q (.bl true) [d]) : FV (f_are_bounds [d]) Q X := by
  unfold f_are_bounds b_are_bounds t_are_bounds
  cases h with
  | mk a b hab =>
    walk_at "wp"
    refine is_row_wp (.inr rfl) ?_
    walk_at "wp"
    simp only [dc22]
    walk_at "wp"
    refine is_integer_wp ?_
    walk_at "wp"
    refine is_integer_wp ?_
    walk_at "wp"
    simp only [decide_eq_true hab]
    exact q
abbrev boxD (B T : List D) : D := .obj "Box" [("bounds", .tup B), ("totals", .tup T)]
theorem Box_wp {n : Int} {T B : List D} {zs : List Int} {Q : D → List D → Prop} {X : Str → List (Str × D) → List D → Prop} (hl : B.length = T.length) (hB : ∀ x ∈ B, BndOk x) (hz : (zs.length : Int) = n) (hs : B.length ≤ 3000) (hn : n ≤ 2000) (q : Q .non [boxD B (zs.map .int), webD n T, .tup B, .tup (zs.map .int)]) : FV (f_Box_init [.obj "Box" [], webD n T, .tup B, .tup (zs.map .int)]) Q X := by
  unfold f_Box_init b_Box_init t_Box_init
  walk_at "wp"
  refine need_web_wp ?_
  walk_at "wp"
  simp only [fld_ties, fld_points]
  walk_at "wp"
  refine is_row_wp (.inr rfl) ?_
  walk_at "wp"
  have c1 : decide ((B.length : Int) = (T.length : Int)) = true := decide_eq_true (by rw [hl])
  simp only [c1]
  walk_at "wp"
  simp only [enumL_tup]
  walk_at "wp"
  refine forL_wp (fun i e => ∃ (x4 x5 : Option D), e = [some (.obj "Box" []), some (webD n T), some (.tup B), some (.tup (zs.map .int)), x4, x5, none, none, none]) 0 ⟨_, _, rfl⟩ ?_ ?_
  · rintro i x e hx ⟨x4, x5, rfl⟩
    obtain ⟨y, hy, rfl⟩ := enum_get hx
    walk_at "wp"
    refine are_bounds_wp (hB y (List.mem_of_getElem? hy)) ?_
    walk_at "wp"
    exact ⟨_, _, rfl⟩
  · rintro e ⟨x4, x5, rfl⟩
    walk_at "wp"
    simp only [fld_ties, fld_points]
    walk_at "wp"
    refine is_row_wp (.inr rfl) ?_
    walk_at "wp"
    have c2 : decide (((zs.map D.int).length : Int) = n) = true := decide_eq_true (by rw [List.length_map, hz])
    simp only [c2]
    walk_at "wp"
    simp only [enumL_tup]
    walk_at "wp"
    refine forL_wp (fun i e => ∃ (x4 x5 x6 : Option D), e = [some (.obj "Box" []), some (webD n T), some (.tup B), some (.tup (zs.map .int)), x4, x5, x6, none, none]) 0 ⟨_, _, _, rfl⟩ ?_ ?_
    · rintro i x e hx ⟨x4, x5, x6, rfl⟩
      obtain ⟨y, hy, rfl⟩ := enum_get hx
      obtain ⟨z, _, rfl⟩ := List.mem_map.mp (List.mem_of_getElem? hy)
      walk_at "wp"
      refine is_integer_wp ?_
      walk_at "wp"
      exact ⟨_, _, _, rfl⟩
    · rintro e ⟨x4, x5, x6, rfl⟩
      walk_at "wp"
      refine lcL_wp (fun i acc e => ∃ (x7 x8 : Option D), acc = B.take i ∧ e = [some (.obj "Box" []), some (webD n T), some (.tup B), some (.tup (zs.map .int)), x4, x5, x6, x7, x8]) 0 ⟨_, _, rfl, rfl⟩ (by simp) (by omega) ?_ ?_
      · rintro i x acc e hx ⟨x7, x8, rfl, rfl⟩
        have hx2 := hB x (List.mem_of_getElem? hx)
        cases hx2 with
        | mk a b hab =>
          simp only [wipeE]
          walk_at "wp"
          have et : B.take (0 + i) ++ [D.tup [.int a, .int b]] = B.take (0 + i + 1) := by
            rw [Nat.zero_add, List.take_succ, hx]; rfl
          exact ⟨some (.int a), some (.int b), et, rfl⟩
      · rintro acc e ⟨x7, x8, rfl, rfl⟩
        rw [Nat.zero_add, List.take_length]
        simp only [unwipe]
        walk_at "wp"
        refine ⟨by omega, ?_⟩
        walk_at "wp"
        refine ⟨by simp [putD], ?_⟩
        walk_at "wp"
        exact q
theorem fld_bounds {B T : List D} : fldD ["Box"] "bounds" (boxD B T) = some (.tup B) := rfl
theorem fld_totals {B T : List D} : fldD ["Box"] "totals" (boxD B T) = some (.tup T) := rfl
theorem need_box_wp {n : Int} {T B Z : List D} {Q : D → List D → Prop} {X : Str → List (Str × D) → List D → Prop} (hl : B.length = T.length) (hz : (Z.length : Int) = n) (q : Q .non [webD n T, boxD B Z]) : FV (f_need_box [webD n T, boxD B Z]) Q X := by
  unfold f_need_box b_need_box t_need_box
  walk_at "wp"
  refine need_web_wp ?_
  walk_at "wp"
  simp only [isi_box, fld_bounds, fld_totals, fld_ties, fld_points]
  walk_at "wp"
  have c1 : decide ((B.length : Int) = (T.length : Int)) = true := decide_eq_true (by rw [hl])
  have c2 : decide ((Z.length : Int) = n) = true := decide_eq_true hz
  simp only [c1, c2]
  walk_at "wp"
  exact q
def ends : D → List D
  | .tup [.int p, .int s] => [.tup [.int p, .int s]]
  | .tup [.int p, .int s, .int q, .int t] => [.tup [.int p, .int s], .tup [.int q, .int t]]
  | _ => []
theorem ends_at_wp {n : Int} {d : D} {Q : D → List D → Prop} {X : Str → List (Str × D) → List D → Prop} (h : TieOk n d) (q : Q (.tup (ends d)) [d]) : FV (f_ends_at [d]) Q X := by
  unfold f_ends_at b_ends_at t_ends_at
  cases h with
  | one p s p0 p1 hs =>
    walk_at "wp"
    simp only [Option.bind_some, show slD3 (.tup [.int p, .int s]) none none 2 = some (.tup [.int p]) from by kernel_rfl, show slD3 (.tup [.int p, .int s]) (some 1) none 2 = some (.tup [.int s]) from by kernel_rfl]
    walk_at "wp"
    simp only [show tzD [.tup [.int p], .tup [.int s]] = some (.tup [.tup [.int p, .int s]]) from by kernel_rfl]
    walk_at "wp"
    exact q
  | two p s u t p0 p1 u0 u1 ne hs ht =>
    walk_at "wp"
    simp only [Option.bind_some, show slD3 (.tup [.int p, .int s, .int u, .int t]) none none 2 = some (.tup [.int p, .int u]) from by kernel_rfl, show slD3 (.tup [.int p, .int s, .int u, .int t]) (some 1) none 2 = some (.tup [.int s, .int t]) from by kernel_rfl]
    walk_at "wp"
    simp only [show tzD [.tup [.int p, .int u], .tup [.int s, .int t]] = some (.tup [.tup [.int p, .int s], .tup [.int u, .int t]]) from by kernel_rfl]
    walk_at "wp"
    exact q
def gz (zs : List Int) (p : Int) : Int := (zs[p.toNat]?).getD 0
theorem atI_gz {zs : List Int} {p : Int} (h0 : 0 ≤ p) (h1 : p < zs.length) : atI (zs.map D.int) p = some (.int (gz zs p)) := by
  have h : p.toNat < zs.length := by omega
  unfold L2.atI ixN gz
  rw [List.length_map, if_pos h0, if_pos h1]
  show (zs.map D.int)[p.toNat]? = _
  rw [List.getElem?_map, List.getElem?_eq_getElem h]
  rfl
def pullI : D → List Int → Int
  | .tup [.int p, .int s], zs => s * gz zs p
  | .tup [.int p, .int s, .int q, .int t], zs => s * gz zs p + t * gz zs q
  | _, _ => 0
theorem sum1 {a : Int} : sumD [.lst [.int a]] = some (.int a) := by
  have := sumD_map [a]
  simpa using this
theorem sum2 {a b : Int} : sumD [.lst [.int a, .int b]] = some (.int (a + b)) := by
  have := sumD_map [a, b]
  simpa using this
theorem mulS {s : Int} (h : s = 1 ∨ s = -1) (x : Int) : mulD (.int s) (.int x) = some (.int (s * x)) := mulD_l (by omega) (by omega)
theorem pull_at_wp {n : Int} {d S : D} {zs : List Int} {Q : D → List D → Prop} {X : Str → List (Str × D) → List D → Prop} (h : TieOk n d) (hz : (zs.length : Int) = n) (hS : Sq2 S (zs.map .int)) (q : Q (.int (pullI d zs)) [d, S]) : FV (f_pull_at [d, S]) Q X := by
  have ix : ∀ p : Int, 0 ≤ p → p < n → ixD S (.int p) = some (.int (gz zs p)) := fun p h0 h1 => by
    rcases hS with rfl | rfl
    · exact atI_gz h0 (by omega)
    · exact atI_gz h0 (by omega)
  unfold f_pull_at b_pull_at t_pull_at
  cases h with
  | one p s p0 p1 hs =>
    walk_at "wp"
    refine ends_at_wp (.one p s p0 p1 hs) ?_
    simp only [ends]
    walk_at "wp"
    simp only [lcL_cons, lcL_nil, wipeE, unwipe]
    walk_at "wp"
    simp only [ix p p0 p1]
    walk_at "wp"
    simp only [mulS hs]
    walk_at "wp"
    simp only [sum1]
    exact ⟨by simp, q⟩
  | two p s u t p0 p1 u0 u1 ne hs ht =>
    walk_at "wp"
    refine ends_at_wp (.two p s u t p0 p1 u0 u1 ne hs ht) ?_
    simp only [ends]
    walk_at "wp"
    simp only [lcL_cons, lcL_nil, wipeE, unwipe]
    walk_at "wp"
    simp only [ix p p0 p1, ix u u0 u1]
    walk_at "wp"
    simp only [mulS hs, mulS ht]
    walk_at "wp"
    simp only [sum2]
    exact ⟨by simp, by simp, q⟩
def ba (B : List D) (j : Nat) : Int := match B[j]? with
  | some (.tup [.int a, .int _]) => a
  | _ => 0
def bb (B : List D) (j : Nat) : Int := match B[j]? with
  | some (.tup [.int _, .int b]) => b
  | _ => 0
def pl (T : List D) (zs : List Int) (j : Nat) : Int := match T[j]? with
  | some d => pullI d zs
  | none => 0
def hiN (T B : List D) (zs : List Int) : Nat → Int
  | 0 => 0
  | i + 1 => hiN T B zs i + max (pl T zs i * ba B i) (pl T zs i * bb B i)
def dotI (zs ts : List Int) : Int := (List.zipWith (· * ·) zs ts).sum
theorem zip_get {L M : List D} {i : Nat} {d : D} (h : (zip2D L M)[i]? = some d) : ∃ x y, L[i]? = some x ∧ M[i]? = some y ∧ d = .tup [x, y] := by
  unfold zip2D at h
  rw [List.getElem?_zipWith] at h
  cases e : L[i]? with
  | none => rw [e] at h; simp at h
  | some x =>
    cases e2 : M[i]? with
    | none => rw [e, e2] at h; simp at h
    | some y => rw [e, e2] at h; simp at h; exact ⟨x, y, rfl, rfl, h.symm⟩
theorem zip_len {L M : List D} (h : L.length = M.length) : (zip2D L M).length = L.length := by simp [zip2D, h]
theorem zip2L_ll {L M : List D} : zip2L [.lst L, .lst M] = some (zip2D L M) := rfl
theorem zip2L_lt {L M : List D} : zip2L [.lst L, .tup M] = some (zip2D L M) := rfl
theorem zip2L_tl {L M : List D} : zip2L [.tup L, .lst M] = some (zip2D L M) := rfl
theorem zip2L_tt {L M : List D} : zip2L [.tup L, .tup M] = some (zip2D L M) := rfl
theorem pull_small {n : Int} {d : D} {zs : List Int} (h : TieOk n d) (hs : ∀ z ∈ zs, Sg z) : -2 ≤ pullI d zs ∧ pullI d zs ≤ 2 := by
  have g : ∀ p : Int, gz zs p = -1 ∨ gz zs p = 0 ∨ gz zs p = 1 := fun p => by
    unfold gz
    cases e : zs[p.toNat]? with
    | none => exact .inr (.inl rfl)
    | some z => exact hs z (List.mem_of_getElem? e)
  cases h with
  | one p s a b c =>
    show -2 ≤ s * gz zs p ∧ s * gz zs p ≤ 2
    rcases c with rfl | rfl <;> rcases g p with h | h | h <;> rw [h] <;> decide
  | two p s u t p0 p1 u0 u1 ne hs ht =>
    show -2 ≤ s * gz zs p + t * gz zs u ∧ s * gz zs p + t * gz zs u ≤ 2
    rcases hs with rfl | rfl <;> rcases ht with rfl | rfl <;> rcases g p with h | h | h <;> rcases g u with h' | h' | h' <;> rw [h, h'] <;> decide
theorem dot_take {zs ts : List Int} {i : Nat} {z t : Int} (h1 : zs[i]? = some z) (h2 : ts[i]? = some t) : ((List.zipWith (· * ·) zs ts).take i).map D.int ++ [D.int (z * t)] = ((List.zipWith (· * ·) zs ts).take (i + 1)).map D.int := by
  rw [List.take_succ, List.getElem?_zipWith, h1, h2]
  simp
theorem signed_total_wp {n : Int} {zs ts : List Int} {Q : D → List D → Prop} {X : Str → List (Str × D) → List D → Prop} (hz : (zs.length : Int) = n) (ht : (ts.length : Int) = n) (hn : n ≤ 2000) (hs : ∀ z ∈ zs, Sg z) (q : Q (.int (dotI zs ts)) [.tup (ts.map .int), .tup (zs.map .int)]) : FV (f_signed_total [.tup (ts.map .int), .tup (zs.map .int)]) Q X := by
  unfold f_signed_total b_signed_total t_signed_total
  walk_at "wp"
  simp only [zip2L_tt]
  walk_at "wp"
  refine lcL_wp (fun i acc e => ∃ (y1 y2 : Option D), acc = ((List.zipWith (· * ·) zs ts).take i).map .int ∧ e = [some (.tup (ts.map .int)), some (.tup (zs.map .int)), y1, y2]) 0 ⟨_, _, rfl, rfl⟩ (by simp) ?_ ?_ ?_
  · rw [zip_len (by simp; omega)]; simp; omega
  · rintro i x acc e hx ⟨y1, y2, rfl, rfl⟩
    obtain ⟨z, t, e1, e2, rfl⟩ := zip_get hx
    rw [List.getElem?_map] at e1 e2
    obtain ⟨z, e8, rfl⟩ := Option.map_eq_some_iff.mp e1
    obtain ⟨t, e9, rfl⟩ := Option.map_eq_some_iff.mp e2
    simp only [wipeE]
    walk_at "wp"
    have eM : mulD (.int z) (.int t) = some (.int (z * t)) := by
      have : z = -1 ∨ z = 0 ∨ z = 1 := hs z (List.mem_of_getElem? e8)
      exact mulD_l (by omega) (by omega)
    simp only [eM]
    walk_at "wp"
    rw [Nat.zero_add]
    exact ⟨_, _, dot_take e8 e9, rfl⟩
  · rintro acc e ⟨y1, y2, rfl, rfl⟩
    have el : (zip2D (zs.map D.int) (ts.map D.int)).length = (List.zipWith (· * ·) zs ts).length := by simp [zip2D]
    rw [Nat.zero_add, el, List.take_length]
    simp only [unwipe, sumD_map]
    walk_at "wp"
    exact q
end K26

set_option Elab.async false
set_option linter.all false
set_option maxRecDepth 100000
set_option maxHeartbeats 1000000
namespace K26
open PySem PySem.Spec PyProof.Rows L2 PT
local macro_rules | `(tactic| walk_at "wp1") => `(tactic| try simp only [fv_run, EV_ok, EV_bind, EV_lift, AV_ok, ev_var, ev_c, ev_bin, ev_un, ev_and, ev_or, ev_not, ev_if, ev_tup, ev_lst, ev_fn, av_nil, av_cons, av_kn, av_kd, av_ko, av_ks, ev_call, ev_make, ev_oix, ev_sl, ev_sl3, ev_part_n, ev_part_s, ev_chain, ev_callO, ev_binO, sv_nil, sv_seq, sv_expr, sv_set, sv_ret, sv_retN, sv_if, sv_par, sv_asg, sv_app, sv_raise, sv_oset, sv_aug, sv_fldO, sv_brk, sv_cont, iv_seq, iv_range1, iv_range2, iv_range3, iv_enu, iv_zp2, iv_zp3, sv_forget, sv_for, ev_lc, TV_eq, OV_some, SV_nx, SV_rt, SV_bk, SV_ct, SV_exc, has_s, has_z, atL_s, atL_z, ownI, ownB, putB, back, setE,
  addD_int, subD_int, negD_int, ltD_int, leD_int, gtD_int, geD_int, eqD_int, neD_int, eqD_bl, neD_bl, lenD_lst, lenD_tup, lenD_scr, absD_int, PT.intD_int, intD_bl, max2D_int, min2D_int, max3D_int, listD_lst, listD_tup, tupleD_lst, tupleD_tup, addI_int, subI_int, ixD_lst, ixD_tup, ixD_scr, atI0, atI1, atI2, atI3, ixN2_0, ixN2_1, cut1, mulD_l, mulD_r, modD_int, powD_int, divD_small, Int.reduceNeg, Int.reducePow, Int.reduceLT, Int.reduceLE, Int.reduceAdd, D.scal, D.isNon, itemsOf, Pat.put, Pat.puts, Option.bind_some,
  List.map_cons, List.map_nil, List.cons_append, List.nil_append, List.append_nil, List.length_cons, List.length_nil, List.replicate_succ, List.replicate_zero, List.getElem?_cons_zero, List.getElem?_cons_succ, List.set_cons_zero, List.set_cons_succ, Nat.reduceAdd, Nat.reduceSub, Option.map_some, Option.map_none, if_true, if_false, Bool.false_eq_true, reduceIte, true_and, Bool.not_true, Bool.not_false])
local macro_rules | `(tactic| walk_at "wp") => `(tactic| (walk_at "wp1"; repeat (with_reducible refine sv_go ?_; walk_at "wp1")))
theorem q_n_tuple : isiD' kitC kitX [.non, .ty "tuple"] = some (.bl false) := rfl
theorem q_n_list : isiD' kitC kitX [.non, .ty "list"] = some (.bl false) := rfl
theorem q_n_bool : isiD' kitC kitX [.non, .ty "bool"] = some (.bl false) := rfl
theorem q_n_int : isiD' kitC kitX [.non, .ty "int"] = some (.bl false) := rfl
theorem q_n_str : isiD' kitC kitX [.non, .ty "str"] = some (.bl false) := rfl
theorem q_n_tl : isiD' kitC kitX [.non, .tup [.ty "tuple", .ty "list"]] = some (.bl false) := rfl
theorem q_n_lt : isiD' kitC kitX [.non, .tup [.ty "list", .ty "tuple"]] = some (.bl false) := rfl
theorem q_n_Web : isiD' kitC kitX [.non, .glo "Web"] = some (.bl false) := rfl
theorem q_n_Box : isiD' kitC kitX [.non, .glo "Box"] = some (.bl false) := rfl
theorem q_b_tuple {b : Bool} : isiD' kitC kitX [.bl b, .ty "tuple"] = some (.bl false) := rfl
theorem q_b_list {b : Bool} : isiD' kitC kitX [.bl b, .ty "list"] = some (.bl false) := rfl
theorem q_b_bool {b : Bool} : isiD' kitC kitX [.bl b, .ty "bool"] = some (.bl true) := rfl
theorem q_b_int {b : Bool} : isiD' kitC kitX [.bl b, .ty "int"] = some (.bl true) := rfl
theorem q_b_str {b : Bool} : isiD' kitC kitX [.bl b, .ty "str"] = some (.bl false) := rfl
theorem q_b_tl {b : Bool} : isiD' kitC kitX [.bl b, .tup [.ty "tuple", .ty "list"]] = some (.bl false) := rfl
theorem q_b_lt {b : Bool} : isiD' kitC kitX [.bl b, .tup [.ty "list", .ty "tuple"]] = some (.bl false) := rfl
theorem q_b_Web {b : Bool} : isiD' kitC kitX [.bl b, .glo "Web"] = some (.bl false) := rfl
theorem q_b_Box {b : Bool} : isiD' kitC kitX [.bl b, .glo "Box"] = some (.bl false) := rfl
theorem q_i_tuple {i : Int} : isiD' kitC kitX [.int i, .ty "tuple"] = some (.bl false) := rfl
theorem q_i_list {i : Int} : isiD' kitC kitX [.int i, .ty "list"] = some (.bl false) := rfl
theorem q_i_bool {i : Int} : isiD' kitC kitX [.int i, .ty "bool"] = some (.bl false) := rfl
theorem q_i_int {i : Int} : isiD' kitC kitX [.int i, .ty "int"] = some (.bl true) := rfl
theorem q_i_str {i : Int} : isiD' kitC kitX [.int i, .ty "str"] = some (.bl false) := rfl
theorem q_i_tl {i : Int} : isiD' kitC kitX [.int i, .tup [.ty "tuple", .ty "list"]] = some (.bl false) := rfl
theorem q_i_lt {i : Int} : isiD' kitC kitX [.int i, .tup [.ty "list", .ty "tuple"]] = some (.bl false) := rfl
theorem q_i_Web {i : Int} : isiD' kitC kitX [.int i, .glo "Web"] = some (.bl false) := rfl
theorem q_i_Box {i : Int} : isiD' kitC kitX [.int i, .glo "Box"] = some (.bl false) := rfl
theorem q_s_tuple {s : Str} : isiD' kitC kitX [.str s, .ty "tuple"] = some (.bl false) := rfl
theorem q_s_list {s : Str} : isiD' kitC kitX [.str s, .ty "list"] = some (.bl false) := rfl
theorem q_s_bool {s : Str} : isiD' kitC kitX [.str s, .ty "bool"] = some (.bl false) := rfl
theorem q_s_int {s : Str} : isiD' kitC kitX [.str s, .ty "int"] = some (.bl false) := rfl
theorem q_s_str {s : Str} : isiD' kitC kitX [.str s, .ty "str"] = some (.bl true) := rfl
theorem q_s_tl {s : Str} : isiD' kitC kitX [.str s, .tup [.ty "tuple", .ty "list"]] = some (.bl false) := rfl
theorem q_s_lt {s : Str} : isiD' kitC kitX [.str s, .tup [.ty "list", .ty "tuple"]] = some (.bl false) := rfl
theorem q_s_Web {s : Str} : isiD' kitC kitX [.str s, .glo "Web"] = some (.bl false) := rfl
theorem q_s_Box {s : Str} : isiD' kitC kitX [.str s, .glo "Box"] = some (.bl false) := rfl
theorem q_t_tuple {l : List D} : isiD' kitC kitX [.tup l, .ty "tuple"] = some (.bl true) := rfl
theorem q_t_list {l : List D} : isiD' kitC kitX [.tup l, .ty "list"] = some (.bl false) := rfl
theorem q_t_bool {l : List D} : isiD' kitC kitX [.tup l, .ty "bool"] = some (.bl false) := rfl
theorem q_t_int {l : List D} : isiD' kitC kitX [.tup l, .ty "int"] = some (.bl false) := rfl
theorem q_t_str {l : List D} : isiD' kitC kitX [.tup l, .ty "str"] = some (.bl false) := rfl
theorem q_t_tl {l : List D} : isiD' kitC kitX [.tup l, .tup [.ty "tuple", .ty "list"]] = some (.bl true) := rfl
theorem q_t_lt {l : List D} : isiD' kitC kitX [.tup l, .tup [.ty "list", .ty "tuple"]] = some (.bl true) := rfl
theorem q_t_Web {l : List D} : isiD' kitC kitX [.tup l, .glo "Web"] = some (.bl false) := rfl
theorem q_t_Box {l : List D} : isiD' kitC kitX [.tup l, .glo "Box"] = some (.bl false) := rfl
theorem q_l_tuple {l : List D} : isiD' kitC kitX [.lst l, .ty "tuple"] = some (.bl false) := rfl
theorem q_l_list {l : List D} : isiD' kitC kitX [.lst l, .ty "list"] = some (.bl true) := rfl
theorem q_l_bool {l : List D} : isiD' kitC kitX [.lst l, .ty "bool"] = some (.bl false) := rfl
theorem q_l_int {l : List D} : isiD' kitC kitX [.lst l, .ty "int"] = some (.bl false) := rfl
theorem q_l_str {l : List D} : isiD' kitC kitX [.lst l, .ty "str"] = some (.bl false) := rfl
theorem q_l_tl {l : List D} : isiD' kitC kitX [.lst l, .tup [.ty "tuple", .ty "list"]] = some (.bl true) := rfl
theorem q_l_lt {l : List D} : isiD' kitC kitX [.lst l, .tup [.ty "list", .ty "tuple"]] = some (.bl true) := rfl
theorem q_l_Web {l : List D} : isiD' kitC kitX [.lst l, .glo "Web"] = some (.bl false) := rfl
theorem q_l_Box {l : List D} : isiD' kitC kitX [.lst l, .glo "Box"] = some (.bl false) := rfl
theorem q_Web_Web {fs : List (Str × D)} : isiD' kitC kitX [.obj "Web" fs, .glo "Web"] = some (.bl true) := rfl
theorem q_Web_Box {fs : List (Str × D)} : isiD' kitC kitX [.obj "Web" fs, .glo "Box"] = some (.bl false) := rfl
theorem q_Web_lt {fs : List (Str × D)} : isiD' kitC kitX [.obj "Web" fs, .tup [.ty "list", .ty "tuple"]] = some (.bl false) := rfl
theorem q_Box_Web {fs : List (Str × D)} : isiD' kitC kitX [.obj "Box" fs, .glo "Web"] = some (.bl false) := rfl
theorem q_Box_Box {fs : List (Str × D)} : isiD' kitC kitX [.obj "Box" fs, .glo "Box"] = some (.bl true) := rfl
theorem q_Box_lt {fs : List (Str × D)} : isiD' kitC kitX [.obj "Box" fs, .tup [.ty "list", .ty "tuple"]] = some (.bl false) := rfl
local macro_rules | `(tactic| walk_at "wq") => `(tactic| (walk_at "wp"; repeat (simp only [q_n_tuple, q_n_list, q_n_bool, q_n_int, q_n_str, q_n_tl, q_n_lt, q_n_Web, q_n_Box, q_b_tuple, q_b_list, q_b_bool, q_b_int, q_b_str, q_b_tl, q_b_lt, q_b_Web, q_b_Box, q_i_tuple, q_i_list, q_i_bool, q_i_int, q_i_str, q_i_tl, q_i_lt, q_i_Web, q_i_Box, q_s_tuple, q_s_list, q_s_bool, q_s_int, q_s_str, q_s_tl, q_s_lt, q_s_Web, q_s_Box, q_t_tuple, q_t_list, q_t_bool, q_t_int, q_t_str, q_t_tl, q_t_lt, q_t_Web, q_t_Box, q_l_tuple, q_l_list, q_l_bool, q_l_int, q_l_str, q_l_tl, q_l_lt, q_l_Web, q_l_Box, q_Web_Web, q_Web_Box, q_Web_lt, q_Box_Web, q_Box_Box, q_Box_lt, beq_self_eq_true, Bool.not_true, Bool.not_false, Bool.true_or, Bool.or_self, Bool.or_true, Bool.or_false, Bool.false_or, decide_true, decide_false]; walk_at "wp")))
inductive El : D → Prop
  | int (i : Int) : El (.int i)
  | bl (b : Bool) : El (.bl b)
  | non : El .non
  | str (i : Int) : El (.str (toString i))
  | tup (l : List Int) : El (.tup (l.map .int))
def isI : D → Bool
  | .int _ => true
  | _ => false
theorem ofString_ok (s : String) : PyData.strOk (Str.ofString s) = true := by
  have e : (Str.ofString s).cps.toList = s.toList.map Char.toNat := by
    show (cpsOfBytes 0 0 s.toByteArray.data.toList).toArray.toList = _
    rw [cpsOfBytes_string]
  unfold PyData.strOk
  rw [← Array.all_toList, e, List.all_eq_true]
  intro x hx
  obtain ⟨c, _, rfl⟩ := List.mem_map.mp hx
  have := c.valid
  have h : c.toNat < 0x110000 := by
    rcases this with h | ⟨_, h⟩
    · have : c.toNat < 0xd800 := h
      omega
    · exact h
  exact decide_eq_true h
theorem El.pl {d : D} (h : El d) : Pl 1 d := by
  cases h with
  | int => simp only [Pl]
  | bl => simp only [Pl]
  | non => simp only [Pl]
  | str i => simp only [Pl]; exact ofString_ok _
  | tup l =>
    simp only [Pl]
    intro d hd
    obtain ⟨z, _, rfl⟩ := List.mem_map.mp hd
    simp only [Pl]
theorem ints_all {ds : List D} : (∀ d ∈ ds, isI d = true) → ∃ zs : List Int, ds = zs.map .int := by
  induction ds with
  | nil => exact fun _ => ⟨[], rfl⟩
  | cons d ds ih =>
    intro h
    obtain ⟨zs, rfl⟩ := ih fun x hx => h x (List.mem_cons_of_mem _ hx)
    have := h d List.mem_cons_self
    cases d with
    | int z => exact ⟨z :: zs, rfl⟩
    | _ => cases this
theorem all_ints {zs : List Int} : ∀ d ∈ zs.map D.int, isI d = true := fun d hd => by
  obtain ⟨z, _, rfl⟩ := List.mem_map.mp hd; rfl
theorem map_int_inj {xs ys : List Int} (h : xs.map D.int = ys.map D.int) : xs = ys := by
  induction xs generalizing ys with
  | nil => cases ys with
    | nil => rfl
    | cons => cases h
  | cons x xs ih => cases ys with
    | nil => cases h
    | cons y ys => simp only [List.map_cons, List.cons.injEq, D.int.injEq] at h; rw [h.1, ih h.2]
def Ints (m : Int) (ds : List D) : Prop := ∃ zs : List Int, ds = zs.map .int ∧ (zs.length : Int) = m
theorem ints_iff {m : Int} {ds : List D} : Ints m ds ↔ (ds.length : Int) = m ∧ ∀ d ∈ ds, isI d = true := by
  constructor
  · rintro ⟨zs, rfl, h⟩
    exact ⟨by simpa using h, all_ints⟩
  · rintro ⟨h, h2⟩
    obtain ⟨zs, rfl⟩ := ints_all h2
    exact ⟨zs, rfl, by simpa using h⟩
theorem el_wp {d : D} {Q : D → List D → Prop} {X : Str → List (Str × D) → List D → Prop} (h : El d) (q : Q (.bl (isI d)) [d]) : FV (f_is_integer [d]) Q X := by
  unfold f_is_integer b_is_integer t_is_integer
  cases h
  all_goals
    walk_at "wq"
    exact q
theorem filter_nil {ds : List D} : (ds.filter fun d => !isI d).isEmpty = true ↔ ∀ d ∈ ds, isI d = true := by
  rw [List.isEmpty_iff, List.filter_eq_nil_iff]
  exact ⟨fun h d hd => by have := h d hd; simpa using this, fun h d hd => by simp [h d hd]⟩
theorem are_ints_wp {ds : List D} {m : Int} {Q : D → List D → Prop} {X : Str → List (Str × D) → List D → Prop} (hE : ∀ d ∈ ds, El d) (hl : ds.length ≤ 5000) (q : ∀ b : Bool, (b = true ↔ Ints m ds) → Q (.bl b) [.tup ds, .int m]) : FV (f__law_are_ints [.tup ds, .int m]) Q X := by
  unfold f__law_are_ints b__law_are_ints t__law_are_ints
  walk_at "wq"
  by_cases c : (ds.length : Int) = m
  · simp only [decide_eq_true c]
    walk_at "wp"
    refine lcL_wp (fun i acc e => ∃ y2 : Option D, acc = (ds.take i).filter (fun d => !isI d) ∧ e = [some (.tup ds), some (.int m), y2]) 0 ⟨_, rfl, rfl⟩ (by simp) (by omega) ?_ ?_
    · rintro i x acc e hx ⟨y2, rfl, rfl⟩
      have he := hE x (List.mem_of_getElem? hx)
      have et : (ds.take (0 + i + 1)).filter (fun d => !isI d) = (ds.take (0 + i)).filter (fun d => !isI d) ++ (if isI x then [] else [x]) := by
        rw [Nat.zero_add, List.take_succ, hx, List.filter_append]
        congr 1
        cases h : isI x <;> simp [h]
      rw [et]
      simp only [wipeE]
      cases he
      all_goals
        walk_at "wq"
        simp only [isI, if_true, if_false, Bool.false_eq_true, List.append_nil]
        first | exact ⟨_, rfl, rfl⟩ | exact ⟨_, rfl⟩ | exact ⟨_, trivial, rfl⟩
    · rintro acc e ⟨y2, rfl, rfl⟩
      rw [Nat.zero_add, List.take_length]
      simp only [unwipe]
      walk_at "wp"
      rw [eqD_nil (n := 1) (fun d hd => (hE d ((List.mem_filter.mp hd).1)).pl) (by omega)]
      walk_at "wp"
      refine q _ ?_
      rw [filter_nil, ints_iff]
      exact ⟨fun h => ⟨c, h⟩, fun h => h.2⟩
  · simp only [decide_eq_false c]
    walk_at "wp"
    refine q false ⟨fun h => (by cases h), fun h => ?_⟩
    exact absurd (ints_iff.mp h).1 c
theorem paper_wp {ds : List D} {m : Int} {Q : D → List D → Prop} {X : Str → List (Str × D) → List D → Prop} (q : Q (.bl (decide ((ds.length : Int) = m))) [.tup ds, .int m]) : FV (f_is_paper [.tup ds, .int m]) Q X := by
  unfold f_is_paper b_is_paper t_is_paper
  walk_at "wq"
  exact q
theorem paperN_wp {d : D} {m : Int} {Q : D → List D → Prop} {X : Str → List (Str × D) → List D → Prop} (h : (∃ l, d = .lst l) ∨ ∃ s, d = .str s) (q : Q (.bl false) [d, .int m]) : FV (f_is_paper [d, .int m]) Q X := by
  unfold f_is_paper b_is_paper t_is_paper
  rcases h with ⟨l, rfl⟩ | ⟨s, rfl⟩
  · walk_at "wq"
    exact q
  · walk_at "wq"
    exact q
theorem told_row_wp {ds : List D} {m : Int} {Q : D → List D → Prop} {X : Str → List (Str × D) → List D → Prop} (hE : ∀ d ∈ ds, El d) (hl : ds.length ≤ 5000) (q : ∀ b : Bool, (b = true ↔ Ints m ds) → Q (.bl b) [.tup ds, .int m]) : FV (f_is_told_row [.tup ds, .int m]) Q X := by
  unfold f_is_told_row b_is_told_row t_is_told_row
  walk_at "wp"
  refine paper_wp ?_
  walk_at "wp"
  by_cases c : (ds.length : Int) = m
  · simp only [decide_eq_true c]
    walk_at "wp"
    refine lcL_wp (fun i acc e => ∃ y2 : Option D, acc = ((ds.take i).map isI).map .bl ∧ e = [some (.tup ds), some (.int m), y2]) 0 ⟨_, rfl, rfl⟩ (by simp) (by omega) ?_ ?_
    · rintro i x acc e hx ⟨y2, rfl, rfl⟩
      have he := hE x (List.mem_of_getElem? hx)
      simp only [wipeE]
      walk_at "wp"
      refine el_wp he ?_
      walk_at "wp"
      refine ⟨_, ?_, rfl⟩
      rw [Nat.zero_add, List.take_succ, hx]
      simp
    · rintro acc e ⟨y2, rfl, rfl⟩
      rw [Nat.zero_add, List.take_length]
      simp only [unwipe, allD_map]
      walk_at "wp"
      refine q _ ?_
      rw [ints_iff, List.all_eq_true]
      exact ⟨fun h => ⟨c, fun d hd => h _ (List.mem_map.mpr ⟨d, hd, rfl⟩)⟩, fun h b hb => by obtain ⟨d, hd, rfl⟩ := List.mem_map.mp hb; exact h.2 d hd⟩
  · simp only [decide_eq_false c]
    walk_at "wp"
    exact q false ⟨fun h => (by cases h), fun h => absurd (ints_iff.mp h).1 c⟩
theorem told_rowN_wp {l : List D} {m : Int} {Q : D → List D → Prop} {X : Str → List (Str × D) → List D → Prop} (q : Q (.bl false) [.lst l, .int m]) : FV (f_is_told_row [.lst l, .int m]) Q X := by
  unfold f_is_told_row b_is_told_row t_is_told_row
  walk_at "wp"
  refine paperN_wp (.inl ⟨_, rfl⟩) ?_
  walk_at "wp"
  exact q
/-! signs -/
def Signs (m : Int) (ds : List D) : Prop := ∃ zs : List Int, ds = zs.map .int ∧ (zs.length : Int) = m ∧ ∀ z ∈ zs, Sg z
def isS : D → Bool
  | .int z => (-1 == z) || ((0 == z) || (1 == z))
  | _ => false
theorem inD3 {z : Int} : inD (.int z) (.tup [.int (-1), .int 0, .int 1]) = some (.bl ((-1 == z) || ((0 == z) || (1 == z)))) := by
  simp [inD, itemsOf, D.flat, D.eqF]
theorem sg_iff {z : Int} : ((-1 == z) || ((0 == z) || (1 == z))) = true ↔ Sg z := by
  unfold Sg
  simp
  omega
theorem signs_iff {m : Int} {ds : List D} : Signs m ds ↔ (ds.length : Int) = m ∧ ∀ d ∈ ds, isS d = true := by
  constructor
  · rintro ⟨zs, rfl, h, h2⟩
    refine ⟨by simpa using h, fun d hd => ?_⟩
    obtain ⟨z, hz, rfl⟩ := List.mem_map.mp hd
    exact sg_iff.mpr (h2 z hz)
  · rintro ⟨h, h2⟩
    obtain ⟨zs, rfl⟩ := ints_all fun d hd => by
      have := h2 d hd
      cases d with
      | int => rfl
      | _ => cases this
    exact ⟨zs, rfl, by simpa using h, fun z hz => sg_iff.mp (h2 _ (List.mem_map.mpr ⟨z, hz, rfl⟩))⟩
theorem sign_row_wp {ds : List D} {m : Int} {Q : D → List D → Prop} {X : Str → List (Str × D) → List D → Prop} (hE : ∀ d ∈ ds, El d) (hl : ds.length ≤ 5000) (q : ∀ b : Bool, (b = true ↔ Signs m ds) → Q (.bl b) [.tup ds, .int m]) : FV (f_is_sign_row [.tup ds, .int m]) Q X := by
  unfold f_is_sign_row b_is_sign_row t_is_sign_row
  walk_at "wp"
  refine paper_wp ?_
  walk_at "wp"
  by_cases c : (ds.length : Int) = m
  · simp only [decide_eq_true c]
    walk_at "wp"
    refine lcL_wp (fun i acc e => ∃ y2 : Option D, acc = ((ds.take i).map isS).map .bl ∧ e = [some (.tup ds), some (.int m), y2]) 0 ⟨_, rfl, rfl⟩ (by simp) (by omega) ?_ ?_
    · rintro i x acc e hx ⟨y2, rfl, rfl⟩
      have he := hE x (List.mem_of_getElem? hx)
      have fin : ∃ y2 : Option D, ((ds.take (0 + i)).map isS).map D.bl ++ [.bl (isS x)] = ((ds.take (0 + i + 1)).map isS).map .bl ∧ [some (D.tup ds), some (.int m), some x] = [some (.tup ds), some (.int m), y2] := by
        refine ⟨_, ?_, rfl⟩
        rw [Nat.zero_add, List.take_succ, hx]
        simp
      simp only [wipeE]
      walk_at "wp"
      refine el_wp he ?_
      walk_at "wp"
      cases he with
      | int z =>
        simp only [isI]
        walk_at "wp"
        rw [inD3]
        exact fin
      | bl | non | str | tup =>
        simp only [isI]
        walk_at "wp"
        exact fin
    · rintro acc e ⟨y2, rfl, rfl⟩
      rw [Nat.zero_add, List.take_length]
      simp only [unwipe, allD_map]
      walk_at "wp"
      refine q _ ?_
      rw [signs_iff, List.all_eq_true]
      exact ⟨fun h => ⟨c, fun d hd => h _ (List.mem_map.mpr ⟨d, hd, rfl⟩)⟩, fun h b hb => by obtain ⟨d, hd, rfl⟩ := List.mem_map.mp hb; exact h.2 d hd⟩
  · simp only [decide_eq_false c]
    walk_at "wp"
    exact q false ⟨fun h => (by cases h), fun h => absurd (signs_iff.mp h).1 c⟩
theorem sign_rowN_wp {l : List D} {m : Int} {Q : D → List D → Prop} {X : Str → List (Str × D) → List D → Prop} (q : Q (.bl false) [.lst l, .int m]) : FV (f_is_sign_row [.lst l, .int m]) Q X := by
  unfold f_is_sign_row b_is_sign_row t_is_sign_row
  walk_at "wp"
  refine paperN_wp (.inl ⟨_, rfl⟩) ?_
  walk_at "wp"
  exact q
theorem are_signs_wp {ds : List D} {m : Int} {Q : D → List D → Prop} {X : Str → List (Str × D) → List D → Prop} (hE : ∀ d ∈ ds, El d) (hl : ds.length ≤ 5000) (q : ∀ b : Bool, (b = true ↔ Signs m ds) → Q (.bl b) [.tup ds, .int m]) : FV (f__law_are_signs [.tup ds, .int m]) Q X := by
  unfold f__law_are_signs b__law_are_signs t__law_are_signs
  walk_at "wp"
  refine are_ints_wp hE hl fun b hb => ?_
  walk_at "wp"
  cases b with
  | false =>
    walk_at "wp"
    refine q false ⟨fun h => (by cases h), fun ⟨zs, h1, h2, _⟩ => hb.mpr ⟨zs, h1, h2⟩⟩
  | true =>
    obtain ⟨zs, rfl, hz⟩ := hb.mp rfl
    walk_at "wp"
    refine lcL_wp (fun i acc e => ∃ y2 : Option D, acc = ((zs.take i).filter (fun z => decide (1 < if z < 0 then -z else z))).map .int ∧ e = [some (.tup (zs.map .int)), some (.int m), y2]) 0 ⟨_, rfl, rfl⟩ (by simp) (by omega) ?_ ?_
    · rintro i x acc e hx ⟨y2, rfl, rfl⟩
      rw [List.getElem?_map] at hx
      obtain ⟨z, hy, rfl⟩ := Option.map_eq_some_iff.mp hx
      simp only [wipeE]
      walk_at "wp"
      rw [Nat.zero_add, List.take_succ, hy]
      refine ite_one (fun c => ?_) fun c => ?_
      · refine ⟨_, ?_, rfl⟩
        simp [List.filter_append, c]
      · refine ⟨_, ?_, rfl⟩
        simp [List.filter_append, c]
    · rintro acc e ⟨y2, rfl, rfl⟩
      rw [Nat.zero_add, List.length_map, List.take_length]
      simp only [unwipe]
      walk_at "wp"
      rw [eqD_nil (n := 0) (fun d hd => by obtain ⟨z, _, rfl⟩ := List.mem_map.mp hd; simp only [Pl]) (by omega)]
      walk_at "wp"
      refine q _ ?_
      rw [List.isEmpty_iff, List.map_eq_nil_iff, List.filter_eq_nil_iff]
      constructor
      · intro h
        refine ⟨zs, rfl, hz, fun z hzm => ?_⟩
        have := h z hzm
        simp only [decide_eq_true_eq] at this
        unfold Sg
        split at this <;> omega
      · rintro ⟨ws, h1, h2, h3⟩ z hzm
        have := map_int_inj h1
        subst this
        have := h3 z hzm
        simp only [decide_eq_true_eq]
        rcases this with rfl | rfl | rfl <;> decide
end K26

set_option Elab.async false
set_option linter.all false
set_option maxRecDepth 100000
set_option maxHeartbeats 1000000
namespace K26
open PySem PySem.Spec PyProof.Rows L2 PT
local macro_rules | `(tactic| walk_at "wp1") => `(tactic| try simp only [fv_run, EV_ok, EV_bind, EV_lift, AV_ok, ev_var, ev_c, ev_bin, ev_un, ev_and, ev_or, ev_not, ev_if, ev_tup, ev_lst, ev_fn, av_nil, av_cons, av_kn, av_kd, av_ko, av_ks, ev_call, ev_make, ev_oix, ev_sl, ev_sl3, ev_part_n, ev_part_s, ev_chain, ev_callO, ev_binO, sv_nil, sv_seq, sv_expr, sv_set, sv_ret, sv_retN, sv_if, sv_par, sv_asg, sv_app, sv_raise, sv_oset, sv_aug, sv_fldO, sv_brk, sv_cont, iv_seq, iv_range1, iv_range2, iv_range3, iv_enu, iv_zp2, iv_zp3, sv_forget, sv_for, ev_lc, TV_eq, OV_some, SV_nx, SV_rt, SV_bk, SV_ct, SV_exc, has_s, has_z, atL_s, atL_z, ownI, ownB, putB, back, setE,
  addD_int, subD_int, negD_int, ltD_int, leD_int, gtD_int, geD_int, eqD_int, neD_int, eqD_bl, neD_bl, lenD_lst, lenD_tup, lenD_scr, absD_int, PT.intD_int, intD_bl, max2D_int, min2D_int, max3D_int, listD_lst, listD_tup, tupleD_lst, tupleD_tup, addI_int, subI_int, ixD_lst, ixD_tup, ixD_scr, atI0, atI1, atI2, atI3, ixN2_0, ixN2_1, cut1, mulD_l, mulD_r, modD_int, powD_int, divD_small, Int.reduceNeg, Int.reducePow, Int.reduceLT, Int.reduceLE, Int.reduceAdd, D.scal, D.isNon, itemsOf, Pat.put, Pat.puts, Option.bind_some,
  List.map_cons, List.map_nil, List.cons_append, List.nil_append, List.append_nil, List.length_cons, List.length_nil, List.replicate_succ, List.replicate_zero, List.getElem?_cons_zero, List.getElem?_cons_succ, List.set_cons_zero, List.set_cons_succ, Nat.reduceAdd, Nat.reduceSub, Option.map_some, Option.map_none, if_true, if_false, Bool.false_eq_true, reduceIte, true_and, Bool.not_true, Bool.not_false])
local macro_rules | `(tactic| walk_at "wp") => `(tactic| (walk_at "wp1"; repeat (with_reducible refine sv_go ?_; walk_at "wp1")))
local macro_rules | `(tactic| walk_at "wq") => `(tactic| (walk_at "wp"; repeat (simp only [q_n_tuple, q_n_list, q_n_bool, q_n_int, q_n_str, q_n_tl, q_n_lt, q_n_Web, q_n_Box, q_b_tuple, q_b_list, q_b_bool, q_b_int, q_b_str, q_b_tl, q_b_lt, q_b_Web, q_b_Box, q_i_tuple, q_i_list, q_i_bool, q_i_int, q_i_str, q_i_tl, q_i_lt, q_i_Web, q_i_Box, q_s_tuple, q_s_list, q_s_bool, q_s_int, q_s_str, q_s_tl, q_s_lt, q_s_Web, q_s_Box, q_t_tuple, q_t_list, q_t_bool, q_t_int, q_t_str, q_t_tl, q_t_lt, q_t_Web, q_t_Box, q_l_tuple, q_l_list, q_l_bool, q_l_int, q_l_str, q_l_tl, q_l_lt, q_l_Web, q_l_Box, q_Web_Web, q_Web_Box, q_Web_lt, q_Box_Web, q_Box_Box, q_Box_lt, beq_self_eq_true, Bool.not_true, Bool.not_false, Bool.true_or, Bool.or_self, Bool.or_true, Bool.or_false, Bool.false_or, decide_true, decide_false]; walk_at "wp")))
/-! sums -/
theorem forL_cons {g : D → Ev → Option Ev} {b : MS} {d : D} {ds : List D} {e : Ev} {P : PT.SP} : SV (forL g b (d :: ds) e) P = OV (g d e) fun e1 => SV (b e1) { P with N := fun e2 => SV (forL g b ds e2) P, T := fun e2 => SV (forL g b ds e2) P, B := P.N } := by
  simp only [forL]
  cases g d e with
  | none => rfl
  | some e1 =>
    simp only [OV_some]
    generalize b e1 = r
    cases r <;> rfl
theorem forL_nil {g : D → Ev → Option Ev} {b : MS} {e : Ev} {P : PT.SP} : SV (forL g b [] e) P = P.N e := (rfl)
def addAt (xs : List Int) (p v : Int) : List Int := xs.set p.toNat (gz xs p + v)
def addTie (xs : List Int) (t : D) (z : Int) : List Int := match t with
  | .tup [.int p, .int s] => addAt xs p (s * z)
  | .tup [.int p, .int s, .int q, .int u] => addAt (addAt xs p (s * z)) q (u * z)
  | _ => xs
def sumsN (n : Nat) (T : List D) (zs : List Int) : Nat → List Int
  | 0 => List.replicate n 0
  | i + 1 => match T[i]?, zs[i]? with
    | some t, some z => addTie (sumsN n T zs i) t z
    | _, _ => sumsN n T zs i
theorem addAt_len {xs : List Int} {p v : Int} : (addAt xs p v).length = xs.length := by simp [addAt]
theorem addTie_len {xs : List Int} {t : D} {z : Int} : (addTie xs t z).length = xs.length := by
  unfold addTie
  split
  · exact addAt_len
  · rw [addAt_len, addAt_len]
  · rfl
theorem sumsN_len {n : Nat} {T : List D} {zs : List Int} : ∀ i, (sumsN n T zs i).length = n
  | 0 => by simp [sumsN]
  | i + 1 => by
    unfold sumsN
    split
    · rw [addTie_len, sumsN_len i]
    · exact sumsN_len i
theorem sumsN_step {n : Nat} {T : List D} {zs : List Int} {i : Nat} {t : D} {z : Int} (h1 : T[i]? = some t) (h2 : zs[i]? = some z) : sumsN n T zs (i + 1) = addTie (sumsN n T zs i) t z := by
  rw [sumsN, h1, h2]
theorem law_ends_wp {n : Int} {d : D} {Q : D → List D → Prop} {X : Str → List (Str × D) → List D → Prop} (h : TieOk n d) (q : Q (.lst (ends d)) [d]) : FV (f__law_ends [d]) Q X := by
  unfold f__law_ends b__law_ends t__law_ends
  cases h with
  | one p s p0 p1 hs =>
    walk_at "wp"
    simp only [dc22]
    walk_at "wp"
    exact q
  | two p s u t p0 p1 u0 u1 ne hs ht =>
    walk_at "wp"
    simp only [dc42]
    walk_at "wp"
    exact q
theorem set_map {xs : List Int} {k : Nat} {v : Int} : (xs.map D.int).set k (.int v) = (xs.set k v).map .int := by rw [List.map_set]
theorem law_sums_wp {n : Int} {T : List D} {Z : D} {zs : List Int} {Q : D → List D → Prop} {X : Str → List (Str × D) → List D → Prop} (n0 : 0 ≤ n) (n1 : n ≤ 5000) (hT : ∀ x ∈ T, TieOk n x) (hz : zs.length = T.length) (hZ : Sq2 Z (zs.map .int)) (q : Q (.lst ((sumsN n.toNat T zs T.length).map .int)) [.int n, .lst T, Z]) : FV (f__law_sums [.int n, .lst T, Z]) Q X := by
  have hzip : zip2L [.lst T, Z] = some (zip2D T (zs.map .int)) := by rcases hZ with rfl | rfl <;> rfl
  unfold f__law_sums b__law_sums t__law_sums
  walk_at "wp"
  rw [repD_zero (by omega) (by omega)]
  walk_at "wp"
  simp only [hzip]
  walk_at "wp"
  refine forL_wp (fun i e => ∃ (x4 x5 x6 x7 : Option D), e = [some (.int n), some (.lst T), some Z, some (.lst ((sumsN n.toNat T zs i).map .int)), x4, x5, x6, x7]) 0 ⟨_, _, _, _, rfl⟩ ?_ ?_
  · rintro i x e hx ⟨x4, x5, x6, x7, rfl⟩
    obtain ⟨t, z, e1, e2, rfl⟩ := zip_get hx
    rw [List.getElem?_map] at e2
    obtain ⟨z, e9, rfl⟩ := Option.map_eq_some_iff.mp e2
    have ht := hT t (List.mem_of_getElem? e1)
    have st := sumsN_step (n := n.toNat) e1 e9
    rw [Nat.zero_add, st]
    have hlen : ((sumsN n.toNat T zs i).length : Int) = n := by rw [sumsN_len]; omega
    generalize sumsN n.toNat T zs i = S at hlen
    clear st hx e1 e2
    cases ht with
    | one p s p0 p1 hs =>
      walk_at "wp"
      refine law_ends_wp (.one p s p0 p1 hs) ?_
      simp only [ends]
      walk_at "wp"
      simp only [forL_cons, forL_nil]
      walk_at "wp"
      simp only [atI_gz p0 (show p < (S.length : Int) by omega), mulS hs]
      walk_at "wp"
      rw [List.length_map, ixN_ok p0 (by omega)]
      walk_at "wp"
      rw [set_map]
      exact ⟨_, _, _, _, rfl⟩
    | two p s u t p0 p1 u0 u1 ne hs ht =>
      walk_at "wp"
      refine law_ends_wp (.two p s u t p0 p1 u0 u1 ne hs ht) ?_
      simp only [ends]
      walk_at "wp"
      simp only [forL_cons, forL_nil]
      walk_at "wp"
      simp only [atI_gz p0 (show p < (S.length : Int) by omega), mulS hs]
      walk_at "wp"
      rw [List.length_map, ixN_ok p0 (by omega)]
      walk_at "wp"
      rw [set_map]
      have hl2 : ((S.set p.toNat (gz S p + s * z)).length : Int) = n := by rw [List.length_set]; exact hlen
      simp only [atI_gz u0 (show u < ((S.set p.toNat (gz S p + s * z)).length : Int) by omega), mulS ht]
      walk_at "wp"
      rw [List.length_map, ixN_ok u0 (by omega)]
      walk_at "wp"
      rw [set_map]
      exact ⟨_, _, _, _, rfl⟩
  · rintro e ⟨x4, x5, x6, x7, rfl⟩
    rw [zip_len (by simp [hz]), Nat.zero_add]
    walk_at "wp"
    exact q
def gn (zs : List Int) (i : Nat) : Int := (zs[i]?).getD 0
def InB (B : List D) (zs : List Int) (i : Nat) : Prop := 2 * ba B i ≤ gn zs i ∧ gn zs i ≤ 2 * bb B i
def Fills (n : Int) (T B : List D) (ts : List Int) (ds : List D) : Prop := ∃ zs : List Int, ds = zs.map .int ∧ zs.length = T.length ∧ (∀ i < T.length, InB B zs i) ∧ sumsN n.toNat T zs T.length = ts.map (2 * ·)
theorem mul2 (x : Int) : mulD (.int 2) (.int x) = some (.int (2 * x)) := mulD_l (by decide) (by decide)
theorem bnd_get {B : List D} {i : Nat} {a b : Int} (h : B[i]? = some (.tup [.int a, .int b])) : ba B i = a ∧ bb B i = b := by
  unfold ba bb
  rw [h]
  exact ⟨rfl, rfl⟩
theorem fills_of {n : Int} {T B : List D} {ts zs : List Int} : Fills n T B ts (zs.map .int) ↔ zs.length = T.length ∧ (∀ i < T.length, InB B zs i) ∧ sumsN n.toNat T zs T.length = ts.map (2 * ·) := by
  constructor
  · rintro ⟨ws, h, r⟩
    have := map_int_inj h
    subst this
    exact r
  · exact fun h => ⟨zs, rfl, h⟩
theorem law_fills_wp {n : Int} {T B : List D} {ts : List Int} {ds : List D} {Q : D → List D → Prop} {X : Str → List (Str × D) → List D → Prop} (n0 : 0 ≤ n) (n1 : n ≤ 5000) (hT : ∀ x ∈ T, TieOk n x) (hl : T.length ≤ 3000) (hB : ∀ x ∈ B, BndOk x) (hBl : B.length = T.length) (ht : (ts.length : Int) = n) (hE : ∀ d ∈ ds, El d) (hd : ds.length ≤ 5000) (q : ∀ b : Bool, (b = true ↔ Fills n T B ts ds) → Q (.bl b) [.int n, .lst T, .lst B, .lst (ts.map .int), .tup ds]) : FV (f__law_fills [.int n, .lst T, .lst B, .lst (ts.map .int), .tup ds]) Q X := by
  unfold f__law_fills b__law_fills t__law_fills
  walk_at "wp"
  refine are_ints_wp hE hd fun b hb => ?_
  walk_at "wp"
  cases b with
  | false =>
    walk_at "wp"
    refine q false ⟨fun h => (by cases h), fun ⟨zs, h1, h2, _⟩ => hb.mpr ⟨zs, h1, by omega⟩⟩
  | true =>
    obtain ⟨zs, rfl, hz⟩ := hb.mp rfl
    have hz : zs.length = T.length := by omega
    walk_at "wp"
    simp only [zip2L_tl]
    walk_at "wp"
    refine lcL_wp (fun i acc e => ∃ (y5 y6 : Option D), (acc = [] ↔ ∀ j < i, InB B zs j) ∧ (∀ d ∈ acc, d = .int 1) ∧ e = [some (.int n), some (.lst T), some (.lst B), some (.lst (ts.map .int)), some (.tup (zs.map .int)), y5, y6, none]) 0 ⟨_, _, by simp, by simp, rfl⟩ (by simp) (by rw [zip_len (by simp; omega)]; simp; omega) ?_ ?_
    · rintro i x acc e hx ⟨y5, y6, h1, h2, rfl⟩
      obtain ⟨z, b, e1, e2, rfl⟩ := zip_get hx
      rw [List.getElem?_map] at e1
      obtain ⟨z, e8, rfl⟩ := Option.map_eq_some_iff.mp e1
      have hb := hB b (List.mem_of_getElem? e2)
      have ez : gn zs i = z := by unfold gn; rw [e8]; rfl
      simp only [wipeE]
      cases hb with
      | mk a b hab =>
        have eb := bnd_get e2
        have bad : ¬ InB B zs i → ∃ (y5 y6 : Option D), (acc ++ [D.int 1] = [] ↔ ∀ j < 0 + i + 1, InB B zs j) ∧ (∀ d ∈ acc ++ [D.int 1], d = .int 1) ∧ [some (D.int n), some (.lst T), some (.lst B), some (.lst (ts.map .int)), some (.tup (zs.map .int)), some (.int z), some (.tup [.int a, .int b]), none] = [some (.int n), some (.lst T), some (.lst B), some (.lst (ts.map .int)), some (.tup (zs.map .int)), y5, y6, none] := fun hn => by
          refine ⟨_, _, ⟨fun h => by simp at h, fun h => absurd (h i (by omega)) hn⟩, fun d hd => ?_, rfl⟩
          rcases List.mem_append.mp hd with hd | hd
          · exact h2 d hd
          · exact List.mem_singleton.mp hd
        walk_at "wp"
        try simp only [mul2]
        walk_at "wp"
        refine ite_one (fun c => ?_) fun c => ?_
        · walk_at "wp"
          refine bad fun h => ?_
          have := h.1
          rw [eb.1, ez] at this
          omega
        · walk_at "wp"
          try simp only [mul2]
          walk_at "wp"
          refine ite_one (fun c2 => ?_) fun c2 => ?_
          · refine bad fun h => ?_
            have := h.2
            rw [eb.2, ez] at this
            omega
          · have hi : InB B zs i := ⟨by rw [eb.1, ez]; omega, by rw [eb.2, ez]; omega⟩
            refine ⟨_, _, h1.trans ⟨fun h j hj => ?_, fun h j hj => h j (by omega)⟩, h2, rfl⟩
            rcases Nat.lt_or_ge j i with hji | hji
            · exact h j (by omega)
            · obtain rfl : j = i := by omega
              exact hi
    · rintro acc e ⟨y5, y6, h1, h2, rfl⟩
      rw [zip_len (by simp; omega), List.length_map, Nat.zero_add] at h1
      simp only [unwipe]
      walk_at "wp"
      rw [neD_nil (n := 0) (fun d hd => by rw [h2 d hd]; simp only [Pl]) (by omega)]
      walk_at "wp"
      cases hacc : acc.isEmpty with
      | false =>
        walk_at "wp"
        refine q false ⟨fun h => (by cases h), fun h => ?_⟩
        have := h1.mpr fun j hj => (fills_of.mp h).2.1 j (by omega)
        rw [this] at hacc
        cases hacc
      | true =>
        have hin := h1.mp (List.isEmpty_iff.mp hacc)
        walk_at "wp"
        refine law_sums_wp n0 n1 hT hz (.inr rfl) ?_
        walk_at "wp"
        refine lcL_wp (fun i acc e => ∃ (y7 : Option D), acc = ((ts.take i).map (2 * ·)).map .int ∧ e = [some (.int n), some (.lst T), some (.lst B), some (.lst (ts.map .int)), some (.tup (zs.map .int)), none, none, y7]) 0 ⟨_, rfl, rfl⟩ (by simp) (by simp; omega) ?_ ?_
        · rintro i x acc e hx ⟨y7, rfl, rfl⟩
          rw [List.getElem?_map] at hx
          obtain ⟨t, hy, rfl⟩ := Option.map_eq_some_iff.mp hx
          simp only [wipeE]
          walk_at "wp"
          try simp only [mul2]
          walk_at "wp"
          refine ⟨_, ?_, rfl⟩
          rw [Nat.zero_add, List.take_succ, hy]
          simp
        · rintro acc e ⟨y7, rfl, rfl⟩
          rw [Nat.zero_add, List.length_map, List.take_length]
          simp only [unwipe]
          walk_at "wp"
          rw [eqD_ints]
          walk_at "wp"
          refine q _ ?_
          rw [decide_eq_true_iff, fills_of]
          exact ⟨fun h => ⟨hz, fun i hi => hin i (by omega), h⟩, fun h => h.2.2⟩
end K26

set_option Elab.async false
set_option linter.all false
set_option maxRecDepth 100000
set_option maxHeartbeats 1000000
namespace K26
open PySem PySem.Spec PyProof.Rows L2 PT
local macro_rules | `(tactic| walk_at "wp1") => `(tactic| try simp only [fv_run, EV_ok, EV_bind, EV_lift, AV_ok, ev_var, ev_c, ev_bin, ev_un, ev_and, ev_or, ev_not, ev_if, ev_tup, ev_lst, ev_fn, av_nil, av_cons, av_kn, av_kd, av_ko, av_ks, ev_call, ev_make, ev_oix, ev_sl, ev_sl3, ev_part_n, ev_part_s, ev_chain, ev_callO, ev_binO, sv_nil, sv_seq, sv_expr, sv_set, sv_ret, sv_retN, sv_if, sv_par, sv_asg, sv_app, sv_raise, sv_oset, sv_aug, sv_fldO, sv_brk, sv_cont, iv_seq, iv_range1, iv_range2, iv_range3, iv_enu, iv_zp2, iv_zp3, sv_forget, sv_for, ev_lc, TV_eq, OV_some, SV_nx, SV_rt, SV_bk, SV_ct, SV_exc, has_s, has_z, atL_s, atL_z, ownI, ownB, putB, back, setE,
  addD_int, subD_int, negD_int, ltD_int, leD_int, gtD_int, geD_int, eqD_int, neD_int, eqD_bl, neD_bl, lenD_lst, lenD_tup, lenD_scr, absD_int, PT.intD_int, intD_bl, max2D_int, min2D_int, max3D_int, listD_lst, listD_tup, tupleD_lst, tupleD_tup, addI_int, subI_int, ixD_lst, ixD_tup, ixD_scr, atI0, atI1, atI2, atI3, ixN2_0, ixN2_1, cut1, mulD_l, mulD_r, modD_int, powD_int, divD_small, Int.reduceNeg, Int.reducePow, Int.reduceLT, Int.reduceLE, Int.reduceAdd, D.scal, D.isNon, itemsOf, Pat.put, Pat.puts, Option.bind_some,
  List.map_cons, List.map_nil, List.cons_append, List.nil_append, List.append_nil, List.length_cons, List.length_nil, List.replicate_succ, List.replicate_zero, List.getElem?_cons_zero, List.getElem?_cons_succ, List.set_cons_zero, List.set_cons_succ, Nat.reduceAdd, Nat.reduceSub, Option.map_some, Option.map_none, if_true, if_false, Bool.false_eq_true, reduceIte, true_and, Bool.not_true, Bool.not_false])
local macro_rules | `(tactic| walk_at "wp") => `(tactic| (walk_at "wp1"; repeat (with_reducible refine sv_go ?_; walk_at "wp1")))
local macro_rules | `(tactic| walk_at "wq") => `(tactic| (walk_at "wp"; repeat (simp only [q_n_tuple, q_n_list, q_n_bool, q_n_int, q_n_str, q_n_tl, q_n_lt, q_n_Web, q_n_Box, q_b_tuple, q_b_list, q_b_bool, q_b_int, q_b_str, q_b_tl, q_b_lt, q_b_Web, q_b_Box, q_i_tuple, q_i_list, q_i_bool, q_i_int, q_i_str, q_i_tl, q_i_lt, q_i_Web, q_i_Box, q_s_tuple, q_s_list, q_s_bool, q_s_int, q_s_str, q_s_tl, q_s_lt, q_s_Web, q_s_Box, q_t_tuple, q_t_list, q_t_bool, q_t_int, q_t_str, q_t_tl, q_t_lt, q_t_Web, q_t_Box, q_l_tuple, q_l_list, q_l_bool, q_l_int, q_l_str, q_l_tl, q_l_lt, q_l_Web, q_l_Box, q_Web_Web, q_Web_Box, q_Web_lt, q_Box_Web, q_Box_Box, q_Box_lt, beq_self_eq_true, Bool.not_true, Bool.not_false, Bool.true_or, Bool.or_self, Bool.or_true, Bool.or_false, Bool.false_or, decide_true, decide_false]; walk_at "wp")))
theorem zip3L_ttt {L M N : List D} : zip3L [.tup L, .tup M, .tup N] = some (zip3D L M N) := rfl
theorem zip3_inv {L M N : List D} {i : Nat} {d : D} (h : (zip3D L M N)[i]? = some d) : ∃ x y z, L[i]? = some x ∧ M[i]? = some y ∧ N[i]? = some z ∧ d = .tup [x, y, z] := by
  unfold zip3D at h
  rw [List.getElem?_map, List.zip, List.getElem?_zipWith, List.zip, List.getElem?_zipWith] at h
  cases e : L[i]? with
  | none => rw [e] at h; simp at h
  | some x =>
    cases e2 : M[i]? with
    | none => rw [e, e2] at h; simp at h
    | some y =>
      cases e3 : N[i]? with
      | none => rw [e, e2, e3] at h; simp at h
      | some z => rw [e, e2, e3] at h; simp at h; exact ⟨x, y, z, rfl, rfl, rfl, h.symm⟩
theorem zip3_len {L M N : List D} (h1 : L.length = M.length) (h2 : L.length = N.length) : (zip3D L M N).length = L.length := by
  unfold zip3D
  simp [← h1, ← h2]
theorem all_zip : ∀ {xs ts : List Int}, xs.length = ts.length → ((List.zipWith (fun a b => decide (a = 2 * b)) xs ts).all id = true ↔ xs = ts.map (2 * ·))
  | [], [], _ => by simp
  | [], _ :: _, h => by simp at h
  | _ :: _, [], h => by simp at h
  | x :: xs, t :: ts, h => by
    have ih := all_zip (xs := xs) (ts := ts) (by simpa using h)
    simp only [List.zipWith_cons_cons, List.all_cons, List.map_cons, Bool.and_eq_true, ih, id, decide_eq_true_eq, List.cons.injEq]
theorem fills_wp {n : Int} {T B : List D} {ts : List Int} {ds : List D} {Q : D → List D → Prop} {X : Str → List (Str × D) → List D → Prop} (n0 : 0 ≤ n) (n1 : n ≤ 5000) (hT : ∀ x ∈ T, TieOk n x) (hl : T.length ≤ 3000) (hB : ∀ x ∈ B, BndOk x) (hBl : B.length = T.length) (ht : (ts.length : Int) = n) (hE : ∀ d ∈ ds, El d) (hd : ds.length ≤ 5000) (q : ∀ b : Bool, (b = true ↔ Fills n T B ts ds) → Q (.bl b) [webD n T, boxD B (ts.map .int), .tup ds]) : FV (f_fills [webD n T, boxD B (ts.map .int), .tup ds]) Q X := by
  unfold f_fills b_fills t_fills
  walk_at "wp"
  simp only [fld_ties]
  walk_at "wp"
  refine told_row_wp hE hd fun b hb => ?_
  walk_at "wp"
  cases b with
  | false =>
    walk_at "wp"
    refine q false ⟨fun h => (by cases h), fun ⟨zs, h1, h2, _⟩ => hb.mpr ⟨zs, h1, by omega⟩⟩
  | true =>
    obtain ⟨zs, rfl, hz⟩ := hb.mp rfl
    have hz : zs.length = T.length := by omega
    walk_at "wp"
    simp only [fld_points]
    walk_at "wp"
    rw [rangeL1_ok (by omega) (by omega)]
    walk_at "wp"
    refine lcL_wp (fun i acc e => ∃ (y3 : Option D), acc = (List.replicate i (0 : Int)).map .int ∧ e = [some (webD n T), some (boxD B (ts.map .int)), some (.tup (zs.map .int)), y3, none, none, none, none, none, none, none, none]) 0 ⟨_, rfl, rfl⟩ (by simp) (by simp; omega) ?_ ?_
    · rintro i x acc e hx ⟨y3, rfl, rfl⟩
      simp only [wipeE]
      walk_at "wp"
      refine ⟨_, ?_, rfl⟩
      rw [Nat.zero_add, List.map_replicate, ← List.replicate_succ', List.replicate_succ]
    · rintro acc e ⟨y3, rfl, rfl⟩
      rw [Nat.zero_add, List.length_map, List.length_range]
      simp only [unwipe]
      walk_at "wp"
      simp only [fld_ties, fld_bounds]
      walk_at "wp"
      simp only [zip3L_ttt]
      walk_at "wp"
      refine forL_wp (fun i e => ∃ (x3 x5 x6 x7 x8 x9 : Option D), (∀ j < i, InB B zs j) ∧ e = [some (webD n T), some (boxD B (ts.map .int)), some (.tup (zs.map .int)), x3, some (.lst ((sumsN n.toNat T zs i).map .int)), x5, x6, x7, x8, x9, none, none]) 0 ⟨_, _, _, _, _, _, by simp, rfl⟩ ?_ ?_
      · rintro i x e hx ⟨x3, x5, x6, x7, x8, x9, hin, rfl⟩
        obtain ⟨z, t, b, e1, e2, e3, rfl⟩ := zip3_inv hx
        rw [List.getElem?_map] at e1
        obtain ⟨z, e8, rfl⟩ := Option.map_eq_some_iff.mp e1
        have ht := hT t (List.mem_of_getElem? e2)
        have hb := hB b (List.mem_of_getElem? e3)
        have st := sumsN_step (n := n.toNat) e2 e8
        have ez : gn zs i = z := by unfold gn; rw [e8]; rfl
        have hiT : i < T.length := by
          rcases Nat.lt_or_ge i T.length with h | h
          · exact h
          · rw [List.getElem?_eq_none h] at e2; cases e2
        rw [Nat.zero_add, st]
        have hlen : ((sumsN n.toNat T zs i).length : Int) = n := by rw [sumsN_len]; omega
        generalize sumsN n.toNat T zs i = S at hlen
        cases hb with
        | mk a b hab =>
          have eb := bnd_get e3
          clear st hx e1 e2 e3
          have good : 2 * a ≤ z → z ≤ 2 * b → ∀ j < i + 1, InB B zs j := fun g1 g2 j hj => by
            rcases Nat.lt_or_ge j i with hji | hji
            · exact hin j (by omega)
            · obtain rfl : j = i := by omega
              exact ⟨by rw [eb.1, ez]; exact g1, by rw [eb.2, ez]; exact g2⟩
          have bad : ¬ (2 * a ≤ z ∧ z ≤ 2 * b) → Q (.bl false) [webD n T, boxD B (ts.map .int), .tup (zs.map .int)] := fun hn => by
            refine q false ⟨fun h => (by cases h), fun h => ?_⟩
            have := (fills_of.mp h).2.1 i hiT
            unfold InB at this
            rw [eb.1, eb.2, ez] at this
            exact absurd this hn
          walk_at "wp"
          try simp only [mul2]
          walk_at "wp"
          by_cases g1 : 2 * a ≤ z
          · simp only [decide_eq_true g1]
            walk_at "wp"
            try simp only [mul2]
            walk_at "wp"
            by_cases g2 : z ≤ 2 * b
            · simp only [decide_eq_true g2]
              walk_at "wp"
              cases ht with
              | one p s p0 p1 hs =>
                refine ends_at_wp (.one p s p0 p1 hs) ?_
                simp only [ends]
                walk_at "wp"
                simp only [forL_cons, forL_nil, sv_oaug]
                walk_at "wp"
                simp only [atI_gz p0 (show p < (S.length : Int) by omega), mulS hs]
                walk_at "wp"
                rw [List.length_map, ixN_ok p0 (by omega)]
                walk_at "wp"
                rw [set_map]
                exact ⟨_, _, _, _, _, _, good g1 g2, rfl⟩
              | two p s u t p0 p1 u0 u1 ne hs ht =>
                refine ends_at_wp (.two p s u t p0 p1 u0 u1 ne hs ht) ?_
                simp only [ends]
                walk_at "wp"
                simp only [forL_cons, forL_nil, sv_oaug]
                walk_at "wp"
                simp only [atI_gz p0 (show p < (S.length : Int) by omega), mulS hs]
                walk_at "wp"
                rw [List.length_map, ixN_ok p0 (by omega)]
                walk_at "wp"
                rw [set_map]
                have hl2 : ((S.set p.toNat (gz S p + s * z)).length : Int) = n := by rw [List.length_set]; exact hlen
                simp only [atI_gz u0 (show u < ((S.set p.toNat (gz S p + s * z)).length : Int) by omega), mulS ht]
                walk_at "wp"
                rw [List.length_map, ixN_ok u0 (by omega)]
                walk_at "wp"
                rw [set_map]
                exact ⟨_, _, _, _, _, _, good g1 g2, rfl⟩
            · simp only [decide_eq_false g2]
              walk_at "wp"
              exact bad fun h => g2 h.2
          · simp only [decide_eq_false g1]
            walk_at "wp"
            exact bad fun h => g1 h.1
      · rintro e ⟨x3, x5, x6, x7, x8, x9, hin, rfl⟩
        rw [zip3_len (by simp [hz]) (by simp; omega), List.length_map, Nat.zero_add] at hin ⊢
        walk_at "wp"
        simp only [fld_totals]
        walk_at "wp"
        simp only [zip2L_lt]
        walk_at "wp"
        have hsl : (sumsN n.toNat T zs zs.length).length = ts.length := by rw [sumsN_len]; omega
        refine lcL_wp (fun i acc e => ∃ (y10 y11 : Option D), acc = ((List.zipWith (fun a b => decide (a = 2 * b)) (sumsN n.toNat T zs zs.length) ts).take i).map .bl ∧ e = [some (webD n T), some (boxD B (ts.map .int)), some (.tup (zs.map .int)), x3, some (.lst ((sumsN n.toNat T zs zs.length).map .int)), x5, x6, x7, x8, x9, y10, y11]) 0 ⟨_, _, rfl, rfl⟩ (by simp) (by rw [zip_len (by simp [hsl])]; simp; omega) ?_ ?_
        · rintro i x acc e hx ⟨y10, y11, rfl, rfl⟩
          obtain ⟨s, t, e1, e2, rfl⟩ := zip_get hx
          rw [List.getElem?_map] at e1 e2
          obtain ⟨s, e8, rfl⟩ := Option.map_eq_some_iff.mp e1
          obtain ⟨t, e9, rfl⟩ := Option.map_eq_some_iff.mp e2
          simp only [wipeE]
          walk_at "wp"
          try simp only [mul2]
          walk_at "wp"
          refine ⟨_, _, ?_, rfl⟩
          rw [Nat.zero_add, List.take_succ, List.getElem?_zipWith, e8, e9]
          simp
        · rintro acc e ⟨y10, y11, rfl, rfl⟩
          have el : (zip2D ((sumsN n.toNat T zs zs.length).map D.int) (ts.map D.int)).length = (List.zipWith (fun a b => decide (a = 2 * b)) (sumsN n.toNat T zs zs.length) ts).length := by simp [zip2D]
          rw [Nat.zero_add, el, List.take_length]
          simp only [unwipe, allD_map]
          walk_at "wp"
          refine q _ ?_
          rw [all_zip hsl, fills_of, hz]
          exact ⟨fun h => ⟨rfl, fun i hi => hin i (by omega), h⟩, fun h => h.2.2⟩
theorem fillsN_wp {n : Int} {T B : List D} {ts : List Int} {l : List D} {Q : D → List D → Prop} {X : Str → List (Str × D) → List D → Prop} (q : Q (.bl false) [webD n T, boxD B (ts.map .int), .lst l]) : FV (f_fills [webD n T, boxD B (ts.map .int), .lst l]) Q X := by
  unfold f_fills b_fills t_fills
  walk_at "wp"
  simp only [fld_ties]
  walk_at "wp"
  refine told_rowN_wp ?_
  walk_at "wp"
  exact q
end K26

set_option Elab.async false
set_option linter.all false
set_option maxRecDepth 100000
set_option maxHeartbeats 1000000
namespace K26
open PySem PySem.Spec PyProof.Rows L2 PT
local macro_rules | `(tactic| walk_at "wp1") => `(tactic| try simp only [fv_run, EV_ok, EV_bind, EV_lift, AV_ok, ev_var, ev_c, ev_bin, ev_un, ev_and, ev_or, ev_not, ev_if, ev_tup, ev_lst, ev_fn, av_nil, av_cons, av_kn, av_kd, av_ko, av_ks, ev_call, ev_make, ev_oix, ev_sl, ev_sl3, ev_part_n, ev_part_s, ev_chain, ev_callO, ev_binO, sv_nil, sv_seq, sv_expr, sv_set, sv_ret, sv_retN, sv_if, sv_par, sv_asg, sv_app, sv_raise, sv_oset, sv_aug, sv_fldO, sv_brk, sv_cont, iv_seq, iv_range1, iv_range2, iv_range3, iv_enu, iv_zp2, iv_zp3, sv_forget, sv_for, ev_lc, TV_eq, OV_some, SV_nx, SV_rt, SV_bk, SV_ct, SV_exc, has_s, has_z, atL_s, atL_z, ownI, ownB, putB, back, setE,
  addD_int, subD_int, negD_int, ltD_int, leD_int, gtD_int, geD_int, eqD_int, neD_int, eqD_bl, neD_bl, lenD_lst, lenD_tup, lenD_scr, absD_int, PT.intD_int, intD_bl, max2D_int, min2D_int, max3D_int, listD_lst, listD_tup, tupleD_lst, tupleD_tup, addI_int, subI_int, ixD_lst, ixD_tup, ixD_scr, atI0, atI1, atI2, atI3, ixN2_0, ixN2_1, cut1, mulD_l, mulD_r, modD_int, powD_int, divD_small, Int.reduceNeg, Int.reducePow, Int.reduceLT, Int.reduceLE, Int.reduceAdd, D.scal, D.isNon, itemsOf, Pat.put, Pat.puts, Option.bind_some,
  List.map_cons, List.map_nil, List.cons_append, List.nil_append, List.append_nil, List.length_cons, List.length_nil, List.replicate_succ, List.replicate_zero, List.getElem?_cons_zero, List.getElem?_cons_succ, List.set_cons_zero, List.set_cons_succ, Nat.reduceAdd, Nat.reduceSub, Option.map_some, Option.map_none, if_true, if_false, Bool.false_eq_true, reduceIte, true_and, Bool.not_true, Bool.not_false])
local macro_rules | `(tactic| walk_at "wp") => `(tactic| (walk_at "wp1"; repeat (with_reducible refine sv_go ?_; walk_at "wp1")))
local macro_rules | `(tactic| walk_at "wq") => `(tactic| (walk_at "wp"; repeat (simp only [q_n_tuple, q_n_list, q_n_bool, q_n_int, q_n_str, q_n_tl, q_n_lt, q_n_Web, q_n_Box, q_b_tuple, q_b_list, q_b_bool, q_b_int, q_b_str, q_b_tl, q_b_lt, q_b_Web, q_b_Box, q_i_tuple, q_i_list, q_i_bool, q_i_int, q_i_str, q_i_tl, q_i_lt, q_i_Web, q_i_Box, q_s_tuple, q_s_list, q_s_bool, q_s_int, q_s_str, q_s_tl, q_s_lt, q_s_Web, q_s_Box, q_t_tuple, q_t_list, q_t_bool, q_t_int, q_t_str, q_t_tl, q_t_lt, q_t_Web, q_t_Box, q_l_tuple, q_l_list, q_l_bool, q_l_int, q_l_str, q_l_tl, q_l_lt, q_l_Web, q_l_Box, q_Web_Web, q_Web_Box, q_Web_lt, q_Box_Web, q_Box_Box, q_Box_lt, beq_self_eq_true, Bool.not_true, Bool.not_false, Bool.true_or, Bool.or_self, Bool.or_true, Bool.or_false, Bool.false_or, decide_true, decide_false]; walk_at "wp")))
theorem law_pull_wp {n : Int} {d S : D} {zs : List Int} {Q : D → List D → Prop} {X : Str → List (Str × D) → List D → Prop} (h : TieOk n d) (hz : (zs.length : Int) = n) (hS : Sq2 S (zs.map .int)) (q : Q (.int (pullI d zs)) [d, S]) : FV (f__law_pull [d, S]) Q X := by
  have ix : ∀ p : Int, 0 ≤ p → p < n → ixD S (.int p) = some (.int (gz zs p)) := fun p h0 h1 => by
    rcases hS with rfl | rfl
    · exact atI_gz h0 (by omega)
    · exact atI_gz h0 (by omega)
  unfold f__law_pull b__law_pull t__law_pull
  cases h with
  | one p s p0 p1 hs =>
    walk_at "wp"
    refine law_ends_wp (.one p s p0 p1 hs) ?_
    simp only [ends]
    walk_at "wp"
    simp only [lcL_cons, lcL_nil, wipeE, unwipe]
    walk_at "wp"
    simp only [ix p p0 p1]
    walk_at "wp"
    simp only [mulS hs]
    walk_at "wp"
    simp only [sum1]
    exact ⟨by simp, q⟩
  | two p s u t p0 p1 u0 u1 ne hs ht =>
    walk_at "wp"
    refine law_ends_wp (.two p s u t p0 p1 u0 u1 ne hs ht) ?_
    simp only [ends]
    walk_at "wp"
    simp only [lcL_cons, lcL_nil, wipeE, unwipe]
    walk_at "wp"
    simp only [ix p p0 p1, ix u u0 u1]
    walk_at "wp"
    simp only [mulS hs, mulS ht]
    walk_at "wp"
    simp only [sum2]
    exact ⟨by simp, by simp, q⟩
/-! shortages -/
def shortI (T B : List D) (ts zs : List Int) : Int := dotI zs ts - hiN T B zs T.length
theorem mul_max_pos {p a b : Int} (h : 0 < p) (hab : a ≤ b) : max (p * a) (p * b) = p * b := Int.max_eq_right (Int.mul_le_mul_of_nonneg_left hab (by omega))
theorem mul_max_neg {p a b : Int} (h : p ≤ 0) (hab : a ≤ b) : max (p * a) (p * b) = p * a := Int.max_eq_left (Int.mul_le_mul_of_nonpos_left h hab)
theorem law_short_wp {n : Int} {T B : List D} {zs ts : List Int} {Q : D → List D → Prop} {X : Str → List (Str × D) → List D → Prop} (hT : ∀ x ∈ T, TieOk n x) (hB : ∀ x ∈ B, BndOk x) (hl : B.length = T.length) (hz : (zs.length : Int) = n) (ht : (ts.length : Int) = n) (hn : n ≤ 2000) (hs : ∀ z ∈ zs, Sg z) (q : Q (.int (shortI T B ts zs)) [.lst T, .lst B, .lst (ts.map .int), .tup (zs.map .int)]) : FV (f__law_short [.lst T, .lst B, .lst (ts.map .int), .tup (zs.map .int)]) Q X := by
  unfold f__law_short b__law_short t__law_short
  walk_at "wp"
  simp only [zip2L_tl]
  walk_at "wp"
  refine lcL_wp (fun i acc e => ∃ (y1 y2 : Option D), acc = ((List.zipWith (· * ·) zs ts).take i).map .int ∧ e = [some (.lst T), some (.lst B), some (.lst (ts.map .int)), some (.tup (zs.map .int)), none, none, none, none, y1, y2]) 0 ⟨_, _, rfl, rfl⟩ (by simp) ?_ ?_ ?_
  · rw [zip_len (by simp; omega)]; simp; omega
  · rintro i x acc e hx ⟨y1, y2, rfl, rfl⟩
    obtain ⟨z, t, e1, e2, rfl⟩ := zip_get hx
    rw [List.getElem?_map] at e1 e2
    obtain ⟨z, e8, rfl⟩ := Option.map_eq_some_iff.mp e1
    obtain ⟨t, e9, rfl⟩ := Option.map_eq_some_iff.mp e2
    simp only [wipeE]
    walk_at "wp"
    have eM : mulD (.int z) (.int t) = some (.int (z * t)) := by
      have : z = -1 ∨ z = 0 ∨ z = 1 := hs z (List.mem_of_getElem? e8)
      exact mulD_l (by omega) (by omega)
    simp only [eM]
    walk_at "wp"
    rw [Nat.zero_add]
    exact ⟨_, _, dot_take e8 e9, rfl⟩
  · rintro acc e ⟨y1, y2, rfl, rfl⟩
    have el : (zip2D (zs.map D.int) (ts.map D.int)).length = (List.zipWith (· * ·) zs ts).length := by simp [zip2D]
    rw [Nat.zero_add, el, List.take_length]
    simp only [unwipe, sumD_map]
    walk_at "wp"
    simp only [zip2L_ll]
    walk_at "wp"
    refine forL_wp (fun i e => ∃ (x5 x6 x7 : Option D), e = [some (.lst T), some (.lst B), some (.lst (ts.map .int)), some (.tup (zs.map .int)), some (.int (dotI zs ts - hiN T B zs i)), x5, x6, x7, none, none]) 0 ⟨_, _, _, by simp [hiN, dotI]; exact ⟨rfl, rfl, rfl⟩⟩ ?_ ?_
    · rintro i x e hx ⟨x5, x6, x7, rfl⟩
      obtain ⟨t, b, e1, e2, rfl⟩ := zip_get hx
      have hb := hB b (List.mem_of_getElem? e2)
      have ht := hT t (List.mem_of_getElem? e1)
      have e3 : pl T zs i = pullI t zs := by unfold pl; rw [e1]
      have ps := pull_small ht hs
      cases hb with
      | mk a b hab =>
        have eb := bnd_get e2
        have eM : ∀ x : Int, mulD (.int (pullI t zs)) (.int x) = some (.int (pullI t zs * x)) := fun x => mulD_l (by omega) (by omega)
        walk_at "wp"
        refine law_pull_wp ht hz (.inr rfl) ?_
        walk_at "wp"
        refine ite_one (fun c => ?_) fun c => ?_
        · walk_at "wp"
          simp only [eM]
          walk_at "wp"
          have : dotI zs ts - hiN T B zs (0 + i) - pullI t zs * b = dotI zs ts - hiN T B zs (0 + i + 1) := by
            rw [Nat.zero_add, hiN, e3, eb.1, eb.2, mul_max_pos c hab]; omega
          rw [this]
          exact ⟨_, _, _, rfl⟩
        · walk_at "wp"
          simp only [eM]
          walk_at "wp"
          have : dotI zs ts - hiN T B zs (0 + i) - pullI t zs * a = dotI zs ts - hiN T B zs (0 + i + 1) := by
            rw [Nat.zero_add, hiN, e3, eb.1, eb.2, mul_max_neg (by omega) hab]; omega
          rw [this]
          exact ⟨_, _, _, rfl⟩
    · rintro e ⟨x5, x6, x7, rfl⟩
      rw [zip_len hl.symm, Nat.zero_add]
      walk_at "wp"
      exact q
theorem most_of_wp {p a b : Int} {Q : D → List D → Prop} {X : Str → List (Str × D) → List D → Prop} (h1 : -2 ≤ p) (h2 : p ≤ 2) (q : Q (.int (max (p * a) (p * b))) [.int p, .tup [.int a, .int b]]) : FV (f_most_of [.int p, .tup [.int a, .int b]]) Q X := by
  have eM : ∀ x : Int, mulD (.int p) (.int x) = some (.int (p * x)) := fun x => mulD_l (by omega) (by omega)
  unfold f_most_of b_most_of t_most_of
  walk_at "wp"
  simp only [eM]
  walk_at "wp"
  exact q
def hisN (T B : List D) (zs : List Int) (i : Nat) : List Int := (List.range i).map fun j => max (pl T zs j * ba B j) (pl T zs j * bb B j)
theorem hisN_sum {T B : List D} {zs : List Int} : ∀ i, (hisN T B zs i).sum = hiN T B zs i
  | 0 => rfl
  | i + 1 => by
    have := hisN_sum (T := T) (B := B) (zs := zs) i
    unfold hisN at this ⊢
    rw [List.range_succ, List.map_append, List.sum_append, this]
    simp [hiN]
theorem shortage_of_wp {n : Int} {T B : List D} {zs ts : List Int} {Q : D → List D → Prop} {X : Str → List (Str × D) → List D → Prop} (hT : ∀ x ∈ T, TieOk n x) (hB : ∀ x ∈ B, BndOk x) (hl : B.length = T.length) (hl2 : T.length ≤ 3000) (hz : (zs.length : Int) = n) (ht : (ts.length : Int) = n) (hn : n ≤ 2000) (hs : ∀ z ∈ zs, Sg z) (q : Q (.int (shortI T B ts zs)) [webD n T, boxD B (ts.map .int), .tup (zs.map .int)]) : FV (f_shortage_of [webD n T, boxD B (ts.map .int), .tup (zs.map .int)]) Q X := by
  unfold f_shortage_of b_shortage_of t_shortage_of
  walk_at "wp"
  simp only [fld_ties, fld_bounds]
  walk_at "wp"
  simp only [zip2L_tt]
  walk_at "wp"
  refine lcL_wp (fun i acc e => ∃ (y4 y5 : Option D), acc = (hisN T B zs i).map .int ∧ e = [some (webD n T), some (boxD B (ts.map .int)), some (.tup (zs.map .int)), none, y4, y5]) 0 ⟨_, _, rfl, rfl⟩ (by simp) (by rw [zip_len (by omega)]; omega) ?_ ?_
  · rintro i x acc e hx ⟨y4, y5, rfl, rfl⟩
    obtain ⟨t, b, e1, e2, rfl⟩ := zip_get hx
    have hb := hB b (List.mem_of_getElem? e2)
    have ht := hT t (List.mem_of_getElem? e1)
    have e3 : pl T zs i = pullI t zs := by unfold pl; rw [e1]
    have ps := pull_small ht hs
    simp only [wipeE]
    cases hb with
    | mk a b hab =>
      have eb := bnd_get e2
      walk_at "wp"
      refine pull_at_wp ht hz (.inr rfl) ?_
      walk_at "wp"
      refine most_of_wp ps.1 ps.2 ?_
      walk_at "wp"
      refine ⟨_, _, ?_, rfl⟩
      rw [Nat.zero_add]
      unfold hisN
      rw [List.range_succ, List.map_append, List.map_append]
      simp only [List.map_cons, List.map_nil, e3, eb.1, eb.2]
  · rintro acc e ⟨y4, y5, rfl, rfl⟩
    rw [zip_len (by omega), Nat.zero_add]
    simp only [unwipe]
    walk_at "wp"
    simp only [fld_totals]
    walk_at "wp"
    refine signed_total_wp hz ht hn hs ?_
    walk_at "wp"
    simp only [sumD_map, hisN_sum]
    walk_at "wp"
    exact q
def Shown (n : Int) (T B : List D) (ts : List Int) (ds : List D) : Prop := ∃ zs : List Int, ds = zs.map .int ∧ (zs.length : Int) = n ∧ (∀ z ∈ zs, Sg z) ∧ 0 < shortI T B ts zs
structure Ok (n : Int) (T B : List D) (ts : List Int) : Prop where
  n0 : 1 ≤ n
  n1 : n ≤ 1000
  hT : ∀ x ∈ T, TieOk n x
  hl : T.length ≤ 3000
  hB : ∀ x ∈ B, BndOk x
  hBl : B.length = T.length
  ht : (ts.length : Int) = n
structure Vl (ds : List D) : Prop where
  el : ∀ d ∈ ds, El d
  len : ds.length ≤ 5000
theorem signs_show_wp {n : Int} {T B : List D} {ts : List Int} {ds : List D} {Q : D → List D → Prop} {X : Str → List (Str × D) → List D → Prop} (O : Ok n T B ts) (V : Vl ds) (q : ∀ b : Bool, (b = true ↔ Shown n T B ts ds) → Q (.bl b) [webD n T, boxD B (ts.map .int), .tup ds]) : FV (f_signs_show [webD n T, boxD B (ts.map .int), .tup ds]) Q X := by
  have n1 := O.n1
  unfold f_signs_show b_signs_show t_signs_show
  walk_at "wp"
  refine need_box_wp O.hBl (by simpa using O.ht) ?_
  walk_at "wp"
  simp only [fld_points]
  walk_at "wp"
  refine sign_row_wp V.el V.len fun b hb => ?_
  walk_at "wp"
  cases b with
  | false =>
    walk_at "wp"
    exact q false ⟨fun h => (by cases h), fun ⟨zs, h1, h2, h3, _⟩ => hb.mpr ⟨zs, h1, h2, h3⟩⟩
  | true =>
    obtain ⟨zs, rfl, hz, hs⟩ := hb.mp rfl
    walk_at "wp"
    refine shortage_of_wp O.hT O.hB O.hBl O.hl hz O.ht (by omega) hs ?_
    walk_at "wp"
    refine q _ ?_
    rw [decide_eq_true_iff]
    exact ⟨fun h => ⟨zs, rfl, hz, hs, h⟩, fun ⟨ws, h1, _, _, h⟩ => by rw [map_int_inj h1]; exact h⟩
theorem signs_showN_wp {n : Int} {T B : List D} {ts : List Int} {l : List D} {Q : D → List D → Prop} {X : Str → List (Str × D) → List D → Prop} (O : Ok n T B ts) (q : Q (.bl false) [webD n T, boxD B (ts.map .int), .lst l]) : FV (f_signs_show [webD n T, boxD B (ts.map .int), .lst l]) Q X := by
  unfold f_signs_show b_signs_show t_signs_show
  walk_at "wp"
  refine need_box_wp O.hBl (by simpa using O.ht) ?_
  walk_at "wp"
  simp only [fld_points]
  walk_at "wp"
  refine sign_rowN_wp ?_
  walk_at "wp"
  exact q
theorem filling_holds_wp {n : Int} {T B : List D} {ts : List Int} {ds : List D} {Q : D → List D → Prop} {X : Str → List (Str × D) → List D → Prop} (O : Ok n T B ts) (V : Vl ds) (q : ∀ b : Bool, (b = true ↔ Fills n T B ts ds) → Q (.bl b) [webD n T, boxD B (ts.map .int), .tup ds]) : FV (f_filling_holds [webD n T, boxD B (ts.map .int), .tup ds]) Q X := by
  have n1 := O.n1
  have n0 := O.n0
  unfold f_filling_holds b_filling_holds t_filling_holds
  walk_at "wp"
  refine need_box_wp O.hBl (by simpa using O.ht) ?_
  walk_at "wp"
  refine fills_wp (by omega) (by omega) O.hT O.hl O.hB O.hBl O.ht V.el V.len fun b hb => ?_
  walk_at "wp"
  exact q b hb
theorem filling_holdsN_wp {n : Int} {T B : List D} {ts : List Int} {l : List D} {Q : D → List D → Prop} {X : Str → List (Str × D) → List D → Prop} (O : Ok n T B ts) (q : Q (.bl false) [webD n T, boxD B (ts.map .int), .lst l]) : FV (f_filling_holds [webD n T, boxD B (ts.map .int), .lst l]) Q X := by
  unfold f_filling_holds b_filling_holds t_filling_holds
  walk_at "wp"
  refine need_box_wp O.hBl (by simpa using O.ht) ?_
  walk_at "wp"
  refine fillsN_wp ?_
  walk_at "wp"
  exact q
end K26

set_option Elab.async false
set_option linter.all false
set_option maxRecDepth 100000
set_option maxHeartbeats 1000000
namespace K26
open PySem PySem.Spec PyProof.Rows L2 PT
local macro_rules | `(tactic| walk_at "wp1") => `(tactic| try simp only [fv_run, EV_ok, EV_bind, EV_lift, AV_ok, ev_var, ev_c, ev_bin, ev_un, ev_and, ev_or, ev_not, ev_if, ev_tup, ev_lst, ev_fn, av_nil, av_cons, av_kn, av_kd, av_ko, av_ks, ev_call, ev_make, ev_oix, ev_sl, ev_sl3, ev_part_n, ev_part_s, ev_chain, ev_callO, ev_binO, sv_nil, sv_seq, sv_expr, sv_set, sv_ret, sv_retN, sv_if, sv_par, sv_asg, sv_app, sv_raise, sv_oset, sv_aug, sv_fldO, sv_brk, sv_cont, iv_seq, iv_range1, iv_range2, iv_range3, iv_enu, iv_zp2, iv_zp3, sv_forget, sv_for, ev_lc, TV_eq, OV_some, SV_nx, SV_rt, SV_bk, SV_ct, SV_exc, has_s, has_z, atL_s, atL_z, ownI, ownB, putB, back, setE,
  addD_int, subD_int, negD_int, ltD_int, leD_int, gtD_int, geD_int, eqD_int, neD_int, eqD_bl, neD_bl, lenD_lst, lenD_tup, lenD_scr, absD_int, PT.intD_int, intD_bl, max2D_int, min2D_int, max3D_int, listD_lst, listD_tup, tupleD_lst, tupleD_tup, addI_int, subI_int, ixD_lst, ixD_tup, ixD_scr, atI0, atI1, atI2, atI3, ixN2_0, ixN2_1, cut1, mulD_l, mulD_r, modD_int, powD_int, divD_small, Int.reduceNeg, Int.reducePow, Int.reduceLT, Int.reduceLE, Int.reduceAdd, D.scal, D.isNon, itemsOf, Pat.put, Pat.puts, Option.bind_some,
  List.map_cons, List.map_nil, List.cons_append, List.nil_append, List.append_nil, List.length_cons, List.length_nil, List.replicate_succ, List.replicate_zero, List.getElem?_cons_zero, List.getElem?_cons_succ, List.set_cons_zero, List.set_cons_succ, Nat.reduceAdd, Nat.reduceSub, Option.map_some, Option.map_none, if_true, if_false, Bool.false_eq_true, reduceIte, true_and, Bool.not_true, Bool.not_false])
local macro_rules | `(tactic| walk_at "wp") => `(tactic| (walk_at "wp1"; repeat (with_reducible refine sv_go ?_; walk_at "wp1")))
local macro_rules | `(tactic| walk_at "wq") => `(tactic| (walk_at "wp"; repeat (simp only [q_n_tuple, q_n_list, q_n_bool, q_n_int, q_n_str, q_n_tl, q_n_lt, q_n_Web, q_n_Box, q_b_tuple, q_b_list, q_b_bool, q_b_int, q_b_str, q_b_tl, q_b_lt, q_b_Web, q_b_Box, q_i_tuple, q_i_list, q_i_bool, q_i_int, q_i_str, q_i_tl, q_i_lt, q_i_Web, q_i_Box, q_s_tuple, q_s_list, q_s_bool, q_s_int, q_s_str, q_s_tl, q_s_lt, q_s_Web, q_s_Box, q_t_tuple, q_t_list, q_t_bool, q_t_int, q_t_str, q_t_tl, q_t_lt, q_t_Web, q_t_Box, q_l_tuple, q_l_list, q_l_bool, q_l_int, q_l_str, q_l_tl, q_l_lt, q_l_Web, q_l_Box, q_Web_Web, q_Web_Box, q_Web_lt, q_Box_Web, q_Box_Box, q_Box_lt, beq_self_eq_true, Bool.not_true, Bool.not_false, Bool.true_or, Bool.or_self, Bool.or_true, Bool.or_false, Bool.false_or, decide_true, decide_false]; walk_at "wp")))
/-! papers -/
theorem shp_str {s : Str} (h : PyData.strOk s = true) : SeqAt.shaped (.str s) = true := shaped_of (by simp only [PyData.canLay0, h]) (by simp only [PyData.depth]; omega)
theorem eqD_strs {a b : Str} (ha : PyData.strOk a = true) (hb : PyData.strOk b = true) : eqD (.str a) (.str b) = some (.bl (a == b)) := by
  rw [eqD_of (p := .str a) (q := .str b) (by simp only [D.pd]) (by simp only [D.pd]) (shp_str ha) (shp_str hb)]
  simp only [PyData.eqv]
theorem eqD_no {x : D} {s : Str} {n : Nat} (h : Pl n x) (hn : n ≤ 60) (hs : PyData.strOk s = true) (hx : ∀ t, x ≠ .str t) : eqD x (.str s) = some (.bl false) := by
  cases x with
  | str t => exact absurd rfl (hx t)
  | obj => simp only [Pl] at h
  | ty => simp only [Pl] at h
  | glo => simp only [Pl] at h
  | scr => simp only [Pl] at h
  | non =>
    rw [eqD_of (p := .none) (q := .str s) (by simp only [D.pd]) (by simp only [D.pd]) (shaped_of (by simp only [PyData.canLay0]) (by simp only [PyData.depth]; omega)) (shp_str hs)]
    simp only [PyData.eqv]
  | bl b =>
    rw [eqD_of (p := .bool b) (q := .str s) (by simp only [D.pd]) (by simp only [D.pd]) (shaped_of (by simp only [PyData.canLay0]) (by simp only [PyData.depth]; omega)) (shp_str hs)]
    simp only [PyData.eqv]
  | int b =>
    rw [eqD_of (p := .int b) (q := .str s) (by simp only [D.pd]) (by simp only [D.pd]) (shaped_of (by simp only [PyData.canLay0]) (by simp only [PyData.depth]; omega)) (shp_str hs)]
    simp only [PyData.eqv]
  | tup ds =>
    cases n with
    | zero => simp only [Pl] at h
    | succ n =>
      obtain ⟨ps, g1, g2, g3, _⟩ := pdL_ok (fun d hd => Pl.pd (n := n) hd) ds (by simpa only [Pl] using h)
      rw [eqD_of (p := .tuple ps) (q := .str s) (by simp only [D.pd, g1, Option.map_some]) (by simp only [D.pd]) (shaped_of (by simp only [PyData.canLay0, g2]) (by simp only [PyData.depth]; omega)) (shp_str hs)]
      simp only [PyData.eqv]
  | lst ds =>
    cases n with
    | zero => simp only [Pl] at h
    | succ n =>
      obtain ⟨ps, g1, g2, g3, _⟩ := pdL_ok (fun d hd => Pl.pd (n := n) hd) ds (by simpa only [Pl] using h)
      rw [eqD_of (p := .list ps) (q := .str s) (by simp only [D.pd, g1, Option.map_some]) (by simp only [D.pd]) (shaped_of (by simp only [PyData.canLay0, g2]) (by simp only [PyData.depth]; omega)) (shp_str hs)]
      simp only [PyData.eqv]
theorem ok_F : PyData.strOk ("filling" : Str) = true := by decide +kernel
theorem ok_S : PyData.strOk ("signs" : Str) = true := by decide +kernel
theorem ok_G : PyData.strOk ("Filling" : Str) = true := by decide +kernel
def WNo (x : D) : Prop := eqD x (.str "filling") = some (.bl false) ∧ eqD x (.str "signs") = some (.bl false)
theorem no_of {x : D} {n : Nat} (h : Pl n x) (hn : n ≤ 60) (hx : ∀ t, x ≠ .str t) : WNo x := ⟨eqD_no h hn ok_F hx, eqD_no h hn ok_S hx⟩
theorem b_GF : ((("Filling" : Str)) == ("filling" : Str)) = false := by decide +kernel
theorem b_GS : ((("Filling" : Str)) == ("signs" : Str)) = false := by decide +kernel
theorem b_FF : ((("filling" : Str)) == ("filling" : Str)) = true := by decide +kernel
theorem b_SF : ((("signs" : Str)) == ("filling" : Str)) = false := by decide +kernel
theorem b_SS : ((("signs" : Str)) == ("signs" : Str)) = true := by decide +kernel
theorem no_G : WNo (.str "Filling") := ⟨(by rw [eqD_strs ok_G ok_F, b_GF]), (by rw [eqD_strs ok_G ok_S, b_GS])⟩
theorem str_no (i : Int) : WNo (.str (toString i)) := by
  have h1 : (((toString i : String) : Str) == ("filling" : Str)) = false := by
    rw [beq_eq_false_iff_ne]
    intro e
    have := int_text_free' 102 ⟨by decide, .inr (by decide)⟩ i
    rw [e] at this
    exact this (by decide +kernel)
  have h2 : (((toString i : String) : Str) == ("signs" : Str)) = false := by
    rw [beq_eq_false_iff_ne]
    intro e
    have := int_text_free' 115 ⟨by decide, .inr (by decide)⟩ i
    rw [e] at this
    exact this (by decide +kernel)
  exact ⟨by rw [eqD_strs (ofString_ok _) ok_F, h1], by rw [eqD_strs (ofString_ok _) ok_S, h2]⟩
theorem el_no {d : D} (h : El d) : WNo d := by
  have p := h.pl
  cases h with
  | str i => exact str_no i
  | _ => exact no_of p (by omega) (fun t h => by cases h)
theorem tup_no {ds : List D} (h : ∀ d ∈ ds, El d) : WNo (.tup ds) := no_of (n := 2) (by simp only [Pl]; exact fun d hd => (h d hd).pl) (by omega) (fun t h => by cases h)
theorem eq_FF : eqD (.str "filling") (.str "filling") = some (.bl true) := by rw [eqD_strs ok_F ok_F, b_FF]
theorem eq_SF : eqD (.str "signs") (.str "filling") = some (.bl false) := by rw [eqD_strs ok_S ok_F, b_SF]
theorem eq_SS : eqD (.str "signs") (.str "signs") = some (.bl true) := by rw [eqD_strs ok_S ok_S, b_SS]
theorem fhF_wp {n : Int} {T B : List D} {ts : List Int} {ds : List D} {Q : D → List D → Prop} {X : Str → List (Str × D) → List D → Prop} (O : Ok n T B ts) (V : Vl ds) (q : ∀ b : Bool, (b = true ↔ Fills n T B ts ds) → Q (.bl b) [webD n T, boxD B (ts.map .int), .tup [.str "filling", .tup ds]]) : FV (f_fill_holds [webD n T, boxD B (ts.map .int), .tup [.str "filling", .tup ds]]) Q X := by
  have n1 := O.n1
  have n0 := O.n0
  unfold f_fill_holds b_fill_holds t_fill_holds
  walk_at "wp"
  refine need_box_wp O.hBl (by simpa using O.ht) ?_
  walk_at "wp"
  refine paper_wp ?_
  walk_at "wp"
  simp only [dc22]
  walk_at "wp"
  simp only [eq_FF]
  walk_at "wp"
  refine fills_wp (by omega) (by omega) O.hT O.hl O.hB O.hBl O.ht V.el V.len fun b hb => ?_
  walk_at "wp"
  exact q b hb
theorem fhS_wp {n : Int} {T B : List D} {ts : List Int} {ds : List D} {Q : D → List D → Prop} {X : Str → List (Str × D) → List D → Prop} (O : Ok n T B ts) (V : Vl ds) (q : ∀ b : Bool, (b = true ↔ Shown n T B ts ds) → Q (.bl b) [webD n T, boxD B (ts.map .int), .tup [.str "signs", .tup ds]]) : FV (f_fill_holds [webD n T, boxD B (ts.map .int), .tup [.str "signs", .tup ds]]) Q X := by
  unfold f_fill_holds b_fill_holds t_fill_holds
  walk_at "wp"
  refine need_box_wp O.hBl (by simpa using O.ht) ?_
  walk_at "wp"
  refine paper_wp ?_
  walk_at "wp"
  simp only [dc22]
  walk_at "wp"
  simp only [eq_SF]
  walk_at "wp"
  simp only [eq_SS]
  walk_at "wp"
  refine signs_show_wp O V fun b hb => ?_
  walk_at "wp"
  exact q b hb
inductive FNo : D → Prop
  | lst (l : List D) : FNo (.lst l)
  | str (s : Str) : FNo (.str s)
  | len (l : List D) : l.length ≠ 2 → FNo (.tup l)
  | fil (l : List D) : FNo (.tup [.str "filling", .lst l])
  | sig (l : List D) : FNo (.tup [.str "signs", .lst l])
  | no (a b : D) : WNo a → FNo (.tup [a, b])
theorem fhN_wp {n : Int} {T B : List D} {ts : List Int} {x : D} {Q : D → List D → Prop} {X : Str → List (Str × D) → List D → Prop} (O : Ok n T B ts) (h : FNo x) (q : Q (.bl false) [webD n T, boxD B (ts.map .int), x]) : FV (f_fill_holds [webD n T, boxD B (ts.map .int), x]) Q X := by
  unfold f_fill_holds b_fill_holds t_fill_holds
  walk_at "wp"
  refine need_box_wp O.hBl (by simpa using O.ht) ?_
  walk_at "wp"
  cases h with
  | lst l =>
    refine paperN_wp (.inl ⟨_, rfl⟩) ?_
    walk_at "wp"
    exact q
  | str s =>
    refine paperN_wp (.inr ⟨_, rfl⟩) ?_
    walk_at "wp"
    exact q
  | len l hl =>
    refine paper_wp ?_
    walk_at "wp"
    simp only [decide_eq_false (show ¬ (l.length : Int) = 2 by omega)]
    walk_at "wp"
    exact q
  | fil l =>
    refine paper_wp ?_
    walk_at "wp"
    simp only [dc22]
    walk_at "wp"
    simp only [eq_FF]
    walk_at "wp"
    refine fillsN_wp ?_
    walk_at "wp"
    exact q
  | sig l =>
    refine paper_wp ?_
    walk_at "wp"
    simp only [dc22]
    walk_at "wp"
    simp only [eq_SF]
    walk_at "wp"
    simp only [eq_SS]
    walk_at "wp"
    refine signs_showN_wp O ?_
    walk_at "wp"
    exact q
  | no a b hw =>
    refine paper_wp ?_
    walk_at "wp"
    simp only [dc22]
    walk_at "wp"
    simp only [hw.1]
    walk_at "wp"
    simp only [hw.2]
    walk_at "wp"
    exact q
theorem law_is_wp {b : Bool} {Q : D → List D → Prop} {X : Str → List (Str × D) → List D → Prop} (q : Q (.bl true) [.bl b, .bl b]) : FV (f__law_is 2 [.bl b, .bl b]) Q X := by
  show FV (runF t__law_is 4 (b__law_is (f__law_is 1)) [.bl b, .bl b]) Q X
  unfold b__law_is t__law_is
  have e1 : ∀ c : Bool, isND (.bl c) .non = some (.bl false) := fun c => rfl
  cases b
  all_goals
    walk_at "wq"
    try simp only [e1, isBD_bl]
    walk_at "wq"
    try simp only [e1, isBD_bl]
    walk_at "wq"
    try simp only [e1, isBD_bl]
    walk_at "wq"
    try simp only [e1, isBD_bl]
    walk_at "wq"
    try simp only [e1, isBD_bl]
    walk_at "wq"
    try simp only [e1, isBD_bl]
    walk_at "wq"
    exact q
theorem isB_ff : isBD (.bl false) (.bl false) = some (.bl true) := rfl
theorem asked_wp {d : D} {n : Int} {T B : List D} {ts : List Int} {ds : List D} {Q : D → List D → Prop} {X : Str → List (Str × D) → List D → Prop} (hb : Bx d) (O : Ok n T B ts) (V : Vl ds) (hTT : T.map told = T) (q : ∀ d', Bx d' → Q (.bl true) [d', .int n, .lst T, .lst B, .lst (ts.map .int), .tup ds]) : FV (f__law_asked [d, .int n, .lst T, .lst B, .lst (ts.map .int), .tup ds]) Q X := by
  have n1 := O.n1
  have n0 := O.n0
  have hl := O.hl
  have hBl := O.hBl
  have vl := V.len
  unfold f__law_asked b__law_asked t__law_asked
  walk_at "wp"
  refine Web_wp n0 n1 O.hT hl (.inr rfl) ?_
  rw [hTT]
  walk_at "wp"
  refine Box_wp hBl O.hB O.ht (by omega) (by omega) ?_
  walk_at "wp"
  refine law_fills_wp (by omega) (by omega) O.hT hl O.hB hBl O.ht V.el V.len fun b1 hb1 => ?_
  walk_at "wp"
  refine are_signs_wp V.el V.len fun b hbs => ?_
  walk_at "wp"
  cases b with
  | false =>
    walk_at "wp"
    have hb2 : false = true ↔ Shown n T B ts ds := ⟨fun h => (by cases h), fun ⟨zs, h1, h2, h3, _⟩ => hbs.mpr ⟨zs, h1, h2, h3⟩⟩
    refine filling_holds_wp O V fun c1 hc1 => ?_
    walk_at "wp"
    obtain rfl : c1 = b1 := Bool.eq_iff_iff.mpr (hc1.trans hb1.symm)
    refine law_is_wp ?_
    walk_at "wp"
    refine signs_show_wp O V fun c2 hc2 => ?_
    walk_at "wp"
    obtain rfl : c2 = false := Bool.eq_iff_iff.mpr (hc2.trans hb2.symm)
    refine law_is_wp ?_
    walk_at "wp"
    refine fhF_wp O V fun c3 hc3 => ?_
    walk_at "wp"
    obtain rfl : c3 = c1 := Bool.eq_iff_iff.mpr (hc3.trans hc1.symm)
    refine law_is_wp ?_
    walk_at "wp"
    refine fhS_wp O V fun c4 hc4 => ?_
    walk_at "wp"
    obtain rfl : c4 = false := Bool.eq_iff_iff.mpr (hc4.trans hb2.symm)
    refine law_is_wp ?_
    walk_at "wp"
    rw [addD_lst (by simp)]
    walk_at "wp"
    refine pick_wp hb (by simp) (by simp) fun x d' hx hb' => ?_
    have hx' : FNo x := by
      simp only [List.mem_cons, List.not_mem_nil, or_false] at hx
      rcases hx with rfl | rfl | rfl | rfl | rfl | rfl | rfl | rfl | rfl | rfl | rfl | rfl
      · exact .fil _
      · exact .lst _
      · exact .len _ (by simp)
      · exact .len _ (by simp)
      · exact .no _ _ no_G
      · exact .sig _
      · exact .lst _
      · exact .no _ _ (tup_no V.el)
      · exact .no _ _ (no_of (n := 0) (by simp only [Pl]) (by omega) fun t h => by cases h)
      · by_cases h : ds.length = 2
        · match ds, h, V with
          | [a, b], _, V => exact .no _ _ (el_no (V.el a List.mem_cons_self))
        · exact .len _ h
      · exact .no _ _ (no_of (n := 0) (by simp only [Pl]) (by omega) fun t h => by cases h)
      · exact .str _
    walk_at "wp"
    refine fhN_wp O hx' ?_
    walk_at "wp"
    simp only [isB_ff]
    walk_at "wp"
    refine filling_holdsN_wp O ?_
    walk_at "wp"
    simp only [isB_ff]
    walk_at "wp"
    exact q _ hb'
  | true =>
    obtain ⟨zs, hzs, hz, hs⟩ := hbs.mp rfl
    walk_at "wp"
    have sh : ∀ {Q : D → List D → Prop} {X : Str → List (Str × D) → List D → Prop}, Q (.int (shortI T B ts zs)) [.lst T, .lst B, .lst (ts.map .int), .tup ds] → FV (f__law_short [.lst T, .lst B, .lst (ts.map .int), .tup ds]) Q X := fun {Q X} h => by
      subst hzs
      exact law_short_wp O.hT O.hB hBl hz O.ht (by omega) hs h
    refine sh ?_
    walk_at "wp"
    have hb2 : decide (0 < shortI T B ts zs) = true ↔ Shown n T B ts ds := by
      rw [decide_eq_true_iff]
      exact ⟨fun h => ⟨zs, hzs, hz, hs, h⟩, fun ⟨ws, h1, _, _, h⟩ => by rw [map_int_inj (hzs.symm.trans h1)]; exact h⟩
    generalize decide (0 < shortI T B ts zs) = b2 at hb2
    walk_at "wp"
    refine filling_holds_wp O V fun c1 hc1 => ?_
    walk_at "wp"
    obtain rfl : c1 = b1 := Bool.eq_iff_iff.mpr (hc1.trans hb1.symm)
    refine law_is_wp ?_
    walk_at "wp"
    refine signs_show_wp O V fun c2 hc2 => ?_
    walk_at "wp"
    obtain rfl : c2 = b2 := Bool.eq_iff_iff.mpr (hc2.trans hb2.symm)
    refine law_is_wp ?_
    walk_at "wp"
    refine fhF_wp O V fun c3 hc3 => ?_
    walk_at "wp"
    obtain rfl : c3 = c1 := Bool.eq_iff_iff.mpr (hc3.trans hc1.symm)
    refine law_is_wp ?_
    walk_at "wp"
    refine fhS_wp O V fun c4 hc4 => ?_
    walk_at "wp"
    obtain rfl : c4 = c2 := Bool.eq_iff_iff.mpr (hc4.trans hc2.symm)
    refine law_is_wp ?_
    walk_at "wp"
    rw [addD_lst (by simp)]
    walk_at "wp"
    refine pick_wp hb (by simp) (by simp) fun x d' hx hb' => ?_
    have hx' : FNo x := by
      simp only [List.mem_cons, List.not_mem_nil, or_false] at hx
      rcases hx with rfl | rfl | rfl | rfl | rfl | rfl | rfl | rfl | rfl | rfl | rfl | rfl
      · exact .fil _
      · exact .lst _
      · exact .len _ (by simp)
      · exact .len _ (by simp)
      · exact .no _ _ no_G
      · exact .sig _
      · exact .lst _
      · exact .no _ _ (tup_no V.el)
      · exact .no _ _ (no_of (n := 0) (by simp only [Pl]) (by omega) fun t h => by cases h)
      · by_cases h : ds.length = 2
        · match ds, h, V with
          | [a, b], _, V => exact .no _ _ (el_no (V.el a List.mem_cons_self))
        · exact .len _ h
      · exact .no _ _ (no_of (n := 0) (by simp only [Pl]) (by omega) fun t h => by cases h)
      · exact .str _
    walk_at "wp"
    refine fhN_wp O hx' ?_
    walk_at "wp"
    simp only [isB_ff]
    walk_at "wp"
    refine filling_holdsN_wp O ?_
    walk_at "wp"
    simp only [isB_ff]
    walk_at "wp"
    exact q _ hb'
end K26

set_option Elab.async false
set_option linter.all false
set_option maxRecDepth 100000
set_option maxHeartbeats 1000000
namespace K26
open PySem PySem.Spec PyProof.Rows L2 PT
local macro_rules | `(tactic| walk_at "wp1") => `(tactic| try simp only [fv_run, EV_ok, EV_bind, EV_lift, AV_ok, ev_var, ev_c, ev_bin, ev_un, ev_and, ev_or, ev_not, ev_if, ev_tup, ev_lst, ev_fn, av_nil, av_cons, av_kn, av_kd, av_ko, av_ks, ev_call, ev_make, ev_oix, ev_sl, ev_sl3, ev_part_n, ev_part_s, ev_chain, ev_callO, ev_binO, sv_nil, sv_seq, sv_expr, sv_set, sv_ret, sv_retN, sv_if, sv_par, sv_asg, sv_app, sv_raise, sv_oset, sv_aug, sv_fldO, sv_brk, sv_cont, iv_seq, iv_range1, iv_range2, iv_range3, iv_enu, iv_zp2, iv_zp3, sv_forget, sv_for, ev_lc, TV_eq, OV_some, SV_nx, SV_rt, SV_bk, SV_ct, SV_exc, has_s, has_z, atL_s, atL_z, ownI, ownB, putB, back, setE,
  addD_int, subD_int, negD_int, ltD_int, leD_int, gtD_int, geD_int, eqD_int, neD_int, eqD_bl, neD_bl, lenD_lst, lenD_tup, lenD_scr, absD_int, PT.intD_int, intD_bl, max2D_int, min2D_int, max3D_int, listD_lst, listD_tup, tupleD_lst, tupleD_tup, addI_int, subI_int, ixD_lst, ixD_tup, ixD_scr, atI0, atI1, atI2, atI3, ixN2_0, ixN2_1, cut1, mulD_l, mulD_r, modD_int, powD_int, divD_small, Int.reduceNeg, Int.reducePow, Int.reduceLT, Int.reduceLE, Int.reduceAdd, D.scal, D.isNon, itemsOf, Pat.put, Pat.puts, Option.bind_some,
  List.map_cons, List.map_nil, List.cons_append, List.nil_append, List.append_nil, List.length_cons, List.length_nil, List.replicate_succ, List.replicate_zero, List.getElem?_cons_zero, List.getElem?_cons_succ, List.set_cons_zero, List.set_cons_succ, Nat.reduceAdd, Nat.reduceSub, Option.map_some, Option.map_none, if_true, if_false, Bool.false_eq_true, reduceIte, true_and, Bool.not_true, Bool.not_false])
local macro_rules | `(tactic| walk_at "wp") => `(tactic| (walk_at "wp1"; repeat (with_reducible refine sv_go ?_; walk_at "wp1")))
local macro_rules | `(tactic| walk_at "wq") => `(tactic| (walk_at "wp"; repeat (simp only [q_n_tuple, q_n_list, q_n_bool, q_n_int, q_n_str, q_n_tl, q_n_lt, q_n_Web, q_n_Box, q_b_tuple, q_b_list, q_b_bool, q_b_int, q_b_str, q_b_tl, q_b_lt, q_b_Web, q_b_Box, q_i_tuple, q_i_list, q_i_bool, q_i_int, q_i_str, q_i_tl, q_i_lt, q_i_Web, q_i_Box, q_s_tuple, q_s_list, q_s_bool, q_s_int, q_s_str, q_s_tl, q_s_lt, q_s_Web, q_s_Box, q_t_tuple, q_t_list, q_t_bool, q_t_int, q_t_str, q_t_tl, q_t_lt, q_t_Web, q_t_Box, q_l_tuple, q_l_list, q_l_bool, q_l_int, q_l_str, q_l_tl, q_l_lt, q_l_Web, q_l_Box, q_Web_Web, q_Web_Box, q_Web_lt, q_Box_Web, q_Box_Box, q_Box_lt, beq_self_eq_true, Bool.not_true, Bool.not_false, Bool.true_or, Bool.or_self, Bool.or_true, Bool.or_false, Bool.false_or, decide_true, decide_false]; walk_at "wp")))
/-! bent rows -/
def Good (k : Nat) (x : D) : Prop := ∃ ds, x = .tup ds ∧ (∀ d ∈ ds, El d) ∧ ds.length ≤ k
theorem pick_mem {α : Type} {xs : List α} {lo hi : Option Int} {j : Int} {x : α} (h : x ∈ HT.pickG xs lo hi j) : x ∈ xs := by
  unfold HT.pickG at h
  obtain ⟨m, _, e⟩ := List.mem_filterMap.mp h
  exact List.mem_of_getElem? e
theorem pick_len {α : Type} {xs : List α} : (HT.pickG xs none none (-1)).length ≤ xs.length := by
  unfold HT.pickG
  refine Nat.le_trans (List.length_filterMap_le _ _) ?_
  rw [List.length_range]
  have e1 : Builtin.Slice.sliceAdjust none none (-1) (xs.length : Int) = ((xs.length : Int) - 1, -1) := rfl
  rw [e1]
  have e2 : Builtin.Slice.slicePlaces ((xs.length : Int) - 1) (-1) (-1) = (if (xs.length : Int) - 1 > -1 then ((xs.length : Int) - 1 - (-1) - 1) / 1 + 1 else 0).toNat := rfl
  show Builtin.Slice.slicePlaces ((xs.length : Int) - 1) (-1) (-1) ≤ _
  rw [e2]
  split
  · rw [Int.ediv_one]; omega
  · simp
theorem cut_any {L : List D} {lo hi : Option Int} : ∃ l : List D, slD (.tup L) lo hi = some (.tup l) ∧ (∀ x ∈ l, x ∈ L) ∧ l.length ≤ L.length := by
  refine ⟨_, rfl, fun x hx => ?_, ?_⟩
  · unfold cutG at hx
    exact List.mem_of_mem_drop (List.mem_of_mem_take hx)
  · unfold cutG
    rw [List.length_take, List.length_drop]; omega
theorem inD2 {z : Int} : inD (.int z) (.tup [.int 0, .int 1]) = some (.bl ((0 == z) || (1 == z))) := by
  simp [inD, itemsOf, D.flat, D.eqF]
theorem bent_wp {d : D} {zs : List Int} {Q : D → List D → Prop} {X : Str → List (Str × D) → List D → Prop} (hb : Bx d) (hl : zs.length ≤ 4000) (hz : ∀ z ∈ zs, z.natAbs.log2 < 1920) (q : ∀ (ds : List D) (d' : D), Vl ds → Bx d' → Q (.tup ds) [d', .tup (zs.map .int)]) : FV (f__law_bent [d, .tup (zs.map .int)]) Q X := by
  have hE : ∀ x ∈ zs.map D.int, El x := fun x hx => by obtain ⟨z, _, rfl⟩ := List.mem_map.mp hx; exact .int z
  have fin : ∀ (x d' : D), Good 4001 x → Bx d' → Q x [d', .tup (zs.map .int)] := fun x d' ⟨ds, h1, h2, h3⟩ hb' => by
    subst h1; exact q ds d' ⟨h2, by omega⟩ hb'
  unfold f__law_bent b__law_bent t__law_bent
  walk_at "wp"
  by_cases c : ((zs.map D.int).length : Int) = 0
  · simp only [decide_eq_true c]
    walk_at "wp"
    refine pick_wp hb (by simp) (by simp) fun x d' hx hb' => ?_
    walk_at "wp"
    refine fin x d' ?_ hb'
    simp only [List.mem_cons, List.not_mem_nil, or_false] at hx
    rcases hx with rfl | rfl | rfl
    · exact ⟨_, rfl, fun d hd => by rw [List.mem_singleton.mp hd]; exact .int 0, by simp⟩
    · exact ⟨_, rfl, fun d hd => by rw [List.mem_singleton.mp hd]; exact .non, by simp⟩
    · exact ⟨_, rfl, fun d hd => by rw [List.mem_singleton.mp hd]; exact .tup [], by simp⟩
  · simp only [decide_eq_false c]
    rw [List.length_map] at c
    walk_at "wp"
    refine take_wp hb (by simp; omega) (by simp; omega) fun k d1 k0 k1 hb1 => ?_
    rw [List.length_map] at k1
    walk_at "wp"
    have hk : k.toNat < zs.length := by omega
    have ez : L2.atI (zs.map D.int) k = some (.int zs[k.toNat]) := by
      unfold L2.atI ixN
      rw [List.length_map, if_pos k0, if_pos (by omega)]
      show (zs.map D.int)[k.toNat]? = _
      rw [List.getElem?_map, List.getElem?_eq_getElem hk]; rfl
    have hlog := hz _ (List.getElem_mem hk)
    generalize zs[k.toNat] = z at ez hlog
    have wi : ∀ {v : D} {Q : D → List D → Prop} {X : Str → List (Str × D) → List D → Prop}, El v → (∀ x, Good 4001 x → Q x [.tup (zs.map .int), .int k, v]) → FV (f__law_with [.tup (zs.map .int), .int k, v]) Q X := fun {v Q X} hv h => by
      refine with_wp (.inr rfl) k0 (by simp <;> omega) (by simp <;> omega) (h _ ⟨_, rfl, fun x hx => ?_, by simp; omega⟩)
      rcases List.mem_or_eq_of_mem_set hx with h | rfl
      · exact hE x h
      · exact hv
    rw [addD_tup (by simp; omega)]
    walk_at "wp"
    obtain ⟨l1, e1, m1, n1⟩ := cut_any (L := zs.map D.int) (lo := some 1) (hi := none)
    simp only [e1]
    walk_at "wp"
    have g0 : Good 4001 (.tup (zs.map D.int ++ [.int 0])) := ⟨_, rfl, fun x hx => by
      rcases List.mem_append.mp hx with h | h
      · exact hE x h
      · rw [List.mem_singleton.mp h]; exact .int 0, by simp; omega⟩
    have g1 : Good 4001 (.tup l1) := ⟨_, rfl, fun x hx => hE x (m1 x hx), by rw [List.length_map] at n1; omega⟩
    refine wi .non fun x2 g2 => ?_
    walk_at "wp"
    simp only [ez]
    walk_at "wp"
    simp only [strD_int hlog]
    walk_at "wp"
    refine wi (.str z) fun x3 g3 => ?_
    walk_at "wp"
    simp only [ez]
    walk_at "wp"
    refine wi (.tup [z]) fun x4 g4 => ?_
    walk_at "wp"
    refine ⟨by simp, ?_⟩
    walk_at "wp"
    simp only [ez]
    walk_at "wp"
    simp only [inD2]
    walk_at "wp"
    cases ((0 == z) || (1 == z)) with
    | true =>
      walk_at "wp"
      refine wi (.bl _) fun x5 g5 => ?_
      walk_at "wp"
      refine ⟨by simp, ?_⟩
      walk_at "wp"
      refine lcL_wp (fun i acc e => ∃ (y4 : Option D), acc.length = i ∧ (∀ x ∈ acc, Good 4001 x) ∧ e = [some d1, some (.tup (zs.map .int)), some (.int k), some (.lst [.tup (zs.map .int ++ [.int 0]), .tup l1, x2, x3, x4, x5]), y4]) 0 ⟨_, rfl, by simp, rfl⟩ (by simp) (by simp) ?_ ?_
      · rintro i x acc e hx ⟨y4, hal, hag, rfl⟩
        have hm := List.mem_of_getElem? hx
        have hm' : ∃ v : Int, x = .int v := by
          simp only [List.mem_cons, List.not_mem_nil, or_false] at hm
          rcases hm with rfl | rfl | rfl | rfl <;> exact ⟨_, rfl⟩
        obtain ⟨v, rfl⟩ := hm'
        simp only [wipeE]
        walk_at "wp"
        simp only [ez]
        walk_at "wp"
        refine wi (.int _) fun x6 g6 => ?_
        walk_at "wp"
        refine ⟨_, by rw [List.length_append, hal]; simp, fun y hy => ?_, rfl⟩
        rcases List.mem_append.mp hy with h | h
        · exact hag y h
        · rw [List.mem_singleton.mp h]; exact g6
      · rintro acc e ⟨y4, hal, hag, rfl⟩
        simp only [List.length_cons, List.length_nil] at hal
        simp only [unwipe]
        walk_at "wp"
        rw [addD_lst (by simp; omega)]
        walk_at "wp"
        have hp : slD3 (.tup (zs.map D.int)) none none (-1) = some (.tup (HT.pickG (zs.map D.int) none none (-1))) := if_pos ⟨by decide, by decide, by have := pick_len (xs := zs.map D.int); rw [List.length_map] at this; omega⟩
        have g7 : Good 4001 (.tup (HT.pickG (zs.map D.int) none none (-1))) := ⟨_, rfl, fun x hx => hE x (pick_mem hx), by have := pick_len (xs := zs.map D.int); rw [List.length_map] at this; omega⟩
        generalize HT.pickG (zs.map D.int) none none (-1) = pg at hp g7
        simp only [hp]
        walk_at "wp"
        rw [catD_ok (by simp; omega)]
        walk_at "wp"
        simp only [ez]
        walk_at "wp"
        refine wi (.int _) fun x8 g8 => ?_
        walk_at "wp"
        refine ⟨by simp; omega, ?_⟩
        walk_at "wp"
        refine pick_wp hb1 (by simp) (by simp; omega) fun x d' hx hb' => ?_
        walk_at "wp"
        refine fin x d' ?_ hb'
        simp only [List.mem_cons, List.mem_append, List.not_mem_nil, or_false] at hx
        rcases hx with rfl | rfl | rfl | rfl | rfl | rfl | (h | rfl) | rfl
        · exact g0
        · exact g1
        · exact g2
        · exact g3
        · exact g4
        · exact g5
        · exact hag _ h
        · exact g7
        · exact g8
    | false =>
      walk_at "wp"
      refine wi (.bl _) fun x5 g5 => ?_
      walk_at "wp"
      refine ⟨by simp, ?_⟩
      walk_at "wp"
      refine lcL_wp (fun i acc e => ∃ (y4 : Option D), acc.length = i ∧ (∀ x ∈ acc, Good 4001 x) ∧ e = [some d1, some (.tup (zs.map .int)), some (.int k), some (.lst [.tup (zs.map .int ++ [.int 0]), .tup l1, x2, x3, x4, x5]), y4]) 0 ⟨_, rfl, by simp, rfl⟩ (by simp) (by simp) ?_ ?_
      · rintro i x acc e hx ⟨y4, hal, hag, rfl⟩
        have hm := List.mem_of_getElem? hx
        have hm' : ∃ v : Int, x = .int v := by
          simp only [List.mem_cons, List.not_mem_nil, or_false] at hm
          rcases hm with rfl | rfl | rfl | rfl <;> exact ⟨_, rfl⟩
        obtain ⟨v, rfl⟩ := hm'
        simp only [wipeE]
        walk_at "wp"
        simp only [ez]
        walk_at "wp"
        refine wi (.int _) fun x6 g6 => ?_
        walk_at "wp"
        refine ⟨_, by rw [List.length_append, hal]; simp, fun y hy => ?_, rfl⟩
        rcases List.mem_append.mp hy with h | h
        · exact hag y h
        · rw [List.mem_singleton.mp h]; exact g6
      · rintro acc e ⟨y4, hal, hag, rfl⟩
        simp only [List.length_cons, List.length_nil] at hal
        simp only [unwipe]
        walk_at "wp"
        rw [addD_lst (by simp; omega)]
        walk_at "wp"
        have hp : slD3 (.tup (zs.map D.int)) none none (-1) = some (.tup (HT.pickG (zs.map D.int) none none (-1))) := if_pos ⟨by decide, by decide, by have := pick_len (xs := zs.map D.int); rw [List.length_map] at this; omega⟩
        have g7 : Good 4001 (.tup (HT.pickG (zs.map D.int) none none (-1))) := ⟨_, rfl, fun x hx => hE x (pick_mem hx), by have := pick_len (xs := zs.map D.int); rw [List.length_map] at this; omega⟩
        generalize HT.pickG (zs.map D.int) none none (-1) = pg at hp g7
        simp only [hp]
        walk_at "wp"
        rw [catD_ok (by simp; omega)]
        walk_at "wp"
        simp only [ez]
        walk_at "wp"
        refine wi (.int _) fun x8 g8 => ?_
        walk_at "wp"
        refine ⟨by simp; omega, ?_⟩
        walk_at "wp"
        refine pick_wp hb1 (by simp) (by simp; omega) fun x d' hx hb' => ?_
        walk_at "wp"
        refine fin x d' ?_ hb'
        simp only [List.mem_cons, List.mem_append, List.not_mem_nil, or_false] at hx
        rcases hx with rfl | rfl | rfl | rfl | rfl | rfl | (h | rfl) | rfl
        · exact g0
        · exact g1
        · exact g2
        · exact g3
        · exact g4
        · exact g5
        · exact hag _ h
        · exact g7
        · exact g8
end K26

set_option Elab.async false
set_option linter.all false
set_option maxRecDepth 100000
set_option maxHeartbeats 1000000
namespace K26
open PySem PySem.Spec PyProof.Rows L2 PT
local macro_rules | `(tactic| walk_at "wp1") => `(tactic| try simp only [fv_run, EV_ok, EV_bind, EV_lift, AV_ok, ev_var, ev_c, ev_bin, ev_un, ev_and, ev_or, ev_not, ev_if, ev_tup, ev_lst, ev_fn, av_nil, av_cons, av_kn, av_kd, av_ko, av_ks, ev_call, ev_make, ev_oix, ev_sl, ev_sl3, ev_part_n, ev_part_s, ev_chain, ev_callO, ev_binO, sv_nil, sv_seq, sv_expr, sv_set, sv_ret, sv_retN, sv_if, sv_par, sv_asg, sv_app, sv_raise, sv_oset, sv_aug, sv_fldO, sv_brk, sv_cont, iv_seq, iv_range1, iv_range2, iv_range3, iv_enu, iv_zp2, iv_zp3, sv_forget, sv_for, ev_lc, TV_eq, OV_some, SV_nx, SV_rt, SV_bk, SV_ct, SV_exc, has_s, has_z, atL_s, atL_z, ownI, ownB, putB, back, setE,
  addD_int, subD_int, negD_int, ltD_int, leD_int, gtD_int, geD_int, eqD_int, neD_int, eqD_bl, neD_bl, lenD_lst, lenD_tup, lenD_scr, absD_int, PT.intD_int, intD_bl, max2D_int, min2D_int, max3D_int, listD_lst, listD_tup, tupleD_lst, tupleD_tup, addI_int, subI_int, ixD_lst, ixD_tup, ixD_scr, atI0, atI1, atI2, atI3, ixN2_0, ixN2_1, cut1, mulD_l, mulD_r, modD_int, powD_int, divD_small, Int.reduceNeg, Int.reducePow, Int.reduceLT, Int.reduceLE, Int.reduceAdd, D.scal, D.isNon, itemsOf, Pat.put, Pat.puts, Option.bind_some,
  List.map_cons, List.map_nil, List.cons_append, List.nil_append, List.append_nil, List.length_cons, List.length_nil, List.replicate_succ, List.replicate_zero, List.getElem?_cons_zero, List.getElem?_cons_succ, List.set_cons_zero, List.set_cons_succ, Nat.reduceAdd, Nat.reduceSub, Option.map_some, Option.map_none, if_true, if_false, Bool.false_eq_true, reduceIte, true_and, Bool.not_true, Bool.not_false])
local macro_rules | `(tactic| walk_at "wp") => `(tactic| (walk_at "wp1"; repeat (with_reducible refine sv_go ?_; walk_at "wp1")))
local macro_rules | `(tactic| walk_at "wq") => `(tactic| (walk_at "wp"; repeat (simp only [q_n_tuple, q_n_list, q_n_bool, q_n_int, q_n_str, q_n_tl, q_n_lt, q_n_Web, q_n_Box, q_b_tuple, q_b_list, q_b_bool, q_b_int, q_b_str, q_b_tl, q_b_lt, q_b_Web, q_b_Box, q_i_tuple, q_i_list, q_i_bool, q_i_int, q_i_str, q_i_tl, q_i_lt, q_i_Web, q_i_Box, q_s_tuple, q_s_list, q_s_bool, q_s_int, q_s_str, q_s_tl, q_s_lt, q_s_Web, q_s_Box, q_t_tuple, q_t_list, q_t_bool, q_t_int, q_t_str, q_t_tl, q_t_lt, q_t_Web, q_t_Box, q_l_tuple, q_l_list, q_l_bool, q_l_int, q_l_str, q_l_tl, q_l_lt, q_l_Web, q_l_Box, q_Web_Web, q_Web_Box, q_Web_lt, q_Box_Web, q_Box_Box, q_Box_lt, beq_self_eq_true, Bool.not_true, Bool.not_false, Bool.true_or, Bool.or_self, Bool.or_true, Bool.or_false, Bool.false_or, decide_true, decide_false]; walk_at "wp")))
theorem repN {d : D} {n : Int} (h0 : 0 ≤ n) (h1 : n ≤ 16777216) : repD (.lst [d]) (.int n) = some (.lst (List.replicate n.toNat d)) := by
  rw [repD_ok h0 (by simp <;> omega) (by omega)]
  congr 2
  generalize n.toNat = k
  induction k with
  | zero => rfl
  | succ k ih => rw [List.replicate_succ, List.flatten_cons, ih, List.replicate_succ]; rfl
/-! parity -/
theorem gz_addAt {xs : List Int} {p v x : Int} (p0 : 0 ≤ p) (p1 : p < xs.length) (x0 : 0 ≤ x) : gz (addAt xs p v) x = gz xs x + ind p x * v := by
  unfold gz addAt ind
  rw [List.getElem?_set]
  by_cases c : p = x
  · subst c
    rw [if_pos rfl, if_pos (by omega), if_pos rfl]
    show (gz xs p + v) = _
    unfold gz
    omega
  · rw [if_neg (by omega), if_neg c]
    omega
def wN (T : List D) (hs : List Int) (x : Int) : Nat → Int
  | 0 => 0
  | i + 1 => wN T hs x i + cnt ((T[i]?).getD .non) x * gn hs i
theorem par {s z h : Int} (hs : s = 1 ∨ s = -1) (hz : (z - h) % 2 = 0) : (s * z - h) % 2 = 0 := by
  rcases hs with rfl | rfl <;> omega
theorem par_sum {n : Int} {T B : List D} {zs hs : List Int} {x : Int} (n0 : 0 ≤ n) (hT : ∀ t ∈ T, TieOk n t) (hF : ∀ j < T.length, FullAt B zs hs j) (x0 : 0 ≤ x) : ∀ i ≤ T.length, (gz (sumsN n.toNat T zs i) x - wN T hs x i) % 2 = 0
  | 0, _ => by
    have : gz (sumsN n.toNat T zs 0) x = 0 := by
      unfold gz sumsN
      cases e : (List.replicate n.toNat (0 : Int))[x.toNat]? with
      | none => rfl
      | some v => exact List.eq_of_mem_replicate (List.mem_of_getElem? e)
    rw [this]; rfl
  | i + 1, hi => by
    have ih := par_sum n0 hT hF x0 i (by omega)
    obtain ⟨a, b, z, h, e1, e2, e3, _, _, _, e4, _⟩ := hF i (by omega)
    have hiT : i < T.length := by omega
    have et : T[i]? = some T[i] := List.getElem?_eq_getElem hiT
    have ht := hT _ (List.getElem_mem hiT)
    rw [sumsN_step et e2]
    have hg : gn hs i = h := by unfold gn; rw [e3]; rfl
    have hc : wN T hs x (i + 1) = wN T hs x i + cnt T[i] x * h := by
      rw [wN, hg, et]; rfl
    rw [hc]
    have hlen : ((sumsN n.toNat T zs i).length : Int) = n := by rw [sumsN_len]; omega
    generalize sumsN n.toNat T zs i = S at hlen ih
    generalize T[i] = t at ht
    cases ht with
    | one p s p0 p1 hs' =>
      have hp := par hs' e4
      show (gz (addAt S p (s * z)) x - (wN T hs x i + ind p x * h)) % 2 = 0
      rw [gz_addAt p0 (by omega) x0]
      have : ind p x = 0 ∨ ind p x = 1 := by unfold ind; split <;> simp
      rcases this with e | e <;> rw [e] <;> omega
    | two p s u t p0 p1 u0 u1 ne hs' ht' =>
      have hp := par hs' e4
      have hq := par ht' e4
      show (gz (addAt (addAt S p (s * z)) u (t * z)) x - (wN T hs x i + (ind p x + ind u x) * h)) % 2 = 0
      rw [gz_addAt u0 (by rw [addAt_len]; omega) x0, gz_addAt p0 (by omega) x0]
      have h1 : ind p x = 0 ∨ ind p x = 1 := by unfold ind; split <;> simp
      have h2 : ind u x = 0 ∨ ind u x = 1 := by unfold ind; split <;> simp
      rcases h1 with e | e <;> rcases h2 with e' | e' <;> rw [e, e'] <;> omega
theorem wN_pre {T L : List D} {hs ks : List Int} {x : Int} (hl : hs.length = T.length) : ∀ i ≤ T.length, wN (T ++ L) (hs ++ ks) x i = wN T hs x i
  | 0, _ => rfl
  | i + 1, h => by
    rw [wN, wN, wN_pre hl i (by omega)]
    unfold gn
    rw [List.getElem?_append_left (by omega), List.getElem?_append_left (by omega)]
theorem wN_app {T L : List D} {hs ks : List Int} {x : Int} (hl : hs.length = T.length) : ∀ j, wN (T ++ L) (hs ++ ks) x (T.length + j) = wN T hs x T.length + wN L ks x j
  | 0 => by rw [Nat.add_zero, wN_pre hl _ (Nat.le_refl _)]; simp [wN]
  | j + 1 => by
    rw [← Nat.add_assoc, wN, wN, wN_app hl j]
    unfold gn
    rw [List.getElem?_append_right (by omega), List.getElem?_append_right (by omega), hl, Nat.add_sub_cancel_left]
    omega
theorem wN_rep {L : List D} {h x : Int} : ∀ j ≤ L.length, wN L (List.replicate L.length h) x j = h * cntL (L.take j) x
  | 0, _ => by simp [wN, cntL]
  | j + 1, hj => by
    have e : L[j]? = some L[j] := List.getElem?_eq_getElem (by omega)
    have e2 : gn (List.replicate L.length h) j = h := by
      unfold gn
      rw [List.getElem?_replicate, if_pos (by omega)]; rfl
    rw [wN, wN_rep j (by omega), e2, e, List.take_succ, e]
    show h * cntL (L.take j) x + cnt L[j] x * h = h * cntL (L.take j ++ [L[j]]) x
    rw [cntL_snoc, Int.mul_add, Int.mul_comm (cnt L[j] x) h]
theorem wN_ring {n : Int} {T L : List D} {hs : List Int} {h x : Int} (hl : hs.length = T.length) (hw : wN T hs x T.length % 2 = 0) (hr : RingOk n L) : wN (T ++ L) (hs ++ List.replicate L.length h) x (T ++ L).length % 2 = 0 := by
  rw [List.length_append, wN_app hl, wN_rep _ (Nat.le_refl _), List.take_length]
  have := hr.ev x
  have e : (h * cntL L x) % 2 = 0 := by rw [Int.mul_emod, this]; simp
  omega
theorem wN_rest {T L : List D} {hs : List Int} {x : Int} (hl : hs.length = T.length) (hw : wN T hs x T.length % 2 = 0) : wN (T ++ L) (hs ++ List.replicate L.length 0) x (T ++ L).length % 2 = 0 := by
  rw [List.length_append, wN_app hl, wN_rep _ (Nat.le_refl _)]
  omega
theorem cnt_told {n : Int} {d : D} {x : Int} (h : TieOk n d) : cnt (told d) x = cnt d x := by
  cases h with
  | one p s a b c => rfl
  | two p s u t p0 p1 u0 u1 ne hs ht =>
    by_cases c : u < p
    · simp only [told, if_pos c]
      show ind u x + ind p x = ind p x + ind u x
      omega
    · simp only [told, if_neg c]
theorem wN_told {n : Int} {T : List D} {hs : List Int} {x : Int} (hT : ∀ t ∈ T, TieOk n t) : ∀ i ≤ T.length, wN (T.map told) hs x i = wN T hs x i
  | 0, _ => rfl
  | i + 1, hi => by
    rw [wN, wN, wN_told hT i (by omega), List.getElem?_map]
    have e : T[i]? = some T[i] := List.getElem?_eq_getElem (by omega)
    rw [e]
    show wN T hs x i + cnt (told T[i]) x * gn hs i = _
    rw [cnt_told (hT _ (List.getElem_mem _))]; rfl
theorem told_told {n : Int} {d : D} (h : TieOk n d) : told (told d) = told d := by
  cases h with
  | one p s a b c => rfl
  | two p s u t p0 p1 u0 u1 ne hs ht =>
    by_cases c : u < p
    · simp only [told, if_pos c]
      rw [if_neg (by omega)]
    · simp only [told, if_neg c]
/-- the totals by half -/
theorem half_sums {n : Int} {T B : List D} {zs hs : List Int} (n0 : 0 ≤ n) (hT : ∀ t ∈ T, TieOk n t) (hF : ∀ j < T.length, FullAt B zs hs j) (hw : ∀ x, wN T hs x T.length % 2 = 0) : sumsN n.toNat T zs T.length = ((sumsN n.toNat T zs T.length).map (· / 2)).map (2 * ·) := by
  rw [List.map_map]
  have key : ∀ s ∈ sumsN n.toNat T zs T.length, s % 2 = 0 := fun s hs' => by
    obtain ⟨j, hj, rfl⟩ := List.mem_iff_getElem.mp hs'
    have := par_sum (x := (j : Int)) n0 hT hF (by omega) T.length (Nat.le_refl _)
    have e : gz (sumsN n.toNat T zs T.length) (j : Int) = (sumsN n.toNat T zs T.length)[j] := by
      unfold gz
      rw [Int.toNat_natCast, List.getElem?_eq_getElem hj]; rfl
    rw [e] at this
    have := hw (j : Int)
    omega
  have : ∀ l : List Int, (∀ s ∈ l, s % 2 = 0) → l = l.map ((2 * ·) ∘ (· / 2)) := by
    intro l
    induction l with
    | nil => exact fun _ => rfl
    | cons s l ih =>
      intro h
      rw [List.map_cons, ← ih fun y hy => h y (List.mem_cons_of_mem _ hy)]
      have := h s List.mem_cons_self
      congr 1
      show s = 2 * (s / 2)
      omega
  exact this _ key
theorem sv_cutk {a b : MS} {e : Ev} {P : PT.SP} (J : Ev → Prop) (h1 : SVk a e { P with N := J }) (h2 : ∀ e, J e → SVk b e P) : SVk (sSeq a b) e P := by
  unfold SVk at h1 h2 ⊢
  rw [sv_seq]
  generalize a e = r at h1
  cases r with
  | nx e1 => exact h2 e1 h1
  | rt d e1 => exact h1
  | bk e1 => exact h1
  | ct e1 => exact h1
  | exc c fs e1 => exact h1
  | bad => exact h1
end K26

set_option Elab.async false
set_option linter.all false
set_option maxRecDepth 100000
set_option maxHeartbeats 1000000
namespace K26
open PySem PySem.Spec PyProof.Rows L2 PT
local macro_rules | `(tactic| walk_at "wp1") => `(tactic| try simp only [fv_run, EV_ok, EV_bind, EV_lift, AV_ok, ev_var, ev_c, ev_bin, ev_un, ev_and, ev_or, ev_not, ev_if, ev_tup, ev_lst, ev_fn, av_nil, av_cons, av_kn, av_kd, av_ko, av_ks, ev_call, ev_make, ev_oix, ev_sl, ev_sl3, ev_part_n, ev_part_s, ev_chain, ev_callO, ev_binO, sv_nil, sv_seq, sv_expr, sv_set, sv_ret, sv_retN, sv_if, sv_par, sv_asg, sv_app, sv_raise, sv_oset, sv_aug, sv_fldO, sv_brk, sv_cont, iv_seq, iv_range1, iv_range2, iv_range3, iv_enu, iv_zp2, iv_zp3, sv_forget, sv_for, ev_lc, TV_eq, OV_some, SV_nx, SV_rt, SV_bk, SV_ct, SV_exc, has_s, has_z, atL_s, atL_z, ownI, ownB, putB, back, setE,
  addD_int, subD_int, negD_int, ltD_int, leD_int, gtD_int, geD_int, eqD_int, neD_int, eqD_bl, neD_bl, lenD_lst, lenD_tup, lenD_scr, absD_int, PT.intD_int, intD_bl, max2D_int, min2D_int, max3D_int, listD_lst, listD_tup, tupleD_lst, tupleD_tup, addI_int, subI_int, ixD_lst, ixD_tup, ixD_scr, atI0, atI1, atI2, atI3, ixN2_0, ixN2_1, cut1, mulD_l, mulD_r, modD_int, powD_int, divD_small, Int.reduceNeg, Int.reducePow, Int.reduceLT, Int.reduceLE, Int.reduceAdd, D.scal, D.isNon, itemsOf, Pat.put, Pat.puts, Option.bind_some,
  List.map_cons, List.map_nil, List.cons_append, List.nil_append, List.append_nil, List.length_cons, List.length_nil, List.replicate_succ, List.replicate_zero, List.getElem?_cons_zero, List.getElem?_cons_succ, List.set_cons_zero, List.set_cons_succ, Nat.reduceAdd, Nat.reduceSub, Option.map_some, Option.map_none, if_true, if_false, Bool.false_eq_true, reduceIte, true_and, Bool.not_true, Bool.not_false])
local macro_rules | `(tactic| walk_at "wp") => `(tactic| (walk_at "wp1"; repeat (with_reducible refine sv_go ?_; walk_at "wp1")))
local macro_rules | `(tactic| walk_at "wq") => `(tactic| (walk_at "wp"; repeat (simp only [q_n_tuple, q_n_list, q_n_bool, q_n_int, q_n_str, q_n_tl, q_n_lt, q_n_Web, q_n_Box, q_b_tuple, q_b_list, q_b_bool, q_b_int, q_b_str, q_b_tl, q_b_lt, q_b_Web, q_b_Box, q_i_tuple, q_i_list, q_i_bool, q_i_int, q_i_str, q_i_tl, q_i_lt, q_i_Web, q_i_Box, q_s_tuple, q_s_list, q_s_bool, q_s_int, q_s_str, q_s_tl, q_s_lt, q_s_Web, q_s_Box, q_t_tuple, q_t_list, q_t_bool, q_t_int, q_t_str, q_t_tl, q_t_lt, q_t_Web, q_t_Box, q_l_tuple, q_l_list, q_l_bool, q_l_int, q_l_str, q_l_tl, q_l_lt, q_l_Web, q_l_Box, q_Web_Web, q_Web_Box, q_Web_lt, q_Box_Web, q_Box_Box, q_Box_lt, beq_self_eq_true, Bool.not_true, Bool.not_false, Bool.true_or, Bool.or_self, Bool.or_true, Bool.or_false, Bool.false_or, decide_true, decide_false]; walk_at "wp")))
theorem great_ok {m : Int} (h0 : 0 < m) (h1 : m ≤ 1000000) : 0 ≤ 1000000000000000000 / m - 9 ∧ 1000000000000000000 / m - 9 ≤ 1000000000000000000 := by
  have a : 9 ≤ 1000000000000000000 / m := Int.le_ediv_of_mul_le h0 (by omega)
  have b : 1000000000000000000 / m ≤ 1000000000000000000 := Int.ediv_le_self _ (by decide)
  omega
theorem full_ok {T B : List D} {zs hs : List Int} (hB : B.length = T.length) (hF : ∀ j < T.length, FullAt B zs hs j) : ∀ x ∈ B, BndOk x := fun x hx => by
  obtain ⟨j, hj, rfl⟩ := List.mem_iff_getElem.mp hx
  obtain ⟨a, b, z, h, e1, e2, e3, hab, _⟩ := hF j (by omega)
  rw [List.getElem?_eq_getElem hj] at e1
  rw [Option.some.inj e1]
  exact .mk a b hab
theorem full_in {T B : List D} {zs hs : List Int} (hF : ∀ j < T.length, FullAt B zs hs j) : ∀ j < T.length, InB B zs j := fun j hj => by
  obtain ⟨a, b, z, h, e1, e2, e3, hab, h1, h2, _⟩ := hF j hj
  have eb := bnd_get e1
  unfold InB gn
  rw [eb.1, eb.2, e2]
  exact ⟨h1, h2⟩
theorem full_log {T B : List D} {zs hs : List Int} (hz : zs.length = T.length) (hF : ∀ j < T.length, FullAt B zs hs j) : ∀ z ∈ zs, z.natAbs.log2 < 1920 := fun z hx => by
  obtain ⟨j, hj, rfl⟩ := List.mem_iff_getElem.mp hx
  obtain ⟨a, b, z, h, e1, e2, e3, hab, _, _, _, h1, h2⟩ := hF j (by omega)
  rw [List.getElem?_eq_getElem hj] at e2
  rw [Option.some.inj e2]
  have : z.natAbs < 2 ^ 64 := by omega
  have := PySem.Flt.log2_lt_of (show 0 < 64 by decide) this
  omega
theorem sg_log {zs : List Int} (hs : ∀ z ∈ zs, Sg z) : ∀ z ∈ zs, z.natAbs.log2 < 1920 := fun z hz => by
  rcases hs z hz with rfl | rfl | rfl <;> decide
theorem vl_ints {zs : List Int} (h : zs.length ≤ 5000) : Vl (zs.map .int) := ⟨fun d hd => by obtain ⟨z, _, rfl⟩ := List.mem_map.mp hd; exact .int z, by rw [List.length_map]; exact h⟩
theorem at_int {zs : List Int} {k : Int} (h0 : 0 ≤ k) (h1 : k < zs.length) : ∃ z, z ∈ zs ∧ L2.atI (zs.map D.int) k = some (.int z) := by
  have hk : k.toNat < zs.length := by omega
  refine ⟨zs[k.toNat], List.getElem_mem hk, ?_⟩
  unfold L2.atI ixN
  rw [List.length_map, if_pos h0, if_pos (by omega)]
  show (zs.map D.int)[k.toNat]? = _
  rw [List.getElem?_map, List.getElem?_eq_getElem hk]; rfl
theorem law_wp {ns : List Int} : FV (f_law [.scr (ns.map .int)]) (fun d _ => d = .bl true) (fun _ _ _ => False) := by
  unfold f_law b_law t_law
  walk_at "wp"
  refine box_wp fun d1 hb1 => ?_
  walk_at "wp"
  refine scales_wp hb1 fun p t l d2 hs hb2 => ?_
  walk_at "wp1"
  refine sv_cutk (fun e => ∃ (d : D) (n : Int), Bx d ∧ 1 ≤ n ∧ ((n ≤ 24 ∧ 0 ≤ t ∧ t ≤ 40 ∧ 0 ≤ l ∧ l ≤ 9) ∨ (n = 150 ∧ t = 300 ∧ l = 60)) ∧ e = [some (.scr (ns.map .int)), some d, some (.int n), some (.int t), some (.int l), none, none, none, none, none, none, none, none, none, none, none, none, none, none, none, none, none, none, none, none]) ?_ ?_
  · refine sv_go ?_
    walk_at "wp"
    refine ite_one (fun c => ?_) fun c => ?_
    · walk_at "wp"
      refine take_wp hb2 (by omega) (by omega) fun r d3 r0 r1 hb3 => ?_
      walk_at "wp"
      exact ⟨_, _, hb3, by omega, .inl (by omega), rfl⟩
    · walk_at "wp"
      exact ⟨_, _, hb2, by omega, .inr (by omega), rfl⟩
  clear hs
  rintro e ⟨d3, n, hb3, n0, hs, rfl⟩
  have n1 : n ≤ 1000 := by omega
  refine sv_go ?_
  walk_at "wp1"
  refine sv_cutk (fun e => ∃ (d : D) (T : List D) (hs : List Int) (x7 : Option D), Bx d ∧ hs.length = T.length ∧ T.length ≤ 160 ∧ (∀ x ∈ T, TieOk n x) ∧ (∀ h ∈ hs, 0 ≤ h ∧ h ≤ 1) ∧ (∀ x, wN T hs x T.length % 2 = 0) ∧ e = [some (.scr (ns.map .int)), some d, some (.int n), some (.int t), some (.int l), some (.lst T), some (.lst (hs.map .int)), x7, none, none, none, none, none, none, none, none, none, none, none, none, none, none, none, none, none]) ?_ ?_
  · refine sv_go ?_
    walk_at "wp"
    refine ite_one (fun c => ?_) fun c => ?_
    · walk_at "wp"
      refine take_wp hb3 (by omega) (by omega) fun r0 d4 r00 r01 hb4 => ?_
      walk_at "wp"
      refine rings_wp hb4 n0 n1 (by omega) (by omega) fun R d5 hR hRR hb5 => ?_
      walk_at "wp"
      refine forL_wp (fun i e => ∃ (d : D) (T : List D) (hs : List Int) (x7 : Option D), Bx d ∧ hs.length = T.length ∧ T.length ≤ 8 * i ∧ (∀ x ∈ T, TieOk n x) ∧ (∀ h ∈ hs, 0 ≤ h ∧ h ≤ 1) ∧ (∀ x, wN T hs x T.length % 2 = 0) ∧ e = [some (.scr (ns.map .int)), some d, some (.int n), some (.int t), some (.int l), some (.lst T), some (.lst (hs.map .int)), x7, none, none, none, none, none, none, none, none, none, none, none, none, none, none, none, none, none]) 0 ⟨d5, [], [], _, hb5, rfl, by simp, by simp, by simp, fun x => rfl, rfl⟩ ?_ ?_
      · rintro i x e hx ⟨d, T, hs, x7, hb, hl, hT8, hT, hh, hw, rfl⟩
        have hi : i < R.length := by
          rcases Nat.lt_or_ge i R.length with h | h
          · exact h
          · rw [List.getElem?_eq_none h] at hx; cases hx
        obtain ⟨L, rfl, hL⟩ := hRR x (List.mem_of_getElem? hx)
        have hL8 := hL.len
        walk_at "wp"
        rw [addD_lst (by omega)]
        walk_at "wp"
        refine take_wp hb (by omega) (by omega) fun r d' r0 r1 hb' => ?_
        walk_at "wp"
        rw [repN (by omega) (by omega), Int.toNat_natCast]
        walk_at "wp"
        rw [addD_lst (by simp; omega)]
        walk_at "wp"
        refine ⟨d', T ++ L, hs ++ List.replicate L.length r, _, hb', by simp [hl], by simp; omega, fun y hy => ?_, fun h hh' => ?_, fun x => wN_ring hl (hw x) hL, by simp; rfl⟩
        · rcases List.mem_append.mp hy with h | h
          · exact hT y h
          · exact hL.tie y h
        · rcases List.mem_append.mp hh' with h' | h'
          · exact hh h h'
          · rw [(List.mem_replicate.mp h').2]; omega
      · rintro e ⟨d, T, hs, x7, hb, hl, hT8, hT, hh, hw, rfl⟩
        exact ⟨d, T, hs, x7, hb, hl, by omega, hT, hh, hw, rfl⟩
    · walk_at "wp"
      refine rings_wp hb3 n0 n1 (by omega) (by omega) fun R d5 hR hRR hb5 => ?_
      walk_at "wp"
      refine forL_wp (fun i e => ∃ (d : D) (T : List D) (hs : List Int) (x7 : Option D), Bx d ∧ hs.length = T.length ∧ T.length ≤ 8 * i ∧ (∀ x ∈ T, TieOk n x) ∧ (∀ h ∈ hs, 0 ≤ h ∧ h ≤ 1) ∧ (∀ x, wN T hs x T.length % 2 = 0) ∧ e = [some (.scr (ns.map .int)), some d, some (.int n), some (.int t), some (.int l), some (.lst T), some (.lst (hs.map .int)), x7, none, none, none, none, none, none, none, none, none, none, none, none, none, none, none, none, none]) 0 ⟨d5, [], [], _, hb5, rfl, by simp, by simp, by simp, fun x => rfl, rfl⟩ ?_ ?_
      · rintro i x e hx ⟨d, T, hs, x7, hb, hl, hT8, hT, hh, hw, rfl⟩
        have hi : i < R.length := by
          rcases Nat.lt_or_ge i R.length with h | h
          · exact h
          · rw [List.getElem?_eq_none h] at hx; cases hx
        obtain ⟨L, rfl, hL⟩ := hRR x (List.mem_of_getElem? hx)
        have hL8 := hL.len
        walk_at "wp"
        rw [addD_lst (by omega)]
        walk_at "wp"
        refine take_wp hb (by omega) (by omega) fun r d' r0 r1 hb' => ?_
        walk_at "wp"
        rw [repN (by omega) (by omega), Int.toNat_natCast]
        walk_at "wp"
        rw [addD_lst (by simp; omega)]
        walk_at "wp"
        refine ⟨d', T ++ L, hs ++ List.replicate L.length r, _, hb', by simp [hl], by simp; omega, fun y hy => ?_, fun h hh' => ?_, fun x => wN_ring hl (hw x) hL, by simp; rfl⟩
        · rcases List.mem_append.mp hy with h | h
          · exact hT y h
          · exact hL.tie y h
        · rcases List.mem_append.mp hh' with h' | h'
          · exact hh h h'
          · rw [(List.mem_replicate.mp h').2]; omega
      · rintro e ⟨d, T, hs, x7, hb, hl, hT8, hT, hh, hw, rfl⟩
        exact ⟨d, T, hs, x7, hb, hl, by omega, hT, hh, hw, rfl⟩
  rintro e ⟨d4, T, hs0, x7, hb4, hl, hT160, hT, hh, hw, rfl⟩
  refine sv_cutk (fun e => ∃ (d : D) (W : List D), Bx d ∧ W.length ≤ 400 ∧ (∀ x ∈ W, TieOk n x) ∧ e = [some (.scr (ns.map .int)), some d, some (.int n), some (.int t), some (.int l), some (.lst T), some (.lst (hs0.map .int)), x7, some (.lst W), none, none, none, none, none, none, none, none, none, none, none, none, none, none, none, none]) ?_ ?_
  · refine sv_go ?_
    walk_at "wp"
    have go : ∀ (d5 : D) (tt : Int), Bx d5 → 0 ≤ tt → tt ≤ 300 → ∀ {Q : D → List D → Prop} {X : Str → List (Str × D) → List D → Prop}, (∀ (d6 : D) (ll : Int), Bx d6 → 0 ≤ ll → ll ≤ 60 → Q (.int ll) [d6, .int (l + 1)]) → FV (f__law_take [d5, .int (l + 1)]) Q X := fun d5 tt hb5 h0 h1 {Q X} q => take_wp hb5 (by omega) (by omega) fun ll d6 l0 l1 hb6 => q d6 ll hb6 l0 (by omega)
    refine ite_one (fun c => ?_) fun c => ?_
    · walk_at "wp"
      refine take_wp hb4 (by omega) (by omega) fun tt d5 t0 t1 hb5 => ?_
      walk_at "wp"
      refine go d5 tt hb5 t0 (by omega) fun d6 ll hb6 l0 l1 => ?_
      walk_at "wp"
      refine web_wp hb6 n0 n1 (by omega) (by omega) l0 (by omega) fun W d7 hW hWl hb7 => ?_
      walk_at "wp"
      exact ⟨d7, W, hb7, by omega, hW, rfl⟩
    · walk_at "wp"
      refine go d4 (t - T.length) hb4 (by omega) (by omega) fun d6 ll hb6 l0 l1 => ?_
      walk_at "wp"
      refine web_wp hb6 n0 n1 (by omega) (by omega) l0 (by omega) fun W d7 hW hWl hb7 => ?_
      walk_at "wp"
      exact ⟨d7, W, hb7, by omega, hW, rfl⟩
  rintro e ⟨d5, W, hb5, hWl, hW, rfl⟩
  walk_at "wp"
  rw [addD_lst (by omega)]
  walk_at "wp"
  have hTW : ∀ x ∈ T ++ W, TieOk n x := fun y hy => by
    rcases List.mem_append.mp hy with h | h
    · exact hT y h
    · exact hW y h
  refine lcL_wp (fun i acc e => ∃ (y : Option D), acc = ((T ++ W).take i).map told ∧ e = [some (.scr (ns.map .int)), some d5, some (.int n), some (.int t), some (.int l), some (.lst T), some (.lst (hs0.map .int)), x7, some (.lst W), none, none, none, none, none, none, none, none, none, none, none, none, none, none, none, y]) 0 ⟨_, rfl, rfl⟩ (by simp) (by simp; omega) ?_ ?_
  · rintro i x acc e hx ⟨y, rfl, rfl⟩
    simp only [wipeE]
    walk_at "wp"
    refine norm_wp (hTW x (List.mem_of_getElem? hx)) ?_
    walk_at "wp"
    refine ⟨_, ?_, rfl⟩
    rw [Nat.zero_add, List.take_succ, hx]
    simp
  rintro acc e ⟨y, rfl, rfl⟩
  rw [Nat.zero_add, List.take_length]
  simp only [unwipe, List.getD_cons_succ, List.getD_cons_zero]
  walk_at "wp"
  rw [repN (by omega) (by omega), Int.toNat_natCast]
  walk_at "wp"
  rw [addD_lst (by simp; omega)]
  walk_at "wp"
  have e6 : hs0.map D.int ++ List.replicate W.length (D.int 0) = (hs0 ++ List.replicate W.length 0).map D.int := by simp
  rw [e6]
  have hNl : ((T ++ W).map told).length ≤ 560 := by simp; omega
  have hN : ∀ x ∈ (T ++ W).map told, TieOk n x := fun x hx => by
    obtain ⟨y, hy, rfl⟩ := List.mem_map.mp hx
    exact (hTW y hy).told
  have hNN : ((T ++ W).map told).map told = (T ++ W).map told := by
    rw [List.map_map]
    exact List.map_congr_left fun y hy => told_told (hTW y hy)
  have hwN : ∀ x, wN ((T ++ W).map told) (hs0 ++ List.replicate W.length 0) x ((T ++ W).map told).length % 2 = 0 := fun x => by
    rw [List.length_map, wN_told hTW _ (Nat.le_refl _)]
    exact wN_rest hl (hw x)
  have hhs : ∀ h ∈ hs0 ++ List.replicate W.length 0, 0 ≤ h ∧ h ≤ 1 := fun h hh' => by
    rcases List.mem_append.mp hh' with h' | h'
    · exact hh h h'
    · rw [(List.mem_replicate.mp h').2]; omega
  have hhl : (hs0 ++ List.replicate W.length (0 : Int)).length = ((T ++ W).map told).length := by simp [hl]
  generalize (T ++ W).map told = N at hNl hN hNN hwN hhl
  generalize hs0 ++ List.replicate W.length 0 = hs at hwN hhs hhl
  clear e6 hTW hW hWl hw hh hT hT160 hl
  simp only [pow18]
  walk_at "wp"
  have hg := great_ok (m := 20 * ((N.length : Int) + n + 1)) (by omega) (by omega)
  rw [divD_small (by omega) (by omega)]
  walk_at "wp"
  obtain ⟨g, hgd⟩ : ∃ g, g = 1000000000000000000 / (20 * ((N.length : Int) + n + 1)) - 9 := ⟨_, rfl⟩
  rw [← hgd] at hg ⊢
  clear hgd
  refine pick_wp hb5 (by simp) (by simp) fun x d6 hx hb6 => ?_
  have hx' : ∃ k : Int, x = .int k ∧ 0 ≤ k ∧ k ≤ 10 ^ 18 := by
    simp only [List.mem_cons, List.not_mem_nil, or_false] at hx
    rcases hx with rfl | rfl | rfl | rfl | rfl | rfl
    · exact ⟨_, rfl, by omega, by omega⟩
    · exact ⟨_, rfl, by omega, by omega⟩
    · exact ⟨_, rfl, by omega, by omega⟩
    · exact ⟨_, rfl, by omega, by omega⟩
    · exact ⟨_, rfl, by omega, by omega⟩
    · exact ⟨_, rfl, by omega, by omega⟩
  obtain ⟨k, rfl, k0, k1⟩ := hx'
  walk_at "wp"
  refine full_wp hb6 k0 k1 (by omega) hhl hhs fun B zs d7 hBl hzl hF hb7 => ?_
  walk_at "wp"
  have hB := full_ok hBl hF
  have hlog := full_log hzl hF
  refine law_sums_wp (by omega) (by omega) hN hzl (.inl rfl) ?_
  walk_at "wp"
  refine lcL_wp (fun i acc e => ∃ (y : Option D), acc = (((sumsN n.toNat N zs N.length).take i).map (· / 2)).map .int ∧ e = [some (.scr (ns.map .int)), some d7, some (.int n), some (.int t), some (.int l), some (.lst N), some (.lst (hs.map .int)), x7, some (.lst W), some (.int g), some (.lst B), some (.lst (zs.map .int)), none, none, none, none, none, none, none, none, none, y, none, none, none]) 0 ⟨_, rfl, rfl⟩ (by simp) (by rw [List.length_map, sumsN_len]; omega) ?_ ?_
  · rintro i x acc e hx ⟨y, rfl, rfl⟩
    rw [List.getElem?_map] at hx
    obtain ⟨s, hy, rfl⟩ := Option.map_eq_some_iff.mp hx
    simp only [wipeE]
    walk_at "wp"
    refine ⟨_, ?_, rfl⟩
    rw [Nat.zero_add, List.take_succ, hy]
    simp
  rintro acc e ⟨y, rfl, rfl⟩
  rw [Nat.zero_add, List.length_map, List.take_length]
  simp only [unwipe, List.getD_cons_succ, List.getD_cons_zero]
  have hhalf := half_sums (by omega) hN hF hwN
  have htl : (((sumsN n.toNat N zs N.length).map (· / 2)).length : Int) = n := by rw [List.length_map, sumsN_len]; omega
  generalize hts : (sumsN n.toNat N zs N.length).map (· / 2) = ts at hhalf htl
  have O : Ok n N B ts := ⟨n0, n1, hN, by omega, hB, hBl, htl⟩
  have hfill : Fills n N B ts (zs.map .int) := fills_of.mpr ⟨hzl, full_in hF, hhalf⟩
  have V : Vl (zs.map .int) := vl_ints (by omega)
  clear hhalf hts hwN hhs hhl hF
  walk_at "wp"
  refine law_fills_wp (by omega) (by omega) hN (by omega) hB hBl htl V.el V.len fun b hb => ?_
  obtain rfl : b = true := hb.mpr hfill
  clear hb
  walk_at "wp"
  refine asked_wp hb7 O V hNN fun d8 hb8 => ?_
  walk_at "wp"
  refine bent_wp hb8 (by omega) hlog fun ds d9 V2 hb9 => ?_
  walk_at "wp"
  refine asked_wp hb9 O V2 hNN fun d10 hb10 => ?_
  walk_at "wp1"
  refine sv_go ?_
  walk_at "wp1"
  refine sv_cutk (fun e => ∃ (d : D) (x14 : Option D), Bx d ∧ e = [some (.scr (ns.map .int)), some d, some (.int n), some (.int t), some (.int l), some (.lst N), some (.lst (hs.map .int)), x7, some (.lst W), some (.int g), some (.lst B), some (.lst (zs.map .int)), some (.lst (ts.map .int)), some (.tup (zs.map .int)), x14, none, none, none, none, none, none, none, none, none, none]) ?_ ?_
  · refine sv_go ?_
    walk_at "wp"
    refine ite_one (fun c => ?_) fun c => ?_
    · walk_at "wp"
      refine take_wp hb10 (by omega) (by omega) fun k d11 k0 k1 hb11 => ?_
      walk_at "wp"
      refine cut_wp hb11 k0 (by omega) (by omega) (by omega) hB fun B' d12 hBl' hB' hb12 => ?_
      walk_at "wp"
      have O' : Ok n N B' ts := ⟨n0, n1, hN, by omega, hB', by omega, htl⟩
      refine asked_wp hb12 O' V hNN fun d13 hb13 => ?_
      walk_at "wp"
      exact ⟨_, _, hb13, rfl⟩
    · walk_at "wp"
      exact ⟨_, _, hb10, rfl⟩
  rintro e ⟨d11, x14, hb11, rfl⟩
  walk_at "wp"
  refine take_wp hb11 (by omega) (by omega) fun k d12 k0 k1 hb12 => ?_
  walk_at "wp"
  obtain ⟨tk, _, etk⟩ := at_int (zs := ts) k0 (by omega)
  simp only [etk]
  walk_at "wp"
  refine sign_wp hb12 fun s1 d13 _ hb13 => ?_
  walk_at "wp"
  refine with_wp (.inl rfl) k0 (by simp <;> omega) (by simp <;> omega) ?_
  walk_at "wp"
  rw [set_map]
  have O2 : Ok n N B (ts.set k.toNat (tk + s1)) := ⟨n0, n1, hN, by omega, hB, hBl, by rw [List.length_set]; exact htl⟩
  refine asked_wp hb13 O2 V hNN fun d14 hb14 => ?_
  walk_at "wp"
  refine signs_wp hb14 n0 n1 fun ss d15 hss hsl hb15 => ?_
  walk_at "wp"
  have V3 : Vl (ss.map .int) := vl_ints (by omega)
  simp only [enumL_tup]
  walk_at "wp"
  refine lcL_wp (fun i acc e => ∃ (ps : List Int) (y22 y23 : Option D), acc = ps.map .int ∧ ps.length ≤ i ∧ (∀ p ∈ ps, 0 ≤ p ∧ p < n) ∧ e = [some (.scr (ns.map .int)), some d15, some (.int n), some (.int t), some (.int l), some (.lst N), some (.lst (hs.map .int)), x7, some (.lst W), some (.int g), some (.lst B), some (.lst (zs.map .int)), some (.lst (ts.map .int)), some (.tup (zs.map .int)), x14, some (.int k), some (.tup (ss.map .int)), none, none, none, none, none, y22, y23, none]) 0 ⟨[], _, _, rfl, by simp, by simp, rfl⟩ (by simp) (by rw [enum_len, List.length_map]; omega) ?_ ?_
  · rintro i x acc e hx ⟨ps, y22, y23, rfl, hpl, hpp, rfl⟩
    have hil : i < ss.length := by
      rcases Nat.lt_or_ge i ss.length with h | h
      · exact h
      · rw [List.getElem?_eq_none (by rw [enum_len, List.length_map]; exact h)] at hx; cases hx
    obtain ⟨y, hy, rfl⟩ := enum_get hx
    rw [List.getElem?_map] at hy
    obtain ⟨z, _, rfl⟩ := Option.map_eq_some_iff.mp hy
    simp only [wipeE]
    walk_at "wp"
    cases decide (z = 0) with
    | true =>
      walk_at "wp"
      exact ⟨ps, _, _, rfl, by omega, hpp, rfl⟩
    | false =>
      walk_at "wp"
      refine ⟨ps ++ [(i : Int)], _, _, by rw [List.map_append]; rfl, by simp; omega, fun p hp => ?_, rfl⟩
      rcases List.mem_append.mp hp with h | h
      · exact hpp p h
      · rw [List.mem_singleton.mp h]; omega
  rintro acc e ⟨ps, y22, y23, rfl, hpl, hpp, rfl⟩
  rw [enum_len, List.length_map] at hpl
  simp only [unwipe, List.getD_cons_succ, List.getD_cons_zero]
  walk_at "wp1"
  refine sv_cutk (fun e => ∃ (d : D) (ts' : List Int) (x15 x18 x19 : Option D), Bx d ∧ (ts'.length : Int) = n ∧ e = [some (.scr (ns.map .int)), some d, some (.int n), some (.int t), some (.int l), some (.lst N), some (.lst (hs.map .int)), x7, some (.lst W), some (.int g), some (.lst B), some (.lst (zs.map .int)), some (.lst (ts'.map .int)), some (.tup (zs.map .int)), x14, x15, some (.tup (ss.map .int)), some (.lst (ps.map .int)), x18, x19, none, none, none, none, none]) ?_ ?_
  · refine sv_go ?_
    walk_at "wp"
    rw [neD_nil (n := 0) (fun d hd => by obtain ⟨z, _, rfl⟩ := List.mem_map.mp hd; simp only [Pl]) (by omega)]
    walk_at "wp"
    cases hpe : (ps.map D.int).isEmpty with
    | true =>
      walk_at "wp"
      exact ⟨_, ts, _, _, _, hb15, htl, rfl⟩
    | false =>
      have hpos : 0 < (ps.map D.int).length := by
        cases ps with
        | nil => cases hpe
        | cons => simp
      walk_at "wp"
      refine pick_wp hb15 hpos (by rw [List.length_map]; omega) fun x d16 hx hb16 => ?_
      obtain ⟨p, hp, rfl⟩ := List.mem_map.mp hx
      have hpb := hpp p hp
      walk_at "wp"
      simp only [pow9]
      walk_at "wp"
      refine far_wp hb16 (by omega) fun f d17 _ _ hb17 => ?_
      walk_at "wp"
      refine pick_wp hb17 (by simp) (by simp) fun x d18 hx18 hb18 => ?_
      have hxi : ∃ v : Int, x = .int v := by
        simp only [List.mem_cons, List.not_mem_nil, or_false] at hx18
        rcases hx18 with rfl | rfl | rfl | rfl | rfl <;> exact ⟨_, rfl⟩
      obtain ⟨v, rfl⟩ := hxi
      walk_at "wp"
      obtain ⟨sp, hsp, esp⟩ := at_int (zs := ss) hpb.1 (by omega)
      simp only [esp]
      walk_at "wp"
      refine law_short_wp hN hB hBl hsl htl (by omega) hss ?_
      walk_at "wp"
      have sg : sp = -1 ∨ sp = 0 ∨ sp = 1 := hss sp hsp
      have eM : ∀ x : Int, mulD (.int sp) (.int x) = some (.int (sp * x)) := fun x => mulD_l (by omega) (by omega)
      simp only [eM]
      walk_at "wp"
      obtain ⟨tp, _, etp⟩ := at_int (zs := ts) hpb.1 (by omega)
      simp only [etp]
      walk_at "wp"
      refine with_wp (.inl rfl) hpb.1 (by simp <;> omega) (by simp <;> omega) ?_
      walk_at "wp"
      rw [set_map]
      exact ⟨_, _, _, _, _, hb18, by rw [List.length_set]; exact htl, rfl⟩
  rintro e ⟨d16, ts', x15, x18, x19, hb16, htl', rfl⟩
  have O3 : Ok n N B ts' := ⟨n0, n1, hN, by omega, hB, hBl, htl'⟩
  walk_at "wp"
  refine asked_wp hb16 O3 V3 hNN fun d17 hb17 => ?_
  walk_at "wp"
  refine lcL_wp (fun i acc e => ∃ (y23 : Option D), acc = ((ss.take i).map fun z => -z).map .int ∧ e = [some (.scr (ns.map .int)), some d17, some (.int n), some (.int t), some (.int l), some (.lst N), some (.lst (hs.map .int)), x7, some (.lst W), some (.int g), some (.lst B), some (.lst (zs.map .int)), some (.lst (ts'.map .int)), some (.tup (zs.map .int)), x14, x15, some (.tup (ss.map .int)), some (.lst (ps.map .int)), x18, x19, none, none, none, y23, none]) 0 ⟨_, rfl, rfl⟩ (by simp) (by rw [List.length_map]; omega) ?_ ?_
  · rintro i x acc e hx ⟨y23, rfl, rfl⟩
    rw [List.getElem?_map] at hx
    obtain ⟨z, hy, rfl⟩ := Option.map_eq_some_iff.mp hx
    simp only [wipeE]
    walk_at "wp"
    refine ⟨_, ?_, rfl⟩
    rw [Nat.zero_add, List.take_succ, hy]
    simp
  rintro acc e ⟨y23, rfl, rfl⟩
  rw [Nat.zero_add, List.length_map, List.take_length]
  simp only [unwipe, List.getD_cons_succ, List.getD_cons_zero]
  have V4 : Vl ((ss.map fun z => -z).map .int) := vl_ints (by rw [List.length_map]; omega)
  walk_at "wp"
  refine asked_wp hb17 O3 V4 hNN fun d18 hb18 => ?_
  walk_at "wp"
  refine bent_wp hb18 (by omega) (sg_log hss) fun ds2 d19 V5 hb19 => ?_
  walk_at "wp"
  refine asked_wp hb19 O3 V5 hNN fun d20 hb20 => ?_
  walk_at "wp"
end K26

open PySem PySem.W PyProof.Rows
theorem PySem.Challenge.cw_pushtells_k26_whole_judges_of_fillings_a_holds : PySem.Challenge.rw_pushtells_k26_whole_judges_of_fillings_a.Holds :=
  K26.holds_of fun ns _ => by
    obtain ⟨d, ys, e, rfl⟩ := PT.FV.ok (K26.law_wp (ns := ns))
    exact ⟨ys, e⟩
